import PyProof.Rows.All
import Wide.All
import OpenK.AllK
import Wide.FinOn
import HandS.ForMost
import HandS.TupAny
import HandS.TupLe
import HandS.TupMul
import HandS.IsInst
import PySem.Challenge.RW_mintlaw_k13_runs_written_otherwise
set_option Elab.async false
set_option linter.all false
set_option maxRecDepth 100000
set_option maxHeartbeats 4000000
/-! Pd: the plain side: data, the monad of results (with draws), the operations of the language on data. -/
namespace Pu
open PySem
abbrev D := PyData
/-- a result: a value, a raised error (its class's number, its field), nothing known, a draw below n -/
inductive R (α : Type) : Type where
  | ret (a : α)
  | exc (c : Nat) (x : D)
  | bad
  | pick (n : Int) (k : Int → R α)
namespace R
variable {α β γ : Type}
def bind : R α → (α → R β) → R β
  | ret a, f => f a
  | exc c x, _ => exc c x
  | bad, _ => bad
  | pick n k, f => pick n fun i => bind (k i) f
/-- every end bears it -/
def wp (Q : α → Prop) (E : Nat → D → Prop) : R α → Prop
  | ret a => Q a
  | exc c x => E c x
  | bad => False
  | pick n k => ∀ i, 0 ≤ i → i < n → wp Q E (k i)
theorem bind_assoc (r : R α) (f : α → R β) (g : β → R γ) : (r.bind f).bind g = r.bind fun a => (f a).bind g := by
  induction r with
  | ret a => rfl
  | exc c x => rfl
  | bad => rfl
  | pick n k ih => show pick n _ = pick n _; congr 1; funext i; exact ih i
theorem wp_bind {Q : β → Prop} {E : Nat → D → Prop} {f : α → R β} : ∀ {r : R α}, wp Q E (r.bind f) ↔ wp (fun a => wp Q E (f a)) E r
  | ret a => Iff.rfl
  | exc c x => Iff.rfl
  | bad => Iff.rfl
  | pick n k => by
    show (∀ i, 0 ≤ i → i < n → wp Q E ((k i).bind f)) ↔ ∀ i, 0 ≤ i → i < n → wp (fun a => wp Q E (f a)) E (k i)
    exact ⟨fun h i a b => wp_bind.mp (h i a b), fun h i a b => wp_bind.mpr (h i a b)⟩
theorem wp_mono {Q Q' : α → Prop} {E E' : Nat → D → Prop} (hq : ∀ a, Q a → Q' a) (he : ∀ c x, E c x → E' c x) : ∀ {r : R α}, wp Q E r → wp Q' E' r
  | ret a, h => hq a h
  | exc c x, h => he c x h
  | bad, h => h
  | pick n k, h => fun i a b => wp_mono hq he (h i a b)
theorem wp_ite {Q : α → Prop} {E : Nat → D → Prop} {c : Prop} [Decidable c] {r : R α} (h : wp Q E (if c then r else bad)) : c ∧ wp Q E r := by
  by_cases hc : c
  · rw [if_pos hc] at h; exact ⟨hc, h⟩
  · rw [if_neg hc] at h; exact h.elim
@[simp] theorem ret_bind (a : α) (f : α → R β) : (ret a).bind f = f a := rfl
@[simp] theorem exc_bind (c : Nat) (x : D) (f : α → R β) : (exc c x).bind f = exc c x := rfl
@[simp] theorem bad_bind (f : α → R β) : (bad : R α).bind f = bad := rfl
@[simp] theorem wp_ret (Q : α → Prop) (E : Nat → D → Prop) (a : α) : wp Q E (ret a) ↔ Q a := Iff.rfl
@[simp] theorem wp_exc (Q : α → Prop) (E : Nat → D → Prop) (c : Nat) (x : D) : wp Q E (exc c x : R α) ↔ E c x := Iff.rfl
@[simp] theorem wp_bad (Q : α → Prop) (E : Nat → D → Prop) : wp Q E (bad : R α) ↔ False := Iff.rfl
end R
open R
/-- how a block ends: it goes on with s, leaves or turns its loop with b, hands back d and what the in-out arguments hold -/
inductive Out (S B T : Type) : Type where
  | nx (s : S)
  | bk (b : B)
  | ct (b : B)
  | rt (d : D) (t : T)
section
variable {S S' B T : Type}
/-- behind a block -/
def seqR (r : R (Out S B T)) (f : S → R (Out S' B T)) : R (Out S' B T) := r.bind fun o => match o with
  | .nx s => f s
  | .bk b => ret (.bk b)
  | .ct b => ret (.ct b)
  | .rt d t => ret (.rt d t)
/-- for x in items: .. -/
def forR {α : Type} (f : α → S → R (Out S S T)) : List α → S → R (Out S B T)
  | [], s => ret (.nx s)
  | x :: xs, s => (f x s).bind fun o => match o with
    | .nx s' => forR f xs s'
    | .ct s' => forR f xs s'
    | .bk s' => ret (.nx s')
    | .rt d t => ret (.rt d t)
/-- while .., at most so many turns -/
def whileR (c : S → R Bool) (f : S → R (Out S S T)) : Nat → S → R (Out S B T)
  | 0, _ => bad
  | n + 1, s => (c s).bind fun b => if b = true then ((f s).bind fun o => match o with
    | .nx s' => whileR c f n s'
    | .ct s' => whileR c f n s'
    | .bk s' => ret (.nx s')
    | .rt d t => ret (.rt d t)) else ret (.nx s)
/-- a def's end -/
def outD : Out Unit Empty T → R D
  | .nx _ => ret .none
  | .rt d _ => ret d
def endR0 (r : R (Out Unit Empty T)) : R D := r.bind outD
end
/-! ### lists by monads -/
def mapR {α β : Type} (f : α → R β) : List α → R (List β)
  | [] => ret []
  | x :: xs => (f x).bind fun y => (mapR f xs).bind fun ys => ret (y :: ys)
/-- no error may come of it -/
def nx {α : Type} : R α → R α
  | .ret a => .ret a
  | .exc _ _ => .bad
  | .bad => .bad
  | .pick n k => .pick n fun i => nx (k i)
@[simp] theorem nx_ret {α : Type} (a : α) : nx (R.ret a) = R.ret a := rfl
theorem wp_nx {α : Type} {Q : α → Prop} {E E' : Nat → D → Prop} : ∀ {r : R α}, wp Q E (nx r) → wp Q E' r
  | .ret a, h => h
  | .exc c x, h => h.elim
  | .bad, h => h
  | .pick n k, h => fun i a b => wp_nx (h i a b)
/-- a comprehension's list: the items that pass, mapped; acc: what is made so far -/
def compR {α β : Type} (c : α → R Bool) (f : α → R β) : List α → List β → R (List β)
  | [], acc => ret acc
  | x :: xs, acc => (nx (c x)).bind fun b => if b = true then ((nx (f x)).bind fun y => if acc.length < sizeLine then compR c f xs (acc ++ [y]) else bad) else compR c f xs acc
def yesR {α : Type} (_ : α) : R Bool := ret true
/-! ### operations on data -/
def boolR : D → R Bool
  | .bool b => ret b
  | _ => bad
/-- the truth of a value -/
def truR : D → R Bool
  | .none => ret false
  | .bool b => ret b
  | .int i => ret (i != 0)
  | .str x => if x.length ≤ sizeLine then ret (x.length != 0) else bad
  | .list xs => ret (!xs.isEmpty)
  | .tuple xs => ret (!xs.isEmpty)
  | _ => bad
def addR : D → D → R D
  | .int i, .int j => ret (.int (i + j))
  | .str i, .str j => if i.length + j.length ≤ sizeLine then ret (.str (i ++ j)) else bad
  | .tuple xs, .tuple ys => if xs.length + ys.length ≤ sizeLine then ret (.tuple (xs ++ ys)) else bad
  | .list xs, .list ys => if xs.length + ys.length ≤ sizeLine then ret (.list (xs ++ ys)) else bad
  | _, _ => bad
def subR : D → D → R D
  | .int i, .int j => ret (.int (i - j))
  | _, _ => bad
def mulOk (i j : Int) : Prop := (-(2 ^ 64) < i ∧ i < 2 ^ 64) ∨ (-(2 ^ 64) < j ∧ j < 2 ^ 64)
instance (i j : Int) : Decidable (mulOk i j) := by unfold mulOk; exact inferInstance
def mulR : D → D → R D
  | .int i, .int j => if mulOk i j then ret (.int (i * j)) else bad
  | .tuple xs, .int k => if xs ≠ [] ∧ 1 ≤ k ∧ k ≤ 1000 ∧ xs.length ≤ 1000 then ret (.tuple (List.replicate k.toNat xs).flatten) else bad
  | .list xs, .int k => if -(2 ^ 63) ≤ k ∧ k < 2 ^ 63 ∧ xs.length * k.toNat ≤ sizeLine then ret (.list (List.replicate k.toNat xs).flatten) else bad
  | _, _ => bad
def fdLine : Nat := 2 ^ 200
def CDivL (_ j : Int) : Prop := j ≠ 0 ∧ j.natAbs < fdLine
instance (i j : Int) : Decidable (CDivL i j) := by unfold CDivL; exact inferInstance
def fdivR : D → D → R D
  | .int i, .int j => if CDivL i j then ret (.int (i.fdiv j)) else bad
  | _, _ => bad
def modR : D → D → R D
  | .int i, .int j => if j ≠ 0 then ret (.int (i.fmod j)) else bad
  | _, _ => bad
def powR : D → D → R D
  | .int i, .int j => if 0 ≤ j ∧ j ≤ 1000000 ∧ i.natAbs < 2 ^ 64 then ret (.int (i ^ j.toNat)) else bad
  | _, _ => bad
def negR : D → R D
  | .int i => ret (.int (-i))
  | _ => bad
def ltR : D → D → R D
  | .int i, .int j => ret (.bool (decide (i < j)))
  | _, _ => bad
def leR : D → D → R D
  | .int i, .int j => ret (.bool (decide (i ≤ j)))
  | _, _ => bad
def gtR : D → D → R D
  | .int i, .int j => ret (.bool (decide (j < i)))
  | _, _ => bad
def geR : D → D → R D
  | .int i, .int j => ret (.bool (decide (j ≤ i)))
  | _, _ => bad
def eqR (x y : D) : R D := if SeqAt.shaped x = true ∧ SeqAt.shaped y = true then ret (.bool (PyData.eqv x y)) else bad
def neR (x y : D) : R D := if SeqAt.shaped x = true ∧ SeqAt.shaped y = true then ret (.bool (!PyData.eqv x y)) else bad
def isNone : D → Bool
  | .none => true
  | _ => false
/-- x is c, c None, True or False -/
def isR (x c : D) : R D := match c with
  | .none => ret (.bool (isNone x))
  | .bool b => (match x with | .bool a => ret (.bool (decide (a = b))) | _ => bad)
  | _ => bad
def isNotR (x c : D) : R D := match c with
  | .none => ret (.bool (!isNone x))
  | .bool b => (match x with | .bool a => ret (.bool (!decide (a = b))) | _ => bad)
  | _ => bad
def notR : D → R D
  | .bool b => ret (.bool (!b))
  | _ => bad
def lenR : D → R D
  | .str x => if x.length ≤ sizeLine then ret (.int x.length) else bad
  | .list xs => ret (.int xs.length)
  | .tuple xs => ret (.int xs.length)
  | _ => bad
def optR {α : Type} : Option α → R α
  | some a => ret a
  | none => bad
def ixR : D → D → R D
  | .list xs, .int i => optR (L2.atI xs i)
  | .tuple xs, .int i => optR (L2.atI xs i)
  | .str z, .int i => if z.length ≤ sizeLine then (match L2.atI z.cps.toList i with | some c => ret (.str ⟨#[c]⟩) | none => bad) else bad
  | _, _ => bad
def cutD (xs : List D) (lo hi : Option Int) : List D := (xs.drop (HT.sIx xs.length 0 lo)).take (HT.sIx xs.length xs.length hi - HT.sIx xs.length 0 lo)
def partR : D → R (Option Int)
  | .int i => ret (some i)
  | _ => bad
def sliceR (x : D) (lo hi : Option Int) : R D := match x with
  | .list xs => ret (.list (cutD xs lo hi))
  | .tuple xs => ret (.tuple (cutD xs lo hi))
  | .str z => if z.length ≤ sizeLine then ret (.str (L2.cutS z lo hi)) else bad
  | _ => bad
def tupleR : D → R D
  | .list xs => ret (.tuple xs)
  | .tuple xs => ret (.tuple xs)
  | _ => bad
def listR : D → R D
  | .list xs => ret (.list xs)
  | .tuple xs => ret (.list xs)
  | _ => bad
def absR : D → R D
  | .int i => ret (.int (if i < 0 then -i else i))
  | _ => bad
def maxR : D → D → R D
  | .int i, .int j => ret (.int (if j > i then j else i))
  | _, _ => bad
def minR : D → D → R D
  | .int i, .int j => ret (.int (if j < i then j else i))
  | _, _ => bad
def intR : D → R D
  | .int i => ret (.int i)
  | .bool b => ret (.int (if b then 1 else 0))
  | _ => bad
def intOf : D → Option Int
  | .int i => some i
  | _ => none
def boolOf : D → Option Bool
  | .bool b => some b
  | _ => none
def allSome {α β : Type} (f : α → Option β) : List α → Option (List β)
  | [] => some []
  | x :: xs => match f x, allSome f xs with
    | some y, some ys => some (y :: ys)
    | _, _ => none
def sumR : D → R D
  | .list xs => (match allSome intOf xs with | some ns => ret (.int ns.sum) | none => bad)
  | _ => bad
def allR : D → R D
  | .list xs => (match allSome boolOf xs with | some bs => ret (.bool (bs.all id)) | none => bad)
  | _ => bad
def anyR : D → R D
  | .list xs => (match allSome boolOf xs with | some bs => ret (.bool (bs.any id)) | none => bad)
  | _ => bad
/-- what a for walks -/
def itemsR : D → R (List D)
  | .str z => ret (z.cps.toList.map fun c => PyData.str ⟨#[c]⟩)
  | .list xs => ret xs
  | .tuple xs => ret xs
  | _ => bad
def rangeL (lo : Int) (n : Nat) : List D := (List.range n).map fun (k : Nat) => PyData.int (lo + k)
def rng1R : D → R (List D)
  | .int j => if -(2 ^ 62) ≤ j ∧ j < 2 ^ 62 then ret (rangeL 0 j.toNat) else bad
  | _ => bad
def rng2R : D → D → R (List D)
  | .int i, .int j => if -(2 ^ 62) ≤ i ∧ i < 2 ^ 62 ∧ -(2 ^ 62) ≤ j ∧ j < 2 ^ 62 then ret (rangeL i (j - i).toNat) else bad
  | _, _ => bad
/-- a tuple of n items -/
def unpR (n : Nat) : D → R (List D)
  | .tuple xs => if xs.length = n then ret xs else bad
  | _ => bad
/-- the name of a value's type -/
def tyN : D → String
  | .none => "NoneType"
  | .bool _ => "bool"
  | .int _ => "int"
  | .str _ => "str"
  | .list _ => "list"
  | .tuple _ => "tuple"
  | .dict _ => "dict"
def isiR (T : String) (d : D) : R D := match L2.kitB (tyN d) T with
  | some b => ret (.bool b)
  | none => bad
/-- a draw -/
def drawR : D → R D
  | .int n => if 0 < n then pick n fun i => ret (.int i) else bad
  | _ => bad
end Pu
/-! Pu: the walk by data: what stands in the slots as plain data, expressions and blocks that compute results of Pd, over the hand layer's readings. -/
namespace Pu
open PySem PySem.Spec PyProof.Rows L2 R
/-! ### what stands at a value -/
/-- a tuple of the module -/
def KT (K : PySem.W.Frag) (a : Addr) (xs : List V) : Prop := ∃ (o : Obj) (its : Array Value) (n : Nat), K.lookup a = some o ∧ o.cls = .type "tuple" ∧ o.data = .seq its n ∧ its.size ≤ sizeLine ∧ Vals xs its.toList
/-- a tuple that stays -/
def TpS (K : PySem.W.Frag) (B : Addr → Prop) (H : Hp) (a : Addr) (xs : List V) : Prop := (Rd H a (.tup xs) ∧ ¬ B a) ∨ KT K a xs
theorem TpS.sq {K : PySem.W.Frag} {B : Addr → Prop} {H : Hp} {a : Addr} {xs : List V} (h : TpS K B H a xs) : SqT K H a xs := h.imp (·.1) id
mutual
inductive Rep (K : PySem.W.Frag) (B : Addr → Prop) (H : Hp) : V → D → Prop
  | non : Rep K B H .non .none
  | bl (b : Bool) : Rep K B H (.bl b) (.bool b)
  | int (i : Int) : Rep K B H (.int i) (.int i)
  | str (x : Str) : Rep K B H (.str x) (.str x)
  | tup {a : Addr} {vs : List V} {ds : List D} : TpS K B H a vs → Reps K B H vs ds → Rep K B H (.ref a) (.tuple ds)
  | lst {a : Addr} {vs : List V} {ds : List D} : Rd H a (.lst vs) → ¬ B a → Reps K B H vs ds → Rep K B H (.ref a) (.list ds)
inductive Reps (K : PySem.W.Frag) (B : Addr → Prop) (H : Hp) : List V → List D → Prop
  | nil : Reps K B H [] []
  | cons {v : V} {vs : List V} {d : D} {ds : List D} : Rep K B H v d → Reps K B H vs ds → Reps K B H (v :: vs) (d :: ds)
end
/-- what stays: all but the banned -/
def Stay (B : Addr → Prop) (H H' : Hp) : Prop := ∀ b o, H b = some o → ¬ B b → H' b = some o
theorem Stay.refl (B : Addr → Prop) (H : Hp) : Stay B H H := fun _ _ h _ => h
theorem TpS.stay {K : PySem.W.Frag} {B : Addr → Prop} {H H' : Hp} {a : Addr} {vs : List V} (h : TpS K B H a vs) (s : Stay B H H') : TpS K B H' a vs := by
  rcases h with ⟨h | ⟨o, h⟩, hb⟩ | h
  · exact .inl ⟨.inl (s _ _ h hb), hb⟩
  · exact .inl ⟨.inr ⟨o, s _ _ h hb⟩, hb⟩
  · exact .inr h
theorem TpS.ban {K : PySem.W.Frag} {B B' : Addr → Prop} {H : Hp} {a : Addr} {vs : List V} (h : TpS K B H a vs) (s : ∀ b, B' b → B b ∨ H b = none) : TpS K B' H a vs := by
  rcases h with ⟨h, hb⟩ | h
  · refine .inl ⟨h, fun z => ?_⟩
    rcases s _ z with z | z
    · exact hb z
    · rcases h with h | ⟨o, h⟩ <;> (rw [z] at h; cases h)
  · exact .inr h
section
variable {K : PySem.W.Frag} {B B' : Addr → Prop} {H H' : Hp}
mutual
theorem Rep.stay (s : Stay B H H') : ∀ {d : D} {v : V}, Rep K B H v d → Rep K B H' v d
  | .none, _, h => by cases h; exact .non
  | .bool b, _, h => by cases h; exact .bl b
  | .int i, _, h => by cases h; exact .int i
  | .str x, _, h => by cases h; exact .str x
  | .tuple ds, _, h => by
    cases h with
    | tup a c => exact .tup (a.stay s) (Reps.stay s c)
  | .list ds, _, h => by
    cases h with
    | lst a b c => exact .lst (a.imp (fun z => s _ _ z b) fun ⟨o, z⟩ => ⟨o, s _ _ z b⟩) b (Reps.stay s c)
  | .dict _, _, h => by cases h
theorem Reps.stay (s : Stay B H H') : ∀ {ds : List D} {vs : List V}, Reps K B H vs ds → Reps K B H' vs ds
  | [], _, h => by cases h; exact .nil
  | d :: ds, _, h => by
    cases h with
    | cons a b => exact .cons (Rep.stay s a) (Reps.stay s b)
end
mutual
theorem Rep.weak (hb : ∀ b, B' b → B b) : ∀ {d : D} {v : V}, Rep K B H v d → Rep K B' H v d
  | .none, _, h => by cases h; exact .non
  | .bool b, _, h => by cases h; exact .bl b
  | .int i, _, h => by cases h; exact .int i
  | .str x, _, h => by cases h; exact .str x
  | .tuple ds, _, h => by
    cases h with
    | tup a c => exact .tup (a.ban fun b z => .inl (hb b z)) (Reps.weak hb c)
  | .list ds, _, h => by
    cases h with
    | lst a b c => exact .lst a (fun z => b (hb _ z)) (Reps.weak hb c)
  | .dict _, _, h => by cases h
theorem Reps.weak (hb : ∀ b, B' b → B b) : ∀ {ds : List D} {vs : List V}, Reps K B H vs ds → Reps K B' H vs ds
  | [], _, h => by cases h; exact .nil
  | d :: ds, _, h => by
    cases h with
    | cons a b => exact .cons (Rep.weak hb a) (Reps.weak hb b)
end
mutual
/-- a place of which nothing was known may be banned -/
theorem Rep.ban (hb : ∀ b, B' b → B b ∨ H b = Option.none) : ∀ {d : D} {v : V}, Rep K B H v d → Rep K B' H v d
  | .none, _, h => by cases h; exact .non
  | .bool b, _, h => by cases h; exact .bl b
  | .int i, _, h => by cases h; exact .int i
  | .str x, _, h => by cases h; exact .str x
  | .tuple ds, _, h => by
    cases h with
    | tup a c => exact .tup (a.ban hb) (Reps.ban hb c)
  | .list ds, _, h => by
    cases h with
    | lst a b c =>
      refine .lst a (fun z => ?_) (Reps.ban hb c)
      rcases hb _ z with z | z
      · exact b z
      · rcases a with a | ⟨o, a⟩ <;> (rw [z] at a; cases a)
  | .dict _, _, h => by cases h
theorem Reps.ban (hb : ∀ b, B' b → B b ∨ H b = Option.none) : ∀ {ds : List D} {vs : List V}, Reps K B H vs ds → Reps K B' H vs ds
  | [], _, h => by cases h; exact .nil
  | d :: ds, _, h => by
    cases h with
    | cons a b => exact .cons (Rep.ban hb a) (Reps.ban hb b)
end
theorem Reps.length : ∀ {ds : List D} {vs : List V}, Reps K B H vs ds → vs.length = ds.length
  | [], _, h => by cases h; rfl
  | d :: ds, _, h => by
    cases h with
    | cons a b => simp [Reps.length b]
theorem Reps.get : ∀ {ds : List D} {vs : List V} {i : Nat} {d : D}, Reps K B H vs ds → ds[i]? = some d → ∃ v, vs[i]? = some v ∧ Rep K B H v d
  | [], _, _, _, h, e => by simp at e
  | x :: ds, _, 0, d, h, e => by
    cases h with
    | cons a b => simp at e; subst e; exact ⟨_, rfl, a⟩
  | x :: ds, _, i + 1, d, h, e => by
    cases h with
    | cons a b =>
      obtain ⟨v, h1, h2⟩ := Reps.get (i := i) b (by simpa using e)
      exact ⟨v, by simpa using h1, h2⟩
theorem Reps.append : ∀ {ds es : List D} {vs ws : List V}, Reps K B H vs ds → Reps K B H ws es → Reps K B H (vs ++ ws) (ds ++ es)
  | [], _, _, _, h, q => by cases h; exact q
  | x :: ds, _, _, _, h, q => by
    cases h with
    | cons a b => exact .cons a (Reps.append b q)
theorem Reps.take : ∀ {ds : List D} {vs : List V} (n : Nat), Reps K B H vs ds → Reps K B H (vs.take n) (ds.take n)
  | _, _, 0, _ => .nil
  | [], _, _ + 1, h => by cases h; exact .nil
  | x :: ds, _, n + 1, h => by
    cases h with
    | cons a b => exact .cons a (Reps.take n b)
theorem Reps.drop : ∀ {ds : List D} {vs : List V} (n : Nat), Reps K B H vs ds → Reps K B H (vs.drop n) (ds.drop n)
  | _, _, 0, h => h
  | [], _, _ + 1, h => by cases h; exact .nil
  | x :: ds, _, n + 1, h => by
    cases h with
    | cons a b => exact Reps.drop n b
theorem Reps.set : ∀ {ds : List D} {vs : List V} {v : V} {d : D} (i : Nat), Rep K B H v d → Reps K B H vs ds → Reps K B H (vs.set i v) (ds.set i d)
  | [], _, _, _, _, _, h => by cases h; exact .nil
  | x :: ds, _, _, _, 0, r, h => by
    cases h with
    | cons a b => exact .cons r b
  | x :: ds, _, _, _, i + 1, r, h => by
    cases h with
    | cons a b => exact .cons a (Reps.set i r b)
theorem Reps.rep {ds : List D} {vs : List V} (h : Reps K B H vs ds) : ∀ n : Nat, Reps K B H (List.replicate n vs).flatten (List.replicate n ds).flatten
  | 0 => .nil
  | n + 1 => by
    rw [List.replicate_succ, List.replicate_succ, List.flatten_cons, List.flatten_cons]
    exact h.append (h.rep n)
mutual
theorem Rep.dp : ∀ {d : D} {v : V}, Rep K B H v d → Dp K H v d
  | .none, _, h => by cases h; exact .non
  | .bool b, _, h => by cases h; exact .bl b
  | .int i, _, h => by cases h; exact .int i
  | .str x, _, h => by cases h; exact .str x
  | .tuple ds, _, h => by
    cases h with
    | tup a c => exact .tup a.sq (Reps.dp c)
  | .list ds, _, h => by
    cases h with
    | lst a b c => exact .lst (.inl a) (Reps.dp c)
  | .dict _, _, h => by cases h
theorem Reps.dp : ∀ {ds : List D} {vs : List V}, Reps K B H vs ds → DpAll K H vs ds
  | [], _, h => by cases h; exact .nil
  | d :: ds, _, h => by
    cases h with
    | cons a b => exact .cons (Rep.dp a) (Reps.dp b)
end
end
/-- a list of the module -/
def KL (K : PySem.W.Frag) (a : Addr) (xs : List V) : Prop := ∃ (o : Obj) (its : Array Value) (n : Nat), K.lookup a = some o ∧ o.cls = .type "list" ∧ o.dict = none ∧ o.data = .seq its n ∧ its.size ≤ sizeLine ∧ Vals xs its.toList
/-- as Rep, the outermost list may be one that is owned -/
def RepB (K : PySem.W.Frag) (B : Addr → Prop) (H : Hp) (v : V) (d : D) : Prop := Rep K B H v d ∨ ∃ a vs ds, v = .ref a ∧ d = .list ds ∧ H a = some (.lst vs) ∧ Reps K B H vs ds
section
variable {K : PySem.W.Frag} {B : Addr → Prop} {H : Hp} {v : V} {d : D} {ds : List D}
theorem RepB.dp (h : RepB K B H v d) : Dp K H v d := by
  rcases h with h | ⟨a, vs, ds, rfl, rfl, e, r⟩
  · exact h.dp
  · exact .lst (.inl (.inl e)) r.dp
theorem RepB.list (h : RepB K B H v (.list ds)) : ∃ a vs, v = .ref a ∧ Rd H a (.lst vs) ∧ Reps K B H vs ds := by
  rcases h with h | ⟨a, vs, ds', rfl, e, h, r⟩
  · cases h with
    | lst a b c => exact ⟨_, _, rfl, a, c⟩
  · cases e; exact ⟨a, vs, rfl, .inl h, r⟩
theorem RepB.tuple (h : RepB K B H v (.tuple ds)) : ∃ a vs, v = .ref a ∧ TpS K B H a vs ∧ Reps K B H vs ds := by
  rcases h with h | ⟨a, vs, ds', rfl, e, h, r⟩
  · cases h with
    | tup a c => exact ⟨_, _, rfl, a, c⟩
  · cases e
theorem Rep.tuple (h : Rep K B H v (.tuple ds)) : ∃ a vs, v = .ref a ∧ TpS K B H a vs ∧ Reps K B H vs ds := RepB.tuple (.inl h)
theorem RepB.int {i : Int} (h : RepB K B H v (.int i)) : v = .int i := by
  rcases h with h | ⟨a, vs, ds', rfl, e, h, r⟩
  · cases h; rfl
  · cases e
theorem RepB.str {i : Str} (h : RepB K B H v (.str i)) : v = .str i := by
  rcases h with h | ⟨a, vs, ds', rfl, e, h, r⟩
  · cases h; rfl
  · cases e
theorem RepB.bool {i : Bool} (h : RepB K B H v (.bool i)) : v = .bl i := by
  rcases h with h | ⟨a, vs, ds', rfl, e, h, r⟩
  · cases h; rfl
  · cases e
theorem RepB.non (h : RepB K B H v .none) : v = .non := by
  rcases h with h | ⟨a, vs, ds', rfl, e, h, r⟩
  · cases h; rfl
  · cases e
theorem RepB.nodict {kvs : List (D × D)} (h : RepB K B H v (.dict kvs)) : False := by
  rcases h with h | ⟨a, vs, ds', rfl, e, h, r⟩
  · cases h
  · cases e
end
/-! ### the draws' dict -/
def DrAt (H : Hp) (a l : Addr) : Prop := ∃ (n : Int) (rows : List Int), 0 ≤ n ∧ H a = some (.dK [(Sum.inr "at", V.int n), (Sum.inr "row", V.ref l)]) ∧ Rd H l (.lst (rows.map V.int)) ∧ rows ≠ [] ∧ rows.length ≤ 1000
theorem rd_imp {H H' : Hp} {a : Addr} {u : HO} (h : Rd H a u) (f : ∀ x, H a = some x → H' a = some x) : Rd H' a u := h.imp (f _) fun ⟨o, z⟩ => ⟨o, f _ z⟩
/-- the heap grows; the draws may have turned -/
structure Grow (dr : Option Addr) (H H' : Hp) : Prop where
  keep : ∀ b o, H b = some o → dr ≠ some b → H' b = some o
  draw : ∀ a l, dr = some a → DrAt H a l → DrAt H' a l
theorem Grow.refl (dr : Option Addr) (H : Hp) : Grow dr H H := ⟨fun _ _ h _ => h, fun _ _ _ h => h⟩
theorem Grow.trans {dr : Option Addr} {H H1 H2 : Hp} (a : Grow dr H H1) (b : Grow dr H1 H2) : Grow dr H H2 := ⟨fun c o h n => b.keep c o (a.keep c o h n) n, fun c l e h => b.draw c l e (a.draw c l e h)⟩
theorem Grow.same {dr : Option Addr} {H H' : Hp} (s : Same H H') : Grow dr H H' := ⟨fun b o h _ => s b o h, fun a l _ ⟨n, r, h0, h1, h2, h3⟩ => ⟨n, r, h0, s _ _ h1, rd_imp h2 (s _), h3⟩⟩
theorem same_upd {H : Hp} {p : Addr} {o : HO} (h : H p = none) : Same H (upd H p o) := fun b x e => by
  rw [upd_ne (ne_of_none e h)]; exact e
theorem DrAt.some {H : Hp} {a l : Addr} (h : DrAt H a l) : ∃ o, H a = some o := by
  obtain ⟨_, _, _, e, _⟩ := h; exact ⟨_, e⟩
/-! ### slots -/
inductive Sl where
  | no | d (x : D) | l (xs : List D) | k (kvs : List (Key × D)) | kt (kvs : List (List Key × D)) | w | s (xs : List D)
def Sl.own : Sl → Bool
  | .l _ => true
  | .k _ => true
  | .kt _ => true
  | _ => false
def Own (ρ : List Sl) (i : Nat) : Prop := ∃ s, ρ[i]? = some s ∧ s.own = true
def OwnA (ρ : List Sl) (ad : Nat → Addr) (b : Addr) : Prop := ∃ i, Own ρ i ∧ ad i = b
def Ban (F : Addr → Prop) (ρ : List Sl) (ad : Nat → Addr) (b : Addr) : Prop := F b ∨ OwnA ρ ad b
def SlOk (K : PySem.W.Frag) (dr : Option Addr) (B : Addr → Prop) (H : Hp) (x : Option (Option V)) (a : Addr) : Sl → Prop
  | .no => True
  | .d d => ∃ v, x = some (some v) ∧ Rep K B H v d
  | .l ds => x = some (some (.ref a)) ∧ ∃ vs, H a = some (.lst vs) ∧ Reps K B H vs ds
  | .k kvs => x = some (some (.ref a)) ∧ ∃ vs : List (Key × V), H a = some (.dK vs) ∧ Paired (fun (p : Key × V) (q : Key × D) => p.1 = q.1 ∧ Rep K B H p.2 q.2) vs kvs
  | .kt kvs => x = some (some (.ref a)) ∧ ∃ vs : List (List Key × V), H a = some (.dT vs) ∧ Paired (fun (p : List Key × V) (q : List Key × D) => p.1 = q.1 ∧ Rep K B H p.2 q.2) vs kvs
  | .w => ∃ b, dr = some b ∧ x = some (some (.ref b))
  | .s ds => ∃ a vs, x = some (some (.ref a)) ∧ ((Rd H a (.lst vs) ∧ ¬ B a) ∨ KL K a vs) ∧ Reps K B H vs ds
structure StOk (K : PySem.W.Frag) (dr : Option Addr) (F : Addr → Prop) (ρ : List Sl) (σ : L2.St) (H : Hp) (ad : Nat → Addr) : Prop where
  len : σ.length = ρ.length
  inj : ∀ i j, Own ρ i → Own ρ j → ad i = ad j → i = j
  nf : ∀ i, Own ρ i → ¬ F (ad i)
  fa : ∀ b, F b → ∃ o, H b = some o
  dk : ∀ a, dr = some a → F a ∧ ∃ l, F l ∧ l ≠ a ∧ DrAt H a l
  sl : ∀ (i : Nat) (s : Sl), ρ[i]? = some s → SlOk K dr (Ban F ρ ad) H σ[i]? (ad i) s
theorem paired_mono {α β : Type} {F G : α → β → Prop} (h : ∀ a b, F a b → G a b) : ∀ {l₁ : List α} {l₂ : List β}, Paired F l₁ l₂ → Paired G l₁ l₂
  | _, _, .nil => .nil
  | _, _, .cons r t => .cons (h _ _ r) (paired_mono h t)
section
variable {K : PySem.W.Frag} {dr : Option Addr} {F : Addr → Prop} {ρ ρ' : List Sl} {σ σ' : L2.St} {H H' : Hp} {ad ad' : Nat → Addr}
theorem SlOk.mono {B B' : Addr → Prop} {x : Option (Option V)} {a : Addr} {s : Sl} (h : SlOk K dr B H x a s) (hr : ∀ v d, Rep K B H v d → Rep K B' H' v d) (hrs : ∀ vs ds, Reps K B H vs ds → Reps K B' H' vs ds) (ho : s.own = true → ∀ o, H a = some o → H' a = some o) : SlOk K dr B' H' x a s := by
  cases s with
  | no => trivial
  | d x => obtain ⟨v, e, r⟩ := h; exact ⟨v, e, hr _ _ r⟩
  | l xs => obtain ⟨e, vs, e2, r⟩ := h; exact ⟨e, vs, ho rfl _ e2, hrs _ _ r⟩
  | k kvs => obtain ⟨e, vs, e2, r⟩ := h; exact ⟨e, vs, ho rfl _ e2, paired_mono (fun _ _ z => ⟨z.1, hr _ _ z.2⟩) r⟩
  | kt kvs => obtain ⟨e, vs, e2, r⟩ := h; exact ⟨e, vs, ho rfl _ e2, paired_mono (fun _ _ z => ⟨z.1, hr _ _ z.2⟩) r⟩
  | w => exact h
  | s xs =>
    obtain ⟨a, vs, e, ⟨r1, r2⟩ | r, rs⟩ := h
    · have z := hr _ _ (Rep.lst r1 r2 rs)
      cases z with
      | lst b1 b2 b3 => exact ⟨a, _, e, .inl ⟨b1, b2⟩, b3⟩
    · exact ⟨a, vs, e, .inr r, hrs _ _ rs⟩
theorem SlOk.at (h : StOk K dr F ρ σ H ad) {i : Nat} {d : D} (e : ρ[i]? = some (.d d)) : ∃ v, σ[i]? = some (some v) ∧ Rep K (Ban F ρ ad) H v d := h.sl i _ e
/-- the owned stand there -/
theorem StOk.there (h : StOk K dr F ρ σ H ad) {i : Nat} (o : Own ρ i) : ∃ x, H (ad i) = some x := by
  obtain ⟨s, e, q⟩ := o
  have z := h.sl i s e
  cases s with
  | no => cases q
  | d x => cases q
  | l xs => obtain ⟨_, vs, e2, _⟩ := z; exact ⟨_, e2⟩
  | k xs => obtain ⟨_, vs, e2, _⟩ := z; exact ⟨_, e2⟩
  | kt xs => obtain ⟨_, vs, e2, _⟩ := z; exact ⟨_, e2⟩
  | w => cases q
  | s xs => cases q
theorem StOk.banned (h : StOk K dr F ρ σ H ad) {b : Addr} (q : Ban F ρ ad b) : ∃ o, H b = some o := by
  rcases q with q | ⟨i, o, rfl⟩
  · exact h.fa b q
  · exact h.there o
theorem StOk.drF (h : StOk K dr F ρ σ H ad) {a : Addr} (e : dr = some a) : Ban F ρ ad a := .inl (h.dk a e).1
theorem StOk.stays (h : StOk K dr F ρ σ H ad) (g : Grow dr H H') : Stay (Ban F ρ ad) H H' := fun b o e nb => g.keep b o e fun z => nb (h.drF z)
theorem StOk.grow (h : StOk K dr F ρ σ H ad) (g : Grow dr H H') : StOk K dr F ρ σ H' ad := by
  refine ⟨h.len, h.inj, h.nf, fun b q => ?_, fun a e => ?_, fun i s e => ?_⟩
  · obtain ⟨o, e⟩ := h.fa b q
    by_cases z : dr = some b
    · obtain ⟨_, l, _, _, q⟩ := h.dk b z
      exact (g.draw b l z q).some
    · exact ⟨o, g.keep b o e z⟩
  · obtain ⟨f, l, fl, ne, q⟩ := h.dk a e
    exact ⟨f, l, fl, ne, g.draw a l e q⟩
  · have st := h.stays g
    refine (h.sl i s e).mono (fun v d r => r.stay st) (fun vs ds r => r.stay st) fun hs o ho => g.keep _ o ho fun z => ?_
    exact h.nf i ⟨s, e, hs⟩ (h.dk _ z).1
theorem free_grow (h : StOk K dr F ρ σ H ad) (g : Grow dr H H') {p : Addr} (e : H' p = none) : H p = none := by
  cases q : H p with
  | none => rfl
  | some o =>
    by_cases z : dr = some p
    · obtain ⟨_, l, _, _, w⟩ := h.dk p z
      obtain ⟨o', e'⟩ := (g.draw p l z w).some
      rw [e] at e'; cases e'
    · rw [g.keep p o q z] at e; cases e
/-- less is told -/
def Le (ρ' ρ : List Sl) : Prop := ρ'.length = ρ.length ∧ ∀ (i : Nat) (s : Sl), ρ'[i]? = some s → s = Sl.no ∨ ρ[i]? = some s ∨ ∃ xs, s = Sl.d (.list xs) ∧ ρ[i]? = some (Sl.l xs)
theorem Le.refl (ρ : List Sl) : Le ρ ρ := ⟨rfl, fun _ _ e => .inr (.inl e)⟩
theorem le_nil : Le [] [] := ⟨rfl, fun _ _ e => by simp at e⟩
theorem le_eq {s : Sl} (h : Le ρ' ρ) : Le (s :: ρ') (s :: ρ) := ⟨by simp [h.1], fun i t e => by
  cases i with
  | zero => exact .inr (.inl e)
  | succ i => exact h.2 i t (by simpa using e)⟩
theorem le_no {s : Sl} (h : Le ρ' ρ) : Le (.no :: ρ') (s :: ρ) := ⟨by simp [h.1], fun i t e => by
  cases i with
  | zero => simp at e; exact .inl e.symm
  | succ i => exact h.2 i t (by simpa using e)⟩
theorem le_fz {xs : List D} (h : Le ρ' ρ) : Le (.d (.list xs) :: ρ') (.l xs :: ρ) := ⟨by simp [h.1], fun i t e => by
  cases i with
  | zero => simp at e; exact .inr (.inr ⟨xs, e.symm, rfl⟩)
  | succ i => exact h.2 i t (by simpa using e)⟩
theorem Le.own (l : Le ρ' ρ) {i : Nat} (o : Own ρ' i) : Own ρ i := by
  obtain ⟨s, e, q⟩ := o
  rcases l.2 i s e with rfl | z | ⟨xs, rfl, _⟩
  · cases q
  · exact ⟨s, z, q⟩
  · cases q
theorem Le.ban (l : Le ρ' ρ) {b : Addr} (o : Ban F ρ' ad b) : Ban F ρ ad b := by
  rcases o with o | ⟨i, o, e⟩
  · exact .inl o
  · exact .inr ⟨i, l.own o, e⟩
theorem StOk.le (h : StOk K dr F ρ σ H ad) (l : Le ρ' ρ) : StOk K dr F ρ' σ H ad := by
  refine ⟨h.len.trans l.1.symm, fun i j a b => h.inj i j (l.own a) (l.own b), fun i a => h.nf i (l.own a), h.fa, h.dk, fun i s e => ?_⟩
  rcases l.2 i s e with rfl | z | ⟨xs, rfl, z⟩
  · trivial
  · exact (h.sl i s z).mono (fun v d r => r.weak fun b => l.ban) (fun v d r => r.weak fun b => l.ban) fun _ _ q => q
  · obtain ⟨e1, vs, e2, r⟩ := h.sl i _ z
    refine ⟨.ref (ad i), e1, .lst (.inl e2) (fun q => ?_) (r.weak fun b => l.ban)⟩
    rcases q with q | ⟨j, o, ej⟩
    · exact h.nf i ⟨_, z, rfl⟩ q
    · have ij : j = i := h.inj j i (l.own o) ⟨_, z, rfl⟩ ej
      subst ij
      obtain ⟨s', e', q'⟩ := o
      rw [e] at e'
      cases e'
      cases q'
end
end Pu
/-! Pe: expressions that compute results. -/
namespace Pu
open PySem PySem.Spec PyProof.Rows L2 R
/-- what is fixed in a def: the draws' place, the wish for errors, the errors' classes, the slots that keep their places -/
structure Wd where
  dr : Option Addr
  W : XK
  xc : Nat → Value × Option Str
  pin : Nat → Bool
def XRep (wd : Wd) (K : PySem.W.Frag) (B : Addr → Prop) (H : Hp) (c : Nat) (x : D) (C : Value) (dx : Option Addr) : Prop :=
  C = (wd.xc c).1 ∧ match (wd.xc c).2 with
  | none => dx = none
  | some f => ∃ d v, dx = some d ∧ H d = some (.xd [(f, v)]) ∧ Rep K B H v x
/-! ### the readings as the code itself -/
section
variable (X : Cx)
def BE (e : Expr) : TE := fun σ H Q => ∀ (pins : List (Addr × Obj)) (s : Shared), Inv X pins σ H s → wpAny (model X.prog X.w) X.A (eval e X.env) (EP X pins σ Q) X.xe s
def BT (e : Expr) : TT := fun σ H Q => ∀ (pins : List (Addr × Obj)) (s : Shared), Inv X pins σ H s → wpAny (model X.prog X.w) X.A (isTrue e X.env (eval e X.env)) (TP X pins σ Q) X.xe s
def BW (e : Expr) : TT := fun σ H Q => ∀ (whole : Sem Value) (pins : List (Addr × Obj)) (s : Shared), Inv X pins σ H s → wpAny (model X.prog X.w) X.A (isTrue e X.env whole) (TP X pins σ Q) X.xe s
def BA (es : List Expr) : TA := fun σ H Q => ∀ (pos : Pos) (pins : List (Addr × Obj)) (s : Shared), Inv X pins σ H s → wpAny (model X.prog X.w) X.A (spliced (backTo pos (starEach es X.env))) (AP X pins σ Q) X.xe s
def BI (tg iter : Expr) : TI := fun σ H R => ∀ (pins : List (Addr × Obj)) (s : Shared), Inv X pins σ H s →
    wpAny (model X.prog X.w) X.A (eval iter X.env) (fun v s1 => wpAny (model X.prog X.w) X.A (pyIter v) (PIE X pins σ tg R) X.xe s1) X.xe s
def BS (st : Stmt) : TS := fun D σ H => ∀ (pins : List (Addr × Obj)) (s : Shared), Inv X pins σ H s → wpAny (model X.prog X.w) X.A (exec st X.env) (SP X pins D) X.xe s
def BSs (sts : List Stmt) : TS := fun D σ H => ∀ (pins : List (Addr × Obj)) (s : Shared), Inv X pins σ H s → wpAny (model X.prog X.w) X.A (execs sts X.env) (SP X pins D) X.xe s
end
section
variable {X : Cx} {e : Expr} {es : List Expr} {tg : Expr} {st : Stmt} {sts : List Stmt} {σ : L2.St} {H : Hp}
theorem pe_b : PE X e (BE X e) := ⟨fun pins s _ _ _ I h => h pins s I⟩
theorem pt_b : PT X e (BT X e) := ⟨fun pins s _ _ _ I h => h pins s I⟩
theorem pw_b : PW X e (BW X e) := ⟨fun wh pins s _ _ _ I h => h wh pins s I⟩
theorem pa_b : PA X es (BA X es) := ⟨fun pos pins s _ _ _ I h => h pos pins s I⟩
theorem pi_b : PI X tg e (BI X tg e) := ⟨fun pins s _ _ _ I h => h pins s I⟩
theorem ps_b : PS X st (BS X st) := ⟨fun pins s _ _ _ I h => h pins s I⟩
theorem pss_b : PSs X sts (BSs X sts) := ⟨fun pins s _ _ _ I h => h pins s I⟩
theorem be {t : TE} {Q : VK} (h : PE X e t) (q : t σ H Q) : BE X e σ H Q := fun pins s I => h.run pins s σ H Q I q
theorem bt {t : TT} {Q : Bool → Hp → Prop} (h : PT X e t) (q : t σ H Q) : BT X e σ H Q := fun pins s I => h.run pins s σ H Q I q
theorem bw {t : TT} {Q : Bool → Hp → Prop} (h : PW X e t) (q : t σ H Q) : BW X e σ H Q := fun wh pins s I => h.run wh pins s σ H Q I q
theorem ba {t : TA} {Q : List V → Hp → Prop} (h : PA X es t) (q : t σ H Q) : BA X es σ H Q := fun pos pins s I => h.run pos pins s σ H Q I q
theorem bi {t : TI} {R : It → Hp → Prop} (h : PI X tg e t) (q : t σ H R) : BI X tg e σ H R := fun pins s I => h.run pins s σ H R I q
theorem bs {t : TS} {Dn : Ends} (h : PS X st t) (q : t Dn σ H) : BS X st Dn σ H := fun pins s I => h.run pins s σ H Dn I q
theorem bss {t : TS} {Dn : Ends} (h : PSs X sts t) (q : t Dn σ H) : BSs X sts Dn σ H := fun pins s I => h.run pins s σ H Dn I q
end
/-! ### judgements -/
section
variable (X : Cx) (wd : Wd)
/-- what is wanted of an error -/
def XP (F : Addr → Prop) (ρ : List Sl) (ad : Nat → Addr) (H : Hp) (c : Nat) (x : D) : Prop := ∀ C dx H', Grow wd.dr H H' → XRep wd X.K (Ban F ρ ad) H' c x C dx → wd.W C dx H'
/-- e is d, nothing of it is owned -/
def Ev (ρ : List Sl) (e : Expr) (r : R D) : Prop := ∀ (F : Addr → Prop) (ad : Nat → Addr) (σ : L2.St) (H : Hp) (Q : VK), StOk X.K wd.dr F ρ σ H ad →
  r.wp (fun d => ∀ v H', Grow wd.dr H H' → Rep X.K (Ban F ρ ad) H' v d → Q v H') (XP X wd F ρ ad H) → BE X e σ H Q
/-- e is d, only to be looked at -/
def EvB (ρ : List Sl) (e : Expr) (r : R D) : Prop := ∀ (F : Addr → Prop) (ad : Nat → Addr) (σ : L2.St) (H : Hp) (Q : VK), StOk X.K wd.dr F ρ σ H ad →
  r.wp (fun d => ∀ v H', Grow wd.dr H H' → RepB X.K (Ban F ρ ad) H' v d → Q v H') (XP X wd F ρ ad H) → BE X e σ H Q
/-- e is a new list, nobody else has it -/
def EvL (ρ : List Sl) (e : Expr) (r : R (List D)) : Prop := ∀ (F : Addr → Prop) (ad : Nat → Addr) (σ : L2.St) (H : Hp) (Q : VK), StOk X.K wd.dr F ρ σ H ad →
  r.wp (fun ds => ∀ a vs H', Grow wd.dr H H' → H a = none → H' a = some (.lst vs) → Reps X.K (fun b => Ban F ρ ad b ∨ b = a) H' vs ds → Q (.ref a) H') (XP X wd F ρ ad H) → BE X e σ H Q
/-- a test -/
def EvT (ρ : List Sl) (e : Expr) (r : R Bool) : Prop := ∀ (F : Addr → Prop) (ad : Nat → Addr) (σ : L2.St) (H : Hp) (Q : Bool → Hp → Prop), StOk X.K wd.dr F ρ σ H ad →
  r.wp (fun b => ∀ H', Grow wd.dr H H' → Q b H') (XP X wd F ρ ad H) → BT X e σ H Q
def EvW (ρ : List Sl) (e : Expr) (r : R Bool) : Prop := ∀ (F : Addr → Prop) (ad : Nat → Addr) (σ : L2.St) (H : Hp) (Q : Bool → Hp → Prop), StOk X.K wd.dr F ρ σ H ad →
  r.wp (fun b => ∀ H', Grow wd.dr H H' → Q b H') (XP X wd F ρ ad H) → BW X e σ H Q
/-- arguments, the last first in ds' end -/
def EvA (ρ : List Sl) (es : List Expr) (r : R (List D)) : Prop := ∀ (F : Addr → Prop) (ad : Nat → Addr) (σ : L2.St) (H : Hp) (Q : List V → Hp → Prop), StOk X.K wd.dr F ρ σ H ad →
  r.wp (fun ds => ∀ vs H', Grow wd.dr H H' → Reps X.K (Ban F ρ ad) H' vs ds → Q vs H') (XP X wd F ρ ad H) → BA X es σ H Q
/-- a part of a slice -/
def EvO (ρ : List Sl) (e : Option Expr) (r : R (Option Int)) : Prop := ∀ (F : Addr → Prop) (ad : Nat → Addr) (σ : L2.St) (H : Hp), StOk X.K wd.dr F ρ σ H ad →
  ∃ t, PO X e t ∧ ∀ (Q : Option Int → Hp → Prop), r.wp (fun i => ∀ H', Grow wd.dr H H' → Q i H') (XP X wd F ρ ad H) → t σ H Q
end
/-! ### the context -/
def visB (sc : Scope) (x : Str) : Bool := (match sc.names.lookup x with | some .local => true | some .cell => true | some .free => true | _ => false) && !(x == ("__debug__" : Str)) && !(x == ("__classdict__" : Str))
def glB (sc : Scope) (x : Str) : Bool := decide (sc.names.lookup x = some .globalImplicit) && !(x == ("__debug__" : Str)) && !(x == ("__name__" : Str))
structure Cw (CX : CXT) (k : Nat) (wd : Wd) (N : List Str) (sc : Scope) (X : Cx) : Prop where
  hN : X.N = N
  hs : X.env.scope = sc
  nd : N.Nodup
  calm : X.calm = true
  room : Room k X.A
  po : PassesOwn (model X.prog X.w) X.A X.env X.xe
  ps : Passes CX X wd.W
section
variable {CX : CXT} {k : Nat} {wd : Wd} {N : List Str} {sc : Scope} {X : Cx} {ρ : List Sl} {e a b : Expr} {pos : Pos}
theorem Cw.vis (c : Cw CX k wd N sc X) {x : Str} (h : visB sc x = true) : Vis X.env.scope x ∧ (x == ("__debug__" : Str)) = false ∧ (x == ("__classdict__" : Str)) = false := by
  unfold visB at h
  rw [Bool.and_eq_true, Bool.and_eq_true] at h
  obtain ⟨⟨h1, h2⟩, h3⟩ := h
  refine ⟨?_, by simpa using h2, by simpa using h3⟩
  rw [c.hs]
  unfold Vis
  split at h1 <;> first | exact .inl (by assumption) | exact .inr (.inl (by assumption)) | exact .inr (.inr (by assumption)) | cases h1
theorem Cw.gl (c : Cw CX k wd N sc X) {x : Str} (h : glB sc x = true) : Gl X x ∧ (x == ("__debug__" : Str)) = false ∧ x ≠ "__name__" := by
  unfold glB at h
  rw [Bool.and_eq_true, Bool.and_eq_true] at h
  obtain ⟨⟨h1, h2⟩, h3⟩ := h
  refine ⟨?_, by simpa using h2, by simpa using h3⟩
  unfold Gl
  show X.env.scope.names.lookup x = _
  rw [c.hs]
  exact of_decide_eq_true h1
theorem Cw.u1 (c : Cw CX k wd N sc X) : X.A.units + 1 < cLine := hu_of c.room
theorem Cw.u64 (c : Cw CX k wd N sc X) : X.A.units + 64 < cLine := c.room.units
/-! ### weakenings -/
theorem Ev.look {r : R D} (h : Ev X wd ρ e r) : EvB X wd ρ e r := fun F ad σ H Q s q => h F ad σ H Q s (wp_mono (fun d z v H' g r => z v H' g (.inl r)) (fun _ _ z => z) q)
theorem EvL.ev {r : R (List D)} (h : EvL X wd ρ e r) : Ev X wd ρ e (r.bind fun ds => ret (.list ds)) := fun F ad σ H Q s q => by
  refine h F ad σ H Q s ?_
  rw [wp_bind] at q
  refine wp_mono (fun ds z => ?_) (fun _ _ z => z) q
  intro a vs H' g n e r
  refine z _ _ g (.lst (.inl e) (fun bn => ?_) (r.weak fun b => .inl))
  obtain ⟨o, eo⟩ := s.banned bn
  rw [n] at eo; cases eo
theorem Ev.eq {r r' : R D} (h : Ev X wd ρ e r) (q : r = r') : Ev X wd ρ e r' := q ▸ h
theorem Ev.le {ρ' : List Sl} {r : R D} (h : Ev X wd ρ' e r) (l : Le ρ' ρ) (ho : ∀ i, Own ρ i → Own ρ' i) : Ev X wd ρ e r := fun F ad σ H Q s q => by
  have hb : ∀ b, Ban F ρ ad b → Ban F ρ' ad b := by
    rintro b (b | ⟨i, o, e⟩)
    · exact .inl b
    · exact .inr ⟨i, ho i o, e⟩
  refine h F ad σ H Q (s.le l) (wp_mono (fun d z v H' g r => z v H' g (r.weak hb)) (fun c x z C dx H' g r => z C dx H' g ?_) q)
  obtain ⟨r1, r2⟩ := r
  refine ⟨r1, ?_⟩
  cases e : (wd.xc c).2 with
  | none => rw [e] at r2; exact r2
  | some f =>
    rw [e] at r2
    obtain ⟨d, v, h1, h2, h3⟩ := r2
    exact ⟨d, v, h1, h2, h3.weak hb⟩
end
/-- two in a row: the wishes of the second behind the first -/
theorem XP.grow {X : Cx} {wd : Wd} {F : Addr → Prop} {ρ : List Sl} {ad : Nat → Addr} {H H' : Hp} {c : Nat} {x : D} (h : XP X wd F ρ ad H c x) (g : Grow wd.dr H H') : XP X wd F ρ ad H' c x :=
  fun C dx H2 g2 r => h C dx H2 (g.trans g2) r
theorem RepB.stay {K : PySem.W.Frag} {dr : Option Addr} {F : Addr → Prop} {ρ : List Sl} {σ : L2.St} {H H' : Hp} {ad : Nat → Addr} (s : StOk K dr F ρ σ H ad) (g : Grow dr H H') {v : V} {d : D} (h : RepB K (Ban F ρ ad) H v d) : RepB K (Ban F ρ ad) H' v d := by
  have st := s.stays g
  rcases h with h | ⟨a, vs, ds, rfl, rfl, e, r⟩
  · exact .inl (h.stay st)
  · refine .inr ⟨a, vs, ds, rfl, rfl, g.keep _ _ e fun z => ?_, r.stay st⟩
    obtain ⟨_, l, _, _, n, rows, _, e2, _⟩ := s.dk a z
    rw [e] at e2; cases e2
section
variable {CX : CXT} {k : Nat} {wd : Wd} {N : List Str} {sc : Scope} {X : Cx} {ρ : List Sl} {e a b : Expr} {pos : Pos}
/-! ### names, constants -/
theorem ev_var (c : Cw CX k wd N sc X) {i : Nat} {x : Str} {d : D} (hv : visB sc x = true) (hN : N[i]? = some x) (hρ : ρ[i]? = some (.d d)) : Ev X wd ρ (.Name x pos) (ret d) := fun F ad σ H Q s q => by
  obtain ⟨v1, v2, v3⟩ := c.vis hv
  obtain ⟨v, e, r⟩ := SlOk.at s hρ
  exact be (pe_var (i := i) (by rw [c.hN]; exact hN) v1 v2 v3) ⟨v, e, q v H (Grow.refl _ _) r⟩
theorem evb_own (c : Cw CX k wd N sc X) {i : Nat} {x : Str} {ds : List D} (hv : visB sc x = true) (hN : N[i]? = some x) (hρ : ρ[i]? = some (.l ds)) : EvB X wd ρ (.Name x pos) (ret (.list ds)) := fun F ad σ H Q s q => by
  obtain ⟨v1, v2, v3⟩ := c.vis hv
  obtain ⟨e, vs, e2, r⟩ := s.sl i _ hρ
  exact be (pe_var (i := i) (by rw [c.hN]; exact hN) v1 v2 v3) ⟨_, e, q _ H (Grow.refl _ _) (.inr ⟨_, vs, ds, rfl, rfl, e2, r⟩)⟩
theorem scr_at (c : Cw CX k wd N sc X) {i : Nat} {ds : List D} {F : Addr → Prop} {ad : Nat → Addr} {σ : L2.St} {H : Hp} (s : StOk X.K wd.dr F ρ σ H ad) (hρ : ρ[i]? = some (.s ds)) : ∃ a vs, σ[i]? = some (some (.ref a)) ∧ SqL X.K H a vs ∧ Reps X.K (Ban F ρ ad) H vs ds := by
  obtain ⟨a, vs, e, r, rr⟩ := s.sl i _ hρ
  exact ⟨a, vs, e, r.imp (·.1) id, rr⟩
theorem ev_int {i : Int} {j : Nat} : Ev X wd ρ (.Constant (.int i) j pos) (ret (.int i)) := fun F ad σ H Q s q => be pe_int (q _ H (Grow.refl _ _) (.int i))
theorem ev_bl {i : Bool} {j : Nat} : Ev X wd ρ (.Constant (.bool i) j pos) (ret (.bool i)) := fun F ad σ H Q s q => be pe_bl (q _ H (Grow.refl _ _) (.bl i))
theorem ev_non {j : Nat} : Ev X wd ρ (.Constant .none j pos) (ret .none) := fun F ad σ H Q s q => be pe_non (q _ H (Grow.refl _ _) .non)
theorem ev_str {i : Str} {j : Nat} : Ev X wd ρ (.Constant (.str i) j pos) (ret (.str i)) := fun F ad σ H Q s q => be pe_str (q _ H (Grow.refl _ _) (.str i))
/-- a constant of the module -/
def GCon (K : PySem.W.Frag) (mg : Str → Option Value) (x : Str) (d : D) : Prop := ∃ v u, mg x = some u ∧ RelV v u ∧ ∀ (B : Addr → Prop) (H : Hp), Rep K B H v d
theorem ev_con (c : Cw CX k wd N sc X) {x : Str} {d : D} (hg : glB sc x = true) (hm : GCon X.K X.mg x d) : Ev X wd ρ (.Name x pos) (ret d) := fun F ad σ H Q s q => by
  obtain ⟨v1, v2, _⟩ := c.gl hg
  obtain ⟨v, u, h1, h2, h3⟩ := hm
  exact be (pe_glob v1 h1 h2 v2) (q _ H (Grow.refl _ _) (h3 _ H))
/-! ### operators -/
/-- how an operator by values computes -/
def OpS (K : PySem.W.Frag) (r : R2) (g : D → D → R D) : Prop := ∀ (B : Addr → Prop) (H : Hp) (x y : V) (d e : D) (Q : VK) (E : Nat → D → Prop), (∀ b, B b → ∃ o, H b = some o) → RepB K B H x d → RepB K B H y e →
  (g d e).wp (fun z => ∀ v H', Same H H' → Rep K B H' v z → Q v H') E → r x y H Q
theorem op_core {t : TE → TE → TE} {r : R2} {g : D → D → R D} {ra rb : R D} (ht : ∀ ta tb σ H Q, t ta tb σ H Q = (ta σ H fun x H1 => tb σ H1 fun y H2 => r x y H2 Q)) (hp : PE X e (t (BE X a) (BE X b))) (hs : OpS X.K r g)
    (ha : EvB X wd ρ a ra) (hb : EvB X wd ρ b rb) : Ev X wd ρ e (ra.bind fun x => rb.bind fun y => g x y) := fun F ad σ H Q s q => by
  refine be hp ?_
  rw [ht]
  rw [wp_bind] at q
  refine ha F ad σ H _ s (wp_mono (fun d q v H1 g1 r1 => ?_) (fun _ _ z => z) q)
  rw [wp_bind] at q
  have s1 := s.grow g1
  refine hb F ad σ H1 _ s1 (wp_mono (fun d2 q v2 H2 g2 r2 => ?_) (fun _ _ z => z.grow g1) q)
  have s2 := s1.grow g2
  exact hs (Ban F ρ ad) H2 v v2 d d2 Q _ (fun b z => s2.banned z) (r1.stay s1 g2) r2 (wp_mono (fun z q v H' sm r => q v H' (g1.trans (g2.trans (Grow.same sm))) r) (fun _ _ z => z) q)
theorem ev_op {op : Operator} {r : R2} {g : D → D → R D} {ra rb : R D} (ho : OpR X (binaryOp op) r) (hs : OpS X.K r g) (ha : EvB X wd ρ a ra) (hb : EvB X wd ρ b rb) : Ev X wd ρ (.BinOp a op b pos) (ra.bind fun x => rb.bind fun y => g x y) :=
  op_core (t := tOp r) (fun _ _ _ _ _ => rfl) (pe_op ho pe_b pe_b) hs ha hb
theorem ev_cmp {op : CmpOp} {r : R2} {g : D → D → R D} {ra rb : R D} (ho : OpR X (compareOp op) r) (hs : OpS X.K r g) (hm : behindInMarks op b = false) (ha : EvB X wd ρ a ra) (hb : EvB X wd ρ b rb) : Ev X wd ρ (.Compare a [op] [b] pos) (ra.bind fun x => rb.bind fun y => g x y) :=
  op_core (t := tOp r) (fun _ _ _ _ _ => rfl) (pe_cmpR ho pe_b pe_b hm) hs ha hb
theorem ev_ixr {ra rb : R D} {r : R2} {g : D → D → R D} (hr : IxR X r) (hs : OpS X.K r g) (hp : PlainIx b) (ha : EvB X wd ρ a ra) (hb : EvB X wd ρ b rb) : Ev X wd ρ (.Subscript a b pos) (ra.bind fun x => rb.bind fun y => g x y) :=
  op_core (t := tOp r) (fun _ _ _ _ _ => rfl) (pe_ix hr pe_b pe_b hp) hs ha hb
end
/-! ### the operators' rules -/
theorem same_stay {B : Addr → Prop} {H H' : Hp} (s : Same H H') : Stay B H H' := fun b o e _ => s b o e
theorem newtup {K : PySem.W.Frag} {B : Addr → Prop} {H : Hp} {p : Addr} {vs : List V} {ds : List D} (hb : ∀ b, B b → ∃ o, H b = some o) (hp : H p = none) (r : Reps K B H vs ds) : Rep K B (upd H p (.tup vs)) (.ref p) (.tuple ds) :=
  (.tup (.inl ⟨.inl upd_same, fun z => by obtain ⟨o, e⟩ := hb p z; rw [hp] at e; cases e⟩) (r.stay (same_stay (same_upd hp))))
theorem newlst {K : PySem.W.Frag} {B : Addr → Prop} {H : Hp} {p : Addr} {vs : List V} {ds : List D} (hb : ∀ b, B b → ∃ o, H b = some o) (hp : H p = none) (r : Reps K B H vs ds) : Rep K B (upd H p (.lst vs)) (.ref p) (.list ds) :=
  .lst (.inl upd_same) (fun z => by obtain ⟨o, e⟩ := hb p z; rw [hp] at e; cases e) (r.stay (same_stay (same_upd hp)))
theorem Inv.lstR {X : Cx} {pins : List (Addr × Obj)} {σ : L2.St} {H : Hp} {s : Shared} {p : Addr} {xs : List V} (I : Inv X pins σ H s) (h : Rd H p (.lst xs)) :
    ∃ (its : List Value) (n : Nat), Vals xs its ∧ xs.length = its.length ∧ s.heap.get? p = some { cls := .type "list", data := .seq its.toArray n } ∧ xs.length ≤ sizeLine := by
  obtain ⟨z, its, n, r, e⟩ := h.ok I.hok
  exact ⟨its, n, r, r.length, e, z⟩
/-- list + list, also of lists that stand still -/
def rCatR : R2 := fun x y H Q => ∃ l b xs zs, x = .ref l ∧ y = .ref b ∧ Rd H l (.lst xs) ∧ Rd H b (.lst zs) ∧ xs.length + zs.length ≤ sizeLine ∧ ∀ p, H p = none → Q (.ref p) (upd H p (.lst (xs ++ zs)))
theorem op_catR {X : Cx} : OpR X (binaryOp .Add) rCatR := by
  intro pins s σ H x y v u Q I rx ry h
  obtain ⟨l, b, xs, zs, rfl, rfl, hH, hB, hz, q⟩ := h
  cases rx
  cases ry
  obtain ⟨its, n, r, hl, e, _⟩ := Inv.lstR I hH
  obtain ⟨its2, n2, r2, hl2, e2, _⟩ := Inv.lstR I hB
  refine PySem.P.add_list e e2 ?_ (by rw [List.size_toArray, List.size_toArray]; omega)
  have ea : its.toArray ++ its2.toArray = (its ++ its2).toArray := by simp
  rw [ea]
  refine ⟨.ref s.heap.objs.size, _, I.laid (t' := s.toks) (o := .lst (xs ++ zs)) (fun b ob q => Heap.get?_push_of_some _ q) (Nat.le_refl _) ?_, rfl, q _ (I.hok.fresh (Nat.le_refl _))⟩
  exact ⟨by rw [List.length_append]; omega, its ++ its2, 0, r.append r2, Heap.get?_push_size _ rfl⟩
def rAdd4 (K : PySem.W.Frag) : R2 := fun x y H Q => (∃ i j, x = .int i ∧ y = .int j ∧ Q (.int (i + j)) H) ∨ (∃ i j, x = .str i ∧ y = .str j ∧ i.length + j.length ≤ sizeLine ∧ Q (.str (i ++ j)) H) ∨ rCatA K x y H Q ∨ rCatR x y H Q
section
variable {X : Cx} {K : PySem.W.Frag}
theorem op_add4 : OpR X (binaryOp .Add) (rAdd4 X.K) := OpR.or op_add (OpR.or op_add_str (OpR.or op_catA op_catR))
theorem opS_add : OpS K (rAdd4 K) addR := by
  intro B H x y d e Q E hb hx hy q
  cases d with
  | int i =>
    cases e with
    | int j => exact .inl ⟨i, j, hx.int, hy.int, q _ _ (Same.refl _) (.int _)⟩
    | _ => exact q.elim
  | str i =>
    cases e with
    | str j =>
      obtain ⟨h, q⟩ := wp_ite q
      exact .inr (.inl ⟨i, j, hx.str, hy.str, h, q _ _ (Same.refl _) (.str _)⟩)
    | _ => exact q.elim
  | tuple xs =>
    cases e with
    | tuple ys =>
      obtain ⟨h, q⟩ := wp_ite q
      obtain ⟨a1, v1, rfl, h1, r1⟩ := hx.tuple
      obtain ⟨a2, v2, rfl, h2, r2⟩ := hy.tuple
      refine .inr (.inr (.inl ⟨a1, a2, v1, v2, rfl, rfl, h1.sq, h2.sq, by rw [r1.length, r2.length]; exact h, fun z => ?_, fun z z2 => ?_, fun z z2 p hp => ?_⟩))
      · subst z
        have z : xs = [] := List.eq_nil_of_length_eq_zero r1.length.symm
        subst z
        exact q _ _ (Same.refl _) (.tup h2 r2)
      · subst z2
        have z : ys = [] := List.eq_nil_of_length_eq_zero r2.length.symm
        subst z
        rw [List.append_nil] at q
        exact q _ _ (Same.refl _) (.tup h1 r1)
      · exact q _ _ (same_upd hp) (newtup hb hp (r1.append r2))
    | _ => exact q.elim
  | list xs =>
    cases e with
    | list ys =>
      obtain ⟨h, q⟩ := wp_ite q
      obtain ⟨a1, v1, rfl, h1, r1⟩ := hx.list
      obtain ⟨a2, v2, rfl, h2, r2⟩ := hy.list
      exact .inr (.inr (.inr ⟨a1, a2, v1, v2, rfl, rfl, h1, h2, by rw [r1.length, r2.length]; exact h, fun p hp => q _ _ (same_upd hp) (newlst hb hp (r1.append r2))⟩))
    | _ => exact q.elim
  | _ => exact q.elim
theorem opS_i0 {g : Int → Int → Int} {f : D → D → R D} (hf : ∀ i j, f (.int i) (.int j) = R.ret (.int (g i j))) (hn : ∀ d e, (∃ i j, d = .int i ∧ e = .int j) ∨ f d e = bad) : OpS K (rI0 fun i j => .int (g i j)) f := by
  intro B H x y d e Q E hb hx hy q
  rcases hn d e with ⟨i, j, rfl, rfl⟩ | z
  · rw [hf] at q
    exact ⟨i, j, hx.int, hy.int, q _ _ (Same.refl _) (.int _)⟩
  · rw [z] at q; exact q.elim
theorem opS_b0 {g : Int → Int → Bool} {f : D → D → R D} (hf : ∀ i j, f (.int i) (.int j) = R.ret (.bool (g i j))) (hn : ∀ d e, (∃ i j, d = .int i ∧ e = .int j) ∨ f d e = bad) : OpS K (rI0 fun i j => .bl (g i j)) f := by
  intro B H x y d e Q E hb hx hy q
  rcases hn d e with ⟨i, j, rfl, rfl⟩ | z
  · rw [hf] at q
    exact ⟨i, j, hx.int, hy.int, q _ _ (Same.refl _) (.bl _)⟩
  · rw [z] at q; exact q.elim
theorem opS_ic {C : Int → Int → Prop} [∀ i j, Decidable (C i j)] {g : Int → Int → Int} {f : D → D → R D} (hf : ∀ i j, f (.int i) (.int j) = if C i j then R.ret (.int (g i j)) else bad) (hn : ∀ d e, (∃ i j, d = .int i ∧ e = .int j) ∨ f d e = bad) :
    OpS K (rI C fun i j => .int (g i j)) f := by
  intro B H x y d e Q E hb hx hy q
  rcases hn d e with ⟨i, j, rfl, rfl⟩ | z
  · rw [hf] at q
    by_cases h : C i j
    · rw [if_pos h] at q
      exact ⟨i, j, hx.int, hy.int, h, q _ _ (Same.refl _) (.int _)⟩
    · rw [if_neg h] at q; exact q.elim
  · rw [z] at q; exact q.elim
theorem opS_sub : OpS K (rI0 fun i j => .int (i - j)) subR := opS_i0 (fun _ _ => rfl) fun d e => by cases d <;> cases e <;> first | exact .inl ⟨_, _, rfl, rfl⟩ | exact .inr rfl
theorem op_fdivL {X : Cx} : OpR X (binaryOp .FloorDiv) (rI CDivL fun i j => .int (i.fdiv j)) := opI fun _ _ _ _ _ _ _ hc q => floordiv_int hc.1 q (.inl (PyProof.noPylong_of_log2 (by
  have h1 := hc.1
  have h2 := hc.2
  exact Nat.lt_of_lt_of_le ((Nat.log2_lt (by omega)).mpr h2) (by decide))))
theorem opS_fdiv : OpS K (rI CDivL fun i j => .int (i.fdiv j)) fdivR :=
  @opS_ic K CDivL (fun i j => inferInstance) _ _ (fun _ _ => by unfold fdivR; rfl) fun d e => by cases d <;> cases e <;> first | exact .inl ⟨_, _, rfl, rfl⟩ | exact .inr rfl
theorem opS_mod : OpS K (rI (fun _ j => j ≠ 0) fun i j => .int (i.fmod j)) modR :=
  @opS_ic K (fun _ j => j ≠ 0) (fun i j => inferInstance) _ _ (fun _ _ => rfl) fun d e => by cases d <;> cases e <;> first | exact .inl ⟨_, _, rfl, rfl⟩ | exact .inr rfl
theorem opS_pow : OpS K (rI CPow fun i j => .int (i ^ j.toNat)) powR :=
  @opS_ic K CPow (fun i j => by unfold CPow; exact inferInstance) _ _ (fun _ _ => by unfold powR CPow; rfl) fun d e => by cases d <;> cases e <;> first | exact .inl ⟨_, _, rfl, rfl⟩ | exact .inr rfl
theorem opS_lt : OpS K (rI0 fun i j => .bl (decide (i < j))) ltR := opS_b0 (fun _ _ => rfl) fun d e => by cases d <;> cases e <;> first | exact .inl ⟨_, _, rfl, rfl⟩ | exact .inr rfl
theorem opS_le : OpS K (rI0 fun i j => .bl (decide (i ≤ j))) leR := opS_b0 (fun _ _ => rfl) fun d e => by cases d <;> cases e <;> first | exact .inl ⟨_, _, rfl, rfl⟩ | exact .inr rfl
theorem opS_gt : OpS K (rI0 fun i j => .bl (decide (j < i))) gtR := opS_b0 (fun _ _ => rfl) fun d e => by cases d <;> cases e <;> first | exact .inl ⟨_, _, rfl, rfl⟩ | exact .inr rfl
theorem opS_ge : OpS K (rI0 fun i j => .bl (decide (j ≤ i))) geR := opS_b0 (fun _ _ => rfl) fun d e => by cases d <;> cases e <;> first | exact .inl ⟨_, _, rfl, rfl⟩ | exact .inr rfl
theorem opS_eq : OpS K (rEqD K) eqR := by
  intro B H x y d e Q E hb hx hy q
  unfold eqR at q
  by_cases h : SeqAt.shaped d = true ∧ SeqAt.shaped e = true
  · rw [if_pos h] at q
    exact ⟨d, e, hx.dp, hy.dp, h.1, h.2, q _ _ (Same.refl _) (.bl _)⟩
  · rw [if_neg h] at q; exact q.elim
theorem opS_ne : OpS K (rNeD K) neR := by
  intro B H x y d e Q E hb hx hy q
  unfold neR at q
  by_cases h : SeqAt.shaped d = true ∧ SeqAt.shaped e = true
  · rw [if_pos h] at q
    exact ⟨d, e, hx.dp, hy.dp, h.1, h.2, q _ _ (Same.refl _) (.bl _)⟩
  · rw [if_neg h] at q; exact q.elim
def rIs2 : R2 := fun x y H Q => (y = .non ∧ Q (.bl (decide (x = .non))) H) ∨ (∃ a b, x = .bl a ∧ y = .bl b ∧ Q (.bl (decide (a = b))) H)
def rIsNot2 : R2 := fun x y H Q => (y = .non ∧ Q (.bl (!decide (x = .non))) H) ∨ (∃ a b, x = .bl a ∧ y = .bl b ∧ Q (.bl (!decide (a = b))) H)
theorem op_is2 : OpR X (compareOp .Is) rIs2 := OpR.or op_isN op_is_bl
theorem op_isNot2 : OpR X (compareOp .IsNot) rIsNot2 := OpR.or op_notN op_isnot_bl
theorem isNone_dec {B : Addr → Prop} {H : Hp} {x : V} {d : D} (h : RepB K B H x d) : isNone d = decide (x = .non) := by
  cases d with
  | none => rw [h.non]; rfl
  | bool b => rw [h.bool]; rfl
  | int b => rw [h.int]; rfl
  | str b => rw [h.str]; rfl
  | list ds => obtain ⟨a, vs, rfl, _⟩ := h.list; rfl
  | tuple ds => obtain ⟨a, vs, rfl, _⟩ := h.tuple; rfl
  | dict _ => exact h.nodict.elim
theorem opS_is : OpS K rIs2 isR := by
  intro B H x y d e Q E hb hx hy q
  cases e with
  | none =>
    refine .inl ⟨hy.non, ?_⟩
    rw [← isNone_dec hx]
    exact q _ _ (Same.refl _) (.bl _)
  | bool b =>
    cases d with
    | bool a => exact .inr ⟨a, b, hx.bool, hy.bool, q _ _ (Same.refl _) (.bl _)⟩
    | _ => exact q.elim
  | _ => exact q.elim
theorem opS_isNot : OpS K rIsNot2 isNotR := by
  intro B H x y d e Q E hb hx hy q
  cases e with
  | none =>
    refine .inl ⟨hy.non, ?_⟩
    rw [← isNone_dec hx]
    exact q _ _ (Same.refl _) (.bl _)
  | bool b =>
    cases d with
    | bool a => exact .inr ⟨a, b, hx.bool, hy.bool, q _ _ (Same.refl _) (.bl _)⟩
    | _ => exact q.elim
  | _ => exact q.elim
theorem at_rep {B : Addr → Prop} {H : Hp} {vs : List V} {ds : List D} {i : Int} {d : D} (r : Reps K B H vs ds) (h : atI ds i = some d) : ∃ v, atI vs i = some v ∧ Rep K B H v d := by
  unfold atI at h ⊢
  rw [r.length]
  cases e : ixN ds.length i with
  | none => rw [e] at h; cases h
  | some j => rw [e] at h; exact r.get h
theorem opS_ix : OpS K (rIx K) ixR := by
  intro B H x y d e Q E hb hx hy q
  cases e with
  | int i =>
    cases d with
    | list ds =>
      obtain ⟨a, vs, rfl, h1, r1⟩ := hx.list
      have q : (optR (atI ds i)).wp (fun z => ∀ v H', Same H H' → Rep K B H' v z → Q v H') E := q
      cases h : atI ds i with
      | none => rw [h] at q; exact q.elim
      | some d =>
        rw [h] at q
        obtain ⟨v, hv, rv⟩ := at_rep r1 h
        exact .inl ⟨a, vs, i, v, rfl, hy.int, .inl h1, hv, q _ _ (Same.refl _) rv⟩
    | tuple ds =>
      obtain ⟨a, vs, rfl, h1, r1⟩ := hx.tuple
      have q : (optR (atI ds i)).wp (fun z => ∀ v H', Same H H' → Rep K B H' v z → Q v H') E := q
      cases h : atI ds i with
      | none => rw [h] at q; exact q.elim
      | some d =>
        rw [h] at q
        obtain ⟨v, hv, rv⟩ := at_rep r1 h
        exact .inr (.inl ⟨a, vs, i, v, rfl, hy.int, h1.sq, hv, q _ _ (Same.refl _) rv⟩)
    | str z =>
      obtain ⟨h, q⟩ := wp_ite q
      cases h2 : atI z.cps.toList i with
      | none => rw [h2] at q; exact q.elim
      | some c => rw [h2] at q; exact .inr (.inr ⟨z, i, c, hx.str, hy.int, h, h2, q _ _ (Same.refl _) (.str _)⟩)
    | _ => exact q.elim
  | _ => cases d <;> exact q.elim
end
section
variable {CX : CXT} {k : Nat} {wd : Wd} {N : List Str} {sc : Scope} {X : Cx} {ρ : List Sl} {e a b : Expr} {pos : Pos} {ra rb : R D}
theorem ev_add (ha : EvB X wd ρ a ra) (hb : EvB X wd ρ b rb) : Ev X wd ρ (.BinOp a .Add b pos) (ra.bind fun x => rb.bind fun y => addR x y) := ev_op op_add4 opS_add ha hb
theorem ev_sub (ha : EvB X wd ρ a ra) (hb : EvB X wd ρ b rb) : Ev X wd ρ (.BinOp a .Sub b pos) (ra.bind fun x => rb.bind fun y => subR x y) := ev_op op_sub opS_sub ha hb
theorem ev_fdiv (ha : EvB X wd ρ a ra) (hb : EvB X wd ρ b rb) : Ev X wd ρ (.BinOp a .FloorDiv b pos) (ra.bind fun x => rb.bind fun y => fdivR x y) := ev_op op_fdivL opS_fdiv ha hb
theorem ev_mod (ha : EvB X wd ρ a ra) (hb : EvB X wd ρ b rb) : Ev X wd ρ (.BinOp a .Mod b pos) (ra.bind fun x => rb.bind fun y => modR x y) := ev_op op_modN opS_mod ha hb
theorem ev_pow (ha : EvB X wd ρ a ra) (hb : EvB X wd ρ b rb) : Ev X wd ρ (.BinOp a .Pow b pos) (ra.bind fun x => rb.bind fun y => powR x y) := ev_op op_pow opS_pow ha hb
theorem ev_lt (ha : EvB X wd ρ a ra) (hb : EvB X wd ρ b rb) : Ev X wd ρ (.Compare a [.Lt] [b] pos) (ra.bind fun x => rb.bind fun y => ltR x y) := ev_cmp op_lt opS_lt (nobehind _ (by decide) (by decide)) ha hb
theorem ev_le (ha : EvB X wd ρ a ra) (hb : EvB X wd ρ b rb) : Ev X wd ρ (.Compare a [.LtE] [b] pos) (ra.bind fun x => rb.bind fun y => leR x y) := ev_cmp op_le opS_le (nobehind _ (by decide) (by decide)) ha hb
theorem ev_gt (ha : EvB X wd ρ a ra) (hb : EvB X wd ρ b rb) : Ev X wd ρ (.Compare a [.Gt] [b] pos) (ra.bind fun x => rb.bind fun y => gtR x y) := ev_cmp op_gt opS_gt (nobehind _ (by decide) (by decide)) ha hb
theorem ev_ge (ha : EvB X wd ρ a ra) (hb : EvB X wd ρ b rb) : Ev X wd ρ (.Compare a [.GtE] [b] pos) (ra.bind fun x => rb.bind fun y => geR x y) := ev_cmp op_ge opS_ge (nobehind _ (by decide) (by decide)) ha hb
theorem ev_eq (c : Cw CX k wd N sc X) (ha : EvB X wd ρ a ra) (hb : EvB X wd ρ b rb) : Ev X wd ρ (.Compare a [.Eq] [b] pos) (ra.bind fun x => rb.bind fun y => eqR x y) := ev_cmp (op_eqD c.u64) opS_eq (nobehind _ (by decide) (by decide)) ha hb
theorem ev_ne (c : Cw CX k wd N sc X) (ha : EvB X wd ρ a ra) (hb : EvB X wd ρ b rb) : Ev X wd ρ (.Compare a [.NotEq] [b] pos) (ra.bind fun x => rb.bind fun y => neR x y) := ev_cmp (op_neD c.u64) opS_ne (nobehind _ (by decide) (by decide)) ha hb
theorem ev_is (ha : EvB X wd ρ a ra) (hb : EvB X wd ρ b rb) : Ev X wd ρ (.Compare a [.Is] [b] pos) (ra.bind fun x => rb.bind fun y => isR x y) := ev_cmp op_is2 opS_is (nobehind _ (by decide) (by decide)) ha hb
theorem ev_isNot (ha : EvB X wd ρ a ra) (hb : EvB X wd ρ b rb) : Ev X wd ρ (.Compare a [.IsNot] [b] pos) (ra.bind fun x => rb.bind fun y => isNotR x y) := ev_cmp op_isNot2 opS_isNot (nobehind _ (by decide) (by decide)) ha hb
theorem ev_ix (ha : EvB X wd ρ a ra) (hb : EvB X wd ρ b rb) (hp : PlainIx b := by exact fun _ _ => rfl) : Ev X wd ρ (.Subscript a b pos) (ra.bind fun x => rb.bind fun y => ixR x y) := ev_ixr ix_seq opS_ix hp ha hb
end
end Pu
/-! Pf: more expressions: products, tests, slices, displays, calls, comprehensions. -/
namespace Pu
open PySem PySem.Spec PyProof.Rows L2 R
/-! ### products -/
theorem tuple_mul1 (l : Addr) (items : Array Value) (n : Nat) (dd : Option Addr) (sl : Array (Option Value)) (u : Tok) :
    Meets (Builtin.«tuple.__mul__» ⟨[.ref l, .int 1 u], []⟩) (fun _ R s => s.heap.get? l = some { cls := .type "tuple", dict := dd, data := .seq items n, slots := sl } ∧
      R (.ok (.ret (Value.ref l))) s) :=
  .of_wp fun prog w A R s h => by
    obtain ⟨hp, g, d, tk, os⟩ := s
    obtain ⟨hl, h⟩ := h
    have f1 := AutoSeq1.idx_int
    have c0 : (decide ((1 : Int) < -(2 ^ 63)) || decide ((1 : Int) ≥ 2 ^ 63)) = false := by decide
    have c1 : (items.isEmpty || (1 : Int) == 1) = true := by simp
    wp_walk using wpAny_loadPart' hl
    repeat (first
      | (refine wpAny_ite_false (decide_eq_false (by rw [c0]; exact Bool.false_ne_true)) ?_; wp_walk using wpAny_loadPart' hl)
      | (refine wpAny_ite_true (decide_eq_true c1) ?_; wp_walk using wpAny_loadPart' hl)
      | (refine wpAny_ite_true rfl ?_; wp_walk using wpAny_loadPart' hl))
    exact ⟨_, rfl, h⟩
def rRepT1 (K : PySem.W.Frag) : R2 := fun x y H Q => ∃ l xs, x = .ref l ∧ y = .int 1 ∧ SqT K H l xs ∧ Q (.ref l) H
theorem op_repT1 {X : Cx} : OpR X (binaryOp .Mult) (rRepT1 X.K) := by
  intro pins s σ H x y v u Q I rx ry h
  obtain ⟨l, xs, rfl, rfl, hT, q⟩ := h
  cases rx
  obtain ⟨t, rfl⟩ := ry
  obtain ⟨its, r, ⟨⟨cls, dd, data, sl⟩, ho, hc, n, hd⟩, hs⟩ := I.tuple hT
  simp only at hc hd
  subst hc hd
  exact wpAny_binaryOp_repeat_ref (T := "tuple") (U := "int") (by decide) ⟨_, ho, rfl⟩ (fun s' => typeIs_int s' 1 t) noFill_tuple_mul F.fills_int_mul F.slot_int_rmul repeat_tuple F.slot_int_index.lookup
    (call_meets F.slot_int_rmul (typeIs_int s 1 t) F.entry_int_rmul (F.args_int_rmul_2 _ _) (int_rmul_tuple 1 t l its.toArray n dd sl)
      ⟨ho, rfl, ⟨_, ho, rfl⟩, call_meets F.slot_tuple_mul ⟨_, ho, rfl⟩ F.entry_tuple_mul (F.args_tuple_mul_2 _ _) (tuple_mul1 l its.toArray n dd sl t) ⟨ho, ⟨.ref l, _, I, rfl, q⟩⟩⟩)
def rRepR : R2 := fun x y H Q => ∃ l k xs, x = .ref l ∧ y = .int k ∧ Rd H l (.lst xs) ∧ -(2 ^ 63) ≤ k ∧ k < 2 ^ 63 ∧ xs.length * k.toNat ≤ sizeLine ∧
  ∀ p, H p = none → Q (.ref p) (upd H p (.lst (List.replicate k.toNat xs).flatten))
theorem rep_foldl (zs : List Value) (m : Nat) : (List.replicate m zs.toArray).foldl (· ++ ·) #[] = (List.replicate m zs).flatten.toArray := by
  simpa using foldl_rep zs m []
theorem op_repR {X : Cx} : OpR X (binaryOp .Mult) rRepR := by
  intro pins s σ H x y v u Q I rx ry ⟨l, k, xs, ex, ey, hH, h1, h2, hz, q⟩
  subst ex ey
  cases rx
  obtain ⟨t, rfl⟩ := ry
  obtain ⟨zs, n, r, hl, e, _⟩ := Inv.lstR I hH
  have hs : zs.toArray.size * k.toNat ≤ sizeLine := by simpa [hl] using hz
  have c1 : ¬ (!Builtin.List.listFitsIndex k) = true := by simp [fitsIndex_both h1 h2]
  have c2 : ¬ zs.toArray.size * k.toNat > (2 ^ 63 - 1) / 8 := by
    have := (by decide : (sizeLine : Nat) ≤ (2 ^ 63 - 1) / 8)
    omega
  have c3 : ¬ Builtin.List.listTooLong (zs.toArray.size * k.toNat) = true := by rw [notLongL hs]; simp
  have ez : (List.replicate (if zs.toArray.isEmpty = true then 0 else k.toNat) zs.toArray).foldl (· ++ ·) #[] = (List.replicate k.toNat zs).flatten.toArray := by
    rw [rep_foldl]
    cases zs <;> simp
  have hn : H s.heap.objs.size = none := I.hok.fresh (Nat.le_refl _)
  have tI := fun s' : Shared => typeIs_int s' k t
  have tL : s.TypeIs (.ref l) "list" := ⟨_, e, rfl⟩
  refine wpAny_binaryOp_repeat_ref (by decide) tL tI noFill_list_mul F.fills_int_mul F.slot_int_rmul repeat_list F.slot_int_index.lookup ?_
  refine call_meets F.slot_int_rmul (tI s) F.entry_int_rmul (F.args_int_rmul_2 _ _) (int___rmul___int_list k t l zs.toArray n) ⟨e, rfl, tL, ?_⟩
  refine call_meets F.slot_list_mul tL F.entry_list_mul (F.args_list_mul_2 _ _) (AutoListH.list___mul___list_int_3 l zs.toArray n k t c1 c2 c3) ⟨e, ?_⟩
  rw [ez]
  refine ⟨.ref s.heap.objs.size, _, I.lnew (t' := s.toks) (r.rep k.toNat) ?_, rfl, q _ hn⟩
  rw [PyProof.Rows.lm_len_rep_flat, Nat.mul_comm]
  omega
def rMul4 (K : PySem.W.Frag) : R2 := fun x y H Q => rI CMul (fun i j => .int (i * j)) x y H Q ∨ rRepT1 K x y H Q ∨ rRepT K x y H Q ∨ rRepR x y H Q
theorem op_mul4 {X : Cx} : OpR X (binaryOp .Mult) (rMul4 X.K) := OpR.or op_mul (OpR.or op_repT1 (OpR.or op_repT op_repR))
theorem opS_mul {K : PySem.W.Frag} : OpS K (rMul4 K) mulR := by
  intro B H x y d e Q E hb hx hy q
  cases e with
  | int k =>
    cases d with
    | int i =>
      obtain ⟨h, q⟩ := wp_ite q
      exact .inl ⟨i, k, hx.int, hy.int, h, q _ _ (Same.refl _) (.int _)⟩
    | tuple xs =>
      obtain ⟨⟨h1, h2, h3, h4⟩, q⟩ := wp_ite q
      obtain ⟨a1, v1, rfl, g1, r1⟩ := hx.tuple
      by_cases k1 : k = 1
      · subst k1
        have e1 : (List.replicate (1 : Int).toNat xs).flatten = xs := by show (List.replicate 1 xs).flatten = xs; simp
        rw [e1] at q
        exact .inr (.inl ⟨a1, v1, rfl, hy.int, g1.sq, q _ _ (Same.refl _) (.tup g1 r1)⟩)
      · refine .inr (.inr (.inl ⟨a1, k, v1, rfl, hy.int, g1.sq, fun z => h1 ?_, by omega, h3, by rw [r1.length]; exact h4, fun p hp => q _ _ (same_upd hp) (newtup hb hp (r1.rep _))⟩))
        subst z
        exact List.eq_nil_of_length_eq_zero r1.length.symm
    | list xs =>
      obtain ⟨⟨h1, h2, h3⟩, q⟩ := wp_ite q
      obtain ⟨a1, v1, rfl, g1, r1⟩ := hx.list
      exact .inr (.inr (.inr ⟨a1, k, v1, rfl, hy.int, g1, h1, h2, by rw [r1.length]; exact h3, fun p hp => q _ _ (same_upd hp) (newlst hb hp (r1.rep _))⟩))
    | _ => exact q.elim
  | _ => cases d <;> exact q.elim
section
variable {CX : CXT} {k : Nat} {wd : Wd} {N : List Str} {sc : Scope} {X : Cx} {ρ : List Sl} {e a b c : Expr} {rest : List Expr} {pos : Pos} {ra rb : R D}
theorem ev_mul (ha : EvB X wd ρ a ra) (hb : EvB X wd ρ b rb) : Ev X wd ρ (.BinOp a .Mult b pos) (ra.bind fun x => rb.bind fun y => mulR x y) := ev_op op_mul4 opS_mul ha hb
theorem ev_neg (ha : EvB X wd ρ a ra) : Ev X wd ρ (.UnaryOp .USub a pos) (ra.bind fun x => negR x) := fun F ad σ H Q s q => by
  refine be (pe_un un_neg pe_b) ?_
  rw [wp_bind] at q
  refine ha F ad σ H _ s (wp_mono (fun d q v H1 g1 r1 => ?_) (fun _ _ z => z) q)
  cases d with
  | int i => exact ⟨i, r1.int, q _ _ g1 (.int _)⟩
  | _ => exact q.elim
theorem post_grow {F : Addr → Prop} {ad : Nat → Addr} {H H1 : Hp} {Q : VK} {r : R D} (g : Grow wd.dr H H1) (q : r.wp (fun d => ∀ v H', Grow wd.dr H H' → Rep X.K (Ban F ρ ad) H' v d → Q v H') (XP X wd F ρ ad H)) :
    r.wp (fun d => ∀ v H', Grow wd.dr H1 H' → Rep X.K (Ban F ρ ad) H' v d → Q v H') (XP X wd F ρ ad H1) := wp_mono (fun _ z v H' g' r => z v H' (g.trans g') r) (fun _ _ z => z.grow g) q
theorem postT_grow {F : Addr → Prop} {ad : Nat → Addr} {H H1 : Hp} {Q : Bool → Hp → Prop} {r : R Bool} (g : Grow wd.dr H H1) (q : r.wp (fun d => ∀ H', Grow wd.dr H H' → Q d H') (XP X wd F ρ ad H)) :
    r.wp (fun d => ∀ H', Grow wd.dr H1 H' → Q d H') (XP X wd F ρ ad H1) := wp_mono (fun _ z H' g' => z H' (g.trans g')) (fun _ _ z => z.grow g) q
/-! ### truth -/
theorem tru_of {B : Addr → Prop} {K : PySem.W.Frag} {H : Hp} {v : V} {d : D} (r : RepB K B H v d) {Q : Bool → Prop} {E : Nat → D → Prop} (q : (truR d).wp Q E) : ∃ k, TruV K v H k ∧ Q k := by
  cases d with
  | none => rw [r.non]; exact ⟨false, rfl, q⟩
  | bool b => rw [r.bool]; exact ⟨b, rfl, q⟩
  | int b => rw [r.int]; exact ⟨_, rfl, q⟩
  | str x =>
    obtain ⟨h, q⟩ := wp_ite q
    rw [r.str]
    refine ⟨_, ⟨h, rfl⟩, ?_⟩
    have e : ((x.length : Int) != 0) = (x.length != 0) := by
      cases x.length with
      | zero => rfl
      | succ n => simp; omega
    rw [e]
    exact q
  | list xs =>
    obtain ⟨a, vs, rfl, e, rr⟩ := r.list
    refine ⟨_, .inl ⟨vs, .inl e, rfl⟩, ?_⟩
    have e : vs.isEmpty = xs.isEmpty := by
      have := rr.length
      cases vs <;> cases xs <;> simp_all
    rw [e]
    exact q
  | tuple xs =>
    obtain ⟨a, vs, rfl, e, rr⟩ := r.tuple
    refine ⟨_, .inr (.inl ⟨vs, e.sq, rfl⟩), ?_⟩
    have e : vs.isEmpty = xs.isEmpty := by
      have := rr.length
      cases vs <;> cases xs <;> simp_all
    rw [e]
    exact q
  | dict _ => exact r.nodict.elim
/-- an expression's truth as a test -/
theorem evt_tru (ha : EvB X wd ρ a ra) (he : ∀ whole, isTrue a X.env whole = (do let v ← whole; standAt a.pos; holding [v] (truthy v)) := by exact fun _ => rfl) : EvT X wd ρ a (ra.bind fun x => truR x) := fun F ad σ H Q s q => by
  refine bt (pt_truth pe_b he) ?_
  rw [wp_bind] at q
  refine ha F ad σ H _ s (wp_mono (fun d q v H1 g1 r1 => ?_) (fun _ _ z => z) q)
  exact tru_of r1 (wp_mono (fun b z => z _ g1) (fun _ _ z => z) q)
/-- an expression that is a bool, as a test -/
theorem evt_val (ha : EvB X wd ρ a ra) (he : ∀ whole, isTrue a X.env whole = (do let v ← whole; standAt a.pos; holding [v] (truthy v)) := by exact fun _ => rfl) : EvT X wd ρ a (ra.bind fun x => boolR x) := fun F ad σ H Q s q => by
  refine bt (pt_val pe_b he) ?_
  rw [wp_bind] at q
  refine ha F ad σ H _ s (wp_mono (fun d q v H1 g1 r1 => ?_) (fun _ _ z => z) q)
  cases d with
  | bool i => exact ⟨i, r1.bool, q _ g1⟩
  | _ => exact q.elim
/-- a comparison as a test -/
theorem evt_cmp {op : CmpOp} {r : R2} {g : D → D → R D} (ho : OpR X (compareOp op) r) (hs : OpS X.K r g) (hm : behindInMarks op b = false) (ha : EvB X wd ρ a ra) (hb : EvB X wd ρ b rb) : EvT X wd ρ (.Compare a [op] [b] pos) (ra.bind fun x => rb.bind fun y => (g x y).bind boolR) := fun F ad σ H Q s q => by
  refine bt (pt_cmpR ho pe_b pe_b hm) ?_
  rw [wp_bind] at q
  refine ha F ad σ H _ s (wp_mono (fun d q v H1 g1 r1 => ?_) (fun _ _ z => z) q)
  rw [wp_bind] at q
  have s1 := s.grow g1
  refine hb F ad σ H1 _ s1 (wp_mono (fun d2 q v2 H2 g2 r2 => ?_) (fun _ _ z => z.grow g1) q)
  have s2 := s1.grow g2
  rw [wp_bind] at q
  refine hs (Ban F ρ ad) H2 v v2 d d2 _ _ (fun b z => s2.banned z) (r1.stay s1 g2) r2 (wp_mono (fun z q v H' sm r => ?_) (fun _ _ z => z) q)
  cases z with
  | bool i => exact ⟨i, RepB.bool (.inl r), q _ (g1.trans (g2.trans (Grow.same sm)))⟩
  | _ => exact q.elim
theorem evt_lt (ha : EvB X wd ρ a ra) (hb : EvB X wd ρ b rb) : EvT X wd ρ (.Compare a [.Lt] [b] pos) (ra.bind fun x => rb.bind fun y => (ltR x y).bind boolR) := evt_cmp op_lt opS_lt (nobehind _ (by decide) (by decide)) ha hb
theorem evt_le (ha : EvB X wd ρ a ra) (hb : EvB X wd ρ b rb) : EvT X wd ρ (.Compare a [.LtE] [b] pos) (ra.bind fun x => rb.bind fun y => (leR x y).bind boolR) := evt_cmp op_le opS_le (nobehind _ (by decide) (by decide)) ha hb
theorem evt_gt (ha : EvB X wd ρ a ra) (hb : EvB X wd ρ b rb) : EvT X wd ρ (.Compare a [.Gt] [b] pos) (ra.bind fun x => rb.bind fun y => (gtR x y).bind boolR) := evt_cmp op_gt opS_gt (nobehind _ (by decide) (by decide)) ha hb
theorem evt_ge (ha : EvB X wd ρ a ra) (hb : EvB X wd ρ b rb) : EvT X wd ρ (.Compare a [.GtE] [b] pos) (ra.bind fun x => rb.bind fun y => (geR x y).bind boolR) := evt_cmp op_ge opS_ge (nobehind _ (by decide) (by decide)) ha hb
theorem evt_eq (c : Cw CX k wd N sc X) (ha : EvB X wd ρ a ra) (hb : EvB X wd ρ b rb) : EvT X wd ρ (.Compare a [.Eq] [b] pos) (ra.bind fun x => rb.bind fun y => (eqR x y).bind boolR) := evt_cmp (op_eqD c.u64) opS_eq (nobehind _ (by decide) (by decide)) ha hb
theorem evt_ne (c : Cw CX k wd N sc X) (ha : EvB X wd ρ a ra) (hb : EvB X wd ρ b rb) : EvT X wd ρ (.Compare a [.NotEq] [b] pos) (ra.bind fun x => rb.bind fun y => (neR x y).bind boolR) := evt_cmp (op_neD c.u64) opS_ne (nobehind _ (by decide) (by decide)) ha hb
theorem evt_is (ha : EvB X wd ρ a ra) (hb : EvB X wd ρ b rb) : EvT X wd ρ (.Compare a [.Is] [b] pos) (ra.bind fun x => rb.bind fun y => (isR x y).bind boolR) := evt_cmp op_is2 opS_is (nobehind _ (by decide) (by decide)) ha hb
theorem evt_isNot (ha : EvB X wd ρ a ra) (hb : EvB X wd ρ b rb) : EvT X wd ρ (.Compare a [.IsNot] [b] pos) (ra.bind fun x => rb.bind fun y => (isNotR x y).bind boolR) := evt_cmp op_isNot2 opS_isNot (nobehind _ (by decide) (by decide)) ha hb
variable {ta tb : R Bool}
theorem evt_not (ha : EvT X wd ρ a ta) : EvT X wd ρ (.UnaryOp .Not a pos) (ta.bind fun b => R.ret (!b)) := fun F ad σ H Q s q => by
  refine bt (pt_not pt_b) ?_
  rw [wp_bind] at q
  exact ha F ad σ H _ s q
theorem evw_and1 (ha : EvT X wd ρ a ta) : EvW X wd ρ (.BoolOp .And [a] pos) ta := fun F ad σ H Q s q => bw (pw_and1 pt_b) (ha F ad σ H _ s q)
theorem evw_or1 (ha : EvT X wd ρ a ta) : EvW X wd ρ (.BoolOp .Or [a] pos) ta := fun F ad σ H Q s q => bw (pw_or1 pt_b) (ha F ad σ H _ s q)
theorem evw_and (ha : EvT X wd ρ a ta) (hb : EvW X wd ρ (.BoolOp .And (b :: rest) pos) tb) : EvW X wd ρ (.BoolOp .And (a :: b :: rest) pos) (ta.bind fun x => if x = true then tb else R.ret false) := fun F ad σ H Q s q => by
  refine bw (pw_and pt_b pw_b) ?_
  rw [wp_bind] at q
  refine ha F ad σ H _ s (wp_mono (fun x q H1 g1 => ?_) (fun _ _ z => z) q)
  cases x with
  | true => exact iteT (hb F ad σ H1 _ (s.grow g1) (postT_grow g1 q))
  | false => exact iteF (q _ g1)
theorem evw_or (ha : EvT X wd ρ a ta) (hb : EvW X wd ρ (.BoolOp .Or (b :: rest) pos) tb) : EvW X wd ρ (.BoolOp .Or (a :: b :: rest) pos) (ta.bind fun x => if x = true then R.ret true else tb) := fun F ad σ H Q s q => by
  refine bw (pw_or pt_b pw_b) ?_
  rw [wp_bind] at q
  refine ha F ad σ H _ s (wp_mono (fun x q H1 g1 => ?_) (fun _ _ z => z) q)
  cases x with
  | false => exact iteF (hb F ad σ H1 _ (s.grow g1) (postT_grow g1 q))
  | true => exact iteT (q _ g1)
theorem evt_w (ha : EvW X wd ρ a ta) : EvT X wd ρ a ta := fun F ad σ H Q s q => bt pw_b.pt (ha F ad σ H _ s q)
/-! .. as values -/
theorem ev_one {op : PySem.BoolOp} (ha : Ev X wd ρ a ra) : Ev X wd ρ (.BoolOp op [a] pos) ra := fun F ad σ H Q s q => be (pe_one pe_b) (ha F ad σ H _ s q)
theorem ev_and (ha : Ev X wd ρ a ra) (hb : Ev X wd ρ (.BoolOp .And (b :: rest) pos) rb) : Ev X wd ρ (.BoolOp .And (a :: b :: rest) pos) (ra.bind fun x => (boolR x).bind fun x => if x = true then rb else R.ret (.bool false)) := fun F ad σ H Q s q => by
  refine be (pe_and pe_b pe_b) ?_
  rw [wp_bind] at q
  refine ha F ad σ H _ s (wp_mono (fun x q v H1 g1 r1 => ?_) (fun _ _ z => z) q)
  cases x with
  | bool x =>
    refine ⟨x, RepB.bool (.inl r1), ?_⟩
    cases x with
    | true => exact iteT (hb F ad σ H1 _ (s.grow g1) (post_grow g1 q))
    | false => exact iteF (q _ _ g1 (.bl _))
  | _ => exact q.elim
theorem ev_or (ha : Ev X wd ρ a ra) (hb : Ev X wd ρ (.BoolOp .Or (b :: rest) pos) rb) : Ev X wd ρ (.BoolOp .Or (a :: b :: rest) pos) (ra.bind fun x => (boolR x).bind fun x => if x = true then R.ret (.bool true) else rb) := fun F ad σ H Q s q => by
  refine be (pe_or pe_b pe_b) ?_
  rw [wp_bind] at q
  refine ha F ad σ H _ s (wp_mono (fun x q v H1 g1 r1 => ?_) (fun _ _ z => z) q)
  cases x with
  | bool x =>
    refine ⟨x, RepB.bool (.inl r1), ?_⟩
    cases x with
    | false => exact iteF (hb F ad σ H1 _ (s.grow g1) (post_grow g1 q))
    | true => exact iteT (q _ _ g1 (.bl _))
  | _ => exact q.elim
theorem ev_not (ha : Ev X wd ρ a ra) : Ev X wd ρ (.UnaryOp .Not a pos) (ra.bind fun x => notR x) := fun F ad σ H Q s q => by
  refine be (pe_not pe_b) ?_
  rw [wp_bind] at q
  refine ha F ad σ H _ s (wp_mono (fun x q v H1 g1 r1 => ?_) (fun _ _ z => z) q)
  cases x with
  | bool x => exact ⟨x, RepB.bool (.inl r1), q _ _ g1 (.bl _)⟩
  | _ => exact q.elim
theorem ev_ifExp (hc : EvT X wd ρ c ta) (ha : Ev X wd ρ a ra) (hb : Ev X wd ρ b rb) : Ev X wd ρ (.IfExp c a b pos) (ta.bind fun x => if x = true then ra else rb) := fun F ad σ H Q s q => by
  refine be (pe_ifExp pt_b pe_b pe_b) ?_
  rw [wp_bind] at q
  refine hc F ad σ H _ s (wp_mono (fun x q H1 g1 => ?_) (fun _ _ z => z) q)
  cases x with
  | true => exact iteT (ha F ad σ H1 _ (s.grow g1) (post_grow g1 q))
  | false => exact iteF (hb F ad σ H1 _ (s.grow g1) (post_grow g1 q))
/-- a op b op' c of ints -/
theorem ev_chain {op op' : CmpOp} {r r' : R2} {g g' : D → D → R D} {rc : R D} (ho : OpR X (compareOp op) r) (ho' : OpR X (compareOp op') r') (hs : OpS X.K r g) (hs' : OpS X.K r' g') (ha : EvB X wd ρ a ra) (hb : EvB X wd ρ b rb) (hc : EvB X wd ρ c rc)
    (hm : lastMarks [op, op'] [b, c] = false := by with_unfolding_all rfl) :
    Ev X wd ρ (.Compare a [op, op'] [b, c] pos) (ra.bind fun x => rb.bind fun y => (g x y).bind fun z => (boolR z).bind fun k => if k = true then rc.bind fun w => g' y w else R.ret (.bool false)) := fun F ad σ H Q s q => by
  refine be (pe_chain ho ho' pe_b pe_b pe_b hm) ?_
  rw [wp_bind] at q
  refine ha F ad σ H _ s (wp_mono (fun d q v H1 g1 r1 => ?_) (fun _ _ z => z) q)
  rw [wp_bind] at q
  have s1 := s.grow g1
  refine hb F ad σ H1 _ s1 (wp_mono (fun d2 q v2 H2 g2 r2 => ?_) (fun _ _ z => z.grow g1) q)
  have s2 := s1.grow g2
  rw [wp_bind] at q
  refine hs (Ban F ρ ad) H2 v v2 d d2 _ _ (fun b z => s2.banned z) (r1.stay s1 g2) r2 (wp_mono (fun z q v3 H3 sm r3 => ?_) (fun _ _ z => z.grow (g1.trans g2)) q)
  cases z with
  | bool k =>
    refine ⟨k, RepB.bool (.inl r3), ?_⟩
    have g3 := Grow.same (dr := wd.dr) sm
    have s3 := s2.grow g3
    cases k with
    | false => exact iteF (q _ _ (g1.trans (g2.trans g3)) (.bl _))
    | true =>
      have q : wp (fun d => ∀ v H', Grow wd.dr H H' → Rep X.K (Ban F ρ ad) H' v d → Q v H') (XP X wd F ρ ad H) (rc.bind fun w => g' d2 w) := q
      rw [wp_bind] at q
      refine iteT (hc F ad σ H3 _ s3 (wp_mono (fun d4 q v4 H4 g4 r4 => ?_) (fun _ _ z => z.grow (g1.trans (g2.trans g3))) q))
      have s4 := s3.grow g4
      exact hs' (Ban F ρ ad) H4 v2 v4 d2 d4 _ _ (fun b z => s4.banned z) ((r2.stay s2 g3).stay s3 g4) r4 (wp_mono (fun (z : D) (q : ∀ (v : V) (H' : Hp), Grow wd.dr H H' → Rep X.K (Ban F ρ ad) H' v z → Q v H') (v5 : V) (H5 : Hp) sm5 r5 => q _ _ (g1.trans (g2.trans (g3.trans (g4.trans (Grow.same sm5))))) r5) (fun _ _ z => z) q)
  | _ => exact q.elim
/-! ### arguments, displays -/
theorem eva_nil : EvA X wd ρ [] (R.ret []) := fun F ad σ H Q s q => ba pa_nil (q _ _ (Grow.refl _ _) .nil)
theorem eva_cons {es : List Expr} {rs : R (List D)} (ha : Ev X wd ρ a ra) (hr : EvA X wd ρ es rs) (hs : starEach (a :: es) X.env = (false, eval a X.env) :: starEach es X.env := by rfl) : EvA X wd ρ (a :: es) (ra.bind fun d => rs.bind fun ds => R.ret (d :: ds)) := fun F ad σ H Q s q => by
  refine ba (pa_cons pe_b pa_b hs) ?_
  rw [wp_bind] at q
  refine ha F ad σ H _ s (wp_mono (fun d q v H1 g1 r1 => ?_) (fun _ _ z => z) q)
  rw [wp_bind] at q
  have s1 := s.grow g1
  refine hr F ad σ H1 _ s1 (wp_mono (fun ds q vs H2 g2 r2 => ?_) (fun _ _ z => z.grow g1) q)
  exact q _ _ (g1.trans g2) (.cons (r1.stay (s1.stays g2)) r2)
theorem ev_tup {es : List Expr} {x1 : Nat} {rs : R (List D)} (h : EvA X wd ρ es rs) : Ev X wd ρ (.Tuple es x1 pos) (rs.bind fun ds => if ds.length ≤ sizeLine then R.ret (.tuple ds) else bad) := fun F ad σ H Q s q => by
  refine be (pe_tup pa_b) ?_
  rw [wp_bind] at q
  refine h F ad σ H _ s (wp_mono (fun ds q vs H1 g1 r1 => ?_) (fun _ _ z => z) q)
  obtain ⟨hz, q⟩ := wp_ite q
  have s1 := s.grow g1
  exact ⟨by rw [r1.length]; exact hz, fun p hp => q _ _ (g1.trans (Grow.same (same_upd hp))) (newtup (fun b z => s1.banned z) hp r1)⟩
theorem evl_lst {es : List Expr} {rs : R (List D)} (h : EvA X wd ρ es rs) : EvL X wd ρ (.List es pos) (rs.bind fun ds => if ds.length ≤ sizeLine then R.ret ds else bad) := fun F ad σ H Q s q => by
  refine be (pe_lst pa_b) ?_
  rw [wp_bind] at q
  refine h F ad σ H _ s (wp_mono (fun ds q vs H1 g1 r1 => ?_) (fun _ _ z => z) q)
  obtain ⟨hz, q⟩ := wp_ite q
  have s1 := s.grow g1
  exact ⟨by rw [r1.length]; exact hz, fun p hp => q _ _ _ (g1.trans (Grow.same (same_upd hp))) (free_grow s g1 hp) upd_same ((r1.ban fun b z => by
    rcases z with z | rfl
    · exact .inl z
    · exact .inr hp).stay (same_stay (same_upd hp)))⟩
end
end Pu
/-! Pg: slices, built-in calls, what is walked, comprehensions, calls of defs. -/
namespace Pu
open PySem PySem.Spec PyProof.Rows L2 R
section
variable {CX : CXT} {k : Nat} {wd : Wd} {N : List Str} {sc : Scope} {X : Cx} {ρ : List Sl} {e a b c : Expr} {rest : List Expr} {pos p : Pos} {ra rb : R D}
/-! ### slices -/
def BO (X : Cx) (e : Option Expr) : TO := fun σ H Q => ∀ (pins : List (Addr × Obj)) (s : Shared), Inv X pins σ H s → wpAny (model X.prog X.w) X.A (evalPart e X.env) (fun u s' => ∃ o H', Inv X pins σ H' s' ∧ IsPart u o ∧ Q o H') X.xe s
theorem po_b {e : Option Expr} : PO X e (BO X e) := ⟨fun pins s _ _ _ I h => h pins s I⟩
theorem bo {e : Option Expr} {t : TO} {σ : L2.St} {H : Hp} {Q : Option Int → Hp → Prop} (h : PO X e t) (q : t σ H Q) : BO X e σ H Q := fun pins s I => h.run pins s σ H Q I q
def EvP (X : Cx) (wd : Wd) (ρ : List Sl) (e : Option Expr) (r : R (Option Int)) : Prop := ∀ (F : Addr → Prop) (ad : Nat → Addr) (σ : L2.St) (H : Hp) (Q : Option Int → Hp → Prop), StOk X.K wd.dr F ρ σ H ad →
  r.wp (fun i => ∀ H', Grow wd.dr H H' → Q i H') (XP X wd F ρ ad H) → BO X e σ H Q
theorem evp_none : EvP X wd ρ none (R.ret none) := fun F ad σ H Q s q => bo po_none (q _ (Grow.refl _ _))
theorem evp_some (ha : EvB X wd ρ a ra) : EvP X wd ρ (some a) (ra.bind fun x => partR x) := fun F ad σ H Q s q => by
  refine bo (po_some pe_b) ?_
  rw [wp_bind] at q
  refine ha F ad σ H _ s (wp_mono (fun d q v H1 g1 r1 => ?_) (fun _ _ z => z) q)
  cases d with
  | int i => exact ⟨i, r1.int, q _ g1⟩
  | _ => exact q.elim
theorem cut_reps {K : PySem.W.Frag} {B : Addr → Prop} {H : Hp} {vs : List V} {ds : List D} (r : Reps K B H vs ds) (lo hi : Option Int) : Reps K B H (cutV vs lo hi) (cutD ds lo hi) := by
  unfold cutV cutD
  rw [r.length]
  exact (r.drop _).take _
theorem ev_slice {lo hi : Option Expr} {p2 : Pos} {rl rh : R (Option Int)} (ha : EvB X wd ρ a ra) (hl : EvP X wd ρ lo rl) (hh : EvP X wd ρ hi rh) : Ev X wd ρ (.Subscript a (.Slice lo hi none p2) pos) (ra.bind fun x => rl.bind fun l => rh.bind fun h => sliceR x l h) := fun F ad σ H Q s q => by
  refine be (pe_slice (SlR.or sl_list (SlR.or sl_tupA sl_str)) pe_b po_b po_b) ?_
  rw [wp_bind] at q
  refine ha F ad σ H _ s (wp_mono (fun d q v H1 g1 r1 => ?_) (fun _ _ z => z) q)
  rw [wp_bind] at q
  have s1 := s.grow g1
  refine hl F ad σ H1 _ s1 (wp_mono (fun l q H2 g2 => ?_) (fun _ _ z => z.grow g1) q)
  rw [wp_bind] at q
  have s2 := s1.grow g2
  refine hh F ad σ H2 _ s2 (wp_mono (fun h q H3 g3 => ?_) (fun _ _ z => z.grow (g1.trans g2)) q)
  have s3 := s2.grow g3
  have r3 := (r1.stay s1 g2).stay s2 g3
  have g := g1.trans (g2.trans g3)
  have nb : ∀ b, Ban F ρ ad b → ∃ o, H3 b = some o := fun b z => s3.banned z
  cases d with
  | list ds =>
    obtain ⟨a1, vs, rfl, h1, rr⟩ := r3.list
    exact .inl ⟨a1, vs, rfl, .inl h1, fun p hp => q _ _ (g.trans (Grow.same (same_upd hp))) (newlst nb hp (cut_reps rr l h))⟩
  | tuple ds =>
    obtain ⟨a1, vs, rfl, h1, rr⟩ := r3.tuple
    refine .inr (.inl ⟨a1, vs, rfl, h1.sq, fun z => ?_, fun z p hp => q _ _ (g.trans (Grow.same (same_upd hp))) (newtup nb hp (cut_reps rr l h))⟩)
    have e : cutD ds l h = ds := by
      unfold cutD
      rw [← rr.length, z.1, z.2, List.drop_zero, Nat.sub_zero, rr.length]
      exact List.take_length
    refine q _ _ g ?_
    rw [e]
    exact .tup h1 rr
  | str z =>
    obtain ⟨hz, q⟩ := wp_ite q
    exact .inr (.inr ⟨z, r3.str, hz, q _ _ g (.str _)⟩)
  | _ => exact q.elim
/-! ### built-in calls -/
def CalS (K : PySem.W.Frag) (r : List V → Hp → VK → Prop) (g : D → R D) : Prop := ∀ (B : Addr → Prop) (H : Hp) (x : V) (d : D) (Q : VK) (E : Nat → D → Prop), (∀ b, B b → ∃ o, H b = some o) → RepB K B H x d →
  (g d).wp (fun z => ∀ v H', Same H H' → Rep K B H' v z → Q v H') E → r [x] H Q
def CalS2 (K : PySem.W.Frag) (r : List V → Hp → VK → Prop) (g : D → D → R D) : Prop := ∀ (B : Addr → Prop) (H : Hp) (x y : V) (d e : D) (Q : VK) (E : Nat → D → Prop), (∀ b, B b → ∃ o, H b = some o) → RepB K B H x d → RepB K B H y e →
  (g d e).wp (fun z => ∀ v H', Same H H' → Rep K B H' v z → Q v H') E → r [x, y] H Q
theorem call_core {f : Expr} {r : List V → Hp → VK → Prop} {g : D → R D} (hp : PE X (.Call f [a] [] pos) (tCB r (tCons (BE X a) tNil))) (hs : CalS X.K r g) (ha : EvB X wd ρ a ra) : Ev X wd ρ (.Call f [a] [] pos) (ra.bind fun x => g x) := fun F ad σ H Q s q => by
  refine be hp ?_
  rw [wp_bind] at q
  refine ha F ad σ H _ s (wp_mono (fun d q v H1 g1 r1 => ?_) (fun _ _ z => z) q)
  have s1 := s.grow g1
  exact hs (Ban F ρ ad) H1 v d Q _ (fun b z => s1.banned z) r1 (wp_mono (fun z q v H' sm r => q v H' (g1.trans (Grow.same sm)) r) (fun _ _ z => z) q)
theorem call_core2 {f : Expr} {r : List V → Hp → VK → Prop} {g : D → D → R D} (hp : PE X (.Call f [a, b] [] pos) (tCB r (tCons (BE X a) (tCons (BE X b) tNil)))) (hs : CalS2 X.K r g) (ha : EvB X wd ρ a ra) (hb : EvB X wd ρ b rb) : Ev X wd ρ (.Call f [a, b] [] pos) (ra.bind fun x => rb.bind fun y => g x y) := fun F ad σ H Q s q => by
  refine be hp ?_
  rw [wp_bind] at q
  refine ha F ad σ H _ s (wp_mono (fun d q v H1 g1 r1 => ?_) (fun _ _ z => z) q)
  rw [wp_bind] at q
  have s1 := s.grow g1
  refine hb F ad σ H1 _ s1 (wp_mono (fun d2 q v2 H2 g2 r2 => ?_) (fun _ _ z => z.grow g1) q)
  have s2 := s1.grow g2
  exact hs (Ban F ρ ad) H2 v v2 d d2 Q _ (fun b z => s2.banned z) (r1.stay s1 g2) r2 (wp_mono (fun z q v H' sm r => q v H' (g1.trans (g2.trans (Grow.same sm))) r) (fun _ _ z => z) q)
/-- the arguments' form: no star -/
def Plain (X : Cx) (a : Expr) : Prop := ∀ es, starEach (a :: es) X.env = (false, eval a X.env) :: starEach es X.env
theorem ev_b1 (c : Cw CX k wd N sc X) {x : Str} {id : String} {r : List V → Hp → VK → Prop} {g : D → R D} (hc : CallR X (.builtin id) r) (hs : CalS X.K r g) (hg : glB sc x = true) (hm : X.mg x = none) (hv : bootBuiltins x = some (.builtin id)) (ha : EvB X wd ρ a ra)
    (he : Plain X a := by exact fun _ => rfl) : Ev X wd ρ (.Call (.Name x p) [a] [] pos) (ra.bind fun x => g x) :=
  call_core (pe_callB hc (c.gl hg).1 hm hv (pa_cons pe_b pa_nil (he [])) (c.gl hg).2.2 (c.gl hg).2.1 (he []) rfl) hs ha
theorem ev_t1 (c : Cw CX k wd N sc X) {x : Str} {id : String} {r : List V → Hp → VK → Prop} {g : D → R D} (hc : CallR X (.type id) r) (hs : CalS X.K r g) (hg : glB sc x = true) (hm : X.mg x = none) (hv : bootBuiltins x = some (.type id)) (ha : EvB X wd ρ a ra)
    (he : Plain X a := by exact fun _ => rfl) : Ev X wd ρ (.Call (.Name x p) [a] [] pos) (ra.bind fun x => g x) :=
  call_core (pe_callTy hc (c.gl hg).1 hm hv (pa_cons pe_b pa_nil (he [])) (c.gl hg).2.2 (c.gl hg).2.1 (he []) rfl) hs ha
theorem ev_b2 (c : Cw CX k wd N sc X) {x : Str} {id : String} {r : List V → Hp → VK → Prop} {g : D → D → R D} (hc : CallR X (.builtin id) r) (hs : CalS2 X.K r g) (hg : glB sc x = true) (hm : X.mg x = none) (hv : bootBuiltins x = some (.builtin id)) (ha : EvB X wd ρ a ra) (hb : EvB X wd ρ b rb)
    (he : Plain X a := by exact fun _ => rfl) (he2 : Plain X b := by exact fun _ => rfl) : Ev X wd ρ (.Call (.Name x p) [a, b] [] pos) (ra.bind fun x => rb.bind fun y => g x y) :=
  call_core2 (pe_callB hc (c.gl hg).1 hm hv (pa_cons pe_b (pa_cons pe_b pa_nil (he2 [])) (he [b])) (c.gl hg).2.2 (c.gl hg).2.1 (he [b]) (by rw [he2 []]; rfl)) hs ha hb
end
section
variable {K : PySem.W.Frag}
theorem calS_len : CalS K (fun xs H Q => ∃ x n, xs = [x] ∧ LenV K x H n ∧ Q (.int n) H) lenR := by
  intro B H x d Q E nb r q
  cases d with
  | str z =>
    obtain ⟨h, q⟩ := wp_ite q
    exact ⟨x, z.length, rfl, by rw [r.str]; exact ⟨h, rfl⟩, q _ _ (Same.refl _) (.int _)⟩
  | list ds =>
    obtain ⟨a, vs, rfl, e, rr⟩ := r.list
    exact ⟨_, ds.length, rfl, .inl ⟨vs, .inl e, rr.length.symm⟩, q _ _ (Same.refl _) (.int _)⟩
  | tuple ds =>
    obtain ⟨a, vs, rfl, e, rr⟩ := r.tuple
    exact ⟨_, ds.length, rfl, .inr ⟨vs, e.sq, rr.length.symm⟩, q _ _ (Same.refl _) (.int _)⟩
  | _ => exact q.elim
theorem calS_tuple : CalS K (fun xs H Q => ∃ p ys, xs = [.ref p] ∧ ((SqL K H p ys ∧ ∀ l, H l = none → Q (.ref l) (upd H l (.tup ys))) ∨ (SqT K H p ys ∧ Q (.ref p) H))) tupleR := by
  intro B H x d Q E nb r q
  cases d with
  | list ds =>
    obtain ⟨a, vs, rfl, e, rr⟩ := r.list
    exact ⟨a, vs, rfl, .inl ⟨.inl e, fun p hp => q _ _ (same_upd hp) (newtup nb hp rr)⟩⟩
  | tuple ds =>
    obtain ⟨a, vs, rfl, e, rr⟩ := r.tuple
    exact ⟨a, vs, rfl, .inr ⟨e.sq, q _ _ (Same.refl _) (.tup e rr)⟩⟩
  | _ => exact q.elim
theorem calS_list : CalS K (fun xs H Q => ∃ p ys, xs = [.ref p] ∧ (SqL K H p ys ∨ SqT K H p ys) ∧ ∀ l, H l = none → Q (.ref l) (upd H l (.lst ys))) listR := by
  intro B H x d Q E nb r q
  cases d with
  | list ds =>
    obtain ⟨a, vs, rfl, e, rr⟩ := r.list
    exact ⟨a, vs, rfl, .inl (.inl e), fun p hp => q _ _ (same_upd hp) (newlst nb hp rr)⟩
  | tuple ds =>
    obtain ⟨a, vs, rfl, e, rr⟩ := r.tuple
    exact ⟨a, vs, rfl, .inr e.sq, fun p hp => q _ _ (same_upd hp) (newlst nb hp rr)⟩
  | _ => exact q.elim
theorem calS_abs : CalS K (fun xs H Q => ∃ i, xs = [.int i] ∧ Q (.int (if i < 0 then -i else i)) H) absR := by
  intro B H x d Q E nb r q
  cases d with
  | int i => exact ⟨i, by rw [r.int], q _ _ (Same.refl _) (.int _)⟩
  | _ => exact q.elim
theorem calS_int : CalS K (fun xs H Q => (∃ i, xs = [.int i] ∧ Q (.int i) H) ∨ ∃ k, xs = [.bl k] ∧ Q (.int (if k then 1 else 0)) H) intR := by
  intro B H x d Q E nb r q
  cases d with
  | int i => exact .inl ⟨i, by rw [r.int], q _ _ (Same.refl _) (.int _)⟩
  | bool i => exact .inr ⟨i, by rw [r.bool], q _ _ (Same.refl _) (.int _)⟩
  | _ => exact q.elim
theorem calS_max : CalS2 K (fun xs H Q => ∃ i j, xs = [.int i, .int j] ∧ Q (.int (if j > i then j else i)) H) maxR := by
  intro B H x y d e Q E nb r r' q
  cases d with
  | int i =>
    cases e with
    | int j => exact ⟨i, j, by rw [r.int, r'.int], q _ _ (Same.refl _) (.int _)⟩
    | _ => exact q.elim
  | _ => cases e <;> exact q.elim
theorem calS_min : CalS2 K (fun xs H Q => ∃ i j, xs = [.int i, .int j] ∧ Q (.int (if j < i then j else i)) H) minR := by
  intro B H x y d e Q E nb r r' q
  cases d with
  | int i =>
    cases e with
    | int j => exact ⟨i, j, by rw [r.int, r'.int], q _ _ (Same.refl _) (.int _)⟩
    | _ => exact q.elim
  | _ => cases e <;> exact q.elim
theorem reps_ints {B : Addr → Prop} {H : Hp} : ∀ {ds : List D} {vs : List V} {ns : List Int}, Reps K B H vs ds → allSome intOf ds = some ns → vs = ns.map V.int
  | [], _, _, h, e => by cases h; cases e; rfl
  | d :: ds, _, ns, h, e => by
    cases h with
    | cons a b =>
      unfold allSome at e
      cases d with
      | int i =>
        cases e2 : allSome intOf ds with
        | none => rw [e2] at e; cases e
        | some ms =>
          rw [e2] at e
          cases e
          cases a
          rw [reps_ints b e2]
          rfl
      | _ => cases e
theorem reps_bools {B : Addr → Prop} {H : Hp} : ∀ {ds : List D} {vs : List V} {ns : List Bool}, Reps K B H vs ds → allSome boolOf ds = some ns → vs = ns.map V.bl
  | [], _, _, h, e => by cases h; cases e; rfl
  | d :: ds, _, ns, h, e => by
    cases h with
    | cons a b =>
      unfold allSome at e
      cases d with
      | bool i =>
        cases e2 : allSome boolOf ds with
        | none => rw [e2] at e; cases e
        | some ms =>
          rw [e2] at e
          cases e
          cases a
          rw [reps_bools b e2]
          rfl
      | _ => cases e
theorem calS_sum : CalS K (rSum K) sumR := by
  intro B H x d Q E nb r q
  cases d with
  | list ds =>
    obtain ⟨a, vs, rfl, e, rr⟩ := r.list
    unfold sumR at q
    cases e2 : allSome intOf ds with
    | none => simp only [e2] at q; exact q.elim
    | some ns =>
      simp only [e2] at q
      exact ⟨a, ns, rfl, by rw [← reps_ints rr e2]; exact .inl e, q _ _ (Same.refl _) (.int _)⟩
  | _ => exact q.elim
theorem calS_all : CalS K (rAll K) allR := by
  intro B H x d Q E nb r q
  cases d with
  | list ds =>
    obtain ⟨a, vs, rfl, e, rr⟩ := r.list
    unfold allR at q
    cases e2 : allSome boolOf ds with
    | none => simp only [e2] at q; exact q.elim
    | some ns =>
      simp only [e2] at q
      exact ⟨a, ns, rfl, by rw [← reps_bools rr e2]; exact .inl e, q _ _ (Same.refl _) (.bl _)⟩
  | _ => exact q.elim
theorem calS_any : CalS K (rAny K) anyR := by
  intro B H x d Q E nb r q
  cases d with
  | list ds =>
    obtain ⟨a, vs, rfl, e, rr⟩ := r.list
    unfold anyR at q
    cases e2 : allSome boolOf ds with
    | none => simp only [e2] at q; exact q.elim
    | some ns =>
      simp only [e2] at q
      exact ⟨a, ns, rfl, by rw [← reps_bools rr e2]; exact .inl e, q _ _ (Same.refl _) (.bl _)⟩
  | _ => exact q.elim
theorem tyx_of {B : Addr → Prop} {H : Hp} {x : V} {d : D} (r : RepB K B H x d) : TyX K H x (.type (tyN d)) := by
  cases d with
  | none => rw [r.non]; exact .base .non
  | bool b => rw [r.bool]; exact .base (.bl _)
  | int b => rw [r.int]; exact .base (.int _)
  | str b => rw [r.str]; exact .base (.str _)
  | list ds =>
    obtain ⟨a, vs, rfl, e, _⟩ := r.list
    rcases e with e | ⟨o, e⟩
    · exact .base (.lst e)
    · exact .base (.frz e)
  | tuple ds =>
    obtain ⟨a, vs, rfl, e, _⟩ := r.tuple
    rcases e.sq with (e | ⟨o, e⟩) | ⟨o, _, _, e, c, _⟩
    · exact .base (.tup e)
    · exact .fTuple e
    · exact .kTuple e c
  | dict _ => exact r.nodict.elim
end
section
variable {CX : CXT} {k : Nat} {wd : Wd} {N : List Str} {sc : Scope} {X : Cx} {ρ : List Sl} {e a b c : Expr} {rest : List Expr} {pos p : Pos} {ra rb : R D}
/-- isinstance(a, T), T a built-in type -/
theorem ev_isi (c : Cw CX k wd N sc X) {T : String} {y : Str} {py : Pos} (hg : glB sc "isinstance" = true) (hm : X.mg "isinstance" = none) (hv : bootBuiltins "isinstance" = some (.builtin "isinstance")) (gy : glB sc y = true) (my : X.mg y = none) (vy : bootBuiltins y = some (.type T)) (ha : EvB X wd ρ a ra)
    (he : Plain X a := by exact fun _ => rfl) : Ev X wd ρ (.Call (.Name "isinstance" p) [a, .Name y py] [] pos) (ra.bind fun x => isiR T x) := fun F ad σ H Q s q => by
  refine be (pe_callB call_isi (c.gl hg).1 hm hv (pa_cons pe_b (pa_cons (pe_bltn (v := .ty T) (c.gl gy).1 my vy rfl (c.gl gy).2.2 (c.gl gy).2.1) pa_nil rfl) (he _)) (c.gl hg).2.2 (c.gl hg).2.1 (he _) rfl) ?_
  rw [wp_bind] at q
  refine ha F ad σ H _ s (wp_mono (fun d q v H1 g1 r1 => ?_) (fun _ _ z => z) q)
  unfold isiR at q
  cases e : kitB (tyN d) T with
  | none => simp only [e] at q; exact q.elim
  | some b =>
    simp only [e] at q
    exact ⟨v, _, _, _, b, rfl, .ty T, tyx_of r1, kit_ty e, q _ _ g1 (.bl _)⟩
/-! ### what is walked -/
/-- J yields ds, as long as the heap moves by S; new places may be banned besides -/
def ItOk (S : (Addr → Prop) → Hp → Hp → Prop) (K : PySem.W.Frag) (B : Addr → Prop) (J : It) (H0 : Hp) (ds : List D) : Prop :=
  ∀ B' : Addr → Prop, (∀ b, B' b → B b ∨ H0 b = none) → (∀ b, B b → B' b) → ∃ Vd : Hp → Prop, Vd H0 ∧ (∀ H H', Vd H → S B' H H' → Vd H') ∧ (∀ H i, Vd H → i < ds.length → J.go i H) ∧
    (∀ H i x H' d, Vd H → J.yld i H x H' → ds[i]? = some d → Same H H' ∧ Rep K B' H' x d) ∧ (∀ H, Vd H → J.stop ds.length H)
theorem ItOk.mono {S S' : (Addr → Prop) → Hp → Hp → Prop} {K : PySem.W.Frag} {B : Addr → Prop} {J : It} {H0 : Hp} {ds : List D} (h : ItOk S K B J H0 ds) (hs : ∀ B' H H', (∀ b, B b → B' b) → S' B' H H' → S B' H H') : ItOk S' K B J H0 ds := by
  intro B' hb hB
  obtain ⟨Vd, h0, h1, h2, h3, h4⟩ := h B' hb hB
  exact ⟨Vd, h0, fun H H' v z => h1 H H' v (hs _ _ _ hB z), h2, h3, h4⟩
def EvI (X : Cx) (wd : Wd) (ρ : List Sl) (tg e : Expr) (r : R (List D)) : Prop := ∀ (F : Addr → Prop) (ad : Nat → Addr) (σ : L2.St) (H : Hp) (Rq : It → Hp → Prop), StOk X.K wd.dr F ρ σ H ad →
  r.wp (fun ds => ∀ J H', Grow wd.dr H H' → ItOk Stay X.K (Ban F ρ ad) J H' ds → Rq J H') (XP X wd F ρ ad H) → BI X tg e σ H Rq
def EvJ (X : Cx) (wd : Wd) (ρ : List Sl) (tg e : Expr) (r : R (List D)) : Prop := ∀ (F : Addr → Prop) (ad : Nat → Addr) (σ : L2.St) (H : Hp) (Rq : It → Hp → Prop), StOk X.K wd.dr F ρ σ H ad →
  r.wp (fun ds => ∀ J H', Grow wd.dr H H' → ItOk (fun _ => Grow wd.dr) X.K (Ban F ρ ad) J H' ds → Rq J H') (XP X wd F ρ ad H) → BI X tg e σ H Rq
theorem EvI.j {tg : Expr} {r : R (List D)} (h : EvI X wd ρ tg a r) : EvJ X wd ρ tg a r := fun F ad σ H Rq s q =>
  h F ad σ H Rq s (wp_mono (fun ds z J H' g i => z J H' g (i.mono fun B' H1 H2 hB g2 b o e nb => g2.keep b o e fun z => nb (hB _ (s.drF z)))) (fun _ _ z => z) q)
/-- a list, a tuple or a text, by values -/
theorem bi_seq {tg : Expr} {σ : L2.St} {H : Hp} {Rq : It → Hp → Prop}
    (h : BE X a σ H fun x H1 => (∃ l xs, x = .ref l ∧ SqL X.K H1 l xs ∧ Rq (Itl X.K l) H1) ∨ (∃ l xs, x = .ref l ∧ SqT X.K H1 l xs ∧ Rq (Itt X.K l) H1) ∨ ∃ z, x = .str z ∧ Rq (Its z) H1) : BI X tg a σ H Rq := by
  intro pins s I
  refine thn (h pins s I) fun v s1 ⟨x, H1, I1, r1, q1⟩ => ?_
  rcases q1 with ⟨l, xs, rfl, hq, q⟩ | ⟨l, xs, rfl, hq, q⟩ | ⟨z, rfl, q⟩
  · cases r1
    obtain ⟨its, rv, p, hz⟩ := I1.list hq
    refine wpAny_pyIter_list p.isList ?_
    refine ⟨s1.heap.objs.size, [s1.heap.objs.size], _, _, H1, rfl, I1.kept (t' := s1.toks) fun b o e => Heap.get?_push_of_some _ e, turn_list l _, ⟨_, Heap.get?_push_size _ rfl, rfl, rfl⟩, fun b hb => ?_, q⟩
    have e : b = s1.heap.objs.size := by simpa using hb
    subst e
    exact I1.fpOk (Nat.le_refl _) (I1.hok.fresh (Nat.le_refl _))
  · cases r1
    obtain ⟨its, rv, p, hz⟩ := I1.tuple hq
    refine wpAny_pyIter_tuple (show s1.heap.IsTuple l its.toArray from p) ?_
    refine ⟨s1.heap.objs.size, [s1.heap.objs.size], _, _, H1, rfl, I1.kept (t' := s1.toks) fun b o e => Heap.get?_push_of_some _ e, turn_tuple l _, ⟨_, Heap.get?_push_size _ rfl, rfl, rfl⟩, fun b hb => ?_, q⟩
    have e : b = s1.heap.objs.size := by simpa using hb
    subst e
    exact I1.fpOk (Nat.le_refl _) (I1.hok.fresh (Nat.le_refl _))
  · obtain ⟨t, rfl⟩ := r1
    cases ha : z.cps.all (· < 128)
    · exact wpAny_pyIter_wide ha (pi_one (tk := s1.toks) I1 _ (turn_str _ z t "str_iterator" (.inr rfl)) ⟨_, Heap.get?_push_size _ rfl, rfl, rfl⟩ q)
    · exact wpAny_pyIter_ascii ha (pi_one (tk := s1.toks) I1 _ (turn_str _ z t "str_ascii_iterator" (.inl rfl)) ⟨_, Heap.get?_push_size _ rfl, rfl, rfl⟩ q)
theorem sqL_inj {K : PySem.W.Frag} {H : Hp} {l : Addr} {xs ys : List V} (h : H l = some (.lst xs)) (hn : K.lookup l = none) (q : SqL K H l ys) : ys = xs := by
  rcases q with (q | ⟨o, q⟩) | ⟨o, _, _, q, _⟩
  · rw [h] at q; cases q; rfl
  · rw [h] at q; cases q
  · rw [hn] at q; cases q
theorem itl_ok {K : PySem.W.Frag} {B : Addr → Prop} {H : Hp} {l : Addr} {vs : List V} {ds : List D} {S : (Addr → Prop) → Hp → Hp → Prop} (e : Rd H l (.lst vs)) (r : Reps K B H vs ds)
    (h1 : ∀ B' : Addr → Prop, (∀ b, B' b → B b ∨ H b = none) → ∀ H1 H2, Rd H1 l (.lst vs) → S B' H1 H2 → Rd H2 l (.lst vs)) (h2 : ∀ (B' : Addr → Prop) (H1 H2 : Hp), (∀ b, B b → B' b) → S B' H1 H2 → Stay B' H1 H2) :
    ItOk S K B (Itl K l) H ds := by
  intro B' hb hB
  refine ⟨fun H => Rd H l (.lst vs) ∧ Reps K B' H vs ds, ⟨e, r.ban hb⟩, fun H1 H2 q s => ⟨h1 B' hb _ _ q.1 s, q.2.stay (h2 _ _ _ hB s)⟩, fun H1 i q hi => ?_, fun H1 i x H2 d q y ed => ?_, fun H1 q => ⟨vs, .inl q.1, by rw [q.2.length]; exact Nat.le_refl _⟩⟩
  · have hi' : i < vs.length := by rw [q.2.length]; exact hi
    exact ⟨vs, vs[i], .inl q.1, List.getElem?_eq_getElem hi'⟩
  · obtain ⟨rfl, y⟩ := y
    obtain ⟨v, e1, rv⟩ := q.2.get ed
    have e2 := y vs (.inl q.1)
    rw [e1] at e2
    cases e2
    exact ⟨Same.refl _, rv⟩
theorem itt_ok {K : PySem.W.Frag} {B : Addr → Prop} {H : Hp} {l : Addr} {vs : List V} {ds : List D} {S : (Addr → Prop) → Hp → Hp → Prop} (e : TpS K B H l vs) (r : Reps K B H vs ds)
    (h2 : ∀ (B' : Addr → Prop) (H1 H2 : Hp), (∀ b, B b → B' b) → S B' H1 H2 → Stay B' H1 H2) : ItOk S K B (Itt K l) H ds := by
  intro B' hb hB
  refine ⟨fun H => TpS K B' H l vs ∧ Reps K B' H vs ds, ⟨e.ban hb, r.ban hb⟩, fun H1 H2 q s => ⟨q.1.stay (h2 _ _ _ hB s), q.2.stay (h2 _ _ _ hB s)⟩, fun H1 i q hi => ?_, fun H1 i x H2 d q y ed => ?_, fun H1 q => ⟨vs, q.1.sq, by rw [q.2.length]; exact Nat.le_refl _⟩⟩
  · have hi' : i < vs.length := by rw [q.2.length]; exact hi
    exact ⟨vs, vs[i], q.1.sq, List.getElem?_eq_getElem hi'⟩
  · obtain ⟨rfl, y⟩ := y
    obtain ⟨v, e1, rv⟩ := q.2.get ed
    have e2 := y vs q.1.sq
    rw [e1] at e2
    cases e2
    exact ⟨Same.refl _, rv⟩
theorem its_ok {K : PySem.W.Frag} {B : Addr → Prop} {H : Hp} {z : Str} {S : (Addr → Prop) → Hp → Hp → Prop} : ItOk S K B (Its z) H (z.cps.toList.map fun c => PyData.str ⟨#[c]⟩) := by
  intro B' hb hB
  refine ⟨fun _ => True, trivial, fun _ _ _ _ => trivial, fun H1 i _ hi => by show i < z.cps.size; simpa using hi, fun H1 i x H2 d _ y ed => ?_, fun H1 _ => by show z.cps.size ≤ _; simp⟩
  obtain ⟨rfl, c, ec, rfl⟩ := y
  rw [List.getElem?_map] at ed
  have ec' : z.cps.toList[i]? = some c := by rw [Array.getElem?_toList]; exact ec
  rw [ec'] at ed
  cases ed
  exact ⟨Same.refl _, .str _⟩
theorem itr_ok {K : PySem.W.Frag} {B : Addr → Prop} {H : Hp} {lo : Int} {n : Nat} {S : (Addr → Prop) → Hp → Hp → Prop} : ItOk S K B (Itr lo n) H (rangeL lo n) := by
  have hl : (rangeL lo n).length = n := by unfold rangeL; rw [List.length_map, List.length_range]
  intro B' hb hB
  refine ⟨fun _ => True, trivial, fun _ _ _ _ => trivial, fun H1 i _ hi => by rw [hl] at hi; exact hi, fun H1 i x H2 d _ y ed => ?_, fun H1 _ => by rw [hl]; exact Nat.le_refl _⟩
  obtain ⟨rfl, rfl⟩ := y
  unfold rangeL at ed
  rw [List.getElem?_map] at ed
  by_cases hi : i < n
  · rw [List.getElem?_range hi] at ed
    cases ed
    exact ⟨Same.refl _, .int _⟩
  · rw [List.getElem?_eq_none (by rw [List.length_range]; omega)] at ed
    cases ed
theorem evi_seq {tg : Expr} (ha : Ev X wd ρ a ra) : EvI X wd ρ tg a (ra.bind fun x => itemsR x) := fun F ad σ H Rq s q => by
  refine bi_seq ?_
  rw [wp_bind] at q
  refine ha F ad σ H _ s (wp_mono (fun d q v H1 g1 r1 => ?_) (fun _ _ z => z) q)
  have s1 := s.grow g1
  cases d with
  | list ds =>
    cases r1 with
    | @lst l vs _ e nb rr =>
      refine .inl ⟨l, vs, rfl, .inl e, q _ _ g1 (itl_ok e rr (fun B' hb H2 H3 e2 st => ?_) fun _ _ _ _ st => st)⟩
      have nb' : ¬ B' l := fun z => by
        rcases hb _ z with z | z
        · exact nb z
        · rcases e with e | ⟨o, e⟩ <;> (rw [e] at z; cases z)
      exact e2.imp (fun z => st _ _ z nb') fun ⟨o, z⟩ => ⟨o, st _ _ z nb'⟩
  | tuple ds =>
    cases r1 with
    | @tup l vs _ e rr => exact .inr (.inl ⟨l, vs, rfl, e.sq, q _ _ g1 (itt_ok e rr fun _ _ _ _ st => st)⟩)
  | str z =>
    cases r1
    exact .inr (.inr ⟨z, rfl, q _ _ g1 its_ok⟩)
  | _ => exact q.elim
theorem evj_seq {tg : Expr} (ha : EvB X wd ρ a ra) : EvJ X wd ρ tg a (ra.bind fun x => itemsR x) := fun F ad σ H Rq s q => by
  refine bi_seq ?_
  rw [wp_bind] at q
  refine ha F ad σ H _ s (wp_mono (fun d q v H1 g1 r1 => ?_) (fun _ _ z => z) q)
  have s1 := s.grow g1
  have gs : ∀ (B' : Addr → Prop) (H2 H3 : Hp), (∀ b, Ban F ρ ad b → B' b) → Grow wd.dr H2 H3 → Stay B' H2 H3 := fun B' H2 H3 hB g2 b o e nb => g2.keep b o e fun z => nb (hB _ (s.drF z))
  cases d with
  | list ds =>
    obtain ⟨l, vs, rfl, e, rr⟩ := r1.list
    refine .inl ⟨l, vs, rfl, .inl e, q _ _ g1 (itl_ok e rr (fun B' hb H2 H3 e2 g2 => ?_) gs)⟩
    have nd : wd.dr ≠ some l := fun z => by
      obtain ⟨_, l2, _, _, n, rows, _, e3, _⟩ := s1.dk l z
      rcases e with e | ⟨o, e⟩ <;> (rw [e] at e3; cases e3)
    exact e2.imp (fun z => g2.keep _ _ z nd) fun ⟨o, z⟩ => ⟨o, g2.keep _ _ z nd⟩
  | tuple ds =>
    obtain ⟨l, vs, rfl, e, rr⟩ := r1.tuple
    exact .inr (.inl ⟨l, vs, rfl, e.sq, q _ _ g1 (itt_ok e rr gs)⟩)
  | str z =>
    rw [r1.str]
    exact .inr (.inr ⟨z, rfl, q _ _ g1 its_ok⟩)
  | _ => exact q.elim
theorem evi_rng1 (c : Cw CX k wd N sc X) {tg : Expr} (hg : glB sc "range" = true) (hm : X.mg "range" = none) (ha : EvB X wd ρ a ra) (he : Plain X a := by exact fun _ => rfl) : EvI X wd ρ tg (.Call (.Name "range" p) [a] [] pos) (ra.bind fun x => rng1R x) := fun F ad σ H Rq s q => by
  refine bi (pi_range1 (c.gl hg).1 hm (pa_cons pe_b pa_nil (he [])) (he [])) ?_
  rw [wp_bind] at q
  refine ha F ad σ H _ s (wp_mono (fun d q v H1 g1 r1 => ?_) (fun _ _ z => z) q)
  cases d with
  | int j =>
    obtain ⟨⟨h1, h2⟩, q⟩ := wp_ite q
    exact ⟨j, by rw [r1.int], h1, h2, q _ _ g1 itr_ok⟩
  | _ => exact q.elim
theorem evi_rng2 (c : Cw CX k wd N sc X) {tg : Expr} (hg : glB sc "range" = true) (hm : X.mg "range" = none) (ha : EvB X wd ρ a ra) (hb : EvB X wd ρ b rb) (he : Plain X a := by exact fun _ => rfl) (he2 : Plain X b := by exact fun _ => rfl) : EvI X wd ρ tg (.Call (.Name "range" p) [a, b] [] pos) (ra.bind fun x => rb.bind fun y => rng2R x y) := fun F ad σ H Rq s q => by
  refine bi (pi_range2 (c.gl hg).1 hm (pa_cons pe_b (pa_cons pe_b pa_nil (he2 [])) (he [b])) (by rw [he [b], he2 []]; rfl) (he2 [])) ?_
  rw [wp_bind] at q
  refine ha F ad σ H _ s (wp_mono (fun d q v H1 g1 r1 => ?_) (fun _ _ z => z) q)
  rw [wp_bind] at q
  have s1 := s.grow g1
  refine hb F ad σ H1 _ s1 (wp_mono (fun d2 q v2 H2 g2 r2 => ?_) (fun _ _ z => z.grow g1) q)
  cases d with
  | int i =>
    cases d2 with
    | int j =>
      obtain ⟨h1, q⟩ := wp_ite q
      exact ⟨i, j, by rw [r1.int, r2.int], h1, q _ _ (g1.trans g2) itr_ok⟩
    | _ => exact q.elim
  | _ => cases d2 <;> exact q.elim
end
end Pu
/-! Ph: targets, comprehensions, calls of defs. -/
namespace Pu
open PySem PySem.Spec PyProof.Rows L2 R
/-! ### slots are set -/
section
variable {K : PySem.W.Frag} {dr : Option Addr} {F : Addr → Prop} {ρ ρ' : List Sl} {σ σ' : L2.St} {H H' : Hp} {ad ad' : Nat → Addr}
theorem own_set {ρ : List Sl} {i j : Nat} {d : D} (h : Own (ρ.set i (.d d)) j) : Own ρ j ∧ j ≠ i := by
  obtain ⟨s, e, q⟩ := h
  by_cases hj : j = i
  · subst hj
    by_cases hl : j < ρ.length
    · rw [List.getElem?_set_self hl] at e; cases e; cases q
    · rw [List.getElem?_eq_none (by simpa using hl)] at e; cases e
  · rw [List.getElem?_set_ne (Ne.symm hj)] at e
    exact ⟨⟨s, e, q⟩, hj⟩
theorem ban_set {i : Nat} {d : D} {b : Addr} (h : Ban F (ρ.set i (.d d)) ad b) : Ban F ρ ad b := by
  rcases h with h | ⟨j, o, e⟩
  · exact .inl h
  · exact .inr ⟨j, (own_set o).1, e⟩
theorem StOk.set (h : StOk K dr F ρ σ H ad) {i : Nat} {v : V} {d : D} (r : Rep K (Ban F ρ ad) H v d) : StOk K dr F (ρ.set i (.d d)) (σ.set i (some v)) H ad := by
  refine ⟨by simpa using h.len, fun a b x y => h.inj a b (own_set x).1 (own_set y).1, fun a x => h.nf a (own_set x).1, h.fa, h.dk, fun j s e => ?_⟩
  by_cases hj : j = i
  · subst hj
    by_cases hl : j < ρ.length
    · rw [List.getElem?_set_self hl] at e
      cases e
      refine ⟨v, ?_, r.weak fun b => ban_set⟩
      rw [List.getElem?_set_self (by rw [h.len]; exact hl)]
    · rw [List.getElem?_eq_none (by simpa using hl)] at e; cases e
  · rw [List.getElem?_set_ne (Ne.symm hj)] at e
    rw [List.getElem?_set_ne (Ne.symm hj)]
    exact (h.sl j s e).mono (fun v d r => r.weak fun b => ban_set) (fun v d r => r.weak fun b => ban_set) fun _ _ q => q
theorem set_own {ρ : List Sl} {i j : Nat} {d : D} (h : Own ρ j) (hj : j ≠ i) : Own (ρ.set i (.d d)) j := by
  obtain ⟨s, e, q⟩ := h
  exact ⟨s, by rw [List.getElem?_set_ne (Ne.symm hj)]; exact e, q⟩
/-- a new place is banned -/
theorem StOk.newF (s : StOk K dr F ρ σ H ad) {p : Addr} {o : HO} (hp : H p = none) (g : Grow dr H H') (e : H' p = some o) : StOk K dr (fun b => F b ∨ b = p) ρ σ H' ad := by
  have s' := s.grow g
  have hb : ∀ b, Ban (fun b => F b ∨ b = p) ρ ad b → Ban F ρ ad b ∨ H b = none := by
    rintro b ((b | rfl) | b)
    · exact .inl (.inl b)
    · exact .inr hp
    · exact .inl (.inr b)
  have st : Stay (Ban (fun b => F b ∨ b = p) ρ ad) H H' := fun b o eb nb => g.keep b o eb fun z => nb (.inl (.inl (s.dk b z).1))
  refine ⟨s.len, s.inj, fun i oi z => ?_, fun b z => ?_, fun a z => ?_, fun i t ei => ?_⟩
  · rcases z with z | z
    · exact s.nf i oi z
    · obtain ⟨x, ex⟩ := s.there oi
      rw [z, hp] at ex; cases ex
  · rcases z with z | rfl
    · exact s'.fa b z
    · exact ⟨o, e⟩
  · obtain ⟨f, l, fl, ne, q⟩ := s'.dk a z
    exact ⟨.inl f, l, .inl fl, ne, q⟩
  · refine (s.sl i t ei).mono (fun v d r => (r.ban hb).stay st) (fun v d r => (r.ban hb).stay st) fun ho o eo => g.keep _ o eo fun z => ?_
    exact s.nf i ⟨t, ei, ho⟩ (s.dk _ z).1
theorem Grow.updNew {p : Addr} {o : HO} (g : Grow dr H H') (hp : H p = none) : Grow dr H (upd H' p o) := by
  refine ⟨fun b u e nb => ?_, fun a l z q => ?_⟩
  · rw [upd_ne (ne_of_none e hp)]
    exact g.keep b u e nb
  · obtain ⟨_, _, _, a1, l1, _⟩ := id q
    obtain ⟨n, rows, h0, h1, h2, h3⟩ := g.draw a l z q
    obtain ⟨lo, l1⟩ : ∃ o, H l = some o := by
      obtain ⟨_, _, _, _, l1, _⟩ := id q
      rcases l1 with l1 | ⟨o, l1⟩ <;> exact ⟨_, l1⟩
    exact ⟨n, rows, h0, by rw [upd_ne (ne_of_none a1 hp)]; exact h1, rd_imp h2 fun x e => by rw [upd_ne (ne_of_none l1 hp)]; exact e, h3⟩
/-- some slots are forgotten -/
def wipeS (ρ : List Sl) : List Nat → List Sl
  | [] => ρ
  | v :: vs => (wipeS ρ vs).set v .no
theorem wipeS_length : ∀ vs : List Nat, (wipeS ρ vs).length = ρ.length
  | [] => rfl
  | v :: vs => by unfold wipeS; rw [List.length_set, wipeS_length vs]
theorem wipeS_own : ∀ {vs : List Nat} {j : Nat}, Own (wipeS ρ vs) j → Own ρ j
  | [], _, h => h
  | v :: vs, j, ⟨s, e, q⟩ => by
    unfold wipeS at e
    by_cases hj : v = j
    · subst hj
      by_cases hl : v < (wipeS ρ vs).length
      · rw [List.getElem?_set_self hl] at e; cases e; cases q
      · rw [List.getElem?_eq_none (by simpa using hl)] at e; cases e
    · rw [List.getElem?_set_ne hj] at e
      exact wipeS_own ⟨s, e, q⟩
theorem own_wipeS : ∀ {vs : List Nat} {j : Nat}, j ∉ vs → Own ρ j → Own (wipeS ρ vs) j
  | [], _, _, h => h
  | v :: vs, j, hj, h => by
    obtain ⟨s, e, q⟩ := own_wipeS (vs := vs) (fun z => hj (List.mem_cons_of_mem _ z)) h
    refine ⟨s, ?_, q⟩
    unfold wipeS
    rw [List.getElem?_set_ne fun z => hj (by rw [z]; exact List.mem_cons_self)]
    exact e
theorem StOk.wiped (h : StOk K dr F ρ σ H ad) : ∀ {vs : List Nat}, StOk K dr F (wipeS ρ vs) (wipe σ vs) H ad
  | [] => h
  | v :: vs => by
    have ih := StOk.wiped h (vs := vs)
    have ow : ∀ {j}, Own (wipeS ρ (v :: vs)) j → Own (wipeS ρ vs) j := fun {j} o => by
      obtain ⟨s, e, q⟩ := o
      unfold wipeS at e
      by_cases hj : v = j
      · subst hj
        by_cases hl : v < (wipeS ρ vs).length
        · rw [List.getElem?_set_self hl] at e; cases e; cases q
        · rw [List.getElem?_eq_none (by simpa using hl)] at e; cases e
      · rw [List.getElem?_set_ne hj] at e
        exact ⟨s, e, q⟩
    have bn : ∀ b, Ban F (wipeS ρ (v :: vs)) ad b → Ban F (wipeS ρ vs) ad b := by
      rintro b (b | ⟨i, o, e⟩)
      · exact .inl b
      · exact .inr ⟨i, ow o, e⟩
    refine ⟨by rw [wipe_length, wipeS_length]; exact h.len, fun a b x y => ih.inj a b (ow x) (ow y), fun a x => ih.nf a (ow x), ih.fa, ih.dk, fun j s e => ?_⟩
    unfold wipeS at e
    by_cases hj : v = j
    · subst hj
      by_cases hl : v < (wipeS ρ vs).length
      · rw [List.getElem?_set_self hl] at e; cases e; trivial
      · rw [List.getElem?_eq_none (by simpa using hl)] at e; cases e
    · rw [List.getElem?_set_ne hj] at e
      have : (wipe σ (v :: vs))[j]? = (wipe σ vs)[j]? := by
        show ((wipe σ vs).set v none)[j]? = _
        rw [List.getElem?_set_ne hj]
      rw [this]
      exact (ih.sl j s e).mono (fun v d r => r.weak bn) (fun v d r => r.weak bn) fun _ _ q => q
theorem not_own {ρ : List Sl} {i : Nat} {s : Sl} (h : ρ[i]? = some s) (hs : s.own = false) : ¬ Own ρ i := by
  rintro ⟨t, e, q⟩
  rw [h] at e
  cases e
  rw [hs] at q
  cases q
theorem wipe_set_comm {σ : L2.St} {i : Nat} {x : Option V} : ∀ {vs : List Nat}, i ∈ vs → wipe (σ.set i x) vs = wipe σ vs
  | [], h => by simp at h
  | v :: vs, h => by
    show (wipe (σ.set i x) vs).set v none = (wipe σ vs).set v none
    by_cases hv : i ∈ vs
    · rw [wipe_set_comm hv]
    · have e : i = v := by
        rcases List.mem_cons.mp h with e | e
        · exact e
        · exact absurd e hv
      subst e
      clear h
      have : ∀ {ws : List Nat}, i ∉ ws → wipe (σ.set i x) ws = (wipe σ ws).set i x := by
        intro ws
        induction ws with
        | nil => intro _; rfl
        | cons w ws ih =>
          intro hw
          show (wipe (σ.set i x) ws).set w none = ((wipe σ ws).set w none).set i x
          rw [ih (fun z => hw (List.mem_cons_of_mem _ z)), List.set_comm _ _ (show i ≠ w from fun z => hw (by rw [z]; exact List.mem_cons_self))]
      rw [this hv, List.set_set]
theorem wipe_idem {σ : L2.St} : ∀ (vs ws : List Nat), (∀ i ∈ vs, i ∈ ws) → wipe (wipe σ vs) ws = wipe σ ws
  | [], ws, _ => rfl
  | v :: vs, ws, h => by
    show wipe ((wipe σ vs).set v none) ws = wipe σ ws
    rw [wipe_set_comm (h v List.mem_cons_self)]
    exact wipe_idem vs ws fun i hi => h i (List.mem_cons_of_mem _ hi)
end
/-! ### targets -/
/-- a target's store: the slots behind it; none where the value has not its form -/
def GS (K : PySem.W.Frag) (dr : Option Addr) (g : TG) (vs : List Nat) (ρ : List Sl) (st : D → Option (List Sl)) : Prop :=
  ∀ (F : Addr → Prop) (ad : Nat → Addr) (σ : L2.St) (H : Hp) (v : V) (d : D) (ρ' : List Sl) (Q : L2.St → Hp → Prop), StOk K dr F ρ σ H ad → Rep K (Ban F ρ ad) H v d → st d = some ρ' →
    (∀ σ', StOk K dr F ρ' σ' H ad → (∀ i, Own ρ i → i ∉ vs → Own ρ' i) → (∀ i, Own ρ' i → Own ρ i) → wipe σ' vs = wipe σ vs → Q σ' H) → g v σ H Q
theorem gs_name {K : PySem.W.Frag} {dr : Option Addr} {ρ : List Sl} {i : Nat} : GS K dr (gName i) [i] ρ (fun d => some (ρ.set i (.d d))) := by
  intro F ad σ H v d ρ' Q s r e q
  cases e
  exact q _ (s.set r) (fun j o hj => set_own o fun z => hj (by rw [z]; exact List.mem_cons_self)) (fun j o => (own_set o).1) (wipe_set_comm List.mem_cons_self)
theorem gs_name1 {K : PySem.W.Frag} {dr : Option Addr} (ρ : List Sl) {i : Nat} : GS K dr (gName i) [i] (wipeS ρ [i]) (fun d => some (ρ.set i (.d d))) := by
  have h := gs_name (K := K) (dr := dr) (ρ := wipeS ρ [i]) (i := i)
  have e : (fun d => some ((wipeS ρ [i]).set i (.d d))) = fun d => some (ρ.set i (Sl.d d)) := by
    funext d
    show some ((ρ.set i .no).set i (.d d)) = _
    rw [List.set_set]
  rw [e] at h
  exact h
def setL : List Sl → List Nat → List D → List Sl
  | ρ, i :: is, d :: ds => setL (ρ.set i (.d d)) is ds
  | ρ, _, _ => ρ
def gNames : List Nat → TGs
  | [] => gNil
  | i :: is => gCons (gName i) (gNames is)
theorem own_setL : ∀ {is : List Nat} {ds : List D} {ρ : List Sl} {j : Nat}, Own (setL ρ is ds) j → Own ρ j
  | [], _, _, _, h => h
  | _ :: _, [], _, _, h => h
  | i :: is, d :: ds, ρ, j, h => (own_set (own_setL (is := is) (ds := ds) h)).1
theorem setL_own : ∀ {is : List Nat} {ds : List D} {ρ : List Sl} {j : Nat}, Own ρ j → j ∉ is → Own (setL ρ is ds) j
  | [], _, _, _, h, _ => h
  | _ :: _, [], _, _, h, _ => h
  | i :: is, d :: ds, ρ, j, h, n => setL_own (is := is) (ds := ds) (set_own h fun z => n (by rw [z]; exact List.mem_cons_self)) fun z => n (List.mem_cons_of_mem _ z)
theorem gs_names {K : PySem.W.Frag} {dr : Option Addr} : ∀ (is : List Nat) (vs : List Nat) (ρ : List Sl), (∀ i ∈ is, i ∈ vs) → ∀ (F : Addr → Prop) (ad : Nat → Addr) (σ : L2.St) (H : Hp) (xs : List V) (ds : List D) (Q : L2.St → Hp → Prop), StOk K dr F ρ σ H ad → Reps K (Ban F ρ ad) H xs ds →
    ds.length = is.length → (∀ σ', StOk K dr F (setL ρ is ds) σ' H ad → wipe σ' vs = wipe σ vs → Q σ' H) → gNames is xs σ H Q
  | [], vs, ρ, hv, F, ad, σ, H, xs, ds, Q, s, r, hl, q => by
    cases ds with
    | nil => cases r; exact ⟨rfl, q σ s rfl⟩
    | cons => cases hl
  | i :: is, vs, ρ, hv, F, ad, σ, H, xs, ds, Q, s, r, hl, q => by
    cases ds with
    | nil => cases hl
    | cons d ds =>
      cases r with
      | @cons v vs' _ _ r rr =>
        refine ⟨v, vs', rfl, ?_⟩
        refine gs_names is vs (ρ.set i (.d d)) (fun j hj => hv j (List.mem_cons_of_mem _ hj)) F ad _ H vs' ds Q (s.set r) (rr.weak fun b => ban_set) (by simpa using hl) fun σ' s' w => q σ' s' ?_
        rw [w, wipe_set_comm (hv i List.mem_cons_self)]
def stT (n : Nat) (is : List Nat) (ρ : List Sl) : D → Option (List Sl)
  | .tuple xs => if xs.length = n then some (setL ρ is xs) else none
  | _ => none
theorem gs_tup {K : PySem.W.Frag} {dr : Option Addr} {ρ : List Sl} {is : List Nat} : GS K dr (gTup K is.length (gNames is)) is ρ (stT is.length is ρ) := by
  intro F ad σ H v d ρ' Q s r e q
  cases d with
  | tuple xs =>
    unfold stT at e
    by_cases hl : xs.length = is.length
    · simp only [if_pos hl] at e
      cases e
      obtain ⟨a, vs, rfl, h1, rr⟩ := r.tuple
      exact ⟨a, vs, rfl, h1.sq, by rw [rr.length]; exact hl, gs_names is is ρ (fun _ h => h) F ad σ H vs xs Q s rr hl fun σ' s' w => q σ' s' (fun j o hj => setL_own o hj) (fun j o => own_setL o) w⟩
    · simp only [if_neg hl] at e; cases e
  | _ => cases e
/-! ### comprehensions -/
/-- in a comprehension no error may leave -/
abbrev Wd.calm (wd : Wd) : Wd := { wd with W := fun _ _ _ => False }
theorem Cw.blk {CX : CXT} {k : Nat} {wd : Wd} {N : List Str} {sc : Scope} {X : Cx} (c : Cw CX k wd N sc X) (hF : ∀ outer H s e s', CX outer H s (fun _ _ _ => False) e s' → False) (s0 : Shared) (H0 : Hp) (scope : Scope) (C : Addr) (cl : List (Str × Addr)) (fp : List Addr) :
    Cw CX k wd.calm N (relS scope sc) (X.blk s0 H0 scope (compEnvC scope cl C X.env) fp) :=
  ⟨c.hN, by rw [← c.hs]; rfl, c.nd, c.calm, c.room, PassesOwn.never, fun pins σ H s e s' I h => hF _ _ _ _ _ h⟩
section
variable {CX : CXT} {k : Nat} {wd : Wd} {N : List Str} {sc : Scope} {X : Cx} {ρ : List Sl} {e a b c tg iter elt : Expr} {ifs : List Expr} {rest : List Expr} {pos p : Pos} {ra rb : R D}
/-- the element's (and the tests') reading in any block -/
def bE (X : Cx) (scope : Scope) (elt : Expr) : TE := fun σ H Q => ∀ s0 H0 C cl fp, BE (X.blk s0 H0 scope (compEnvC scope cl C X.env) fp) elt σ H Q
def bT (X : Cx) (scope : Scope) : List Expr → TT
  | [] => tYes
  | t :: _ => fun σ H Q => ∀ s0 H0 C cl fp, BT (X.blk s0 H0 scope (compEnvC scope cl C X.env) fp) t σ H Q
/-- what the element and the tests compute -/
structure LcEl (X : Cx) (wd : Wd) (scope : Scope) (elt : Expr) (ifs : List Expr) (st : D → Option (List Sl)) (cf : D → R Bool) (f : D → R D) : Prop where
  no : ∀ d, st d = none → cf d = bad
  el : ∀ d ρ', st d = some ρ' → ∀ s0 H0 C cl fp, Ev (X.blk s0 H0 scope (compEnvC scope cl C X.env) fp) wd.calm ρ' elt (f d)
  ts : ∀ d ρ', st d = some ρ' → match ifs with
    | [] => cf d = R.ret true
    | t :: _ => ∀ s0 H0 C cl fp, EvT (X.blk s0 H0 scope (compEnvC scope cl C X.env) fp) wd.calm ρ' t (cf d)
theorem xp_false {X : Cx} {wd : Wd} {F : Addr → Prop} {ad : Nat → Addr} {H : Hp} {α : Type} {Q : α → Prop} {r : R α} (q : r.wp Q fun _ _ => False) : r.wp Q (XP X wd F ρ ad H) := wp_mono (fun _ z => z) (fun _ _ z => z.elim) q
theorem wp_nx' {α : Type} {Q : α → Prop} {E E' : Nat → D → Prop} : ∀ {r : R α}, wp Q E (nx r) → wp Q E' (nx r)
  | .ret a, h => h
  | .exc c x, h => h
  | .bad, h => h
  | .pick n k, h => fun i a b => wp_nx' (h i a b)
theorem lc_read {scope : Scope} {g : TG} {vs : List Nat} {st : D → Option (List Sl)} {cf : D → R Bool} {f : D → R D} {r : R (List D)} (hi : EvJ X wd ρ tg iter r) (hgs : GS X.K wd.dr g vs (wipeS ρ vs) st) (hno : ∀ i ∈ vs, ¬ Own ρ i) (hel : LcEl X wd scope elt ifs st cf f)
    (F : Addr → Prop) (ad : Nat → Addr) (σ : L2.St) (H : Hp) (Q : VK) (s : StOk X.K wd.dr F ρ σ H ad)
    (q : (r.bind fun ds => compR cf f ds []).wp (fun ds => ∀ a vs H', Grow wd.dr H H' → H a = none → H' a = some (.lst vs) → Reps X.K (fun b => Ban F ρ ad b ∨ b = a) H' vs ds → Q (.ref a) H') (XP X wd F ρ ad H)) :
    tLc (BI X tg iter) g (bT X scope ifs) (bE X scope elt) vs σ H Q := by
  rw [wp_bind] at q
  refine hi F ad σ H _ s (wp_mono (fun ds q J H1 g1 hJ => ?_) (fun _ _ z => z) q)
  intro Dn hDn
  have hDn0 := free_grow s g1 hDn
  have s1 := s.grow g1
  -- the new list's place is banned besides
  generalize hF' : (fun b => F b ∨ b = Dn) = F'
  have FF : ∀ b, Ban F ρ ad b → Ban F' ρ ad b := by
    rintro b (z | z)
    · subst hF'; exact .inl (.inl z)
    · exact .inr z
  have FD : Ban F' ρ ad Dn := by subst hF'; exact .inl (.inr rfl)
  have FN : ∀ b, Ban F' ρ ad b → Ban F ρ ad b ∨ H1 b = none := by
    subst hF'
    rintro b ((z | rfl) | z)
    · exact .inl (.inl z)
    · exact .inr hDn
    · exact .inl (.inr z)
  have sF : ∀ {H' : Hp} {o : HO}, Grow wd.dr H1 H' → H' Dn = some o → StOk X.K wd.dr F' ρ σ H' ad := fun g e => by subst hF'; exact s1.newF hDn g e
  obtain ⟨Vd, v0, vS, vG, vY, vE⟩ := hJ (Ban F' ρ ad) FN FF
  have gD : ∀ {o}, Grow wd.dr H1 (upd H1 Dn o) := fun {o} => Grow.same (same_upd hDn)
  -- the invariant
  generalize hIn : (fun (i : Nat) (H' : Hp) => Grow wd.dr H1 H' ∧ Vd H' ∧ ∃ acc vsD, H' Dn = some (.lst vsD) ∧ Reps X.K (Ban F' ρ ad) H' vsD acc ∧
      (compR cf f (ds.drop i) acc).wp (fun ds => ∀ a vs H', Grow wd.dr H H' → H a = none → H' a = some (.lst vs) → Reps X.K (fun b => Ban F ρ ad b ∨ b = a) H' vs ds → Q (.ref a) H') (XP X wd F ρ ad H)) = In
  refine ⟨fun i m H' => m = ds.length - i ∧ i ≤ ds.length ∧ In i H', ⟨ds.length, rfl, Nat.zero_le _, by subst hIn; exact ⟨gD, vS _ _ v0 gD, [], [], upd_same, .nil, q⟩⟩, ?_⟩
  rintro i m H' ⟨rfl, hi', hI⟩
  have hI' := hI
  rw [← hIn] at hI'
  obtain ⟨g2, vd, acc, vsD, eD, rD, q⟩ := hI'
  by_cases hlt : i < ds.length
  · refine .inr ⟨vG _ _ vd hlt, In (i + 1), fun H'' z => ⟨ds.length - (i + 1), by omega, rfl, hlt, z⟩, ?_⟩
    intro x H'' y
    obtain ⟨sm, rx⟩ := vY _ _ _ _ ds[i] vd y (List.getElem?_eq_getElem hlt)
    have g3 : Grow wd.dr H1 H'' := g2.trans (Grow.same sm)
    have eD3 := sm _ _ eD
    have s3r : StOk X.K wd.dr F' ρ σ H'' ad := sF g3 eD3
    have s3 : StOk X.K wd.dr F' (wipeS ρ vs) (wipe σ vs) H'' ad := s3r.wiped
    have wb : ∀ b, Ban F' (wipeS ρ vs) ad b → Ban F' ρ ad b := by
      rintro b (b | ⟨i, o, e⟩)
      · exact .inl b
      · exact .inr ⟨i, wipeS_own o, e⟩
    rw [List.drop_eq_getElem_cons hlt] at q
    have vd3 := vS _ _ vd (Grow.same sm)
    have rD3 := rD.stay (same_stay sm)
    unfold compR at q
    rw [wp_bind] at q
    cases est : st ds[i] with
    | none => rw [hel.no _ est] at q; exact q.elim
    | some ρ' =>
      refine hgs F' ad _ H'' x ds[i] ρ' _ s3 (rx.weak wb) est fun σ' s' ho2 ho w => ⟨by rw [w, wipe_idem vs vs fun _ h => h], ?_⟩
      have hB : ∀ b, Ban F' ρ ad b → Ban F' ρ' ad b := by
        rintro b (b | ⟨j, o, e⟩)
        · exact .inl b
        · have hj : j ∉ vs := fun z => hno j z o
          exact .inr ⟨j, ho2 j (own_wipeS hj o) hj, e⟩
      -- behind the tests
      have key : ∀ (b : Bool) (H3 : Hp), Grow wd.dr H'' H3 → (if b = true then (nx (f ds[i])).bind (fun y => if acc.length < sizeLine then compR cf f (ds.drop (i + 1)) (acc ++ [y]) else bad) else compR cf f (ds.drop (i + 1)) acc).wp (fun ds => ∀ a vs H', Grow wd.dr H H' → H a = none → H' a = some (.lst vs) → Reps X.K (fun b => Ban F ρ ad b ∨ b = a) H' vs ds → Q (.ref a) H') (XP X wd F ρ ad H) →
          (if b = true then bE X scope elt σ' H3 fun y H4 => ∃ acc, H4 Dn = some (.lst acc) ∧ acc.length < sizeLine ∧ In (i + 1) (upd H4 Dn (.lst (acc ++ [y]))) else In (i + 1) H3) := by
        intro b H3 g4 q
        have dne : wd.dr ≠ some Dn := fun z => by
          obtain ⟨o, e⟩ := s1.banned (s1.drF z)
          rw [hDn] at e; cases e
        have eD4 := g4.keep _ _ eD3 dne
        have rD4 := rD3.stay (s3r.stays g4)
        cases b with
        | false => subst hIn; exact iteF ⟨g3.trans g4, vS _ _ vd3 g4, acc, vsD, eD4, rD4, q⟩
        | true =>
          refine iteT fun s0 H0 C cl fp => ?_
          have q : ((nx (f ds[i])).bind (fun y => if acc.length < sizeLine then compR cf f (ds.drop (i + 1)) (acc ++ [y]) else bad)).wp _ _ := q
          rw [wp_bind] at q
          refine hel.el ds[i] ρ' est s0 H0 C cl fp F' ad σ' H3 _ (s'.grow g4) (xp_false (wp_nx (E := fun _ _ => False) ?_))
          refine wp_nx' (E := XP X wd F ρ ad H) (wp_mono (fun y q v H4 g5 rv => ?_) (fun _ _ z => z) q)
          obtain ⟨hz, q⟩ := wp_ite q
          have eD5 := g5.keep _ _ eD4 dne
          have rD5 := rD4.stay ((s3r.grow g4).stays g5)
          have rv' : Rep X.K (Ban F' ρ ad) H4 v y := rv.weak hB
          have g6 := (g3.trans (g4.trans g5)).updNew (o := .lst (vsD ++ [v])) hDn
          refine ⟨vsD, eD5, by rw [rD5.length]; exact hz, ?_⟩
          subst hIn
          refine ⟨g6, vS _ _ v0 g6, acc ++ [y], vsD ++ [v], upd_same, (rD5.append (.cons rv' .nil)).stay fun b o eb nb => ?_, q⟩
          rw [upd_ne fun z => nb (by rw [z]; exact FD)]
          exact eb
      cases ifs with
      | nil =>
        have et := hel.ts ds[i] ρ' est
        simp only at et
        rw [et] at q
        exact key true H'' (Grow.refl _ _) q
      | cons t ts =>
        intro s0 H0 C cl fp
        refine hel.ts ds[i] ρ' est s0 H0 C cl fp F' ad σ' H'' _ s' (xp_false (wp_nx (E := fun _ _ => False) (wp_nx' (E := XP X wd F ρ ad H) (wp_mono (fun b q H3 g4 => key b H3 g4 q) (fun _ _ z => z) q))))
  · have e : i = ds.length := by omega
    subst e
    rw [List.drop_length] at q
    exact .inl ⟨vE _ vd, q _ _ _ (g1.trans g2) hDn0 eD (rD.weak fun b z => by
      rcases z with z | rfl
      · exact FF _ z
      · exact FD)⟩
theorem bE_pe {scope : Scope} (s0 : Shared) (H0 : Hp) (C : Addr) (cl : List (Str × Addr)) (fp : List Addr) : PE (X.blk s0 H0 scope (compEnvC scope cl C X.env) fp) elt (bE X scope elt) := ⟨fun pins s σ H Q I h => h s0 H0 C cl fp pins s I⟩
theorem bT_pts {scope : Scope} (hl : ifs.length ≤ 1) (s0 : Shared) (H0 : Hp) (C : Addr) (cl : List (Str × Addr)) (fp : List Addr) : PTs (X.blk s0 H0 scope (compEnvC scope cl C X.env) fp) ifs (bT X scope ifs) := by
  match ifs, hl with
  | [], _ => exact pts_nil
  | [t], _ => exact pts_one ⟨fun pins s σ H Q I h => h s0 H0 C cl fp pins s I⟩
/-- a target's rule in every block -/
def BlkG (X : Cx) (scope : Scope) (tg : Expr) (g : TG) : Prop := ∀ (s : Shared) (H : Hp) (C : Addr) (cl : List (Str × Addr)) (fp : List Addr), PG (X.blk s H scope (compEnvC scope cl C X.env) fp) tg g
def locB (sc : Scope) (x : Str) : Bool := match sc.names.lookup x with | some .local => true | _ => false
theorem locB_eq {sc : Scope} {x : Str} (h : locB sc x = true) : sc.names.lookup x = some .local := by
  unfold locB at h
  split at h
  · assumption
  · cases h
/-- a name that a comprehension stores: its own, local or a cell -/
def lcB (sc : Scope) (x : Str) : Bool := match sc.names.lookup x with | some .local => true | some .cell => true | _ => false
theorem lcB_eq {sc : Scope} {x : Str} (h : lcB sc x = true) : sc.names.lookup x = some .local ∨ sc.names.lookup x = some .cell := by
  unfold lcB at h
  split at h
  · exact .inl (by assumption)
  · exact .inr (by assumption)
  · cases h
/-- a comprehension's own name -/
def tgB (scope sc : Scope) (x : Str) : Bool := lcB (relS scope sc) x && ((scope.names.lookup x == some .cell) || locB (relS scope sc) x)
theorem blkg_name (c : Cw CX k wd N sc X) {scope : Scope} {i : Nat} {x : Str} (hN : N[i]? = some x) (hl : tgB scope sc x = true) : BlkG X scope (.Name x p) (gName i) := fun s H C cl fp => by
  have hs : (X.blk s H scope (compEnvC scope cl C X.env) fp).env.scope = relS scope sc := by rw [← c.hs]; rfl
  unfold tgB at hl
  rw [Bool.and_eq_true, Bool.or_eq_true] at hl
  refine pg_name (by rw [show (X.blk s H scope (compEnvC scope cl C X.env) fp).N = N from c.hN]; exact c.nd) (by rw [show (X.blk s H scope (compEnvC scope cl C X.env) fp).N = N from c.hN]; exact hN) ?_ ?_
  · unfold L2.Loc
    rw [hs]
    exact lcB_eq hl.1
  · rcases hl.2 with h | h
    · exact .inl h
    · refine .inr ?_
      rw [hs]
      exact locB_eq h
theorem evl_compG (c : Cw CX k wd N sc X) {scope : Scope} {own : List (Str × Nat)} {g : TG} {st : D → Option (List Sl)} {cf : D → R Bool} {f : D → R D} {r : R (List D)} (hok : blkC N sc scope own = true) (hg : BlkG X scope tg g) (hgs : GS X.K wd.dr g (own.map (·.2)) (wipeS ρ (own.map (·.2))) st) (hno : ∀ i ∈ own.map (·.2), ¬ Own ρ i)
    (hi : EvJ X wd ρ tg iter r) (hl : ifs.length ≤ 1) (hel : LcEl X wd scope elt ifs st cf f) (hs : ∀ x, foldedSetIterable iter X.env x = pure x := by exact fun _ => rfl) : EvL X wd ρ (.ListComp elt [⟨tg, iter, ifs, 0⟩] scope pos) (r.bind fun ds => compR cf f ds []) := fun F ad σ H Q s q =>
  be (pe_lc (own := own) c.calm (by rw [c.hN]; exact c.nd) pi_b (by rw [c.hN, c.hs]; exact blkOk_by hok) hg (bT_pts hl) bE_pe hs) (lc_read hi hgs hno hel F ad σ H Q s q)
/-- [elt for x in iter] -/
theorem evl_comp (c : Cw CX k wd N sc X) {scope : Scope} {i : Nat} {x : Str} {f : D → R D} {r : R (List D)} (hok : blkC N sc scope [(x, i)] = true) (hN : N[i]? = some x) (hx : tgB scope sc x = true) {sl : Sl} (hno : ρ[i]? = some sl) (hsl : sl.own = false) (hi : EvJ X wd ρ (.Name x p) iter r)
    (hel : ∀ d s0 H0 C cl fp, Ev (X.blk s0 H0 scope (compEnvC scope cl C X.env) fp) wd.calm (ρ.set i (.d d)) elt (f d)) (hs : ∀ x, foldedSetIterable iter X.env x = pure x := by exact fun _ => rfl) :
    EvL X wd ρ (.ListComp elt [⟨.Name x p, iter, [], 0⟩] scope pos) (r.bind fun ds => compR (fun _ => R.ret true) f ds []) :=
  evl_compG c (own := [(x, i)]) hok (blkg_name c hN hx) (gs_name1 ρ) (fun j hj => by simp at hj; subst hj; exact not_own hno hsl) hi (Nat.zero_le _) ⟨fun d e => (by cases e), fun d ρ' e => (by cases e; exact hel d), fun d ρ' e => rfl⟩ hs
/-- [elt for x in iter if t] -/
theorem evl_compif (c : Cw CX k wd N sc X) {scope : Scope} {i : Nat} {x : Str} {t : Expr} {cf : D → R Bool} {f : D → R D} {r : R (List D)} (hok : blkC N sc scope [(x, i)] = true) (hN : N[i]? = some x) (hx : tgB scope sc x = true) {sl : Sl} (hno : ρ[i]? = some sl) (hsl : sl.own = false) (hi : EvJ X wd ρ (.Name x p) iter r)
    (ht : ∀ d s0 H0 C cl fp, EvT (X.blk s0 H0 scope (compEnvC scope cl C X.env) fp) wd.calm (ρ.set i (.d d)) t (cf d))
    (hel : ∀ d s0 H0 C cl fp, Ev (X.blk s0 H0 scope (compEnvC scope cl C X.env) fp) wd.calm (ρ.set i (.d d)) elt (f d)) (hs : ∀ x, foldedSetIterable iter X.env x = pure x := by exact fun _ => rfl) :
    EvL X wd ρ (.ListComp elt [⟨.Name x p, iter, [t], 0⟩] scope pos) (r.bind fun ds => compR cf f ds []) :=
  evl_compG c (own := [(x, i)]) hok (blkg_name c hN hx) (gs_name1 ρ) (fun j hj => by simp at hj; subst hj; exact not_own hno hsl) hi (Nat.le_refl _) ⟨fun d e => (by cases e), fun d ρ' e => (by cases e; exact hel d), fun d ρ' e => by cases e; exact ht d⟩ hs
/-! ### calls of defs -/
/-- a def that computes m of its arguments, and raises nothing -/
def spP (K : PySem.W.Frag) (n : Nat) (m : List D → R D) : Sp := fun vs H Q _ => ∃ (B : Addr → Prop) (ds : List D), (∀ b, B b → ∃ o, H b = some o) ∧ ds.length = n ∧ Reps K B H vs ds ∧
  (m ds).wp (fun d => ∀ v H', Same H H' → Rep K B H' v d → Q v H') fun _ _ => False
/-- the same, the first argument the draws -/
def spD (K : PySem.W.Frag) (n : Nat) (m : List D → R D) : Sp := fun vs H Q _ => ∃ (B : Addr → Prop) (a l : Addr) (vs' : List V) (ds : List D), (∀ b, B b → ∃ o, H b = some o) ∧ vs = .ref a :: vs' ∧ B a ∧ B l ∧ l ≠ a ∧ DrAt H a l ∧ ds.length = n ∧ Reps K B H vs' ds ∧
  (m ds).wp (fun d => ∀ v H', Grow (some a) H H' → Rep K B H' v d → Q v H') fun _ _ => False
/-- where errors are wanted by nobody -/
structure NoW (wd : Wd) : Prop where
  w : wd.W = fun _ _ _ => False
  x : ∀ c, (wd.xc c).2 = none
theorem NoW.xp {X : Cx} {wd : Wd} (h : NoW wd) {F : Addr → Prop} {ρ : List Sl} {ad : Nat → Addr} {H : Hp} {c : Nat} {x : D} (q : XP X wd F ρ ad H c x) : False := by
  have := q (wd.xc c).1 none H (Grow.refl _ _) ⟨rfl, by rw [h.x c]⟩
  rw [h.w] at this
  exact this
/-- a def of the text, as its callers see it -/
structure Dn (X : Cx) (CX : CXT) (j : Nat) (x : Str) (sp : Sp) : Prop where
  ok : ∃ (f : Addr) (fd : FuncData) (ps : List Str), X.mg x = some (.ref f) ∧ PySem.W.keepIn X.K (.ref f) = true ∧ Binds X.K fd ps [] ∧ FnOk X.prog X.w X.K X.mg X.base CX j f fd ps sp
theorem ev_call (c : Cw CX k wd N sc X) (W : NoW wd) {x : Str} {j n : Nat} {m : List D → R D} {es : List Expr} {rs : R (List D)} (G : Dn X CX j x (spP X.K n m)) (hj : j ≤ k) (hg : glB sc x = true) (ha : EvA X wd ρ (e :: es) rs) (hm : ∀ ds, ds.length ≠ n → m ds = bad)
    (he : starEach (e :: es) X.env = (false, eval e X.env) :: starEach es X.env := by rfl) (hpl : (backTo pos (starEach es X.env)).any (·.1) = false := by rfl) : Ev X wd ρ (.Call (.Name x p) (e :: es) [] pos) (rs.bind m) := fun F ad σ H Q s q => by
  obtain ⟨f, fd, ps, h1, h2, h3, h4⟩ := G.ok
  refine be (pe_call h4 (c.room.mono hj) (c.gl hg).1 h1 h2 h3 .nil c.ps pa_b (c.gl hg).2.1 he hpl) ?_
  rw [wp_bind] at q
  refine ha F ad σ H _ s (wp_mono (fun ds q vs H1 g1 r1 => ?_) (fun _ _ z => z) q)
  have s1 := s.grow g1
  by_cases hl : ds.length = n
  · exact ⟨Ban F ρ ad, ds, fun b z => s1.banned z, hl, by rw [List.append_nil]; exact r1, wp_mono (fun d z v H' sm r => z v H' (g1.trans (Grow.same sm)) r) (fun _ _ z => W.xp z) q⟩
  · rw [hm ds hl] at q; exact q.elim
/-- a call with the draws ahead -/
theorem ev_callD (c : Cw CX k wd N sc X) (W : NoW wd) {x y : Str} {i j n : Nat} {py : Pos} {m : List D → R D} {es : List Expr} {rs : R (List D)} (G : Dn X CX j x (spD X.K n m)) (hj : j ≤ k) (hg : glB sc x = true) (hv : visB sc y = true) (hN : N[i]? = some y) (hρ : ρ[i]? = some .w) (ha : EvA X wd ρ es rs) (hm : ∀ ds, ds.length ≠ n → m ds = bad)
    (hpl : (backTo pos (starEach es X.env)).any (·.1) = false := by rfl) : Ev X wd ρ (.Call (.Name x p) (.Name y py :: es) [] pos) (rs.bind m) := fun F ad σ H Q s q => by
  obtain ⟨f, fd, ps, h1, h2, h3, h4⟩ := G.ok
  obtain ⟨v1, v2, v3⟩ := c.vis hv
  refine be (pe_call h4 (c.room.mono hj) (c.gl hg).1 h1 h2 h3 .nil c.ps (pa_cons (pe_var (i := i) (by rw [c.hN]; exact hN) v1 v2 v3) pa_b rfl) (c.gl hg).2.1 rfl hpl) ?_
  obtain ⟨dr, hd, ev⟩ := s.sl i _ hρ
  refine ⟨_, ev, ?_⟩
  rw [wp_bind] at q
  refine ha F ad σ H _ s (wp_mono (fun ds q vs H1 g1 r1 => ?_) (fun _ _ z => z) q)
  have s1 := s.grow g1
  obtain ⟨fd', l, fl, ne, da⟩ := s1.dk dr hd
  by_cases hl : ds.length = n
  · exact ⟨Ban F ρ ad, dr, l, vs, ds, fun b z => s1.banned z, by rw [List.append_nil], .inl fd', .inl fl, ne, da, hl, r1, wp_mono (fun d z v H' g r => z v H' (g1.trans (by rw [hd]; exact g)) r) (fun _ _ z => W.xp z) q⟩
  · rw [hm ds hl] at q; exact q.elim
end
end Pu
/-! Ps: blocks that compute how they end. -/
namespace Pu
open PySem PySem.Spec PyProof.Rows L2 R
/-! ### from state to state -/
structure Adv (wd : Wd) (ρ : List Sl) (ad : Nat → Addr) (H : Hp) (ρ' : List Sl) (ad' : Nat → Addr) (H' : Hp) : Prop where
  keep : ∀ b o, H b = some o → wd.dr ≠ some b → ¬ OwnA ρ ad b → H' b = some o ∧ ¬ OwnA ρ' ad' b
  draw : ∀ a l, wd.dr = some a → DrAt H a l → DrAt H' a l
  pin : ∀ i, wd.pin i = true → ad' i = ad i
section
variable {wd : Wd} {K : PySem.W.Frag} {F : Addr → Prop} {ρ ρ' ρ1 : List Sl} {σ σ' : L2.St} {H H' H1 : Hp} {ad ad' ad1 : Nat → Addr}
theorem Adv.refl : Adv wd ρ ad H ρ ad H := ⟨fun _ _ h _ n => ⟨h, n⟩, fun _ _ _ h => h, fun _ _ => rfl⟩
theorem Adv.trans (a : Adv wd ρ ad H ρ1 ad1 H1) (b : Adv wd ρ1 ad1 H1 ρ' ad' H') : Adv wd ρ ad H ρ' ad' H' :=
  ⟨fun x o h n m => let ⟨h1, m1⟩ := a.keep x o h n m; b.keep x o h1 n m1, fun x l e h => b.draw x l e (a.draw x l e h), fun i h => (b.pin i h).trans (a.pin i h)⟩
theorem Adv.grow (g : Grow wd.dr H H') : Adv wd ρ ad H ρ ad H' := ⟨fun b o h n m => ⟨g.keep b o h n, m⟩, g.draw, fun _ _ => rfl⟩
/-- fewer are owned -/
theorem Adv.less (h : ∀ i, Own ρ' i → Own ρ i) : Adv wd ρ ad H ρ' ad H := ⟨fun b o e n m => ⟨e, fun ⟨i, o, e⟩ => m ⟨i, h i o, e⟩⟩, fun _ _ _ h => h, fun _ _ => rfl⟩
theorem Adv.set {i : Nat} {d : D} : Adv wd ρ ad H (ρ.set i (.d d)) ad H := .less fun _ o => (own_set o).1
theorem Adv.stay (a : Adv wd ρ ad H ρ' ad' H') (s : StOk K wd.dr F ρ σ H ad) : Stay (Ban F ρ ad) H H' := fun b o e nb => (a.keep b o e (fun z => nb (s.drF z)) fun z => nb (.inr z)).1
end
/-! ### judgements of blocks -/
section
variable (X : Cx) (wd : Wd) {S B T : Type} (eS : S → List Sl) (eB : B → List Sl) (eT : T → List Sl)
def OutOk (F : Addr → Prop) (ρ : List Sl) (ad : Nat → Addr) (H : Hp) (Dn : Ends) : Out S B T → Prop
  | .nx s => ∀ ad' σ' H', Adv wd ρ ad H (eS s) ad' H' → StOk X.K wd.dr F (eS s) σ' H' ad' → Dn.nx σ' H'
  | .bk s => ∀ ad' σ' H', Adv wd ρ ad H (eB s) ad' H' → StOk X.K wd.dr F (eB s) σ' H' ad' → Dn.bk σ' H'
  | .ct s => ∀ ad' σ' H', Adv wd ρ ad H (eB s) ad' H' → StOk X.K wd.dr F (eB s) σ' H' ad' → Dn.ct σ' H'
  | .rt d t => ∀ v ad' ρ' σ' H', Adv wd ρ ad H ρ' ad' H' → StOk X.K wd.dr F ρ' σ' H' ad' → (∀ (i : Nat) (s : Sl), (eT t)[i]? = some s → s.own = true → ρ'[i]? = some s) → Rep X.K (Ban F ρ' ad') H' v d → Dn.rt v H'
def XPs (F : Addr → Prop) (ρ : List Sl) (ad : Nat → Addr) (H : Hp) (c : Nat) (x : D) : Prop := ∀ C dx ad' ρ' σ' H', Adv wd ρ ad H ρ' ad' H' → StOk X.K wd.dr F ρ' σ' H' ad' → XRep wd X.K (Ban F ρ' ad') H' c x C dx → wd.W C dx H'
def Run (ρ : List Sl) (ss : List Stmt) (o : R (Out S B T)) : Prop := ∀ (F : Addr → Prop) (ad : Nat → Addr) (σ : L2.St) (H : Hp) (Dn : Ends), StOk X.K wd.dr F ρ σ H ad →
  o.wp (OutOk X wd eS eB eT F ρ ad H Dn) (XPs X wd F ρ ad H) → BSs X ss Dn σ H
end
section
variable {X : Cx} {wd : Wd} {S S' B T : Type} {eS : S → List Sl} {eS' : S' → List Sl} {eB : B → List Sl} {eT : T → List Sl} {F : Addr → Prop} {ρ ρ1 : List Sl} {ad ad1 : Nat → Addr} {H H1 : Hp} {Dn : Ends} {σ : L2.St}
theorem OutOk.adv (a : Adv wd ρ ad H ρ1 ad1 H1) : ∀ {o : Out S B T}, OutOk X wd eS eB eT F ρ ad H Dn o → OutOk X wd eS eB eT F ρ1 ad1 H1 Dn o
  | .nx _, h => fun ad' σ' H' b => h ad' σ' H' (a.trans b)
  | .bk _, h => fun ad' σ' H' b => h ad' σ' H' (a.trans b)
  | .ct _, h => fun ad' σ' H' b => h ad' σ' H' (a.trans b)
  | .rt _ _, h => fun v ad' ρ' σ' H' b => h v ad' ρ' σ' H' (a.trans b)
theorem XPs.adv (a : Adv wd ρ ad H ρ1 ad1 H1) {c : Nat} {x : D} (h : XPs X wd F ρ ad H c x) : XPs X wd F ρ1 ad1 H1 c x := fun C dx ad' ρ' σ' H' b => h C dx ad' ρ' σ' H' (a.trans b)
theorem XPs.xp (s : StOk X.K wd.dr F ρ σ H ad) {c : Nat} {x : D} (h : XPs X wd F ρ ad H c x) : XP X wd F ρ ad H c x := fun C dx H' g r => h C dx ad ρ σ H' (.grow g) (s.grow g) r
theorem wp_adv (a : Adv wd ρ ad H ρ1 ad1 H1) {r : R (Out S B T)} (q : r.wp (OutOk X wd eS eB eT F ρ ad H Dn) (XPs X wd F ρ ad H)) : r.wp (OutOk X wd eS eB eT F ρ1 ad1 H1 Dn) (XPs X wd F ρ1 ad1 H1) :=
  wp_mono (fun _ => OutOk.adv a) (fun _ _ => XPs.adv a) q
end
/-- the context of a def's own body -/
structure Cd (CX : CXT) (k : Nat) (wd : Wd) (N : List Str) (sc : Scope) (X : Cx) : Prop extends Cw CX k wd N sc X where
  fn : ∀ x, X.fn x = true
  kind : sc.kind = .function
section
variable {CX : CXT} {k : Nat} {wd : Wd} {N : List Str} {sc : Scope} {X : Cx} {S S' S1 B B' T : Type} {eS : S → List Sl} {eS1 : S1 → List Sl} {eS' : S' → List Sl} {eB : B → List Sl} {eB' : B' → List Sl} {eT : T → List Sl} {ρ ρ1 : List Sl} {e a b : Expr} {rest A1 B1 : List Stmt} {pos p : Pos} {ra rb : R D}
theorem Cd.loc (c : Cd CX k wd N sc X) {x : Str} (h : lcB sc x = true) : L2.Loc X.env.scope x := by
  unfold L2.Loc
  rw [c.hs]
  exact lcB_eq h
theorem Cd.nd' (c : Cd CX k wd N sc X) : X.N.Nodup := by rw [c.hN]; exact c.nd
theorem Cd.at (c : Cd CX k wd N sc X) {i : Nat} {x : Str} (h : N[i]? = some x) : X.N[i]? = some x := by rw [c.hN]; exact h
theorem run_nil {s : S} (h : Le (eS s) ρ) : Run X wd eS eB eT ρ [] (R.ret (.nx s)) := fun F ad σ H Dn st q => bss pss_nil (q ad σ H (.less fun _ => h.own) (st.le h))
theorem run_le {ss : List Stmt} {o : R (Out S B T)} (h : Le ρ1 ρ) (r : Run X wd eS eB eT ρ1 ss o) : Run X wd eS eB eT ρ ss o := fun F ad σ H Dn st q => r F ad σ H Dn (st.le h) (wp_adv (.less fun _ => h.own) q)
/-- behind an expression that is d -/
theorem step_ev {o : D → R (Out S B T)} {σ : L2.St} {H : Hp} {F : Addr → Prop} {ad : Nat → Addr} {Dn : Ends} {Q : VK} (ha : Ev X wd ρ e ra) (st : StOk X.K wd.dr F ρ σ H ad) (q : (ra.bind o).wp (OutOk X wd eS eB eT F ρ ad H Dn) (XPs X wd F ρ ad H))
    (h : ∀ d v H', Grow wd.dr H H' → Rep X.K (Ban F ρ ad) H' v d → (o d).wp (OutOk X wd eS eB eT F ρ ad H' Dn) (XPs X wd F ρ ad H') → Q v H') : BE X e σ H Q := by
  rw [wp_bind] at q
  exact ha F ad σ H _ st (wp_mono (fun d q v H' g r => h d v H' g r (wp_adv (.grow g) q)) (fun _ _ z => z.xp st) q)
/-- x = e -/
theorem run_set (c : Cd CX k wd N sc X) {i : Nat} {x : Str} {o : D → R (Out S B T)} (hx : lcB sc x = true) (hN : N[i]? = some x) (ha : Ev X wd ρ e ra) (hr : ∀ d, Run X wd eS eB eT (ρ.set i (.d d)) rest (o d))
    (hs : swapsWith e (some (.Name x p)) pos.line X.env = pure false := by rfl) : Run X wd eS eB eT ρ (.Assign [.Name x p] e pos :: rest) (ra.bind o) := fun F ad σ H Dn st q =>
  bss (pss_cons (ps_set c.nd' (c.at hN) (c.loc hx) pe_b hs (.inl (c.fn x))) pss_b) (step_ev ha st q fun d v H' g r q => hr d F ad (σ.set i (some v)) H' Dn ((st.grow g).set r) (wp_adv .set q))
/-- e alone -/
theorem run_expr {o : R (Out S B T)} (ha : Ev X wd ρ e ra) (hr : Run X wd eS eB eT ρ rest o) (hs : swapsWith e none pos.line X.env = pure false := by rfl) : Run X wd eS eB eT ρ (.Expr e pos :: rest) (ra.bind fun _ => o) := fun F ad σ H Dn st q =>
  bss (pss_cons (ps_expr pe_b hs) pss_b) (step_ev ha st q fun d v H' g r q => hr F ad σ H' Dn (st.grow g) q)
/-- return e -/
theorem run_ret {t : T} (ha : Ev X wd ρ e ra) (ht : ∀ (i : Nat) (s : Sl), (eT t)[i]? = some s → s.own = true → ρ[i]? = some s) : Run X wd eS eB eT ρ [.Return (some e) pos] (ra.bind fun d => R.ret (.rt d t)) := fun F ad σ H Dn st q =>
  bss (pss_one (ps_ret pe_b)) (step_ev (o := fun d => R.ret (.rt d t)) ha st q fun d v H' g r q => q v ad ρ σ H' .refl (st.grow g) ht r)
theorem run_retN {t : T} (ht : ∀ (i : Nat) (s : Sl), (eT t)[i]? = some s → s.own = true → ρ[i]? = some s) : Run X wd eS eB eT ρ [.Return none pos] (R.ret (.rt .none t)) := fun F ad σ H Dn st q =>
  bss (pss_one ps_retN) (q _ ad ρ σ H .refl st ht .non)
theorem run_pass {o : R (Out S B T)} (hr : Run X wd eS eB eT ρ rest o) : Run X wd eS eB eT ρ (.Pass pos :: rest) o := fun F ad σ H Dn st q => bss (pss_cons ps_pass pss_b) (hr F ad σ H Dn st q)
theorem run_break {s : B} (h : Le (eB s) ρ) : Run X wd eS eB eT ρ [.Break pos] (R.ret (.bk s)) := fun F ad σ H Dn st q => bss (pss_one ps_break) (q ad σ H (.less fun _ => h.own) (st.le h))
theorem run_cont {s : B} (h : Le (eB s) ρ) : Run X wd eS eB eT ρ [.Continue pos] (R.ret (.ct s)) := fun F ad σ H Dn st q => bss (pss_one ps_continue) (q ad σ H (.less fun _ => h.own) (st.le h))
/-- if, the last of its block -/
theorem run_if1 {tc : R Bool} {oa ob : R (Out S B T)} (hc : EvT X wd ρ e tc) (hA : Run X wd eS eB eT ρ A1 oa) (hB : Run X wd eS eB eT ρ B1 ob) : Run X wd eS eB eT ρ [.If e A1 B1 pos] (tc.bind fun b => if b = true then oa else ob) := fun F ad σ H Dn st q => by
  refine bss (pss_one (ps_if pt_b pss_b pss_b)) ?_
  rw [wp_bind] at q
  refine hc F ad σ H _ st (wp_mono (fun x q H1 g1 => ?_) (fun _ _ z => z.xp st) q)
  have q := wp_adv (.grow g1) q
  cases x with
  | true => exact iteT (hA F ad σ H1 Dn (st.grow g1) q)
  | false => exact iteF (hB F ad σ H1 Dn (st.grow g1) q)
/-- if, and what follows -/
theorem run_if {tc : R Bool} {oa ob : R (Out S1 B T)} {o : S1 → R (Out S B T)} (hc : EvT X wd ρ e tc) (hA : Run X wd eS1 eB eT ρ A1 oa) (hB : Run X wd eS1 eB eT ρ B1 ob) (hr : ∀ s, Run X wd eS eB eT (eS1 s) rest (o s)) :
    Run X wd eS eB eT ρ (.If e A1 B1 pos :: rest) (tc.bind fun b => seqR (if b = true then oa else ob) o) := fun F ad σ H Dn st q => by
  refine bss (pss_cons (ps_if pt_b pss_b pss_b) pss_b) ?_
  rw [wp_bind] at q
  refine hc F ad σ H _ st (wp_mono (fun x q H1 g1 => ?_) (fun _ _ z => z.xp st) q)
  have q := wp_adv (.grow g1) q
  unfold seqR at q
  rw [wp_bind] at q
  have key : ∀ r : R (Out S1 B T), r.wp (fun x => (match x with
      | .nx s => o s
      | .bk b => R.ret (.bk b)
      | .ct b => R.ret (.ct b)
      | .rt d t => R.ret (.rt d t)).wp (OutOk X wd eS eB eT F ρ ad H1 Dn) (XPs X wd F ρ ad H1)) (XPs X wd F ρ ad H1) →
      r.wp (OutOk X wd eS1 eB eT F ρ ad H1 { Dn with nx := BSs X rest Dn }) (XPs X wd F ρ ad H1) := fun r q => by
    refine wp_mono (fun x q => ?_) (fun _ _ z => z) q
    cases x with
    | nx s => exact fun ad' σ' H' a s' => hr s F ad' σ' H' Dn s' (wp_adv a q)
    | bk b => exact q
    | ct b => exact q
    | rt d t => exact q
  cases x with
  | true => exact iteT (hA F ad σ H1 _ (st.grow g1) (key _ q))
  | false => exact iteF (hB F ad σ H1 _ (st.grow g1) (key _ q))
/-- a block that does not come to its end, as one with any end -/
def up {S B T : Type} (r : R (Out Empty B T)) : R (Out S B T) := r.bind fun o => match o with
  | .nx s => s.elim
  | .bk b => R.ret (.bk b)
  | .ct b => R.ret (.ct b)
  | .rt d t => R.ret (.rt d t)
@[simp] theorem up_rt {S B T : Type} (d : D) (t : T) : up (S := S) (B := B) (R.ret (.rt d t)) = R.ret (.rt d t) := rfl
/-- if, its first block leaves, no second one; what follows -/
theorem run_ifx {tc : R Bool} {oa : R (Out Empty B T)} {o : R (Out S B T)} {eE : Empty → List Sl} (hc : EvT X wd ρ e tc) (hA : Run X wd eE eB eT ρ A1 oa) (hr : Run X wd eS eB eT ρ rest o) :
    Run X wd eS eB eT ρ (.If e A1 [] pos :: rest) (tc.bind fun b => if b = true then up oa else o) := fun F ad σ H Dn st q => by
  refine bss (pss_cons (ps_if pt_b pss_b pss_nil) pss_b) ?_
  rw [wp_bind] at q
  refine hc F ad σ H _ st (wp_mono (fun x q H1 g1 => ?_) (fun _ _ z => z.xp st) q)
  have q := wp_adv (.grow g1) q
  cases x with
  | true =>
    refine iteT (hA F ad σ H1 _ (st.grow g1) ?_)
    have q : (up oa).wp (OutOk X wd eS eB eT F ρ ad H1 Dn) (XPs X wd F ρ ad H1) := q
    unfold up at q
    rw [wp_bind] at q
    refine wp_mono (fun x q => ?_) (fun _ _ z => z) q
    cases x with
    | nx s => exact s.elim
    | bk b => exact q
    | ct b => exact q
    | rt d t => exact q
  | false => exact iteF (hr F ad σ H1 Dn (st.grow g1) q)
/-- for .. -/
theorem run_forG (c : Cd CX k wd N sc X) {tg iter : Expr} {body : List Stmt} {g : TG} {vs : List Nat} {st : S1 → D → Option (List Sl)} {r : R (List D)} {s0 : S1} {f : D → S1 → R (Out S1 S1 T)} {o : S1 → R (Out S B T)} (hi : EvI X wd ρ tg iter r) (hl : Le (eS1 s0) ρ)
    (hg : PG X tg g) (hgs : ∀ s, GS X.K wd.dr g vs (eS1 s) (st s)) (hno : ∀ s d, st s d = none → f d s = bad) (hb : ∀ s d ρ', st s d = some ρ' → Run X wd eS1 eS1 eT ρ' body (f d s)) (hr : ∀ s, Run X wd eS eB eT (eS1 s) rest (o s))
    (hs : ∀ x, foldedSetIterable iter X.env x = pure x := by exact fun _ => rfl) : Run X wd eS eB eT ρ (.For tg iter body [] pos :: rest) (r.bind fun ds => seqR (forR f ds s0) o) := fun F ad σ H Dn sk q => by
  refine bss (pss_cons (ps_for c.po c.calm pi_b hg pss_b hs) pss_b) ?_
  rw [wp_bind] at q
  refine hi F ad σ H _ sk (wp_mono (fun ds q J H1 g1 hJ => ?_) (fun _ _ z => z.xp sk) q)
  have sk1 := sk.grow g1
  have q := wp_adv (.grow g1) q
  obtain ⟨Vd, v0, vS, vG, vY, vE⟩ := hJ (fun b => Ban F ρ ad b ∨ H1 b = none) (fun b z => z) (fun b z => .inl z)
  -- what stays through the loop
  have stay : ∀ {ρ' : List Sl} {ad' : Nat → Addr} {H' : Hp}, Adv wd ρ ad H1 ρ' ad' H' → Stay (fun b => Ban F ρ ad b ∨ H1 b = none) H1 H' := fun {ρ' ad' H'} a b o e nb => (a.keep b o e (fun z => nb (.inl (sk.drF z))) fun z => nb (.inl (.inr z))).1
  have ban : ∀ {ρ' : List Sl} {ad' : Nat → Addr} {H' : Hp}, Adv wd ρ ad H1 ρ' ad' H' → ∀ b, Ban F ρ' ad' b → Ban F ρ ad b ∨ H1 b = none := fun {ρ' ad' H'} a b z => by
    rcases z with z | z
    · exact .inl (.inl z)
    · cases e : H1 b with
      | none => exact .inr rfl
      | some x =>
        refine .inl ?_
        by_cases hd : wd.dr = some b
        · exact sk.drF hd
        · by_cases ho : OwnA ρ ad b
          · exact .inr ho
          · exact absurd z (a.keep b x e hd ho).2
  have fin : ∀ {s : S1} {ad' : Nat → Addr} {σ' : L2.St} {H' : Hp}, Adv wd ρ ad H1 (eS1 s) ad' H' → StOk X.K wd.dr F (eS1 s) σ' H' ad' → (o s).wp (OutOk X wd eS eB eT F ρ ad H1 Dn) (XPs X wd F ρ ad H1) → BSs X rest Dn σ' H' := fun {s ad' σ' H'} a s' q =>
    hr s F ad' σ' H' Dn s' (wp_adv a q)
  generalize hIn : (fun (i : Nat) (σ' : L2.St) (H' : Hp) => ∃ s ad', Adv wd ρ ad H1 (eS1 s) ad' H' ∧ StOk X.K wd.dr F (eS1 s) σ' H' ad' ∧
      (seqR (forR f (ds.drop i) s) o).wp (OutOk X wd eS eB eT F ρ ad H1 Dn) (XPs X wd F ρ ad H1)) = In
  refine ⟨fun i m σ' H' => m = ds.length - i ∧ i ≤ ds.length ∧ In i σ' H', ⟨ds.length, rfl, Nat.zero_le _, by subst hIn; exact ⟨s0, ad, .less fun _ => hl.own, sk1.le hl, q⟩⟩, ?_⟩
  rintro i m σ2 H2 ⟨rfl, hi', hI⟩
  have hI' := hI
  rw [← hIn] at hI'
  obtain ⟨s, ad2, a2, sk2, q⟩ := hI'
  have vd : Vd H2 := vS _ _ v0 (stay a2)
  by_cases hlt : i < ds.length
  · refine .inr ⟨vG _ _ vd hlt, In (i + 1), fun σ' H' z => ⟨ds.length - (i + 1), by omega, rfl, hlt, z⟩, ?_⟩
    intro x H3 y
    obtain ⟨sm, rx⟩ := vY _ _ _ _ ds[i] vd y (List.getElem?_eq_getElem hlt)
    have g3 : Grow wd.dr H2 H3 := Grow.same sm
    have sk3 := sk2.grow g3
    have a3 : Adv wd ρ ad H1 (eS1 s) ad2 H3 := a2.trans (.grow g3)
    rw [List.drop_eq_getElem_cons hlt] at q
    unfold forR seqR at q
    rw [bind_assoc, wp_bind] at q
    cases est : st s ds[i] with
    | none => rw [hno s _ est] at q; exact q.elim
    | some ρ' =>
      refine hgs s F ad2 σ2 H3 x ds[i] ρ' _ sk3 (rx.weak (ban a3)) est fun σ' s' ho2 ho w => ?_
      have a4 : Adv wd ρ ad H1 ρ' ad2 H3 := a3.trans (.less ho)
      refine hb s ds[i] ρ' est F ad2 σ' H3 _ s' (wp_mono (fun x q => ?_) (fun _ _ z => z.adv a4) q)
      cases x with
      | nx s5 => subst hIn; exact fun ad5 σ5 H5 a5 s5' => ⟨s5, ad5, a4.trans a5, s5', q⟩
      | ct s5 => subst hIn; exact fun ad5 σ5 H5 a5 s5' => ⟨s5, ad5, a4.trans a5, s5', q⟩
      | bk s5 => exact fun ad5 σ5 H5 a5 s5' => fin (a4.trans a5) s5' q
      | rt d t => exact OutOk.adv (o := .rt d t) a4 q
  · have e : i = ds.length := by omega
    subst e
    rw [List.drop_length] at q
    exact .inl ⟨vE _ vd, fin a2 sk2 q⟩
/-- for x in .. -/
theorem run_for (c : Cd CX k wd N sc X) {i : Nat} {x : Str} {iter : Expr} {body : List Stmt} {r : R (List D)} {s0 : S1} {f : D → S1 → R (Out S1 S1 T)} {o : S1 → R (Out S B T)} (hx : lcB sc x = true) (hN : N[i]? = some x) (hi : EvI X wd ρ (.Name x p) iter r) (hl : Le (eS1 s0) ρ)
    (hb : ∀ s d, Run X wd eS1 eS1 eT ((eS1 s).set i (.d d)) body (f d s)) (hr : ∀ s, Run X wd eS eB eT (eS1 s) rest (o s))
    (hs : ∀ x, foldedSetIterable iter X.env x = pure x := by exact fun _ => rfl) : Run X wd eS eB eT ρ (.For (.Name x p) iter body [] pos :: rest) (r.bind fun ds => seqR (forR f ds s0) o) :=
  run_forG c (vs := [i]) (st := fun s d => some ((eS1 s).set i (.d d))) hi hl (pg_name c.nd' (c.at hN) (c.loc hx) (.inl (c.fn x))) (fun s => gs_name) (fun s d e => by cases e) (fun s d ρ' e => by cases e; exact hb s d) hr hs
end
end Pu
/-! Pt: owned lists, unpacking, defs by their bodies, the draws. -/
namespace Pu
open PySem PySem.Spec PyProof.Rows L2 R
section
variable {K : PySem.W.Frag} {dr : Option Addr} {F : Addr → Prop} {ρ ρ' : List Sl} {σ σ' : L2.St} {H H' : Hp} {ad ad' : Nat → Addr}
/-- a new object is owned by slot i -/
theorem StOk.setOwn (s : StOk K dr F ρ σ H ad) (g : Grow dr H H') {i : Nat} {p : Addr} {sl : Sl} (hp : H p = none) (hs : sl.own = true) (h : SlOk K dr (Ban F (ρ.set i sl) fun j => if j = i then p else ad j) H' (some (some (.ref p))) p sl) :
    StOk K dr F (ρ.set i sl) (σ.set i (some (.ref p))) H' (fun j => if j = i then p else ad j) := by
  have s' := s.grow g
  have ow : ∀ {j}, Own (ρ.set i sl) j → j ≠ i → Own ρ j := fun {j} o hj => by
    obtain ⟨t, e, q⟩ := o
    rw [List.getElem?_set_ne (Ne.symm hj)] at e
    exact ⟨t, e, q⟩
  have np : ∀ {j}, Own ρ j → ad j ≠ p := fun {j} o e => by
    obtain ⟨x, ex⟩ := s.there o
    rw [e, hp] at ex; cases ex
  have hb : ∀ b, Ban F (ρ.set i sl) (fun j => if j = i then p else ad j) b → Ban F ρ ad b ∨ H b = none := by
    rintro b (b | ⟨j, o, e⟩)
    · exact .inl (.inl b)
    · by_cases hj : j = i
      · simp only [hj, if_true] at e
        subst e
        exact .inr hp
      · simp only [hj, if_false] at e
        exact .inl (.inr ⟨j, ow o hj, e⟩)
  have st : Stay (Ban F (ρ.set i sl) fun j => if j = i then p else ad j) H H' := fun b o eb nb => g.keep b o eb fun z => nb (.inl (s.dk b z).1)
  refine ⟨by simpa using s.len, fun a b oa ob e => ?_, fun a oa z => ?_, s'.fa, s'.dk, fun j t e => ?_⟩
  · by_cases ha : a = i <;> by_cases hb : b = i
    · rw [ha, hb]
    · simp only [ha, hb, if_true, if_false] at e
      exact absurd e.symm (np (ow ob hb))
    · simp only [ha, hb, if_true, if_false] at e
      exact absurd e (np (ow oa ha))
    · simp only [ha, hb, if_false] at e
      exact s.inj a b (ow oa ha) (ow ob hb) e
  · by_cases ha : a = i
    · simp only [ha, if_true] at z
      obtain ⟨x, ex⟩ := s.fa p z
      rw [hp] at ex; cases ex
    · simp only [ha, if_false] at z
      exact s.nf a (ow oa ha) z
  · by_cases hj : j = i
    · subst hj
      by_cases hl : j < ρ.length
      · rw [List.getElem?_set_self hl] at e
        cases e
        rw [List.getElem?_set_self (by rw [s.len]; exact hl)]
        simp only [if_true]
        exact h
      · rw [List.getElem?_eq_none (by simpa using hl)] at e; cases e
    · rw [List.getElem?_set_ne (Ne.symm hj)] at e
      rw [List.getElem?_set_ne (Ne.symm hj)]
      simp only [hj, if_false]
      refine (s.sl j t e).mono (fun v d r => (r.ban hb).stay st) (fun v d r => (r.ban hb).stay st) fun ho o eo => g.keep _ o eo fun z => ?_
      exact s.nf j ⟨t, e, ho⟩ (s.dk _ z).1
theorem Adv.setOwn {wd : Wd} {i : Nat} {p : Addr} {sl : Sl} (hp : H p = none) (hi : wd.pin i = false) : Adv wd ρ ad H (ρ.set i sl) (fun j => if j = i then p else ad j) H := by
  refine ⟨fun b o e n m => ⟨e, fun ⟨j, ⟨t, et, q⟩, ej⟩ => ?_⟩, fun _ _ _ h => h, fun j hj => ?_⟩
  · by_cases hji : j = i
    · simp only [hji, if_true] at ej
      rw [← ej, hp] at e; cases e
    · simp only [hji, if_false] at ej
      rw [List.getElem?_set_ne (Ne.symm hji)] at et
      exact m ⟨j, ⟨t, et, q⟩, ej⟩
  · by_cases hji : j = i
    · rw [hji, hi] at hj; cases hj
    · simp only [hji, if_false]
/-- an owned object is written -/
theorem StOk.mut (s : StOk K dr F ρ σ H ad) {i : Nat} {sl : Sl} {o : HO} (ow : Own ρ i) (hs : sl.own = true) (h : SlOk K dr (Ban F ρ ad) (upd H (ad i) o) σ[i]? (ad i) sl) : StOk K dr F (ρ.set i sl) σ (upd H (ad i) o) ad := by
  have oi : ∀ {j}, Own (ρ.set i sl) j → Own ρ j := fun {j} oj => by
    by_cases hj : j = i
    · rw [hj]; exact ow
    · obtain ⟨t, e, q⟩ := oj
      rw [List.getElem?_set_ne (Ne.symm hj)] at e
      exact ⟨t, e, q⟩
  have hb : ∀ b, Ban F (ρ.set i sl) ad b → Ban F ρ ad b := by
    rintro b (b | ⟨j, o, e⟩)
    · exact .inl b
    · exact .inr ⟨j, oi o, e⟩
  have st : Stay (Ban F ρ ad) H (upd H (ad i) o) := fun b u eb nb => by
    rw [upd_ne fun z => nb (by rw [z]; exact .inr ⟨i, ow, rfl⟩)]
    exact eb
  have nF : ∀ {b}, F b → b ≠ ad i := fun {b} fb z => s.nf i ow (by rw [← z]; exact fb)
  refine ⟨by simpa using s.len, fun a b x y => s.inj a b (oi x) (oi y), fun a x => s.nf a (oi x), fun b fb => ?_, fun a e => ?_, fun j t e => ?_⟩
  · obtain ⟨u, eu⟩ := s.fa b fb
    exact ⟨u, by rw [upd_ne (nF fb)]; exact eu⟩
  · obtain ⟨f, l, fl, ne, n, rows, h0, h1, h2, h3⟩ := s.dk a e
    exact ⟨f, l, fl, ne, n, rows, h0, by rw [upd_ne (nF f)]; exact h1, rd_imp h2 fun x e => by rw [upd_ne (nF fl)]; exact e, h3⟩
  · by_cases hj : j = i
    · subst hj
      by_cases hl : j < ρ.length
      · rw [List.getElem?_set_self hl] at e
        cases e
        exact h.mono (fun v d r => r.weak hb) (fun v d r => r.weak hb) fun _ _ q => q
      · rw [List.getElem?_eq_none (by simpa using hl)] at e; cases e
    · rw [List.getElem?_set_ne (Ne.symm hj)] at e
      refine (s.sl j t e).mono (fun v d r => (r.stay st).weak hb) (fun v d r => (r.stay st).weak hb) fun ho u eu => ?_
      rw [upd_ne fun z => hj (s.inj j i ⟨t, e, ho⟩ ow z)]
      exact eu
theorem Adv.mut {wd : Wd} (s : StOk K wd.dr F ρ σ H ad) {i : Nat} {sl : Sl} {o : HO} (ow : Own ρ i) : Adv wd ρ ad H (ρ.set i sl) ad (upd H (ad i) o) := by
  refine ⟨fun b u e n m => ⟨?_, fun ⟨j, ⟨t, et, q⟩, ej⟩ => m ⟨j, ?_, ej⟩⟩, fun a l z q => ?_, fun _ _ => rfl⟩
  · rw [upd_ne fun z => m ⟨i, ow, z.symm⟩]
    exact e
  · by_cases hj : j = i
    · rw [hj]; exact ow
    · rw [List.getElem?_set_ne (Ne.symm hj)] at et
      exact ⟨t, et, q⟩
  · obtain ⟨f, l', fl, ne, n', rows', h0', h1', h2', h3'⟩ := s.dk a z
    obtain ⟨n, rows, h0, h1, h2, h3⟩ := q
    rw [h1] at h1'
    simp only [Option.some.injEq, HO.dK.injEq, List.cons.injEq, Prod.mk.injEq, V.ref.injEq, true_and, and_true] at h1'
    have el : l = l' := h1'.2
    have nF : ∀ {b}, F b → b ≠ ad i := fun {b} fb z => s.nf i ow (by rw [← z]; exact fb)
    exact ⟨n, rows, h0, by rw [upd_ne (nF f)]; exact h1, rd_imp h2 fun x e => by rw [upd_ne (nF (by rw [el]; exact fl))]; exact e, h3⟩
end
section
variable {CX : CXT} {k : Nat} {wd : Wd} {N : List Str} {sc : Scope} {X : Cx} {S S' S1 B B' T : Type} {eS : S → List Sl} {eS1 : S1 → List Sl} {eS' : S' → List Sl} {eB : B → List Sl} {eB' : B' → List Sl} {eT : T → List Sl} {ρ ρ1 : List Sl} {e a b tg iter elt : Expr} {ifs : List Expr} {rest A1 B1 : List Stmt} {pos p py : Pos} {ra rb : R D}
/-- how a new list comes: a reading of any form -/
def LsR (X : Cx) (wd : Wd) (ρ : List Sl) (t : TE) (r : R (List D)) : Prop := ∀ (F : Addr → Prop) (ad : Nat → Addr) (σ : L2.St) (H : Hp) (Q : VK), StOk X.K wd.dr F ρ σ H ad →
  r.wp (fun ds => ∀ a vs H', Grow wd.dr H H' → H a = none → H' a = some (.lst vs) → Reps X.K (fun b => Ban F ρ ad b ∨ b = a) H' vs ds → Q (.ref a) H') (XP X wd F ρ ad H) → t σ H Q
/-- x = a new list that x owns -/
theorem setO_core {i : Nat} {t : TE} {st : Stmt} {o : List D → R (Out S B T)} {r : R (List D)} (hp : PS X st (tAsg t (gName i))) (ht : LsR X wd ρ t r) (hi : wd.pin i = false) (hr : ∀ ds, Run X wd eS eB eT (ρ.set i (.l ds)) rest (o ds)) : Run X wd eS eB eT ρ (st :: rest) (r.bind o) := fun F ad σ H Dn sk q => by
  refine bss (pss_cons hp pss_b) ?_
  rw [wp_bind] at q
  refine ht F ad σ H _ sk (wp_mono (fun ds q a vs H1 g ha e r => ?_) (fun _ _ z => z.xp sk) q)
  have hb : ∀ b, Ban F (ρ.set i (.l ds)) (fun j => if j = i then a else ad j) b → Ban F ρ ad b ∨ b = a := by
    rintro b (b | ⟨j, ⟨t, et, qt⟩, e⟩)
    · exact .inl (.inl b)
    · by_cases hj : j = i
      · simp only [hj, if_true] at e; exact .inr e.symm
      · simp only [hj, if_false] at e
        rw [List.getElem?_set_ne (Ne.symm hj)] at et
        exact .inl (.inr ⟨j, ⟨t, et, qt⟩, e⟩)
  exact hr ds F _ _ H1 Dn (sk.setOwn g ha rfl ⟨rfl, vs, e, r.weak hb⟩) (wp_adv (.trans (.setOwn ha hi) (.grow g)) q)
/-- x = a new list that nobody changes -/
theorem setF_core {i : Nat} {t : TE} {st : Stmt} {o : List D → R (Out S B T)} {r : R (List D)} (hp : PS X st (tAsg t (gName i))) (ht : LsR X wd ρ t r) (hr : ∀ ds, Run X wd eS eB eT (ρ.set i (.d (.list ds))) rest (o ds)) : Run X wd eS eB eT ρ (st :: rest) (r.bind o) := fun F ad σ H Dn sk q => by
  refine bss (pss_cons hp pss_b) ?_
  rw [wp_bind] at q
  refine ht F ad σ H _ sk (wp_mono (fun ds q a vs H1 g ha e r => ?_) (fun _ _ z => z.xp sk) q)
  refine hr ds F ad _ H1 Dn ((sk.grow g).set (.lst (.inl e) (fun z => ?_) (r.weak fun b => .inl))) (wp_adv (.trans (.grow g) .set) q)
  obtain ⟨x, ex⟩ := sk.banned z
  rw [ha] at ex; cases ex
theorem lsr_ev {r : R (List D)} (h : EvL X wd ρ e r) : LsR X wd ρ (BE X e) r := h
theorem run_setO (c : Cd CX k wd N sc X) {i : Nat} {x : Str} {o : List D → R (Out S B T)} {r : R (List D)} (hx : lcB sc x = true) (hN : N[i]? = some x) (hi : wd.pin i = false) (ha : EvL X wd ρ e r) (hr : ∀ ds, Run X wd eS eB eT (ρ.set i (.l ds)) rest (o ds))
    (hs : swapsWith e (some (.Name x p)) pos.line X.env = pure false := by rfl) : Run X wd eS eB eT ρ (.Assign [.Name x p] e pos :: rest) (r.bind o) :=
  setO_core (ps_set c.nd' (c.at hN) (c.loc hx) pe_b hs (.inl (c.fn x))) ha hi hr
/-- what a statement «x = [..]» asks of the scope: x a local, no name of the comprehension, on one line -/
def swB (sc scope : Scope) (x : Str) (l1 l2 : Nat) : Bool := locB sc x && (l1 == l2) && !(scope.names.any fun (n, k) => n == x && (k == .local || k == .cell))
theorem swaps_of (c : Cd CX k wd N sc X) {scope : Scope} {x : Str} {gs : List Comprehension} (h : swB sc scope x p.line pos.line = true) {l : Nat} : swapsWith (.ListComp elt gs scope pos) (some (.Name x p)) l X.env = pure true := by
  unfold swB at h
  rw [Bool.and_eq_true, Bool.and_eq_true] at h
  obtain ⟨⟨h1, h2⟩, h3⟩ := h
  exact sw_true (by rw [c.hs]; exact c.kind) (by rw [c.hs]; exact locB_eq h1) h2 (by simpa using h3)
theorem ps_comp (c : Cd CX k wd N sc X) {scope : Scope} {own : List (Str × Nat)} {g : TG} {i : Nat} {x : Str} {spos : Pos} (hx : swB sc scope x p.line pos.line = true) (hN : N[i]? = some x) (hok : blkC N sc scope own = true) (hg : BlkG X scope tg g) (hl : ifs.length ≤ 1) (hs : ∀ x, foldedSetIterable iter X.env x = pure x) :
    PS X (.Assign [.Name x p] (.ListComp elt [⟨tg, iter, ifs, 0⟩] scope pos) spos) (tAsg (tLc (BI X tg iter) g (bT X scope ifs) (bE X scope elt) (own.map (·.2))) (gName i)) := by
  have hx1 : X.env.scope.names.lookup x = some .local := by
    rw [c.hs]
    unfold swB at hx
    rw [Bool.and_eq_true, Bool.and_eq_true] at hx
    exact locB_eq hx.1.1
  exact ps_setLc (own := own) c.calm c.nd' (c.at hN) hx1 (swaps_of c hx) pi_b (by rw [c.hN, c.hs]; exact blkOk_by hok) hg (bT_pts hl) bE_pe hs
/-- x = [elt for y in iter], nobody changes it -/
theorem run_setC (c : Cd CX k wd N sc X) {scope : Scope} {i j : Nat} {x y : Str} {spos : Pos} {f : D → R D} {r : R (List D)} {o : List D → R (Out S B T)} (hx : swB sc scope x p.line pos.line = true) (hN : N[i]? = some x) (hok : blkC N sc scope [(y, j)] = true) (hNy : N[j]? = some y) (hy : tgB scope sc y = true) {sl : Sl} (hno : ρ[j]? = some sl) (hsl : sl.own = false)
    (hi : EvJ X wd ρ (.Name y py) iter r) (hel : ∀ d s0 H0 C cl fp, Ev (X.blk s0 H0 scope (compEnvC scope cl C X.env) fp) wd.calm (ρ.set j (.d d)) elt (f d)) (hr : ∀ ds, Run X wd eS eB eT (ρ.set i (.d (.list ds))) rest (o ds)) (hs : ∀ x, foldedSetIterable iter X.env x = pure x := by exact fun _ => rfl) :
    Run X wd eS eB eT ρ (.Assign [.Name x p] (.ListComp elt [⟨.Name y py, iter, [], 0⟩] scope pos) spos :: rest) ((r.bind fun ds => compR (fun _ => R.ret true) f ds []).bind o) :=
  setF_core (ps_comp c (own := [(y, j)]) hx hN hok (blkg_name c.toCw hNy hy) (Nat.zero_le _) hs)
    (fun F ad σ H Q s q => lc_read hi (gs_name1 ρ) (fun z hz => by simp at hz; subst hz; exact not_own hno hsl) ⟨fun d e => (by cases e), fun d ρ' e => (by cases e; exact hel d), fun d ρ' e => rfl⟩ F ad σ H Q s q) hr
theorem run_setCO (c : Cd CX k wd N sc X) {scope : Scope} {i j : Nat} {x y : Str} {spos : Pos} {f : D → R D} {r : R (List D)} {o : List D → R (Out S B T)} (hx : swB sc scope x p.line pos.line = true) (hN : N[i]? = some x) (hp : wd.pin i = false) (hok : blkC N sc scope [(y, j)] = true) (hNy : N[j]? = some y) (hy : tgB scope sc y = true) {sl : Sl} (hno : ρ[j]? = some sl) (hsl : sl.own = false)
    (hi : EvJ X wd ρ (.Name y py) iter r) (hel : ∀ d s0 H0 C cl fp, Ev (X.blk s0 H0 scope (compEnvC scope cl C X.env) fp) wd.calm (ρ.set j (.d d)) elt (f d)) (hr : ∀ ds, Run X wd eS eB eT (ρ.set i (.l ds)) rest (o ds)) (hs : ∀ x, foldedSetIterable iter X.env x = pure x := by exact fun _ => rfl) :
    Run X wd eS eB eT ρ (.Assign [.Name x p] (.ListComp elt [⟨.Name y py, iter, [], 0⟩] scope pos) spos :: rest) ((r.bind fun ds => compR (fun _ => R.ret true) f ds []).bind o) :=
  setO_core (ps_comp c (own := [(y, j)]) hx hN hok (blkg_name c.toCw hNy hy) (Nat.zero_le _) hs)
    (fun F ad σ H Q s q => lc_read hi (gs_name1 ρ) (fun z hz => by simp at hz; subst hz; exact not_own hno hsl) ⟨fun d e => (by cases e), fun d ρ' e => (by cases e; exact hel d), fun d ρ' e => rfl⟩ F ad σ H Q s q) hp hr
theorem run_setCif (c : Cd CX k wd N sc X) {scope : Scope} {i j : Nat} {x y : Str} {spos : Pos} {t : Expr} {cf : D → R Bool} {f : D → R D} {r : R (List D)} {o : List D → R (Out S B T)} (hx : swB sc scope x p.line pos.line = true) (hN : N[i]? = some x) (hok : blkC N sc scope [(y, j)] = true) (hNy : N[j]? = some y) (hy : tgB scope sc y = true) {sl : Sl} (hno : ρ[j]? = some sl) (hsl : sl.own = false)
    (hi : EvJ X wd ρ (.Name y py) iter r) (ht : ∀ d s0 H0 C cl fp, EvT (X.blk s0 H0 scope (compEnvC scope cl C X.env) fp) wd.calm (ρ.set j (.d d)) t (cf d)) (hel : ∀ d s0 H0 C cl fp, Ev (X.blk s0 H0 scope (compEnvC scope cl C X.env) fp) wd.calm (ρ.set j (.d d)) elt (f d)) (hr : ∀ ds, Run X wd eS eB eT (ρ.set i (.d (.list ds))) rest (o ds)) (hs : ∀ x, foldedSetIterable iter X.env x = pure x := by exact fun _ => rfl) :
    Run X wd eS eB eT ρ (.Assign [.Name x p] (.ListComp elt [⟨.Name y py, iter, [t], 0⟩] scope pos) spos :: rest) ((r.bind fun ds => compR cf f ds []).bind o) :=
  setF_core (ps_comp c (own := [(y, j)]) hx hN hok (blkg_name c.toCw hNy hy) (Nat.le_refl _) hs)
    (fun F ad σ H Q s q => lc_read hi (gs_name1 ρ) (fun z hz => by simp at hz; subst hz; exact not_own hno hsl) ⟨fun d e => (by cases e), fun d ρ' e => (by cases e; exact hel d), fun d ρ' e => (by cases e; exact ht d)⟩ F ad σ H Q s q) hr
/-- x = [..] where x is a cell: an ordinary store -/
theorem cell_swaps (c : Cw CX k wd N sc X) {scope : Scope} {x : Str} {gs : List Comprehension} (h : sc.names.lookup x = some .cell) {l : Nat} : swapsWith (.ListComp elt gs scope pos) (some (.Name x p)) l X.env = pure false := by
  have kx : X.env.kindOf x = some .cell := by
    show X.env.scope.names.lookup x = _
    rw [c.hs]
    exact h
  unfold swapsWith
  simp only [kx]
  rw [show ((some NameKind.cell == some NameKind.local) = false) from rfl, Bool.and_false, Bool.false_and, Bool.false_and]
/-! ### unpacking, += -/
def unp2 {α : Type} (d : D) (f : D → D → R α) : R α := match d with
  | .tuple [a, b] => f a b
  | _ => bad
def unp3 {α : Type} (d : D) (f : D → D → D → R α) : R α := match d with
  | .tuple [a, b, c] => f a b c
  | _ => bad
def unp4 {α : Type} (d : D) (f : D → D → D → D → R α) : R α := match d with
  | .tuple [a, b, c, e] => f a b c e
  | _ => bad
/-- several names set from a tuple -/
theorem unp_core (c : Cd CX k wd N sc X) {is : List Nat} {es : List Expr} {kt : Nat} {pt : Pos} {o : D → R (Out S B T)} {spos : Pos} (hg : PG X (.Tuple es kt pt) (gTup X.K is.length (gNames is))) (ha : Ev X wd ρ e ra) (hno : ∀ d, stT is.length is ρ d = none → o d = bad)
    (hr : ∀ d ρ', stT is.length is ρ d = some ρ' → Run X wd eS eB eT ρ' rest (o d)) (hs : swapsWithSole [.Tuple es kt pt] e spos.line X.env = pure false := by rfl) (hw : swappedStores [.Tuple es kt pt] e X.env = pure none := by rfl) (h1 : (assignEach [.Tuple es kt pt] X.env).map (·.2) = [assign (.Tuple es kt pt) X.env] := by rfl) :
    Run X wd eS eB eT ρ (.Assign [.Tuple es kt pt] e spos :: rest) (ra.bind o) := fun F ad σ H Dn st q => by
  refine bss (pss_cons (ps_asg pe_b hg hs hw h1) pss_b) (step_ev ha st q fun d v H' g r q => ?_)
  cases est : stT is.length is ρ d with
  | none => rw [hno d est] at q; exact q.elim
  | some ρ' => exact gs_tup F ad σ H' v d ρ' _ (st.grow g) r est fun σ' s' ho2 ho w => hr d ρ' est F ad σ' H' Dn s' (wp_adv (.less ho) q)
theorem pgn_nil : PGs X [] (gNames []) := pgs_nil
theorem pgn_cons (c : Cd CX k wd N sc X) {i : Nat} {x : Str} {es : List Expr} {is : List Nat} (hx : lcB sc x = true) (hN : N[i]? = some x) (h : PGs X es (gNames is)) (hs : (assignEach (.Name x p :: es) X.env).map (·.2) = assign (.Name x p) X.env :: (assignEach es X.env).map (·.2) := by rfl) : PGs X (.Name x p :: es) (gNames (i :: is)) :=
  pgs_cons (pg_name c.nd' (c.at hN) (c.loc hx) (.inl (c.fn x))) h hs
theorem stT2 {i j : Nat} {d : D} {ρ' : List Sl} (h : stT 2 [i, j] ρ d = some ρ') : ∃ a b, d = .tuple [a, b] ∧ ρ' = (ρ.set i (.d a)).set j (.d b) := by
  cases d with
  | tuple xs =>
    unfold stT at h
    match xs, h with
    | [a, b], h => cases h; exact ⟨a, b, rfl, rfl⟩
    | [], h => cases h
    | [_], h => cases h
    | _ :: _ :: _ :: _, h => simp at h
  | _ => cases h
theorem stT2n {i j : Nat} {d : D} {α : Type} {f : D → D → R α} (h : stT 2 [i, j] ρ d = none) : unp2 d f = bad := by
  cases d with
  | tuple xs =>
    match xs with
    | [a, b] => cases h
    | [] => rfl
    | [_] => rfl
    | _ :: _ :: _ :: _ => rfl
  | _ => rfl
theorem run_unp2 (c : Cd CX k wd N sc X) {i j : Nat} {x y : Str} {kt : Nat} {pt px py spos : Pos} {o : D → D → R (Out S B T)} (hx : lcB sc x = true) (hN : N[i]? = some x) (hy : lcB sc y = true) (hN2 : N[j]? = some y) (ha : Ev X wd ρ e ra)
    (hr : ∀ a b, Run X wd eS eB eT ((ρ.set i (.d a)).set j (.d b)) rest (o a b)) (hs : swapsWithSole [.Tuple [.Name x px, .Name y py] kt pt] e spos.line X.env = pure false := by rfl) (hw : swappedStores [.Tuple [.Name x px, .Name y py] kt pt] e X.env = pure none := by rfl) :
    Run X wd eS eB eT ρ (.Assign [.Tuple [.Name x px, .Name y py] kt pt] e spos :: rest) (ra.bind fun d => unp2 d o) :=
  unp_core c (is := [i, j]) (pg_tup c.calm (pgn_cons c hx hN (pgn_cons c hy hN2 pgn_nil))) ha (fun d h => stT2n h) (fun d ρ' h => by obtain ⟨a, b, rfl, rfl⟩ := stT2 h; exact hr a b) hs hw
theorem stT3 {i j l : Nat} {d : D} {ρ' : List Sl} (h : stT 3 [i, j, l] ρ d = some ρ') : ∃ a b c, d = .tuple [a, b, c] ∧ ρ' = ((ρ.set i (.d a)).set j (.d b)).set l (.d c) := by
  cases d with
  | tuple xs =>
    unfold stT at h
    match xs, h with
    | [a, b, c], h => cases h; exact ⟨a, b, c, rfl, rfl⟩
    | [], h => cases h
    | [_], h => cases h
    | [_, _], h => cases h
    | _ :: _ :: _ :: _ :: _, h => simp at h
  | _ => cases h
theorem stT3n {i j l : Nat} {d : D} {α : Type} {f : D → D → D → R α} (h : stT 3 [i, j, l] ρ d = none) : unp3 d f = bad := by
  cases d with
  | tuple xs =>
    match xs with
    | [a, b, c] => cases h
    | [] => rfl
    | [_] => rfl
    | [_, _] => rfl
    | _ :: _ :: _ :: _ :: _ => rfl
  | _ => rfl
theorem run_unp3 (c : Cd CX k wd N sc X) {i j l : Nat} {x y z : Str} {kt : Nat} {pt px py pz spos : Pos} {o : D → D → D → R (Out S B T)} (hx : lcB sc x = true) (hN : N[i]? = some x) (hy : lcB sc y = true) (hN2 : N[j]? = some y) (hz : lcB sc z = true) (hN3 : N[l]? = some z) (ha : Ev X wd ρ e ra)
    (hr : ∀ a b d, Run X wd eS eB eT (((ρ.set i (.d a)).set j (.d b)).set l (.d d)) rest (o a b d)) (hs : swapsWithSole [.Tuple [.Name x px, .Name y py, .Name z pz] kt pt] e spos.line X.env = pure false := by rfl) (hw : swappedStores [.Tuple [.Name x px, .Name y py, .Name z pz] kt pt] e X.env = pure none := by rfl) :
    Run X wd eS eB eT ρ (.Assign [.Tuple [.Name x px, .Name y py, .Name z pz] kt pt] e spos :: rest) (ra.bind fun d => unp3 d o) :=
  unp_core c (is := [i, j, l]) (pg_tup c.calm (pgn_cons c hx hN (pgn_cons c hy hN2 (pgn_cons c hz hN3 pgn_nil)))) ha (fun d h => stT3n h) (fun d ρ' h => by obtain ⟨a, b, c, rfl, rfl⟩ := stT3 h; exact hr a b c) hs hw
theorem stT4 {i j l m : Nat} {d : D} {ρ' : List Sl} (h : stT 4 [i, j, l, m] ρ d = some ρ') : ∃ a b c e, d = .tuple [a, b, c, e] ∧ ρ' = (((ρ.set i (.d a)).set j (.d b)).set l (.d c)).set m (.d e) := by
  cases d with
  | tuple xs =>
    unfold stT at h
    match xs, h with
    | [a, b, c, e], h => cases h; exact ⟨a, b, c, e, rfl, rfl⟩
    | [], h => cases h
    | [_], h => cases h
    | [_, _], h => cases h
    | [_, _, _], h => cases h
    | _ :: _ :: _ :: _ :: _ :: _, h => simp at h
  | _ => cases h
theorem stT4n {i j l m : Nat} {d : D} {α : Type} {f : D → D → D → D → R α} (h : stT 4 [i, j, l, m] ρ d = none) : unp4 d f = bad := by
  cases d with
  | tuple xs =>
    match xs with
    | [a, b, c, e] => cases h
    | [] => rfl
    | [_] => rfl
    | [_, _] => rfl
    | [_, _, _] => rfl
    | _ :: _ :: _ :: _ :: _ :: _ => rfl
  | _ => rfl
theorem run_unp4 (c : Cd CX k wd N sc X) {i j l m : Nat} {x y z w : Str} {kt : Nat} {pt px py pz pw spos : Pos} {o : D → D → D → D → R (Out S B T)} (hx : lcB sc x = true) (hN : N[i]? = some x) (hy : lcB sc y = true) (hN2 : N[j]? = some y) (hz : lcB sc z = true) (hN3 : N[l]? = some z) (hw' : lcB sc w = true) (hN4 : N[m]? = some w) (ha : Ev X wd ρ e ra)
    (hr : ∀ a b d e, Run X wd eS eB eT ((((ρ.set i (.d a)).set j (.d b)).set l (.d d)).set m (.d e)) rest (o a b d e)) (hs : swapsWithSole [.Tuple [.Name x px, .Name y py, .Name z pz, .Name w pw] kt pt] e spos.line X.env = pure false := by rfl) (hw : swappedStores [.Tuple [.Name x px, .Name y py, .Name z pz, .Name w pw] kt pt] e X.env = pure none := by rfl) :
    Run X wd eS eB eT ρ (.Assign [.Tuple [.Name x px, .Name y py, .Name z pz, .Name w pw] kt pt] e spos :: rest) (ra.bind fun d => unp4 d o) :=
  unp_core c (is := [i, j, l, m]) (pg_tup c.calm (pgn_cons c hx hN (pgn_cons c hy hN2 (pgn_cons c hz hN3 (pgn_cons c hw' hN4 pgn_nil))))) ha (fun d h => stT4n h) (fun d ρ' h => by obtain ⟨a, b, c, e, rfl, rfl⟩ := stT4 h; exact hr a b c e) hs hw
/-- x += e, x -= e of ints -/
def iaddR : D → D → R D
  | .int i, .int j => R.ret (.int (i + j))
  | _, _ => bad
theorem aug_core {op : Operator} {fi : Int → Int → Int} {g : D → D → R D} (hop : PIp X op (ipI fi)) (hg : ∀ x y, (∃ i j, x = .int i ∧ y = .int j ∧ g x y = R.ret (.int (fi i j))) ∨ g x y = bad)
    (c : Cd CX k wd N sc X) {i : Nat} {x : Str} {o : D → R (Out S B T)} {d0 : D} (hx : lcB sc x = true) (hN : N[i]? = some x) (hρ : ρ[i]? = some (.d d0)) (ha : Ev X wd ρ e ra) (hr : ∀ d, Run X wd eS eB eT (ρ.set i (.d d)) rest (o d)) :
    Run X wd eS eB eT ρ (.AugAssign (.Name x p) op e pos :: rest) (ra.bind fun y => (g d0 y).bind o) := fun F ad σ H Dn st q => by
  refine bss (pss_cons (ps_aug c.nd' (c.at hN) (c.loc hx) pe_b hop (.inl (c.fn x))) pss_b) ?_
  obtain ⟨v, ev, rv⟩ := SlOk.at st hρ
  refine ⟨v, ev, step_ev (o := fun y => (g d0 y).bind o) ha st q fun d w H' g1 r q => ?_⟩
  rcases hg d0 d with ⟨a1, b1, rfl, rfl, e3⟩ | e3
  · rw [e3] at q
    cases rv
    cases r
    exact ⟨a1, b1, rfl, rfl, hr _ F ad _ H' Dn ((st.grow g1).set (.int _)) (wp_adv .set q)⟩
  · rw [e3] at q; exact q.elim
theorem run_iadd (c : Cd CX k wd N sc X) {i : Nat} {x : Str} {o : D → R (Out S B T)} {d0 : D} (hx : lcB sc x = true) (hN : N[i]? = some x) (hρ : ρ[i]? = some (.d d0)) (ha : Ev X wd ρ e ra) (hr : ∀ d, Run X wd eS eB eT (ρ.set i (.d d)) rest (o d)) :
    Run X wd eS eB eT ρ (.AugAssign (.Name x p) .Add e pos :: rest) (ra.bind fun y => (iaddR d0 y).bind o) :=
  aug_core ip_add (fun x y => by cases x <;> cases y <;> first | exact .inl ⟨_, _, rfl, rfl, rfl⟩ | exact .inr rfl) c hx hN hρ ha hr
theorem run_isub (c : Cd CX k wd N sc X) {i : Nat} {x : Str} {o : D → R (Out S B T)} {d0 : D} (hx : lcB sc x = true) (hN : N[i]? = some x) (hρ : ρ[i]? = some (.d d0)) (ha : Ev X wd ρ e ra) (hr : ∀ d, Run X wd eS eB eT (ρ.set i (.d d)) rest (o d)) :
    Run X wd eS eB eT ρ (.AugAssign (.Name x p) .Sub e pos :: rest) (ra.bind fun y => (subR d0 y).bind o) :=
  aug_core ip_sub (fun x y => by cases x <;> cases y <;> first | exact .inl ⟨_, _, rfl, rfl, rfl⟩ | exact .inr rfl) c hx hN hρ ha hr
/-! ### owned lists: append, return -/
/-- xs.append(e), xs owned -/
def appR (xs : List D) (d : D) : R (List D) := if xs.length < sizeLine then R.ret (xs ++ [d]) else bad
theorem run_app (c : Cd CX k wd N sc X) {i : Nat} {x : Str} {apos : Pos} {xs : List D} {o : List D → R (Out S B T)} (hx : visB sc x = true) (hN : N[i]? = some x) (hρ : ρ[i]? = some (.l xs)) (ha : Ev X wd ρ e ra) (hr : ∀ ys, Run X wd eS eB eT (ρ.set i (.l ys)) rest (o ys))
    (hbase : attributeBase (.Name x p) "append" X.env (eval (.Name x p) X.env) = eval (.Name x p) X.env := by rfl) (hline : (apos.endLine == pos.line) = true := by rfl) (he : starEach (e :: []) X.env = (false, eval e X.env) :: starEach [] X.env := by rfl) :
    Run X wd eS eB eT ρ (.Expr (.Call (.Attribute (.Name x p) "append" apos) [e] [] pos) py :: rest) (ra.bind fun d => (appR xs d).bind o) := fun F ad σ H Dn st q => by
  obtain ⟨v1, v2, v3⟩ := c.vis hx
  obtain ⟨ev, vs, e2, rr⟩ := st.sl i _ hρ
  refine bss (pss_cons (ps_expr (pe_bm PySem.F.plainAttrs_list PySem.F.slot_list_append PySem.F.type_list_append mt_append (pe_var (i := i) (c.at hN) v1 v2 v3) (pa_cons pe_b pa_nil he) hbase (by rw [he]; rfl) hline he rfl)) pss_b) ?_
  refine ⟨_, ev, .inl ⟨rfl, _, .of e2⟩, step_ev (o := fun d => (appR xs d).bind o) ha st q fun d v H' g r q => ?_⟩
  unfold appR at q
  rw [wp_bind] at q
  obtain ⟨hz, q⟩ := wp_ite q
  have st' := st.grow g
  obtain ⟨ev', vs', e2', rr'⟩ := st'.sl i _ hρ
  have ow : Own ρ i := ⟨_, hρ, rfl⟩
  refine ⟨ad i, vs', v, rfl, rfl, e2', by rw [rr'.length]; exact hz, ?_⟩
  refine hr _ F ad σ _ Dn (st'.mut ow rfl ⟨ev', _, upd_same, ?_⟩) (wp_adv (.mut st' ow) q)
  refine (rr'.append (.cons r .nil)).stay fun b u eb nb => ?_
  rw [upd_ne fun z => nb (by rw [z]; exact .inr ⟨i, ow, rfl⟩)]
  exact eb
theorem run_retO (c : Cd CX k wd N sc X) {i : Nat} {x : Str} {xs : List D} {t : T} (hx : visB sc x = true) (hN : N[i]? = some x) (hρ : ρ[i]? = some (.l xs)) (ht : ∀ (j : Nat) (s : Sl), (eT t)[j]? = some s → s.own = true → j ≠ i ∧ ρ[j]? = some s) :
    Run X wd eS eB eT ρ [.Return (some (.Name x p)) pos] (R.ret (.rt (.list xs) t)) := fun F ad σ H Dn st q => by
  obtain ⟨v1, v2, v3⟩ := c.vis hx
  obtain ⟨ev, vs, e2, rr⟩ := st.sl i _ hρ
  refine bss (pss_one (ps_ret (pe_var (i := i) (c.at hN) v1 v2 v3))) ⟨_, ev, ?_⟩
  have hl : Le (ρ.set i .no) ρ := ⟨by simp, fun j s e => by
    by_cases hj : j = i
    · subst hj
      by_cases hl : j < ρ.length
      · rw [List.getElem?_set_self hl] at e; cases e; exact .inl rfl
      · rw [List.getElem?_eq_none (by simpa using hl)] at e; cases e
    · rw [List.getElem?_set_ne (Ne.symm hj)] at e
      exact .inr (.inl e)⟩
  refine q _ ad (ρ.set i .no) σ H (.less fun _ => hl.own) (st.le hl) (fun j s e o => ?_) (.lst (.inl e2) (fun z => ?_) (rr.weak fun b => hl.ban))
  · obtain ⟨h1, h2⟩ := ht j s e o
    rw [List.getElem?_set_ne (Ne.symm h1)]
    exact h2
  · rcases z with z | ⟨j, o, ej⟩
    · exact st.nf i ⟨_, hρ, rfl⟩ z
    · have hji := st.inj j i (hl.own o) ⟨_, hρ, rfl⟩ ej
      subst hji
      obtain ⟨s, e, q⟩ := o
      have hlen : j < ρ.length := by
        by_cases hl : j < ρ.length
        · exact hl
        · rw [List.getElem?_eq_none (by omega)] at hρ; cases hρ
      rw [List.getElem?_set_self hlen] at e
      cases e; cases q
/-! ### defs by their bodies -/
def l1 {α : Type} (f : D → R α) : List D → R α
  | [a] => f a
  | _ => bad
def l2 {α : Type} (f : D → D → R α) : List D → R α
  | [a, b] => f a b
  | _ => bad
def l3 {α : Type} (f : D → D → D → R α) : List D → R α
  | [a, b, c] => f a b c
  | _ => bad
def l4 {α : Type} (f : D → D → D → D → R α) : List D → R α
  | [a, b, c, e] => f a b c e
  | _ => bad
def l5 {α : Type} (f : D → D → D → D → D → R α) : List D → R α
  | [a, b, c, e, g] => f a b c e g
  | _ => bad
def l0 {α : Type} (f : R α) : List D → R α
  | [] => f
  | _ => bad
/-- a def of the program, as its callers see it -/
structure Df (P : Program) (w : World) (K : PySem.W.Frag) (mg : Str → Option Value) (base : Heap) (CX : CXT) (j : Nat) (x : Str) (sp : Sp) : Prop where
  ok : ∃ (f : Addr) (fd : FuncData) (ps : List Str), mg x = some (.ref f) ∧ PySem.W.keepIn K (.ref f) = true ∧ Binds K fd ps [] ∧ FnOk P w K mg base CX j f fd ps sp
theorem Df.dn (h : Df X.prog X.w X.K X.mg X.base CX k x sp) : Dn X CX k x sp := ⟨h.ok⟩
/-- where a def of the text stands -/
structure At (K : PySem.W.Frag) (mg : Str → Option Value) (x : Str) (st : Stmt) (ps : List Str) : Prop where
  ok : ∃ (f : Addr) (fd : FuncData), mg x = some (.ref f) ∧ PySem.W.keepIn K (.ref f) = true ∧ Binds K fd ps [] ∧ Fun K x x st f fd
/-- the errors of a law: none leaves a def, or as CX says -/
def noE : Nat → Value × Option Str := fun _ => (.none, none)
def wd0 : Wd := ⟨none, fun _ _ _ => False, noE, fun _ => false⟩
end
section
variable {P : Program} {w : World} {K : PySem.W.Frag} {mg : Str → Option Value} {base : Heap} {N ps : List Str} {x : Str} {st : Stmt} {k : Nat}
def slots (N : List Str) (ds : List D) : List Sl := ds.map .d ++ List.replicate (N.length - ds.length) .no
theorem slots_own {ds : List D} {i : Nat} : ¬ Own (slots N ds) i := by
  rintro ⟨s, e, q⟩
  unfold slots at e
  by_cases h : i < ds.length
  · rw [List.getElem?_append_left (by simpa using h), List.getElem?_map] at e
    cases e2 : ds[i]? with
    | none => rw [e2] at e; cases e
    | some d => rw [e2] at e; cases e; cases q
  · rw [List.getElem?_append_right (by simpa using h), List.getElem?_replicate] at e
    split at e
    · cases e; cases q
    · cases e
theorem start_ok {B : Addr → Prop} {H : Hp} {vs : List V} {ds : List D} {ad : Nat → Addr} (nb : ∀ b, B b → ∃ o, H b = some o) (r : Reps K B H vs ds) (hl : ds.length ≤ N.length) : StOk K none B (slots N ds) (L2.start N vs) H ad := by
  have hvl := r.length
  refine ⟨?_, fun i j o => absurd o slots_own, fun i o => absurd o slots_own, nb, fun a e => (by cases e), fun i s e => ?_⟩
  · unfold L2.start slots
    simp only [List.length_append, List.length_map, List.length_replicate]
    omega
  · have hb : ∀ b, Ban B (slots N ds) ad b → B b := by
      rintro b (b | ⟨j, o, _⟩)
      · exact b
      · exact absurd o slots_own
    unfold slots at e
    by_cases h : i < ds.length
    · rw [List.getElem?_append_left (by simpa using h), List.getElem?_map] at e
      cases e2 : ds[i]? with
      | none => rw [e2] at e; cases e
      | some d =>
        rw [e2] at e
        cases e
        obtain ⟨v, ev, rv⟩ := r.get e2
        refine ⟨v, ?_, rv.weak hb⟩
        unfold L2.start
        rw [List.getElem?_append_left (by rw [List.length_map, hvl]; exact h), List.getElem?_map, ev]
        rfl
    · rw [List.getElem?_append_right (by simpa using h), List.getElem?_replicate] at e
      split at e
      · cases e; trivial
      · cases e
/-- a def that raises nothing, by its body -/
theorem df_of (A : At K mg x st ps) (S : FnScope N ps (defScope st)) {m : List D → R D} {T : Type} {eT : T → List Sl} {o : List D → R (Out Unit Empty T)}
    (hm : ∀ ds, ds.length = ps.length → m ds = endR0 (o ds)) {eN : Unit → List Sl} {eB : Empty → List Sl}
    (hrun : ∀ (X : Cx), Cd CX0 k wd0 N (defScope st) X → X.prog = P → X.w = w → X.K = K → X.mg = mg → X.base = base → ∀ ds, ds.length = ps.length → Run X wd0 eN eB eT (slots N ds) (defBody st) (o ds)) :
    Df P w K mg base CX0 (k + 1) x (spP K ps.length m) := by
  obtain ⟨f, fd, h1, h2, h3, F⟩ := A.ok
  refine ⟨f, fd, ps, h1, h2, h3, F.ok S (fun vs H Q E h => ?_) (fun cdv A outer s H vs Q E hr h => ?_)⟩
  · obtain ⟨B, ds, _, hl, r, _⟩ := h
    rw [r.length, hl]
  · obtain ⟨B, ds, nb, hl, r, q⟩ := h
    refine ⟨_, pss_b, ?_⟩
    have hN : ps.length ≤ N.length := by have := congrArg List.length S.pre; rw [List.length_take] at this; omega
    have st0 := start_ok (K := K) (N := N) (ad := fun _ => 0) nb r (by omega)
    rw [hm ds hl] at q
    unfold endR0 at q
    rw [wp_bind] at q
    refine hrun ((cxOf CX0 P w K mg base N x (defScope st) f cdv A outer s H E).nox) ⟨⟨rfl, rfl, S.nd, rfl, hr, PassesOwn.never, pass0⟩, fun _ => rfl, S.kind⟩ rfl rfl rfl rfl rfl ds hl B (fun _ => 0) _ H _ st0 (wp_mono (fun z q => ?_) (fun c x z => z.elim) q)
    · cases z with
      | nx u => exact fun ad' σ' H' a s' => q _ H' (fun b o e => (a.keep b o e (fun z => by cases z) fun ⟨i, o, _⟩ => slots_own o).1) .non
      | bk b => exact b.elim
      | ct b => exact b.elim
      | rt d t => exact fun v ad' ρ' σ' H' a s' _ r => q v H' (fun b o e => (a.keep b o e (fun z => by cases z) fun ⟨i, o, _⟩ => slots_own o).1) (r.weak fun b => .inl)
/-! ### defs that draw -/
def wdD (a : Addr) : Wd := ⟨some a, fun _ _ _ => False, noE, fun _ => false⟩
theorem noW0 : NoW wd0 := ⟨rfl, fun _ => rfl⟩
theorem noWD (a : Addr) : NoW (wdD a) := ⟨rfl, fun _ => rfl⟩
def slotsD (N : List Str) (ds : List D) : List Sl := .w :: (ds.map .d ++ List.replicate (N.length - 1 - ds.length) .no)
theorem slotsD_own {ds : List D} {i : Nat} : ¬ Own (slotsD N ds) i := by
  rintro ⟨s, e, q⟩
  unfold slotsD at e
  cases i with
  | zero => cases e; cases q
  | succ i =>
    rw [List.getElem?_cons_succ] at e
    by_cases h : i < ds.length
    · rw [List.getElem?_append_left (by simpa using h), List.getElem?_map] at e
      cases e2 : ds[i]? with
      | none => rw [e2] at e; cases e
      | some d => rw [e2] at e; cases e; cases q
    · rw [List.getElem?_append_right (by simpa using h), List.getElem?_replicate] at e
      split at e
      · cases e; cases q
      · cases e
theorem startD_ok {B : Addr → Prop} {H : Hp} {vs : List V} {ds : List D} {ad : Nat → Addr} {a l : Addr} (nb : ∀ b, B b → ∃ o, H b = some o) (ba : B a) (bl : B l) (ne : l ≠ a) (da : DrAt H a l) (r : Reps K B H vs ds) (hl : ds.length + 1 ≤ N.length) :
    StOk K (some a) B (slotsD N ds) (L2.start N (.ref a :: vs)) H ad := by
  have hvl := r.length
  refine ⟨?_, fun i j o => absurd o slotsD_own, fun i o => absurd o slotsD_own, nb, fun b e => ?_, fun i s e => ?_⟩
  · unfold L2.start slotsD
    simp only [List.length_append, List.length_map, List.length_replicate, List.length_cons]
    omega
  · cases e; exact ⟨ba, l, bl, ne, da⟩
  · have hb : ∀ b, Ban B (slotsD N ds) ad b → B b := by
      rintro b (b | ⟨j, o, _⟩)
      · exact b
      · exact absurd o slotsD_own
    unfold slotsD at e
    cases i with
    | zero => cases e; exact ⟨a, rfl, by unfold L2.start; rfl⟩
    | succ i =>
      rw [List.getElem?_cons_succ] at e
      by_cases h : i < ds.length
      · rw [List.getElem?_append_left (by simpa using h), List.getElem?_map] at e
        cases e2 : ds[i]? with
        | none => rw [e2] at e; cases e
        | some d =>
          rw [e2] at e
          cases e
          obtain ⟨v, ev, rv⟩ := r.get e2
          refine ⟨v, ?_, rv.weak hb⟩
          unfold L2.start
          rw [List.map_cons, List.cons_append, List.getElem?_cons_succ, List.getElem?_append_left (by rw [List.length_map, hvl]; exact h), List.getElem?_map, ev]
          rfl
      · rw [List.getElem?_append_right (by simpa using h), List.getElem?_replicate] at e
        split at e
        · cases e; trivial
        · cases e
theorem df_ofD (A : At K mg x st ps) (S : FnScope N ps (defScope st)) {m : List D → R D} {T : Type} {eT : T → List Sl} {n : Nat} (hn : ps.length = n + 1) {o : List D → R (Out Unit Empty T)}
    (hm : ∀ ds, ds.length = n → m ds = endR0 (o ds)) {eN : Unit → List Sl} {eB : Empty → List Sl}
    (hrun : ∀ (X : Cx) (a : Addr), Cd CX0 k (wdD a) N (defScope st) X → X.prog = P → X.w = w → X.K = K → X.mg = mg → X.base = base → ∀ ds, ds.length = n → Run X (wdD a) eN eB eT (slotsD N ds) (defBody st) (o ds)) :
    Df P w K mg base CX0 (k + 1) x (spD K n m) := by
  obtain ⟨f, fd, h1, h2, h3, F⟩ := A.ok
  refine ⟨f, fd, ps, h1, h2, h3, F.ok S (fun vs H Q E h => ?_) (fun cdv A outer s H vs Q E hr h => ?_)⟩
  · obtain ⟨B, a, l, vs', ds, _, rfl, _, _, _, _, hl, r, _⟩ := h
    rw [List.length_cons, r.length, hl, hn]
  · obtain ⟨B, a, l, vs', ds, nb, rfl, ba, bl, ne, da, hl, r, q⟩ := h
    refine ⟨_, pss_b, ?_⟩
    have hN : ps.length ≤ N.length := by have := congrArg List.length S.pre; rw [List.length_take] at this; omega
    have st0 := startD_ok (K := K) (N := N) (ad := fun _ => 0) nb ba bl ne da r (by omega)
    rw [hm ds hl] at q
    unfold endR0 at q
    rw [wp_bind] at q
    have gr : ∀ {ρ' : List Sl} {ad' : Nat → Addr} {H' : Hp}, Adv (wdD a) (slotsD N ds) (fun _ => 0) H ρ' ad' H' → Grow (some a) H H' := fun {ρ' ad' H'} z => ⟨fun b o e n => (z.keep b o e n fun ⟨i, o, _⟩ => slotsD_own o).1, z.draw⟩
    refine hrun ((cxOf CX0 P w K mg base N x (defScope st) f cdv A outer s H E).nox) a ⟨⟨rfl, rfl, S.nd, rfl, hr, PassesOwn.never, pass0⟩, fun _ => rfl, S.kind⟩ rfl rfl rfl rfl rfl ds hl B (fun _ => 0) _ H _ st0 (wp_mono (fun z q => ?_) (fun c x z => z.elim) q)
    cases z with
    | nx u => exact fun ad' σ' H' a s' => q _ H' (gr a) .non
    | bk b => exact b.elim
    | ct b => exact b.elim
    | rt d t => exact fun v ad' ρ' σ' H' a s' _ r => q v H' (gr a) (r.weak fun b => .inl)
/-- a def of which nothing is known -/
theorem df_bad (A : At K mg x st ps) {j n : Nat} {m : List D → R D} (hm : ∀ ds, m ds = bad) : Df P w K mg base CX0 j x (spP K n m) := by
  obtain ⟨f, fd, h1, h2, h3, F⟩ := A.ok
  have no : ∀ {vs H Q E}, ¬ spP K n m vs H Q E := fun {vs H Q E} ⟨B, ds, _, _, _, q⟩ => by rw [hm] at q; exact q
  exact ⟨f, fd, ps, h1, h2, h3, fun vs H Q E h => absurd h no, fun A outer s H args us vs Q E _ _ _ _ h => absurd h no⟩
theorem df_badD (A : At K mg x st ps) {j n : Nat} {m : List D → R D} (hm : ∀ ds, m ds = bad) : Df P w K mg base CX0 j x (spD K n m) := by
  obtain ⟨f, fd, h1, h2, h3, F⟩ := A.ok
  have no : ∀ {vs H Q E}, ¬ spD K n m vs H Q E := fun {vs H Q E} ⟨B, a, l, vs', ds, _, _, _, _, _, _, _, _, q⟩ => by rw [hm] at q; exact q
  exact ⟨f, fd, ps, h1, h2, h3, fun vs H Q E h => absurd h no, fun A outer s H args us vs Q E _ _ _ _ h => absurd h no⟩
end
/-- the built-ins that a law's module leaves as they are -/
structure Bt (mg : Str → Option Value) : Prop where
  len : mg "len" = none
  range : mg "range" = none
  tuple : mg "tuple" = none
  list : mg "list" = none
  sum : mg "sum" = none
  max : mg "max" = none
  min : mg "min" = none
  abs : mg "abs" = none
  int : mg "int" = none
  str : mg "str" = none
  all : mg "all" = none
  any : mg "any" = none
  isinstance : mg "isinstance" = none
  bool : mg "bool" = none
  sorted : mg "sorted" = none
section
variable {CX : CXT} {k : Nat} {wd : Wd} {N : List Str} {sc : Scope} {X : Cx} {ρ : List Sl} {e a b : Expr} {pos p : Pos} {ra rb : R D}
theorem bv_len : bootBuiltins "len" = some (.builtin "len") := by decide +kernel
theorem bv_tuple : bootBuiltins "tuple" = some (.type "tuple") := by decide +kernel
theorem bv_list : bootBuiltins "list" = some (.type "list") := by decide +kernel
theorem bv_sum : bootBuiltins "sum" = some (.builtin "sum") := by decide +kernel
theorem bv_max : bootBuiltins "max" = some (.builtin "max") := by decide +kernel
theorem bv_min : bootBuiltins "min" = some (.builtin "min") := by decide +kernel
theorem bv_abs : bootBuiltins "abs" = some (.builtin "abs") := by decide +kernel
theorem bv_int : bootBuiltins "int" = some (.type "int") := by decide +kernel
theorem bv_str : bootBuiltins "str" = some (.type "str") := by decide +kernel
theorem bv_bool : bootBuiltins "bool" = some (.type "bool") := by decide +kernel
theorem bv_all : bootBuiltins "all" = some (.builtin "all") := by decide +kernel
theorem bv_any : bootBuiltins "any" = some (.builtin "any") := by decide +kernel
theorem bv_isi : bootBuiltins "isinstance" = some (.builtin "isinstance") := by decide +kernel
theorem ev_len (c : Cw CX k wd N sc X) (B : Bt X.mg) (hg : glB sc "len" = true) (ha : EvB X wd ρ a ra) (he : Plain X a := by exact fun _ => rfl) : Ev X wd ρ (.Call (.Name "len" p) [a] [] pos) (ra.bind fun x => lenR x) := ev_b1 c call_len calS_len hg B.len bv_len ha he
theorem ev_tuple (c : Cw CX k wd N sc X) (B : Bt X.mg) (hg : glB sc "tuple" = true) (ha : EvB X wd ρ a ra) (he : Plain X a := by exact fun _ => rfl) : Ev X wd ρ (.Call (.Name "tuple" p) [a] [] pos) (ra.bind fun x => tupleR x) := ev_t1 c call_tuple_of calS_tuple hg B.tuple bv_tuple ha he
theorem ev_list (c : Cw CX k wd N sc X) (B : Bt X.mg) (hg : glB sc "list" = true) (ha : EvB X wd ρ a ra) (he : Plain X a := by exact fun _ => rfl) : Ev X wd ρ (.Call (.Name "list" p) [a] [] pos) (ra.bind fun x => listR x) := ev_t1 c call_list_of calS_list hg B.list bv_list ha he
theorem ev_sum (c : Cw CX k wd N sc X) (B : Bt X.mg) (hg : glB sc "sum" = true) (ha : EvB X wd ρ a ra) (he : Plain X a := by exact fun _ => rfl) : Ev X wd ρ (.Call (.Name "sum" p) [a] [] pos) (ra.bind fun x => sumR x) := ev_b1 c (cr_sum c.calm) calS_sum hg B.sum bv_sum ha he
theorem ev_all (c : Cw CX k wd N sc X) (B : Bt X.mg) (hg : glB sc "all" = true) (ha : EvB X wd ρ a ra) (he : Plain X a := by exact fun _ => rfl) : Ev X wd ρ (.Call (.Name "all" p) [a] [] pos) (ra.bind fun x => allR x) := ev_b1 c (cr_all c.calm) calS_all hg B.all bv_all ha he
theorem ev_any (c : Cw CX k wd N sc X) (B : Bt X.mg) (hg : glB sc "any" = true) (ha : EvB X wd ρ a ra) (he : Plain X a := by exact fun _ => rfl) : Ev X wd ρ (.Call (.Name "any" p) [a] [] pos) (ra.bind fun x => anyR x) := ev_b1 c (cr_any c.calm) calS_any hg B.any bv_any ha he
theorem ev_abs (c : Cw CX k wd N sc X) (B : Bt X.mg) (hg : glB sc "abs" = true) (ha : EvB X wd ρ a ra) (he : Plain X a := by exact fun _ => rfl) : Ev X wd ρ (.Call (.Name "abs" p) [a] [] pos) (ra.bind fun x => absR x) := ev_b1 c call_abs calS_abs hg B.abs bv_abs ha he
theorem ev_toint (c : Cw CX k wd N sc X) (B : Bt X.mg) (hg : glB sc "int" = true) (ha : EvB X wd ρ a ra) (he : Plain X a := by exact fun _ => rfl) : Ev X wd ρ (.Call (.Name "int" p) [a] [] pos) (ra.bind fun x => intR x) := ev_t1 c call_int1 calS_int hg B.int bv_int ha he
theorem ev_max (c : Cw CX k wd N sc X) (B : Bt X.mg) (hg : glB sc "max" = true) (ha : EvB X wd ρ a ra) (hb : EvB X wd ρ b rb) (he : Plain X a := by exact fun _ => rfl) (he2 : Plain X b := by exact fun _ => rfl) : Ev X wd ρ (.Call (.Name "max" p) [a, b] [] pos) (ra.bind fun x => rb.bind fun y => maxR x y) := ev_b2 c (call_max2 c.calm) calS_max hg B.max bv_max ha hb he he2
theorem ev_min (c : Cw CX k wd N sc X) (B : Bt X.mg) (hg : glB sc "min" = true) (ha : EvB X wd ρ a ra) (hb : EvB X wd ρ b rb) (he : Plain X a := by exact fun _ => rfl) (he2 : Plain X b := by exact fun _ => rfl) : Ev X wd ρ (.Call (.Name "min" p) [a, b] [] pos) (ra.bind fun x => rb.bind fun y => minR x y) := ev_b2 c (call_min2 c.calm) calS_min hg B.min bv_min ha hb he he2
theorem evi_r1 (c : Cw CX k wd N sc X) (B : Bt X.mg) {tg : Expr} (hg : glB sc "range" = true) (ha : EvB X wd ρ a ra) (he : Plain X a := by exact fun _ => rfl) : EvI X wd ρ tg (.Call (.Name "range" p) [a] [] pos) (ra.bind fun x => rng1R x) := evi_rng1 c hg B.range ha he
theorem evi_r2 (c : Cw CX k wd N sc X) (B : Bt X.mg) {tg : Expr} (hg : glB sc "range" = true) (ha : EvB X wd ρ a ra) (hb : EvB X wd ρ b rb) (he : Plain X a := by exact fun _ => rfl) (he2 : Plain X b := by exact fun _ => rfl) : EvI X wd ρ tg (.Call (.Name "range" p) [a, b] [] pos) (ra.bind fun x => rb.bind fun y => rng2R x y) := evi_rng2 c hg B.range ha hb he he2
end
end Pu
/-! Pw: the rules as the printer uses them. -/
namespace Pu
open PySem PySem.Spec PyProof.Rows L2 R
theorem ht0 {ρ : List Sl} : ∀ (i : Nat) (s : Sl), (([] : List Sl)[i]? = some s) → s.own = true → ρ[i]? = some s := fun i s h => by simp at h
theorem ht0' {ρ : List Sl} {k : Nat} : ∀ (i : Nat) (s : Sl), (([] : List Sl)[i]? = some s) → s.own = true → i ≠ k ∧ ρ[i]? = some s := fun i s h => by simp at h
theorem cx0F : ∀ (outer : List Env) (H : Hp) (s : Shared) (e : Value) (s' : Shared), CX0 outer H s (fun _ _ _ => False) e s' → False := fun _ _ _ _ _ h => h
theorem NoW.calm {wd : Wd} (h : NoW wd) : NoW wd.calm := ⟨rfl, h.x⟩
section
variable {CX : CXT} {k : Nat} {wd : Wd} {N : List Str} {sc : Scope} {X : Cx} {ρ : List Sl} {e a b c0 a1 a2 a3 a4 a5 a6 : Expr} {pos p : Pos} {ra rb rc r1 r2 r3 r4 r5 r6 : R D}
theorem szk {n : Nat} (h : n ≤ 1000) : n ≤ sizeLine := Nat.le_of_lt (small1000 h)
theorem ev_tup0 {x1 : Nat} : Ev X wd ρ (.Tuple [] x1 pos) (R.ret (.tuple [])) := (ev_tup eva_nil).eq (by simp)
theorem ev_tup1 {x1 : Nat} (h1 : Ev X wd ρ a1 r1) (s1 : Plain X a1 := by exact fun _ => rfl) : Ev X wd ρ (.Tuple [a1] x1 pos) (r1.bind fun x => R.ret (.tuple [x])) :=
  (ev_tup (eva_cons h1 eva_nil (s1 _))).eq (by simp [bind_assoc, szk])
theorem ev_tup2 {x1 : Nat} (h1 : Ev X wd ρ a1 r1) (h2 : Ev X wd ρ a2 r2) (s1 : Plain X a1 := by exact fun _ => rfl) (s2 : Plain X a2 := by exact fun _ => rfl) : Ev X wd ρ (.Tuple [a1, a2] x1 pos) (r1.bind fun x => r2.bind fun y => R.ret (.tuple [x, y])) :=
  (ev_tup (eva_cons h1 (eva_cons h2 eva_nil (s2 _)) (s1 _))).eq (by simp [bind_assoc, szk])
theorem ev_tup3 {x1 : Nat} (h1 : Ev X wd ρ a1 r1) (h2 : Ev X wd ρ a2 r2) (h3 : Ev X wd ρ a3 r3) (s1 : Plain X a1 := by exact fun _ => rfl) (s2 : Plain X a2 := by exact fun _ => rfl) (s3 : Plain X a3 := by exact fun _ => rfl) :
    Ev X wd ρ (.Tuple [a1, a2, a3] x1 pos) (r1.bind fun x => r2.bind fun y => r3.bind fun z => R.ret (.tuple [x, y, z])) :=
  (ev_tup (eva_cons h1 (eva_cons h2 (eva_cons h3 eva_nil (s3 _)) (s2 _)) (s1 _))).eq (by simp [bind_assoc, szk])
theorem ev_tup4 {x1 : Nat} (h1 : Ev X wd ρ a1 r1) (h2 : Ev X wd ρ a2 r2) (h3 : Ev X wd ρ a3 r3) (h4 : Ev X wd ρ a4 r4) (s1 : Plain X a1 := by exact fun _ => rfl) (s2 : Plain X a2 := by exact fun _ => rfl) (s3 : Plain X a3 := by exact fun _ => rfl) (s4 : Plain X a4 := by exact fun _ => rfl) :
    Ev X wd ρ (.Tuple [a1, a2, a3, a4] x1 pos) (r1.bind fun x => r2.bind fun y => r3.bind fun z => r4.bind fun w => R.ret (.tuple [x, y, z, w])) :=
  (ev_tup (eva_cons h1 (eva_cons h2 (eva_cons h3 (eva_cons h4 eva_nil (s4 _)) (s3 _)) (s2 _)) (s1 _))).eq (by simp [bind_assoc, szk])
theorem ev_tup5 {x1 : Nat} (h1 : Ev X wd ρ a1 r1) (h2 : Ev X wd ρ a2 r2) (h3 : Ev X wd ρ a3 r3) (h4 : Ev X wd ρ a4 r4) (h5 : Ev X wd ρ a5 r5) (s1 : Plain X a1 := by exact fun _ => rfl) (s2 : Plain X a2 := by exact fun _ => rfl) (s3 : Plain X a3 := by exact fun _ => rfl) (s4 : Plain X a4 := by exact fun _ => rfl) (s5 : Plain X a5 := by exact fun _ => rfl) :
    Ev X wd ρ (.Tuple [a1, a2, a3, a4, a5] x1 pos) (r1.bind fun x => r2.bind fun y => r3.bind fun z => r4.bind fun w => r5.bind fun u => R.ret (.tuple [x, y, z, w, u])) :=
  (ev_tup (eva_cons h1 (eva_cons h2 (eva_cons h3 (eva_cons h4 (eva_cons h5 eva_nil (s5 _)) (s4 _)) (s3 _)) (s2 _)) (s1 _))).eq (by simp [bind_assoc, szk])
theorem EvL.eq {r r' : R (List D)} (h : EvL X wd ρ e r) (q : r = r') : EvL X wd ρ e r' := q ▸ h
theorem evl_nil : EvL X wd ρ (.List [] pos) (R.ret []) := (evl_lst eva_nil).eq (by simp)
theorem evl_lst1 (h1 : Ev X wd ρ a1 r1) (s1 : Plain X a1 := by exact fun _ => rfl) : EvL X wd ρ (.List [a1] pos) (r1.bind fun x => R.ret [x]) :=
  (evl_lst (eva_cons h1 eva_nil (s1 _))).eq (by simp [bind_assoc, szk])
theorem evl_lst2 (h1 : Ev X wd ρ a1 r1) (h2 : Ev X wd ρ a2 r2) (s1 : Plain X a1 := by exact fun _ => rfl) (s2 : Plain X a2 := by exact fun _ => rfl) : EvL X wd ρ (.List [a1, a2] pos) (r1.bind fun x => r2.bind fun y => R.ret [x, y]) :=
  (evl_lst (eva_cons h1 (eva_cons h2 eva_nil (s2 _)) (s1 _))).eq (by simp [bind_assoc, szk])
theorem evl_lst3 (h1 : Ev X wd ρ a1 r1) (h2 : Ev X wd ρ a2 r2) (h3 : Ev X wd ρ a3 r3) (s1 : Plain X a1 := by exact fun _ => rfl) (s2 : Plain X a2 := by exact fun _ => rfl) (s3 : Plain X a3 := by exact fun _ => rfl) :
    EvL X wd ρ (.List [a1, a2, a3] pos) (r1.bind fun x => r2.bind fun y => r3.bind fun z => R.ret [x, y, z]) :=
  (evl_lst (eva_cons h1 (eva_cons h2 (eva_cons h3 eva_nil (s3 _)) (s2 _)) (s1 _))).eq (by simp [bind_assoc, szk])
theorem evl_lst4 (h1 : Ev X wd ρ a1 r1) (h2 : Ev X wd ρ a2 r2) (h3 : Ev X wd ρ a3 r3) (h4 : Ev X wd ρ a4 r4) (s1 : Plain X a1 := by exact fun _ => rfl) (s2 : Plain X a2 := by exact fun _ => rfl) (s3 : Plain X a3 := by exact fun _ => rfl) (s4 : Plain X a4 := by exact fun _ => rfl) :
    EvL X wd ρ (.List [a1, a2, a3, a4] pos) (r1.bind fun x => r2.bind fun y => r3.bind fun z => r4.bind fun w => R.ret [x, y, z, w]) :=
  (evl_lst (eva_cons h1 (eva_cons h2 (eva_cons h3 (eva_cons h4 eva_nil (s4 _)) (s3 _)) (s2 _)) (s1 _))).eq (by simp [bind_assoc, szk])
theorem evl_lst5 (h1 : Ev X wd ρ a1 r1) (h2 : Ev X wd ρ a2 r2) (h3 : Ev X wd ρ a3 r3) (h4 : Ev X wd ρ a4 r4) (h5 : Ev X wd ρ a5 r5) (s1 : Plain X a1 := by exact fun _ => rfl) (s2 : Plain X a2 := by exact fun _ => rfl) (s3 : Plain X a3 := by exact fun _ => rfl) (s4 : Plain X a4 := by exact fun _ => rfl) (s5 : Plain X a5 := by exact fun _ => rfl) :
    EvL X wd ρ (.List [a1, a2, a3, a4, a5] pos) (r1.bind fun x => r2.bind fun y => r3.bind fun z => r4.bind fun w => r5.bind fun u => R.ret [x, y, z, w, u]) :=
  (evl_lst (eva_cons h1 (eva_cons h2 (eva_cons h3 (eva_cons h4 (eva_cons h5 eva_nil (s5 _)) (s4 _)) (s3 _)) (s2 _)) (s1 _))).eq (by simp [bind_assoc, szk])
theorem evl_lst6 (h1 : Ev X wd ρ a1 r1) (h2 : Ev X wd ρ a2 r2) (h3 : Ev X wd ρ a3 r3) (h4 : Ev X wd ρ a4 r4) (h5 : Ev X wd ρ a5 r5) (h6 : Ev X wd ρ a6 r6) (s1 : Plain X a1 := by exact fun _ => rfl) (s2 : Plain X a2 := by exact fun _ => rfl) (s3 : Plain X a3 := by exact fun _ => rfl) (s4 : Plain X a4 := by exact fun _ => rfl) (s5 : Plain X a5 := by exact fun _ => rfl) (s6 : Plain X a6 := by exact fun _ => rfl) :
    EvL X wd ρ (.List [a1, a2, a3, a4, a5, a6] pos) (r1.bind fun x => r2.bind fun y => r3.bind fun z => r4.bind fun w => r5.bind fun u => r6.bind fun v => R.ret [x, y, z, w, u, v]) :=
  (evl_lst (eva_cons h1 (eva_cons h2 (eva_cons h3 (eva_cons h4 (eva_cons h5 (eva_cons h6 eva_nil (s6 _)) (s5 _)) (s4 _)) (s3 _)) (s2 _)) (s1 _))).eq (by simp [bind_assoc, szk])
/-- list + list, a new list -/
def catR : D → D → R (List D)
  | .list xs, .list ys => if xs.length + ys.length ≤ sizeLine then R.ret (xs ++ ys) else bad
  | _, _ => bad
theorem evl_cat (ha : EvB X wd ρ a ra) (hb : EvB X wd ρ b rb) : EvL X wd ρ (.BinOp a .Add b pos) (ra.bind fun x => rb.bind fun y => catR x y) := fun F ad σ H Q s q => by
  refine be (pe_op op_catR pe_b pe_b) ?_
  rw [wp_bind] at q
  refine ha F ad σ H _ s (wp_mono (fun d q v H1 g1 r1 => ?_) (fun _ _ z => z) q)
  rw [wp_bind] at q
  have s1 := s.grow g1
  refine hb F ad σ H1 _ s1 (wp_mono (fun d2 q v2 H2 g2 r2 => ?_) (fun _ _ z => z.grow g1) q)
  have s2 := s1.grow g2
  cases d with
  | list xs =>
    cases d2 with
    | list ys =>
      obtain ⟨h, q⟩ := wp_ite q
      obtain ⟨l1, v1, rfl, e1, t1⟩ := (r1.stay s1 g2).list
      obtain ⟨l2, v2, rfl, e2, t2⟩ := r2.list
      refine ⟨l1, l2, v1, v2, rfl, rfl, e1, e2, by rw [t1.length, t2.length]; exact h, fun p hp => ?_⟩
      refine q _ _ _ (g1.trans (g2.trans (Grow.same (same_upd hp)))) (free_grow s (g1.trans g2) hp) upd_same (((t1.append t2).ban fun b z => ?_).stay (same_stay (same_upd hp)))
      rcases z with z | rfl
      · exact .inl z
      · exact .inr hp
    | _ => exact q.elim
  | _ => cases d2 <;> exact q.elim
/-- list(a), a new list -/
def listL : D → R (List D)
  | .list xs => R.ret xs
  | .tuple xs => R.ret xs
  | _ => bad
theorem evl_list (c : Cw CX k wd N sc X) (B : Bt X.mg) (hg : glB sc "list" = true) (ha : EvB X wd ρ a ra) (he : Plain X a := by exact fun _ => rfl) : EvL X wd ρ (.Call (.Name "list" p) [a] [] pos) (ra.bind fun x => listL x) := fun F ad σ H Q s q => by
  refine be (pe_callTy call_list_of (c.gl hg).1 B.list bv_list (pa_cons pe_b pa_nil (he [])) (c.gl hg).2.2 (c.gl hg).2.1 (he []) rfl) ?_
  rw [wp_bind] at q
  refine ha F ad σ H _ s (wp_mono (fun d q v H1 g1 r1 => ?_) (fun _ _ z => z) q)
  have nb : ∀ {p : Addr} {vs : List V} {ds : List D}, H1 p = none → Reps X.K (Ban F ρ ad) H1 vs ds → Reps X.K (fun b => Ban F ρ ad b ∨ b = p) (upd H1 p (.lst vs)) vs ds := fun {p vs ds} hp r => (r.ban fun b z => by
    rcases z with z | rfl
    · exact .inl z
    · exact .inr hp).stay (same_stay (same_upd hp))
  cases d with
  | list xs =>
    obtain ⟨l1, v1, rfl, e1, t1⟩ := r1.list
    exact ⟨l1, v1, rfl, .inl (.inl e1), fun p hp => q _ _ _ (g1.trans (Grow.same (same_upd hp))) (free_grow s g1 hp) upd_same (nb hp t1)⟩
  | tuple xs =>
    obtain ⟨l1, v1, rfl, e1, t1⟩ := r1.tuple
    exact ⟨l1, v1, rfl, .inr e1.sq, fun p hp => q _ _ _ (g1.trans (Grow.same (same_upd hp))) (free_grow s g1 hp) upd_same (nb hp t1)⟩
  | _ => exact q.elim
/-- calls of defs by the number of arguments -/
theorem l1n {α : Type} {f : D → R α} : ∀ ds : List D, ds.length ≠ 1 → l1 f ds = bad := fun ds h => by
  match ds, h with
  | [], _ => rfl
  | [a], h => exact absurd rfl h
  | _ :: _ :: _, _ => rfl
theorem l2n {α : Type} {f : D → D → R α} : ∀ ds : List D, ds.length ≠ 2 → l2 f ds = bad := fun ds h => by
  match ds, h with
  | [], _ => rfl
  | [a], _ => rfl
  | [_, _], h => exact absurd rfl h
  | _ :: _ :: _ :: _, _ => rfl
theorem l3n {α : Type} {f : D → D → D → R α} : ∀ ds : List D, ds.length ≠ 3 → l3 f ds = bad := fun ds h => by
  match ds, h with
  | [], _ => rfl
  | [a], _ => rfl
  | [_, _], _ => rfl
  | [_, _, _], h => exact absurd rfl h
  | _ :: _ :: _ :: _ :: _, _ => rfl
theorem l4n {α : Type} {f : D → D → D → D → R α} : ∀ ds : List D, ds.length ≠ 4 → l4 f ds = bad := fun ds h => by
  match ds, h with
  | [], _ => rfl
  | [a], _ => rfl
  | [_, _], _ => rfl
  | [_, _, _], _ => rfl
  | [_, _, _, _], h => exact absurd rfl h
  | _ :: _ :: _ :: _ :: _ :: _, _ => rfl
theorem l5n {α : Type} {f : D → D → D → D → D → R α} : ∀ ds : List D, ds.length ≠ 5 → l5 f ds = bad := fun ds h => by
  match ds, h with
  | [], _ => rfl
  | [a], _ => rfl
  | [_, _], _ => rfl
  | [_, _, _], _ => rfl
  | [_, _, _, _], _ => rfl
  | [_, _, _, _, _], h => exact absurd rfl h
  | _ :: _ :: _ :: _ :: _ :: _ :: _, _ => rfl
theorem l0n {α : Type} {f : R α} : ∀ ds : List D, ds.length ≠ 0 → l0 f ds = bad := fun ds h => by
  match ds, h with
  | [], h => exact absurd rfl h
  | _ :: _, _ => rfl
variable {x : Str} {j : Nat}
theorem ev_call1 (c : Cw CX k wd N sc X) (W : NoW wd) {m : D → R D} (G : Df X.prog X.w X.K X.mg X.base CX j x (spP X.K 1 (l1 m))) (hj : j ≤ k) (hg : glB sc x = true) (h1 : Ev X wd ρ a1 r1) (s1 : Plain X a1 := by exact fun _ => rfl) :
    Ev X wd ρ (.Call (.Name x p) [a1] [] pos) (r1.bind fun x => m x) := (ev_call c W G.dn hj hg (eva_cons h1 eva_nil (s1 _)) l1n (s1 _) rfl).eq (by simp [bind_assoc, l1])
theorem ev_call2 (c : Cw CX k wd N sc X) (W : NoW wd) {m : D → D → R D} (G : Df X.prog X.w X.K X.mg X.base CX j x (spP X.K 2 (l2 m))) (hj : j ≤ k) (hg : glB sc x = true) (h1 : Ev X wd ρ a1 r1) (h2 : Ev X wd ρ a2 r2) (s1 : Plain X a1 := by exact fun _ => rfl) (s2 : Plain X a2 := by exact fun _ => rfl) :
    Ev X wd ρ (.Call (.Name x p) [a1, a2] [] pos) (r1.bind fun x => r2.bind fun y => m x y) := (ev_call c W G.dn hj hg (eva_cons h1 (eva_cons h2 eva_nil (s2 _)) (s1 _)) l2n (s1 _) (by rw [s2]; rfl)).eq (by simp [bind_assoc, l2])
theorem ev_call3 (c : Cw CX k wd N sc X) (W : NoW wd) {m : D → D → D → R D} (G : Df X.prog X.w X.K X.mg X.base CX j x (spP X.K 3 (l3 m))) (hj : j ≤ k) (hg : glB sc x = true) (h1 : Ev X wd ρ a1 r1) (h2 : Ev X wd ρ a2 r2) (h3 : Ev X wd ρ a3 r3) (s1 : Plain X a1 := by exact fun _ => rfl) (s2 : Plain X a2 := by exact fun _ => rfl) (s3 : Plain X a3 := by exact fun _ => rfl) :
    Ev X wd ρ (.Call (.Name x p) [a1, a2, a3] [] pos) (r1.bind fun x => r2.bind fun y => r3.bind fun z => m x y z) := (ev_call c W G.dn hj hg (eva_cons h1 (eva_cons h2 (eva_cons h3 eva_nil (s3 _)) (s2 _)) (s1 _)) l3n (s1 _) (by rw [s2, s3]; rfl)).eq (by simp [bind_assoc, l3])
theorem ev_call4 (c : Cw CX k wd N sc X) (W : NoW wd) {m : D → D → D → D → R D} (G : Df X.prog X.w X.K X.mg X.base CX j x (spP X.K 4 (l4 m))) (hj : j ≤ k) (hg : glB sc x = true) (h1 : Ev X wd ρ a1 r1) (h2 : Ev X wd ρ a2 r2) (h3 : Ev X wd ρ a3 r3) (h4 : Ev X wd ρ a4 r4) (s1 : Plain X a1 := by exact fun _ => rfl) (s2 : Plain X a2 := by exact fun _ => rfl) (s3 : Plain X a3 := by exact fun _ => rfl) (s4 : Plain X a4 := by exact fun _ => rfl) :
    Ev X wd ρ (.Call (.Name x p) [a1, a2, a3, a4] [] pos) (r1.bind fun x => r2.bind fun y => r3.bind fun z => r4.bind fun w => m x y z w) := (ev_call c W G.dn hj hg (eva_cons h1 (eva_cons h2 (eva_cons h3 (eva_cons h4 eva_nil (s4 _)) (s3 _)) (s2 _)) (s1 _)) l4n (s1 _) (by rw [s2, s3, s4]; rfl)).eq (by simp [bind_assoc, l4])
theorem ev_call5 (c : Cw CX k wd N sc X) (W : NoW wd) {m : D → D → D → D → D → R D} (G : Df X.prog X.w X.K X.mg X.base CX j x (spP X.K 5 (l5 m))) (hj : j ≤ k) (hg : glB sc x = true) (h1 : Ev X wd ρ a1 r1) (h2 : Ev X wd ρ a2 r2) (h3 : Ev X wd ρ a3 r3) (h4 : Ev X wd ρ a4 r4) (h5 : Ev X wd ρ a5 r5) (s1 : Plain X a1 := by exact fun _ => rfl) (s2 : Plain X a2 := by exact fun _ => rfl) (s3 : Plain X a3 := by exact fun _ => rfl) (s4 : Plain X a4 := by exact fun _ => rfl) (s5 : Plain X a5 := by exact fun _ => rfl) :
    Ev X wd ρ (.Call (.Name x p) [a1, a2, a3, a4, a5] [] pos) (r1.bind fun x => r2.bind fun y => r3.bind fun z => r4.bind fun w => r5.bind fun u => m x y z w u) := (ev_call c W G.dn hj hg (eva_cons h1 (eva_cons h2 (eva_cons h3 (eva_cons h4 (eva_cons h5 eva_nil (s5 _)) (s4 _)) (s3 _)) (s2 _)) (s1 _)) l5n (s1 _) (by rw [s2, s3, s4, s5]; rfl)).eq (by simp [bind_assoc, l5])
variable {y : Str} {i : Nat} {py : Pos}
theorem ev_callD0 (c : Cw CX k wd N sc X) (W : NoW wd) {m : R D} (G : Df X.prog X.w X.K X.mg X.base CX j x (spD X.K 0 (l0 m))) (hj : j ≤ k) (hg : glB sc x = true) (hv : visB sc y = true) (hN : N[i]? = some y) (hρ : ρ[i]? = some .w) :
    Ev X wd ρ (.Call (.Name x p) [.Name y py] [] pos) m := (ev_callD c W G.dn hj hg hv hN hρ eva_nil l0n).eq (by simp [bind_assoc, l0])
theorem ev_callD1 (c : Cw CX k wd N sc X) (W : NoW wd) {m : D → R D} (G : Df X.prog X.w X.K X.mg X.base CX j x (spD X.K 1 (l1 m))) (hj : j ≤ k) (hg : glB sc x = true) (hv : visB sc y = true) (hN : N[i]? = some y) (hρ : ρ[i]? = some .w) (h1 : Ev X wd ρ a1 r1) (s1 : Plain X a1 := by exact fun _ => rfl) :
    Ev X wd ρ (.Call (.Name x p) [.Name y py, a1] [] pos) (r1.bind fun x => m x) := (ev_callD c W G.dn hj hg hv hN hρ (eva_cons h1 eva_nil (s1 _)) l1n (by rw [s1]; rfl)).eq (by simp [bind_assoc, l1])
theorem ev_callD2 (c : Cw CX k wd N sc X) (W : NoW wd) {m : D → D → R D} (G : Df X.prog X.w X.K X.mg X.base CX j x (spD X.K 2 (l2 m))) (hj : j ≤ k) (hg : glB sc x = true) (hv : visB sc y = true) (hN : N[i]? = some y) (hρ : ρ[i]? = some .w) (h1 : Ev X wd ρ a1 r1) (h2 : Ev X wd ρ a2 r2) (s1 : Plain X a1 := by exact fun _ => rfl) (s2 : Plain X a2 := by exact fun _ => rfl) :
    Ev X wd ρ (.Call (.Name x p) [.Name y py, a1, a2] [] pos) (r1.bind fun x => r2.bind fun y => m x y) := (ev_callD c W G.dn hj hg hv hN hρ (eva_cons h1 (eva_cons h2 eva_nil (s2 _)) (s1 _)) l2n (by rw [s1, s2]; rfl)).eq (by simp [bind_assoc, l2])
theorem ev_callD3 (c : Cw CX k wd N sc X) (W : NoW wd) {m : D → D → D → R D} (G : Df X.prog X.w X.K X.mg X.base CX j x (spD X.K 3 (l3 m))) (hj : j ≤ k) (hg : glB sc x = true) (hv : visB sc y = true) (hN : N[i]? = some y) (hρ : ρ[i]? = some .w) (h1 : Ev X wd ρ a1 r1) (h2 : Ev X wd ρ a2 r2) (h3 : Ev X wd ρ a3 r3) (s1 : Plain X a1 := by exact fun _ => rfl) (s2 : Plain X a2 := by exact fun _ => rfl) (s3 : Plain X a3 := by exact fun _ => rfl) :
    Ev X wd ρ (.Call (.Name x p) [.Name y py, a1, a2, a3] [] pos) (r1.bind fun x => r2.bind fun y => r3.bind fun z => m x y z) := (ev_callD c W G.dn hj hg hv hN hρ (eva_cons h1 (eva_cons h2 (eva_cons h3 eva_nil (s3 _)) (s2 _)) (s1 _)) l3n (by rw [s1, s2, s3]; rfl)).eq (by simp [bind_assoc, l3])
theorem ev_callD4 (c : Cw CX k wd N sc X) (W : NoW wd) {m : D → D → D → D → R D} (G : Df X.prog X.w X.K X.mg X.base CX j x (spD X.K 4 (l4 m))) (hj : j ≤ k) (hg : glB sc x = true) (hv : visB sc y = true) (hN : N[i]? = some y) (hρ : ρ[i]? = some .w) (h1 : Ev X wd ρ a1 r1) (h2 : Ev X wd ρ a2 r2) (h3 : Ev X wd ρ a3 r3) (h4 : Ev X wd ρ a4 r4) (s1 : Plain X a1 := by exact fun _ => rfl) (s2 : Plain X a2 := by exact fun _ => rfl) (s3 : Plain X a3 := by exact fun _ => rfl) (s4 : Plain X a4 := by exact fun _ => rfl) :
    Ev X wd ρ (.Call (.Name x p) [.Name y py, a1, a2, a3, a4] [] pos) (r1.bind fun x => r2.bind fun y => r3.bind fun z => r4.bind fun w => m x y z w) := (ev_callD c W G.dn hj hg hv hN hρ (eva_cons h1 (eva_cons h2 (eva_cons h3 (eva_cons h4 eva_nil (s4 _)) (s3 _)) (s2 _)) (s1 _)) l4n (by rw [s1, s2, s3, s4]; rfl)).eq (by simp [bind_assoc, l4])
end
/-! ### loops: no two rules -/
section
variable {CX : CXT} {k : Nat} {wd : Wd} {N : List Str} {sc : Scope} {X : Cx} {ρ : List Sl} {e a b c : Expr} {pos p : Pos} {ra rb : R D}
/-- a chain of two comparisons, as a test -/
theorem evt_chain {op op' : CmpOp} {r r' : R2} {g g' : D → D → R D} {rc : R D} (ho : OpR X (compareOp op) r) (ho' : OpR X (compareOp op') r') (hs : OpS X.K r g) (hs' : OpS X.K r' g') (ha : EvB X wd ρ a ra) (hb : EvB X wd ρ b rb) (hc : EvB X wd ρ c rc)
    (hm : lastMarks [op, op'] [b, c] = false := by with_unfolding_all rfl) :
    EvT X wd ρ (.Compare a [op, op'] [b, c] pos) (ra.bind fun x => rb.bind fun y => (g x y).bind fun z => (boolR z).bind fun k => if k = true then rc.bind fun w => (g' y w).bind boolR else R.ret false) := fun F ad σ H Q s q => by
  refine bt (pt_chain ho ho' pe_b pe_b pe_b hm) ?_
  rw [wp_bind] at q
  refine ha F ad σ H _ s (wp_mono (fun d q v H1 g1 r1 => ?_) (fun _ _ z => z) q)
  rw [wp_bind] at q
  have s1 := s.grow g1
  refine hb F ad σ H1 _ s1 (wp_mono (fun d2 q v2 H2 g2 r2 => ?_) (fun _ _ z => z.grow g1) q)
  have s2 := s1.grow g2
  rw [wp_bind] at q
  refine hs (Ban F ρ ad) H2 v v2 d d2 _ _ (fun b z => s2.banned z) (r1.stay s1 g2) r2 (wp_mono (fun z q v3 H3 sm r3 => ?_) (fun _ _ z => z.grow (g1.trans g2)) q)
  cases z with
  | bool k =>
    refine ⟨k, RepB.bool (.inl r3), ?_⟩
    have g3 := Grow.same (dr := wd.dr) sm
    have s3 := s2.grow g3
    cases k with
    | false => exact iteF ⟨false, rfl, q _ (g1.trans (g2.trans g3))⟩
    | true =>
      have q : wp (fun b => ∀ H', Grow wd.dr H H' → Q b H') (XP X wd F ρ ad H) (rc.bind fun w => (g' d2 w).bind boolR) := q
      rw [wp_bind] at q
      refine iteT (hc F ad σ H3 _ s3 (wp_mono (fun d4 q v4 H4 g4 r4 => ?_) (fun _ _ z => z.grow (g1.trans (g2.trans g3))) q))
      have s4 := s3.grow g4
      rw [wp_bind] at q
      refine hs' (Ban F ρ ad) H4 v2 v4 d2 d4 _ _ (fun b z => s4.banned z) ((r2.stay s2 g3).stay s3 g4) r4 (wp_mono (fun (z : D) q (v5 : V) (H5 : Hp) sm5 r5 => ?_) (fun _ _ z => z) q)
      cases z with
      | bool k2 => exact ⟨k2, RepB.bool (.inl r5), q _ (g1.trans (g2.trans (g3.trans (g4.trans (Grow.same sm5)))))⟩
      | _ => exact q.elim
  | _ => exact q.elim
theorem evt_chle {rc : R D} (ha : EvB X wd ρ a ra) (hb : EvB X wd ρ b rb) (hc : EvB X wd ρ c rc) (hm : lastMarks [.LtE, .LtE] [b, c] = false := by with_unfolding_all rfl) : EvT X wd ρ (.Compare a [.LtE, .LtE] [b, c] pos) (ra.bind fun x => rb.bind fun y => (leR x y).bind fun z => (boolR z).bind fun k => if k = true then rc.bind fun w => (leR y w).bind boolR else R.ret false) :=
  evt_chain op_le op_le opS_le opS_le ha hb hc hm
theorem evt_chlt {rc : R D} (ha : EvB X wd ρ a ra) (hb : EvB X wd ρ b rb) (hc : EvB X wd ρ c rc) (hm : lastMarks [.LtE, .Lt] [b, c] = false := by with_unfolding_all rfl) : EvT X wd ρ (.Compare a [.LtE, .Lt] [b, c] pos) (ra.bind fun x => rb.bind fun y => (leR x y).bind fun z => (boolR z).bind fun k => if k = true then rc.bind fun w => (ltR y w).bind boolR else R.ret false) :=
  evt_chain op_le op_lt opS_le opS_lt ha hb hc hm
theorem ev_chle {rc : R D} (ha : EvB X wd ρ a ra) (hb : EvB X wd ρ b rb) (hc : EvB X wd ρ c rc) (hm : lastMarks [.LtE, .LtE] [b, c] = false := by with_unfolding_all rfl) : Ev X wd ρ (.Compare a [.LtE, .LtE] [b, c] pos) (ra.bind fun x => rb.bind fun y => (leR x y).bind fun z => (boolR z).bind fun k => if k = true then rc.bind fun w => leR y w else R.ret (.bool false)) :=
  ev_chain op_le op_le opS_le opS_le ha hb hc hm
theorem ev_chlt {rc : R D} (ha : EvB X wd ρ a ra) (hb : EvB X wd ρ b rb) (hc : EvB X wd ρ c rc) (hm : lastMarks [.LtE, .Lt] [b, c] = false := by with_unfolding_all rfl) : Ev X wd ρ (.Compare a [.LtE, .Lt] [b, c] pos) (ra.bind fun x => rb.bind fun y => (leR x y).bind fun z => (boolR z).bind fun k => if k = true then rc.bind fun w => ltR y w else R.ret (.bool false)) :=
  ev_chain op_le op_lt opS_le opS_lt ha hb hc hm
end
end Pu
/-! Px: texts joined; the draws: a def that makes them, a def that takes one, a law that begins with them. -/
namespace Pu
open PySem PySem.Spec PyProof.Rows L2 R
def strOf : D → Option Str
  | .str x => some x
  | _ => none
def joinL (a : Str) (ys : List Str) : R D := if (ys.map (·.length)).sum + ys.length * a.length ≤ 16777216 then R.ret (.str (Txt.join a ys)) else bad
def strR : D → R Str
  | .str x => R.ret x
  | _ => bad
def joinR (a : Str) : D → R D
  | .list xs => (match allSome strOf xs with | some ys => joinL a ys | none => bad)
  | .tuple xs => (match allSome strOf xs with | some ys => joinL a ys | none => bad)
  | _ => bad
theorem reps_strs {K : PySem.W.Frag} {B : Addr → Prop} {H : Hp} : ∀ {ds : List D} {vs : List V} {ns : List Str}, Reps K B H vs ds → allSome strOf ds = some ns → vs = ns.map V.str
  | [], _, _, h, e => by cases h; cases e; rfl
  | d :: ds, _, ns, h, e => by
    cases h with
    | cons a b =>
      unfold allSome at e
      cases d with
      | str i =>
        cases e2 : allSome strOf ds with
        | none => rw [e2] at e; cases e
        | some ms =>
          rw [e2] at e
          cases e
          cases a
          rw [reps_strs b e2]
          rfl
      | _ => cases e
section
variable {CX : CXT} {k : Nat} {wd : Wd} {N : List Str} {sc : Scope} {X : Cx} {ρ : List Sl} {e a b : Expr} {pos apos : Pos} {ra rb : R D}
theorem ev_join (ha : EvB X wd ρ a ra) (hb : EvB X wd ρ b rb) (hs : starEach [b] X.env = [(false, eval b X.env)] := by rfl) (hbase : attributeBase a "join" X.env (eval a X.env) = eval a X.env := by rfl) (hline : (apos.endLine == pos.line) = true := by rfl) :
    Ev X wd ρ (.Call (.Attribute a "join" apos) [b] [] pos) (ra.bind fun x => (strR x).bind fun x => rb.bind fun y => joinR x y) := fun F ad σ H Q s q => by
  refine be (pe_join pe_b pe_b hs hbase hline) ?_
  rw [wp_bind] at q
  refine ha F ad σ H _ s (wp_mono (fun d q v H1 g1 r1 => ?_) (fun _ _ z => z) q)
  have s1 := s.grow g1
  cases d with
  | str z =>
    have q : (rb.bind fun y => joinR z y).wp (fun d => ∀ v H', Grow wd.dr H H' → Rep X.K (Ban F ρ ad) H' v d → Q v H') (XP X wd F ρ ad H) := q
    rw [wp_bind] at q
    refine ⟨⟨z, r1.str⟩, hb F ad σ H1 _ s1 (wp_mono (fun d2 q v2 H2 g2 r2 => ?_) (fun _ _ z => z.grow g1) q)⟩
    cases d2 with
    | list xs =>
      unfold joinR at q
      cases e2 : allSome strOf xs with
      | none => simp only [e2] at q; exact q.elim
      | some ys =>
        simp only [e2] at q
        obtain ⟨h, q⟩ := wp_ite q
        obtain ⟨l, vs, rfl, e, rr⟩ := r2.list
        exact ⟨z, l, ys, r1.str, rfl, .inl (by rw [← reps_strs rr e2]; exact .inl e), h, q _ _ (g1.trans g2) (.str _)⟩
    | tuple xs =>
      unfold joinR at q
      cases e2 : allSome strOf xs with
      | none => simp only [e2] at q; exact q.elim
      | some ys =>
        simp only [e2] at q
        obtain ⟨h, q⟩ := wp_ite q
        obtain ⟨l, vs, rfl, e, rr⟩ := r2.tuple
        exact ⟨z, l, ys, r1.str, rfl, .inr (by rw [← reps_strs rr e2]; exact e.sq), h, q _ _ (g1.trans g2) (.str _)⟩
    | _ => exact q.elim
  | _ => exact q.elim
end
/-! ### a draw is taken -/
section
variable {P : Program} {w : World} {K : PySem.W.Frag} {mg : Str → Option Value} {base : Heap} {st : Stmt} {k : Nat} {p1 p2 p3 p4 p5 q1 q2 q3 q4 q5 r1 r2 r3 r4 r5 r6 r7 t1 t2 t3 t4 t5 t6 t7 t8 t9 u1 u2 u3 u4 u5 u6 u7 w1 w2 w3 w4 w5 w6 : Pos}
def tkN : List Str := ["_law_draws_here", "_law_bound", "_law_row", "_law_at", "_law_value"]
def tkB (sc : Scope) : Bool := tkN.all (fun x => visB sc x && lcB sc x) && glB sc "int" && glB sc "len"
theorem at_rows {rows : List Int} {n : Int} (h0 : 0 ≤ n) (hr : rows ≠ []) : ∃ z : Int, atI (rows.map V.int) (n.fmod rows.length) = some (.int z) := by
  have hl : 0 < rows.length := List.length_pos_iff.mpr hr
  have e : n.fmod rows.length = ((n.toNat % rows.length : Nat) : Int) := by
    rw [Int.fmod_eq_emod_of_nonneg _ (by omega)]
    conv => lhs; rw [← Int.toNat_of_nonneg h0]
    rw [Int.natCast_emod]
  rw [e]
  have hlt := Nat.mod_lt n.toNat hl
  exact ⟨rows[n.toNat % rows.length], atI_nat (by rw [List.getElem?_map, List.getElem?_eq_getElem hlt]; rfl)⟩
theorem df_take (A : At K mg "_law_take" st ["_law_draws_here", "_law_bound"]) (S : FnScope tkN ["_law_draws_here", "_law_bound"] (defScope st)) (B : Bt mg) (hv : tkB (defScope st) = true)
  (hb : defBody st = [.Assign [.Name "_law_row" p1] (.Subscript (.Name "_law_draws_here" p2) (.Constant (.str "row") 0 p3) p4) p5,
     .Assign [.Name "_law_at" q1] (.Subscript (.Name "_law_draws_here" q2) (.Constant (.str "at") 0 q3) q4) q5,
     .Assign [.Subscript (.Name "_law_draws_here" r1) (.Constant (.str "at") 0 r2) r3] (.BinOp (.Name "_law_at" r4) .Add (.Constant (.int 1) 0 r5) r6) r7,
     .Assign [.Name "_law_value" t1] (.BinOp (.Subscript (.Name "_law_row" t2) (.BinOp (.Call (.Name "int" t3) [.Name "_law_at" t4] [] t5) .Mod (.Call (.Name "len" t6) [.Name "_law_row" t7] [] t8) t9) t10) .Add
        (.BinOp (.Name "_law_at" u1) .FloorDiv (.Call (.Name "len" u2) [.Name "_law_row" u3] [] u4) u5) u6) u7,
     .Return (some (.BinOp (.Call (.Name "int" w1) [.Name "_law_value" w2] [] w3) .Mod (.Name "_law_bound" w4) w5)) w6]) :
    Df P w K mg base CX0 (k + 1) "_law_take" (spD K 1 (l1 drawR)) := by
  refine df_ofD A S (n := 1) rfl (T := Unit) (eT := fun _ => []) (o := l1 fun b => (drawR b).bind fun d => R.ret (.rt d ())) (fun ds hl => ?_) (eN := fun _ => []) (eB := fun e => e.elim) fun X a c e1 e2 e3 e4 e5 ds hl => ?_
  · match ds, hl with
    | [b], _ =>
      show drawR b = ((drawR b).bind fun d => R.ret (.rt d ())).bind outD
      rw [bind_assoc]
      induction drawR b with
      | ret a => rfl
      | exc c x => rfl
      | bad => rfl
      | pick n k ih => exact congrArg _ (funext fun i => ih i)
  · match ds, hl with
    | [b], _ =>
    subst e1 e2 e3 e4 e5
    rw [hb]
    unfold tkB tkN at hv
    simp only [List.all_cons, List.all_nil, Bool.and_true, Bool.and_eq_true] at hv
    obtain ⟨⟨⟨⟨d1, d2⟩, ⟨b1, b2⟩, ⟨x1, x2⟩, ⟨a1, a2⟩, z1, z2⟩, gi⟩, gl⟩ := hv
    have vP : ∀ {x : Str} {i : Nat} {p : Pos}, visB (defScope st) x = true → tkN[i]? = some x → PE X (.Name x p) (tVar i) := fun {x i p} h hN => pe_var (i := i) (by rw [c.hN]; exact hN) (c.vis h).1 (c.vis h).2.1 (c.vis h).2.2
    have nslS : ∀ (x : Str) (j : Nat) (p : Pos), NoSl (.Constant (.str x) j p) := fun _ _ _ _ _ => rfl
    have L : ∀ {p q r : Pos}, PE X (.Call (.Name "len" p) [.Name "_law_row" q] [] r) (tCB (fun xs H Q => ∃ x n, xs = [x] ∧ LenV X.K x H n ∧ Q (.int n) H) (tCons (tVar 2) tNil)) := fun {p q r} => pe_callB call_len (c.gl gl).1 B.len bv_len (pa_cons (vP (i := 2) x1 rfl) pa_nil) (c.gl gl).2.2 (c.gl gl).2.1
    intro F ad σ H Dn s q
    refine bss (pss_cons (ps_set (i := 2) c.nd' (c.at rfl) (c.loc x2) (pe_dget c.u1 (vP (i := 0) d1 rfl) pe_str (nslS _ _ _)) rfl (.inl (c.fn _)))
      (pss_cons (ps_set (i := 3) c.nd' (c.at rfl) (c.loc a2) (pe_dget c.u1 (vP (i := 0) d1 rfl) pe_str (nslS _ _ _)) rfl (.inl (c.fn _)))
      (pss_cons (ps_dput c.u1 (vP (i := 0) d1 rfl) pe_str (pe_op op_add (vP (i := 3) a1 rfl) pe_int) rfl)
      (pss_cons (ps_set (i := 4) c.nd' (c.at rfl) (c.loc z2) (pe_op op_add (pe_ix ix_list (vP (i := 2) x1 rfl) (pe_op op_modN (pe_callTy call_int1 (c.gl gi).1 B.int bv_int (pa_cons (vP (i := 3) a1 rfl) pa_nil) (c.gl gi).2.2 (c.gl gi).2.1) L) (fun _ _ => rfl))
        (pe_op op_fdivN (vP (i := 3) a1 rfl) L)) rfl (.inl (c.fn _)))
      (pss_one (ps_ret (pe_op op_modN (pe_callTy call_int1 (c.gl gi).1 B.int bv_int (pa_cons (vP (i := 4) z1 rfl) pa_nil) (c.gl gi).2.2 (c.gl gi).2.1) (vP (i := 1) b1 rfl)))))))) ?_
    have sb : ∃ v, σ[1]? = some (some v) ∧ Rep X.K (Ban F (slotsD tkN [b]) ad) H v b := s.sl 1 _ rfl
    obtain ⟨a', ha', ev⟩ : ∃ b, (wdD a).dr = some b ∧ σ[0]? = some (some (V.ref b)) := s.sl 0 .w rfl
    cases ha'
    obtain ⟨vb, eb, rb⟩ := sb
    obtain ⟨fa, l, fl, ne, n, rows, h0, h1, h2, h3, h4⟩ := s.dk a rfl
    have hlen : σ.length = 5 := s.len
    cases b with
    | int m =>
      cases rb
      by_cases hm : 0 < m
      · have q : (((if 0 < m then R.pick m fun i => R.ret (PyData.int i) else bad).bind fun d => R.ret (.rt d ()) : R (Out Unit Empty Unit))).wp (OutOk X (wdD a) (fun _ => []) (fun e => e.elim) (fun _ => []) F (slotsD tkN [.int m]) ad H Dn) (XPs X (wdD a) F (slotsD tkN [.int m]) ad H) := q
        rw [if_pos hm] at q
        obtain ⟨z, hz⟩ := at_rows h0 h3
        have hll : (rows.map V.int).length = rows.length := List.length_map _
        refine ⟨_, ev, a, .ref l, rfl, ?_, ?_⟩
        · have := DGet.k (k := Sum.inr "row") h1
          exact this
        refine ⟨_, by rw [List.getElem?_set_ne (by decide)]; exact ev, a, .int n, rfl, ?_, ?_⟩
        · have := DGet.k (k := Sum.inr "at") h1
          exact this
        refine ⟨.int n, by rw [List.getElem?_set_self (by simp [hlen])], ?_⟩
        refine ⟨n, 1, rfl, rfl, ?_⟩
        refine ⟨_, by rw [List.getElem?_set_ne (by decide), List.getElem?_set_ne (by decide)]; exact ev, a, _, rfl, DPut.k (k := Sum.inr "at") h1 (small1000 (by show 2 ≤ 1000; decide)), ?_⟩
        have eput : putK [((Sum.inr "at" : Key), V.int n), (Sum.inr "row", V.ref l)] (Sum.inr "at") (.int (n + 1)) = ([((Sum.inr "at" : Key), V.int (n + 1)), (Sum.inr "row", V.ref l)] : List (Key × V)) := by unfold putK; rfl
        rw [eput]
        have hR : Rd (upd H a (.dK [(Sum.inr "at", V.int (n + 1)), (Sum.inr "row", V.ref l)])) l (.lst (rows.map V.int)) := rd_imp h2 fun x e => by rw [upd_ne ne]; exact e
        have hrow : ((σ.set 2 (some (.ref l))).set 3 (some (.int n)))[2]? = some (some (.ref l)) := by rw [List.getElem?_set_ne (by decide), List.getElem?_set_self (by rw [hlen]; decide)]
        have hat : ((σ.set 2 (some (.ref l))).set 3 (some (.int n)))[3]? = some (some (.int n)) := by rw [List.getElem?_set_self (by simp [hlen])]
        refine ⟨_, hrow, _, hat, .inl ⟨n, rfl, _, hrow, _, rows.length, rfl, .inl ⟨_, .inl hR, hll.symm⟩, n, rows.length, rfl, rfl, ?_, l, _, _, _, rfl, rfl, .inl hR, hz, _, hat, _, hrow, _, rows.length, rfl, .inl ⟨_, .inl hR, hll.symm⟩, n, rows.length, rfl, rfl, ⟨?_, ?_⟩, z, _, rfl, rfl, ?_⟩⟩
        · have := List.length_pos_iff.mpr h3
          show ((rows.length : Nat) : Int) ≠ 0
          omega
        · have := List.length_pos_iff.mpr h3
          show ((rows.length : Nat) : Int) ≠ 0
          omega
        · show ((rows.length : Nat) : Int).natAbs < 1073741824
          omega
        refine ⟨_, List.getElem?_set_self (by simp [hlen]), .inl ⟨_, rfl, _, ?_, _, m, rfl, rfl, ?_, ?_⟩⟩
        · rw [List.getElem?_set_ne (by decide), List.getElem?_set_ne (by decide), List.getElem?_set_ne (by decide)]; exact eb
        · show m ≠ 0
          omega
        have g : Grow (some a) H (upd H a (.dK [(Sum.inr "at", V.int (n + 1)), (Sum.inr "row", V.ref l)])) := ⟨fun b o e nb => by rw [upd_ne fun z => nb (by rw [z])]; exact e, fun a' l' z q => by
          cases z
          obtain ⟨n', rows', _, h1', _⟩ := q
          rw [h1] at h1'
          simp only [Option.some.injEq, HO.dK.injEq, List.cons.injEq, Prod.mk.injEq, V.ref.injEq, true_and, and_true] at h1'
          rw [← h1'.2]
          exact ⟨n + 1, rows, by omega, upd_same, hR, h3, h4⟩⟩
        have hi := q ((z + n.fdiv rows.length).fmod m) (Int.fmod_nonneg_of_pos _ hm) (Int.fmod_lt_of_pos _ hm)
        exact hi _ ad _ σ _ (.grow g) (s.grow g) (fun i s h => by simp at h) (.int _)
      · have q : (((if 0 < m then R.pick m fun i => R.ret (PyData.int i) else bad).bind fun d => R.ret (.rt d ()) : R (Out Unit Empty Unit))).wp (OutOk X (wdD a) (fun _ => []) (fun e => e.elim) (fun _ => []) F (slotsD tkN [.int m]) ad H Dn) (XPs X (wdD a) F (slotsD tkN [.int m]) ad H) := q
        rw [if_neg hm] at q
        exact q.elim
    | _ => exact q.elim
end
/-! ### the script -/
section
variable {CX : CXT} {k : Nat} {wd : Wd} {N : List Str} {sc : Scope} {X : Cx} {ρ : List Sl} {pos p q : Pos} {x : Str} {i : Nat} {ds : List D}
theorem ev_lenS (c : Cw CX k wd N sc X) (B : Bt X.mg) (hg : glB sc "len" = true) (hv : visB sc x = true) (hN : N[i]? = some x) (hρ : ρ[i]? = some (.s ds)) : Ev X wd ρ (.Call (.Name "len" p) [.Name x q] [] pos) (R.ret (.int ds.length)) := fun F ad σ H Q s z => by
  refine be (pe_callB call_len (c.gl hg).1 B.len bv_len (pa_cons (pe_var (i := i) (by rw [c.hN]; exact hN) (c.vis hv).1 (c.vis hv).2.1 (c.vis hv).2.2) pa_nil) (c.gl hg).2.2 (c.gl hg).2.1) ?_
  obtain ⟨a, vs, e, r, rr⟩ := scr_at c s hρ
  exact ⟨_, e, _, ds.length, rfl, .inl ⟨vs, r, rr.length.symm⟩, z _ _ (Grow.refl _ _) (.int _)⟩
theorem ev_sliceS (c : Cw CX k wd N sc X) (hv : visB sc x = true) (hN : N[i]? = some x) (hρ : ρ[i]? = some (.s ds)) {lo hi : Option Expr} {p2 : Pos} {rl rh : R (Option Int)} (hl : EvP X wd ρ lo rl) (hh : EvP X wd ρ hi rh) :
    Ev X wd ρ (.Subscript (.Name x q) (.Slice lo hi none p2) pos) (rl.bind fun l => rh.bind fun h => R.ret (.list (cutD ds l h))) := fun F ad σ H Q s z => by
  refine be (pe_slice sl_list (pe_var (i := i) (by rw [c.hN]; exact hN) (c.vis hv).1 (c.vis hv).2.1 (c.vis hv).2.2) po_b po_b) ?_
  obtain ⟨a, vs, e, r, rr⟩ := scr_at c s hρ
  refine ⟨_, e, ?_⟩
  rw [wp_bind] at z
  refine hl F ad σ H _ s (wp_mono (fun l z H1 g1 => ?_) (fun _ _ z => z) z)
  rw [wp_bind] at z
  have s1 := s.grow g1
  refine hh F ad σ H1 _ s1 (wp_mono (fun h z H2 g2 => ?_) (fun _ _ z => z.grow g1) z)
  have s2 := s1.grow g2
  obtain ⟨a', vs', e', r', rr'⟩ := scr_at c s2 hρ
  rw [e] at e'
  cases e'
  exact ⟨a, vs', rfl, r', fun p hp => z _ _ (g1.trans (g2.trans (Grow.same (same_upd hp)))) (newlst (fun b y => s2.banned y) hp (cut_reps rr' l h))⟩
theorem ev_listS (c : Cw CX k wd N sc X) (B : Bt X.mg) (hg : glB sc "list" = true) (hv : visB sc x = true) (hN : N[i]? = some x) (hρ : ρ[i]? = some (.s ds)) : Ev X wd ρ (.Call (.Name "list" p) [.Name x q] [] pos) (R.ret (.list ds)) := fun F ad σ H Q s z => by
  refine be (pe_callTy call_list_of (c.gl hg).1 B.list bv_list (pa_cons (pe_var (i := i) (by rw [c.hN]; exact hN) (c.vis hv).1 (c.vis hv).2.1 (c.vis hv).2.2) pa_nil) (c.gl hg).2.2 (c.gl hg).2.1) ?_
  obtain ⟨a, vs, e, r, rr⟩ := scr_at c s hρ
  exact ⟨_, e, a, vs, rfl, .inl r, fun p hp => z _ _ (Grow.same (same_upd hp)) (newlst (fun b y => s.banned y) hp rr)⟩
end
section
variable {P : Program} {w : World} {K : PySem.W.Frag} {mg : Str → Option Value} {base : Heap} {N : List Str} {x y : Str} {st : Stmt} {k : Nat} {p1 p2 p3 p4 p5 p6 p7 p8 p9 : Pos}
def SqS (K : PySem.W.Frag) (B : Addr → Prop) (H : Hp) (a : Addr) (xs : List V) : Prop := (Rd H a (.lst xs) ∧ ¬ B a) ∨ KL K a xs
def spS (K : PySem.W.Frag) (m : D → D → R D) : Sp := fun vs H Q _ => ∃ (B : Addr → Prop) (a : Addr) (xs : List V) (ds : List D) (v : V) (d : D), (∀ b, B b → ∃ o, H b = some o) ∧ vs = [.ref a, v] ∧ SqS K B H a xs ∧ Reps K B H xs ds ∧ Rep K B H v d ∧
  (m (.list ds) d).wp (fun z => ∀ v' H', Same H H' → Rep K B H' v' z → Q v' H') fun _ _ => False
def slotsS (N : List Str) (ds : List D) (d : D) : List Sl := .s ds :: .d d :: List.replicate (N.length - 2) .no
theorem rep_no {n i : Nat} {s : Sl} (h : (List.replicate n Sl.no)[i]? = some s) : s = .no := by
  rw [List.getElem?_replicate] at h
  split at h
  · cases h; rfl
  · cases h
theorem slotsS_own {ds : List D} {d : D} {i : Nat} : ¬ Own (slotsS N ds d) i := by
  rintro ⟨s, e, q⟩
  unfold slotsS at e
  match i, e with
  | 0, e => cases e; cases q
  | 1, e => cases e; cases q
  | i + 2, e =>
    rw [List.getElem?_cons_succ, List.getElem?_cons_succ] at e
    rw [rep_no e] at q
    cases q
theorem df_ofS (A : At K mg x st [y, "_law_count"]) (S : FnScope N [y, "_law_count"] (defScope st)) {m : D → D → R D} {o : List D → D → R (Out Unit Empty Unit)}
    (hm : ∀ ds e, m (.list ds) e = endR0 (o ds e)) {eN : Unit → List Sl} {eB : Empty → List Sl} {eT : Unit → List Sl}
    (hrun : ∀ (X : Cx), Cd CX0 k wd0 N (defScope st) X → X.prog = P → X.w = w → X.K = K → X.mg = mg → X.base = base → ∀ ds d, Run X wd0 eN eB eT (slotsS N ds d) (defBody st) (o ds d)) :
    Df P w K mg base CX0 (k + 1) x (spS K m) := by
  obtain ⟨f, fd, h1, h2, h3, F⟩ := A.ok
  refine ⟨f, fd, _, h1, h2, h3, F.ok S (fun vs H Q E h => ?_) (fun cdv A outer s H vs Q E hr h => ?_)⟩
  · obtain ⟨B, a, xs, ds, v, d, _, rfl, _⟩ := h
    rfl
  · obtain ⟨B, a, xs, ds, v, d, nb, rfl, hq, r, rv, q⟩ := h
    refine ⟨_, pss_b, ?_⟩
    have hN : 2 ≤ N.length := by have := congrArg List.length S.pre; rw [List.length_take] at this; simp only [List.length_cons, List.length_nil] at this; omega
    have hb : ∀ b, Ban B (slotsS N ds d) (fun _ => 0) b → B b := by
      rintro b (b | ⟨j, o, _⟩)
      · exact b
      · exact absurd o slotsS_own
    have st0 : StOk K none B (slotsS N ds d) (L2.start N [.ref a, v]) H fun _ => 0 := by
      refine ⟨?_, fun i j o => absurd o slotsS_own, fun i o => absurd o slotsS_own, nb, fun a e => (by cases e), fun i s e => ?_⟩
      · unfold L2.start slotsS
        simp only [List.length_append, List.length_map, List.length_replicate, List.length_cons, List.length_nil]
        omega
      · unfold slotsS at e
        match i, e with
        | 0, e =>
          cases e
          refine ⟨a, xs, by unfold L2.start; rfl, hq.imp (fun z => ⟨z.1, fun y => z.2 (hb _ y)⟩) id, r.weak hb⟩
        | 1, e =>
          cases e
          exact ⟨v, by unfold L2.start; rfl, rv.weak hb⟩
        | i + 2, e =>
          rw [List.getElem?_cons_succ, List.getElem?_cons_succ] at e
          rw [rep_no e]
          trivial
    rw [hm] at q
    unfold endR0 at q
    rw [wp_bind] at q
    refine hrun ((cxOf CX0 P w K mg base N x (defScope st) f cdv A outer s H E).nox) ⟨⟨rfl, rfl, S.nd, rfl, hr, PassesOwn.never, pass0⟩, fun _ => rfl, S.kind⟩ rfl rfl rfl rfl rfl ds d B (fun _ => 0) _ H _ st0 (wp_mono (fun z q => ?_) (fun c x z => z.elim) q)
    cases z with
    | nx u => exact fun ad' σ' H' a s' => q _ H' (fun b o e => (a.keep b o e (fun z => by cases z) fun ⟨i, o, _⟩ => slotsS_own o).1) .non
    | bk b => exact b.elim
    | ct b => exact b.elim
    | rt d t => exact fun v ad' ρ' σ' H' a s' _ r => q v H' (fun b o e => (a.keep b o e (fun z => by cases z) fun ⟨i, o, _⟩ => slotsS_own o).1) (r.weak fun b => .inl)
/-- the draws are made -/
def rowsOk (d : D) : Prop := ∃ rows : List Int, d = .list (rows.map PyData.int) ∧ rows ≠ [] ∧ rows.length ≤ 1000
def spDr (K : PySem.W.Frag) (m : D → D → R D) : Sp := fun vs H Q _ => ∃ (a : Addr) (ns : List Int) (c : Int), vs = [.ref a, .int c] ∧ SqL K H a (ns.map V.int) ∧ (m (.list (ns.map PyData.int)) (.int c)).wp rowsOk (fun _ _ => False) ∧
  ∀ p l H', l ≠ p → DrAt H' p l → Q (.ref p) H'
theorem int_reps {B : Addr → Prop} {H : Hp} : ∀ ns : List Int, Reps K B H (ns.map V.int) (ns.map PyData.int)
  | [] => .nil
  | n :: ns => .cons (.int n) (int_reps ns)
theorem reps_int {B : Addr → Prop} {H : Hp} : ∀ {ns : List Int} {vs : List V}, Reps K B H vs (ns.map PyData.int) → vs = ns.map V.int
  | [], _, h => by cases h; rfl
  | n :: ns, _, h => by
    cases h with
    | cons a b => cases a; rw [reps_int b]; rfl
theorem df_draws (A : At K mg "_law_draws" st ["_law_script", "_law_count"]) (S : FnScope ["_law_script", "_law_count"] ["_law_script", "_law_count"] (defScope st)) {m : D → D → R D} {j : Nat} (G : Df P w K mg base CX0 j "_law_numbers" (spS K m)) (hj : j ≤ k)
    (hv : (visB (defScope st) "_law_script" && visB (defScope st) "_law_count" && glB (defScope st) "_law_numbers") = true)
    (hb : defBody st = [.Return (some (.Dict [some (.Constant (.str "at") 0 p1), some (.Constant (.str "row") 0 p2)] [.Constant (.int 0) 0 p3, .Call (.Name "_law_numbers" p4) [.Name "_law_script" p5, .Name "_law_count" p6] [] p7] p8)) p9]) :
    Df P w K mg base CX0 (k + 1) "_law_draws" (spDr K m) := by
  obtain ⟨f, fd, h1, h2, h3, F⟩ := A.ok
  refine ⟨f, fd, _, h1, h2, h3, F.ok S (fun vs H Q E h => ?_) (fun cdv A outer s H vs Q E hr h => ?_)⟩
  · obtain ⟨a, ns, c, rfl, _⟩ := h
    rfl
  · obtain ⟨a, ns, cn, rfl, hq, hw, q⟩ := h
    rw [hb]
    simp only [Bool.and_eq_true] at hv
    obtain ⟨⟨v1, v2⟩, g1⟩ := hv
    have c : Cw CX0 k wd0 ["_law_script", "_law_count"] (defScope st) ((cxOf CX0 P w K mg base ["_law_script", "_law_count"] "_law_draws" (defScope st) f cdv A outer s H E).nox) := ⟨rfl, rfl, S.nd, rfl, hr, PassesOwn.never, pass0⟩
    obtain ⟨f2, fd2, ps2, m1, m2, m3, m4⟩ := G
    refine ⟨_, pss_one (ps_ret (pe_disp (pps_cons pe_str pe_int (pps_cons pe_str (pe_call m4 (c.room.mono hj) (c.gl g1).1 m1 m2 m3 .nil c.ps (pa_cons (pe_var (i := 0) rfl (c.vis v1).1 (c.vis v1).2.1 (c.vis v1).2.2) (pa_cons (pe_var (i := 1) rfl (c.vis v2).1 (c.vis v2).2.1 (c.vis v2).2.2) pa_nil)) (c.gl g1).2.1) pps_nil)) rfl rfl (by simp) (by show 2 ≤ 15; decide))), ?_⟩
    intro p hp
    have ne : ∀ {b : Addr} {o : HO}, H b = some o → b ≠ p := fun {b o} e z => by rw [z, hp] at e; cases e
    refine ⟨_, rfl, _, rfl, fun b => b = p, a, ns.map V.int, ns.map PyData.int, .int cn, .int cn, fun b z => ⟨.dK [], by subst z; exact upd_same⟩, rfl, ?_, int_reps ns, .int _, wp_mono (fun z hz v' H2 sm r => ?_) (fun _ _ z => z) hw⟩
    · rcases hq with hq | hq
      · have na : a ≠ p := by
          rcases hq with hq | ⟨o, hq⟩ <;> exact ne hq
        exact .inl ⟨rd_imp hq fun x e => by rw [upd_ne na]; exact e, na⟩
      · exact .inr hq
    · obtain ⟨rows, rfl, n0, n1⟩ := hz
      cases r with
      | @lst l vs _ b1 b2 b3 =>
        have ev := reps_int b3
        subst ev
        have hp2 := sm _ _ (upd_same (H := H) (a := p) (o := HO.dK []))
        refine ⟨hp2, [(Sum.inr "at", .int 0), (Sum.inr "row", .ref l)], rfl, (by show 2 ≤ 15; decide), ?_⟩
        have em : mergeK [] [((Sum.inr "at" : Key), V.int 0), (Sum.inr "row", V.ref l)] = [((Sum.inr "at" : Key), V.int 0), (Sum.inr "row", V.ref l)] := by unfold mergeK; rfl
        rw [em]
        refine q p l _ b2 ⟨0, rows, Int.le_refl 0, upd_same, rd_imp b1 fun x e => by rw [upd_ne b2]; exact e, n0, n1⟩
/-- the law's own def -/
def spLaw (K : PySem.W.Frag) : Sp := fun vs H Q _ => ∃ (a : Addr) (ns : List Int), vs = [.ref a] ∧ SqL K H a (ns.map V.int) ∧ ns.length ≤ 63 ∧ ∀ H', Q (.bl true) H'
theorem slotsL_own {n i : Nat} : ¬ Own (.no :: .w :: List.replicate n .no) i := by
  rintro ⟨s, e, q⟩
  match i, e with
  | 0, e => cases e; cases q
  | 1, e => cases e; cases q
  | i + 2, e =>
    rw [List.getElem?_cons_succ, List.getElem?_cons_succ] at e
    rw [rep_no e] at q
    cases q
theorem ok_law {f : Addr} {fd : FuncData} (F : Fun K "law" "law" st f fd) (S : FnScope N ["_law_script"] (defScope st)) (h1N : N[1]? = some ("_law_draws_here" : Str)) {m : D → D → R D} {j : Nat} (G : Df P w K mg base CX0 j "_law_draws" (spDr K m)) (hj : j ≤ k) {cn : Int}
    (hm : ∀ ns : List Int, ns.length ≤ 63 → (m (.list (ns.map PyData.int)) (.int cn)).wp rowsOk (fun _ _ => False))
    (hv : (visB (defScope st) "_law_script" && lcB (defScope st) "_law_draws_here" && glB (defScope st) "_law_draws") = true) {rest : List Stmt}
    (hb : defBody st = .Assign [.Name "_law_draws_here" p1] (.Call (.Name "_law_draws" p2) [.Name "_law_script" p3, .Constant (.int cn) 0 p4] [] p5) p6 :: rest)
    {o : R (Out Unit Empty Unit)} {eN : Unit → List Sl} {eB : Empty → List Sl} {eT : Unit → List Sl}
    (hrun : ∀ (X : Cx) (a : Addr), Cd CX0 k (wdD a) N (defScope st) X → X.prog = P → X.w = w → X.K = K → X.mg = mg → X.base = base → Run X (wdD a) eN eB eT (.no :: .w :: List.replicate (N.length - 2) .no) rest o)
    (ho : o.wp (fun x => ∃ t, x = .rt (.bool true) t) fun _ _ => False) : FnOk P w K mg base CX0 (k + 1) f fd ["_law_script"] (spLaw K) := by
  refine F.ok S (fun vs H Q E h => ?_) (fun cdv A outer s H vs Q E hr h => ?_)
  · obtain ⟨a, ns, rfl, _⟩ := h
    rfl
  · obtain ⟨a, ns, rfl, hq, hl, q⟩ := h
    rw [hb]
    simp only [Bool.and_eq_true] at hv
    obtain ⟨⟨v1, v2⟩, g1⟩ := hv
    have hN0 : N[0]? = some ("_law_script" : Str) := by
      have e := congrArg (fun z : List Str => z[0]?) S.pre
      rw [List.getElem?_take] at e
      exact e
    have hN : 2 ≤ N.length := by
      by_cases z : 1 < N.length
      · exact z
      · rw [List.getElem?_eq_none (by omega)] at h1N; cases h1N
    have cc : ∀ b, Cd CX0 k (wdD b) N (defScope st) ((cxOf CX0 P w K mg base N "law" (defScope st) f cdv A outer s H E).nox) := fun b => ⟨⟨rfl, rfl, S.nd, rfl, hr, PassesOwn.never, pass0⟩, fun _ => rfl, S.kind⟩
    have c := cc 0
    obtain ⟨f2, fd2, ps2, m1, m2, m3, m4⟩ := G
    refine ⟨_, pss_cons (ps_set (i := 1) S.nd h1N (c.loc v2) (pe_call m4 (c.room.mono hj) (c.gl g1).1 m1 m2 m3 .nil c.ps (pa_cons (pe_var (i := 0) hN0 (c.vis v1).1 (c.vis v1).2.1 (c.vis v1).2.2) (pa_cons pe_int pa_nil)) (c.gl g1).2.1)) pss_b, ?_⟩
    refine ⟨_, by unfold L2.start; rfl, a, ns, cn, rfl, hq, hm ns hl, fun p l H' ne da => ?_⟩
    have st0 : StOk K (some p) (fun b => b = p ∨ b = l) (.no :: .w :: List.replicate (N.length - 2) .no) ((L2.start N [.ref a]).set 1 (some (.ref p))) H' fun _ => 0 := by
      refine ⟨?_, fun i j o => absurd o slotsL_own, fun i o => absurd o slotsL_own, fun b z => ?_, fun b e => ?_, fun i s e => ?_⟩
      · rw [List.length_set]
        unfold L2.start
        simp only [List.length_append, List.length_map, List.length_replicate, List.length_cons, List.length_nil]
        omega
      · obtain ⟨n, rows, _, e1, e2, _⟩ := da
        rcases z with rfl | rfl
        · exact ⟨_, e1⟩
        · rcases e2 with e2 | ⟨_, e2⟩ <;> exact ⟨_, e2⟩
      · cases e
        exact ⟨.inl rfl, l, .inr rfl, ne, da⟩
      · match i, e with
        | 0, e => cases e; trivial
        | 1, e =>
          cases e
          refine ⟨p, rfl, ?_⟩
          rw [List.getElem?_set_self]
          unfold L2.start
          simp only [List.length_append, List.length_map, List.length_replicate, List.length_cons, List.length_nil]
          omega
        | i + 2, e =>
          rw [List.getElem?_cons_succ, List.getElem?_cons_succ] at e
          rw [rep_no e]
          trivial
    refine hrun _ p (cc p) rfl rfl rfl rfl rfl _ (fun _ => 0) _ H' _ st0 (wp_mono (fun z q => ?_) (fun c x z => z.elim) ho)
    obtain ⟨t, rfl⟩ := q
    exact fun v ad' ρ' σ' H2 a s' _ r => by
      cases r
      exact ‹∀ H', _› H2
end
/-! ### what the top has written -/
section
variable {K : PySem.W.Frag} {mg : Str → Option Value} {h : Heap} {x : Str} {st : Stmt} {ps : List Str} {f : Addr}
theorem at_mk (X : K.In h) (G : h.Ns mainGlobals mg) {od an : Option Addr} {sl : Array (Option Value)} {oc kV dc pm cd ct : Value} (a : PySem.W.nsIn K mainGlobals x = some (some (.ref f)))
    (l : K.lookup f = some ⟨oc, od, .func (PySem.W.fnOf x x (defArgs st) (defBody st) (defScope st) .none kV dc pm an cd ct), sl⟩) (c : PySem.W.codeIn K cd x = true) (k : PySem.W.keepIn K (.ref f) = true)
    (hb : ∀ fd, Fun K x x st f fd → Binds K fd ps []) : At K mg x st ps :=
  ⟨f, _, PySem.W.mg_of X G a, k, hb _ (fun_mk l c k), fun_mk l c k⟩
theorem law_mk {P : Program} {w : World} {fa : Addr} {n : Nat} (X : K.In h) (G : h.Ns mainGlobals mg) (hfa : mg "law" = some (.ref fa)) {od an : Option Addr} {sl : Array (Option Value)} {oc kV dc pm cd ct : Value} (a : PySem.W.nsIn K mainGlobals "law" = some (some (.ref f)))
    (l : K.lookup f = some ⟨oc, od, .func (PySem.W.fnOf "law" "law" (defArgs st) (defBody st) (defScope st) .none kV dc pm an cd ct), sl⟩) (c : PySem.W.codeIn K cd "law" = true) (k : PySem.W.keepIn K (.ref f) = true)
    (hb : ∀ (s : Shared) (v : Value), BindsTo s (PySem.W.fnOf "law" "law" (defArgs st) (defBody st) (defScope st) .none kV dc pm an cd ct) ⟨[v], []⟩ [("_law_script", v)])
    (hF : ∀ (fd : FuncData) (base : Heap), Fun K "law" "law" st f fd → FnOk P w K mg base CX0 n f fd ["_law_script"] (spLaw K)) :
    ∃ fd : FuncData, (∀ (s : Shared) (v : Value), BindsTo s fd ⟨[v], []⟩ [("_law_script", v)]) ∧ ∀ base : Heap, K.In base → base.Ns mainGlobals mg → FnOk P w K mg base CX0 n fa fd ["_law_script"] (spLaw K) := by
  have e := hfa.symm.trans (PySem.W.mg_of X G a)
  cases e
  exact ⟨_, hb, fun base _ _ => hF _ base (fun_mk l c k)⟩
end
end Pu
/-! Pp: plain reasoning about results: what a mirror comes to. -/
namespace Pu
open PySem R
/-- (no rfl rules: the kernel is to follow the congruences) -/
theorem rb {α β : Type} (a : α) (f : α → R β) : (R.ret a).bind f = f a := Eq.trans rfl rfl
theorem wr {α : Type} (Q : α → Prop) (E : Nat → D → Prop) (a : α) : wp Q E (R.ret a) = Q a := Eq.trans rfl rfl
/-- comes to Q, raises nothing (a structure: nothing is to be unfolded by looking at it) -/
structure Ok {α : Type} (r : R α) (Q : α → Prop) : Prop where
  w : r.wp Q fun _ _ => False
theorem okr {α : Type} {Q : α → Prop} (a : α) : Ok (R.ret a) Q = Q a := propext ⟨fun h => h.w, fun h => ⟨h⟩⟩
section
variable {α β γ S S' B T : Type} {Q P : α → Prop}
theorem ok_step {r : R α} {f : α → R β} {Q : β → Prop} (h : Ok r P) (k : ∀ a, P a → Ok (f a) Q) : Ok (r.bind f) Q := ⟨wp_bind.mpr (wp_mono (fun a p => (k a p).w) (fun _ _ z => z) h.w)⟩
theorem ok_mono {r : R α} (h : Ok r P) (k : ∀ a, P a → Q a) : Ok r Q := ⟨wp_mono k (fun _ _ z => z) h.w⟩
theorem ok_ret {a : α} (h : Q a) : Ok (R.ret a) Q := ⟨h⟩
theorem ok_draw {n : Int} {Q : D → Prop} (hn : 0 < n) (h : ∀ i, 0 ≤ i → i < n → Q (.int i)) : Ok (drawR (.int n)) Q := by
  refine ⟨?_⟩
  unfold drawR
  simp only [hn, if_true]
  exact h
theorem ok_eq {r : R α} {a : α} (e : r = R.ret a) (h : Q a) : Ok r Q := by rw [e]; exact ⟨h⟩
theorem ok_and {r : R α} (h : Ok r P) (k : Ok r Q) : Ok r fun a => P a ∧ Q a := by
  have key : ∀ r : R α, r.wp P (fun _ _ => False) → r.wp Q (fun _ _ => False) → r.wp (fun a => P a ∧ Q a) (fun _ _ => False) := by
    intro r
    induction r with
    | ret a => exact fun h k => ⟨h, k⟩
    | exc c x => exact fun h _ => h
    | bad => exact fun h _ => h
    | pick n f ih => exact fun h k i a b => ih i (h i a b) (k i a b)
  exact ⟨key r h.w k.w⟩
theorem nx_ok {r : R α} {E : Nat → D → Prop} (h : Ok r Q) : (nx r).wp Q E := by
  have key : ∀ r : R α, r.wp Q (fun _ _ => False) → (nx r).wp Q E := by
    intro r
    induction r with
    | ret a => exact fun h => h
    | exc c x => exact fun h => h.elim
    | bad => exact fun h => h.elim
    | pick n f ih => exact fun h i a b => ih i (h i a b)
  exact key r h.w
theorem ok_seq {r : R (Out S B T)} {f : S → R (Out S' B T)} {Q : Out S' B T → Prop} (h : Ok r fun o => match o with
    | .nx s => Ok (f s) Q
    | .bk b => Q (.bk b)
    | .ct b => Q (.ct b)
    | .rt d t => Q (.rt d t)) : Ok (seqR r f) Q := by
  refine ok_step h fun o h => ?_
  cases o with
  | nx s => exact h
  | bk b => exact ⟨h⟩
  | ct b => exact ⟨h⟩
  | rt d t => exact ⟨h⟩
theorem ok_end {r : R (Out Unit Empty T)} {Q : D → Prop} (h : Ok r fun o => match o with
    | .nx _ => Q .none
    | .rt d _ => Q d
    | .bk b => True
    | .ct b => True) : Ok (endR0 r) Q := by
  refine ok_step h fun o h => ?_
  cases o with
  | nx s => exact ⟨h⟩
  | rt d t => exact ⟨h⟩
  | bk b => exact b.elim
  | ct b => exact b.elim
theorem ok_up {r : R (Out Empty B T)} {Q : Out S B T → Prop} (h : Ok r fun o => match o with
    | .nx s => True
    | .bk b => Q (.bk b)
    | .ct b => Q (.ct b)
    | .rt d t => Q (.rt d t)) : Ok (up r) Q := by
  refine ok_step h fun o h => ?_
  cases o with
  | nx s => exact s.elim
  | bk b => exact ⟨h⟩
  | ct b => exact ⟨h⟩
  | rt d t => exact ⟨h⟩
theorem ok_for {f : α → S → R (Out S S T)} {Q : Out S B T → Prop} {Inv : Nat → S → Prop} : ∀ {ds : List α} {s : S} (i : Nat), Inv i s →
    (∀ (j : Nat) (d : α) (s : S), ds[j]? = some d → Inv (i + j) s → Ok (f d s) fun o => match o with
      | .nx s' => Inv (i + j + 1) s'
      | .ct s' => Inv (i + j + 1) s'
      | .bk s' => Q (.nx s')
      | .rt d t => Q (.rt d t)) → (∀ s, Inv (i + ds.length) s → Q (.nx s)) → Ok (forR f ds s) Q
  | [], s, i, h0, hs, he => ⟨he s h0⟩
  | d :: ds, s, i, h0, hs, he => by
    unfold forR
    refine ok_step (hs 0 d s rfl h0) fun o h => ?_
    have go : ∀ s', Inv (i + 0 + 1) s' → Ok (forR f ds s') Q := fun s' h => ok_for (i + 1) h (fun j d s e hi => by
      have := hs (j + 1) d s (by simpa using e) (by rw [show i + (j + 1) = i + 1 + j by omega]; exact hi)
      rw [show i + (j + 1) + 1 = i + 1 + j + 1 by omega] at this
      exact this) fun s hi => he s (by rw [List.length_cons, show i + (ds.length + 1) = i + 1 + ds.length by omega]; exact hi)
    cases o with
    | nx s' => exact go s' h
    | ct s' => exact go s' h
    | bk s' => exact ⟨h⟩
    | rt d t => exact ⟨h⟩
/-- the same from the start -/
theorem ok_for0 {f : α → S → R (Out S S T)} {Q : Out S B T → Prop} {ds : List α} {s : S} (Inv : Nat → S → Prop) (h0 : Inv 0 s)
    (hs : ∀ (j : Nat) (d : α) (s : S), ds[j]? = some d → Inv j s → Ok (f d s) fun o => match o with
      | .nx s' => Inv (j + 1) s'
      | .ct s' => Inv (j + 1) s'
      | .bk s' => Q (.nx s')
      | .rt d t => Q (.rt d t)) (he : ∀ s, Inv ds.length s → Q (.nx s)) : Ok (forR f ds s) Q :=
  ok_for (Inv := Inv) 0 h0 (fun j d s e hi => by
    rw [Nat.zero_add] at hi ⊢
    exact hs j d s e hi) fun s hi => he s (by rw [Nat.zero_add] at hi; exact hi)
theorem rangeL_get {lo : Int} {n j : Nat} {d : D} (h : (rangeL lo n)[j]? = some d) : j < n ∧ d = .int (lo + j) := by
  unfold rangeL at h
  rw [List.getElem?_map] at h
  by_cases hj : j < n
  · rw [List.getElem?_range hj] at h
    cases h
    exact ⟨hj, rfl⟩
  · rw [List.getElem?_eq_none (by rw [List.length_range]; omega)] at h
    cases h
theorem rangeL_length {lo : Int} {n : Nat} : (rangeL lo n).length = n := by unfold rangeL; rw [List.length_map, List.length_range]
/-- for k in range(n) -/
theorem ok_range {f : D → S → R (Out S S T)} {Q : Out S B T → Prop} {n : Nat} {s : S} (Inv : Nat → S → Prop) (h0 : Inv 0 s)
    (hs : ∀ (j : Nat) (s : S), j < n → Inv j s → Ok (f (.int j) s) fun o => match o with
      | .nx s' => Inv (j + 1) s'
      | .ct s' => Inv (j + 1) s'
      | .bk s' => Q (.nx s')
      | .rt d t => Q (.rt d t)) (he : ∀ s, Inv n s → Q (.nx s)) : Ok (forR f (rangeL 0 n) s) Q :=
  ok_for0 Inv h0 (fun j d s e hi => by
    obtain ⟨hj, rfl⟩ := rangeL_get e
    rw [Int.zero_add]
    exact hs j s hj hi) fun s hi => he s (by rw [rangeL_length] at hi; exact hi)
/-! comprehensions -/
theorem comp_eq {f : α → R β} {g : α → β} : ∀ {ds : List α} {acc : List β}, (∀ d ∈ ds, f d = R.ret (g d)) → acc.length + ds.length ≤ sizeLine → compR (fun _ => R.ret true) f ds acc = R.ret (acc ++ ds.map g)
  | [], acc, _, _ => by unfold compR; simp
  | d :: ds, acc, h, hl => by
    unfold compR
    rw [List.length_cons] at hl
    rw [h d List.mem_cons_self]
    simp only [nx_ret, ret_bind, if_true]
    rw [if_pos (by omega), comp_eq (fun d hd => h d (List.mem_cons_of_mem _ hd)) (by rw [List.length_append]; simp only [List.length_cons, List.length_nil]; omega)]
    simp
theorem comp_range {f : D → R β} {g : Nat → β} {n : Nat} (hn : n ≤ sizeLine) (h : ∀ k : Nat, k < n → f (.int k) = R.ret (g k)) : compR (fun _ => R.ret true) f (rangeL 0 n) [] = R.ret ((List.range n).map g) := by
  have e : ∀ d ∈ rangeL 0 n, f d = R.ret ((fun d => match d with | .int k => g k.toNat | _ => g 0) d) := fun d hd => by
    unfold rangeL at hd
    obtain ⟨k, hk, rfl⟩ := List.mem_map.mp hd
    rw [Int.zero_add, h k (List.mem_range.mp hk)]
    rfl
  rw [comp_eq e (by rw [rangeL_length]; simpa using hn)]
  unfold rangeL
  rw [List.map_map, List.nil_append]
  congr 1
  apply List.map_congr_left
  intro k _
  show g ((0 : Int) + (k : Int)).toNat = g k
  congr 1
  omega
/-- with draws: every item comes to something that is P -/
theorem comp_ok {f : α → R β} {P : α → β → Prop} {Q : List β → Prop} : ∀ {ds : List α} {acc : List β}, (∀ d ∈ ds, Ok (f d) (P d)) → acc.length + ds.length ≤ sizeLine → (∀ ys, ys.length = ds.length → (∀ (i : Nat) (d : α) (y : β), ds[i]? = some d → ys[i]? = some y → P d y) → Q (acc ++ ys)) → Ok (compR (fun _ => R.ret true) f ds acc) Q
  | [], acc, _, _, k => by
    unfold compR
    have := k [] rfl (fun i d y e => by simp at e)
    rw [List.append_nil] at this
    exact ⟨this⟩
  | d :: ds, acc, h, hl, k => by
    unfold compR
    rw [List.length_cons] at hl
    simp only [nx_ret, ret_bind, if_true]
    refine ok_step (P := P d) ⟨nx_ok (h d List.mem_cons_self)⟩ fun y hy => ?_
    rw [if_pos (by omega)]
    refine comp_ok (fun d hd => h d (List.mem_cons_of_mem _ hd)) (by rw [List.length_append]; simp only [List.length_cons, List.length_nil]; omega) fun ys hy2 hp => ?_
    rw [List.append_assoc]
    refine k (y :: ys) (by rw [List.length_cons, List.length_cons, hy2]) fun i d' y' e1 e2 => ?_
    cases i with
    | zero => simp at e1 e2; subst e1 e2; exact hy
    | succ i => exact hp i d' y' (by simpa using e1) (by simpa using e2)
end
/-! ### stocks: tuples by places -/
def vecL (n : Nat) (s : Nat → Int) : List D := (List.range n).map fun k => PyData.int (s k)
def vec (n : Nat) (s : Nat → Int) : D := .tuple (vecL n s)
theorem vecL_length {n : Nat} {s : Nat → Int} : (vecL n s).length = n := by unfold vecL; rw [List.length_map, List.length_range]
theorem vecL_get {n k : Nat} {s : Nat → Int} (h : k < n) : (vecL n s)[k]? = some (.int (s k)) := by unfold vecL; rw [List.getElem?_map, List.getElem?_range h]; rfl
theorem vecL_congr {n : Nat} {a b : Nat → Int} (h : ∀ k, k < n → a k = b k) : vecL n a = vecL n b := List.map_congr_left fun k hk => by rw [h k (List.mem_range.mp hk)]
theorem vec_congr {n : Nat} {a b : Nat → Int} (h : ∀ k, k < n → a k = b k) : vec n a = vec n b := by unfold vec; rw [vecL_congr h]
theorem vecL_inj {n : Nat} {a b : Nat → Int} (h : vecL n a = vecL n b) (k : Nat) (hk : k < n) : a k = b k := by
  have e := congrArg (fun l : List D => l[k]?) h
  simp only [vecL_get hk] at e
  injection e with e
  injection e
theorem vec_inj {n : Nat} {a b : Nat → Int} (h : vec n a = vec n b) (k : Nat) (hk : k < n) : a k = b k := vecL_inj (by unfold vec at h; injection h) k hk
/-- a list of ints is one -/
theorem vecL_of (ns : List Int) : ns.map PyData.int = vecL ns.length fun k => ns.getD k 0 := by
  apply List.ext_getElem?
  intro i
  by_cases h : i < ns.length
  · rw [vecL_get h, List.getElem?_map, List.getElem?_eq_getElem h]
    simp [List.getD, List.getElem?_eq_getElem h]
  · rw [List.getElem?_eq_none (by rw [List.length_map]; omega), List.getElem?_eq_none (by rw [vecL_length]; omega)]
theorem at_nat {xs : List D} {k : Nat} {d : D} (h : xs[k]? = some d) : L2.atI xs (k : Int) = some d := L2.atI_nat h
theorem ix_tup {xs : List D} {k : Nat} {d : D} (h : xs[k]? = some d) : ixR (.tuple xs) (.int (k : Int)) = R.ret d := by show optR (L2.atI xs (k : Int)) = _; rw [at_nat h]; rfl
theorem ix_lst {xs : List D} {k : Nat} {d : D} (h : xs[k]? = some d) : ixR (.list xs) (.int (k : Int)) = R.ret d := by show optR (L2.atI xs (k : Int)) = _; rw [at_nat h]; rfl
theorem ix_vec {n k : Nat} {s : Nat → Int} (h : k < n) : ixR (vec n s) (.int (k : Int)) = R.ret (.int (s k)) := ix_tup (vecL_get h)
theorem ix_vecL {n k : Nat} {s : Nat → Int} (h : k < n) : ixR (.list (vecL n s)) (.int (k : Int)) = R.ret (.int (s k)) := ix_lst (vecL_get h)
theorem ix0 {x : D} {xs : List D} : ixR (.tuple (x :: xs)) (.int 0) = R.ret x := ix_tup (k := 0) rfl
theorem ix1 {x y : D} {xs : List D} : ixR (.tuple (x :: y :: xs)) (.int 1) = R.ret y := ix_tup (k := 1) rfl
theorem ix2 {x y z : D} {xs : List D} : ixR (.tuple (x :: y :: z :: xs)) (.int 2) = R.ret z := ix_tup (k := 2) rfl
theorem ix3 {x y z w : D} {xs : List D} : ixR (.tuple (x :: y :: z :: w :: xs)) (.int 3) = R.ret w := ix_tup (k := 3) rfl
theorem len_vec {n : Nat} {s : Nat → Int} : lenR (vec n s) = R.ret (.int n) := by show R.ret (PyData.int ((vecL n s).length : Nat)) = _; rw [vecL_length]
theorem len_vecL {n : Nat} {s : Nat → Int} : lenR (.list (vecL n s)) = R.ret (.int n) := by show R.ret (PyData.int ((vecL n s).length : Nat)) = _; rw [vecL_length]
theorem items_vec {n : Nat} {s : Nat → Int} : itemsR (vec n s) = R.ret (vecL n s) := Eq.trans rfl rfl
theorem rng_nat {n : Nat} (h : n < 4611686018427387904) : rng1R (.int (n : Int)) = R.ret (rangeL 0 n) := by
  have hc : -(2 ^ 62) ≤ (n : Int) ∧ (n : Int) < 2 ^ 62 := ⟨by omega, by omega⟩
  simp only [rng1R, hc, and_self, if_true, Int.toNat_natCast]
theorem comp_vec {β : Type} {f : D → R β} {g : Nat → β} {n : Nat} {s : Nat → Int} (hn : n ≤ sizeLine) (h : ∀ k : Nat, k < n → f (.int (s k)) = R.ret (g k)) : compR (fun _ => R.ret true) f (vecL n s) [] = R.ret ((List.range n).map g) := by
  have key : ∀ (l : List Nat) (acc : List β), (∀ k ∈ l, k < n) → acc.length + l.length ≤ sizeLine → compR (fun _ => R.ret true) f (l.map fun k => PyData.int (s k)) acc = R.ret (acc ++ l.map g) := by
    intro l
    induction l with
    | nil => intro acc _ _; simp [compR]
    | cons k l ih =>
      intro acc hl hz
      rw [List.map_cons]
      unfold compR
      rw [List.length_cons] at hz
      rw [h k (hl k List.mem_cons_self)]
      simp only [nx_ret, ret_bind, if_true]
      rw [if_pos (by omega), ih _ (fun k hk => hl k (List.mem_cons_of_mem _ hk)) (by rw [List.length_append]; simp only [List.length_cons, List.length_nil]; omega)]
      simp
  unfold vecL
  rw [key _ _ (fun k hk => List.mem_range.mp hk) (by rw [List.length_range]; simpa using hn), List.nil_append]
/-! ### the operations at their data -/
section
variable {i j : Int} {a b : Bool} {x y : Str} {xs ys : List D}
@[simp] theorem add_int : addR (.int i) (.int j) = R.ret (.int (i + j)) := Eq.trans rfl rfl
@[simp] theorem sub_int : subR (.int i) (.int j) = R.ret (.int (i - j)) := Eq.trans rfl rfl
@[simp] theorem neg_int : negR (.int i) = R.ret (.int (-i)) := Eq.trans rfl rfl
@[simp] theorem lt_int : ltR (.int i) (.int j) = R.ret (.bool (decide (i < j))) := Eq.trans rfl rfl
@[simp] theorem le_int : leR (.int i) (.int j) = R.ret (.bool (decide (i ≤ j))) := Eq.trans rfl rfl
@[simp] theorem gt_int : gtR (.int i) (.int j) = R.ret (.bool (decide (j < i))) := Eq.trans rfl rfl
@[simp] theorem ge_int : geR (.int i) (.int j) = R.ret (.bool (decide (j ≤ i))) := Eq.trans rfl rfl
@[simp] theorem max_int : maxR (.int i) (.int j) = R.ret (.int (if j > i then j else i)) := Eq.trans rfl rfl
@[simp] theorem min_int : minR (.int i) (.int j) = R.ret (.int (if j < i then j else i)) := Eq.trans rfl rfl
@[simp] theorem bool_b : boolR (.bool a) = R.ret a := Eq.trans rfl rfl
@[simp] theorem not_b : notR (.bool a) = R.ret (.bool (!a)) := Eq.trans rfl rfl
@[simp] theorem int_int : intR (.int i) = R.ret (.int i) := Eq.trans rfl rfl
@[simp] theorem abs_int : absR (.int i) = R.ret (.int (if i < 0 then -i else i)) := Eq.trans rfl rfl
@[simp] theorem part_int : partR (.int i) = R.ret (some i) := Eq.trans rfl rfl
@[simp] theorem tuple_l : tupleR (.list xs) = R.ret (.tuple xs) := Eq.trans rfl rfl
@[simp] theorem tuple_t : tupleR (.tuple xs) = R.ret (.tuple xs) := Eq.trans rfl rfl
@[simp] theorem list_l : listR (.list xs) = R.ret (.list xs) := Eq.trans rfl rfl
@[simp] theorem list_t : listR (.tuple xs) = R.ret (.list xs) := Eq.trans rfl rfl
@[simp] theorem len_l : lenR (.list xs) = R.ret (.int xs.length) := Eq.trans rfl rfl
@[simp] theorem len_t : lenR (.tuple xs) = R.ret (.int xs.length) := Eq.trans rfl rfl
@[simp] theorem items_l : itemsR (.list xs) = R.ret xs := Eq.trans rfl rfl
@[simp] theorem items_t : itemsR (.tuple xs) = R.ret xs := Eq.trans rfl rfl
theorem unp2_t {α : Type} {x y : D} {f : D → D → R α} : unp2 (.tuple [x, y]) f = f x y := Eq.trans rfl rfl
theorem unp3_t {α : Type} {x y z : D} {f : D → D → D → R α} : unp3 (.tuple [x, y, z]) f = f x y z := Eq.trans rfl rfl
theorem unp4_t {α : Type} {x y z w : D} {f : D → D → D → D → R α} : unp4 (.tuple [x, y, z, w]) f = f x y z w := Eq.trans rfl rfl
theorem mul_int (h : mulOk i j) : mulR (.int i) (.int j) = R.ret (.int (i * j)) := by simp only [mulR, h, if_true]
theorem mod_int (h : j ≠ 0) : modR (.int i) (.int j) = R.ret (.int (i.fmod j)) := by simp only [modR, h, ne_eq, not_false_eq_true, if_true]
theorem fdiv_int (h : j ≠ 0) (h2 : j.natAbs < fdLine) : fdivR (.int i) (.int j) = R.ret (.int (i.fdiv j)) := by
  have hc : CDivL i j := ⟨h, h2⟩
  simp only [fdivR, hc, if_true]
theorem fd_small {n : Nat} (h : n < 1073741824) : n < fdLine := Nat.lt_trans h (by unfold fdLine; decide)
theorem eq_int : eqR (.int i) (.int j) = R.ret (.bool (decide (i = j))) := by
  unfold eqR
  rw [if_pos ⟨by unfold SeqAt.shaped; rfl, by unfold SeqAt.shaped; rfl⟩]
  unfold PyData.eqv
  rfl
theorem ne_int : neR (.int i) (.int j) = R.ret (.bool (!decide (i = j))) := by
  unfold neR
  rw [if_pos ⟨by unfold SeqAt.shaped; rfl, by unfold SeqAt.shaped; rfl⟩]
  unfold PyData.eqv
  rfl
end
/-! ### lists of one kind -/
theorem ints_all : ∀ ns : List Int, allSome intOf (ns.map PyData.int) = some ns
  | [] => rfl
  | n :: ns => by rw [List.map_cons]; unfold allSome; rw [ints_all ns]; rfl
theorem bools_all : ∀ ns : List Bool, allSome boolOf (ns.map PyData.bool) = some ns
  | [] => rfl
  | n :: ns => by rw [List.map_cons]; unfold allSome; rw [bools_all ns]; rfl
theorem strs_all : ∀ ns : List Str, allSome strOf (ns.map PyData.str) = some ns
  | [] => rfl
  | n :: ns => by rw [List.map_cons]; unfold allSome; rw [strs_all ns]; rfl
theorem sum_ints (ns : List Int) : sumR (.list (ns.map PyData.int)) = R.ret (.int ns.sum) := by simp only [sumR, ints_all]
theorem any_bools (ns : List Bool) : anyR (.list (ns.map PyData.bool)) = R.ret (.bool (ns.any id)) := by simp only [anyR, bools_all]
theorem all_bools (ns : List Bool) : allR (.list (ns.map PyData.bool)) = R.ret (.bool (ns.all id)) := by simp only [allR, bools_all]
theorem any_range {n : Nat} (p : Nat → Prop) [DecidablePred p] : anyR (.list ((List.range n).map fun k => PyData.bool (decide (p k)))) = R.ret (.bool (decide (∃ k, k < n ∧ p k))) := by
  have e : (List.range n).map (fun k => PyData.bool (decide (p k))) = ((List.range n).map fun k => decide (p k)).map PyData.bool := by rw [List.map_map]; rfl
  rw [e, any_bools]
  congr 2
  apply Bool.eq_iff_iff.mpr
  rw [List.any_eq_true, decide_eq_true_iff]
  constructor
  · rintro ⟨x, hx, h⟩
    obtain ⟨k, hk, rfl⟩ := List.mem_map.mp hx
    exact ⟨k, List.mem_range.mp hk, of_decide_eq_true h⟩
  · rintro ⟨k, hk, h⟩
    exact ⟨decide (p k), List.mem_map.mpr ⟨k, List.mem_range.mpr hk, rfl⟩, decide_eq_true h⟩
/-! ### data without bools and dicts: == is equality -/
def Pl : Nat → D → Prop
  | _, .none => True
  | _, .int _ => True
  | _, .str x => PyData.canLay0 (.str x) = true
  | k + 1, .tuple xs => ∀ x ∈ xs, Pl k x
  | k + 1, .list xs => ∀ x ∈ xs, Pl k x
  | _, _ => False
theorem Pl.lay : ∀ {k : Nat} {d : D}, Pl k d → d.canLay0 = true ∧ d.depth ≤ k
  | k, .none, h => ⟨rfl, Nat.zero_le _⟩
  | k, .int _, h => ⟨rfl, Nat.zero_le _⟩
  | k, .str x, h => ⟨by unfold Pl at h; exact h, Nat.zero_le _⟩
  | k + 1, .tuple xs, h => by
    have all : ∀ xs : List D, (∀ x ∈ xs, Pl k x) → PyData.canLayAll0 xs = true ∧ PyData.depthAll xs ≤ k := by
      intro xs
      induction xs with
      | nil => exact fun _ => ⟨rfl, Nat.zero_le _⟩
      | cons x xs ih =>
        intro h
        have h1 := Pl.lay (h x List.mem_cons_self)
        have h2 := ih fun y hy => h y (List.mem_cons_of_mem _ hy)
        unfold PyData.canLayAll0 PyData.depthAll
        rw [h1.1, h2.1]
        exact ⟨rfl, Nat.max_le.mpr ⟨h1.2, h2.2⟩⟩
    unfold Pl at h
    have := all xs h
    unfold PyData.canLay0 PyData.depth
    exact ⟨this.1, Nat.succ_le_succ this.2⟩
  | k + 1, .list xs, h => by
    have all : ∀ xs : List D, (∀ x ∈ xs, Pl k x) → PyData.canLayAll0 xs = true ∧ PyData.depthAll xs ≤ k := by
      intro xs
      induction xs with
      | nil => exact fun _ => ⟨rfl, Nat.zero_le _⟩
      | cons x xs ih =>
        intro h
        have h1 := Pl.lay (h x List.mem_cons_self)
        have h2 := ih fun y hy => h y (List.mem_cons_of_mem _ hy)
        unfold PyData.canLayAll0 PyData.depthAll
        rw [h1.1, h2.1]
        exact ⟨rfl, Nat.max_le.mpr ⟨h1.2, h2.2⟩⟩
    unfold Pl at h
    have := all xs h
    unfold PyData.canLay0 PyData.depth
    exact ⟨this.1, Nat.succ_le_succ this.2⟩
  | 0, .tuple xs, h => by unfold Pl at h; exact h.elim
  | 0, .list xs, h => by unfold Pl at h; exact h.elim
  | _, .bool _, h => by unfold Pl at h; exact h.elim
  | _, .dict _, h => by unfold Pl at h; exact h.elim
theorem Pl.shaped {k : Nat} {d : D} (h : Pl k d) (hk : k ≤ 64) : SeqAt.shaped d = true := by
  unfold SeqAt.shaped
  rw [h.lay.1, Bool.true_and]
  exact decide_eq_true (Nat.le_trans h.lay.2 hk)
theorem eqvAll_iff {P : D → Prop} (ih : ∀ x y, P x → P y → (PyData.eqv x y = true ↔ x = y)) : ∀ xs ys : List D, (∀ x ∈ xs, P x) → (∀ x ∈ ys, P x) → (PyData.eqvAll xs ys = true ↔ xs = ys)
  | [], [], _, _ => by simp [PyData.eqvAll]
  | [], _ :: _, _, _ => by simp [PyData.eqvAll]
  | _ :: _, [], _, _ => by simp [PyData.eqvAll]
  | x :: xs, y :: ys, hx, hy => by
    rw [PyData.eqvAll, Bool.and_eq_true, ih x y (hx x List.mem_cons_self) (hy y List.mem_cons_self), eqvAll_iff ih xs ys (fun z hz => hx z (List.mem_cons_of_mem _ hz)) fun z hz => hy z (List.mem_cons_of_mem _ hz)]
    constructor
    · rintro ⟨rfl, rfl⟩; rfl
    · intro e; cases e; exact ⟨rfl, rfl⟩
theorem Pl.eqv : ∀ {k : Nat} {x y : D}, Pl k x → Pl k y → (PyData.eqv x y = true ↔ x = y)
  | 0, x, y, hx, hy => by
    cases x <;> cases y <;> first | (unfold Pl at hx; exact hx.elim) | (unfold Pl at hy; exact hy.elim) | simp [PyData.eqv]
  | k + 1, x, y, hx, hy => by
    have ih : ∀ x y, Pl k x → Pl k y → (PyData.eqv x y = true ↔ x = y) := fun x y => Pl.eqv
    cases x <;> cases y <;> first | (unfold Pl at hx; exact hx.elim) | (unfold Pl at hy; exact hy.elim) | (unfold Pl at hx hy; simp only [PyData.eqv, PyData.tuple.injEq, PyData.list.injEq]; exact eqvAll_iff ih _ _ hx hy) | simp [PyData.eqv]
theorem eq_pl {k : Nat} {x y : D} (hx : Pl k x) (hy : Pl k y) (hk : k ≤ 64) : ∃ b, eqR x y = R.ret (.bool b) ∧ (b = true ↔ x = y) :=
  ⟨_, by unfold eqR; rw [if_pos ⟨hx.shaped hk, hy.shaped hk⟩], hx.eqv hy⟩
theorem ne_pl {k : Nat} {x y : D} (hx : Pl k x) (hy : Pl k y) (hk : k ≤ 64) : ∃ b, neR x y = R.ret (.bool (!b)) ∧ (b = true ↔ x = y) :=
  ⟨_, by unfold neR; rw [if_pos ⟨hx.shaped hk, hy.shaped hk⟩], hx.eqv hy⟩
theorem eq_yes {k : Nat} {x : D} (hx : Pl k x) (hk : k ≤ 64) : eqR x x = R.ret (.bool true) := by
  obtain ⟨b, e, h⟩ := eq_pl hx hx hk
  rw [e, h.mpr rfl]
theorem eq_no {k : Nat} {x y : D} (hx : Pl k x) (hy : Pl k y) (hk : k ≤ 64) (n : x ≠ y) : eqR x y = R.ret (.bool false) := by
  obtain ⟨b, e, h⟩ := eq_pl hx hy hk
  rw [e]
  cases b with
  | false => rfl
  | true => exact absurd (h.mp rfl) n
theorem ne_no {k : Nat} {x : D} (hx : Pl k x) (hk : k ≤ 64) : neR x x = R.ret (.bool false) := by
  obtain ⟨b, e, h⟩ := ne_pl hx hx hk
  rw [e, h.mpr rfl]
  rfl
theorem ne_yes {k : Nat} {x y : D} (hx : Pl k x) (hy : Pl k y) (hk : k ≤ 64) (n : x ≠ y) : neR x y = R.ret (.bool true) := by
  obtain ⟨b, e, h⟩ := ne_pl hx hy hk
  rw [e]
  cases b with
  | false => rfl
  | true => exact absurd (h.mp rfl) n
theorem pl_int {k : Nat} {i : Int} : Pl k (.int i) := by unfold Pl; trivial
theorem pl_none {k : Nat} : Pl k .none := by unfold Pl; trivial
theorem pl_vec {n : Nat} {s : Nat → Int} {k : Nat} : Pl (k + 1) (vec n s) := by
  unfold vec Pl
  intro x hx
  unfold vecL at hx
  obtain ⟨j, _, rfl⟩ := List.mem_map.mp hx
  exact pl_int
/-! ### draws and texts -/
theorem comp_all {α β : Type} {f : α → R β} {P : β → Prop} {Q : List β → Prop} {ds : List α} (h : ∀ d ∈ ds, Ok (f d) P) (hl : ds.length ≤ sizeLine) (k : ∀ ys, ys.length = ds.length → (∀ y ∈ ys, P y) → Q ys) : Ok (compR (fun _ => R.ret true) f ds []) Q :=
  comp_ok (P := fun _ => P) (acc := []) h (by simpa using hl) fun ys hy hp => by
    rw [List.nil_append]
    refine k ys hy fun y hm => ?_
    obtain ⟨i, hi, e⟩ := List.mem_iff_getElem.mp hm
    have hd : i < ds.length := by omega
    exact hp i ds[i] y (List.getElem?_eq_getElem hd) (by rw [List.getElem?_eq_getElem hi, e])
theorem all_map {α : Type} {g : α → D} {P : α → Prop} : ∀ {ys : List D}, (∀ y ∈ ys, ∃ z, y = g z ∧ P z) → ∃ zs : List α, ys = zs.map g ∧ ∀ z ∈ zs, P z
  | [], _ => ⟨[], rfl, by simp⟩
  | y :: ys, h => by
    obtain ⟨z, rfl, hz⟩ := h y List.mem_cons_self
    obtain ⟨zs, rfl, hzs⟩ := all_map fun y hy => h y (List.mem_cons_of_mem _ hy)
    exact ⟨z :: zs, rfl, fun x hx => by
      rcases List.mem_cons.mp hx with rfl | hx
      · exact hz
      · exact hzs x hx⟩
theorem ints_vec {P : Nat → Int → Prop} {n : Nat} {ys : List D} (hl : ys.length = n) (h : ∀ (k : Nat) (y : D), ys[k]? = some y → ∃ z, y = .int z ∧ P k z) : ∃ t : Nat → Int, ys = vecL n t ∧ (∀ k, k < n → P k (t k)) ∧ ∀ k, n ≤ k → t k = 0 := by
  obtain ⟨zs, e, _⟩ := all_map (g := PyData.int) (P := fun _ => True) (ys := ys) fun y hy => by
    obtain ⟨i, hi, e⟩ := List.mem_iff_getElem.mp hy
    obtain ⟨z, e2, _⟩ := h i y (by rw [List.getElem?_eq_getElem hi, e])
    exact ⟨z, e2, trivial⟩
  subst e
  rw [List.length_map] at hl
  refine ⟨fun k => zs.getD k 0, by rw [vecL_of, hl], fun k hk => ?_, fun k hk => ?_⟩
  · obtain ⟨z, e2, hz⟩ := h k (.int (zs[k]'(by omega))) (by rw [List.getElem?_map, List.getElem?_eq_getElem (by omega)]; rfl)
    injection e2 with e2
    rw [← e2] at hz
    simp only [List.getD, List.getElem?_eq_getElem (show k < zs.length by omega), Option.getD_some]
    exact hz
  · simp only [List.getD, List.getElem?_eq_none (show zs.length ≤ k by omega), Option.getD_none]
/-- an int for each place -/
theorem comp_vec_ok {f : D → R D} {n : Nat} {s : Nat → Int} {P : Nat → Int → Prop} (hn : n ≤ sizeLine) (h : ∀ k, k < n → Ok (f (.int (s k))) fun y => ∃ z, y = .int z ∧ P k z) :
    Ok (compR (fun _ => R.ret true) f (vecL n s) []) fun ys => ∃ t : Nat → Int, ys = vecL n t ∧ (∀ k, k < n → P k (t k)) ∧ ∀ k, n ≤ k → t k = 0 := by
  have hs : ∀ (l : List Nat) (m : Nat) (acc : List D), (∀ i k, l[i]? = some k → k = m + i ∧ k < n) → acc.length = m → acc.length + l.length ≤ sizeLine → (∀ (k : Nat) (y : D), acc[k]? = some y → ∃ z, y = .int z ∧ P k z) →
      Ok (compR (fun _ => R.ret true) f (l.map fun k => PyData.int (s k)) acc) fun ys => ys.length = m + l.length ∧ ∀ (k : Nat) (y : D), ys[k]? = some y → ∃ z, y = .int z ∧ P k z := by
    intro l
    induction l with
    | nil => intro m acc _ hm _ ha; exact ⟨⟨by simpa using hm, ha⟩⟩
    | cons j l ih =>
      intro m acc hl hm hz ha
      rw [List.map_cons]
      unfold compR
      simp only [nx_ret, rb, if_true]
      rw [List.length_cons] at hz
      obtain ⟨e0, h0⟩ := hl 0 j rfl
      refine ok_step ⟨nx_ok (h j h0)⟩ fun y hy => ?_
      rw [if_pos (by omega)]
      refine ok_mono (ih (m + 1) (acc ++ [y]) (fun i k e => ?_) (by rw [List.length_append, hm]; rfl) (by rw [List.length_append]; simp only [List.length_cons, List.length_nil]; omega) fun k y' e => ?_) fun ys hys => ⟨by rw [hys.1, List.length_cons]; omega, hys.2⟩
      · obtain ⟨e1, e2⟩ := hl (i + 1) k (by simpa using e)
        exact ⟨by omega, e2⟩
      · by_cases hk : k < acc.length
        · rw [List.getElem?_append_left hk] at e
          exact ha k y' e
        · rw [List.getElem?_append_right (by omega)] at e
          have hk0 : k - acc.length = 0 := by
            by_cases hz : k - acc.length = 0
            · exact hz
            · rw [List.getElem?_eq_none (by simp only [List.length_cons, List.length_nil]; omega)] at e; cases e
          rw [hk0] at e
          cases e
          obtain ⟨z, e3, hz⟩ := hy
          exact ⟨z, e3, by rw [show k = j by omega]; exact hz⟩
  unfold vecL
  refine ok_mono (hs (List.range n) 0 [] (fun i k e => ?_) rfl (by simpa using hn) fun k y e => by simp at e) fun ys hys => ?_
  · by_cases hi : i < n
    · rw [List.getElem?_range hi] at e
      cases e
      exact ⟨by omega, hi⟩
    · rw [List.getElem?_eq_none (by rw [List.length_range]; omega)] at e; cases e
  · rw [List.length_range, Nat.zero_add] at hys
    exact ints_vec hys.1 hys.2
/-- an int for each k of range(n) -/
theorem comp_range_ok {f : D → R D} {n : Nat} {P : Nat → Int → Prop} (hn : n ≤ sizeLine) (h : ∀ k : Nat, k < n → Ok (f (.int (k : Int))) fun y => ∃ z, y = .int z ∧ P k z) :
    Ok (compR (fun _ => R.ret true) f (rangeL 0 n) []) fun ys => ∃ t : Nat → Int, ys = vecL n t ∧ (∀ k, k < n → P k (t k)) ∧ ∀ k, n ≤ k → t k = 0 := by
  have e : rangeL 0 n = vecL n fun k => (k : Int) := by
    unfold rangeL vecL
    exact List.map_congr_left fun k _ => by rw [Int.zero_add]
  rw [e]
  exact comp_vec_ok hn h
theorem draw_lit {n : Int} {k : Nat} (h : n = (k : Int)) (hk : 0 < k) : Ok (drawR (.int n)) fun d => ∃ i : Nat, i < k ∧ d = .int (i : Int) := by
  subst h
  exact ok_draw (by omega) fun i h0 h1 => ⟨i.toNat, by omega, by rw [Int.toNat_of_nonneg h0]⟩
theorem draw_pos {n : Int} (h : 0 < n) : Ok (drawR (.int n)) fun d => ∃ i : Int, 0 ≤ i ∧ i < n ∧ d = .int i := ok_draw h fun i h0 h1 => ⟨i, h0, h1, rfl⟩
theorem ix_ints {ns : List Int} {i : Nat} (h : i < ns.length) : ixR (.list (ns.map PyData.int)) (.int (i : Int)) = R.ret (.int ns[i]) := ix_lst (by rw [List.getElem?_map, List.getElem?_eq_getElem h]; rfl)
theorem ix_str {z : Str} {i : Nat} (h : i < z.length) (hz : z.length ≤ 1000) : ixR (.str z) (.int (i : Int)) = R.ret (.str ⟨#[z.cps[i]'h]⟩) := by
  show (if z.length ≤ sizeLine then (match L2.atI z.cps.toList (i : Int) with | some c => R.ret (PyData.str ⟨#[c]⟩) | none => bad) else bad) = _
  rw [if_pos (Nat.le_of_lt (L2.small1000 hz)), L2.atI_nat (show z.cps.toList[i]? = some (z.cps[i]'h) by rw [Array.getElem?_toList]; exact Array.getElem?_eq_getElem h)]
theorem add_str {i j : Str} (h : i.length + j.length ≤ 1000) : addR (.str i) (.str j) = R.ret (.str (i ++ j)) := by
  show (if i.length + j.length ≤ sizeLine then R.ret (PyData.str (i ++ j)) else bad) = _
  rw [if_pos (Nat.le_of_lt (L2.small1000 h))]
theorem len_app {i j : Str} : (i ++ j).length = i.length + j.length := by
  show (i.cps ++ j.cps).size = _
  rw [Array.size_append]
  rfl
theorem rng_int {n : Int} (h0 : 0 ≤ n) (h1 : n ≤ 1000) : rng1R (.int n) = R.ret (rangeL 0 n.toNat) := by
  have := rng_nat (n := n.toNat) (Nat.lt_of_le_of_lt (show n.toNat ≤ 1000 by omega) (by decide))
  rw [Int.toNat_of_nonneg h0] at this
  exact this
theorem join_strs {a : Str} {zs : List Str} (h : (zs.map (·.length)).sum + zs.length * a.length ≤ 1000) : joinR a (.list (zs.map PyData.str)) = R.ret (.str (Txt.join a zs)) := by
  simp only [joinR, strs_all, joinL]
  rw [if_pos (Nat.le_trans h (by decide))]
theorem join_len (a : Str) (zs : List Str) : (Txt.join a zs).length ≤ (zs.map (·.length)).sum + zs.length * a.length := by
  rw [TL.join_eq]
  induction zs with
  | nil => exact Nat.zero_le _
  | cons x r ih =>
    cases r with
    | nil => show x.length ≤ _; simp
    | cons y r =>
      have e : (Str.join a (x :: y :: r)).length = x.length + a.length + (Str.join a (y :: r)).length := by
        show (x.cps ++ a.cps ++ (Str.join a (y :: r)).cps).size = _
        rw [Array.size_append, Array.size_append]
        rfl
      rw [e]
      simp only [List.map_cons, List.sum_cons, List.length_cons, Nat.add_mul, Nat.one_mul] at ih ⊢
      omega
theorem sum_ones {zs : List Str} {b : Nat} (h : ∀ z ∈ zs, z.length ≤ b) : (zs.map (·.length)).sum ≤ zs.length * b := by
  induction zs with
  | nil => simp
  | cons z zs ih =>
    have h1 := h z List.mem_cons_self
    have h2 := ih fun x hx => h x (List.mem_cons_of_mem _ hx)
    simp only [List.map_cons, List.sum_cons, List.length_cons, Nat.add_mul, Nat.one_mul]
    omega
theorem seq_bind {α S S' B T : Type} {t : R α} {g : α → R (Out S B T)} {k : S → R (Out S' B T)} : (t.bind fun b => seqR (g b) k) = seqR (t.bind g) k := (R.bind_assoc t g _).symm
theorem eq_bool {a b : Bool} : eqR (.bool a) (.bool b) = R.ret (.bool (a == b)) := by
  unfold eqR
  rw [if_pos ⟨by unfold SeqAt.shaped; rfl, by unfold SeqAt.shaped; rfl⟩]
  unfold PyData.eqv
  rfl
theorem ne_bool {a b : Bool} : neR (.bool a) (.bool b) = R.ret (.bool (!(a == b))) := by
  unfold neR
  rw [if_pos ⟨by unfold SeqAt.shaped; rfl, by unfold SeqAt.shaped; rfl⟩]
  unfold PyData.eqv
  rfl
theorem isi_bool {a : Bool} : isiR "bool" (.bool a) = R.ret (.bool true) := Eq.trans rfl rfl
theorem is_true {a : Bool} : isR (.bool a) (.bool true) = R.ret (.bool a) := by
  show R.ret (PyData.bool (decide (a = true))) = _
  cases a <;> rfl
/-! ### rows of moves -/
def natL (ms : List Nat) : List D := ms.map fun m : Nat => PyData.int (m : Int)
theorem natL_length {ms : List Nat} : (natL ms).length = ms.length := by unfold natL; rw [List.length_map]
theorem natL_get {ms : List Nat} {i m : Nat} (h : ms[i]? = some m) : (natL ms)[i]? = some (.int (m : Int)) := by unfold natL; rw [List.getElem?_map, h]; rfl
theorem natL_append {a b : List Nat} : natL (a ++ b) = natL a ++ natL b := by unfold natL; rw [List.map_append]
theorem natL_rep {a : List Nat} : ∀ c : Nat, natL (List.replicate c a).flatten = (List.replicate c (natL a)).flatten
  | 0 => rfl
  | c + 1 => by rw [List.replicate_succ, List.flatten_cons, natL_append, natL_rep c, List.replicate_succ, List.flatten_cons]
/-- one place of a stock changed by slices -/
theorem cut_take (xs : List D) (n : Nat) : cutD xs none (some (n : Int)) = xs.take n := by
  unfold cutD
  rw [HT.sIx_none, HT.sIx_nat, List.drop_zero, Nat.sub_zero]
  by_cases h : n ≤ xs.length
  · rw [Nat.min_eq_left h]
  · rw [Nat.min_eq_right (by omega), List.take_length, List.take_of_length_le (by omega)]
theorem cut_drop (xs : List D) (n : Nat) : cutD xs (some (n : Int)) none = xs.drop n := by
  unfold cutD
  rw [HT.sIx_none, HT.sIx_nat]
  by_cases h : n ≤ xs.length
  · rw [Nat.min_eq_left h]
    exact List.take_of_length_le (by rw [List.length_drop]; exact Nat.le_refl _)
  · rw [Nat.min_eq_right (by omega), List.drop_length, List.drop_eq_nil_of_le (by omega), List.take_nil]
theorem vec_but {n k : Nat} {f : Nat → Int} {x : Int} (hk : k < n) : (vecL n f).take k ++ [PyData.int x] ++ (vecL n f).drop (k + 1) = vecL n fun i => if i = k then x else f i := by
  apply List.ext_getElem?
  intro i
  have hl : ((vecL n f).take k).length = k := by rw [List.length_take, vecL_length]; omega
  by_cases h1 : i < k
  · rw [List.append_assoc, List.getElem?_append_left (by omega), List.getElem?_take, if_pos h1, vecL_get (by omega), vecL_get (by omega), if_neg (by omega)]
  · by_cases h2 : i = k
    · subst h2
      rw [List.append_assoc, List.getElem?_append_right (by omega), hl, Nat.sub_self, vecL_get hk, if_pos rfl]
      rfl
    · rw [List.getElem?_append_right (by rw [List.length_append, hl]; simp only [List.length_cons, List.length_nil]; omega), List.length_append, hl]
      simp only [List.length_cons, List.length_nil]
      rw [List.getElem?_drop, show k + 1 + (i - (k + (0 + 1))) = i by omega]
      by_cases h3 : i < n
      · rw [vecL_get h3, vecL_get h3, if_neg h2]
      · rw [List.getElem?_eq_none (by rw [vecL_length]; omega), List.getElem?_eq_none (by rw [vecL_length]; omega)]
/-- the items that pass -/
theorem comp_filter {α β : Type} {c : α → R Bool} {f : α → R β} {p : α → Bool} {g : α → β} : ∀ {ds : List α} {acc : List β}, (∀ d ∈ ds, c d = R.ret (p d)) → (∀ d ∈ ds, p d = true → f d = R.ret (g d)) → acc.length + ds.length ≤ sizeLine → compR c f ds acc = R.ret (acc ++ (ds.filter p).map g)
  | [], acc, _, _, _ => by unfold compR; simp
  | d :: ds, acc, hc, hf, hl => by
    unfold compR
    rw [List.length_cons] at hl
    rw [hc d List.mem_cons_self]
    simp only [nx_ret, rb]
    cases e : p d with
    | true =>
      rw [if_pos rfl, hf d List.mem_cons_self e]
      simp only [nx_ret, rb]
      rw [if_pos (by omega), comp_filter (fun d hd => hc d (List.mem_cons_of_mem _ hd)) (fun d hd => hf d (List.mem_cons_of_mem _ hd)) (by rw [List.length_append]; simp only [List.length_cons, List.length_nil]; omega), List.filter_cons, e]
      simp
    | false =>
      rw [if_neg (by decide), comp_filter (fun d hd => hc d (List.mem_cons_of_mem _ hd)) (fun d hd => hf d (List.mem_cons_of_mem _ hd)) (by omega), List.filter_cons, e]
      simp
theorem add_tup {xs ys : List D} (h1 : xs.length ≤ 100000) (h2 : ys.length ≤ 100000) : addR (.tuple xs) (.tuple ys) = R.ret (.tuple (xs ++ ys)) := by
  have hz : xs.length + ys.length ≤ sizeLine := Nat.le_trans (show xs.length + ys.length ≤ 200000 by omega) (by show 200000 ≤ 2 ^ 24; decide)
  simp only [addR, hz, if_true]
theorem slice_to {xs : List D} {k : Nat} : sliceR (.tuple xs) none (some (k : Int)) = R.ret (.tuple (xs.take k)) := by
  show R.ret (PyData.tuple (cutD xs none (some (k : Int)))) = _
  rw [cut_take]
theorem slice_from {xs : List D} {k : Nat} : sliceR (.tuple xs) (some (k : Int)) none = R.ret (.tuple (xs.drop k)) := by
  show R.ret (PyData.tuple (cutD xs (some (k : Int)) none)) = _
  rw [cut_drop]
theorem pow_nat {i : Int} {k : Nat} (h : i.natAbs < 2 ^ 64) (hk : k ≤ 1000) : powR (.int i) (.int (k : Int)) = R.ret (.int (i ^ k)) := by
  have hc : (0 : Int) ≤ (k : Int) ∧ (k : Int) ≤ 1000000 ∧ i.natAbs < 2 ^ 64 := ⟨by omega, by omega, h⟩
  simp only [powR, hc, and_self, if_true, Int.toNat_natCast]
/-- items that come to just so much -/
theorem comp_range_eq {f : D → R D} {n : Nat} {g : Nat → D} (hn : n ≤ sizeLine) (h : ∀ k : Nat, k < n → Ok (f (.int (k : Int))) fun y => y = g k) : Ok (compR (fun _ => R.ret true) f (rangeL 0 n) []) fun ys => ys = (List.range n).map g := by
  refine comp_ok (P := fun d y => ∃ k : Nat, d = .int (k : Int) ∧ y = g k) (acc := []) (fun d hd => ?_) (by rw [rangeL_length]; simpa using hn) fun ys hl hp => ?_
  · unfold rangeL at hd
    obtain ⟨k, hk, rfl⟩ := List.mem_map.mp hd
    rw [Int.zero_add]
    exact ok_mono (h k (List.mem_range.mp hk)) fun y e => ⟨k, rfl, e⟩
  · rw [List.nil_append]
    rw [rangeL_length] at hl
    apply List.ext_getElem?
    intro i
    by_cases hi : i < n
    · obtain ⟨k, e1, e2⟩ := hp i (.int (i : Int)) (ys[i]'(by omega)) (by unfold rangeL; rw [List.getElem?_map, List.getElem?_range hi, Option.map_some, Int.zero_add]) (List.getElem?_eq_getElem (by omega))
      have hk : k = i := by injection e1 with e1; omega
      subst hk
      rw [List.getElem?_eq_getElem (by omega), e2, List.getElem?_map, List.getElem?_range hi]
      rfl
    · rw [List.getElem?_eq_none (by omega), List.getElem?_eq_none (by rw [List.length_map, List.length_range]; omega)]
end Pu
/-! Pr: books and runs, no program in sight. -/
namespace Pu
open PySem R
theorem small1000' {n : Nat} (h : n ≤ 1000) : n < sizeLine := L2.small1000 h
/-- a book by places -/
structure Bk where
  n : Nat
  mm : Nat
  names : List D
  nm : Nat → Str
  tk : Nat → Nat → Int
  lo : Nat → Nat → Int
  hi : Nat → Nat → Int
namespace Bk
variable (b : Bk)
def move (i : Nat) : D := .tuple [.str (b.nm i), vec b.n (b.tk i), vec b.n (b.lo i), vec b.n (b.hi i)]
def moves : List D := (List.range b.mm).map b.move
def d : D := .tuple [.tuple b.names, .tuple b.moves]
def gain (i k : Nat) : Int := b.hi i k - b.tk i k
structure Fine (most : Int) : Prop where
  n1 : 1 ≤ b.n
  n2 : b.n ≤ 20
  m2 : b.mm ≤ 100
  nl : b.names.length = b.n
  tk0 : ∀ i k, 0 ≤ b.tk i k
  tk1 : ∀ i k, b.tk i k ≤ most
  lo0 : ∀ i k, 0 ≤ b.lo i k
  hi0 : ∀ i k, b.lo i k ≤ b.hi i k
  hi1 : ∀ i k, b.hi i k ≤ most
theorem moves_length : b.moves.length = b.mm := by unfold moves; rw [List.length_map, List.length_range]
theorem moves_get {i : Nat} (h : i < b.mm) : b.moves[i]? = some (b.move i) := by unfold moves; rw [List.getElem?_map, List.getElem?_range h]; rfl
/-- what a row of moves needs and changes -/
def need : List Nat → Nat → Int
  | [], _ => 0
  | m :: ms, k => max (b.tk m k) (need ms k - b.gain m k)
def chg : List Nat → Nat → Int
  | [], _ => 0
  | m :: ms, k => b.gain m k + chg ms k
theorem chg_append (xs ys : List Nat) (k : Nat) : b.chg (xs ++ ys) k = b.chg xs k + b.chg ys k := by
  induction xs with
  | nil => simp [chg]
  | cons m xs ih => rw [List.cons_append, chg, chg, ih]; omega
variable {b}
theorem need_nn (h : ∀ i k, 0 ≤ b.tk i k) : ∀ (ms : List Nat) (k : Nat), 0 ≤ b.need ms k
  | [], _ => Int.le_refl 0
  | m :: ms, k => by rw [need]; have := h m k; omega
theorem need_append (h : ∀ i k, 0 ≤ b.tk i k) : ∀ (xs ys : List Nat) (k : Nat), b.need (xs ++ ys) k = max (b.need xs k) (b.need ys k - b.chg xs k)
  | [], ys, k => by
    have := need_nn h ys k
    rw [List.nil_append, need, chg]
    omega
  | m :: xs, ys, k => by
    rw [List.cons_append, need, need, chg, need_append h xs ys k]
    omega
theorem chg_rep (ms : List Nat) (k : Nat) : ∀ c : Nat, b.chg (List.replicate c ms).flatten k = c * b.chg ms k
  | 0 => by simp [chg]
  | c + 1 => by
    rw [List.replicate_succ, List.flatten_cons, chg_append, chg_rep ms k c]
    rw [Int.natCast_add, Int.add_mul]
    simp only [Int.cast_ofNat_Int, Int.one_mul]
    omega
theorem need_rep (h : ∀ i k, 0 ≤ b.tk i k) (ms : List Nat) (k : Nat) : ∀ c : Nat, b.need (List.replicate (c + 1) ms).flatten k = max (b.need ms k) (b.need ms k - c * b.chg ms k)
  | 0 => by
    simp only [List.replicate_succ, List.replicate_zero, List.flatten_cons, List.flatten_nil, List.append_nil]
    rw [Int.natCast_zero, Int.zero_mul]
    omega
  | c + 1 => by
    rw [List.replicate_succ, List.flatten_cons, need_append h, need_rep h ms k c]
    have e : ((c + 1 : Nat) : Int) * b.chg ms k = c * b.chg ms k + b.chg ms k := by
      rw [Int.natCast_add, Int.add_mul]
      simp
    rw [e]
    by_cases hs : 0 ≤ b.chg ms k
    · have : 0 ≤ (c : Int) * b.chg ms k := Int.mul_nonneg (by omega) hs
      omega
    · have : (c : Int) * b.chg ms k ≤ 0 := Int.mul_nonpos_of_nonneg_of_nonpos (by omega) (by omega)
      omega
/-- step by step -/
theorem need_le {most : Int} (h : b.Fine most) (k : Nat) : ∀ (ms : List Nat) (x : Int), 0 ≤ x → (b.need ms k ≤ x ↔ ∀ i m, ms[i]? = some m → b.tk m k ≤ x + b.chg (ms.take i) k)
  | [], x, hx => by simp [need, hx]
  | m :: ms, x, hx => by
    rw [need]
    have ih : 0 ≤ x + b.gain m k → _ := need_le h k ms (x + b.gain m k)
    constructor
    · intro hh i m' e
      have h1 : b.tk m k ≤ x := by omega
      have h2 : b.need ms k ≤ x + b.gain m k := by omega
      cases i with
      | zero =>
        simp at e
        subst e
        simp [chg]
        exact h1
      | succ i =>
        have hg : 0 ≤ x + b.gain m k := by
          have := h.lo0 m k
          have := h.hi0 m k
          unfold gain
          omega
        have := (ih hg).mp h2 i m' (by simpa using e)
        rw [List.take_succ_cons, chg]
        omega
    · intro hh
      have h1 : b.tk m k ≤ x := by
        have := hh 0 m rfl
        simp [chg] at this
        exact this
      have hg : 0 ≤ x + b.gain m k := by
        have := h.lo0 m k
        have := h.hi0 m k
        unfold gain
        omega
      have h2 := (ih hg).mpr fun i m' e => by
        have := hh (i + 1) m' (by simpa using e)
        rw [List.take_succ_cons, chg] at this
        omega
      omega
theorem chg_take_succ {ms : List Nat} {i m : Nat} (h : ms[i]? = some m) (k : Nat) : b.chg (ms.take (i + 1)) k = b.chg (ms.take i) k + b.gain m k := by
  rw [List.take_add_one, h, chg_append]
  simp [chg]
end Bk
/-- a run's steps, how deep, and the moves that they are; cm: the greatest count -/
inductive RunD (mm : Nat) (cm : Int) : Nat → List D → List Nat → Prop where
  | nil {k : Nat} : RunD mm cm k [] []
  | one {k m : Nat} {ds : List D} {ms : List Nat} : m < mm → RunD mm cm k ds ms → RunD mm cm k (.tuple [.str "do", .int m] :: ds) (m :: ms)
  | rep {k c : Nat} {es ds : List D} {ns ms : List Nat} : (c : Int) + 1 ≤ cm → es ≠ [] ∧ es.length ≤ 1000 → RunD mm cm k es ns → RunD mm cm (k + 1) ds ms → RunD mm cm (k + 1) (.tuple [.str "rep", .int ((c + 1 : Nat) : Int), .tuple es] :: ds) ((List.replicate (c + 1) ns).flatten ++ ms)
theorem RunD.lt {mm : Nat} {cm : Int} {k : Nat} {ds : List D} {ms : List Nat} (h : RunD mm cm k ds ms) : ∀ m ∈ ms, m < mm := by
  induction h with
  | nil => simp
  | one h _ ih =>
    intro m hm
    rcases List.mem_cons.mp hm with rfl | hm
    · exact h
    · exact ih m hm
  | rep _ _ _ _ ih1 ih2 =>
    intro m hm
    rcases List.mem_append.mp hm with hm | hm
    · obtain ⟨l, hl, hm⟩ := List.mem_flatten.mp hm
      rw [List.mem_replicate] at hl
      rw [hl.2] at hm
      exact ih1 m hm
    · exact ih2 m hm
theorem RunD.up {mm : Nat} {cm : Int} {k : Nat} {ds : List D} {ms : List Nat} (h : RunD mm cm k ds ms) : RunD mm cm (k + 1) ds ms := by
  induction h with
  | nil => exact .nil
  | one h _ ih => exact .one h ih
  | rep h n _ _ ih1 ih2 => exact .rep h n ih1 ih2
theorem RunD.snoc1 {mm : Nat} {cm : Int} {k : Nat} {ds : List D} {ms : List Nat} (h : RunD mm cm k ds ms) {m : Nat} (hm : m < mm) : RunD mm cm k (ds ++ [.tuple [.str "do", .int m]]) (ms ++ [m]) := by
  induction h with
  | nil => exact .one hm .nil
  | one h _ ih => exact .one h ih
  | rep h n h1 _ ih1 ih2 => rw [List.cons_append, List.append_assoc]; exact .rep h n h1 ih2
theorem RunD.snocr {mm : Nat} {cm : Int} {k : Nat} {ds : List D} {ms : List Nat} (h : RunD mm cm (k + 1) ds ms) {c : Nat} {es : List D} {ns : List Nat} (hc : (c : Int) + 1 ≤ cm) (he : es ≠ [] ∧ es.length ≤ 1000) (hr : RunD mm cm k es ns) :
    RunD mm cm (k + 1) (ds ++ [.tuple [.str "rep", .int ((c + 1 : Nat) : Int), .tuple es]]) (ms ++ (List.replicate (c + 1) ns).flatten) := by
  generalize hk : k + 1 = k1 at h
  induction h with
  | nil => subst hk; have := RunD.rep hc he hr (RunD.nil (mm := mm) (cm := cm)); rw [List.append_nil] at this; exact this
  | one h _ ih => exact .one h (ih hk)
  | rep h n h1 _ ih1 ih2 =>
    rw [List.cons_append, List.append_assoc]
    exact .rep h n h1 (ih2 hk)
theorem RunD.pl {mm : Nat} {cm : Int} {k : Nat} {ds : List D} {ms : List Nat} (h : RunD mm cm k ds ms) : Pl (2 * k + 2) (.tuple ds) := by
  have key : ∀ x ∈ ds, Pl (2 * k + 1) x := by
    induction h with
    | nil => simp
    | @one k m ds ms _ _ ih =>
      intro x hx
      rcases List.mem_cons.mp hx with rfl | hx
      · show ∀ y ∈ ([PyData.str "do", PyData.int m] : List D), Pl (2 * k) y
        intro y hy
        simp only [List.mem_cons, List.not_mem_nil, or_false] at hy
        rcases hy with rfl | rfl
        · unfold Pl; decide +kernel
        · exact pl_int
      · exact ih x hx
    | @rep k c es ds ns ms _ _ h1 _ ih1 ih2 =>
      intro x hx
      rcases List.mem_cons.mp hx with rfl | hx
      · show ∀ y ∈ ([PyData.str "rep", PyData.int ((c + 1 : Nat) : Int), PyData.tuple es] : List D), Pl (2 * k + 2) y
        intro y hy
        simp only [List.mem_cons, List.not_mem_nil, or_false] at hy
        rcases hy with rfl | rfl | rfl
        · unfold Pl; decide +kernel
        · exact pl_int
        · unfold Pl; exact ih1
      · exact ih2 x hx
  unfold Pl
  exact key
/-- need by plays -/
theorem Bk.need_all {b : Bk} {most : Int} (h : b.Fine most) {ms : List Nat} {s : Nat → Int} (hs : ∀ k, k < b.n → 0 ≤ s k) {cnt : Nat} (hc : cnt ≤ ms.length) (h1 : ∀ i, i < cnt → ∀ m, ms[i]? = some m → ∀ k, k < b.n → b.tk m k ≤ s k + b.chg (ms.take i) k)
    (h2 : cnt < ms.length → ∃ m k, ms[cnt]? = some m ∧ k < b.n ∧ s k + b.chg (ms.take cnt) k < b.tk m k) : cnt = ms.length ↔ ∀ k, k < b.n → b.need ms k ≤ s k := by
  constructor
  · rintro rfl k hk
    refine (need_le h k ms (s k) (hs k hk)).mpr fun i m e => ?_
    have hi : i < ms.length := by
      by_cases hi : i < ms.length
      · exact hi
      · rw [List.getElem?_eq_none (by omega)] at e; cases e
    exact h1 i hi m e k hk
  · intro hn
    by_cases hlt : cnt < ms.length
    · obtain ⟨m, k, e, hk, hlt2⟩ := h2 hlt
      have := (need_le h k ms (s k) (hs k hk)).mp (hn k hk) cnt m e
      omega
    · omega
end Pu
/-! Pq: where a row of moves stops. -/
namespace Pu
open PySem R
namespace Bk
variable (b : Bk)
/-- the stock lets the move -/
def Lets (s : Nat → Int) (m : Nat) : Prop := ∀ k, k < b.n → b.tk m k ≤ s k
instance (s : Nat → Int) (m : Nat) : Decidable (b.Lets s m) := by unfold Lets; exact inferInstance
def stop : (Nat → Int) → List Nat → Option Nat
  | _, [] => none
  | s, m :: ms => if b.Lets s m then (stop (fun k => s k + b.gain m k) ms).map (· + 1) else some 0
variable {b}
theorem stop_cons {s : Nat → Int} {m : Nat} {ms : List Nat} : b.stop s (m :: ms) = if b.Lets s m then (b.stop (fun k => s k + b.gain m k) ms).map (· + 1) else some 0 := rfl
theorem stop_congr : ∀ (ms : List Nat) {s t : Nat → Int}, (∀ k, k < b.n → s k = t k) → b.stop s ms = b.stop t ms
  | [], _, _, _ => rfl
  | m :: ms, s, t, h => by
    have e : b.Lets s m ↔ b.Lets t m := ⟨fun z k hk => by rw [← h k hk]; exact z k hk, fun z k hk => by rw [h k hk]; exact z k hk⟩
    unfold stop
    rw [stop_congr ms (s := fun k => s k + b.gain m k) (t := fun k => t k + b.gain m k) fun k hk => by show s k + _ = t k + _; rw [h k hk]]
    by_cases z : b.Lets s m
    · rw [if_pos z, if_pos (e.mp z)]
    · rw [if_neg z, if_neg fun y => z (e.mpr y)]
theorem stop_append : ∀ (xs ys : List Nat) (s : Nat → Int), b.stop s (xs ++ ys) = match b.stop s xs with
    | some i => some i
    | none => (b.stop (fun k => s k + b.chg xs k) ys).map (· + xs.length)
  | [], ys, s => by
    show b.stop s ys = (b.stop (fun k => s k + b.chg [] k) ys).map (· + 0)
    rw [stop_congr ys (s := fun k => s k + b.chg [] k) (t := s) fun k _ => by simp [chg]]
    cases b.stop s ys <;> rfl
  | m :: xs, ys, s => by
    rw [List.cons_append, stop_cons, stop_cons]
    by_cases z : b.Lets s m
    · rw [if_pos z, if_pos z, stop_append xs ys]
      cases e : b.stop (fun k => s k + b.gain m k) xs with
      | some i => rfl
      | none =>
        show Option.map _ (Option.map _ _) = Option.map _ _
        rw [Option.map_map, stop_congr ys (s := fun k => s k + b.gain m k + b.chg xs k) (t := fun k => s k + b.chg (m :: xs) k) fun k _ => by rw [chg]; omega]
        congr 1
    · rw [if_neg z, if_neg z]
/-- a row can be played just where the stock covers its need -/
theorem stop_none {most : Int} (h : b.Fine most) : ∀ (ms : List Nat) (s : Nat → Int), (∀ k, k < b.n → 0 ≤ s k) → (b.stop s ms = none ↔ ∀ k, k < b.n → b.need ms k ≤ s k)
  | [], s, hs => by simp only [stop, need, true_iff]; exact hs
  | m :: ms, s, hs => by
    unfold stop
    by_cases z : b.Lets s m
    · rw [if_pos z, Option.map_eq_none_iff, stop_none h ms _ fun k hk => by
        have h1 := z k hk
        have h2 := h.lo0 m k
        have h3 := h.hi0 m k
        unfold gain
        omega]
      constructor
      · intro y k hk
        have h1 := z k hk
        have h2 := y k hk
        rw [need]
        omega
      · intro y k hk
        have h2 := y k hk
        rw [need] at h2
        omega
    · rw [if_neg z]
      constructor
      · intro y; cases y
      · intro y
        exact absurd (fun k hk => by have h2 := y k hk; rw [need] at h2; omega) z
theorem stop_lt : ∀ (ms : List Nat) (s : Nat → Int) (i : Nat), b.stop s ms = some i → i < ms.length
  | [], _, _, h => by cases h
  | m :: ms, s, i, h => by
    unfold stop at h
    by_cases z : b.Lets s m
    · rw [if_pos z] at h
      obtain ⟨j, hj, rfl⟩ := Option.map_eq_some_iff.mp h
      have := stop_lt ms _ j hj
      rw [List.length_cons]; omega
    · rw [if_neg z] at h
      cases h
      rw [List.length_cons]; omega
/-- the stop by places -/
theorem stop_at : ∀ (ms : List Nat) (s : Nat → Int) (cnt : Nat), cnt ≤ ms.length → (∀ i, i < cnt → ∀ m, ms[i]? = some m → ∀ k, k < b.n → b.tk m k ≤ s k + b.chg (ms.take i) k) →
    (cnt < ms.length → ∃ m k, ms[cnt]? = some m ∧ k < b.n ∧ s k + b.chg (ms.take cnt) k < b.tk m k) → b.stop s ms = if cnt = ms.length then none else some cnt
  | [], s, cnt, h, _, _ => by
    have : cnt = 0 := Nat.le_zero.mp h
    subst this
    rfl
  | m :: ms, s, 0, _, _, h2 => by
    obtain ⟨m', k, e, hk, hlt⟩ := h2 (by rw [List.length_cons]; omega)
    cases e
    rw [if_neg (by rw [List.length_cons]; omega)]
    unfold stop
    rw [if_neg fun z => by
      have := z k hk
      simp [chg] at hlt
      omega]
  | m :: ms, s, cnt + 1, hl, h1, h2 => by
    rw [List.length_cons] at hl h2
    have hm : b.Lets s m := fun k hk => by
      have := h1 0 (Nat.succ_pos _) m rfl k hk
      simp [chg] at this
      exact this
    unfold stop
    rw [if_pos hm, stop_at ms (fun k => s k + b.gain m k) cnt (by omega) (fun i hi m' e k hk => by
        have := h1 (i + 1) (by omega) m' (by simpa using e) k hk
        rw [List.take_succ_cons, chg] at this
        omega) fun hc => by
        obtain ⟨m', k, e, hk, hlt⟩ := h2 (by omega)
        refine ⟨m', k, by simpa using e, hk, ?_⟩
        rw [List.take_succ_cons, chg] at hlt
        omega]
    by_cases hc : cnt = ms.length
    · rw [if_pos hc, if_pos (by rw [List.length_cons]; omega)]; rfl
    · rw [if_neg hc, if_neg (by rw [List.length_cons]; omega)]; rfl
/-- rounds of a row -/
theorem stop_rounds {most : Int} (h : b.Fine most) {ns : List Nat} : ∀ (q : Nat) (t : Nat → Int), (∀ k, k < b.n → 0 ≤ t k) → (∀ i : Nat, i < q → ∀ k, k < b.n → b.need ns k ≤ t k + i * b.chg ns k) → b.stop t (List.replicate q ns).flatten = none
  | 0, _, _, _ => rfl
  | q + 1, t, ht, hq => by
    rw [List.replicate_succ, List.flatten_cons, stop_append]
    have h0 : b.stop t ns = none := (stop_none h ns t ht).mpr fun k hk => by
      have := hq 0 (Nat.succ_pos _) k hk
      simp at this
      exact this
    rw [h0]
    show Option.map _ _ = none
    rw [stop_rounds h q (fun k => t k + b.chg ns k) (fun k hk => ?_) fun i hi k hk => ?_]
    · rfl
    · have h1 := hq 0 (Nat.succ_pos _) k hk
      have h2 := need_chg h ns k
      simp at h1
      omega
    · have := hq (i + 1) (by omega) k hk
      rw [Int.natCast_add, Int.add_mul] at this
      simp only [Int.cast_ofNat_Int, Int.one_mul] at this
      omega
where
  need_chg {most : Int} (h : b.Fine most) : ∀ (ms : List Nat) (k : Nat), 0 ≤ b.need ms k + b.chg ms k
    | [], k => by simp [need, chg]
    | m :: ms, k => by
      have ih := need_chg h ms k
      rw [need, chg]
      have h2 := h.lo0 m k
      have h3 := h.hi0 m k
      unfold gain
      omega
theorem chg_size {most : Int} (h : b.Fine most) (h0 : 0 ≤ most) : ∀ (ms : List Nat) (k : Nat), -(most * ms.length) ≤ b.chg ms k ∧ b.chg ms k ≤ most * ms.length
  | [], k => by simp [chg]
  | m :: ms, k => by
    have ih := chg_size h h0 ms k
    have h1 := h.tk0 m k
    have h2 := h.tk1 m k
    have h3 := h.lo0 m k
    have h4 := h.hi0 m k
    have h5 := h.hi1 m k
    rw [chg, List.length_cons, Int.natCast_add, Int.mul_add]
    simp only [Int.cast_ofNat_Int, Int.mul_one]
    unfold gain
    omega
end Bk
/-- a run whose outermost counts may be great -/
inductive RunT (mm : Nat) (cm : Int) : Nat → List D → List Nat → Prop where
  | nil {k : Nat} : RunT mm cm k [] []
  | one {k m : Nat} {ds : List D} {ms : List Nat} : m < mm → RunT mm cm k ds ms → RunT mm cm k (.tuple [.str "do", .int m] :: ds) (m :: ms)
  | rep {k c : Nat} {es ds : List D} {ns ms : List Nat} : ((c : Int) + 1 < 2 ^ 64 ∨ ns.length ≤ 1000000) → ns.length < 2 ^ 150 → es ≠ [] ∧ es.length ≤ 1000 → RunD mm cm k es ns → RunT mm cm (k + 1) ds ms →
    RunT mm cm (k + 1) (.tuple [.str "rep", .int ((c + 1 : Nat) : Int), .tuple es] :: ds) ((List.replicate (c + 1) ns).flatten ++ ms)
theorem RunD.toT {mm : Nat} {cm : Int} {k : Nat} {ds : List D} {ms : List Nat} (h : RunD mm cm k ds ms) (hc : cm < 2 ^ 64) (hl : ms.length < 2 ^ 150) : RunT mm cm k ds ms := by
  induction h with
  | nil => exact .nil
  | one h _ ih => exact .one h (ih (by rw [List.length_cons] at hl; omega))
  | @rep k c es ds ns ms h1 h2 h3 _ _ ih =>
    rw [List.length_append, List.length_flatten, List.map_replicate, List.sum_replicate_nat] at hl
    have hn : ns.length ≤ (c + 1) * ns.length := Nat.le_mul_of_pos_left _ (Nat.succ_pos c)
    exact .rep (.inl (by omega)) (by omega) h2 h3 (ih (by omega))
/-- a run at a place -/
theorem RunD.at {mm : Nat} {cm : Int} : ∀ {k : Nat} {ds : List D} {ms : List Nat} {i : Nat} {d : D}, RunD mm cm k ds ms → ds[i]? = some d →
    ∃ (m1 m2 : List Nat), RunD mm cm k (ds.take i) m1 ∧ RunD mm cm k (ds.drop (i + 1)) m2 ∧
      ((∃ m, m < mm ∧ d = .tuple [.str "do", .int (m : Int)] ∧ ms = m1 ++ (m :: m2)) ∨
       ∃ (k' c : Nat) (es : List D) (ns : List Nat), k = k' + 1 ∧ (c : Int) + 1 ≤ cm ∧ (es ≠ [] ∧ es.length ≤ 1000) ∧ RunD mm cm k' es ns ∧ d = .tuple [.str "rep", .int ((c + 1 : Nat) : Int), .tuple es] ∧ ms = m1 ++ ((List.replicate (c + 1) ns).flatten ++ m2)) := by
  intro k ds ms i d h
  induction h generalizing i with
  | nil => intro e; simp at e
  | @one k m ds ms hm hr ih =>
    intro e
    cases i with
    | zero => simp at e; subst e; exact ⟨[], ms, .nil, hr, .inl ⟨m, hm, rfl, rfl⟩⟩
    | succ i =>
      obtain ⟨m1, m2, h1, h2, h3⟩ := ih (by simpa using e)
      refine ⟨m :: m1, m2, .one hm h1, h2, ?_⟩
      rcases h3 with ⟨m', a, b, e⟩ | ⟨k', c, es, ns, a1, a2, a3, a4, a5, a6⟩
      · exact .inl ⟨m', a, b, by rw [e]; rfl⟩
      · exact .inr ⟨k', c, es, ns, a1, a2, a3, a4, a5, by rw [a6]; rfl⟩
  | @rep k c es ds ns ms hc he hr1 hr2 ih1 ih2 =>
    intro e
    cases i with
    | zero => simp at e; subst e; exact ⟨[], ms, .nil, hr2, .inr ⟨k, c, es, ns, rfl, hc, he, hr1, rfl, rfl⟩⟩
    | succ i =>
      obtain ⟨m1, m2, h1, h2, h3⟩ := ih2 (by simpa using e)
      refine ⟨(List.replicate (c + 1) ns).flatten ++ m1, m2, .rep hc he hr1 h1, h2, ?_⟩
      rcases h3 with ⟨m', a, b, e⟩ | ⟨k', c', es', ns', a1, a2, a3, a4, a5, a6⟩
      · exact .inl ⟨m', a, b, by rw [e, List.append_assoc]⟩
      · exact .inr ⟨k', c', es', ns', a1, a2, a3, a4, a5, by rw [a6, List.append_assoc]⟩
theorem RunD.append {mm : Nat} {cm : Int} {k : Nat} {ds es : List D} {ms ns : List Nat} (h : RunD mm cm k ds ms) : RunD mm cm k es ns → RunD mm cm k (ds ++ es) (ms ++ ns) := by
  induction h with
  | nil => exact fun q => q
  | one h _ ih => exact fun q => .one h (ih q)
  | rep h n h1 _ _ ih2 => exact fun q => by rw [List.cons_append, List.append_assoc]; exact .rep h n h1 (ih2 q)
theorem RunT.append {mm : Nat} {cm : Int} {k : Nat} {ds es : List D} {ms ns : List Nat} (h : RunT mm cm k ds ms) : RunT mm cm k es ns → RunT mm cm k (ds ++ es) (ms ++ ns) := by
  induction h with
  | nil => exact fun q => q
  | one h _ ih => exact fun q => .one h (ih q)
  | rep h l n h1 _ ih2 => exact fun q => by rw [List.cons_append, List.append_assoc]; exact .rep h l n h1 (ih2 q)
theorem RunD.more {mm : Nat} {cm cn : Int} (hc : cm ≤ cn) {k : Nat} {ds : List D} {ms : List Nat} (h : RunD mm cm k ds ms) : RunD mm cn k ds ms := by
  induction h with
  | nil => exact .nil
  | one h _ ih => exact .one h ih
  | rep h n _ _ ih1 ih2 => exact .rep (by omega) n ih1 ih2
theorem RunD.pos {mm : Nat} {cm : Int} {k : Nat} {ds : List D} {ms : List Nat} (h : RunD mm cm k ds ms) (hd : ds ≠ []) : ms ≠ [] := by
  induction h with
  | nil => exact absurd rfl hd
  | one => simp
  | rep _ he _ _ ih1 _ =>
    have := ih1 he.1
    intro z
    have z := (List.append_eq_nil_iff.mp z).1
    rw [List.replicate_succ, List.flatten_cons] at z
    exact this (List.append_eq_nil_iff.mp z).1
theorem Bk.stop_some {b : Bk} : ∀ (ms : List Nat) (s : Nat → Int) (i : Nat), b.stop s ms = some i → b.stop s (ms.take i) = none ∧ ∃ m, ms[i]? = some m ∧ ¬ b.Lets (fun k => s k + b.chg (ms.take i) k) m
  | [], _, _, h => by cases h
  | m :: ms, s, i, h => by
    rw [stop_cons] at h
    by_cases z : b.Lets s m
    · rw [if_pos z] at h
      obtain ⟨j, hj, rfl⟩ := Option.map_eq_some_iff.mp h
      obtain ⟨h1, m', h2, h3⟩ := stop_some ms _ j hj
      refine ⟨by rw [List.take_succ_cons, stop_cons, if_pos z, h1]; rfl, m', by simpa using h2, fun y => h3 fun k hk => ?_⟩
      have this : b.tk m' k ≤ s k + b.chg ((m :: ms).take (j + 1)) k := y k hk
      rw [List.take_succ_cons, chg] at this
      show b.tk m' k ≤ s k + b.gain m k + b.chg (ms.take j) k
      omega
    · rw [if_neg z] at h
      cases h
      refine ⟨rfl, m, rfl, fun y => z fun k hk => ?_⟩
      have := y k hk
      simp [chg] at this
      exact this
/-- a repetition with no rounds is none -/
theorem RunD.rep0 {mm : Nat} {cm : Int} {k : Nat} {es : List D} {ns : List Nat} (c : Nat) (hc : (c : Int) ≤ cm) (he : es ≠ [] ∧ es.length ≤ 1000) (h : RunD mm cm k es ns) :
    RunD mm cm (k + 1) (if 0 < c then [.tuple [.str "rep", .int (c : Int), .tuple es]] else []) (List.replicate c ns).flatten := by
  cases c with
  | zero => exact .nil
  | succ c =>
    rw [if_pos (Nat.succ_pos c)]
    have := RunD.rep (c := c) (by omega) he h (RunD.nil (mm := mm) (cm := cm) (k := k + 1))
    rw [List.append_nil] at this
    exact this
end Pu
/-! Pk: constants of the module; small facts. -/
namespace Pu
open PySem PySem.Spec PyProof.Rows L2 R
section
variable {K : PySem.W.Frag} {mg : Str → Option Value} {h : Heap} {x : Str}
theorem con_mk_int (X : K.In h) (G : h.Ns mainGlobals mg) {i : Int} {t : Tok} (a : PySem.W.nsIn K mainGlobals x = some (some (.int i t))) : GCon K mg x (.int i) :=
  ⟨.int i, .int i t, PySem.W.mg_of X G a, ⟨t, rfl⟩, fun _ _ => .int i⟩
theorem con_mk_str (X : K.In h) (G : h.Ns mainGlobals mg) {i : Str} {t : Tok} (a : PySem.W.nsIn K mainGlobals x = some (some (.str i t))) : GCon K mg x (.str i) :=
  ⟨.str i, .str i t, PySem.W.mg_of X G a, ⟨t, rfl⟩, fun _ _ => .str i⟩
end
theorem cat_ok {xs ys : List D} (h : xs.length + ys.length ≤ 100000) : catR (.list xs) (.list ys) = R.ret (xs ++ ys) := by
  have hz : xs.length + ys.length ≤ sizeLine := Nat.le_trans h (by show 100000 ≤ 2 ^ 24; decide)
  simp only [catR, hz, if_true]
theorem addl_ok {xs ys : List D} (h : xs.length + ys.length ≤ 100000) : addR (.list xs) (.list ys) = R.ret (.list (xs ++ ys)) := by
  have hz : xs.length + ys.length ≤ sizeLine := Nat.le_trans h (by show 100000 ≤ 2 ^ 24; decide)
  simp only [addR, hz, if_true]
end Pu
/-! What the defs of the text compute. -/
namespace k13
open Pu PySem R
def o_plus (v_stock v_other : D) : R (Out Unit Empty Unit) := R.bind (R.bind (R.bind (R.bind (R.bind (R.bind (R.ret v_stock) fun x => lenR x) fun x => rng1R x) fun ds => compR (fun _ => R.ret true) (fun v_k => (R.bind (R.bind (R.ret v_stock) fun x => R.bind (R.ret v_k) fun y => ixR x y) fun x => R.bind (R.bind (R.ret v_other) fun x => R.bind (R.ret v_k) fun y => ixR x y) fun y => addR x y)) ds []) fun ds => R.ret (.list ds)) fun x => tupleR x) fun d => R.ret (.rt d ())
def m_plus (v_stock v_other : D) : R D := endR0 (o_plus v_stock v_other)
def o_less (v_stock v_other : D) : R (Out Unit Empty Unit) := R.bind (R.bind (R.bind (R.bind (R.bind (R.bind (R.ret v_stock) fun x => lenR x) fun x => rng1R x) fun ds => compR (fun _ => R.ret true) (fun v_k => (R.bind (R.bind (R.ret v_stock) fun x => R.bind (R.ret v_k) fun y => ixR x y) fun x => R.bind (R.bind (R.ret v_other) fun x => R.bind (R.ret v_k) fun y => ixR x y) fun y => subR x y)) ds []) fun ds => R.ret (.list ds)) fun x => tupleR x) fun d => R.ret (.rt d ())
def m_less (v_stock v_other : D) : R D := endR0 (o_less v_stock v_other)
def o_times (v_count v_stock : D) : R (Out Unit Empty Unit) := R.bind (R.bind (R.bind (R.bind (R.bind (R.ret v_stock) fun x => itemsR x) fun ds => compR (fun _ => R.ret true) (fun v_entry => (R.bind (R.ret v_count) fun x => R.bind (R.ret v_entry) fun y => mulR x y)) ds []) fun ds => R.ret (.list ds)) fun x => tupleR x) fun d => R.ret (.rt d ())
def m_times (v_count v_stock : D) : R D := endR0 (o_times v_count v_stock)
def o_greater (v_stock v_other : D) : R (Out Unit Empty Unit) := R.bind (R.bind (R.bind (R.bind (R.bind (R.bind (R.ret v_stock) fun x => lenR x) fun x => rng1R x) fun ds => compR (fun _ => R.ret true) (fun v_k => (R.bind (R.bind (R.ret v_stock) fun x => R.bind (R.ret v_k) fun y => ixR x y) fun x => R.bind (R.bind (R.ret v_other) fun x => R.bind (R.ret v_k) fun y => ixR x y) fun y => maxR x y)) ds []) fun ds => R.ret (.list ds)) fun x => tupleR x) fun d => R.ret (.rt d ())
def m_greater (v_stock v_other : D) : R D := endR0 (o_greater v_stock v_other)
def o_covers (v_stock v_other : D) : R (Out Unit Empty Unit) := R.bind (R.bind (R.bind (R.ret v_stock) fun x => lenR x) fun x => rng1R x) fun ds => seqR (S := Unit) (forR (fun v_k (s1 : Unit) => R.bind (R.bind (R.bind (R.bind (R.ret v_stock) fun x => R.bind (R.ret v_k) fun y => ixR x y) fun x => R.bind (R.bind (R.ret (.int 1)) fun x => negR x) fun y => R.bind (neR x y) boolR) fun x => if x = true then (R.bind (R.bind (R.bind (R.ret v_other) fun x => R.bind (R.ret v_k) fun y => ixR x y) fun x => R.bind (R.bind (R.ret (.int 1)) fun x => negR x) fun y => R.bind (eqR x y) boolR) fun x => if x = true then R.ret true else (R.bind (R.bind (R.ret v_stock) fun x => R.bind (R.ret v_k) fun y => ixR x y) fun x => R.bind (R.bind (R.ret v_other) fun x => R.bind (R.ret v_k) fun y => ixR x y) fun y => R.bind (ltR x y) boolR)) else R.ret false) fun b => if b = true then (R.bind (R.ret (.bool false)) fun d => R.ret (.rt d ())) else (R.ret (.nx ()))) ds ()) fun s1 => R.bind (R.ret (.bool true)) fun d => R.ret (.rt d ())
def m_covers (v_stock v_other : D) : R D := endR0 (o_covers v_stock v_other)
def o_can_do (v_book v_stock v_m : D) : R (Out Unit Empty Unit) := R.bind (R.bind (R.ret v_stock) fun x => R.bind (R.bind (R.bind (R.bind (R.ret v_book) fun x => R.bind (R.ret (.int 1)) fun y => ixR x y) fun x => R.bind (R.ret v_m) fun y => ixR x y) fun x => R.bind (R.ret (.int 1)) fun y => ixR x y) fun y => m_covers x y) fun d => R.ret (.rt d ())
def m_can_do (v_book v_stock v_m : D) : R D := endR0 (o_can_do v_book v_stock v_m)
def o_done (v_book v_stock v_m : D) : R (Out Unit Empty Unit) := R.bind (R.bind (R.bind (R.ret v_stock) fun x => R.bind (R.bind (R.bind (R.bind (R.ret v_book) fun x => R.bind (R.ret (.int 1)) fun y => ixR x y) fun x => R.bind (R.ret v_m) fun y => ixR x y) fun x => R.bind (R.ret (.int 1)) fun y => ixR x y) fun y => m_less x y) fun x => R.bind (R.bind (R.bind (R.bind (R.ret v_book) fun x => R.bind (R.ret (.int 1)) fun y => ixR x y) fun x => R.bind (R.ret v_m) fun y => ixR x y) fun x => R.bind (R.ret (.int 3)) fun y => ixR x y) fun y => m_plus x y) fun d => R.ret (.rt d ())
def m_done (v_book v_stock v_m : D) : R D := endR0 (o_done v_book v_stock v_m)
def o_need_and_change (rec : D → D → R D) (v_book v_run : D) : R (Out Unit Empty Unit) := R.bind (R.bind (R.bind (R.ret (.int 0)) fun x => R.ret (.tuple [x])) fun x => R.bind (R.bind (R.bind (R.ret v_book) fun x => R.bind (R.ret (.int 0)) fun y => ixR x y) fun x => lenR x) fun y => mulR x y) fun v_zero => R.bind (R.ret v_zero) fun v_needed => R.bind (R.ret v_zero) fun v_changed => R.bind (R.bind (R.ret v_run) fun x => itemsR x) fun ds => seqR (S := D × D) (forR (fun v_step (s1 : D × D) => R.bind (R.bind (R.bind (R.ret v_step) fun x => R.bind (R.ret (.int 0)) fun y => ixR x y) fun x => R.bind (R.ret (.str "do")) fun y => R.bind (eqR x y) boolR) fun b => seqR (S := D × D) (if b = true then (R.bind (R.bind (R.bind (R.bind (R.ret v_book) fun x => R.bind (R.ret (.int 1)) fun y => ixR x y) fun x => R.bind (R.bind (R.ret v_step) fun x => R.bind (R.ret (.int 1)) fun y => ixR x y) fun y => ixR x y) fun x => R.bind (R.ret (.int 1)) fun y => ixR x y) fun v_take => R.bind (R.ret v_take) fun v_step_need => R.bind (R.bind (R.bind (R.bind (R.bind (R.ret v_book) fun x => R.bind (R.ret (.int 1)) fun y => ixR x y) fun x => R.bind (R.bind (R.ret v_step) fun x => R.bind (R.ret (.int 1)) fun y => ixR x y) fun y => ixR x y) fun x => R.bind (R.ret (.int 3)) fun y => ixR x y) fun x => R.bind (R.ret v_take) fun y => m_less x y) fun v_step_change => R.ret (.nx (v_step_need, v_step_change))) else (R.bind (R.bind (R.ret v_book) fun x => R.bind (R.bind (R.ret v_step) fun x => R.bind (R.ret (.int 2)) fun y => ixR x y) fun y => rec x y) fun d => unp2 d fun v_once v_inner => R.bind (R.bind (R.ret v_once) fun x => R.bind (R.bind (R.ret v_once) fun x => R.bind (R.bind (R.bind (R.bind (R.ret v_step) fun x => R.bind (R.ret (.int 1)) fun y => ixR x y) fun x => R.bind (R.ret (.int 1)) fun y => subR x y) fun x => R.bind (R.ret v_inner) fun y => m_times x y) fun y => m_less x y) fun y => m_greater x y) fun v_step_need => R.bind (R.bind (R.bind (R.ret v_step) fun x => R.bind (R.ret (.int 1)) fun y => ixR x y) fun x => R.bind (R.ret v_inner) fun y => m_times x y) fun v_step_change => R.ret (.nx (v_step_need, v_step_change)))) fun s2 => R.bind (R.bind (R.ret s1.1) fun x => R.bind (R.bind (R.ret s2.1) fun x => R.bind (R.ret s1.2) fun y => m_less x y) fun y => m_greater x y) fun v_needed => R.bind (R.bind (R.ret s1.2) fun x => R.bind (R.ret s2.2) fun y => m_plus x y) fun v_changed => R.ret (.nx (v_needed, v_changed))) ds (v_needed, v_changed)) fun s1 => R.bind (R.bind (R.ret s1.1) fun x => R.bind (R.ret s1.2) fun y => R.ret (.tuple [x, y])) fun d => R.ret (.rt d ())
def m_need_and_change : Nat → D → D → R D
  | 0 => fun _ _ => bad
  | n + 1 => fun v_book v_run => endR0 (o_need_and_change (m_need_and_change n) v_book v_run)
def o_need (v_book v_run : D) : R (Out Unit Empty Unit) := R.bind (R.bind (R.bind (R.ret v_book) fun x => R.bind (R.ret v_run) fun y => m_need_and_change 8 x y) fun x => R.bind (R.ret (.int 0)) fun y => ixR x y) fun d => R.ret (.rt d ())
def m_need (v_book v_run : D) : R D := endR0 (o_need v_book v_run)
def o_change (v_book v_run : D) : R (Out Unit Empty Unit) := R.bind (R.bind (R.bind (R.ret v_book) fun x => R.bind (R.ret v_run) fun y => m_need_and_change 8 x y) fun x => R.bind (R.ret (.int 1)) fun y => ixR x y) fun d => R.ret (.rt d ())
def m_change (v_book v_run : D) : R D := endR0 (o_change v_book v_run)
def o_length (rec : D → R D) (v_run : D) : R (Out Unit Empty Unit) := R.bind (R.bind (R.bind (R.bind (R.bind (R.ret v_run) fun x => itemsR x) fun ds => compR (fun _ => R.ret true) (fun v_step => (R.bind (R.bind (R.bind (R.ret v_step) fun x => R.bind (R.ret (.int 0)) fun y => ixR x y) fun x => R.bind (R.ret (.str "do")) fun y => R.bind (eqR x y) boolR) fun x => if x = true then (R.ret (.int 1)) else (R.bind (R.bind (R.ret v_step) fun x => R.bind (R.ret (.int 1)) fun y => ixR x y) fun x => R.bind (R.bind (R.bind (R.ret v_step) fun x => R.bind (R.ret (.int 2)) fun y => ixR x y) fun x => rec x) fun y => mulR x y))) ds []) fun ds => R.ret (.list ds)) fun x => sumR x) fun d => R.ret (.rt d ())
def m_length : Nat → D → R D
  | 0 => fun _ => bad
  | n + 1 => fun v_run => endR0 (o_length (m_length n) v_run)
def o_end_of_run (v_book v_stock v_run : D) : R (Out Unit Empty Unit) := R.bind (R.bind (R.ret v_book) fun x => R.bind (R.ret v_run) fun y => m_need_and_change 8 x y) fun d => unp2 d fun v_needed v_changed => R.bind (R.bind (R.bind (R.bind (R.ret v_stock) fun x => R.bind (R.ret v_needed) fun y => m_covers x y) fun x => boolR x) fun b => R.ret (!b)) fun b => if b = true then up (R.bind (R.ret .none) fun d => R.ret (.rt d ())) else (R.bind (R.bind (R.ret v_stock) fun x => R.bind (R.ret v_changed) fun y => m_plus x y) fun d => R.ret (.rt d ()))
def m_end_of_run (v_book v_stock v_run : D) : R D := endR0 (o_end_of_run v_book v_stock v_run)
def o_rounds (v_stock v_needed v_changed v_most : D) : R (Out Unit Empty Unit) := R.bind (R.ret v_most) fun v_count => R.bind (R.bind (R.bind (R.ret v_stock) fun x => lenR x) fun x => rng1R x) fun ds => seqR (S := D) (forR (fun v_k (s1 : D) => R.bind (R.bind (R.bind (R.ret v_stock) fun x => R.bind (R.ret v_k) fun y => ixR x y) fun x => R.bind (R.bind (R.ret v_needed) fun x => R.bind (R.ret v_k) fun y => ixR x y) fun y => R.bind (ltR x y) boolR) fun b => if b = true then up (R.bind (R.ret (.int 0)) fun d => R.ret (.rt d ())) else (R.bind (R.bind (R.bind (R.ret v_changed) fun x => R.bind (R.ret v_k) fun y => ixR x y) fun x => R.bind (R.ret (.int 0)) fun y => R.bind (ltR x y) boolR) fun b => if b = true then (R.bind (R.bind (R.ret s1) fun x => R.bind (R.bind (R.bind (R.bind (R.bind (R.ret v_stock) fun x => R.bind (R.ret v_k) fun y => ixR x y) fun x => R.bind (R.bind (R.ret v_needed) fun x => R.bind (R.ret v_k) fun y => ixR x y) fun y => subR x y) fun x => R.bind (R.bind (R.bind (R.ret v_changed) fun x => R.bind (R.ret v_k) fun y => ixR x y) fun x => negR x) fun y => fdivR x y) fun x => R.bind (R.ret (.int 1)) fun y => addR x y) fun y => minR x y) fun v_count => R.ret (.nx v_count)) else (R.ret (.nx s1)))) ds v_count) fun s1 => R.bind (R.ret s1) fun d => R.ret (.rt d ())
def m_rounds (v_stock v_needed v_changed v_most : D) : R D := endR0 (o_rounds v_stock v_needed v_changed v_most)
def o_stops_at (rec : D → D → D → R D) (v_book v_stock v_run : D) : R (Out Unit Empty Unit) := R.bind (R.ret (.int 0)) fun v_moves => R.bind (R.bind (R.ret v_run) fun x => itemsR x) fun ds => seqR (S := D × D) (forR (fun v_step (s1 : D × D) => R.bind (R.bind (R.bind (R.ret v_step) fun x => R.bind (R.ret (.int 0)) fun y => ixR x y) fun x => R.bind (R.ret (.str "do")) fun y => R.bind (eqR x y) boolR) fun b => if b = true then (R.bind (R.bind (R.bind (R.bind (R.ret v_book) fun x => R.bind (R.ret s1.1) fun y => R.bind (R.bind (R.ret v_step) fun x => R.bind (R.ret (.int 1)) fun y => ixR x y) fun z => m_can_do x y z) fun x => boolR x) fun b => R.ret (!b)) fun b => if b = true then up (R.bind (R.ret s1.2) fun d => R.ret (.rt d ())) else (R.bind (R.bind (R.ret v_book) fun x => R.bind (R.ret s1.1) fun y => R.bind (R.bind (R.ret v_step) fun x => R.bind (R.ret (.int 1)) fun y => ixR x y) fun z => m_done x y z) fun v_stock => R.bind (R.ret (.int 1)) fun y => R.bind (iaddR s1.2 y) fun v_moves => R.ret (.nx (v_stock, v_moves)))) else (R.bind (R.bind (R.ret v_book) fun x => R.bind (R.bind (R.ret v_step) fun x => R.bind (R.ret (.int 2)) fun y => ixR x y) fun y => m_need_and_change 8 x y) fun d => unp2 d fun v_needed v_changed => R.bind (R.bind (R.ret s1.1) fun x => R.bind (R.ret v_needed) fun y => R.bind (R.ret v_changed) fun z => R.bind (R.bind (R.ret v_step) fun x => R.bind (R.ret (.int 1)) fun y => ixR x y) fun w => m_rounds x y z w) fun v_count => R.bind (R.bind (R.ret s1.1) fun x => R.bind (R.bind (R.ret v_count) fun x => R.bind (R.ret v_changed) fun y => m_times x y) fun y => m_plus x y) fun v_stock => R.bind (R.bind (R.ret v_count) fun x => R.bind (R.bind (R.bind (R.ret v_step) fun x => R.bind (R.ret (.int 2)) fun y => ixR x y) fun x => m_length 8 x) fun y => mulR x y) fun y => R.bind (iaddR s1.2 y) fun v_moves => R.bind (R.bind (R.ret v_count) fun x => R.bind (R.bind (R.ret v_step) fun x => R.bind (R.ret (.int 1)) fun y => ixR x y) fun y => R.bind (ltR x y) boolR) fun b => if b = true then (R.bind (R.bind (R.ret v_moves) fun x => R.bind (R.bind (R.ret v_book) fun x => R.bind (R.ret v_stock) fun y => R.bind (R.bind (R.ret v_step) fun x => R.bind (R.ret (.int 2)) fun y => ixR x y) fun z => rec x y z) fun y => addR x y) fun d => R.ret (.rt d ())) else (R.ret (.nx (v_stock, v_moves))))) ds (v_stock, v_moves)) fun s1 => R.bind (R.ret .none) fun d => R.ret (.rt d ())
def m_stops_at : Nat → D → D → D → R D
  | 0 => fun _ _ _ => bad
  | n + 1 => fun v_book v_stock v_run => endR0 (o_stops_at (m_stops_at n) v_book v_stock v_run)
def o_is_number (v_value v_least v_most : D) : R (Out Unit Empty Unit) := R.bind (R.bind (R.bind (R.bind (R.bind (R.ret v_value) fun x => isiR "int" x) fun x => boolR x) fun b => R.ret (!b)) fun x => if x = true then R.ret true else (R.bind (R.bind (R.bind (R.ret v_value) fun x => isiR "bool" x) fun x => boolR x) fun x => if x = true then R.ret true else (R.bind (R.ret v_value) fun x => R.bind (R.ret v_least) fun y => R.bind (ltR x y) boolR))) fun b => if b = true then up (R.bind (R.ret (.bool false)) fun d => R.ret (.rt d ())) else (R.bind (R.bind (R.bind (R.ret v_most) fun x => R.bind (R.ret .none) fun y => isR x y) fun x => R.bind (boolR x) fun x => if x = true then R.ret (.bool true) else (R.bind (R.ret v_value) fun x => R.bind (R.ret v_most) fun y => leR x y)) fun d => R.ret (.rt d ()))
def m_is_number (v_value v_least v_most : D) : R D := endR0 (o_is_number v_value v_least v_most)
def o_is_step (rec : D → D → D → R D) (v_book v_value v_nested : D) : R (Out Unit Empty Unit) := R.bind (R.bind (R.bind (R.bind (R.bind (R.ret v_value) fun x => isiR "tuple" x) fun x => boolR x) fun b => R.ret (!b)) fun x => if x = true then R.ret true else (R.bind (R.bind (R.bind (R.ret v_value) fun x => lenR x) fun x => R.bind (R.ret (.int 0)) fun y => R.bind (eqR x y) boolR) fun x => if x = true then R.ret true else (R.bind (R.bind (R.bind (R.bind (R.ret v_value) fun x => R.bind (R.ret (.int 0)) fun y => ixR x y) fun x => isiR "str" x) fun x => boolR x) fun b => R.ret (!b)))) fun b => if b = true then up (R.bind (R.ret (.bool false)) fun d => R.ret (.rt d ())) else (R.bind (R.bind (R.bind (R.bind (R.ret v_value) fun x => R.bind (R.ret (.int 0)) fun y => ixR x y) fun x => R.bind (R.ret (.str "do")) fun y => R.bind (eqR x y) boolR) fun x => if x = true then (R.bind (R.bind (R.ret v_value) fun x => lenR x) fun x => R.bind (R.ret (.int 2)) fun y => R.bind (eqR x y) boolR) else R.ret false) fun b => if b = true then up (R.bind (R.bind (R.bind (R.ret v_value) fun x => R.bind (R.ret (.int 1)) fun y => ixR x y) fun x => R.bind (R.ret (.int 0)) fun y => R.bind (R.bind (R.bind (R.bind (R.ret v_book) fun x => R.bind (R.ret (.int 1)) fun y => ixR x y) fun x => lenR x) fun x => R.bind (R.ret (.int 1)) fun y => subR x y) fun z => m_is_number x y z) fun d => R.ret (.rt d ())) else (R.bind (R.bind (R.bind (R.bind (R.ret v_value) fun x => R.bind (R.ret (.int 0)) fun y => ixR x y) fun x => R.bind (R.ret (.str "rep")) fun y => R.bind (neR x y) boolR) fun x => if x = true then R.ret true else (R.bind (R.bind (R.bind (R.ret v_value) fun x => lenR x) fun x => R.bind (R.ret (.int 3)) fun y => R.bind (neR x y) boolR) fun x => if x = true then R.ret true else (R.bind (R.bind (R.bind (R.bind (R.ret v_value) fun x => R.bind (R.ret (.int 1)) fun y => ixR x y) fun x => R.bind (R.ret (.int 1)) fun y => R.bind (R.ret .none) fun z => m_is_number x y z) fun x => boolR x) fun b => R.ret (!b)))) fun b => if b = true then up (R.bind (R.ret (.bool false)) fun d => R.ret (.rt d ())) else (R.bind (R.bind (R.bind (R.ret v_nested) fun x => R.bind (R.ret (.int 1)) fun y => gtR x y) fun x => R.bind (boolR x) fun x => if x = true then (R.bind (R.bind (R.bind (R.ret v_value) fun x => R.bind (R.ret (.int 2)) fun y => ixR x y) fun x => R.bind (R.ret (.tuple [])) fun y => neR x y) fun x => R.bind (boolR x) fun x => if x = true then (R.bind (R.ret v_book) fun x => R.bind (R.bind (R.ret v_value) fun x => R.bind (R.ret (.int 2)) fun y => ixR x y) fun y => R.bind (R.bind (R.ret v_nested) fun x => R.bind (R.ret (.int 1)) fun y => subR x y) fun z => rec x y z) else R.ret (.bool false)) else R.ret (.bool false)) fun d => R.ret (.rt d ()))))
def m_is_step (rec : D → D → D → R D) (v_book v_value v_nested : D) : R D := endR0 (o_is_step rec v_book v_value v_nested)
def o_are_steps (rec : D → D → D → R D) (v_book v_value v_nested : D) : R (Out Unit Empty Unit) := R.bind (R.bind (R.bind (R.bind (R.ret v_value) fun x => isiR "tuple" x) fun x => boolR x) fun b => R.ret (!b)) fun b => if b = true then up (R.bind (R.ret (.bool false)) fun d => R.ret (.rt d ())) else (R.bind (R.bind (R.bind (R.bind (R.bind (R.ret v_value) fun x => itemsR x) fun ds => compR (fun _ => R.ret true) (fun v_step => (R.bind (R.ret v_book) fun x => R.bind (R.ret v_step) fun y => R.bind (R.ret v_nested) fun z => m_is_step rec x y z)) ds []) fun ds => R.ret (.list ds)) fun x => allR x) fun d => R.ret (.rt d ()))
def m_are_steps : Nat → D → D → D → R D
  | 0 => fun _ _ _ => bad
  | n + 1 => fun v_book v_value v_nested => endR0 (o_are_steps (m_are_steps n) v_book v_value v_nested)
def o_is_run (v_book v_value : D) : R (Out Unit Empty Unit) := R.bind (R.bind (R.ret v_book) fun x => R.bind (R.ret v_value) fun y => R.bind (R.ret (.int 30)) fun z => m_are_steps 10 x y z) fun d => R.ret (.rt d ())
def m_is_run (v_book v_value : D) : R D := endR0 (o_is_run v_book v_value)
def o_law_mix (v_law_first v_law_second : D) : R (Out Unit Empty Unit) := R.bind (R.bind (R.bind (R.bind (R.bind (R.bind (R.ret v_law_first) fun x => R.bind (R.ret (.int 48271)) fun y => mulR x y) fun x => R.bind (R.bind (R.ret v_law_second) fun x => R.bind (R.ret (.int 69621)) fun y => mulR x y) fun y => addR x y) fun x => R.bind (R.ret (.int 12345)) fun y => addR x y) fun x => intR x) fun x => R.bind (R.ret (.int 2147483647)) fun y => modR x y) fun v_law_value => R.bind (R.bind (R.bind (R.bind (R.bind (R.bind (R.ret v_law_value) fun x => R.bind (R.ret (.int 40692)) fun y => mulR x y) fun x => R.bind (R.bind (R.ret v_law_second) fun x => R.bind (R.ret (.int 7919)) fun y => mulR x y) fun y => addR x y) fun x => R.bind (R.ret (.int 1)) fun y => addR x y) fun x => intR x) fun x => R.bind (R.ret (.int 2147483399)) fun y => modR x y) fun d => R.ret (.rt d ())
def m_law_mix (v_law_first v_law_second : D) : R D := endR0 (o_law_mix v_law_first v_law_second)
def o_law_numbers (v_law_script : List D) (v_law_count : D) : R (Out Unit Empty Unit) := R.bind (R.ret []) fun v_law_found => R.bind (R.bind (R.ret (.int v_law_script.length)) fun x => R.bind (R.ret (.int 1)) fun y => addR x y) fun v_law_total => R.bind (R.bind (R.bind (R.ret none) fun l => R.bind (R.bind (R.ret (.int 63)) fun x => partR x) fun h => R.ret (.list (cutD v_law_script l h))) fun x => itemsR x) fun ds => seqR (S := (List D) × D) (forR (fun v_law_cell (s1 : (List D) × D) => R.bind (R.bind (R.ret v_law_cell) fun x => absR x) fun v_law_number => R.bind (R.bind (R.ret s1.2) fun x => R.bind (R.bind (R.bind (R.ret v_law_number) fun x => intR x) fun x => R.bind (R.ret (.int 2147483647)) fun y => modR x y) fun y => m_law_mix x y) fun v_law_total => R.bind (R.bind (R.ret v_law_number) fun x => R.bind (R.bind (R.ret (.int 10)) fun x => R.bind (R.ret (.int 18)) fun y => powR x y) fun y => R.bind (geR x y) boolR) fun b => if b = true then (R.bind (R.bind (R.ret (.int 60)) fun x => rng1R x) fun ds => seqR (S := (List D) × D) (forR (fun v_law_k (s2 : (List D) × D) => R.bind (R.bind (R.ret s2.2) fun x => R.bind (R.ret (.int 0)) fun y => R.bind (gtR x y) boolR) fun b => if b = true then (R.bind (R.bind (R.bind (R.ret s2.2) fun x => intR x) fun x => R.bind (R.ret (.int 1000)) fun y => modR x y) fun d => R.bind (appR s2.1 d) fun v_law_found => R.bind (R.bind (R.ret s2.2) fun x => R.bind (R.ret (.int 1000)) fun y => fdivR x y) fun v_law_number => R.ret (.nx (v_law_found, v_law_number))) else (R.ret (.nx (s2.1, s2.2)))) ds (s1.1, v_law_number)) fun s2 => R.ret (.nx (s2.1, v_law_total))) else (R.bind (R.bind (R.ret (.int 6)) fun x => rng1R x) fun ds => seqR (S := List D) (forR (fun v_law_k (s3 : List D) => R.bind (R.bind (R.bind (R.bind (R.ret v_law_number) fun x => R.bind (R.bind (R.ret v_law_k) fun x => R.bind (R.ret (.int 1)) fun y => addR x y) fun y => m_law_mix x y) fun x => intR x) fun x => R.bind (R.ret (.int 1000)) fun y => modR x y) fun d => R.bind (appR s3 d) fun v_law_found => R.ret (.nx v_law_found)) ds s1.1) fun s3 => R.ret (.nx (s3, v_law_total)))) ds (v_law_found, v_law_total)) fun s1 => R.bind (R.bind (R.ret v_law_count) fun x => rng1R x) fun ds => seqR (S := (List D) × D) (forR (fun v_law_k (s4 : (List D) × D) => R.bind (R.bind (R.bind (R.ret (.list s4.1)) fun x => lenR x) fun x => R.bind (R.ret v_law_count) fun y => R.bind (ltR x y) boolR) fun b => if b = true then (R.bind (R.bind (R.ret s4.2) fun x => R.bind (R.bind (R.ret v_law_k) fun x => R.bind (R.ret (.int 3)) fun y => addR x y) fun y => m_law_mix x y) fun v_law_total => R.bind (R.bind (R.bind (R.ret v_law_total) fun x => intR x) fun x => R.bind (R.ret (.int 1000)) fun y => modR x y) fun d => R.bind (appR s4.1 d) fun v_law_found => R.ret (.nx (v_law_found, v_law_total))) else (R.ret (.nx (s4.1, s4.2)))) ds (s1.1, s1.2)) fun s4 => R.bind (R.bind (R.ret (.list s4.1)) fun x => R.bind (R.ret none) fun l => R.bind (R.bind (R.ret v_law_count) fun x => partR x) fun h => sliceR x l h) fun d => R.ret (.rt d ())
def m_law_numbers (d e : D) : R D := match d with
  | .list ds => endR0 (o_law_numbers ds e)
  | _ => bad
def o_law_named : R (Out Unit Empty Unit) := R.bind (R.ret (.str "abcdefghijklmnopqrstuvwxyz")) fun v_law_small => R.bind (R.ret []) fun v_law_names => R.bind (R.bind (R.ret (.int 14)) fun x => rng1R x) fun ds => seqR (S := List D) (forR (fun v_law_k (s1 : List D) => R.bind (R.bind (R.bind (R.bind (R.ret (.int 0)) fun x => R.bind (R.ret (.int 0)) fun y => R.bind (R.ret (.int 1)) fun z => R.bind (R.ret (.int 2)) fun w => R.bind (R.ret (.int 9)) fun u => R.ret [x, y, z, w, u]) fun ds => R.ret (.list ds)) fun x => R.bind (R.bind (R.ret (.int 5)) fun x => drawR x) fun y => ixR x y) fun v_law_size => R.bind (R.bind (R.ret (.str "")) fun x => R.bind (strR x) fun x => R.bind (R.bind (R.bind (R.bind (R.ret v_law_size) fun x => rng1R x) fun ds => compR (fun _ => R.ret true) (fun v_law_n => (R.bind (R.bind (R.ret v_law_small) fun x => R.bind (R.ret (.str "0123456789")) fun y => addR x y) fun x => R.bind (R.bind (R.ret (.int 36)) fun x => drawR x) fun y => ixR x y)) ds []) fun ds => R.ret (.list ds)) fun y => joinR x y) fun v_law_rest => R.bind (R.bind (R.bind (R.bind (R.ret v_law_small) fun x => R.bind (R.bind (R.ret (.int 26)) fun x => drawR x) fun y => ixR x y) fun x => R.bind (R.ret v_law_rest) fun y => addR x y) fun x => R.bind (R.bind (R.ret (.str "abcdefghijklmn")) fun x => R.bind (R.ret v_law_k) fun y => ixR x y) fun y => addR x y) fun d => R.bind (appR s1 d) fun v_law_names => R.ret (.nx v_law_names)) ds v_law_names) fun s1 => R.ret (.rt (.list s1) ())
def m_law_named : R D := endR0 (o_law_named )
def o_law_stock (v_law_n v_law_most : D) : R (Out Unit Empty Unit) := R.bind (R.ret []) fun v_law_entries => R.bind (R.bind (R.ret v_law_n) fun x => rng1R x) fun ds => seqR (S := List D) (forR (fun v_law_k (s1 : List D) => R.bind (R.bind (R.bind (R.bind (R.ret (.int 0)) fun x => R.bind (R.ret (.int 0)) fun y => R.bind (R.ret (.int 1)) fun z => R.bind (R.ret (.int 2)) fun w => R.bind (R.bind (R.bind (R.ret v_law_most) fun x => R.bind (R.ret (.int 1)) fun y => addR x y) fun x => drawR x) fun u => R.bind (R.ret v_law_most) fun v => R.ret [x, y, z, w, u, v]) fun ds => R.ret (.list ds)) fun x => R.bind (R.bind (R.ret (.int 6)) fun x => drawR x) fun y => ixR x y) fun d => R.bind (appR s1 d) fun v_law_entries => R.ret (.nx v_law_entries)) ds v_law_entries) fun s1 => R.bind (R.bind (R.bind (R.bind (R.bind (R.ret (.list s1)) fun x => itemsR x) fun ds => compR (fun _ => R.ret true) (fun v_law_entry => (R.bind (R.ret v_law_most) fun x => R.bind (R.ret v_law_entry) fun y => minR x y)) ds []) fun ds => R.ret (.list ds)) fun x => tupleR x) fun d => R.ret (.rt d ())
def m_law_stock (v_law_n v_law_most : D) : R D := endR0 (o_law_stock v_law_n v_law_most)
def o_law_book (v_law_most : D) : R (Out Unit Empty Unit) := R.bind (m_law_named) fun v_law_names => R.bind (R.bind (R.ret (.int 1)) fun x => R.bind (R.bind (R.ret (.int 6)) fun x => drawR x) fun y => addR x y) fun v_law_n => R.bind (R.ret []) fun v_law_moves => R.bind (R.bind (R.bind (R.ret (.int 9)) fun x => drawR x) fun x => rng1R x) fun ds => seqR (S := List D) (forR (fun v_law_k (s1 : List D) => R.bind (R.bind (R.ret v_law_n) fun x => R.bind (R.ret v_law_most) fun y => m_law_stock x y) fun v_law_take_here => R.bind (R.bind (R.ret v_law_n) fun x => R.bind (R.ret v_law_most) fun y => m_law_stock x y) fun v_law_high => R.bind (R.ret v_law_high) fun v_law_low => R.bind (R.bind (R.bind (R.ret (.int 3)) fun x => drawR x) fun x => R.bind (R.ret (.int 0)) fun y => R.bind (eqR x y) boolR) fun b => seqR (S := D) (if b = true then (R.bind (R.bind (R.bind (R.bind (R.bind (R.ret v_law_high) fun x => itemsR x) fun ds => compR (fun _ => R.ret true) (fun v_law_entry => (R.bind (R.bind (R.ret v_law_entry) fun x => R.bind (R.ret (.int 1)) fun y => addR x y) fun x => drawR x)) ds []) fun ds => R.ret (.list ds)) fun x => tupleR x) fun v_law_low => R.ret (.nx v_law_low)) else (R.ret (.nx v_law_low))) fun s2 => R.bind (R.bind (R.bind (R.ret v_law_names) fun x => R.bind (R.bind (R.ret (.int 6)) fun x => R.bind (R.ret v_law_k) fun y => addR x y) fun y => ixR x y) fun x => R.bind (R.ret v_law_take_here) fun y => R.bind (R.ret s2) fun z => R.bind (R.ret v_law_high) fun w => R.ret (.tuple [x, y, z, w])) fun d => R.bind (appR s1 d) fun v_law_moves => R.ret (.nx v_law_moves)) ds v_law_moves) fun s1 => R.bind (R.bind (R.bind (R.bind (R.ret v_law_names) fun x => R.bind (R.ret none) fun l => R.bind (R.bind (R.ret v_law_n) fun x => partR x) fun h => sliceR x l h) fun x => tupleR x) fun x => R.bind (R.bind (R.ret (.list s1)) fun x => tupleR x) fun y => R.ret (.tuple [x, y])) fun d => R.ret (.rt d ())
def m_law_book (v_law_most : D) : R D := endR0 (o_law_book v_law_most)
def o_law_run (rec : D → D → D → R D) (v_law_moves v_law_depth v_law_times : D) : R (Out Unit Empty Unit) := R.bind (R.ret []) fun v_law_steps => R.bind (R.bind (R.bind (R.ret (.int 4)) fun x => drawR x) fun x => rng1R x) fun ds => seqR (S := List D) (forR (fun v_law_k (s1 : List D) => R.bind (R.bind (R.ret v_law_moves) fun x => R.bind (R.ret (.int 0)) fun y => R.bind (eqR x y) boolR) fun b => if b = true then up (R.bind (R.ret (.tuple [])) fun d => R.ret (.rt d ())) else (R.bind (R.ret (.tuple [])) fun v_law_inner => R.bind (R.bind (R.bind (R.ret v_law_depth) fun x => R.bind (R.ret (.int 0)) fun y => R.bind (gtR x y) boolR) fun x => if x = true then (R.bind (R.bind (R.ret (.int 3)) fun x => drawR x) fun x => R.bind (R.ret (.int 0)) fun y => R.bind (eqR x y) boolR) else R.ret false) fun b => seqR (S := D) (if b = true then (R.bind (R.bind (R.ret v_law_moves) fun x => R.bind (R.bind (R.ret v_law_depth) fun x => R.bind (R.ret (.int 1)) fun y => subR x y) fun y => R.bind (R.ret v_law_times) fun z => rec x y z) fun v_law_inner => R.ret (.nx v_law_inner)) else (R.ret (.nx v_law_inner))) fun s2 => R.bind (R.bind (R.ret s2) fun x => R.bind (R.ret (.tuple [])) fun y => R.bind (eqR x y) boolR) fun b => if b = true then (R.bind (R.bind (R.ret (.str "do")) fun x => R.bind (R.bind (R.ret v_law_moves) fun x => drawR x) fun y => R.ret (.tuple [x, y])) fun d => R.bind (appR s1 d) fun v_law_steps => R.ret (.nx v_law_steps)) else (R.bind (R.bind (R.ret (.str "rep")) fun x => R.bind (R.bind (R.ret (.int 1)) fun x => R.bind (R.bind (R.ret v_law_times) fun x => drawR x) fun y => addR x y) fun y => R.bind (R.ret s2) fun z => R.ret (.tuple [x, y, z])) fun d => R.bind (appR s1 d) fun v_law_steps => R.ret (.nx v_law_steps)))) ds v_law_steps) fun s1 => R.bind (R.bind (R.ret (.list s1)) fun x => tupleR x) fun d => R.ret (.rt d ())
def m_law_run : Nat → D → D → D → R D
  | 0 => fun _ _ _ => bad
  | n + 1 => fun v_law_moves v_law_depth v_law_times => endR0 (o_law_run (m_law_run n) v_law_moves v_law_depth v_law_times)
def o_law_other (rec : D → R D) (v_law_run_here : D) : R (Out Unit Empty Unit) := R.bind (R.ret []) fun v_law_found => R.bind (R.bind (R.ret v_law_run_here) fun x => itemsR x) fun ds => seqR (S := List D) (forR (fun v_law_step (s1 : List D) => R.bind (R.bind (R.ret (.int 5)) fun x => drawR x) fun v_law_kind => R.bind (R.bind (R.bind (R.ret v_law_step) fun x => R.bind (R.ret (.int 0)) fun y => ixR x y) fun x => R.bind (R.ret (.str "do")) fun y => R.bind (eqR x y) boolR) fun b => if b = true then up (R.bind (R.bind (R.ret v_law_kind) fun x => R.bind (R.ret (.int 0)) fun y => R.bind (eqR x y) boolR) fun b => seqR (S := List D) (if b = true then (R.bind (R.bind (R.ret (.str "rep")) fun x => R.bind (R.ret (.int 1)) fun y => R.bind (R.bind (R.ret v_law_step) fun x => R.ret (.tuple [x])) fun z => R.ret (.tuple [x, y, z])) fun d => R.bind (appR s1 d) fun v_law_found => R.ret (.nx v_law_found)) else (R.bind (R.ret v_law_step) fun d => R.bind (appR s1 d) fun v_law_found => R.ret (.nx v_law_found))) fun s2 => R.ret (.ct s2)) else (R.bind (R.bind (R.ret v_law_step) fun x => R.bind (R.ret (.int 1)) fun y => ixR x y) fun v_law_count => R.bind (R.bind (R.bind (R.ret v_law_step) fun x => R.bind (R.ret (.int 2)) fun y => ixR x y) fun x => rec x) fun v_law_inner => R.bind (R.bind (R.bind (R.ret v_law_kind) fun x => R.bind (R.ret (.int 0)) fun y => R.bind (eqR x y) boolR) fun x => if x = true then (R.bind (R.ret v_law_count) fun x => R.bind (R.ret (.int 1)) fun y => R.bind (gtR x y) boolR) else R.ret false) fun b => if b = true then (R.bind (R.bind (R.ret (.int 1)) fun x => R.bind (R.bind (R.bind (R.ret v_law_count) fun x => R.bind (R.ret (.int 1)) fun y => subR x y) fun x => drawR x) fun y => addR x y) fun v_law_first => R.bind (R.bind (R.ret (.list s1)) fun x => R.bind (R.bind (R.bind (R.bind (R.ret (.str "rep")) fun x => R.bind (R.ret v_law_first) fun y => R.bind (R.ret v_law_inner) fun z => R.ret (.tuple [x, y, z])) fun x => R.bind (R.bind (R.ret (.str "rep")) fun x => R.bind (R.bind (R.ret v_law_count) fun x => R.bind (R.ret v_law_first) fun y => subR x y) fun y => R.bind (R.ret v_law_inner) fun z => R.ret (.tuple [x, y, z])) fun y => R.ret [x, y]) fun ds => R.ret (.list ds)) fun y => catR x y) fun v_law_found => R.ret (.nx v_law_found)) else (R.bind (R.bind (R.bind (R.ret v_law_kind) fun x => R.bind (R.ret (.int 1)) fun y => R.bind (eqR x y) boolR) fun x => if x = true then (R.bind (R.ret v_law_count) fun x => R.bind (R.ret (.int 1)) fun y => R.bind (gtR x y) boolR) else R.ret false) fun b => if b = true then (R.bind (R.bind (R.bind (R.ret (.list s1)) fun x => R.bind (R.bind (R.ret v_law_inner) fun x => listR x) fun y => addR x y) fun x => R.bind (R.bind (R.bind (R.bind (R.ret (.str "rep")) fun x => R.bind (R.bind (R.ret v_law_count) fun x => R.bind (R.ret (.int 1)) fun y => subR x y) fun y => R.bind (R.bind (R.ret v_law_step) fun x => R.bind (R.ret (.int 2)) fun y => ixR x y) fun z => R.ret (.tuple [x, y, z])) fun x => R.ret [x]) fun ds => R.ret (.list ds)) fun y => catR x y) fun v_law_found => R.ret (.nx v_law_found)) else (R.bind (R.bind (R.bind (R.ret v_law_kind) fun x => R.bind (R.ret (.int 2)) fun y => R.bind (eqR x y) boolR) fun x => if x = true then (R.bind (R.bind (R.ret v_law_count) fun x => R.bind (R.ret (.int 2)) fun y => modR x y) fun x => R.bind (R.ret (.int 0)) fun y => R.bind (eqR x y) boolR) else R.ret false) fun b => if b = true then (R.bind (R.bind (R.ret (.str "rep")) fun x => R.bind (R.bind (R.ret v_law_count) fun x => R.bind (R.ret (.int 2)) fun y => fdivR x y) fun y => R.bind (R.bind (R.bind (R.ret (.str "rep")) fun x => R.bind (R.ret (.int 2)) fun y => R.bind (R.ret v_law_inner) fun z => R.ret (.tuple [x, y, z])) fun x => R.ret (.tuple [x])) fun z => R.ret (.tuple [x, y, z])) fun d => R.bind (appR s1 d) fun v_law_found => R.ret (.nx v_law_found)) else (R.bind (R.bind (R.ret v_law_kind) fun x => R.bind (R.ret (.int 3)) fun y => R.bind (eqR x y) boolR) fun b => if b = true then (R.bind (R.bind (R.ret (.str "rep")) fun x => R.bind (R.ret (.int 1)) fun y => R.bind (R.bind (R.bind (R.ret (.str "rep")) fun x => R.bind (R.ret v_law_count) fun y => R.bind (R.ret v_law_inner) fun z => R.ret (.tuple [x, y, z])) fun x => R.ret (.tuple [x])) fun z => R.ret (.tuple [x, y, z])) fun d => R.bind (appR s1 d) fun v_law_found => R.ret (.nx v_law_found)) else (R.bind (R.bind (R.ret (.str "rep")) fun x => R.bind (R.ret v_law_count) fun y => R.bind (R.ret v_law_inner) fun z => R.ret (.tuple [x, y, z])) fun d => R.bind (appR s1 d) fun v_law_found => R.ret (.nx v_law_found))))))) ds v_law_found) fun s1 => R.bind (R.bind (R.ret (.list s1)) fun x => tupleR x) fun d => R.ret (.rt d ())
def m_law_other : Nat → D → R D
  | 0 => fun _ => bad
  | n + 1 => fun v_law_run_here => endR0 (o_law_other (m_law_other n) v_law_run_here)
def o_law : R (Out Unit Empty Unit) := R.bind (R.bind (R.ret (.int 9)) fun x => m_law_book x) fun v_law_book_here => R.bind (R.bind (R.bind (R.ret v_law_book_here) fun x => R.bind (R.ret (.int 0)) fun y => ixR x y) fun x => lenR x) fun v_law_n => R.bind (R.bind (R.bind (R.bind (R.ret v_law_book_here) fun x => R.bind (R.ret (.int 1)) fun y => ixR x y) fun x => lenR x) fun x => R.bind (R.ret (.int 3)) fun y => R.bind (R.bind (R.ret (.int 10)) fun x => R.bind (R.ret (.int 9)) fun y => powR x y) fun z => m_law_run 5 x y z) fun v_law_run_here => R.bind (R.bind (R.ret v_law_run_here) fun x => m_law_other 5 x) fun v_law_other_here => R.bind (R.bind (R.bind (R.bind (R.ret v_law_book_here) fun x => R.bind (R.ret v_law_other_here) fun y => m_is_run x y) fun x => R.bind (R.ret (.bool true)) fun y => R.bind (isNotR x y) boolR) fun x => if x = true then R.ret true else (R.bind (R.bind (R.ret v_law_run_here) fun x => m_length 8 x) fun x => R.bind (R.bind (R.ret v_law_other_here) fun x => m_length 8 x) fun y => R.bind (neR x y) boolR)) fun b => if b = true then up (R.bind (R.ret (.bool false)) fun d => R.ret (.rt d ())) else (R.bind (R.bind (R.bind (R.bind (R.ret v_law_book_here) fun x => R.bind (R.ret v_law_run_here) fun y => m_need x y) fun x => R.bind (R.bind (R.ret v_law_book_here) fun x => R.bind (R.ret v_law_other_here) fun y => m_need x y) fun y => R.bind (neR x y) boolR) fun x => if x = true then R.ret true else (R.bind (R.bind (R.ret v_law_book_here) fun x => R.bind (R.ret v_law_run_here) fun y => m_change x y) fun x => R.bind (R.bind (R.ret v_law_book_here) fun x => R.bind (R.ret v_law_other_here) fun y => m_change x y) fun y => R.bind (neR x y) boolR)) fun b => if b = true then up (R.bind (R.ret (.bool false)) fun d => R.ret (.rt d ())) else (R.bind (R.bind (R.ret (.int 4)) fun x => rng1R x) fun ds => seqR (S := Unit) (forR (fun v_law_turn (s1 : Unit) => R.bind (R.bind (R.bind (R.bind (R.bind (R.ret v_law_book_here) fun x => R.bind (R.ret v_law_run_here) fun y => m_need x y) fun x => R.bind (R.bind (R.ret v_law_n) fun x => R.bind (R.ret (.int 30)) fun y => m_law_stock x y) fun y => R.bind (R.bind (R.ret v_law_n) fun x => R.bind (R.bind (R.ret (.int 10)) fun x => R.bind (R.ret (.int 9)) fun y => powR x y) fun y => m_law_stock x y) fun z => R.ret [x, y, z]) fun ds => R.ret (.list ds)) fun x => R.bind (R.bind (R.ret v_law_turn) fun x => R.bind (R.ret (.int 3)) fun y => modR x y) fun y => ixR x y) fun v_law_stock_here => R.bind (R.bind (R.ret v_law_turn) fun x => R.bind (R.ret (.int 3)) fun y => R.bind (eqR x y) boolR) fun b => seqR (S := D) (if b = true then (R.bind (R.bind (R.bind (R.bind (R.bind (R.bind (R.ret v_law_book_here) fun x => R.bind (R.ret v_law_run_here) fun y => m_need x y) fun x => itemsR x) fun ds => compR (fun _ => R.ret true) (fun v_law_entry => (R.bind (R.ret (.int 0)) fun x => R.bind (R.bind (R.ret v_law_entry) fun x => R.bind (R.bind (R.ret (.int 2)) fun x => drawR x) fun y => subR x y) fun y => maxR x y)) ds []) fun ds => R.ret (.list ds)) fun x => tupleR x) fun v_law_stock_here => R.ret (.nx v_law_stock_here)) else (R.ret (.nx v_law_stock_here))) fun s2 => R.bind (R.bind (R.bind (R.ret v_law_book_here) fun x => R.bind (R.ret s2) fun y => R.bind (R.ret v_law_run_here) fun z => m_end_of_run x y z) fun x => R.bind (R.bind (R.ret v_law_book_here) fun x => R.bind (R.ret s2) fun y => R.bind (R.ret v_law_other_here) fun z => m_end_of_run x y z) fun y => R.bind (neR x y) boolR) fun b => if b = true then up (R.bind (R.ret (.bool false)) fun d => R.ret (.rt d ())) else (R.bind (R.bind (R.bind (R.ret v_law_book_here) fun x => R.bind (R.ret s2) fun y => R.bind (R.ret v_law_run_here) fun z => m_stops_at 8 x y z) fun x => R.bind (R.bind (R.ret v_law_book_here) fun x => R.bind (R.ret s2) fun y => R.bind (R.ret v_law_other_here) fun z => m_stops_at 8 x y z) fun y => R.bind (neR x y) boolR) fun b => if b = true then (R.bind (R.ret (.bool false)) fun d => R.ret (.rt d ())) else (R.ret (.nx ())))) ds ()) fun s1 => R.bind (R.ret (.bool true)) fun d => R.ret (.rt d ())))
def drawCount : Int := 320
end k13
namespace k13
open Pu PySem R
/-! What the program's defs about runs come to. -/
theorem le_size {n : Nat} (h : n ≤ 1000) : n ≤ sizeLine := Nat.le_of_lt (small1000' h)
theorem small62 {n : Nat} (h : n ≤ 1000) : n < 4611686018427387904 := Nat.lt_of_le_of_lt h (by decide)
section
variable {n : Nat} {a b : Nat → Int}
theorem plus_eq (hn : n ≤ 1000) : m_plus (vec n a) (vec n b) = R.ret (vec n fun k => a k + b k) := by
  unfold m_plus o_plus endR0
  simp only [rb, R.bind_assoc, len_vec, rng_nat (small62 hn)]
  rw [comp_range (g := fun k => PyData.int (a k + b k)) (le_size hn) fun k hk => by simp only [rb, ix_vec hk, add_int]]
  rfl
theorem less_eq (hn : n ≤ 1000) : m_less (vec n a) (vec n b) = R.ret (vec n fun k => a k - b k) := by
  unfold m_less o_less endR0
  simp only [rb, R.bind_assoc, len_vec, rng_nat (small62 hn)]
  rw [comp_range (g := fun k => PyData.int (a k - b k)) (le_size hn) fun k hk => by simp only [rb, ix_vec hk, sub_int]]
  rfl
theorem greater_eq (hn : n ≤ 1000) : m_greater (vec n a) (vec n b) = R.ret (vec n fun k => max (a k) (b k)) := by
  unfold m_greater o_greater endR0
  simp only [rb, R.bind_assoc, len_vec, rng_nat (small62 hn)]
  rw [comp_range (g := fun k => PyData.int (max (a k) (b k))) (le_size hn) fun k hk => by
    simp only [rb, ix_vec hk, max_int]
    congr 2
    split <;> omega]
  rfl
theorem times_eq (hn : n ≤ 1000) {c : Int} (hc : -(2 ^ 64) < c ∧ c < 2 ^ 64) : m_times (.int c) (vec n a) = R.ret (vec n fun k => c * a k) := by
  unfold m_times o_times endR0
  simp only [rb, R.bind_assoc, items_vec]
  rw [comp_vec (g := fun k => PyData.int (c * a k)) (le_size hn) fun k hk => mul_int (.inl hc)]
  rfl
/-- entry by entry, -1 above all -/
def Cov (n : Nat) (a b : Nat → Int) : Prop := ∀ k, k < n → a k = -1 ∨ (b k ≠ -1 ∧ b k ≤ a k)
instance : Decidable (Cov n a b) := by unfold Cov; exact inferInstance
theorem covers_ok (hn : n ≤ 1000) : Ok (m_covers (vec n a) (vec n b)) fun d => d = .bool (decide (Cov n a b)) := by
  unfold m_covers o_covers
  refine ok_end ?_
  simp only [rb, R.bind_assoc, len_vec, rng_nat (small62 hn)]
  refine ok_seq (ok_range (fun j _ => ∀ k, k < j → a k = -1 ∨ (b k ≠ -1 ∧ b k ≤ a k)) (fun k hk => by omega) (fun j s hj hi => ?_) fun s hi => ?_)
  · simp only [ix_vec hj, rb, neg_int, ne_int, bool_b, lt_int, eq_int]
    by_cases h1 : a j = -1
    · simp only [h1, decide_true, Bool.not_true, Bool.false_eq_true, if_false, rb, okr]
      intro k hk
      by_cases e : k = j
      · subst e; exact .inl h1
      · exact hi k (by omega)
    · simp only [h1, decide_false, Bool.not_false, if_true, rb]
      by_cases h2 : b j = -1
      · simp only [h2, decide_true, if_true, rb, okr]
        rw [decide_eq_false]
        intro hc
        rcases hc j hj with z | z
        · exact h1 z
        · exact z.1 h2
      · simp only [h2, decide_false, Bool.false_eq_true, if_false, rb]
        by_cases h3 : a j < b j
        · simp only [h3, decide_true, if_true, rb, okr]
          rw [decide_eq_false]
          intro hc
          rcases hc j hj with z | z
          · exact h1 z
          · omega
        · simp only [h3, decide_false, Bool.false_eq_true, if_false, rb, okr]
          intro k hk
          by_cases e : k = j
          · subst e; exact .inr ⟨h2, by omega⟩
          · exact hi k (by omega)
  · simp only [rb, okr]
    rw [decide_eq_true]
    exact hi
end
section
variable {b : Bk} {most cm : Int}
theorem book_moves : ixR b.d (.int 1) = R.ret (.tuple b.moves) := ix1
theorem book_names : ixR b.d (.int 0) = R.ret (.tuple b.names) := ix0
theorem move_at {m : Nat} (h : m < b.mm) : ixR (.tuple b.moves) (.int (m : Int)) = R.ret (b.move m) := ix_tup (b.moves_get h)
theorem move_take {m : Nat} : ixR (b.move m) (.int 1) = R.ret (vec b.n (b.tk m)) := ix1
theorem move_low {m : Nat} : ixR (b.move m) (.int 2) = R.ret (vec b.n (b.lo m)) := ix2
theorem move_high {m : Nat} : ixR (b.move m) (.int 3) = R.ret (vec b.n (b.hi m)) := ix3
theorem eq_do : eqR (.str "do") (.str "do") = R.ret (.bool true) := eq_yes (k := 0) (by unfold Pl; decide +kernel) (by decide)
theorem eq_rep : eqR (.str "rep") (.str "do") = R.ret (.bool false) := eq_no (k := 0) (by unfold Pl; decide +kernel) (by unfold Pl; decide +kernel) (by decide) (fun h => by injection h with h; revert h; decide)
theorem zero_eq (h : b.Fine most) : mulR (.tuple [.int 0]) (.int (b.names.length : Nat)) = R.ret (vec b.n fun _ => 0) := by
  have h1 := h.n1
  have h2 := h.n2
  rw [h.nl]
  have hc : ([PyData.int 0] : List D) ≠ [] ∧ 1 ≤ ((b.n : Nat) : Int) ∧ ((b.n : Nat) : Int) ≤ 1000 ∧ ([PyData.int 0] : List D).length ≤ 1000 := ⟨by simp, by omega, by omega, by simp⟩
  simp only [mulR, hc, not_false_eq_true, and_self, if_true, Int.toNat_natCast, ne_eq]
  congr 2
  unfold vecL
  apply List.ext_getElem?
  intro i
  have e : ∀ m : Nat, (List.replicate m [PyData.int 0]).flatten = List.replicate m (PyData.int 0) := by
    intro m
    induction m with
    | zero => rfl
    | succ m ih => rw [List.replicate_succ, List.flatten_cons, ih, List.replicate_succ]; rfl
  rw [e, List.getElem?_replicate, List.getElem?_map]
  by_cases hi : i < b.n
  · rw [if_pos hi, List.getElem?_range hi]; rfl
  · rw [if_neg hi, List.getElem?_eq_none (by rw [List.length_range]; omega)]; rfl
theorem fin1000 (h : b.Fine most) : b.n ≤ 1000 := Nat.le_trans h.n2 (by decide)
/-- how a run's steps are walked -/
theorem nac_loop (h : b.Fine most) (hcm : cm < 2 ^ 64) {k : Nat} {rec : D → D → R D} (hrec : ∀ (j : Nat) (es : List D) (ns : List Nat), j < k → RunD b.mm cm j es ns → Ok (rec b.d (.tuple es)) fun d => d = .tuple [vec b.n (b.need ns), vec b.n (b.chg ns)])
    {ds : List D} {ms : List Nat} (hr : RunD b.mm cm k ds ms) {f : D → D × D → R (Out (D × D) (D × D) Unit)}
    (hf1 : ∀ (m : Nat) (ps : List Nat) (Q : Out (D × D) (D × D) Unit → Prop), m < b.mm → Q (.nx (vec b.n (b.need (ps ++ [m])), vec b.n (b.chg (ps ++ [m])))) → Ok (f (.tuple [.str "do", .int m]) (vec b.n (b.need ps), vec b.n (b.chg ps))) Q)
    (hf2 : ∀ (c : Nat) (es : List D) (ns ps : List Nat) (j : Nat) (Q : Out (D × D) (D × D) Unit → Prop), (c : Int) + 1 ≤ cm → j < k → RunD b.mm cm j es ns → Q (.nx (vec b.n (b.need (ps ++ (List.replicate (c + 1) ns).flatten)), vec b.n (b.chg (ps ++ (List.replicate (c + 1) ns).flatten)))) →
      Ok (f (.tuple [.str "rep", .int ((c + 1 : Nat) : Int), .tuple es]) (vec b.n (b.need ps), vec b.n (b.chg ps))) Q) :
    ∀ (ps : List Nat) (Q : Out (D × D) Empty Unit → Prop), Q (.nx (vec b.n (b.need (ps ++ ms)), vec b.n (b.chg (ps ++ ms)))) → Ok (forR f ds (vec b.n (b.need ps), vec b.n (b.chg ps))) Q := by
  clear hrec
  induction hr with
  | nil => intro ps Q q; rw [List.append_nil] at q; exact ⟨q⟩
  | @one k m ds ms hm hr ih =>
    intro ps Q q
    unfold forR
    refine ok_step (P := fun o => o = .nx (vec b.n (b.need (ps ++ [m])), vec b.n (b.chg (ps ++ [m])))) (hf1 m ps _ hm rfl) fun o e => ?_
    subst e
    exact ih hf2 (ps ++ [m]) Q (by rw [List.append_assoc]; exact q)
  | @rep k c es ds ns ms hc he hr1 hr2 ih1 ih2 =>
    intro ps Q q
    unfold forR
    refine ok_step (P := fun o => o = .nx (vec b.n (b.need (ps ++ (List.replicate (c + 1) ns).flatten)), vec b.n (b.chg (ps ++ (List.replicate (c + 1) ns).flatten)))) (hf2 c es ns ps k _ hc (Nat.lt_succ_self _) hr1 rfl) fun o e => ?_
    subst e
    exact ih2 hf2 (ps ++ (List.replicate (c + 1) ns).flatten) Q (by rw [List.append_assoc]; exact q)
theorem nac_ok (h : b.Fine most) (hcm : cm < 2 ^ 64) : ∀ (fu k : Nat) (ds : List D) (ms : List Nat), RunD b.mm cm k ds ms → k < fu → Ok (m_need_and_change fu b.d (.tuple ds)) fun d => d = .tuple [vec b.n (b.need ms), vec b.n (b.chg ms)] := by
  intro fu
  induction fu with
  | zero => intro k ds ms hr hk; exact absurd hk (Nat.not_lt_zero _)
  | succ fu ih =>
    intro k ds ms hr hk
    have hn := fin1000 h
    unfold m_need_and_change o_need_and_change
    refine ok_end ?_
    simp only [rb, R.bind_assoc, book_names, len_t, zero_eq h, items_t]
    refine ok_seq ?_
    have hrec : ∀ (j : Nat) (es : List D) (ns : List Nat), j < k → RunD b.mm cm j es ns → Ok (m_need_and_change fu b.d (.tuple es)) fun d => d = .tuple [vec b.n (b.need ns), vec b.n (b.chg ns)] := fun j es ns hj hr => ih j es ns hr (by omega)
    refine nac_loop h hcm hrec hr (fun m ps Q hm q => ?_) (fun c es ns ps j Q hc hj hr' q => ?_) [] _ ?_
    · simp only [ix0, ix1, rb, R.bind_assoc, eq_do, bool_b, if_true, book_moves, move_at hm, move_take, move_high, less_eq hn]
      refine ok_seq ?_
      simp only [okr, rb, less_eq hn, greater_eq hn, plus_eq hn]
      rw [vec_congr (a := fun k => max (b.need ps k) (b.tk m k - b.chg ps k)) (b := b.need (ps ++ [m])) fun k _ => by
          rw [Bk.need_append h.tk0]
          show _ = max _ (max (b.tk m k) (0 - b.gain m k) - b.chg ps k)
          have h1 := h.lo0 m k
          have h2 := h.hi0 m k
          have h3 := h.tk0 m k
          unfold Bk.gain
          congr 2
          omega,
        vec_congr (a := fun k => b.chg ps k + (b.hi m k - b.tk m k)) (b := b.chg (ps ++ [m])) fun k _ => by
          rw [Bk.chg_append]
          show _ = b.chg ps k + (b.gain m k + 0)
          unfold Bk.gain
          omega]
      exact q
    · have hc1 : ((c + 1 : Nat) : Int) - 1 = (c : Int) := by omega
      simp only [ix0, ix1, ix2, rb, R.bind_assoc, eq_rep, bool_b, Bool.false_eq_true, if_false]
      refine ok_seq (ok_step (hrec j es ns hj hr') fun d e => ?_)
      subst e
      simp only [unp2_t, rb, R.bind_assoc, sub_int, hc1, times_eq hn (c := (c : Int)) ⟨by omega, by omega⟩, times_eq hn (c := ((c + 1 : Nat) : Int)) ⟨by omega, by omega⟩, less_eq hn, greater_eq hn, plus_eq hn, okr]
      rw [vec_congr (a := fun k => max (b.need ps k) (max (b.need ns k) (b.need ns k - c * b.chg ns k) - b.chg ps k)) (b := b.need (ps ++ (List.replicate (c + 1) ns).flatten)) fun k _ => by
          rw [Bk.need_append h.tk0, Bk.need_rep h.tk0],
        vec_congr (a := fun k => b.chg ps k + ((c + 1 : Nat) : Int) * b.chg ns k) (b := b.chg (ps ++ (List.replicate (c + 1) ns).flatten)) fun k _ => by
          rw [Bk.chg_append, Bk.chg_rep]]
      exact q
    · simp only [rb, List.nil_append, okr]
end
section
variable {b : Bk} {most cm : Int} {k : Nat} {ds : List D} {ms : List Nat} {s : Nat → Int}
theorem can_do_ok (h : b.Fine most) {m : Nat} (hm : m < b.mm) : Ok (m_can_do b.d (vec b.n s) (.int m)) fun d => d = .bool (decide (Cov b.n s (b.tk m))) := by
  unfold m_can_do o_can_do
  refine ok_end ?_
  simp only [rb, R.bind_assoc, book_moves, move_at hm, move_take]
  refine ok_step (covers_ok (fin1000 h)) fun d e => ?_
  subst e
  simp only [okr]
theorem done_ok (h : b.Fine most) {m : Nat} (hm : m < b.mm) : Ok (m_done b.d (vec b.n s) (.int m)) fun d => d = vec b.n fun k => s k - b.tk m k + b.hi m k := by
  unfold m_done o_done
  refine ok_end ?_
  simp only [rb, R.bind_assoc, book_moves, move_at hm, move_take, move_high, less_eq (fin1000 h), plus_eq (fin1000 h), okr]
theorem end_ok (h : b.Fine most) (hcm : cm < 2 ^ 64) (hr : RunD b.mm cm k ds ms) (hk : k < 8) : Ok (m_end_of_run b.d (vec b.n s) (.tuple ds)) fun d => d = if Cov b.n s (b.need ms) then vec b.n fun k => s k + b.chg ms k else .none := by
  unfold m_end_of_run o_end_of_run
  refine ok_end ?_
  simp only [rb, R.bind_assoc]
  refine ok_step (nac_ok h hcm 8 k ds ms hr hk) fun d e => ?_
  subst e
  simp only [unp2_t, rb, R.bind_assoc]
  refine ok_step (covers_ok (fin1000 h)) fun d e => ?_
  subst e
  simp only [bool_b, rb]
  by_cases hc : Cov b.n s (b.need ms)
  · simp only [hc, decide_true, Bool.not_true, Bool.false_eq_true, if_false, if_true, rb, plus_eq (fin1000 h), okr]
  · simp only [hc, decide_false, Bool.not_false, if_false, if_true, rb]
    refine ok_up ?_
    simp only [okr]
theorem le_sizeb {n : Nat} (h : n ≤ 100000) : n ≤ sizeLine := Nat.le_trans h (by show 100000 ≤ 2 ^ 24; decide)
theorem length_ok : ∀ (fu : Nat) (k : Nat) (ds : List D) (ms : List Nat), ds.length ≤ 100000 → RunD b.mm cm k ds ms → cm < 2 ^ 64 → k < fu → Ok (m_length fu (.tuple ds)) fun d => d = .int ms.length := by
  intro fu
  induction fu with
  | zero => intro k ds ms _ hr _ hk; exact absurd hk (Nat.not_lt_zero _)
  | succ fu ih =>
    intro k ds ms hl hr hcm hk
    unfold m_length o_length
    refine ok_end ?_
    simp only [rb, R.bind_assoc, items_t]
    have key : ∀ {ds : List D} {ms : List Nat} (k : Nat), k < fu + 1 → RunD b.mm cm k ds ms → ∀ (acc : List D) (Q : List D → Prop), acc.length + ds.length ≤ sizeLine → (∀ ns : List Int, ns.sum = ms.length → Q (acc ++ ns.map PyData.int)) →
        Ok (compR (fun _ => R.ret true) (fun v_step => R.bind (ixR v_step (.int 0)) fun x => R.bind (eqR x (.str "do")) fun x => R.bind (boolR x) fun x => if x = true then (R.ret (.int 1)) else R.bind (ixR v_step (.int 1)) fun x => R.bind (ixR v_step (.int 2)) fun y => R.bind (m_length fu y) fun y => mulR x y) ds acc) Q := by
      intro ds ms k hk hr
      induction hr with
      | nil =>
        intro acc Q _ q
        have := q [] rfl
        rw [List.map_nil, List.append_nil] at this
        exact ⟨this⟩
      | @one k m ds ms hm hr ih1 =>
        intro acc Q hl q
        rw [List.length_cons] at hl
        unfold compR
        simp only [ix0, rb, eq_do, bool_b, if_true, nx_ret]
        rw [if_pos (by omega)]
        refine ih1 hk _ Q (by rw [List.length_append]; simp only [List.length_cons, List.length_nil]; omega) fun ns hn => ?_
        have := q (1 :: ns) (by rw [List.sum_cons, hn, List.length_cons]; omega)
        rw [List.append_assoc]
        exact this
      | @rep k c es ds ns ms hc he hr1 hr2 ih1 ih2 =>
        intro acc Q hl q
        rw [List.length_cons] at hl
        unfold compR
        simp only [ix0, ix1, ix2, rb, eq_rep, bool_b, Bool.false_eq_true, if_false, nx_ret, if_true]
        refine ok_step (P := fun y => y = .int (((c + 1 : Nat) : Int) * ns.length)) ⟨nx_ok (ok_step (ih k es ns (Nat.le_trans he.2 (by decide)) hr1 hcm (by omega)) fun d e => ?_)⟩ fun y e => ?_
        · subst e
          rw [mul_int (.inl ⟨by omega, by omega⟩), okr]
        · subst e
          rw [if_pos (by omega)]
          refine ih2 hk _ Q (by rw [List.length_append]; simp only [List.length_cons, List.length_nil]; omega) fun ns' hn => ?_
          have := q ((((c + 1 : Nat) : Int) * ns.length) :: ns') (by
            rw [List.sum_cons, hn, List.length_append, List.length_flatten, List.map_replicate, List.sum_replicate_nat]
            simp only [Int.natCast_add, Int.natCast_mul])
          rw [List.append_assoc]
          exact this
    refine ok_step (key k hk hr [] (fun ds' => ∃ ns : List Int, ds' = ns.map PyData.int ∧ ns.sum = ms.length) (by simpa using le_sizeb hl) fun ns hn => ⟨ns, by simp, hn⟩) fun ds' ⟨ns, e, hn⟩ => ?_
    subst e
    simp only [sum_ints, rb, okr, hn]
end
/-! Where runs stop. -/
section
variable {b : Bk} {most cm : Int}
theorem times_eq2 {n : Nat} {a : Nat → Int} {c : Int} (hn : n ≤ 1000) (hc : ∀ k, k < n → mulOk c (a k)) : m_times (.int c) (vec n a) = R.ret (vec n fun k => c * a k) := by
  unfold m_times o_times endR0
  simp only [rb, R.bind_assoc, items_vec]
  rw [comp_vec (g := fun k => PyData.int (c * a k)) (le_size hn) fun k hk => mul_int (hc k hk)]
  rfl
/-- so many rounds -/
def Rounds (n : Nat) (t nd cg : Nat → Int) (top : Nat) (q : Nat) : Prop := q ≤ top ∧ (∀ i : Nat, i < q → ∀ k, k < n → nd k ≤ t k + i * cg k) ∧ (q < top → ∃ k, k < n ∧ t k + q * cg k < nd k)
theorem rounds_ok {n : Nat} {t nd cg : Nat → Int} {c : Nat} (hn : n ≤ 1000) (hd : ∀ k, k < n → (cg k).natAbs < fdLine) : Ok (m_rounds (vec n t) (vec n nd) (vec n cg) (.int ((c + 1 : Nat) : Int))) fun d => ∃ q : Nat, d = .int (q : Int) ∧ Rounds n t nd cg (c + 1) q := by
  unfold m_rounds o_rounds
  refine ok_end ?_
  simp only [rb, R.bind_assoc, len_vec, rng_nat (small62 hn)]
  refine ok_seq (ok_range (fun j s => ∃ q : Nat, s = .int (q : Int) ∧ 1 ≤ q ∧ q ≤ c + 1 ∧ (∀ i : Nat, i < q → ∀ k, k < j → nd k ≤ t k + i * cg k) ∧ (q < c + 1 → ∃ k, k < n ∧ t k + q * cg k < nd k)) ⟨c + 1, rfl, by omega, Nat.le_refl _, fun i _ k hk => absurd hk (Nat.not_lt_zero _), fun z => absurd z (Nat.lt_irrefl _)⟩ (fun j s hj hs => ?_) fun s hs => ?_)
  · obtain ⟨q, rfl, h1, h2, h3, h4⟩ := hs
    simp only [rb, ix_vec hj, lt_int, bool_b]
    by_cases ha : t j < nd j
    · simp only [ha, decide_true, if_true]
      refine ok_up ?_
      simp only [okr]
      exact ⟨0, rfl, Nat.zero_le _, fun i hi => absurd hi (Nat.not_lt_zero _), fun _ => ⟨j, hj, by simpa using ha⟩⟩
    · simp only [ha, decide_false, Bool.false_eq_true, if_false]
      by_cases hg : cg j < 0
      · have hdj := hd j hj
        have hne : -cg j ≠ 0 := by omega
        have hnb : (-cg j).natAbs < fdLine := by rw [Int.natAbs_neg]; exact hdj
        simp only [hg, decide_true, if_true, sub_int, neg_int, rb, fdiv_int hne hnb, add_int, min_int]
        have hpos : 0 < -cg j := by omega
        have ev : (t j - nd j).fdiv (-cg j) = (t j - nd j) / (-cg j) := Int.fdiv_eq_ediv_of_nonneg _ (by omega)
        rw [ev]
        have hv0 : 0 ≤ (t j - nd j) / (-cg j) := Int.ediv_nonneg (by omega) (by omega)
        generalize hv : (t j - nd j) / (-cg j) = v at hv0
        have key : ∀ i : Int, i ≤ v ↔ nd j ≤ t j + i * cg j := fun i => by
          rw [← hv, Int.le_ediv_iff_mul_le hpos, Int.mul_neg]
          omega
        have keep : ∀ w : Nat, (w : Int) ≤ v + 1 → w ≤ q → ∀ i : Nat, i < w → ∀ k, k < j + 1 → nd k ≤ t k + i * cg k := fun w hw hwq i hi k hk => by
          by_cases e : k = j
          · subst e
            exact (key i).mp (by omega)
          · exact h3 i (by omega) k (by omega)
        by_cases hlt : v + 1 < (q : Int)
        · simp only [hlt, if_true, okr]
          refine ⟨(v + 1).toNat, by rw [Int.toNat_of_nonneg (by omega)], by omega, by omega, keep _ (by omega) (by omega), fun _ => ⟨j, hj, ?_⟩⟩
          rw [Int.toNat_of_nonneg (by omega)]
          have := mt (key (v + 1)).mpr (by omega)
          omega
        · simp only [hlt, if_false, okr]
          exact ⟨q, rfl, h1, h2, keep q (by omega) (Nat.le_refl _), h4⟩
      · simp only [hg, decide_false, Bool.false_eq_true, if_false, okr]
        refine ⟨q, rfl, h1, h2, fun i hi k hk => ?_, h4⟩
        by_cases e : k = j
        · subst e
          have : 0 ≤ (i : Int) * cg k := Int.mul_nonneg (by omega) (by omega)
          omega
        · exact h3 i hi k (by omega)
  · obtain ⟨q, rfl, h1, h2, h3, h4⟩ := hs
    simp only [okr]
    exact ⟨q, rfl, h2, h3, h4⟩
/-- what stops_at answers -/
def stopD : Option Nat → D
  | none => .none
  | some i => .int (i : Int)
theorem iadd_int {i j : Int} : iaddR (.int i) (.int j) = R.ret (.int (i + j)) := Eq.trans rfl rfl
theorem cov_lets {s : Nat → Int} {m : Nat} (h : b.Fine most) (hs : ∀ k, k < b.n → 0 ≤ s k) : Cov b.n s (b.tk m) ↔ b.Lets s m := by
  unfold Cov Bk.Lets
  constructor
  · intro z k hk
    rcases z k hk with z | z
    · have := hs k hk; omega
    · exact z.2
  · intro z k hk
    exact .inr ⟨by have := h.tk0 m k; omega, z k hk⟩
theorem stops_ok (h : b.Fine most) (h0 : 0 ≤ most) (hm : most ≤ 1000000000) (hcm : cm < 2 ^ 64) : ∀ (fu k : Nat) (ds : List D) (ms : List Nat) (s : Nat → Int), RunT b.mm cm k ds ms → (∀ k, k < b.n → 0 ≤ s k) → k < fu → k ≤ 8 → Ok (m_stops_at fu b.d (vec b.n s) (.tuple ds)) fun d => d = stopD (b.stop s ms) := by
  have hn := fin1000 h
  intro fu
  induction fu with
  | zero => intro k ds ms s _ _ hk; exact absurd hk (Nat.not_lt_zero _)
  | succ fu ih =>
    intro k ds ms s hr hs hk hkF
    unfold m_stops_at o_stops_at
    refine ok_end ?_
    simp only [rb, R.bind_assoc, items_t]
    refine ok_seq ?_
    -- from a prefix that can be played
    have nnp : ∀ {t : Nat → Int} {ps : List Nat}, (∀ k, k < b.n → 0 ≤ t k) → b.stop t ps = none → ∀ k, k < b.n → 0 ≤ t k + b.chg ps k := fun {t ps} ht hp k hk => by
      have h1 := (Bk.stop_none h ps t ht).mp hp k hk
      have h2 := Bk.stop_rounds.need_chg h ps k
      omega
    have key : ∀ {k : Nat} {ds : List D} {ms : List Nat}, RunT b.mm cm k ds ms → k < fu + 1 → k ≤ 8 → ∀ (ps : List Nat) (Q : Out (D × D) Empty Unit → Prop), b.stop s ps = none →
        (∀ i, b.stop s (ps ++ ms) = some i → Q (.rt (.int (i : Int)) ())) → (b.stop s (ps ++ ms) = none → Q (.nx (vec b.n fun k => s k + b.chg (ps ++ ms) k, .int ((ps ++ ms).length : Nat)))) →
        Ok (forR (fun v_step (s1 : D × D) => R.bind (ixR v_step (.int 0)) fun x => R.bind (eqR x (.str "do")) fun x => R.bind (boolR x) fun b' => if b' = true then (R.bind (ixR v_step (.int 1)) fun z => R.bind (m_can_do b.d s1.1 z) fun x => R.bind (boolR x) fun b' => if (!b') = true then up (R.ret (.rt s1.2 ())) else (R.bind (ixR v_step (.int 1)) fun z => R.bind (m_done b.d s1.1 z) fun v_stock => R.bind (iaddR s1.2 (.int 1)) fun v_moves => R.ret (.nx (v_stock, v_moves))))
          else (R.bind (ixR v_step (.int 2)) fun y => R.bind (m_need_and_change 8 b.d y) fun d => unp2 d fun v_needed v_changed => R.bind (ixR v_step (.int 1)) fun w => R.bind (m_rounds s1.1 v_needed v_changed w) fun v_count => R.bind (m_times v_count v_changed) fun y => R.bind (m_plus s1.1 y) fun v_stock => R.bind (ixR v_step (.int 2)) fun x => R.bind (m_length 8 x) fun y => R.bind (mulR v_count y) fun y => R.bind (iaddR s1.2 y) fun v_moves => R.bind (ixR v_step (.int 1)) fun y => R.bind (ltR v_count y) fun x => R.bind (boolR x) fun b' => if b' = true then (R.bind (ixR v_step (.int 2)) fun z => R.bind (m_stops_at fu b.d v_stock z) fun y => R.bind (addR v_moves y) fun d => R.ret (.rt d ())) else (R.ret (.nx (v_stock, v_moves))))) ds (vec b.n fun k => s k + b.chg ps k, .int (ps.length : Nat))) Q := by
      intro k ds ms hr
      induction hr with
      | nil =>
        intro _ _ ps Q hp _ q
        rw [List.append_nil] at q
        exact ⟨q hp⟩
      | @one k m ds ms hm hr ih1 =>
        intro hk hkF ps Q hp q1 q2
        have hps := nnp hs hp
        unfold forR
        simp only [ix0, ix1, rb, eq_do, bool_b, if_true, R.bind_assoc]
        refine ok_step (can_do_ok h hm) fun d e => ?_
        subst e
        have est : b.stop s (ps ++ m :: ms) = (b.stop (fun k => s k + b.chg ps k) (m :: ms)).map (· + ps.length) := by rw [Bk.stop_append, hp]
        by_cases hc : b.Lets (fun k => s k + b.chg ps k) m
        · simp only [(cov_lets h hps).mpr hc, decide_true, bool_b, rb, Bool.not_true, Bool.false_eq_true, if_false, R.bind_assoc]
          refine ok_step (done_ok h hm) fun d e => ?_
          subst e
          simp only [iadd_int, rb]
          have hpm : b.stop s (ps ++ [m]) = none := by
            rw [Bk.stop_append, hp]
            show Option.map _ _ = none
            rw [Bk.stop_cons, if_pos hc]
            rfl
          have ev : vec b.n (fun k => s k + b.chg ps k - b.tk m k + b.hi m k) = vec b.n fun k => s k + b.chg (ps ++ [m]) k := vec_congr fun k _ => by
            rw [Bk.chg_append]
            show _ = s k + (b.chg ps k + (b.gain m k + 0))
            unfold Bk.gain
            omega
          have el : (ps.length : Int) + 1 = ((ps ++ [m]).length : Nat) := by rw [List.length_append]; rfl
          rw [ev, el]
          exact ih1 hk hkF (ps ++ [m]) Q hpm (by rw [List.append_assoc]; exact q1) (by rw [List.append_assoc]; exact q2)
        · simp only [mt (cov_lets h hps).mp hc, decide_false, bool_b, rb, Bool.not_false, if_true]
          simp only [up_rt, rb]
          refine ok_ret (q1 ps.length ?_)
          rw [est, Bk.stop_cons, if_neg hc]
          show some (0 + ps.length) = some ps.length
          rw [Nat.zero_add]
      | @rep k c es ds ns ms hc hl he hr1 hr2 ih2 =>
        intro hk hkF ps Q hp q1 q2
        have hps := nnp hs hp
        unfold forR
        simp only [ix0, ix1, ix2, rb, eq_rep, bool_b, Bool.false_eq_true, if_false, R.bind_assoc]
        refine ok_step (nac_ok h hcm 8 k es ns hr1 (by omega)) fun d e => ?_
        subst e
        simp only [unp2_t, rb, R.bind_assoc]
        have hz := fun k => Bk.chg_size h h0 ns k
        have hmn : most * (ns.length : Int) ≤ 1000000000 * (ns.length : Int) := Int.mul_le_mul_of_nonneg_right hm (by omega)
        refine ok_step (rounds_ok hn fun k _ => ?_) fun d e => ?_
        · have := hz k
          show (b.chg ns k).natAbs < fdLine
          unfold fdLine
          omega
        obtain ⟨q, rfl, hq1, hq2, hq3⟩ := e
        have hmul : ∀ k, k < b.n → mulOk (q : Int) (b.chg ns k) := fun k _ => by
          have := hz k
          unfold mulOk
          rcases hc with hc | hc
          · exact .inl ⟨by omega, by omega⟩
          · exact .inr ⟨by omega, by omega⟩
        rw [times_eq2 hn hmul]
        simp only [rb, plus_eq hn]
        refine ok_step (length_ok 8 k es ns (Nat.le_trans he.2 (by decide)) hr1 hcm (by omega)) fun d e => ?_
        subst e
        have hmul2 : mulOk (q : Int) (ns.length : Int) := by
          unfold mulOk
          rcases hc with hc | hc
          · exact .inl ⟨by omega, by omega⟩
          · exact .inr ⟨by omega, by omega⟩
        rw [mul_int hmul2]
        simp only [rb, iadd_int, lt_int, bool_b]
        -- the rounds that are played
        have hrounds : b.stop (fun k => s k + b.chg ps k) (List.replicate q ns).flatten = none := Bk.stop_rounds h q _ hps hq2
        have hpq : b.stop s (ps ++ (List.replicate q ns).flatten) = none := by rw [Bk.stop_append, hp]; show Option.map _ _ = none; rw [hrounds]; rfl
        have ev : vec b.n (fun k => s k + b.chg ps k + (q : Int) * b.chg ns k) = vec b.n fun k => s k + b.chg (ps ++ (List.replicate q ns).flatten) k := vec_congr fun k _ => by
          rw [Bk.chg_append, Bk.chg_rep]
          omega
        have hfl : ∀ q : Nat, ((List.replicate q ns).flatten).length = q * ns.length := fun q => by rw [List.length_flatten, List.map_replicate, List.sum_replicate_nat]
        have el : (ps.length : Int) + (q : Int) * (ns.length : Int) = ((ps ++ (List.replicate q ns).flatten).length : Nat) := by
          rw [List.length_append, hfl, Int.natCast_add, Int.natCast_mul]
        rw [ev, el]
        by_cases hlt : (q : Int) < ((c + 1 : Nat) : Int)
        · simp only [hlt, decide_true, if_true]
          have hpn := nnp hs hpq
          refine ok_step (ok_step (ih k es ns _ (hr1.toT hcm hl) hpn (by omega) (by omega)) fun d e => ?_) (fun o ho => ?_) (P := fun o => ∃ i, b.stop s (ps ++ ((List.replicate (c + 1) ns).flatten ++ ms)) = some i ∧ o = .rt (.int (i : Int)) ())
          · subst e
            have hst : ∃ i, b.stop (fun k => s k + b.chg (ps ++ (List.replicate q ns).flatten) k) ns = some i := by
              cases e : b.stop (fun k => s k + b.chg (ps ++ (List.replicate q ns).flatten) k) ns with
              | some i => exact ⟨i, rfl⟩
              | none =>
                obtain ⟨k, hk, hlt⟩ := hq3 (by omega)
                have := (Bk.stop_none h ns _ hpn).mp e k hk
                rw [Bk.chg_append, Bk.chg_rep] at this
                have hlt' : s k + b.chg ps k + (q : Int) * b.chg ns k < b.need ns k := hlt
                omega
            obtain ⟨i, hi⟩ := hst
            rw [hi]
            simp only [stopD, add_int, rb, okr]
            refine ⟨(ps ++ (List.replicate q ns).flatten).length + i, ?_, by rw [Int.natCast_add]⟩
            have esp : (List.replicate (c + 1) ns).flatten = (List.replicate q ns).flatten ++ (ns ++ (List.replicate (c - q) ns).flatten) := by
              rw [← List.flatten_cons, ← List.flatten_append, ← List.replicate_succ, List.replicate_append_replicate, show q + (c - q + 1) = c + 1 by omega]
            rw [esp, List.append_assoc, ← List.append_assoc ps, Bk.stop_append, hpq, List.append_assoc]
            show Option.map _ _ = _
            rw [Bk.stop_append, hi]
            show some (i + _) = some (_ + i)
            rw [Nat.add_comm]
          · obtain ⟨i, hi, rfl⟩ := ho
            exact ok_ret (q1 i hi)
        · have hqc : q = c + 1 := by omega
          subst hqc
          simp only [hlt, decide_false, Bool.false_eq_true, if_false, rb]
          exact ih2 hk hkF (ps ++ (List.replicate (c + 1) ns).flatten) Q hpq (by rw [List.append_assoc]; exact q1) (by rw [List.append_assoc]; exact q2)
    have hz : (vec b.n s, PyData.int 0) = (vec b.n (fun k => s k + b.chg [] k), PyData.int (([] : List Nat).length : Nat)) := by
      rw [vec_congr (a := s) (b := fun k => s k + b.chg [] k) fun k _ => by simp [Bk.chg]]
      rfl
    rw [hz]
    refine key hr hk hkF [] _ rfl (fun i hi => ?_) fun hi => ?_
    · rw [List.nil_append] at hi
      show PyData.int (i : Int) = stopD (b.stop s ms)
      rw [hi]
      rfl
    · rw [List.nil_append] at hi
      show Ok (R.bind (R.ret PyData.none) fun d => (R.ret (.rt d ()) : R (Out Unit Empty Unit))) _
      rw [rb, okr, hi]
      rfl
end
section
variable {b : Bk} {most cm : Int} {k : Nat} {ds : List D} {ms : List Nat} {s : Nat → Int}
theorem need_ok (h : b.Fine most) (hcm : cm < 2 ^ 64) (hr : RunD b.mm cm k ds ms) (hk : k < 8) : Ok (m_need b.d (.tuple ds)) fun d => d = vec b.n (b.need ms) := by
  unfold m_need o_need
  refine ok_end ?_
  simp only [rb, R.bind_assoc]
  refine ok_step (nac_ok h hcm 8 k ds ms hr hk) fun d e => ?_
  subst e
  simp only [ix0, rb, okr]
theorem change_ok (h : b.Fine most) (hcm : cm < 2 ^ 64) (hr : RunD b.mm cm k ds ms) (hk : k < 8) : Ok (m_change b.d (.tuple ds)) fun d => d = vec b.n (b.chg ms) := by
  unfold m_change o_change
  refine ok_end ?_
  simp only [rb, R.bind_assoc]
  refine ok_step (nac_ok h hcm 8 k ds ms hr hk) fun d e => ?_
  subst e
  simp only [ix1, rb, okr]
end
/-! What the law's own draws come to. -/
theorem mix_ok (i j : Int) : Ok (m_law_mix (.int i) (.int j)) fun d => ∃ z, d = .int z := by
  unfold m_law_mix o_law_mix
  refine ok_end ?_
  have h : ∀ {x y : Int}, 0 < y → y < 100000 → mulOk x y := fun h1 h2 => .inr ⟨by omega, by omega⟩
  simp only [rb, R.bind_assoc, mul_int (h (by decide : (0:Int) < 48271) (by decide)), mul_int (h (by decide : (0:Int) < 69621) (by decide)), mul_int (h (by decide : (0:Int) < 40692) (by decide)), mul_int (h (by decide : (0:Int) < 7919) (by decide)), add_int, int_int, mod_int (by decide : (2147483647 : Int) ≠ 0), mod_int (by decide : (2147483399 : Int) ≠ 0), okr]
  exact ⟨_, rfl⟩
theorem cut_ints (ns : List Int) (l h : Option Int) : ∃ ms : List Int, cutD (ns.map PyData.int) l h = ms.map PyData.int ∧ ms.length ≤ ns.length := by
  unfold cutD
  rw [← List.map_drop, ← List.map_take]
  refine ⟨_, rfl, ?_⟩
  rw [List.length_take, List.length_drop]
  omega
theorem app_ok {xs : List D} {d : D} (h : xs.length < 100000) : appR xs d = R.ret (xs ++ [d]) := by
  unfold appR
  rw [if_pos (Nat.lt_trans h (by show 100000 < 2 ^ 24; decide))]
theorem ints_snoc (fs : List Int) (z : Int) : fs.map PyData.int ++ [PyData.int z] = (fs ++ [z]).map PyData.int := by rw [List.map_append]; rfl
theorem pow18 : powR (.int 10) (.int 18) = R.ret (.int 1000000000000000000) := by
  have h : (0 : Int) ≤ 18 ∧ (18 : Int) ≤ 1000000 ∧ (10 : Int).natAbs < 2 ^ 64 := by decide
  simp only [powR, h, and_self, if_true]
  congr 2
theorem rng_lit {n : Int} {k : Nat} (h : n = (k : Int)) (hk : k ≤ 1000) : rng1R (.int n) = R.ret (rangeL 0 k) := by rw [h]; exact rng_nat (small62 hk)
theorem numbers_ok {ns : List Int} (hl : ns.length ≤ 63) {N : Nat} (h1 : 1 ≤ N) (hN : N ≤ 1000) : Ok (m_law_numbers (.list (ns.map PyData.int)) (.int (N : Int))) rowsOk := by
  show Ok (endR0 (o_law_numbers (ns.map PyData.int) (.int (N : Int)))) rowsOk
  unfold o_law_numbers
  refine ok_end ?_
  simp only [rb, R.bind_assoc, add_int, part_int, items_l]
  obtain ⟨cs, ec, hc⟩ := cut_ints ns none (some 63)
  rw [ec]
  refine ok_seq (ok_for0 (fun j s => ∃ (fs : List Int) (t : Int), s = (fs.map PyData.int, PyData.int t) ∧ fs.length ≤ 60 * j) ⟨[], _, rfl, Nat.zero_le _⟩ (fun j d s e hi => ?_) fun s hi => ?_)
  · obtain ⟨fs, t, rfl, hf⟩ := hi
    have hj : j < 63 := by
      by_cases hj : j < cs.length
      · omega
      · rw [List.getElem?_eq_none (by rw [List.length_map]; omega)] at e; cases e
    rw [List.getElem?_map] at e
    cases e2 : cs[j]? with
    | none => rw [e2] at e; cases e
    | some z =>
      rw [e2] at e
      cases e
      simp only [rb, R.bind_assoc, abs_int, int_int, mod_int (by decide : (2147483647 : Int) ≠ 0)]
      refine ok_step (mix_ok _ _) fun d e => ?_
      obtain ⟨t2, rfl⟩ := e
      simp only [rb, pow18, ge_int, bool_b]
      generalize (if z < 0 then -z else z) = zz
      by_cases hb : (1000000000000000000 : Int) ≤ zz
      · simp only [hb, decide_true, if_true, rng_lit (k := 60) (n := 60) (by decide) (by decide), rb]
        refine ok_seq (ok_range (fun i s => ∃ (gs : List Int) (y : Int), s = (gs.map PyData.int, PyData.int y) ∧ gs.length ≤ 60 * j + i) ⟨fs, _, rfl, hf⟩ (fun i s hi2 hs => ?_) fun s hs => ?_)
        · obtain ⟨gs, y, rfl, hg⟩ := hs
          simp only [rb, gt_int, bool_b]
          by_cases hy : 0 < y
          · simp only [hy, decide_true, if_true, int_int, rb, mod_int (by decide : (1000 : Int) ≠ 0), fdiv_int (by decide : (1000 : Int) ≠ 0) (fd_small (by decide))]
            rw [app_ok (by rw [List.length_map]; omega), ints_snoc]
            simp only [rb, okr]
            exact ⟨_, _, rfl, by rw [List.length_append]; simp only [List.length_cons, List.length_nil]; omega⟩
          · simp only [hy, decide_false, Bool.false_eq_true, if_false, okr]
            exact ⟨gs, y, rfl, by omega⟩
        · obtain ⟨gs, y, rfl, hg⟩ := hs
          simp only [okr]
          exact ⟨gs, t2, rfl, by omega⟩
      · simp only [hb, decide_false, Bool.false_eq_true, if_false, rng_lit (k := 6) (n := 6) (by decide) (by decide), rb]
        refine ok_seq (ok_range (fun i s => ∃ (gs : List Int), s = gs.map PyData.int ∧ gs.length ≤ 60 * j + i) ⟨fs, rfl, hf⟩ (fun i s hi2 hs => ?_) fun s hs => ?_)
        · obtain ⟨gs, rfl, hg⟩ := hs
          simp only [rb, R.bind_assoc, add_int]
          refine ok_step (mix_ok _ _) fun d e => ?_
          obtain ⟨t3, rfl⟩ := e
          simp only [rb, int_int, mod_int (by decide : (1000 : Int) ≠ 0)]
          rw [app_ok (by rw [List.length_map]; omega), ints_snoc]
          simp only [rb, okr]
          exact ⟨_, rfl, by rw [List.length_append]; simp only [List.length_cons, List.length_nil]; omega⟩
        · obtain ⟨gs, rfl, hg⟩ := hs
          simp only [okr]
          exact ⟨gs, t2, rfl, by omega⟩
  · obtain ⟨fs, t, rfl, hf⟩ := hi
    rw [List.length_map] at hf
    simp only [rb, rng_nat (small62 hN)]
    refine ok_seq (ok_range (fun i s => ∃ (gs : List Int) (y : Int), s = (gs.map PyData.int, PyData.int y) ∧ gs.length ≤ 4000 + i ∧ min i N ≤ gs.length) ⟨fs, t, rfl, by omega, by omega⟩ (fun i s hi2 hs => ?_) fun s hs => ?_)
    · obtain ⟨gs, y, rfl, hg, hm⟩ := hs
      simp only [rb, R.bind_assoc, len_l, lt_int, bool_b, List.length_map]
      by_cases hy : ((gs.length : Nat) : Int) < N
      · simp only [hy, decide_true, if_true, rb, R.bind_assoc, add_int]
        refine ok_step (mix_ok _ _) fun d e => ?_
        obtain ⟨t3, rfl⟩ := e
        simp only [rb, int_int, mod_int (by decide : (1000 : Int) ≠ 0)]
        rw [app_ok (by rw [List.length_map]; omega), ints_snoc]
        simp only [rb, okr]
        exact ⟨_, _, rfl, by rw [List.length_append]; simp only [List.length_cons, List.length_nil]; omega, by rw [List.length_append]; simp only [List.length_cons, List.length_nil]; omega⟩
      · simp only [hy, decide_false, Bool.false_eq_true, if_false, okr]
        exact ⟨gs, y, rfl, by omega, by omega⟩
    · obtain ⟨gs, y, rfl, hg, hm⟩ := hs
      simp only [rb, part_int, sliceR, cut_take, okr]
      rw [← List.map_take]
      have hl : (gs.take N).length = N := by rw [List.length_take]; omega
      exact ⟨_, rfl, fun z => by rw [z] at hl; simp at hl; omega, by rw [hl]; exact hN⟩
theorem named_ok : Ok m_law_named fun d => ∃ ns : List Str, d = .list (ns.map PyData.str) ∧ ns.length = 14 := by
  unfold m_law_named o_law_named
  refine ok_end ?_
  simp only [rb, R.bind_assoc, rng_lit (n := 14) (k := 14) (by decide) (by decide)]
  refine ok_seq (ok_range (fun j s => ∃ ns : List Str, s = ns.map PyData.str ∧ ns.length = j) ⟨[], rfl, rfl⟩ (fun j s hj hs => ?_) fun s hs => ?_)
  · obtain ⟨ns, rfl, hn⟩ := hs
    refine ok_step (draw_lit (n := 5) (k := 5) (by decide) (by decide)) fun d e => ?_
    obtain ⟨i, hi, rfl⟩ := e
    have e5 : ([PyData.int 0, PyData.int 0, PyData.int 1, PyData.int 2, PyData.int 9] : List D) = ([0, 0, 1, 2, 9] : List Int).map PyData.int := rfl
    rw [e5]
    simp only [ix_ints (ns := [0, 0, 1, 2, 9]) (i := i) hi, rb]
    have hz : ∀ z ∈ ([0, 0, 1, 2, 9] : List Int), 0 ≤ z ∧ z ≤ 9 := by decide
    obtain ⟨z0, z1⟩ := hz _ (List.getElem_mem (l := ([0, 0, 1, 2, 9] : List Int)) (n := i) hi)
    generalize ([0, 0, 1, 2, 9] : List Int)[i] = z at z0 z1
    simp only [strR, rb, rng_int z0 (Int.le_trans z1 (by decide))]
    refine ok_step (comp_all (P := fun y => ∃ x : Str, y = .str x ∧ x.length ≤ 1) (Q := fun ys => ∃ zs : List Str, ys = zs.map PyData.str ∧ zs.length ≤ 9 ∧ ∀ x ∈ zs, x.length ≤ 1) (fun d hd => ?_) (by rw [rangeL_length]; exact le_size (by omega)) fun ys hl hp => ?_) fun ys hy => ?_
    · rw [add_str (by decide +kernel)]
      simp only [rb]
      refine ok_step (draw_lit (n := 36) (k := 36) (by decide) (by decide)) fun d e => ?_
      obtain ⟨q, hq, rfl⟩ := e
      refine ok_eq (ix_str (Nat.lt_of_lt_of_le hq (by decide +kernel)) (by decide +kernel)) ⟨_, rfl, Nat.le_refl _⟩
    · obtain ⟨zs, e1, e2⟩ := all_map (g := PyData.str) hp
      refine ⟨zs, e1, ?_, e2⟩
      rw [e1, List.length_map, rangeL_length] at hl
      omega
    · obtain ⟨zs, rfl, hl, hone⟩ := hy
      have hsum := sum_ones hone
      have h0 : (Str.ofString "").length = 0 := by decide +kernel
      have hs1 : (zs.map (·.length)).sum + zs.length * (Str.ofString "").length ≤ 1000 := by rw [h0]; omega
      simp only [join_strs hs1, rb]
      have hjl := join_len (Str.ofString "") zs
      rw [h0] at hjl
      generalize Txt.join (Str.ofString "") zs = w at hjl
      refine ok_step (draw_lit (n := 26) (k := 26) (by decide) (by decide)) fun d e => ?_
      obtain ⟨q, hq, rfl⟩ := e
      rw [ix_str (Nat.lt_of_lt_of_le hq (by decide +kernel)) (by decide +kernel)]
      simp only [rb]
      rw [add_str (by show 1 + w.length ≤ 1000; omega)]
      simp only [rb]
      rw [ix_str (i := j) (Nat.lt_of_lt_of_le hj (by decide +kernel)) (by decide +kernel)]
      simp only [rb]
      rw [add_str (by rw [len_app]; show 1 + w.length + 1 ≤ 1000; omega)]
      simp only [rb]
      rw [app_ok (by rw [List.length_map]; omega)]
      simp only [rb, okr]
      exact ⟨ns ++ [_], by rw [List.map_append]; rfl, by rw [List.length_append, hn]; rfl⟩
  · obtain ⟨ns, rfl, hn⟩ := hs
    simp only [okr]
    exact ⟨ns, rfl, hn⟩
theorem stock_ok {n : Nat} {most : Int} (hn : n ≤ 1000) (h0 : 0 ≤ most) : Ok (m_law_stock (.int (n : Int)) (.int most)) fun d => ∃ s : Nat → Int, d = vec n s ∧ ∀ k, 0 ≤ s k ∧ s k ≤ most := by
  unfold m_law_stock o_law_stock
  refine ok_end ?_
  simp only [rb, R.bind_assoc, rng_nat (small62 hn)]
  refine ok_seq (ok_range (fun j s => ∃ ns : List Int, s = ns.map PyData.int ∧ ns.length = j ∧ ∀ x ∈ ns, 0 ≤ x) ⟨[], rfl, rfl, by simp⟩ (fun j s hj hs => ?_) fun s hs => ?_)
  · obtain ⟨ns, rfl, hl, hp⟩ := hs
    simp only [rb, R.bind_assoc, add_int]
    refine ok_step (draw_pos (by omega)) fun d e => ?_
    obtain ⟨z, z0, z1, rfl⟩ := e
    refine ok_step (draw_lit (n := 6) (k := 6) (by decide) (by decide)) fun d e => ?_
    obtain ⟨i, hi, rfl⟩ := e
    have e5 : ([PyData.int 0, PyData.int 0, PyData.int 1, PyData.int 2, PyData.int z, PyData.int most] : List D) = ([0, 0, 1, 2, z, most] : List Int).map PyData.int := rfl
    rw [e5]
    simp only [ix_ints (ns := [0, 0, 1, 2, z, most]) (i := i) hi, rb]
    rw [app_ok (by rw [List.length_map]; omega), ints_snoc]
    simp only [rb, okr]
    refine ⟨_, rfl, by rw [List.length_append, hl]; rfl, fun x hx => ?_⟩
    rcases List.mem_append.mp hx with hx | hx
    · exact hp x hx
    · rw [List.mem_singleton] at hx
      subst hx
      have := List.getElem_mem (l := ([0, 0, 1, 2, z, most] : List Int)) (n := i) hi
      simp only [List.mem_cons, List.not_mem_nil, or_false] at this
      omega
  · obtain ⟨ns, rfl, hl, hp⟩ := hs
    simp only [rb, items_l]
    rw [vecL_of, hl, comp_vec (g := fun k => PyData.int (if ns.getD k 0 < most then ns.getD k 0 else most)) (le_size hn) fun k hk => min_int]
    simp only [rb, tuple_l, okr]
    refine ⟨fun k => if ns.getD k 0 < most then ns.getD k 0 else most, rfl, fun k => ?_⟩
    have hz : 0 ≤ ns.getD k 0 := by
      by_cases hk : k < ns.length
      · simp only [List.getD, List.getElem?_eq_getElem hk, Option.getD_some]
        exact hp _ (List.getElem_mem hk)
      · simp only [List.getD, List.getElem?_eq_none (show ns.length ≤ k by omega), Option.getD_none]
        exact Int.le_refl 0
    show 0 ≤ (if ns.getD k 0 < most then ns.getD k 0 else most) ∧ (if ns.getD k 0 < most then ns.getD k 0 else most) ≤ most
    split <;> omega
def BInv (n : Nat) (most : Int) (j : Nat) (s : List D) : Prop := ∃ (nm : Nat → Str) (tk lo hi : Nat → Nat → Int), s = (List.range j).map (fun i => PyData.tuple [.str (nm i), vec n (tk i), vec n (lo i), vec n (hi i)]) ∧
  ∀ i k, 0 ≤ tk i k ∧ tk i k ≤ most ∧ 0 ≤ lo i k ∧ lo i k ≤ hi i k ∧ hi i k ≤ most
theorem book_ok {most : Int} (h0 : 0 ≤ most) : Ok (m_law_book (.int most)) fun d => ∃ b : Bk, d = b.d ∧ b.Fine most ∧ b.n ≤ 6 ∧ b.mm ≤ 8 := by
  unfold m_law_book o_law_book
  refine ok_end ?_
  refine ok_step named_ok fun d e => ?_
  obtain ⟨ns, rfl, hns⟩ := e
  simp only [rb, R.bind_assoc]
  refine ok_step (draw_lit (n := 6) (k := 6) (by decide) (by decide)) fun d e => ?_
  obtain ⟨n', hn', rfl⟩ := e
  have en : (1 : Int) + (n' : Int) = ((n' + 1 : Nat) : Int) := by omega
  simp only [rb, add_int, en]
  have hn : n' + 1 ≤ 6 := hn'
  have hn1 : 1 ≤ n' + 1 := by omega
  generalize n' + 1 = n at hn hn1
  refine ok_step (draw_lit (n := 9) (k := 9) (by decide) (by decide)) fun d e => ?_
  obtain ⟨mm, hmm, rfl⟩ := e
  simp only [rb, rng_nat (small62 (show mm ≤ 1000 by omega))]
  refine ok_seq (ok_range (BInv n most) ⟨fun _ => ⟨#[]⟩, fun _ _ => 0, fun _ _ => 0, fun _ _ => 0, rfl, fun _ _ => ⟨Int.le_refl 0, h0, Int.le_refl 0, Int.le_refl 0, h0⟩⟩ (fun j s hj hs => ?_) fun s hs => ?_)
  · refine ok_mono (P := fun o => ∃ s', o = .nx s' ∧ BInv n most (j + 1) s') ?_ fun o ⟨s', e, h⟩ => by subst e; exact h
    obtain ⟨nm, tk, lo, hi, rfl, hb⟩ := hs
    refine ok_step (stock_ok (by omega) h0) fun d e => ?_
    obtain ⟨t, rfl, ht⟩ := e
    refine ok_step (stock_ok (by omega) h0) fun d e => ?_
    obtain ⟨h, rfl, hh⟩ := e
    refine ok_step (draw_lit (n := 3) (k := 3) (by decide) (by decide)) fun d e => ?_
    obtain ⟨q, hq, rfl⟩ := e
    simp only [rb, eq_int, bool_b]
    have nd : (ns.map PyData.str)[6 + j]? = some (PyData.str (ns[6 + j]'(by omega))) := by rw [List.getElem?_map, List.getElem?_eq_getElem (by omega)]; rfl
    have e6 : (6 : Int) + (j : Int) = ((6 + j : Nat) : Int) := by omega
    refine ok_seq (ok_mono (P := fun o => ∃ l : Nat → Int, o = .nx (vec n l) ∧ ∀ k, 0 ≤ l k ∧ l k ≤ h k) ?_ fun o ⟨l, e, hl⟩ => ?_)
    · by_cases hq0 : (q : Int) = 0
      · simp only [hq0, decide_true, if_true, items_vec, rb, R.bind_assoc]
        refine ok_step (comp_vec_ok (P := fun k z => 0 ≤ z ∧ z ≤ h k) (le_size (by omega)) fun k hk => ?_) fun ys hy => ?_
        · simp only [rb, add_int]
          refine ok_mono (draw_pos (by have := (hh k).1; omega)) fun d e => ?_
          obtain ⟨i, h1, h2, rfl⟩ := e
          exact ⟨i, rfl, h1, by omega⟩
        · obtain ⟨l, rfl, h1, h2⟩ := hy
          simp only [rb, tuple_l, okr]
          refine ⟨l, rfl, fun k => ?_⟩
          by_cases hk : k < n
          · exact h1 k hk
          · rw [h2 k (by omega)]
            exact ⟨Int.le_refl 0, (hh k).1⟩
      · simp only [hq0, decide_false, Bool.false_eq_true, if_false, okr]
        exact ⟨h, rfl, fun k => ⟨(hh k).1, Int.le_refl _⟩⟩
    · subst e
      simp only [add_int, e6, rb, ix_lst nd]
      rw [app_ok (by rw [List.length_map, List.length_range]; omega)]
      simp only [rb, okr]
      refine ⟨_, rfl, fun i => if i = j then ns[6 + j]'(by omega) else nm i, fun i => if i = j then t else tk i, fun i => if i = j then l else lo i, fun i => if i = j then h else hi i, ?_, fun i k => ?_⟩
      · rw [List.range_succ, List.map_append]
        congr 1
        · exact List.map_congr_left fun i hi => by
            have : i ≠ j := Nat.ne_of_lt (List.mem_range.mp hi)
            simp only [this, if_false]
        · simp only [List.map_cons, List.map_nil, if_true]
      · by_cases hij : i = j
        · simp only [hij, if_true]
          exact ⟨(ht k).1, (ht k).2, (hl k).1, (hl k).2, (hh k).2⟩
        · simp only [hij, if_false]
          exact hb i k
  · obtain ⟨nm, tk, lo, hi, rfl, hb⟩ := hs
    simp only [rb, part_int, sliceR, cut_take, tuple_l, okr]
    refine ⟨⟨n, mm, (ns.map PyData.str).take n, nm, tk, lo, hi⟩, rfl, ⟨hn1, by show n ≤ 20; omega, by show mm ≤ 100; omega, ?_, fun i k => (hb i k).1, fun i k => (hb i k).2.1, fun i k => (hb i k).2.2.1, fun i k => (hb i k).2.2.2.1, fun i k => (hb i k).2.2.2.2⟩, hn, by show mm ≤ 8; omega⟩
    show ((ns.map PyData.str).take n).length = n
    rw [List.length_take, List.length_map]
    omega
/-- how long a drawn run is -/
def runB (t : Nat) : Nat → Nat
  | 0 => 1
  | k + 1 => t * (3 * runB t k)
theorem runB_pos {t : Nat} (h : 1 ≤ t) : ∀ k, 1 ≤ runB t k
  | 0 => Nat.le_refl _
  | k + 1 => by
    have := runB_pos h k
    show 1 ≤ t * (3 * runB t k)
    exact Nat.mul_pos h (by omega)
/-- at most three steps at each depth -/
inductive Thin : Nat → List D → Prop where
  | nil {k : Nat} : Thin k []
  | one {k : Nat} {x : D} {ds : List D} : Thin k ds → Thin k (.tuple [.str "do", x] :: ds)
  | rep {k : Nat} {c : D} {es ds : List D} : es.length ≤ 3 → Thin k es → Thin (k + 1) ds → Thin (k + 1) (.tuple [.str "rep", c, .tuple es] :: ds)
theorem Thin.append {k : Nat} {ds es : List D} (h : Thin k ds) : Thin k es → Thin k (ds ++ es) := by
  induction h with
  | nil => exact fun q => q
  | one _ ih => exact fun q => .one (ih q)
  | rep a b _ _ ih2 => exact fun q => .rep a b (ih2 q)
theorem Thin.at {k : Nat} {ds : List D} (h : Thin k ds) : ∀ {i : Nat} {c : D} {es : List D}, ds[i]? = some (.tuple [.str "rep", c, .tuple es]) → ∃ k', k = k' + 1 ∧ es.length ≤ 3 ∧ Thin k' es := by
  induction h with
  | nil => intro i c es e; simp at e
  | one _ ih =>
    intro i c es e
    cases i with
    | zero =>
      simp only [List.getElem?_cons_zero, Option.some.injEq, PyData.tuple.injEq, List.cons.injEq] at e
      exact absurd e.2.2 (by simp)
    | succ i => exact ih (by simpa using e)
  | @rep k c es ds a b _ _ ih2 =>
    intro i c es e
    cases i with
    | zero =>
      simp only [List.getElem?_cons_zero, Option.some.injEq, PyData.tuple.injEq, List.cons.injEq, and_true, true_and] at e
      obtain ⟨_, rfl⟩ := e
      exact ⟨k, rfl, a, b⟩
    | succ i => exact ih2 (by simpa using e)
theorem runt_ok {mm t : Nat} (ht : 1 ≤ t) (ht2 : t < 2 ^ 62) : ∀ (fu k : Nat), k < fu → k ≤ 20 → Ok (m_law_run fu (.int (mm : Int)) (.int (k : Int)) (.int (t : Int))) fun d => ∃ (ds : List D) (ms : List Nat), d = .tuple ds ∧ ds.length ≤ 3 ∧ Thin k ds ∧ RunD mm (t : Int) k ds ms ∧ ms.length ≤ 3 * runB t k := by
  intro fu
  induction fu with
  | zero => intro k hk; exact absurd hk (Nat.not_lt_zero _)
  | succ fu ih =>
    intro k hk hk2
    unfold m_law_run o_law_run
    refine ok_end ?_
    simp only [rb, R.bind_assoc]
    refine ok_step (draw_lit (n := 4) (k := 4) (by decide) (by decide)) fun d e => ?_
    obtain ⟨q, hq, rfl⟩ := e
    simp only [rb, rng_nat (small62 (show q ≤ 1000 by omega))]
    refine ok_seq (ok_range (fun j s => ∃ ms : List Nat, s.length = j ∧ Thin k s ∧ RunD mm (t : Int) k s ms ∧ ms.length ≤ j * runB t k) ⟨[], rfl, .nil, .nil, Nat.zero_le _⟩ (fun j s hj hs => ?_) fun s hs => ?_)
    · obtain ⟨ms, hl, ht3, hr, hm⟩ := hs
      have hB := runB_pos ht k
      simp only [rb, eq_int, bool_b]
      by_cases h0 : (mm : Int) = 0
      · simp only [h0, decide_true, if_true, rb]
        refine ok_up ?_
        simp only [okr]
        exact ⟨[], [], rfl, by decide, .nil, .nil, Nat.zero_le _⟩
      · simp only [h0, decide_false, Bool.false_eq_true, if_false, rb, gt_int, bool_b]
        -- what the inner run is
        have inner : Ok (R.bind (if decide ((0 : Int) < (k : Int)) = true then (R.bind (R.bind (R.ret (.int 3)) fun x => drawR x) fun x => R.bind (R.ret (.int 0)) fun y => R.bind (eqR x y) boolR) else R.ret false) fun b => if b = true then (R.bind (R.bind (R.ret (.int (mm : Int))) fun x => R.bind (R.bind (R.ret (.int (k : Int))) fun x => R.bind (R.ret (.int 1)) fun y => subR x y) fun y => R.bind (R.ret (.int (t : Int))) fun z => m_law_run fu x y z) fun v => (R.ret (.nx v) : R (Out D (List D) Unit))) else (R.ret (.nx (.tuple [])))) fun o => ∃ (es : List D) (ns : List Nat), o = .nx (.tuple es) ∧ es.length ≤ 3 ∧ (es = [] ∨ ∃ k', k = k' + 1 ∧ Thin k' es ∧ RunD mm (t : Int) k' es ns ∧ ns.length ≤ 3 * runB t k') := by
          by_cases hk0 : (0 : Int) < (k : Int)
          · simp only [hk0, decide_true, if_true, rb, R.bind_assoc]
            refine ok_step (draw_lit (n := 3) (k := 3) (by decide) (by decide)) fun d e => ?_
            obtain ⟨z, hz, rfl⟩ := e
            simp only [rb, eq_int, bool_b]
            by_cases hz0 : (z : Int) = 0
            · simp only [hz0, decide_true, if_true, rb, R.bind_assoc, sub_int]
              obtain ⟨k', rfl⟩ : ∃ k', k = k' + 1 := ⟨k - 1, by omega⟩
              rw [show ((k' + 1 : Nat) : Int) - 1 = (k' : Int) by omega]
              refine ok_step (ih k' (by omega) (by omega)) fun d e => ?_
              obtain ⟨es, ns, rfl, h1, h1t, h2, h3⟩ := e
              simp only [okr]
              exact ⟨es, ns, rfl, h1, .inr ⟨k', rfl, h1t, h2, h3⟩⟩
            · simp only [hz0, decide_false, Bool.false_eq_true, if_false, okr]
              exact ⟨[], [], rfl, by decide, .inl rfl⟩
          · simp only [hk0, decide_false, Bool.false_eq_true, if_false, rb, okr]
            exact ⟨[], [], rfl, by decide, .inl rfl⟩
        simp only [rb, R.bind_assoc, gt_int, bool_b, sub_int] at inner ⊢
        refine ok_mono (P := fun o => ∃ s' : List D, o = .nx s' ∧ ∃ ms : List Nat, s'.length = j + 1 ∧ Thin k s' ∧ RunD mm (t : Int) k s' ms ∧ ms.length ≤ (j + 1) * runB t k) ?_ fun o ⟨s', e, h⟩ => by subst e; exact h
        have hmul : (j + 1) * runB t k = j * runB t k + runB t k := by rw [Nat.add_mul, Nat.one_mul]
        have go : ∀ o : Out D (List D) Unit, (∃ (es : List D) (ns : List Nat), o = .nx (.tuple es) ∧ es.length ≤ 3 ∧ (es = [] ∨ ∃ k', k = k' + 1 ∧ Thin k' es ∧ RunD mm (t : Int) k' es ns ∧ ns.length ≤ 3 * runB t k')) →
            Ok (match o with
              | .nx s2 => R.bind (eqR s2 (.tuple [])) fun x => R.bind (boolR x) fun b => if b = true then R.bind (drawR (.int (mm : Int))) fun x => R.bind (appR s (.tuple [.str "do", x])) fun v => (R.ret (.nx v) : R (Out (List D) (List D) Unit))
                else R.bind (drawR (.int (t : Int))) fun x => R.bind (addR (.int 1) x) fun y => R.bind (appR s (.tuple [.str "rep", y, s2])) fun v => R.ret (.nx v)
              | .bk b => R.ret (.bk b)
              | .ct b => R.ret (.ct b)
              | .rt d t => R.ret (.rt d t)) fun o => ∃ s' : List D, o = .nx s' ∧ ∃ ms : List Nat, s'.length = j + 1 ∧ Thin k s' ∧ RunD mm (t : Int) k s' ms ∧ ms.length ≤ (j + 1) * runB t k := by
          rintro o ⟨es, ns, rfl, hes, hc⟩
          rcases hc with rfl | ⟨k', rfl, hrt, hr', hn'⟩
          · simp only [eq_yes (x := .tuple []) (k := 1) (by unfold Pl; simp) (by decide), rb, bool_b, if_true]
            refine ok_step (draw_lit (n := (mm : Int)) (k := mm) rfl (by omega)) fun d e => ?_
            obtain ⟨i, hi, rfl⟩ := e
            rw [app_ok (by omega)]
            simp only [rb, okr]
            exact ⟨_, rfl, ms ++ [i], by rw [List.length_append, hl]; rfl, ht3.append (.one .nil), hr.snoc1 hi, by rw [List.length_append, hmul]; simp only [List.length_cons, List.length_nil]; omega⟩
          · by_cases he : es = []
            · subst he
              simp only [eq_yes (x := .tuple []) (k := 1) (by unfold Pl; simp) (by decide), rb, bool_b, if_true]
              refine ok_step (draw_lit (n := (mm : Int)) (k := mm) rfl (by omega)) fun d e => ?_
              obtain ⟨i, hi, rfl⟩ := e
              rw [app_ok (by omega)]
              simp only [rb, okr]
              exact ⟨_, rfl, ms ++ [i], by rw [List.length_append, hl]; rfl, ht3.append (.one .nil), hr.snoc1 hi, by rw [List.length_append, hmul]; simp only [List.length_cons, List.length_nil]; omega⟩
            · simp only [eq_no (x := .tuple es) (y := .tuple []) hr'.pl (by unfold Pl; simp) (by omega) (fun z => he (by injection z)), rb, bool_b, Bool.false_eq_true, if_false]
              refine ok_step (draw_lit (n := (t : Int)) (k := t) rfl (by omega)) fun d e => ?_
              obtain ⟨i, hi, rfl⟩ := e
              simp only [add_int, rb]
              rw [app_ok (by omega), show (1 : Int) + (i : Int) = ((i + 1 : Nat) : Int) by omega]
              simp only [rb, okr]
              refine ⟨_, rfl, _, by rw [List.length_append, hl]; rfl, ht3.append (.rep (by omega) hrt .nil), hr.snocr (by omega) ⟨he, by omega⟩ hr', ?_⟩
              rw [List.length_append, hmul, List.length_flatten, List.map_replicate, List.sum_replicate_nat]
              have : (i + 1) * ns.length ≤ t * (3 * runB t k') := Nat.mul_le_mul (by omega) hn'
              show ms.length + (i + 1) * ns.length ≤ j * runB t (k' + 1) + t * (3 * runB t k')
              omega
        rw [seq_bind]
        refine ok_seq (ok_mono inner fun o ho => ?_)
        have hg := go o ho
        obtain ⟨es, ns, rfl, _⟩ := ho
        exact hg
    · obtain ⟨ms, hl, ht3, hr, hm⟩ := hs
      simp only [rb, tuple_l, okr]
      exact ⟨s, ms, rfl, by omega, ht3, hr, Nat.le_trans hm (Nat.mul_le_mul_right _ (by omega))⟩
/-! Numbers and runs as such. -/
theorem isi_ii {i : Int} : isiR "int" (.int i) = R.ret (.bool true) := Eq.trans rfl rfl
theorem isi_ib {i : Int} : isiR "bool" (.int i) = R.ret (.bool false) := Eq.trans rfl rfl
theorem isi_tt {xs : List D} : isiR "tuple" (.tuple xs) = R.ret (.bool true) := Eq.trans rfl rfl
theorem isi_ss {x : Str} : isiR "str" (.str x) = R.ret (.bool true) := Eq.trans rfl rfl
theorem is_nn : isR .none .none = R.ret (.bool true) := Eq.trans rfl rfl
theorem is_in {i : Int} : isR (.int i) .none = R.ret (.bool false) := Eq.trans rfl rfl
theorem number_ok {i lo : Int} : Ok (m_is_number (.int i) (.int lo) .none) fun d => d = .bool (decide (lo ≤ i)) := by
  unfold m_is_number o_is_number
  refine ok_end ?_
  simp only [rb, R.bind_assoc, isi_ii, isi_ib, bool_b, Bool.not_true, Bool.false_eq_true, if_false, lt_int, is_nn, if_true]
  by_cases h : i < lo
  · simp only [h, decide_true, if_true]
    refine ok_up ?_
    simp only [okr]
    rw [decide_eq_false (by omega)]
  · simp only [h, decide_false, Bool.false_eq_true, if_false, okr]
    rw [decide_eq_true (by omega)]
theorem number_ok2 {i lo hi : Int} : Ok (m_is_number (.int i) (.int lo) (.int hi)) fun d => d = .bool (decide (lo ≤ i ∧ i ≤ hi)) := by
  unfold m_is_number o_is_number
  refine ok_end ?_
  simp only [rb, R.bind_assoc, isi_ii, isi_ib, bool_b, Bool.not_true, Bool.false_eq_true, if_false, lt_int, is_in, le_int]
  by_cases h : i < lo
  · simp only [h, decide_true, if_true]
    refine ok_up ?_
    simp only [okr]
    rw [decide_eq_false (by omega)]
  · simp only [h, decide_false, Bool.false_eq_true, if_false, okr]
    congr 1
    exact decide_eq_decide.mpr ⟨fun z => ⟨by omega, z⟩, fun z => z.2⟩
/-! Runs are runs. -/
theorem eq_do_rep : eqR (.str "do") (.str "rep") = R.ret (.bool false) := eq_no (k := 0) (by unfold Pl; decide +kernel) (by unfold Pl; decide +kernel) (by decide) (fun h => by injection h with h; revert h; decide)
theorem eq_rep_rep : eqR (.str "rep") (.str "rep") = R.ret (.bool true) := eq_yes (k := 0) (by unfold Pl; decide +kernel) (by decide)
theorem ne_rep_rep : neR (.str "rep") (.str "rep") = R.ret (.bool false) := ne_no (k := 0) (by unfold Pl; decide +kernel) (by decide)
theorem steps_ok {b : Bk} {cm : Int} : ∀ (fu k : Nat) (ds : List D) (ms : List Nat) (nest : Int), RunD b.mm cm k ds ms → k < fu → (k : Int) < nest → k ≤ 20 → ds.length ≤ 1000 →
    Ok (m_are_steps fu b.d (.tuple ds) (.int nest)) fun d => d = .bool true := by
  intro fu
  induction fu with
  | zero => intro k ds ms nest _ hk; exact absurd hk (Nat.not_lt_zero _)
  | succ fu ih =>
    intro k ds ms nest hr hk hn hk20 hl
    unfold m_are_steps o_are_steps
    refine ok_end ?_
    simp only [rb, R.bind_assoc, isi_tt, bool_b, Bool.not_true, Bool.false_eq_true, if_false, items_t]
    refine ok_step (comp_all (P := fun y => ∃ z, y = PyData.bool z ∧ z = true) (Q := fun ys => ∃ zs : List Bool, ys = zs.map PyData.bool ∧ ∀ z ∈ zs, z = true) (fun d hd => ?_) (le_size hl) fun ys _ hy => all_map hy) fun ys hys => ?_
    · obtain ⟨i, hi, e⟩ := List.mem_iff_getElem.mp hd
      obtain ⟨m1, m2, _, _, h⟩ := hr.at (i := i) (d := d) (by rw [List.getElem?_eq_getElem hi, e])
      unfold m_is_step o_is_step
      refine ok_end ?_
      rcases h with ⟨m, hm, ed, em⟩ | ⟨k', c', es, ns, hkk, hc', he, r3, ed, em⟩
      · subst ed
        simp only [rb, R.bind_assoc, isi_tt, bool_b, Bool.not_true, Bool.false_eq_true, if_false, len_t, List.length_cons, List.length_nil, eq_int, ix0, ix1, isi_ss, eq_do, if_true, book_moves, b.moves_length, sub_int]
        simp only [show decide (((0 + 1 + 1 : Nat) : Int) = 0) = false by decide, show decide (((0 + 1 + 1 : Nat) : Int) = 2) = true by decide, Bool.false_eq_true, if_false, if_true, rb, R.bind_assoc, bool_b]
        refine ok_up ?_
        refine ok_step number_ok2 fun d e => ?_
        subst e
        simp only [okr]
        exact ⟨_, rfl, decide_eq_true (by omega)⟩
      · subst ed
        simp only [rb, R.bind_assoc, isi_tt, bool_b, Bool.not_true, Bool.false_eq_true, if_false, len_t, List.length_cons, List.length_nil, eq_int, ne_int, ix0, ix1, ix2, isi_ss, eq_rep, ne_rep_rep]
        simp only [show decide (((0 + 1 + 1 + 1 : Nat) : Int) = 0) = false by decide, show decide (((0 + 1 + 1 + 1 : Nat) : Int) = 3) = true by decide, Bool.not_true, Bool.false_eq_true, if_false, rb, R.bind_assoc, bool_b]
        refine ok_step number_ok fun d e => ?_
        subst e
        rw [decide_eq_true (show (1 : Int) ≤ ((c' + 1 : Nat) : Int) by omega)]
        have hg : (1 : Int) < nest := by omega
        simp only [rb, bool_b, Bool.not_true, Bool.false_eq_true, if_false, gt_int, hg, decide_true, if_true]
        rw [ne_yes (x := .tuple es) (y := .tuple []) r3.pl (by unfold Pl; simp) (by omega) (fun z => he.1 (by injection z))]
        simp only [rb, bool_b, if_true]
        refine ok_step (ih k' es ns (nest - 1) r3 (by omega) (by omega) (by omega) he.2) fun d e => ?_
        subst e
        simp only [okr]
        exact ⟨_, rfl, rfl⟩
    · obtain ⟨zs, rfl, hz⟩ := hys
      rw [all_bools]
      simp only [rb, okr]
      congr 1
      exact List.all_eq_true.mpr hz
theorem is_run_ok {b : Bk} {cm : Int} {k : Nat} {ds : List D} {ms : List Nat} (hr : RunD b.mm cm k ds ms) (hk : k < 10) (hl : ds.length ≤ 1000) : Ok (m_is_run b.d (.tuple ds)) fun d => d = .bool true := by
  unfold m_is_run o_is_run
  refine ok_end ?_
  simp only [rb, R.bind_assoc]
  refine ok_step (steps_ok 10 k ds ms 30 hr hk (by omega) (by omega) hl) fun d e => ?_
  subst e
  simp only [okr]
/-! A run written otherwise. -/
theorem _root_.Pu.RunD.lift {mm : Nat} {cm : Int} {k k' : Nat} {ds : List D} {ms : List Nat} (h : RunD mm cm k ds ms) (hk : k ≤ k') : RunD mm cm k' ds ms := by
  obtain ⟨j, rfl⟩ := Nat.exists_eq_add_of_le hk
  induction j with
  | zero => exact h
  | succ j ih => exact (ih (by omega)).up
theorem rep_two {ns : List Nat} : ∀ h : Nat, (List.replicate h (List.replicate 2 ns).flatten).flatten = (List.replicate (h * 2) ns).flatten
  | 0 => rfl
  | h + 1 => by
    rw [List.replicate_succ, List.flatten_cons, rep_two h, show (h + 1) * 2 = 2 + h * 2 by omega, ← List.replicate_append_replicate, List.flatten_append]
theorem rep_one {ns : List Nat} : (List.replicate 1 ns).flatten = ns := by simp
theorem RunD.rep1 {mm : Nat} {cm : Int} {k : Nat} {es : List D} {ns : List Nat} (c : Nat) (h1 : 1 ≤ c) (hc : (c : Int) ≤ cm) (he : es ≠ [] ∧ es.length ≤ 1000) (h : RunD mm cm k es ns) :
    RunD mm cm (k + 1) [.tuple [.str "rep", .int (c : Int), .tuple es]] (List.replicate c ns).flatten := by
  have := RunD.rep0 c hc he h
  rw [if_pos (by omega)] at this
  exact this
/-- how long it may be: for each step so many -/
def otL : Nat → Nat
  | 0 => 1
  | k + 1 => 3 * otL k + 2
theorem other_ok {mm : Nat} {cm : Int} (hcm : cm < 2 ^ 62) (hcm2 : 2 ≤ cm) : ∀ (fu k : Nat) (ds : List D) (ms : List Nat), RunD mm cm k ds ms → Thin k ds → ds.length ≤ 3 → k < fu → k ≤ 3 →
    Ok (m_law_other fu (.tuple ds)) fun d => ∃ es : List D, d = .tuple es ∧ RunD mm cm (2 * k + 1) es ms ∧ es.length ≤ ds.length * otL k ∧ (ds ≠ [] → es ≠ []) := by
  intro fu
  induction fu with
  | zero => intro k ds ms _ _ _ hk; exact absurd hk (Nat.not_lt_zero _)
  | succ fu ih =>
    intro k ds ms hr ht hl hk hk3
    have hL : otL k ≤ 53 := by
      match k, hk3 with
      | 0, _ => decide
      | 1, _ => decide
      | 2, _ => decide
      | 3, _ => decide
    have hL1 : 1 ≤ otL k := by
      match k with
      | 0 => exact Nat.le_refl _
      | k + 1 => show 1 ≤ 3 * otL k + 2; omega
    unfold m_law_other o_law_other
    refine ok_end ?_
    simp only [rb, R.bind_assoc, items_t]
    refine ok_seq (ok_for0 (fun j (s : List D) => ∃ m1 m2, RunD mm cm k (ds.drop j) m2 ∧ ms = m1 ++ m2 ∧ RunD mm cm (2 * k + 1) s m1 ∧ s.length ≤ j * otL k ∧ (0 < j → s ≠ [])) ⟨[], ms, hr, rfl, .nil, Nat.zero_le _, fun z => absurd z (Nat.lt_irrefl _)⟩ (fun j d s e hs => ?_) fun s hs => ?_)
    · obtain ⟨m1, m2, r2, ems, rs, hsl, _⟩ := hs
      have hj : j < ds.length := by
        by_cases hj : j < ds.length
        · exact hj
        · rw [List.getElem?_eq_none (by omega)] at e; cases e
      have hsl2 : s.length ≤ 200 := Nat.le_trans hsl (Nat.le_trans (Nat.mul_le_mul (show j ≤ 3 by omega) hL) (by decide))
      have hmul : (j + 1) * otL k = j * otL k + otL k := by rw [Nat.add_mul, Nat.one_mul]
      have e0 : (ds.drop j)[0]? = some d := by rw [List.getElem?_drop]; exact e
      obtain ⟨a1, a2, b1, b2, h⟩ := r2.at e0
      rw [List.take_zero] at b1
      rw [List.drop_drop] at b2
      have ea : a1 = [] := by cases b1; rfl
      subst ea
      -- what is to be shown of an end of the turn
      have fin : ∀ {f : D} {fs : List D} {fm : List Nat}, RunD mm cm (2 * k + 1) (f :: fs) fm → fs.length + 1 ≤ otL k → m2 = fm ++ a2 → ∃ m1 m2, RunD mm cm k (ds.drop (j + 1)) m2 ∧ ms = m1 ++ m2 ∧ RunD mm cm (2 * k + 1) (s ++ f :: fs) m1 ∧ (s ++ f :: fs).length ≤ (j + 1) * otL k ∧ (0 < j + 1 → (s ++ f :: fs) ≠ []) := fun {f fs fm} hf hfl em => by
        refine ⟨m1 ++ fm, a2, b2, by rw [ems, em, List.append_assoc], rs.append hf, by rw [List.length_append, List.length_cons, hmul]; omega, fun _ => by simp⟩
      refine ok_step (draw_lit (n := 5) (k := 5) (by decide) (by decide)) fun d' e' => ?_
      obtain ⟨q, hq, rfl⟩ := e'
      have happ : ∀ x : D, appR s x = R.ret (s ++ [x]) := fun x => app_ok (by omega)
      rcases h with ⟨m, hm, ed, em⟩ | ⟨k', c', es, ns, hkk, hc', he, r3, ed, em⟩
      · subst ed
        rw [List.nil_append] at em
        simp only [rb, ix0, eq_do, bool_b, if_true, eq_int]
        refine ok_up ?_
        have r1 : RunD mm cm 0 [.tuple [.str "do", .int (m : Int)]] [m] := .one hm .nil
        by_cases hq0 : (q : Int) = 0
        · simp only [hq0, decide_true, if_true, happ, rb]
          refine ok_seq ?_
          simp only [okr]
          refine fin (fs := []) (fm := [m]) ?_ (by simp; omega) em
          have := RunD.rep1 1 (Nat.le_refl _) (by omega) ⟨by simp, by simp⟩ r1 (cm := cm)
          rw [rep_one] at this
          exact this.lift (by omega)
        · simp only [hq0, decide_false, Bool.false_eq_true, if_false, happ, rb]
          refine ok_seq ?_
          simp only [okr]
          exact fin (fs := []) (fm := [m]) (r1.lift (by omega)) (by simp; omega) em
      · subst ed
        rw [List.nil_append] at em
        obtain ⟨k2, hk2, he3, ht2⟩ := ht.at e
        have ek : k2 = k' := by omega
        subst ek
        have eL : otL k = 3 * otL k2 + 2 := by rw [hk2]; rfl
        simp only [rb, ix0, ix1, ix2, eq_rep, bool_b, Bool.false_eq_true, if_false]
        refine ok_step (ih k2 es ns r3 ht2 he3 (by omega) (by omega)) fun d' e' => ?_
        obtain ⟨fs, rfl, rf, hfl, hfn⟩ := e'
        have hfl2 : fs.length ≤ 3 * otL k2 := Nat.le_trans hfl (Nat.mul_le_mul_right _ he3)
        have hf : fs ≠ [] ∧ fs.length ≤ 1000 := ⟨hfn he.1, by omega⟩
        have hc1 : ((c' + 1 : Nat) : Int) ≤ cm := by omega
        have kk : 2 * k + 1 = 2 * k2 + 1 + 1 + 1 := by omega
        simp only [rb, eq_int, gt_int, bool_b, add_int, sub_int]
        by_cases hA : q = 0 ∧ 1 ≤ c'
        · obtain ⟨rfl, hc1'⟩ := hA
          have hgt : (1 : Int) < ((c' + 1 : Nat) : Int) := by omega
          simp only [show decide (((0 : Nat) : Int) = 0) = true by decide, if_true, hgt, decide_true, R.bind_assoc, rb]
          refine ok_step (draw_lit (n := ((c' + 1 : Nat) : Int) - 1) (k := c') (by omega) (by omega)) fun d' e' => ?_
          obtain ⟨i, hi, rfl⟩ := e'
          simp only [add_int, sub_int, rb]
          rw [show (1 : Int) + (i : Int) = ((i + 1 : Nat) : Int) by omega, show ((c' + 1 : Nat) : Int) - ((i + 1 : Nat) : Int) = ((c' - i : Nat) : Int) by omega, cat_ok (by simp; omega)]
          simp only [rb, okr]
          refine fin (fs := [_]) (fm := (List.replicate (i + 1) ns).flatten ++ (List.replicate (c' - i) ns).flatten) ?_ (by simp; omega) ?_
          · have h1 := (RunD.rep1 (i + 1) (by omega) (by omega) hf rf).append (RunD.rep1 (c' - i) (by omega) (by omega) hf rf)
            exact h1.lift (by omega)
          · rw [em, ← List.flatten_append, List.replicate_append_replicate, show i + 1 + (c' - i) = c' + 1 by omega]
        · have hA' : (if (decide ((q : Int) = 0)) = true then (R.ret (decide ((1 : Int) < ((c' + 1 : Nat) : Int)))) else R.ret false : R Bool) = R.ret false := by
            by_cases hq0 : (q : Int) = 0
            · rw [if_pos (by simpa using hq0), decide_eq_false (by omega)]
            · rw [if_neg (by simpa using hq0)]
          rw [hA']
          simp only [rb, Bool.false_eq_true, if_false]
          by_cases hB : q = 1 ∧ 1 ≤ c'
          · obtain ⟨rfl, hc1'⟩ := hB
            have hgt : (1 : Int) < ((c' + 1 : Nat) : Int) := by omega
            simp only [show decide (((1 : Nat) : Int) = 1) = true by decide, if_true, hgt, decide_true, list_t, rb]
            rw [addl_ok (by omega)]
            simp only [rb]
            rw [cat_ok (by rw [List.length_append]; simp; omega), show ((c' + 1 : Nat) : Int) - 1 = ((c' : Nat) : Int) by omega]
            simp only [rb, okr, List.append_assoc]
            obtain ⟨f, ft, rfl⟩ : ∃ f ft, fs = f :: ft := by
              cases fs with
              | nil => exact absurd rfl hf.1
              | cons f ft => exact ⟨f, ft, rfl⟩
            rw [List.cons_append]
            rw [List.length_cons] at hfl2
            refine fin (fs := ft ++ [_]) (fm := ns ++ (List.replicate c' ns).flatten) ?_ (by rw [List.length_append]; simp; omega) ?_
            · exact ((rf.lift (show _ ≤ 2 * k + 1 by omega)).append ((RunD.rep1 c' hc1' (by omega) he r3).lift (by omega)))
            · rw [em, List.replicate_succ, List.flatten_cons]
          · have hB' : (if (decide ((q : Int) = 1)) = true then (R.ret (decide ((1 : Int) < ((c' + 1 : Nat) : Int)))) else R.ret false : R Bool) = R.ret false := by
              by_cases hq0 : (q : Int) = 1
              · rw [if_pos (by simpa using hq0), decide_eq_false (by omega)]
              · rw [if_neg (by simpa using hq0)]
            rw [hB']
            simp only [rb, Bool.false_eq_true, if_false, mod_int (show (2 : Int) ≠ 0 by decide)]
            have em2 : ((c' + 1 : Nat) : Int).fmod 2 = (((c' + 1) % 2 : Nat) : Int) := by rw [Int.fmod_eq_emod_of_nonneg _ (by omega)]; omega
            have ed2 : ((c' + 1 : Nat) : Int).fdiv 2 = (((c' + 1) / 2 : Nat) : Int) := by rw [Int.fdiv_eq_ediv_of_nonneg _ (by omega)]; omega
            rw [em2]
            simp only [eq_int, rb, bool_b]
            by_cases hC : q = 2 ∧ (c' + 1) % 2 = 0
            · obtain ⟨rfl, hev⟩ := hC
              simp only [show decide (((2 : Nat) : Int) = 2) = true by decide, if_true, hev, decide_true, eq_int, bool_b, show decide (((0 : Nat) : Int) = 0) = true by decide, fdiv_int (show (2 : Int) ≠ 0 by decide) (fd_small (by decide)), rb, ed2, happ, okr]
              refine fin (fs := []) (fm := (List.replicate (c' + 1) ns).flatten) ?_ (by simp; omega) em
              have h1 := RunD.rep1 2 (by decide) (by omega) hf rf
              have h2 := RunD.rep1 ((c' + 1) / 2) (by omega) (by omega) ⟨by simp, by simp⟩ h1
              rw [rep_two, show (c' + 1) / 2 * 2 = c' + 1 by omega] at h2
              exact h2.lift (by omega)
            · have hC' : (if (decide ((q : Int) = 2)) = true then (R.ret (decide ((((c' + 1) % 2 : Nat) : Int) = 0))) else R.ret false : R Bool) = R.ret false := by
                by_cases hq0 : (q : Int) = 2
                · rw [if_pos (by simpa using hq0), decide_eq_false (by omega)]
                · rw [if_neg (by simpa using hq0)]
              rw [hC']
              simp only [rb, Bool.false_eq_true, if_false]
              have h1 := RunD.rep1 (c' + 1) (by omega) hc1 hf rf
              by_cases hD : (q : Int) = 3
              · simp only [hD, decide_true, if_true, happ, rb, okr]
                refine fin (fs := []) (fm := (List.replicate (c' + 1) ns).flatten) ?_ (by simp; omega) em
                have h2 := RunD.rep1 1 (by decide) (by omega) ⟨by simp, by simp⟩ h1
                rw [rep_one] at h2
                exact h2.lift (by omega)
              · simp only [hD, decide_false, Bool.false_eq_true, if_false, happ, rb, okr]
                exact fin (fs := []) (fm := (List.replicate (c' + 1) ns).flatten) (h1.lift (by omega)) (by simp; omega) em
    · obtain ⟨m1, m2, r2, ems, rs, hsl, hne⟩ := hs
      rw [List.drop_length] at r2
      cases r2
      rw [List.append_nil] at ems
      simp only [tuple_l, rb, okr]
      exact ⟨s, rfl, by rw [ems]; exact rs, hsl, fun z => hne (List.length_pos_iff.mpr z)⟩
/-! The law: the same moves, written otherwise. -/
theorem pow9 : powR (.int 10) (.int 9) = R.ret (.int 1000000000) := pow_nat (i := 10) (k := 9) (by decide) (by decide)
theorem isNot_true : isNotR (.bool true) (.bool true) = R.ret (.bool false) := Eq.trans rfl rfl
theorem pl_stop {o : Option Nat} : Pl 1 (stopD o) := by cases o <;> first | exact pl_none | exact pl_int
theorem pl_end {c : Prop} [Decidable c] {n : Nat} {s : Nat → Int} : Pl 1 (if c then vec n s else PyData.none) := by
  by_cases h : c
  · rw [if_pos h]; exact pl_vec
  · rw [if_neg h]; exact pl_none
theorem law_ok : Ok o_law fun o => ∃ t, o = .rt (.bool true) t := by
  unfold o_law
  simp only [rb, R.bind_assoc, pow9]
  refine ok_step (book_ok (most := 9) (by decide)) fun d e => ?_
  obtain ⟨b, rfl, h, hn6, hm8⟩ := e
  have hn := fin1000 h
  simp only [book_names, book_moves, rb, len_t, h.nl, b.moves_length]
  refine ok_step (runt_ok (mm := b.mm) (t := 1000000000) (by decide) (by decide) 5 3 (by decide) (by decide)) fun d e => ?_
  obtain ⟨ds, ms, rfl, hdl, hthin, hr, hml⟩ := e
  have hcm : ((1000000000 : Nat) : Int) < 2 ^ 64 := by decide
  have hml : ms.length < 2 ^ 150 := Nat.lt_of_le_of_lt hml (by decide)
  refine ok_step (other_ok (by decide) (by decide) 5 3 ds ms hr hthin hdl (by decide) (by decide)) fun d e => ?_
  obtain ⟨es, rfl, ho, hel, _⟩ := e
  have hel2 : es.length ≤ 1000 := Nat.le_trans hel (Nat.le_trans (Nat.mul_le_mul_right _ hdl) (by decide))
  have ho : RunD b.mm ((1000000000 : Nat) : Int) 7 es ms := ho
  have hneed : ∀ {k : Nat} {xs : List D}, k < 8 → RunD b.mm ((1000000000 : Nat) : Int) k xs ms → Ok (m_need b.d (.tuple xs)) fun d => d = vec b.n (b.need ms) := fun hk hr => need_ok h hcm hr hk
  have hchg : ∀ {k : Nat} {xs : List D}, k < 8 → RunD b.mm ((1000000000 : Nat) : Int) k xs ms → Ok (m_change b.d (.tuple xs)) fun d => d = vec b.n (b.chg ms) := fun hk hr => change_ok h hcm hr hk
  have hend : ∀ {k : Nat} {xs : List D} {s : Nat → Int}, k < 8 → RunD b.mm ((1000000000 : Nat) : Int) k xs ms → Ok (m_end_of_run b.d (vec b.n s) (.tuple xs)) fun d => d = if Cov b.n s (b.need ms) then vec b.n fun k => s k + b.chg ms k else .none := fun hk hr => end_ok h hcm hr hk
  have hstop : ∀ {k : Nat} {xs : List D} {s : Nat → Int}, k < 8 → RunD b.mm ((1000000000 : Nat) : Int) k xs ms → (∀ k, k < b.n → 0 ≤ s k) → Ok (m_stops_at 8 b.d (vec b.n s) (.tuple xs)) fun d => d = stopD (b.stop s ms) := fun {k xs s} hk hr hs => stops_ok h (by decide) (by decide) hcm 8 k xs ms s (hr.toT hcm hml) hs hk (by omega)
  refine ok_step (is_run_ok ho (by decide) hel2) fun d e => ?_
  subst e
  rw [isNot_true]
  simp only [rb, R.bind_assoc, bool_b, Bool.false_eq_true, if_false]
  refine ok_step (length_ok 8 3 ds ms (by omega) hr hcm (by decide)) fun d e => ?_
  subst e
  refine ok_step (length_ok 8 7 es ms (by omega) ho hcm (by decide)) fun d e => ?_
  subst e
  simp only [ne_int, decide_true, Bool.not_true, rb, R.bind_assoc, bool_b, Bool.false_eq_true, if_false]
  refine ok_step (hneed (by decide) hr) fun d e => ?_
  subst e
  refine ok_step (hneed (by decide) ho) fun d e => ?_
  subst e
  rw [ne_no (k := 1) pl_vec (by decide)]
  simp only [rb, R.bind_assoc, bool_b, Bool.false_eq_true, if_false]
  refine ok_step (hchg (by decide) hr) fun d e => ?_
  subst e
  refine ok_step (hchg (by decide) ho) fun d e => ?_
  subst e
  rw [ne_no (k := 1) pl_vec (by decide)]
  simp only [rb, R.bind_assoc, bool_b, Bool.false_eq_true, if_false, rng_lit (k := 4) (n := 4) (by decide) (by decide)]
  refine ok_seq (ok_range (fun j s => True) trivial (fun j s hj _ => ?_) fun s _ => ?_)
  · simp only [mod_int (show (3 : Int) ≠ 0 by decide), rb, R.bind_assoc]
    refine ok_step (hneed (by decide) hr) fun d e => ?_
    subst e
    refine ok_step (stock_ok (most := 30) hn (by decide)) fun d e => ?_
    obtain ⟨s1, rfl, hs1⟩ := e
    refine ok_step (stock_ok (most := 1000000000) hn (by decide)) fun d e => ?_
    obtain ⟨s2, rfl, hs2⟩ := e
    have nn : ∀ k, 0 ≤ b.need ms k := Bk.need_nn h.tk0 ms
    -- one of the three
    have pick : ∃ s : Nat → Int, (∀ k, k < b.n → 0 ≤ s k) ∧ ixR (.list [vec b.n (b.need ms), vec b.n s1, vec b.n s2]) (.int ((j : Int).fmod 3)) = R.ret (vec b.n s) := by
      match j, hj with
      | 0, _ => exact ⟨b.need ms, fun k _ => nn k, ix_lst (k := 0) rfl⟩
      | 1, _ => exact ⟨s1, fun k _ => (hs1 k).1, ix_lst (k := 1) rfl⟩
      | 2, _ => exact ⟨s2, fun k _ => (hs2 k).1, ix_lst (k := 2) rfl⟩
      | 3, _ => exact ⟨b.need ms, fun k _ => nn k, ix_lst (k := 0) rfl⟩
    obtain ⟨s0, hs0, ep⟩ := pick
    rw [ep]
    simp only [rb, R.bind_assoc, eq_int, bool_b]
    -- the rest of the turn, from any stock
    have rest : ∀ s : Nat → Int, (∀ k, k < b.n → 0 ≤ s k) → Ok (R.bind (m_end_of_run b.d (vec b.n s) (.tuple ds)) fun x => R.bind (m_end_of_run b.d (vec b.n s) (.tuple es)) fun y => R.bind (neR x y) fun x => R.bind (boolR x) fun b' => if b' = true then up (R.ret (.rt (.bool false) ()))
        else R.bind (m_stops_at 8 b.d (vec b.n s) (.tuple ds)) fun x => R.bind (m_stops_at 8 b.d (vec b.n s) (.tuple es)) fun y => R.bind (neR x y) fun x => R.bind (boolR x) fun b' => if b' = true then (R.ret (.rt (.bool false) ()) : R (Out Unit Unit Unit)) else R.ret (.nx ())) fun o => o = .nx () := fun s hs => by
      refine ok_step (hend (by decide) hr) fun d e => ?_
      subst e
      refine ok_step (hend (by decide) ho) fun d e => ?_
      subst e
      rw [ne_no (k := 1) pl_end (by decide)]
      simp only [rb, R.bind_assoc, bool_b, Bool.false_eq_true, if_false]
      refine ok_step (hstop (by decide) hr hs) fun d e => ?_
      subst e
      refine ok_step (hstop (by decide) ho hs) fun d e => ?_
      subst e
      rw [ne_no (k := 1) pl_stop (by decide)]
      simp only [rb, bool_b, Bool.false_eq_true, if_false, okr]
    by_cases h3 : (j : Int) = 3
    · simp only [h3, decide_true, if_true, R.bind_assoc]
      refine ok_seq ?_
      refine ok_step (hneed (by decide) hr) fun d e => ?_
      subst e
      simp only [items_vec, rb]
      refine ok_step (comp_vec_ok (P := fun _ z => 0 ≤ z) (le_size hn) fun k hk => ?_) fun ys e => ?_
      · refine ok_step (draw_pos (by decide)) fun d e => ?_
        obtain ⟨x, hx0, hx1, rfl⟩ := e
        simp only [rb, sub_int, max_int, okr]
        exact ⟨_, rfl, by split <;> omega⟩
      · obtain ⟨t, rfl, ht, _⟩ := e
        simp only [tuple_l, rb, okr]
        exact ok_mono (rest t ht) fun o e => by subst e; trivial
    · simp only [h3, decide_false, Bool.false_eq_true, if_false]
      refine ok_seq ?_
      simp only [okr]
      exact ok_mono (rest s0 hs0) fun o e => by subst e; trivial
  · simp only [rb, okr]
    exact ⟨(), trivial⟩
theorem fin_m : ∀ ns : List Int, ns.length ≤ 63 → (m_law_numbers (.list (ns.map PyData.int)) (.int drawCount)).wp rowsOk (fun _ _ => False) := fun ns hl => (numbers_ok hl (N := 320) (by decide) (by decide)).w
theorem fin_o : o_law.wp (fun x => ∃ t, x = .rt (.bool true) t) fun _ _ => False := law_ok.w
end k13
/-! The walk. -/
namespace k13
open Pu PySem PySem.Spec PyProof.Rows L2 R
def top (i : Nat) : Stmt := PySem.Challenge.pw_mintlaw_k13_runs_written_otherwise.main.body.getD i (.Pass ⟨0, 0, 0, 0⟩)
structure G (P : Program) (w : World) (K : PySem.W.Frag) (mg : Str → Option Value) (base : Heap) : Prop where
  bt : Bt mg
  at_plus : At K mg "plus" (top 1) ["stock", "other"]
  at_less : At K mg "less" (top 2) ["stock", "other"]
  at_times : At K mg "times" (top 3) ["count", "stock"]
  at_greater : At K mg "greater" (top 4) ["stock", "other"]
  at_covers : At K mg "covers" (top 5) ["stock", "other"]
  at_can_do : At K mg "can_do" (top 6) ["book", "stock", "m"]
  at_done : At K mg "done" (top 7) ["book", "stock", "m"]
  at_need_and_change : At K mg "need_and_change" (top 8) ["book", "run"]
  at_need : At K mg "need" (top 9) ["book", "run"]
  at_change : At K mg "change" (top 10) ["book", "run"]
  at_length : At K mg "length" (top 11) ["run"]
  at_end_of_run : At K mg "end_of_run" (top 12) ["book", "stock", "run"]
  at_rounds : At K mg "rounds" (top 13) ["stock", "needed", "changed", "most"]
  at_stops_at : At K mg "stops_at" (top 14) ["book", "stock", "run"]
  at_is_number : At K mg "is_number" (top 17) ["value", "least", "most"]
  at_is_step : At K mg "is_step" (top 18) ["book", "value", "nested"]
  at_are_steps : At K mg "are_steps" (top 19) ["book", "value", "nested"]
  at_is_run : At K mg "is_run" (top 20) ["book", "value"]
  at_law_mix : At K mg "_law_mix" (top 22) ["_law_first", "_law_second"]
  at_law_numbers : At K mg "_law_numbers" (top 23) ["_law_script", "_law_count"]
  at_law_draws : At K mg "_law_draws" (top 24) ["_law_script", "_law_count"]
  at_law_take : At K mg "_law_take" (top 25) ["_law_draws_here", "_law_bound"]
  at_law_named : At K mg "_law_named" (top 26) ["_law_draws_here"]
  at_law_stock : At K mg "_law_stock" (top 27) ["_law_draws_here", "_law_n", "_law_most"]
  at_law_book : At K mg "_law_book" (top 28) ["_law_draws_here", "_law_most"]
  at_law_run : At K mg "_law_run" (top 29) ["_law_draws_here", "_law_moves", "_law_depth", "_law_times"]
  at_law_other : At K mg "_law_other" (top 30) ["_law_draws_here", "_law_run_here"]
  at_law : At K mg "law" (top 31) ["_law_script"]
  con_MAX_NESTED : GCon K mg "MAX_NESTED" (.int 30)
theorem s_plus : FnScope ["stock", "other", "k"] ["stock", "other"] (defScope (top 1)) := ⟨rfl, rfl, rfl, by decide +kernel, rfl, by decide +kernel, by decide +kernel⟩
theorem r_plus {X : Cx} {k : Nat} (c : Cd CX0 k wd0 ["stock", "other", "k"] (defScope (top 1)) X) (W : NoW wd0) (g : G X.prog X.w X.K X.mg X.base) (hk : 0 ≤ k) (v_stock v_other : D) :
    Run X wd0 (fun _ : Unit => [.no, .no, .no]) (fun e : Empty => e.elim) (fun _ : Unit => []) [.d v_stock, .d v_other, .no] (defBody (top 1)) (o_plus v_stock v_other) :=
  (run_ret (ev_tuple c.toCw g.bt (by decide +kernel) (Ev.look (EvL.ev (evl_comp c.toCw (i := 2) (by decide +kernel) (by rfl) (by decide +kernel) (by rfl) (by rfl) (EvI.j (evi_r1 c.toCw g.bt (by decide +kernel) (Ev.look (ev_len c.toCw g.bt (by decide +kernel) (Ev.look (ev_var c.toCw (i := 0) (by decide +kernel) (by rfl) (by rfl))))))) (fun v_k s0 H0 C cl fp => have c1 := Cw.blk c.toCw cx0F s0 H0 _ C cl fp; have W2 := NoW.calm W; (ev_add (Ev.look (ev_ix (Ev.look (ev_var c1 (i := 0) (by decide +kernel) (by rfl) (by rfl))) (Ev.look (ev_var c1 (i := 2) (by decide +kernel) (by rfl) (by rfl))))) (Ev.look (ev_ix (Ev.look (ev_var c1 (i := 1) (by decide +kernel) (by rfl) (by rfl))) (Ev.look (ev_var c1 (i := 2) (by decide +kernel) (by rfl) (by rfl))))))))))) ht0)
theorem d_plus {P : Program} {w : World} {K : PySem.W.Frag} {mg : Str → Option Value} {base : Heap} (g : G P w K mg base) : Df P w K mg base CX0 1 "plus" (spP K 2 (l2 m_plus)) :=
  df_of g.at_plus s_plus (m := l2 m_plus) (o := l2 o_plus) (fun ds hl => match ds, hl with | [v_stock, v_other], _ => rfl)
    fun X c e1 e2 e3 e4 e5 => by subst e1 e2 e3 e4 e5; exact fun ds hl => match ds, hl with | [v_stock, v_other], _ => r_plus c noW0 g (by decide) v_stock v_other
theorem s_less : FnScope ["stock", "other", "k"] ["stock", "other"] (defScope (top 2)) := ⟨rfl, rfl, rfl, by decide +kernel, rfl, by decide +kernel, by decide +kernel⟩
theorem r_less {X : Cx} {k : Nat} (c : Cd CX0 k wd0 ["stock", "other", "k"] (defScope (top 2)) X) (W : NoW wd0) (g : G X.prog X.w X.K X.mg X.base) (hk : 0 ≤ k) (v_stock v_other : D) :
    Run X wd0 (fun _ : Unit => [.no, .no, .no]) (fun e : Empty => e.elim) (fun _ : Unit => []) [.d v_stock, .d v_other, .no] (defBody (top 2)) (o_less v_stock v_other) :=
  (run_ret (ev_tuple c.toCw g.bt (by decide +kernel) (Ev.look (EvL.ev (evl_comp c.toCw (i := 2) (by decide +kernel) (by rfl) (by decide +kernel) (by rfl) (by rfl) (EvI.j (evi_r1 c.toCw g.bt (by decide +kernel) (Ev.look (ev_len c.toCw g.bt (by decide +kernel) (Ev.look (ev_var c.toCw (i := 0) (by decide +kernel) (by rfl) (by rfl))))))) (fun v_k s0 H0 C cl fp => have c1 := Cw.blk c.toCw cx0F s0 H0 _ C cl fp; have W2 := NoW.calm W; (ev_sub (Ev.look (ev_ix (Ev.look (ev_var c1 (i := 0) (by decide +kernel) (by rfl) (by rfl))) (Ev.look (ev_var c1 (i := 2) (by decide +kernel) (by rfl) (by rfl))))) (Ev.look (ev_ix (Ev.look (ev_var c1 (i := 1) (by decide +kernel) (by rfl) (by rfl))) (Ev.look (ev_var c1 (i := 2) (by decide +kernel) (by rfl) (by rfl))))))))))) ht0)
theorem d_less {P : Program} {w : World} {K : PySem.W.Frag} {mg : Str → Option Value} {base : Heap} (g : G P w K mg base) : Df P w K mg base CX0 1 "less" (spP K 2 (l2 m_less)) :=
  df_of g.at_less s_less (m := l2 m_less) (o := l2 o_less) (fun ds hl => match ds, hl with | [v_stock, v_other], _ => rfl)
    fun X c e1 e2 e3 e4 e5 => by subst e1 e2 e3 e4 e5; exact fun ds hl => match ds, hl with | [v_stock, v_other], _ => r_less c noW0 g (by decide) v_stock v_other
theorem s_times : FnScope ["count", "stock", "entry"] ["count", "stock"] (defScope (top 3)) := ⟨rfl, rfl, rfl, by decide +kernel, rfl, by decide +kernel, by decide +kernel⟩
theorem r_times {X : Cx} {k : Nat} (c : Cd CX0 k wd0 ["count", "stock", "entry"] (defScope (top 3)) X) (W : NoW wd0) (g : G X.prog X.w X.K X.mg X.base) (hk : 0 ≤ k) (v_count v_stock : D) :
    Run X wd0 (fun _ : Unit => [.no, .no, .no]) (fun e : Empty => e.elim) (fun _ : Unit => []) [.d v_count, .d v_stock, .no] (defBody (top 3)) (o_times v_count v_stock) :=
  (run_ret (ev_tuple c.toCw g.bt (by decide +kernel) (Ev.look (EvL.ev (evl_comp c.toCw (i := 2) (by decide +kernel) (by rfl) (by decide +kernel) (by rfl) (by rfl) (evj_seq (Ev.look (ev_var c.toCw (i := 1) (by decide +kernel) (by rfl) (by rfl)))) (fun v_entry s0 H0 C cl fp => have c1 := Cw.blk c.toCw cx0F s0 H0 _ C cl fp; have W2 := NoW.calm W; (ev_mul (Ev.look (ev_var c1 (i := 0) (by decide +kernel) (by rfl) (by rfl))) (Ev.look (ev_var c1 (i := 2) (by decide +kernel) (by rfl) (by rfl))))))))) ht0)
theorem d_times {P : Program} {w : World} {K : PySem.W.Frag} {mg : Str → Option Value} {base : Heap} (g : G P w K mg base) : Df P w K mg base CX0 1 "times" (spP K 2 (l2 m_times)) :=
  df_of g.at_times s_times (m := l2 m_times) (o := l2 o_times) (fun ds hl => match ds, hl with | [v_count, v_stock], _ => rfl)
    fun X c e1 e2 e3 e4 e5 => by subst e1 e2 e3 e4 e5; exact fun ds hl => match ds, hl with | [v_count, v_stock], _ => r_times c noW0 g (by decide) v_count v_stock
theorem s_greater : FnScope ["stock", "other", "k"] ["stock", "other"] (defScope (top 4)) := ⟨rfl, rfl, rfl, by decide +kernel, rfl, by decide +kernel, by decide +kernel⟩
theorem r_greater {X : Cx} {k : Nat} (c : Cd CX0 k wd0 ["stock", "other", "k"] (defScope (top 4)) X) (W : NoW wd0) (g : G X.prog X.w X.K X.mg X.base) (hk : 0 ≤ k) (v_stock v_other : D) :
    Run X wd0 (fun _ : Unit => [.no, .no, .no]) (fun e : Empty => e.elim) (fun _ : Unit => []) [.d v_stock, .d v_other, .no] (defBody (top 4)) (o_greater v_stock v_other) :=
  (run_ret (ev_tuple c.toCw g.bt (by decide +kernel) (Ev.look (EvL.ev (evl_comp c.toCw (i := 2) (by decide +kernel) (by rfl) (by decide +kernel) (by rfl) (by rfl) (EvI.j (evi_r1 c.toCw g.bt (by decide +kernel) (Ev.look (ev_len c.toCw g.bt (by decide +kernel) (Ev.look (ev_var c.toCw (i := 0) (by decide +kernel) (by rfl) (by rfl))))))) (fun v_k s0 H0 C cl fp => have c1 := Cw.blk c.toCw cx0F s0 H0 _ C cl fp; have W2 := NoW.calm W; (ev_max c1 g.bt (by decide +kernel) (Ev.look (ev_ix (Ev.look (ev_var c1 (i := 0) (by decide +kernel) (by rfl) (by rfl))) (Ev.look (ev_var c1 (i := 2) (by decide +kernel) (by rfl) (by rfl))))) (Ev.look (ev_ix (Ev.look (ev_var c1 (i := 1) (by decide +kernel) (by rfl) (by rfl))) (Ev.look (ev_var c1 (i := 2) (by decide +kernel) (by rfl) (by rfl))))))))))) ht0)
theorem d_greater {P : Program} {w : World} {K : PySem.W.Frag} {mg : Str → Option Value} {base : Heap} (g : G P w K mg base) : Df P w K mg base CX0 1 "greater" (spP K 2 (l2 m_greater)) :=
  df_of g.at_greater s_greater (m := l2 m_greater) (o := l2 o_greater) (fun ds hl => match ds, hl with | [v_stock, v_other], _ => rfl)
    fun X c e1 e2 e3 e4 e5 => by subst e1 e2 e3 e4 e5; exact fun ds hl => match ds, hl with | [v_stock, v_other], _ => r_greater c noW0 g (by decide) v_stock v_other
theorem s_covers : FnScope ["stock", "other", "k"] ["stock", "other"] (defScope (top 5)) := ⟨rfl, rfl, rfl, by decide +kernel, rfl, by decide +kernel, by decide +kernel⟩
theorem r_covers {X : Cx} {k : Nat} (c : Cd CX0 k wd0 ["stock", "other", "k"] (defScope (top 5)) X) (W : NoW wd0) (g : G X.prog X.w X.K X.mg X.base) (hk : 0 ≤ k) (v_stock v_other : D) :
    Run X wd0 (fun _ : Unit => [.no, .no, .no]) (fun e : Empty => e.elim) (fun _ : Unit => []) [.d v_stock, .d v_other, .no] (defBody (top 5)) (o_covers v_stock v_other) :=
  (run_for (S1 := Unit) (eS1 := fun (s1 : Unit) => [.d v_stock, .d v_other, .no]) (s0 := ()) c (i := 2) (by decide +kernel) (by rfl) (evi_r1 c.toCw g.bt (by decide +kernel) (Ev.look (ev_len c.toCw g.bt (by decide +kernel) (Ev.look (ev_var c.toCw (i := 0) (by decide +kernel) (by rfl) (by rfl)))))) (le_eq (le_eq (le_no le_nil))) (fun s1 v_k => (run_if1 (evt_w (evw_and (evt_ne c.toCw (Ev.look (ev_ix (Ev.look (ev_var c.toCw (i := 0) (by decide +kernel) (by rfl) (by rfl))) (Ev.look (ev_var c.toCw (i := 2) (by decide +kernel) (by rfl) (by rfl))))) (Ev.look (ev_neg (Ev.look ev_int)))) (evw_and1 (evt_w (evw_or (evt_eq c.toCw (Ev.look (ev_ix (Ev.look (ev_var c.toCw (i := 1) (by decide +kernel) (by rfl) (by rfl))) (Ev.look (ev_var c.toCw (i := 2) (by decide +kernel) (by rfl) (by rfl))))) (Ev.look (ev_neg (Ev.look ev_int)))) (evw_or1 (evt_lt (Ev.look (ev_ix (Ev.look (ev_var c.toCw (i := 0) (by decide +kernel) (by rfl) (by rfl))) (Ev.look (ev_var c.toCw (i := 2) (by decide +kernel) (by rfl) (by rfl))))) (Ev.look (ev_ix (Ev.look (ev_var c.toCw (i := 1) (by decide +kernel) (by rfl) (by rfl))) (Ev.look (ev_var c.toCw (i := 2) (by decide +kernel) (by rfl) (by rfl)))))))))))) (run_ret ev_bl ht0) (run_nil (le_eq (le_eq (le_no le_nil)))))) (fun s1 => (run_ret ev_bl ht0)))
theorem d_covers {P : Program} {w : World} {K : PySem.W.Frag} {mg : Str → Option Value} {base : Heap} (g : G P w K mg base) : Df P w K mg base CX0 1 "covers" (spP K 2 (l2 m_covers)) :=
  df_of g.at_covers s_covers (m := l2 m_covers) (o := l2 o_covers) (fun ds hl => match ds, hl with | [v_stock, v_other], _ => rfl)
    fun X c e1 e2 e3 e4 e5 => by subst e1 e2 e3 e4 e5; exact fun ds hl => match ds, hl with | [v_stock, v_other], _ => r_covers c noW0 g (by decide) v_stock v_other
theorem s_can_do : FnScope ["book", "stock", "m"] ["book", "stock", "m"] (defScope (top 6)) := ⟨rfl, rfl, rfl, by decide +kernel, rfl, by decide +kernel, by decide +kernel⟩
theorem r_can_do {X : Cx} {k : Nat} (c : Cd CX0 k wd0 ["book", "stock", "m"] (defScope (top 6)) X) (W : NoW wd0) (g : G X.prog X.w X.K X.mg X.base) (hk : 1 ≤ k) (v_book v_stock v_m : D) :
    Run X wd0 (fun _ : Unit => [.no, .no, .no]) (fun e : Empty => e.elim) (fun _ : Unit => []) [.d v_book, .d v_stock, .d v_m] (defBody (top 6)) (o_can_do v_book v_stock v_m) :=
  (run_ret (ev_call2 c.toCw W (d_covers g) (Nat.le_trans (by decide) hk) (by decide +kernel) (ev_var c.toCw (i := 1) (by decide +kernel) (by rfl) (by rfl)) (ev_ix (Ev.look (ev_ix (Ev.look (ev_ix (Ev.look (ev_var c.toCw (i := 0) (by decide +kernel) (by rfl) (by rfl))) (Ev.look ev_int))) (Ev.look (ev_var c.toCw (i := 2) (by decide +kernel) (by rfl) (by rfl))))) (Ev.look ev_int))) ht0)
theorem d_can_do {P : Program} {w : World} {K : PySem.W.Frag} {mg : Str → Option Value} {base : Heap} (g : G P w K mg base) : Df P w K mg base CX0 2 "can_do" (spP K 3 (l3 m_can_do)) :=
  df_of g.at_can_do s_can_do (m := l3 m_can_do) (o := l3 o_can_do) (fun ds hl => match ds, hl with | [v_book, v_stock, v_m], _ => rfl)
    fun X c e1 e2 e3 e4 e5 => by subst e1 e2 e3 e4 e5; exact fun ds hl => match ds, hl with | [v_book, v_stock, v_m], _ => r_can_do c noW0 g (by decide) v_book v_stock v_m
theorem s_done : FnScope ["book", "stock", "m"] ["book", "stock", "m"] (defScope (top 7)) := ⟨rfl, rfl, rfl, by decide +kernel, rfl, by decide +kernel, by decide +kernel⟩
theorem r_done {X : Cx} {k : Nat} (c : Cd CX0 k wd0 ["book", "stock", "m"] (defScope (top 7)) X) (W : NoW wd0) (g : G X.prog X.w X.K X.mg X.base) (hk : 1 ≤ k) (v_book v_stock v_m : D) :
    Run X wd0 (fun _ : Unit => [.no, .no, .no]) (fun e : Empty => e.elim) (fun _ : Unit => []) [.d v_book, .d v_stock, .d v_m] (defBody (top 7)) (o_done v_book v_stock v_m) :=
  (run_ret (ev_call2 c.toCw W (d_plus g) (Nat.le_trans (by decide) hk) (by decide +kernel) (ev_call2 c.toCw W (d_less g) (Nat.le_trans (by decide) hk) (by decide +kernel) (ev_var c.toCw (i := 1) (by decide +kernel) (by rfl) (by rfl)) (ev_ix (Ev.look (ev_ix (Ev.look (ev_ix (Ev.look (ev_var c.toCw (i := 0) (by decide +kernel) (by rfl) (by rfl))) (Ev.look ev_int))) (Ev.look (ev_var c.toCw (i := 2) (by decide +kernel) (by rfl) (by rfl))))) (Ev.look ev_int))) (ev_ix (Ev.look (ev_ix (Ev.look (ev_ix (Ev.look (ev_var c.toCw (i := 0) (by decide +kernel) (by rfl) (by rfl))) (Ev.look ev_int))) (Ev.look (ev_var c.toCw (i := 2) (by decide +kernel) (by rfl) (by rfl))))) (Ev.look ev_int))) ht0)
theorem d_done {P : Program} {w : World} {K : PySem.W.Frag} {mg : Str → Option Value} {base : Heap} (g : G P w K mg base) : Df P w K mg base CX0 2 "done" (spP K 3 (l3 m_done)) :=
  df_of g.at_done s_done (m := l3 m_done) (o := l3 o_done) (fun ds hl => match ds, hl with | [v_book, v_stock, v_m], _ => rfl)
    fun X c e1 e2 e3 e4 e5 => by subst e1 e2 e3 e4 e5; exact fun ds hl => match ds, hl with | [v_book, v_stock, v_m], _ => r_done c noW0 g (by decide) v_book v_stock v_m
theorem s_need_and_change : FnScope ["book", "run", "zero", "needed", "changed", "step", "take", "step_need", "step_change", "once", "inner"] ["book", "run"] (defScope (top 8)) := ⟨rfl, rfl, rfl, by decide +kernel, rfl, by decide +kernel, by decide +kernel⟩
theorem r_need_and_change {X : Cx} {k : Nat} (c : Cd CX0 k wd0 ["book", "run", "zero", "needed", "changed", "step", "take", "step_need", "step_change", "once", "inner"] (defScope (top 8)) X) (W : NoW wd0) (g : G X.prog X.w X.K X.mg X.base) (hk : 1 ≤ k) {j : Nat} {rec : D → D → R D} (hrec : Df X.prog X.w X.K X.mg X.base CX0 j "need_and_change" (spP X.K 2 (l2 rec))) (hj : j + 0 ≤ k) (hb : 2 ≤ j) (v_book v_run : D) :
    Run X wd0 (fun _ : Unit => [.no, .no, .no, .no, .no, .no, .no, .no, .no, .no, .no]) (fun e : Empty => e.elim) (fun _ : Unit => []) [.d v_book, .d v_run, .no, .no, .no, .no, .no, .no, .no, .no, .no] (defBody (top 8)) (o_need_and_change rec v_book v_run) :=
  (run_set c (i := 2) (by decide +kernel) (by rfl) (ev_mul (Ev.look (ev_tup1 ev_int)) (Ev.look (ev_len c.toCw g.bt (by decide +kernel) (Ev.look (ev_ix (Ev.look (ev_var c.toCw (i := 0) (by decide +kernel) (by rfl) (by rfl))) (Ev.look ev_int)))))) (fun v_zero => (run_set c (i := 3) (by decide +kernel) (by rfl) (ev_var c.toCw (i := 2) (by decide +kernel) (by rfl) (by rfl)) (fun v_needed => (run_set c (i := 4) (by decide +kernel) (by rfl) (ev_var c.toCw (i := 2) (by decide +kernel) (by rfl) (by rfl)) (fun v_changed => (run_for (S1 := D × D) (eS1 := fun (s1 : D × D) => [.d v_book, .d v_run, .d v_zero, .d s1.1, .d s1.2, .no, .no, .no, .no, .no, .no]) (s0 := (v_needed, v_changed)) c (i := 5) (by decide +kernel) (by rfl) (evi_seq (ev_var c.toCw (i := 1) (by decide +kernel) (by rfl) (by rfl))) (le_eq (le_eq (le_eq (le_eq (le_eq (le_no (le_no (le_no (le_no (le_no (le_no le_nil))))))))))) (fun s1 v_step => (run_if (eS1 := fun (s2 : D × D) => [.d v_book, .d v_run, .d v_zero, .d s1.1, .d s1.2, .d v_step, .no, .d s2.1, .d s2.2, .no, .no]) (evt_eq c.toCw (Ev.look (ev_ix (Ev.look (ev_var c.toCw (i := 5) (by decide +kernel) (by rfl) (by rfl))) (Ev.look ev_int))) (Ev.look ev_str)) (run_set c (i := 6) (by decide +kernel) (by rfl) (ev_ix (Ev.look (ev_ix (Ev.look (ev_ix (Ev.look (ev_var c.toCw (i := 0) (by decide +kernel) (by rfl) (by rfl))) (Ev.look ev_int))) (Ev.look (ev_ix (Ev.look (ev_var c.toCw (i := 5) (by decide +kernel) (by rfl) (by rfl))) (Ev.look ev_int))))) (Ev.look ev_int)) (fun v_take => (run_set c (i := 7) (by decide +kernel) (by rfl) (ev_var c.toCw (i := 6) (by decide +kernel) (by rfl) (by rfl)) (fun v_step_need => (run_set c (i := 8) (by decide +kernel) (by rfl) (ev_call2 c.toCw W (d_less g) (Nat.le_trans (by decide) hk) (by decide +kernel) (ev_ix (Ev.look (ev_ix (Ev.look (ev_ix (Ev.look (ev_var c.toCw (i := 0) (by decide +kernel) (by rfl) (by rfl))) (Ev.look ev_int))) (Ev.look (ev_ix (Ev.look (ev_var c.toCw (i := 5) (by decide +kernel) (by rfl) (by rfl))) (Ev.look ev_int))))) (Ev.look ev_int)) (ev_var c.toCw (i := 6) (by decide +kernel) (by rfl) (by rfl))) (fun v_step_change => (run_nil (le_eq (le_eq (le_eq (le_eq (le_eq (le_eq (le_no (le_eq (le_eq (le_no (le_no le_nil)))))))))))))))))) (run_unp2 c (i := 9) (j := 10) (by decide +kernel) (by rfl) (by decide +kernel) (by rfl) (ev_call2 c.toCw W hrec (by omega) (by decide +kernel) (ev_var c.toCw (i := 0) (by decide +kernel) (by rfl) (by rfl)) (ev_ix (Ev.look (ev_var c.toCw (i := 5) (by decide +kernel) (by rfl) (by rfl))) (Ev.look ev_int))) (fun v_once v_inner => (run_set c (i := 7) (by decide +kernel) (by rfl) (ev_call2 c.toCw W (d_greater g) (Nat.le_trans (by decide) hk) (by decide +kernel) (ev_var c.toCw (i := 9) (by decide +kernel) (by rfl) (by rfl)) (ev_call2 c.toCw W (d_less g) (Nat.le_trans (by decide) hk) (by decide +kernel) (ev_var c.toCw (i := 9) (by decide +kernel) (by rfl) (by rfl)) (ev_call2 c.toCw W (d_times g) (Nat.le_trans (by decide) hk) (by decide +kernel) (ev_sub (Ev.look (ev_ix (Ev.look (ev_var c.toCw (i := 5) (by decide +kernel) (by rfl) (by rfl))) (Ev.look ev_int))) (Ev.look ev_int)) (ev_var c.toCw (i := 10) (by decide +kernel) (by rfl) (by rfl))))) (fun v_step_need => (run_set c (i := 8) (by decide +kernel) (by rfl) (ev_call2 c.toCw W (d_times g) (Nat.le_trans (by decide) hk) (by decide +kernel) (ev_ix (Ev.look (ev_var c.toCw (i := 5) (by decide +kernel) (by rfl) (by rfl))) (Ev.look ev_int)) (ev_var c.toCw (i := 10) (by decide +kernel) (by rfl) (by rfl))) (fun v_step_change => (run_nil (le_eq (le_eq (le_eq (le_eq (le_eq (le_eq (le_no (le_eq (le_eq (le_no (le_no le_nil)))))))))))))))))) (fun s2 => (run_set c (i := 3) (by decide +kernel) (by rfl) (ev_call2 c.toCw W (d_greater g) (Nat.le_trans (by decide) hk) (by decide +kernel) (ev_var c.toCw (i := 3) (by decide +kernel) (by rfl) (by rfl)) (ev_call2 c.toCw W (d_less g) (Nat.le_trans (by decide) hk) (by decide +kernel) (ev_var c.toCw (i := 7) (by decide +kernel) (by rfl) (by rfl)) (ev_var c.toCw (i := 4) (by decide +kernel) (by rfl) (by rfl)))) (fun v_needed => (run_set c (i := 4) (by decide +kernel) (by rfl) (ev_call2 c.toCw W (d_plus g) (Nat.le_trans (by decide) hk) (by decide +kernel) (ev_var c.toCw (i := 4) (by decide +kernel) (by rfl) (by rfl)) (ev_var c.toCw (i := 8) (by decide +kernel) (by rfl) (by rfl))) (fun v_changed => (run_nil (le_eq (le_eq (le_eq (le_eq (le_eq (le_no (le_no (le_no (le_no (le_no (le_no le_nil))))))))))))))))))) (fun s1 => (run_ret (ev_tup2 (ev_var c.toCw (i := 3) (by decide +kernel) (by rfl) (by rfl)) (ev_var c.toCw (i := 4) (by decide +kernel) (by rfl) (by rfl))) ht0)))))))))
theorem d_need_and_change {P : Program} {w : World} {K : PySem.W.Frag} {mg : Str → Option Value} {base : Heap} (g : G P w K mg base) : ∀ n : Nat, Df P w K mg base CX0 (2 + 1 * n) "need_and_change" (spP K 2 (l2 (m_need_and_change n)))
  | 0 => df_bad g.at_need_and_change fun ds => (by unfold l2; split <;> rfl)
  | n + 1 => df_of (k := 2 + 1 * n + 0) g.at_need_and_change s_need_and_change (m := l2 (m_need_and_change (n + 1))) (o := l2 (o_need_and_change (m_need_and_change n))) (fun ds hl => match ds, hl with | [v_book, v_run], _ => rfl)
      fun X c e1 e2 e3 e4 e5 => by subst e1 e2 e3 e4 e5; exact fun ds hl => match ds, hl with | [v_book, v_run], _ => r_need_and_change (k := 2 + 1 * n + 0) c noW0 g (by omega) (d_need_and_change g n) (by omega) (by omega) v_book v_run
theorem s_need : FnScope ["book", "run"] ["book", "run"] (defScope (top 9)) := ⟨rfl, rfl, rfl, by decide +kernel, rfl, by decide +kernel, by decide +kernel⟩
theorem r_need {X : Cx} {k : Nat} (c : Cd CX0 k wd0 ["book", "run"] (defScope (top 9)) X) (W : NoW wd0) (g : G X.prog X.w X.K X.mg X.base) (hk : 10 ≤ k) (v_book v_run : D) :
    Run X wd0 (fun _ : Unit => [.no, .no]) (fun e : Empty => e.elim) (fun _ : Unit => []) [.d v_book, .d v_run] (defBody (top 9)) (o_need v_book v_run) :=
  (run_ret (ev_ix (Ev.look (ev_call2 c.toCw W (d_need_and_change g 8) (Nat.le_trans (by decide) hk) (by decide +kernel) (ev_var c.toCw (i := 0) (by decide +kernel) (by rfl) (by rfl)) (ev_var c.toCw (i := 1) (by decide +kernel) (by rfl) (by rfl)))) (Ev.look ev_int)) ht0)
theorem d_need {P : Program} {w : World} {K : PySem.W.Frag} {mg : Str → Option Value} {base : Heap} (g : G P w K mg base) : Df P w K mg base CX0 11 "need" (spP K 2 (l2 m_need)) :=
  df_of g.at_need s_need (m := l2 m_need) (o := l2 o_need) (fun ds hl => match ds, hl with | [v_book, v_run], _ => rfl)
    fun X c e1 e2 e3 e4 e5 => by subst e1 e2 e3 e4 e5; exact fun ds hl => match ds, hl with | [v_book, v_run], _ => r_need c noW0 g (by decide) v_book v_run
theorem s_change : FnScope ["book", "run"] ["book", "run"] (defScope (top 10)) := ⟨rfl, rfl, rfl, by decide +kernel, rfl, by decide +kernel, by decide +kernel⟩
theorem r_change {X : Cx} {k : Nat} (c : Cd CX0 k wd0 ["book", "run"] (defScope (top 10)) X) (W : NoW wd0) (g : G X.prog X.w X.K X.mg X.base) (hk : 10 ≤ k) (v_book v_run : D) :
    Run X wd0 (fun _ : Unit => [.no, .no]) (fun e : Empty => e.elim) (fun _ : Unit => []) [.d v_book, .d v_run] (defBody (top 10)) (o_change v_book v_run) :=
  (run_ret (ev_ix (Ev.look (ev_call2 c.toCw W (d_need_and_change g 8) (Nat.le_trans (by decide) hk) (by decide +kernel) (ev_var c.toCw (i := 0) (by decide +kernel) (by rfl) (by rfl)) (ev_var c.toCw (i := 1) (by decide +kernel) (by rfl) (by rfl)))) (Ev.look ev_int)) ht0)
theorem d_change {P : Program} {w : World} {K : PySem.W.Frag} {mg : Str → Option Value} {base : Heap} (g : G P w K mg base) : Df P w K mg base CX0 11 "change" (spP K 2 (l2 m_change)) :=
  df_of g.at_change s_change (m := l2 m_change) (o := l2 o_change) (fun ds hl => match ds, hl with | [v_book, v_run], _ => rfl)
    fun X c e1 e2 e3 e4 e5 => by subst e1 e2 e3 e4 e5; exact fun ds hl => match ds, hl with | [v_book, v_run], _ => r_change c noW0 g (by decide) v_book v_run
theorem s_length : FnScope ["run", "step"] ["run"] (defScope (top 11)) := ⟨rfl, rfl, rfl, by decide +kernel, rfl, by decide +kernel, by decide +kernel⟩
theorem r_length {X : Cx} {k : Nat} (c : Cd CX0 k wd0 ["run", "step"] (defScope (top 11)) X) (W : NoW wd0) (g : G X.prog X.w X.K X.mg X.base) (hk : 0 ≤ k) {j : Nat} {rec : D → R D} (hrec : Df X.prog X.w X.K X.mg X.base CX0 j "length" (spP X.K 1 (l1 rec))) (hj : j + 0 ≤ k) (hb : 1 ≤ j) (v_run : D) :
    Run X wd0 (fun _ : Unit => [.no, .no]) (fun e : Empty => e.elim) (fun _ : Unit => []) [.d v_run, .no] (defBody (top 11)) (o_length rec v_run) :=
  (run_ret (ev_sum c.toCw g.bt (by decide +kernel) (Ev.look (EvL.ev (evl_comp c.toCw (i := 1) (by decide +kernel) (by rfl) (by decide +kernel) (by rfl) (by rfl) (evj_seq (Ev.look (ev_var c.toCw (i := 0) (by decide +kernel) (by rfl) (by rfl)))) (fun v_step s0 H0 C cl fp => have c1 := Cw.blk c.toCw cx0F s0 H0 _ C cl fp; have W2 := NoW.calm W; (ev_ifExp (evt_eq c1 (Ev.look (ev_ix (Ev.look (ev_var c1 (i := 1) (by decide +kernel) (by rfl) (by rfl))) (Ev.look ev_int))) (Ev.look ev_str)) ev_int (ev_mul (Ev.look (ev_ix (Ev.look (ev_var c1 (i := 1) (by decide +kernel) (by rfl) (by rfl))) (Ev.look ev_int))) (Ev.look (ev_call1 c1 W2 hrec (by omega) (by decide +kernel) (ev_ix (Ev.look (ev_var c1 (i := 1) (by decide +kernel) (by rfl) (by rfl))) (Ev.look ev_int))))))))))) ht0)
theorem d_length {P : Program} {w : World} {K : PySem.W.Frag} {mg : Str → Option Value} {base : Heap} (g : G P w K mg base) : ∀ n : Nat, Df P w K mg base CX0 (1 + 1 * n) "length" (spP K 1 (l1 (m_length n)))
  | 0 => df_bad g.at_length fun ds => (by unfold l1; split <;> rfl)
  | n + 1 => df_of (k := 1 + 1 * n + 0) g.at_length s_length (m := l1 (m_length (n + 1))) (o := l1 (o_length (m_length n))) (fun ds hl => match ds, hl with | [v_run], _ => rfl)
      fun X c e1 e2 e3 e4 e5 => by subst e1 e2 e3 e4 e5; exact fun ds hl => match ds, hl with | [v_run], _ => r_length (k := 1 + 1 * n + 0) c noW0 g (by omega) (d_length g n) (by omega) (by omega) v_run
theorem s_end_of_run : FnScope ["book", "stock", "run", "needed", "changed"] ["book", "stock", "run"] (defScope (top 12)) := ⟨rfl, rfl, rfl, by decide +kernel, rfl, by decide +kernel, by decide +kernel⟩
theorem r_end_of_run {X : Cx} {k : Nat} (c : Cd CX0 k wd0 ["book", "stock", "run", "needed", "changed"] (defScope (top 12)) X) (W : NoW wd0) (g : G X.prog X.w X.K X.mg X.base) (hk : 10 ≤ k) (v_book v_stock v_run : D) :
    Run X wd0 (fun _ : Unit => [.no, .no, .no, .no, .no]) (fun e : Empty => e.elim) (fun _ : Unit => []) [.d v_book, .d v_stock, .d v_run, .no, .no] (defBody (top 12)) (o_end_of_run v_book v_stock v_run) :=
  (run_unp2 c (i := 3) (j := 4) (by decide +kernel) (by rfl) (by decide +kernel) (by rfl) (ev_call2 c.toCw W (d_need_and_change g 8) (Nat.le_trans (by decide) hk) (by decide +kernel) (ev_var c.toCw (i := 0) (by decide +kernel) (by rfl) (by rfl)) (ev_var c.toCw (i := 2) (by decide +kernel) (by rfl) (by rfl))) (fun v_needed v_changed => (run_ifx (eE := fun e => e.elim) (evt_not (evt_val (Ev.look (ev_call2 c.toCw W (d_covers g) (Nat.le_trans (by decide) hk) (by decide +kernel) (ev_var c.toCw (i := 1) (by decide +kernel) (by rfl) (by rfl)) (ev_var c.toCw (i := 3) (by decide +kernel) (by rfl) (by rfl)))))) (run_ret ev_non ht0) (run_ret (ev_call2 c.toCw W (d_plus g) (Nat.le_trans (by decide) hk) (by decide +kernel) (ev_var c.toCw (i := 1) (by decide +kernel) (by rfl) (by rfl)) (ev_var c.toCw (i := 4) (by decide +kernel) (by rfl) (by rfl))) ht0))))
theorem d_end_of_run {P : Program} {w : World} {K : PySem.W.Frag} {mg : Str → Option Value} {base : Heap} (g : G P w K mg base) : Df P w K mg base CX0 11 "end_of_run" (spP K 3 (l3 m_end_of_run)) :=
  df_of g.at_end_of_run s_end_of_run (m := l3 m_end_of_run) (o := l3 o_end_of_run) (fun ds hl => match ds, hl with | [v_book, v_stock, v_run], _ => rfl)
    fun X c e1 e2 e3 e4 e5 => by subst e1 e2 e3 e4 e5; exact fun ds hl => match ds, hl with | [v_book, v_stock, v_run], _ => r_end_of_run c noW0 g (by decide) v_book v_stock v_run
theorem s_rounds : FnScope ["stock", "needed", "changed", "most", "count", "k"] ["stock", "needed", "changed", "most"] (defScope (top 13)) := ⟨rfl, rfl, rfl, by decide +kernel, rfl, by decide +kernel, by decide +kernel⟩
theorem r_rounds {X : Cx} {k : Nat} (c : Cd CX0 k wd0 ["stock", "needed", "changed", "most", "count", "k"] (defScope (top 13)) X) (W : NoW wd0) (g : G X.prog X.w X.K X.mg X.base) (hk : 0 ≤ k) (v_stock v_needed v_changed v_most : D) :
    Run X wd0 (fun _ : Unit => [.no, .no, .no, .no, .no, .no]) (fun e : Empty => e.elim) (fun _ : Unit => []) [.d v_stock, .d v_needed, .d v_changed, .d v_most, .no, .no] (defBody (top 13)) (o_rounds v_stock v_needed v_changed v_most) :=
  (run_set c (i := 4) (by decide +kernel) (by rfl) (ev_var c.toCw (i := 3) (by decide +kernel) (by rfl) (by rfl)) (fun v_count => (run_for (S1 := D) (eS1 := fun (s1 : D) => [.d v_stock, .d v_needed, .d v_changed, .d v_most, .d s1, .no]) (s0 := v_count) c (i := 5) (by decide +kernel) (by rfl) (evi_r1 c.toCw g.bt (by decide +kernel) (Ev.look (ev_len c.toCw g.bt (by decide +kernel) (Ev.look (ev_var c.toCw (i := 0) (by decide +kernel) (by rfl) (by rfl)))))) (le_eq (le_eq (le_eq (le_eq (le_eq (le_no le_nil)))))) (fun s1 v_k => (run_ifx (eE := fun e => e.elim) (evt_lt (Ev.look (ev_ix (Ev.look (ev_var c.toCw (i := 0) (by decide +kernel) (by rfl) (by rfl))) (Ev.look (ev_var c.toCw (i := 5) (by decide +kernel) (by rfl) (by rfl))))) (Ev.look (ev_ix (Ev.look (ev_var c.toCw (i := 1) (by decide +kernel) (by rfl) (by rfl))) (Ev.look (ev_var c.toCw (i := 5) (by decide +kernel) (by rfl) (by rfl)))))) (run_ret ev_int ht0) (run_if1 (evt_lt (Ev.look (ev_ix (Ev.look (ev_var c.toCw (i := 2) (by decide +kernel) (by rfl) (by rfl))) (Ev.look (ev_var c.toCw (i := 5) (by decide +kernel) (by rfl) (by rfl))))) (Ev.look ev_int)) (run_set c (i := 4) (by decide +kernel) (by rfl) (ev_min c.toCw g.bt (by decide +kernel) (Ev.look (ev_var c.toCw (i := 4) (by decide +kernel) (by rfl) (by rfl))) (Ev.look (ev_add (Ev.look (ev_fdiv (Ev.look (ev_sub (Ev.look (ev_ix (Ev.look (ev_var c.toCw (i := 0) (by decide +kernel) (by rfl) (by rfl))) (Ev.look (ev_var c.toCw (i := 5) (by decide +kernel) (by rfl) (by rfl))))) (Ev.look (ev_ix (Ev.look (ev_var c.toCw (i := 1) (by decide +kernel) (by rfl) (by rfl))) (Ev.look (ev_var c.toCw (i := 5) (by decide +kernel) (by rfl) (by rfl))))))) (Ev.look (ev_neg (Ev.look (ev_ix (Ev.look (ev_var c.toCw (i := 2) (by decide +kernel) (by rfl) (by rfl))) (Ev.look (ev_var c.toCw (i := 5) (by decide +kernel) (by rfl) (by rfl))))))))) (Ev.look ev_int)))) (fun v_count => (run_nil (le_eq (le_eq (le_eq (le_eq (le_eq (le_no le_nil))))))))) (run_nil (le_eq (le_eq (le_eq (le_eq (le_eq (le_no le_nil)))))))))) (fun s1 => (run_ret (ev_var c.toCw (i := 4) (by decide +kernel) (by rfl) (by rfl)) ht0)))))
theorem d_rounds {P : Program} {w : World} {K : PySem.W.Frag} {mg : Str → Option Value} {base : Heap} (g : G P w K mg base) : Df P w K mg base CX0 1 "rounds" (spP K 4 (l4 m_rounds)) :=
  df_of g.at_rounds s_rounds (m := l4 m_rounds) (o := l4 o_rounds) (fun ds hl => match ds, hl with | [v_stock, v_needed, v_changed, v_most], _ => rfl)
    fun X c e1 e2 e3 e4 e5 => by subst e1 e2 e3 e4 e5; exact fun ds hl => match ds, hl with | [v_stock, v_needed, v_changed, v_most], _ => r_rounds c noW0 g (by decide) v_stock v_needed v_changed v_most
theorem s_stops_at : FnScope ["book", "stock", "run", "moves", "step", "needed", "changed", "count"] ["book", "stock", "run"] (defScope (top 14)) := ⟨rfl, rfl, rfl, by decide +kernel, rfl, by decide +kernel, by decide +kernel⟩
theorem r_stops_at {X : Cx} {k : Nat} (c : Cd CX0 k wd0 ["book", "stock", "run", "moves", "step", "needed", "changed", "count"] (defScope (top 14)) X) (W : NoW wd0) (g : G X.prog X.w X.K X.mg X.base) (hk : 10 ≤ k) {j : Nat} {rec : D → D → D → R D} (hrec : Df X.prog X.w X.K X.mg X.base CX0 j "stops_at" (spP X.K 3 (l3 rec))) (hj : j + 0 ≤ k) (hb : 11 ≤ j) (v_book v_stock v_run : D) :
    Run X wd0 (fun _ : Unit => [.no, .no, .no, .no, .no, .no, .no, .no]) (fun e : Empty => e.elim) (fun _ : Unit => []) [.d v_book, .d v_stock, .d v_run, .no, .no, .no, .no, .no] (defBody (top 14)) (o_stops_at rec v_book v_stock v_run) :=
  (run_set c (i := 3) (by decide +kernel) (by rfl) ev_int (fun v_moves => (run_for (S1 := D × D) (eS1 := fun (s1 : D × D) => [.d v_book, .d s1.1, .d v_run, .d s1.2, .no, .no, .no, .no]) (s0 := (v_stock, v_moves)) c (i := 4) (by decide +kernel) (by rfl) (evi_seq (ev_var c.toCw (i := 2) (by decide +kernel) (by rfl) (by rfl))) (le_eq (le_eq (le_eq (le_eq (le_no (le_no (le_no (le_no le_nil)))))))) (fun s1 v_step => (run_if1 (evt_eq c.toCw (Ev.look (ev_ix (Ev.look (ev_var c.toCw (i := 4) (by decide +kernel) (by rfl) (by rfl))) (Ev.look ev_int))) (Ev.look ev_str)) (run_ifx (eE := fun e => e.elim) (evt_not (evt_val (Ev.look (ev_call3 c.toCw W (d_can_do g) (Nat.le_trans (by decide) hk) (by decide +kernel) (ev_var c.toCw (i := 0) (by decide +kernel) (by rfl) (by rfl)) (ev_var c.toCw (i := 1) (by decide +kernel) (by rfl) (by rfl)) (ev_ix (Ev.look (ev_var c.toCw (i := 4) (by decide +kernel) (by rfl) (by rfl))) (Ev.look ev_int)))))) (run_ret (ev_var c.toCw (i := 3) (by decide +kernel) (by rfl) (by rfl)) ht0) (run_set c (i := 1) (by decide +kernel) (by rfl) (ev_call3 c.toCw W (d_done g) (Nat.le_trans (by decide) hk) (by decide +kernel) (ev_var c.toCw (i := 0) (by decide +kernel) (by rfl) (by rfl)) (ev_var c.toCw (i := 1) (by decide +kernel) (by rfl) (by rfl)) (ev_ix (Ev.look (ev_var c.toCw (i := 4) (by decide +kernel) (by rfl) (by rfl))) (Ev.look ev_int))) (fun v_stock => (run_iadd c (i := 3) (by decide +kernel) (by rfl) (by rfl) ev_int (fun v_moves => (run_nil (le_eq (le_eq (le_eq (le_eq (le_no (le_no (le_no (le_no le_nil)))))))))))))) (run_unp2 c (i := 5) (j := 6) (by decide +kernel) (by rfl) (by decide +kernel) (by rfl) (ev_call2 c.toCw W (d_need_and_change g 8) (Nat.le_trans (by decide) hk) (by decide +kernel) (ev_var c.toCw (i := 0) (by decide +kernel) (by rfl) (by rfl)) (ev_ix (Ev.look (ev_var c.toCw (i := 4) (by decide +kernel) (by rfl) (by rfl))) (Ev.look ev_int))) (fun v_needed v_changed => (run_set c (i := 7) (by decide +kernel) (by rfl) (ev_call4 c.toCw W (d_rounds g) (Nat.le_trans (by decide) hk) (by decide +kernel) (ev_var c.toCw (i := 1) (by decide +kernel) (by rfl) (by rfl)) (ev_var c.toCw (i := 5) (by decide +kernel) (by rfl) (by rfl)) (ev_var c.toCw (i := 6) (by decide +kernel) (by rfl) (by rfl)) (ev_ix (Ev.look (ev_var c.toCw (i := 4) (by decide +kernel) (by rfl) (by rfl))) (Ev.look ev_int))) (fun v_count => (run_set c (i := 1) (by decide +kernel) (by rfl) (ev_call2 c.toCw W (d_plus g) (Nat.le_trans (by decide) hk) (by decide +kernel) (ev_var c.toCw (i := 1) (by decide +kernel) (by rfl) (by rfl)) (ev_call2 c.toCw W (d_times g) (Nat.le_trans (by decide) hk) (by decide +kernel) (ev_var c.toCw (i := 7) (by decide +kernel) (by rfl) (by rfl)) (ev_var c.toCw (i := 6) (by decide +kernel) (by rfl) (by rfl)))) (fun v_stock => (run_iadd c (i := 3) (by decide +kernel) (by rfl) (by rfl) (ev_mul (Ev.look (ev_var c.toCw (i := 7) (by decide +kernel) (by rfl) (by rfl))) (Ev.look (ev_call1 c.toCw W (d_length g 8) (Nat.le_trans (by decide) hk) (by decide +kernel) (ev_ix (Ev.look (ev_var c.toCw (i := 4) (by decide +kernel) (by rfl) (by rfl))) (Ev.look ev_int))))) (fun v_moves => (run_if1 (evt_lt (Ev.look (ev_var c.toCw (i := 7) (by decide +kernel) (by rfl) (by rfl))) (Ev.look (ev_ix (Ev.look (ev_var c.toCw (i := 4) (by decide +kernel) (by rfl) (by rfl))) (Ev.look ev_int)))) (run_ret (ev_add (Ev.look (ev_var c.toCw (i := 3) (by decide +kernel) (by rfl) (by rfl))) (Ev.look (ev_call3 c.toCw W hrec (by omega) (by decide +kernel) (ev_var c.toCw (i := 0) (by decide +kernel) (by rfl) (by rfl)) (ev_var c.toCw (i := 1) (by decide +kernel) (by rfl) (by rfl)) (ev_ix (Ev.look (ev_var c.toCw (i := 4) (by decide +kernel) (by rfl) (by rfl))) (Ev.look ev_int))))) ht0) (run_nil (le_eq (le_eq (le_eq (le_eq (le_no (le_no (le_no (le_no le_nil)))))))))))))))))))) (fun s1 => (run_ret ev_non ht0)))))
theorem d_stops_at {P : Program} {w : World} {K : PySem.W.Frag} {mg : Str → Option Value} {base : Heap} (g : G P w K mg base) : ∀ n : Nat, Df P w K mg base CX0 (11 + 1 * n) "stops_at" (spP K 3 (l3 (m_stops_at n)))
  | 0 => df_bad g.at_stops_at fun ds => (by unfold l3; split <;> rfl)
  | n + 1 => df_of (k := 11 + 1 * n + 0) g.at_stops_at s_stops_at (m := l3 (m_stops_at (n + 1))) (o := l3 (o_stops_at (m_stops_at n))) (fun ds hl => match ds, hl with | [v_book, v_stock, v_run], _ => rfl)
      fun X c e1 e2 e3 e4 e5 => by subst e1 e2 e3 e4 e5; exact fun ds hl => match ds, hl with | [v_book, v_stock, v_run], _ => r_stops_at (k := 11 + 1 * n + 0) c noW0 g (by omega) (d_stops_at g n) (by omega) (by omega) v_book v_stock v_run
theorem s_is_number : FnScope ["value", "least", "most"] ["value", "least", "most"] (defScope (top 17)) := ⟨rfl, rfl, rfl, by decide +kernel, rfl, by decide +kernel, by decide +kernel⟩
theorem r_is_number {X : Cx} {k : Nat} (c : Cd CX0 k wd0 ["value", "least", "most"] (defScope (top 17)) X) (W : NoW wd0) (g : G X.prog X.w X.K X.mg X.base) (hk : 0 ≤ k) (v_value v_least v_most : D) :
    Run X wd0 (fun _ : Unit => [.no, .no, .no]) (fun e : Empty => e.elim) (fun _ : Unit => []) [.d v_value, .d v_least, .d v_most] (defBody (top 17)) (o_is_number v_value v_least v_most) :=
  (run_ifx (eE := fun e => e.elim) (evt_w (evw_or (evt_not (evt_val (Ev.look (ev_isi (T := "int") c.toCw (by decide +kernel) g.bt.isinstance bv_isi (by decide +kernel) g.bt.int bv_int (Ev.look (ev_var c.toCw (i := 0) (by decide +kernel) (by rfl) (by rfl))))))) (evw_or (evt_val (Ev.look (ev_isi (T := "bool") c.toCw (by decide +kernel) g.bt.isinstance bv_isi (by decide +kernel) g.bt.bool bv_bool (Ev.look (ev_var c.toCw (i := 0) (by decide +kernel) (by rfl) (by rfl)))))) (evw_or1 (evt_lt (Ev.look (ev_var c.toCw (i := 0) (by decide +kernel) (by rfl) (by rfl))) (Ev.look (ev_var c.toCw (i := 1) (by decide +kernel) (by rfl) (by rfl)))))))) (run_ret ev_bl ht0) (run_ret (ev_or (ev_is (Ev.look (ev_var c.toCw (i := 2) (by decide +kernel) (by rfl) (by rfl))) (Ev.look ev_non)) (ev_one (ev_le (Ev.look (ev_var c.toCw (i := 0) (by decide +kernel) (by rfl) (by rfl))) (Ev.look (ev_var c.toCw (i := 2) (by decide +kernel) (by rfl) (by rfl)))))) ht0))
theorem d_is_number {P : Program} {w : World} {K : PySem.W.Frag} {mg : Str → Option Value} {base : Heap} (g : G P w K mg base) : Df P w K mg base CX0 1 "is_number" (spP K 3 (l3 m_is_number)) :=
  df_of g.at_is_number s_is_number (m := l3 m_is_number) (o := l3 o_is_number) (fun ds hl => match ds, hl with | [v_value, v_least, v_most], _ => rfl)
    fun X c e1 e2 e3 e4 e5 => by subst e1 e2 e3 e4 e5; exact fun ds hl => match ds, hl with | [v_value, v_least, v_most], _ => r_is_number c noW0 g (by decide) v_value v_least v_most
theorem s_is_step : FnScope ["book", "value", "nested"] ["book", "value", "nested"] (defScope (top 18)) := ⟨rfl, rfl, rfl, by decide +kernel, rfl, by decide +kernel, by decide +kernel⟩
theorem r_is_step {X : Cx} {k : Nat} (c : Cd CX0 k wd0 ["book", "value", "nested"] (defScope (top 18)) X) (W : NoW wd0) (g : G X.prog X.w X.K X.mg X.base) (hk : 1 ≤ k) {j : Nat} {rec : D → D → D → R D} (hrec : Df X.prog X.w X.K X.mg X.base CX0 j "are_steps" (spP X.K 3 (l3 rec))) (hj : j + 0 ≤ k) (hb : 2 ≤ j) (v_book v_value v_nested : D) :
    Run X wd0 (fun _ : Unit => [.no, .no, .no]) (fun e : Empty => e.elim) (fun _ : Unit => []) [.d v_book, .d v_value, .d v_nested] (defBody (top 18)) (o_is_step rec v_book v_value v_nested) :=
  (run_ifx (eE := fun e => e.elim) (evt_w (evw_or (evt_not (evt_val (Ev.look (ev_isi (T := "tuple") c.toCw (by decide +kernel) g.bt.isinstance bv_isi (by decide +kernel) g.bt.tuple bv_tuple (Ev.look (ev_var c.toCw (i := 1) (by decide +kernel) (by rfl) (by rfl))))))) (evw_or (evt_eq c.toCw (Ev.look (ev_len c.toCw g.bt (by decide +kernel) (Ev.look (ev_var c.toCw (i := 1) (by decide +kernel) (by rfl) (by rfl))))) (Ev.look ev_int)) (evw_or1 (evt_not (evt_val (Ev.look (ev_isi (T := "str") c.toCw (by decide +kernel) g.bt.isinstance bv_isi (by decide +kernel) g.bt.str bv_str (Ev.look (ev_ix (Ev.look (ev_var c.toCw (i := 1) (by decide +kernel) (by rfl) (by rfl))) (Ev.look ev_int))))))))))) (run_ret ev_bl ht0) (run_ifx (eE := fun e => e.elim) (evt_w (evw_and (evt_eq c.toCw (Ev.look (ev_ix (Ev.look (ev_var c.toCw (i := 1) (by decide +kernel) (by rfl) (by rfl))) (Ev.look ev_int))) (Ev.look ev_str)) (evw_and1 (evt_eq c.toCw (Ev.look (ev_len c.toCw g.bt (by decide +kernel) (Ev.look (ev_var c.toCw (i := 1) (by decide +kernel) (by rfl) (by rfl))))) (Ev.look ev_int))))) (run_ret (ev_call3 c.toCw W (d_is_number g) (Nat.le_trans (by decide) hk) (by decide +kernel) (ev_ix (Ev.look (ev_var c.toCw (i := 1) (by decide +kernel) (by rfl) (by rfl))) (Ev.look ev_int)) ev_int (ev_sub (Ev.look (ev_len c.toCw g.bt (by decide +kernel) (Ev.look (ev_ix (Ev.look (ev_var c.toCw (i := 0) (by decide +kernel) (by rfl) (by rfl))) (Ev.look ev_int))))) (Ev.look ev_int))) ht0) (run_ifx (eE := fun e => e.elim) (evt_w (evw_or (evt_ne c.toCw (Ev.look (ev_ix (Ev.look (ev_var c.toCw (i := 1) (by decide +kernel) (by rfl) (by rfl))) (Ev.look ev_int))) (Ev.look ev_str)) (evw_or (evt_ne c.toCw (Ev.look (ev_len c.toCw g.bt (by decide +kernel) (Ev.look (ev_var c.toCw (i := 1) (by decide +kernel) (by rfl) (by rfl))))) (Ev.look ev_int)) (evw_or1 (evt_not (evt_val (Ev.look (ev_call3 c.toCw W (d_is_number g) (Nat.le_trans (by decide) hk) (by decide +kernel) (ev_ix (Ev.look (ev_var c.toCw (i := 1) (by decide +kernel) (by rfl) (by rfl))) (Ev.look ev_int)) ev_int ev_non)))))))) (run_ret ev_bl ht0) (run_ret (ev_and (ev_gt (Ev.look (ev_var c.toCw (i := 2) (by decide +kernel) (by rfl) (by rfl))) (Ev.look ev_int)) (ev_and (ev_ne c.toCw (Ev.look (ev_ix (Ev.look (ev_var c.toCw (i := 1) (by decide +kernel) (by rfl) (by rfl))) (Ev.look ev_int))) (Ev.look ev_tup0)) (ev_one (ev_call3 c.toCw W hrec (by omega) (by decide +kernel) (ev_var c.toCw (i := 0) (by decide +kernel) (by rfl) (by rfl)) (ev_ix (Ev.look (ev_var c.toCw (i := 1) (by decide +kernel) (by rfl) (by rfl))) (Ev.look ev_int)) (ev_sub (Ev.look (ev_var c.toCw (i := 2) (by decide +kernel) (by rfl) (by rfl))) (Ev.look ev_int)))))) ht0))))
theorem d_is_step {P : Program} {w : World} {K : PySem.W.Frag} {mg : Str → Option Value} {base : Heap} (g : G P w K mg base) {j : Nat} {rec : D → D → D → R D} (hrec : Df P w K mg base CX0 j "are_steps" (spP K 3 (l3 rec))) (hb : 2 ≤ j) : Df P w K mg base CX0 (j + 1) "is_step" (spP K 3 (l3 (m_is_step rec))) :=
  df_of (k := j + 0) g.at_is_step s_is_step (m := l3 (m_is_step rec)) (o := l3 (o_is_step rec)) (fun ds hl => match ds, hl with | [v_book, v_value, v_nested], _ => rfl)
    fun X c e1 e2 e3 e4 e5 => by subst e1 e2 e3 e4 e5; exact fun ds hl => match ds, hl with | [v_book, v_value, v_nested], _ => r_is_step (k := j + 0) c noW0 g (by omega) hrec (by omega) hb v_book v_value v_nested
theorem s_are_steps : FnScope ["book", "value", "nested", "step"] ["book", "value", "nested"] (defScope (top 19)) := ⟨rfl, rfl, rfl, by decide +kernel, rfl, by decide +kernel, by decide +kernel⟩
theorem r_are_steps {X : Cx} {k : Nat} (c : Cd CX0 k wd0 ["book", "value", "nested", "step"] (defScope (top 19)) X) (W : NoW wd0) (g : G X.prog X.w X.K X.mg X.base) (hk : 1 ≤ k) {j : Nat} {rec : D → D → D → R D} (hrec : Df X.prog X.w X.K X.mg X.base CX0 j "are_steps" (spP X.K 3 (l3 rec))) (hj : j + 1 ≤ k) (hb : 2 ≤ j) (v_book v_value v_nested : D) :
    Run X wd0 (fun _ : Unit => [.no, .no, .no, .no]) (fun e : Empty => e.elim) (fun _ : Unit => []) [.d v_book, .d v_value, .d v_nested, .no] (defBody (top 19)) (o_are_steps rec v_book v_value v_nested) :=
  (run_ifx (eE := fun e => e.elim) (evt_not (evt_val (Ev.look (ev_isi (T := "tuple") c.toCw (by decide +kernel) g.bt.isinstance bv_isi (by decide +kernel) g.bt.tuple bv_tuple (Ev.look (ev_var c.toCw (i := 1) (by decide +kernel) (by rfl) (by rfl))))))) (run_ret ev_bl ht0) (run_ret (ev_all c.toCw g.bt (by decide +kernel) (Ev.look (EvL.ev (evl_comp c.toCw (i := 3) (by decide +kernel) (by rfl) (by decide +kernel) (by rfl) (by rfl) (evj_seq (Ev.look (ev_var c.toCw (i := 1) (by decide +kernel) (by rfl) (by rfl)))) (fun v_step s0 H0 C cl fp => have c1 := Cw.blk c.toCw cx0F s0 H0 _ C cl fp; have W2 := NoW.calm W; (ev_call3 c1 W2 (d_is_step g hrec hb) (by omega) (by decide +kernel) (ev_var c1 (i := 0) (by decide +kernel) (by rfl) (by rfl)) (ev_var c1 (i := 3) (by decide +kernel) (by rfl) (by rfl)) (ev_var c1 (i := 2) (by decide +kernel) (by rfl) (by rfl)))))))) ht0))
theorem d_are_steps {P : Program} {w : World} {K : PySem.W.Frag} {mg : Str → Option Value} {base : Heap} (g : G P w K mg base) : ∀ n : Nat, Df P w K mg base CX0 (2 + 2 * n) "are_steps" (spP K 3 (l3 (m_are_steps n)))
  | 0 => df_bad g.at_are_steps fun ds => (by unfold l3; split <;> rfl)
  | n + 1 => df_of (k := 2 + 2 * n + 1) g.at_are_steps s_are_steps (m := l3 (m_are_steps (n + 1))) (o := l3 (o_are_steps (m_are_steps n))) (fun ds hl => match ds, hl with | [v_book, v_value, v_nested], _ => rfl)
      fun X c e1 e2 e3 e4 e5 => by subst e1 e2 e3 e4 e5; exact fun ds hl => match ds, hl with | [v_book, v_value, v_nested], _ => r_are_steps (k := 2 + 2 * n + 1) c noW0 g (by omega) (d_are_steps g n) (by omega) (by omega) v_book v_value v_nested
theorem s_is_run : FnScope ["book", "value"] ["book", "value"] (defScope (top 20)) := ⟨rfl, rfl, rfl, by decide +kernel, rfl, by decide +kernel, by decide +kernel⟩
theorem r_is_run {X : Cx} {k : Nat} (c : Cd CX0 k wd0 ["book", "value"] (defScope (top 20)) X) (W : NoW wd0) (g : G X.prog X.w X.K X.mg X.base) (hk : 22 ≤ k) (v_book v_value : D) :
    Run X wd0 (fun _ : Unit => [.no, .no]) (fun e : Empty => e.elim) (fun _ : Unit => []) [.d v_book, .d v_value] (defBody (top 20)) (o_is_run v_book v_value) :=
  (run_ret (ev_call3 c.toCw W (d_are_steps g 10) (Nat.le_trans (by decide) hk) (by decide +kernel) (ev_var c.toCw (i := 0) (by decide +kernel) (by rfl) (by rfl)) (ev_var c.toCw (i := 1) (by decide +kernel) (by rfl) (by rfl)) (ev_con c.toCw (by decide +kernel) g.con_MAX_NESTED)) ht0)
theorem d_is_run {P : Program} {w : World} {K : PySem.W.Frag} {mg : Str → Option Value} {base : Heap} (g : G P w K mg base) : Df P w K mg base CX0 23 "is_run" (spP K 2 (l2 m_is_run)) :=
  df_of g.at_is_run s_is_run (m := l2 m_is_run) (o := l2 o_is_run) (fun ds hl => match ds, hl with | [v_book, v_value], _ => rfl)
    fun X c e1 e2 e3 e4 e5 => by subst e1 e2 e3 e4 e5; exact fun ds hl => match ds, hl with | [v_book, v_value], _ => r_is_run c noW0 g (by decide) v_book v_value
theorem s_law_mix : FnScope ["_law_first", "_law_second", "_law_value"] ["_law_first", "_law_second"] (defScope (top 22)) := ⟨rfl, rfl, rfl, by decide +kernel, rfl, by decide +kernel, by decide +kernel⟩
theorem r_law_mix {X : Cx} {k : Nat} (c : Cd CX0 k wd0 ["_law_first", "_law_second", "_law_value"] (defScope (top 22)) X) (W : NoW wd0) (g : G X.prog X.w X.K X.mg X.base) (hk : 0 ≤ k) (v_law_first v_law_second : D) :
    Run X wd0 (fun _ : Unit => [.no, .no, .no]) (fun e : Empty => e.elim) (fun _ : Unit => []) [.d v_law_first, .d v_law_second, .no] (defBody (top 22)) (o_law_mix v_law_first v_law_second) :=
  (run_set c (i := 2) (by decide +kernel) (by rfl) (ev_mod (Ev.look (ev_toint c.toCw g.bt (by decide +kernel) (Ev.look (ev_add (Ev.look (ev_add (Ev.look (ev_mul (Ev.look (ev_var c.toCw (i := 0) (by decide +kernel) (by rfl) (by rfl))) (Ev.look ev_int))) (Ev.look (ev_mul (Ev.look (ev_var c.toCw (i := 1) (by decide +kernel) (by rfl) (by rfl))) (Ev.look ev_int))))) (Ev.look ev_int))))) (Ev.look ev_int)) (fun v_law_value => (run_ret (ev_mod (Ev.look (ev_toint c.toCw g.bt (by decide +kernel) (Ev.look (ev_add (Ev.look (ev_add (Ev.look (ev_mul (Ev.look (ev_var c.toCw (i := 2) (by decide +kernel) (by rfl) (by rfl))) (Ev.look ev_int))) (Ev.look (ev_mul (Ev.look (ev_var c.toCw (i := 1) (by decide +kernel) (by rfl) (by rfl))) (Ev.look ev_int))))) (Ev.look ev_int))))) (Ev.look ev_int)) ht0)))
theorem d_law_mix {P : Program} {w : World} {K : PySem.W.Frag} {mg : Str → Option Value} {base : Heap} (g : G P w K mg base) : Df P w K mg base CX0 1 "_law_mix" (spP K 2 (l2 m_law_mix)) :=
  df_of g.at_law_mix s_law_mix (m := l2 m_law_mix) (o := l2 o_law_mix) (fun ds hl => match ds, hl with | [v_law_first, v_law_second], _ => rfl)
    fun X c e1 e2 e3 e4 e5 => by subst e1 e2 e3 e4 e5; exact fun ds hl => match ds, hl with | [v_law_first, v_law_second], _ => r_law_mix c noW0 g (by decide) v_law_first v_law_second
theorem s_law_numbers : FnScope ["_law_script", "_law_count", "_law_found", "_law_total", "_law_cell", "_law_number", "_law_k"] ["_law_script", "_law_count"] (defScope (top 23)) := ⟨rfl, rfl, rfl, by decide +kernel, rfl, by decide +kernel, by decide +kernel⟩
theorem r_law_numbers {X : Cx} {k : Nat} (c : Cd CX0 k wd0 ["_law_script", "_law_count", "_law_found", "_law_total", "_law_cell", "_law_number", "_law_k"] (defScope (top 23)) X) (W : NoW wd0) (g : G X.prog X.w X.K X.mg X.base) (hk : 1 ≤ k) (v_law_script : List D) (v_law_count : D) :
    Run X wd0 (fun _ : Unit => [.no, .no, .no, .no, .no, .no, .no]) (fun e : Empty => e.elim) (fun _ : Unit => []) [.s v_law_script, .d v_law_count, .no, .no, .no, .no, .no] (defBody (top 23)) (o_law_numbers v_law_script v_law_count) :=
  (run_setO c (i := 2) (by decide +kernel) (by rfl) (by rfl) evl_nil (fun v_law_found => (run_set c (i := 3) (by decide +kernel) (by rfl) (ev_add (Ev.look (ev_lenS c.toCw g.bt (by decide +kernel) (i := 0) (by decide +kernel) (by rfl) (by rfl))) (Ev.look ev_int)) (fun v_law_total => (run_for (S1 := (List D) × D) (eS1 := fun (s1 : (List D) × D) => [.s v_law_script, .d v_law_count, .l s1.1, .d s1.2, .no, .no, .no]) (s0 := (v_law_found, v_law_total)) c (i := 4) (by decide +kernel) (by rfl) (evi_seq (ev_sliceS c.toCw (i := 0) (by decide +kernel) (by rfl) (by rfl) evp_none (evp_some (Ev.look ev_int)))) (le_eq (le_eq (le_eq (le_eq (le_no (le_no (le_no le_nil))))))) (fun s1 v_law_cell => (run_set c (i := 5) (by decide +kernel) (by rfl) (ev_abs c.toCw g.bt (by decide +kernel) (Ev.look (ev_var c.toCw (i := 4) (by decide +kernel) (by rfl) (by rfl)))) (fun v_law_number => (run_set c (i := 3) (by decide +kernel) (by rfl) (ev_call2 c.toCw W (d_law_mix g) (Nat.le_trans (by decide) hk) (by decide +kernel) (ev_var c.toCw (i := 3) (by decide +kernel) (by rfl) (by rfl)) (ev_mod (Ev.look (ev_toint c.toCw g.bt (by decide +kernel) (Ev.look (ev_var c.toCw (i := 5) (by decide +kernel) (by rfl) (by rfl))))) (Ev.look ev_int))) (fun v_law_total => (run_if1 (evt_ge (Ev.look (ev_var c.toCw (i := 5) (by decide +kernel) (by rfl) (by rfl))) (Ev.look (ev_pow (Ev.look ev_int) (Ev.look ev_int)))) (run_for (S1 := (List D) × D) (eS1 := fun (s2 : (List D) × D) => [.s v_law_script, .d v_law_count, .l s2.1, .d v_law_total, .d v_law_cell, .d s2.2, .no]) (s0 := (s1.1, v_law_number)) c (i := 6) (by decide +kernel) (by rfl) (evi_r1 c.toCw g.bt (by decide +kernel) (Ev.look ev_int)) (le_eq (le_eq (le_eq (le_eq (le_eq (le_eq (le_no le_nil))))))) (fun s2 v_law_k => (run_if1 (evt_gt (Ev.look (ev_var c.toCw (i := 5) (by decide +kernel) (by rfl) (by rfl))) (Ev.look ev_int)) (run_app c (i := 2) (by decide +kernel) (by rfl) (by rfl) (ev_mod (Ev.look (ev_toint c.toCw g.bt (by decide +kernel) (Ev.look (ev_var c.toCw (i := 5) (by decide +kernel) (by rfl) (by rfl))))) (Ev.look ev_int)) (fun v_law_found => (run_set c (i := 5) (by decide +kernel) (by rfl) (ev_fdiv (Ev.look (ev_var c.toCw (i := 5) (by decide +kernel) (by rfl) (by rfl))) (Ev.look ev_int)) (fun v_law_number => (run_nil (le_eq (le_eq (le_eq (le_eq (le_eq (le_eq (le_no le_nil)))))))))))) (run_nil (le_eq (le_eq (le_eq (le_eq (le_eq (le_eq (le_no le_nil)))))))))) (fun s2 => (run_nil (le_eq (le_eq (le_eq (le_eq (le_no (le_no (le_no le_nil)))))))))) (run_for (S1 := List D) (eS1 := fun (s3 : List D) => [.s v_law_script, .d v_law_count, .l s3, .d v_law_total, .d v_law_cell, .d v_law_number, .no]) (s0 := s1.1) c (i := 6) (by decide +kernel) (by rfl) (evi_r1 c.toCw g.bt (by decide +kernel) (Ev.look ev_int)) (le_eq (le_eq (le_eq (le_eq (le_eq (le_eq (le_no le_nil))))))) (fun s3 v_law_k => (run_app c (i := 2) (by decide +kernel) (by rfl) (by rfl) (ev_mod (Ev.look (ev_toint c.toCw g.bt (by decide +kernel) (Ev.look (ev_call2 c.toCw W (d_law_mix g) (Nat.le_trans (by decide) hk) (by decide +kernel) (ev_var c.toCw (i := 5) (by decide +kernel) (by rfl) (by rfl)) (ev_add (Ev.look (ev_var c.toCw (i := 6) (by decide +kernel) (by rfl) (by rfl))) (Ev.look ev_int)))))) (Ev.look ev_int)) (fun v_law_found => (run_nil (le_eq (le_eq (le_eq (le_eq (le_eq (le_eq (le_no le_nil))))))))))) (fun s3 => (run_nil (le_eq (le_eq (le_eq (le_eq (le_no (le_no (le_no le_nil)))))))))))))))) (fun s1 => (run_for (S1 := (List D) × D) (eS1 := fun (s4 : (List D) × D) => [.s v_law_script, .d v_law_count, .l s4.1, .d s4.2, .no, .no, .no]) (s0 := (s1.1, s1.2)) c (i := 6) (by decide +kernel) (by rfl) (evi_r1 c.toCw g.bt (by decide +kernel) (Ev.look (ev_var c.toCw (i := 1) (by decide +kernel) (by rfl) (by rfl)))) (le_eq (le_eq (le_eq (le_eq (le_no (le_no (le_no le_nil))))))) (fun s4 v_law_k => (run_if1 (evt_lt (Ev.look (ev_len c.toCw g.bt (by decide +kernel) (evb_own c.toCw (i := 2) (by decide +kernel) (by rfl) (by rfl)))) (Ev.look (ev_var c.toCw (i := 1) (by decide +kernel) (by rfl) (by rfl)))) (run_set c (i := 3) (by decide +kernel) (by rfl) (ev_call2 c.toCw W (d_law_mix g) (Nat.le_trans (by decide) hk) (by decide +kernel) (ev_var c.toCw (i := 3) (by decide +kernel) (by rfl) (by rfl)) (ev_add (Ev.look (ev_var c.toCw (i := 6) (by decide +kernel) (by rfl) (by rfl))) (Ev.look ev_int))) (fun v_law_total => (run_app c (i := 2) (by decide +kernel) (by rfl) (by rfl) (ev_mod (Ev.look (ev_toint c.toCw g.bt (by decide +kernel) (Ev.look (ev_var c.toCw (i := 3) (by decide +kernel) (by rfl) (by rfl))))) (Ev.look ev_int)) (fun v_law_found => (run_nil (le_eq (le_eq (le_eq (le_eq (le_no (le_no (le_no le_nil)))))))))))) (run_nil (le_eq (le_eq (le_eq (le_eq (le_no (le_no (le_no le_nil)))))))))) (fun s4 => (run_ret (ev_slice (evb_own c.toCw (i := 2) (by decide +kernel) (by rfl) (by rfl)) evp_none (evp_some (Ev.look (ev_var c.toCw (i := 1) (by decide +kernel) (by rfl) (by rfl))))) ht0)))))))))
theorem d_law_numbers {P : Program} {w : World} {K : PySem.W.Frag} {mg : Str → Option Value} {base : Heap} (g : G P w K mg base) : Df P w K mg base CX0 2 "_law_numbers" (spS K m_law_numbers) :=
  df_ofS g.at_law_numbers s_law_numbers (o := o_law_numbers) (fun _ _ => rfl) fun X c e1 e2 e3 e4 e5 ds d => by subst e1 e2 e3 e4 e5; exact r_law_numbers c noW0 g (by decide) ds d
theorem s_law_draws : FnScope ["_law_script", "_law_count"] ["_law_script", "_law_count"] (defScope (top 24)) := ⟨rfl, rfl, rfl, by decide +kernel, rfl, by decide +kernel, by decide +kernel⟩
theorem d_law_draws {P : Program} {w : World} {K : PySem.W.Frag} {mg : Str → Option Value} {base : Heap} (g : G P w K mg base) : Df P w K mg base CX0 3 "_law_draws" (spDr K m_law_numbers) := df_draws g.at_law_draws s_law_draws (d_law_numbers g) (by decide) (by decide +kernel) rfl
theorem s_law_take : FnScope ["_law_draws_here", "_law_bound", "_law_row", "_law_at", "_law_value"] ["_law_draws_here", "_law_bound"] (defScope (top 25)) := ⟨rfl, rfl, rfl, by decide +kernel, rfl, by decide +kernel, by decide +kernel⟩
theorem d_law_take {P : Program} {w : World} {K : PySem.W.Frag} {mg : Str → Option Value} {base : Heap} (g : G P w K mg base) : Df P w K mg base CX0 1 "_law_take" (spD K 1 (l1 drawR)) := df_take g.at_law_take s_law_take g.bt (by decide +kernel) rfl
theorem s_law_named : FnScope ["_law_draws_here", "_law_small", "_law_names", "_law_k", "_law_size", "_law_rest", "_law_n"] ["_law_draws_here"] (defScope (top 26)) := ⟨rfl, rfl, rfl, by decide +kernel, rfl, by decide +kernel, by decide +kernel⟩
theorem r_law_named {X : Cx} {k : Nat} {dra : Addr} (c : Cd CX0 k (wdD dra) ["_law_draws_here", "_law_small", "_law_names", "_law_k", "_law_size", "_law_rest", "_law_n"] (defScope (top 26)) X) (W : NoW (wdD dra)) (g : G X.prog X.w X.K X.mg X.base) (hk : 1 ≤ k) :
    Run X (wdD dra) (fun _ : Unit => [.no, .no, .no, .no, .no, .no, .no]) (fun e : Empty => e.elim) (fun _ : Unit => []) [.w, .no, .no, .no, .no, .no, .no] (defBody (top 26)) (o_law_named ) :=
  (run_set c (i := 1) (by decide +kernel) (by rfl) ev_str (fun v_law_small => (run_setO c (i := 2) (by decide +kernel) (by rfl) (by rfl) evl_nil (fun v_law_names => (run_for (S1 := List D) (eS1 := fun (s1 : List D) => [.w, .d v_law_small, .l s1, .no, .no, .no, .no]) (s0 := v_law_names) c (i := 3) (by decide +kernel) (by rfl) (evi_r1 c.toCw g.bt (by decide +kernel) (Ev.look ev_int)) (le_eq (le_eq (le_eq (le_no (le_no (le_no (le_no le_nil))))))) (fun s1 v_law_k => (run_set c (i := 4) (by decide +kernel) (by rfl) (ev_ix (Ev.look (EvL.ev (evl_lst5 ev_int ev_int ev_int ev_int ev_int))) (Ev.look (ev_callD1 c.toCw W (d_law_take g) (Nat.le_trans (by decide) hk) (by decide +kernel) (i := 0) (by decide +kernel) (by rfl) (by rfl) ev_int))) (fun v_law_size => (run_set c (i := 5) (by decide +kernel) (by rfl) (ev_join (Ev.look ev_str) (Ev.look (EvL.ev (evl_comp c.toCw (i := 6) (by decide +kernel) (by rfl) (by decide +kernel) (by rfl) (by rfl) (EvI.j (evi_r1 c.toCw g.bt (by decide +kernel) (Ev.look (ev_var c.toCw (i := 4) (by decide +kernel) (by rfl) (by rfl))))) (fun v_law_n s0 H0 C cl fp => have c2 := Cw.blk c.toCw cx0F s0 H0 _ C cl fp; have W3 := NoW.calm W; (ev_ix (Ev.look (ev_add (Ev.look (ev_var c2 (i := 1) (by decide +kernel) (by rfl) (by rfl))) (Ev.look ev_str))) (Ev.look (ev_callD1 c2 W3 (d_law_take g) (Nat.le_trans (by decide) hk) (by decide +kernel) (i := 0) (by decide +kernel) (by rfl) (by rfl) ev_int)))))))) (fun v_law_rest => (run_app c (i := 2) (by decide +kernel) (by rfl) (by rfl) (ev_add (Ev.look (ev_add (Ev.look (ev_ix (Ev.look (ev_var c.toCw (i := 1) (by decide +kernel) (by rfl) (by rfl))) (Ev.look (ev_callD1 c.toCw W (d_law_take g) (Nat.le_trans (by decide) hk) (by decide +kernel) (i := 0) (by decide +kernel) (by rfl) (by rfl) ev_int)))) (Ev.look (ev_var c.toCw (i := 5) (by decide +kernel) (by rfl) (by rfl))))) (Ev.look (ev_ix (Ev.look ev_str) (Ev.look (ev_var c.toCw (i := 3) (by decide +kernel) (by rfl) (by rfl)))))) (fun v_law_names => (run_nil (le_eq (le_eq (le_eq (le_no (le_no (le_no (le_no le_nil))))))))))))))) (fun s1 => (run_retO c (i := 2) (by decide +kernel) (by rfl) (by rfl) ht0')))))))
theorem d_law_named {P : Program} {w : World} {K : PySem.W.Frag} {mg : Str → Option Value} {base : Heap} (g : G P w K mg base) : Df P w K mg base CX0 2 "_law_named" (spD K 0 (l0 m_law_named)) :=
  df_ofD g.at_law_named s_law_named (n := 0) rfl (m := l0 m_law_named) (o := l0 o_law_named) (fun ds hl => match ds, hl with | [], _ => rfl)
    fun X a c e1 e2 e3 e4 e5 => by subst e1 e2 e3 e4 e5; exact fun ds hl => match ds, hl with | [], _ => r_law_named c (noWD a) g (by decide) 
theorem s_law_stock : FnScope ["_law_draws_here", "_law_n", "_law_most", "_law_entries", "_law_k", "_law_entry"] ["_law_draws_here", "_law_n", "_law_most"] (defScope (top 27)) := ⟨rfl, rfl, rfl, by decide +kernel, rfl, by decide +kernel, by decide +kernel⟩
theorem r_law_stock {X : Cx} {k : Nat} {dra : Addr} (c : Cd CX0 k (wdD dra) ["_law_draws_here", "_law_n", "_law_most", "_law_entries", "_law_k", "_law_entry"] (defScope (top 27)) X) (W : NoW (wdD dra)) (g : G X.prog X.w X.K X.mg X.base) (hk : 1 ≤ k) (v_law_n v_law_most : D) :
    Run X (wdD dra) (fun _ : Unit => [.no, .no, .no, .no, .no, .no]) (fun e : Empty => e.elim) (fun _ : Unit => []) [.w, .d v_law_n, .d v_law_most, .no, .no, .no] (defBody (top 27)) (o_law_stock v_law_n v_law_most) :=
  (run_setO c (i := 3) (by decide +kernel) (by rfl) (by rfl) evl_nil (fun v_law_entries => (run_for (S1 := List D) (eS1 := fun (s1 : List D) => [.w, .d v_law_n, .d v_law_most, .l s1, .no, .no]) (s0 := v_law_entries) c (i := 4) (by decide +kernel) (by rfl) (evi_r1 c.toCw g.bt (by decide +kernel) (Ev.look (ev_var c.toCw (i := 1) (by decide +kernel) (by rfl) (by rfl)))) (le_eq (le_eq (le_eq (le_eq (le_no (le_no le_nil)))))) (fun s1 v_law_k => (run_app c (i := 3) (by decide +kernel) (by rfl) (by rfl) (ev_ix (Ev.look (EvL.ev (evl_lst6 ev_int ev_int ev_int ev_int (ev_callD1 c.toCw W (d_law_take g) (Nat.le_trans (by decide) hk) (by decide +kernel) (i := 0) (by decide +kernel) (by rfl) (by rfl) (ev_add (Ev.look (ev_var c.toCw (i := 2) (by decide +kernel) (by rfl) (by rfl))) (Ev.look ev_int))) (ev_var c.toCw (i := 2) (by decide +kernel) (by rfl) (by rfl))))) (Ev.look (ev_callD1 c.toCw W (d_law_take g) (Nat.le_trans (by decide) hk) (by decide +kernel) (i := 0) (by decide +kernel) (by rfl) (by rfl) ev_int))) (fun v_law_entries => (run_nil (le_eq (le_eq (le_eq (le_eq (le_no (le_no le_nil)))))))))) (fun s1 => (run_ret (ev_tuple c.toCw g.bt (by decide +kernel) (Ev.look (EvL.ev (evl_comp c.toCw (i := 5) (by decide +kernel) (by rfl) (by decide +kernel) (by rfl) (by rfl) (evj_seq (evb_own c.toCw (i := 3) (by decide +kernel) (by rfl) (by rfl))) (fun v_law_entry s0 H0 C cl fp => have c2 := Cw.blk c.toCw cx0F s0 H0 _ C cl fp; have W3 := NoW.calm W; (ev_min c2 g.bt (by decide +kernel) (Ev.look (ev_var c2 (i := 2) (by decide +kernel) (by rfl) (by rfl))) (Ev.look (ev_var c2 (i := 5) (by decide +kernel) (by rfl) (by rfl))))))))) ht0)))))
theorem d_law_stock {P : Program} {w : World} {K : PySem.W.Frag} {mg : Str → Option Value} {base : Heap} (g : G P w K mg base) : Df P w K mg base CX0 2 "_law_stock" (spD K 2 (l2 m_law_stock)) :=
  df_ofD g.at_law_stock s_law_stock (n := 2) rfl (m := l2 m_law_stock) (o := l2 o_law_stock) (fun ds hl => match ds, hl with | [v_law_n, v_law_most], _ => rfl)
    fun X a c e1 e2 e3 e4 e5 => by subst e1 e2 e3 e4 e5; exact fun ds hl => match ds, hl with | [v_law_n, v_law_most], _ => r_law_stock c (noWD a) g (by decide) v_law_n v_law_most
theorem s_law_book : FnScope ["_law_draws_here", "_law_most", "_law_names", "_law_n", "_law_moves", "_law_k", "_law_take_here", "_law_high", "_law_low", "_law_entry"] ["_law_draws_here", "_law_most"] (defScope (top 28)) := ⟨rfl, rfl, rfl, by decide +kernel, rfl, by decide +kernel, by decide +kernel⟩
theorem r_law_book {X : Cx} {k : Nat} {dra : Addr} (c : Cd CX0 k (wdD dra) ["_law_draws_here", "_law_most", "_law_names", "_law_n", "_law_moves", "_law_k", "_law_take_here", "_law_high", "_law_low", "_law_entry"] (defScope (top 28)) X) (W : NoW (wdD dra)) (g : G X.prog X.w X.K X.mg X.base) (hk : 2 ≤ k) (v_law_most : D) :
    Run X (wdD dra) (fun _ : Unit => [.no, .no, .no, .no, .no, .no, .no, .no, .no, .no]) (fun e : Empty => e.elim) (fun _ : Unit => []) [.w, .d v_law_most, .no, .no, .no, .no, .no, .no, .no, .no] (defBody (top 28)) (o_law_book v_law_most) :=
  (run_set c (i := 2) (by decide +kernel) (by rfl) (ev_callD0 c.toCw W (d_law_named g) (Nat.le_trans (by decide) hk) (by decide +kernel) (i := 0) (by decide +kernel) (by rfl) (by rfl) ) (fun v_law_names => (run_set c (i := 3) (by decide +kernel) (by rfl) (ev_add (Ev.look ev_int) (Ev.look (ev_callD1 c.toCw W (d_law_take g) (Nat.le_trans (by decide) hk) (by decide +kernel) (i := 0) (by decide +kernel) (by rfl) (by rfl) ev_int))) (fun v_law_n => (run_setO c (i := 4) (by decide +kernel) (by rfl) (by rfl) evl_nil (fun v_law_moves => (run_for (S1 := List D) (eS1 := fun (s1 : List D) => [.w, .d v_law_most, .d v_law_names, .d v_law_n, .l s1, .no, .no, .no, .no, .no]) (s0 := v_law_moves) c (i := 5) (by decide +kernel) (by rfl) (evi_r1 c.toCw g.bt (by decide +kernel) (Ev.look (ev_callD1 c.toCw W (d_law_take g) (Nat.le_trans (by decide) hk) (by decide +kernel) (i := 0) (by decide +kernel) (by rfl) (by rfl) ev_int))) (le_eq (le_eq (le_eq (le_eq (le_eq (le_no (le_no (le_no (le_no (le_no le_nil)))))))))) (fun s1 v_law_k => (run_set c (i := 6) (by decide +kernel) (by rfl) (ev_callD2 c.toCw W (d_law_stock g) (Nat.le_trans (by decide) hk) (by decide +kernel) (i := 0) (by decide +kernel) (by rfl) (by rfl) (ev_var c.toCw (i := 3) (by decide +kernel) (by rfl) (by rfl)) (ev_var c.toCw (i := 1) (by decide +kernel) (by rfl) (by rfl))) (fun v_law_take_here => (run_set c (i := 7) (by decide +kernel) (by rfl) (ev_callD2 c.toCw W (d_law_stock g) (Nat.le_trans (by decide) hk) (by decide +kernel) (i := 0) (by decide +kernel) (by rfl) (by rfl) (ev_var c.toCw (i := 3) (by decide +kernel) (by rfl) (by rfl)) (ev_var c.toCw (i := 1) (by decide +kernel) (by rfl) (by rfl))) (fun v_law_high => (run_set c (i := 8) (by decide +kernel) (by rfl) (ev_var c.toCw (i := 7) (by decide +kernel) (by rfl) (by rfl)) (fun v_law_low => (run_if (eS1 := fun (s2 : D) => [.w, .d v_law_most, .d v_law_names, .d v_law_n, .l s1, .d v_law_k, .d v_law_take_here, .d v_law_high, .d s2, .no]) (evt_eq c.toCw (Ev.look (ev_callD1 c.toCw W (d_law_take g) (Nat.le_trans (by decide) hk) (by decide +kernel) (i := 0) (by decide +kernel) (by rfl) (by rfl) ev_int)) (Ev.look ev_int)) (run_set c (i := 8) (by decide +kernel) (by rfl) (ev_tuple c.toCw g.bt (by decide +kernel) (Ev.look (EvL.ev (evl_comp c.toCw (i := 9) (by decide +kernel) (by rfl) (by decide +kernel) (by rfl) (by rfl) (evj_seq (Ev.look (ev_var c.toCw (i := 7) (by decide +kernel) (by rfl) (by rfl)))) (fun v_law_entry s0 H0 C cl fp => have c3 := Cw.blk c.toCw cx0F s0 H0 _ C cl fp; have W4 := NoW.calm W; (ev_callD1 c3 W4 (d_law_take g) (Nat.le_trans (by decide) hk) (by decide +kernel) (i := 0) (by decide +kernel) (by rfl) (by rfl) (ev_add (Ev.look (ev_var c3 (i := 9) (by decide +kernel) (by rfl) (by rfl))) (Ev.look ev_int)))))))) (fun v_law_low => (run_nil (le_eq (le_eq (le_eq (le_eq (le_eq (le_eq (le_eq (le_eq (le_eq (le_no le_nil))))))))))))) (run_nil (le_eq (le_eq (le_eq (le_eq (le_eq (le_eq (le_eq (le_eq (le_eq (le_no le_nil))))))))))) (fun s2 => (run_app c (i := 4) (by decide +kernel) (by rfl) (by rfl) (ev_tup4 (ev_ix (Ev.look (ev_var c.toCw (i := 2) (by decide +kernel) (by rfl) (by rfl))) (Ev.look (ev_add (Ev.look ev_int) (Ev.look (ev_var c.toCw (i := 5) (by decide +kernel) (by rfl) (by rfl)))))) (ev_var c.toCw (i := 6) (by decide +kernel) (by rfl) (by rfl)) (ev_var c.toCw (i := 8) (by decide +kernel) (by rfl) (by rfl)) (ev_var c.toCw (i := 7) (by decide +kernel) (by rfl) (by rfl))) (fun v_law_moves => (run_nil (le_eq (le_eq (le_eq (le_eq (le_eq (le_no (le_no (le_no (le_no (le_no le_nil)))))))))))))))))))))) (fun s1 => (run_ret (ev_tup2 (ev_tuple c.toCw g.bt (by decide +kernel) (Ev.look (ev_slice (Ev.look (ev_var c.toCw (i := 2) (by decide +kernel) (by rfl) (by rfl))) evp_none (evp_some (Ev.look (ev_var c.toCw (i := 3) (by decide +kernel) (by rfl) (by rfl))))))) (ev_tuple c.toCw g.bt (by decide +kernel) (evb_own c.toCw (i := 4) (by decide +kernel) (by rfl) (by rfl)))) ht0)))))))))
theorem d_law_book {P : Program} {w : World} {K : PySem.W.Frag} {mg : Str → Option Value} {base : Heap} (g : G P w K mg base) : Df P w K mg base CX0 3 "_law_book" (spD K 1 (l1 m_law_book)) :=
  df_ofD g.at_law_book s_law_book (n := 1) rfl (m := l1 m_law_book) (o := l1 o_law_book) (fun ds hl => match ds, hl with | [v_law_most], _ => rfl)
    fun X a c e1 e2 e3 e4 e5 => by subst e1 e2 e3 e4 e5; exact fun ds hl => match ds, hl with | [v_law_most], _ => r_law_book c (noWD a) g (by decide) v_law_most
theorem s_law_run : FnScope ["_law_draws_here", "_law_moves", "_law_depth", "_law_times", "_law_steps", "_law_k", "_law_inner"] ["_law_draws_here", "_law_moves", "_law_depth", "_law_times"] (defScope (top 29)) := ⟨rfl, rfl, rfl, by decide +kernel, rfl, by decide +kernel, by decide +kernel⟩
theorem r_law_run {X : Cx} {k : Nat} {dra : Addr} (c : Cd CX0 k (wdD dra) ["_law_draws_here", "_law_moves", "_law_depth", "_law_times", "_law_steps", "_law_k", "_law_inner"] (defScope (top 29)) X) (W : NoW (wdD dra)) (g : G X.prog X.w X.K X.mg X.base) (hk : 1 ≤ k) {j : Nat} {rec : D → D → D → R D} (hrec : Df X.prog X.w X.K X.mg X.base CX0 j "_law_run" (spD X.K 3 (l3 rec))) (hj : j + 0 ≤ k) (hb : 2 ≤ j) (v_law_moves v_law_depth v_law_times : D) :
    Run X (wdD dra) (fun _ : Unit => [.no, .no, .no, .no, .no, .no, .no]) (fun e : Empty => e.elim) (fun _ : Unit => []) [.w, .d v_law_moves, .d v_law_depth, .d v_law_times, .no, .no, .no] (defBody (top 29)) (o_law_run rec v_law_moves v_law_depth v_law_times) :=
  (run_setO c (i := 4) (by decide +kernel) (by rfl) (by rfl) evl_nil (fun v_law_steps => (run_for (S1 := List D) (eS1 := fun (s1 : List D) => [.w, .d v_law_moves, .d v_law_depth, .d v_law_times, .l s1, .no, .no]) (s0 := v_law_steps) c (i := 5) (by decide +kernel) (by rfl) (evi_r1 c.toCw g.bt (by decide +kernel) (Ev.look (ev_callD1 c.toCw W (d_law_take g) (Nat.le_trans (by decide) hk) (by decide +kernel) (i := 0) (by decide +kernel) (by rfl) (by rfl) ev_int))) (le_eq (le_eq (le_eq (le_eq (le_eq (le_no (le_no le_nil))))))) (fun s1 v_law_k => (run_ifx (eE := fun e => e.elim) (evt_eq c.toCw (Ev.look (ev_var c.toCw (i := 1) (by decide +kernel) (by rfl) (by rfl))) (Ev.look ev_int)) (run_ret ev_tup0 ht0) (run_set c (i := 6) (by decide +kernel) (by rfl) ev_tup0 (fun v_law_inner => (run_if (eS1 := fun (s2 : D) => [.w, .d v_law_moves, .d v_law_depth, .d v_law_times, .l s1, .d v_law_k, .d s2]) (evt_w (evw_and (evt_gt (Ev.look (ev_var c.toCw (i := 2) (by decide +kernel) (by rfl) (by rfl))) (Ev.look ev_int)) (evw_and1 (evt_eq c.toCw (Ev.look (ev_callD1 c.toCw W (d_law_take g) (Nat.le_trans (by decide) hk) (by decide +kernel) (i := 0) (by decide +kernel) (by rfl) (by rfl) ev_int)) (Ev.look ev_int))))) (run_set c (i := 6) (by decide +kernel) (by rfl) (ev_callD3 c.toCw W hrec (by omega) (by decide +kernel) (i := 0) (by decide +kernel) (by rfl) (by rfl) (ev_var c.toCw (i := 1) (by decide +kernel) (by rfl) (by rfl)) (ev_sub (Ev.look (ev_var c.toCw (i := 2) (by decide +kernel) (by rfl) (by rfl))) (Ev.look ev_int)) (ev_var c.toCw (i := 3) (by decide +kernel) (by rfl) (by rfl))) (fun v_law_inner => (run_nil (le_eq (le_eq (le_eq (le_eq (le_eq (le_eq (le_eq le_nil)))))))))) (run_nil (le_eq (le_eq (le_eq (le_eq (le_eq (le_eq (le_eq le_nil)))))))) (fun s2 => (run_if1 (evt_eq c.toCw (Ev.look (ev_var c.toCw (i := 6) (by decide +kernel) (by rfl) (by rfl))) (Ev.look ev_tup0)) (run_app c (i := 4) (by decide +kernel) (by rfl) (by rfl) (ev_tup2 ev_str (ev_callD1 c.toCw W (d_law_take g) (Nat.le_trans (by decide) hk) (by decide +kernel) (i := 0) (by decide +kernel) (by rfl) (by rfl) (ev_var c.toCw (i := 1) (by decide +kernel) (by rfl) (by rfl)))) (fun v_law_steps => (run_nil (le_eq (le_eq (le_eq (le_eq (le_eq (le_no (le_no le_nil)))))))))) (run_app c (i := 4) (by decide +kernel) (by rfl) (by rfl) (ev_tup3 ev_str (ev_add (Ev.look ev_int) (Ev.look (ev_callD1 c.toCw W (d_law_take g) (Nat.le_trans (by decide) hk) (by decide +kernel) (i := 0) (by decide +kernel) (by rfl) (by rfl) (ev_var c.toCw (i := 3) (by decide +kernel) (by rfl) (by rfl))))) (ev_var c.toCw (i := 6) (by decide +kernel) (by rfl) (by rfl))) (fun v_law_steps => (run_nil (le_eq (le_eq (le_eq (le_eq (le_eq (le_no (le_no le_nil))))))))))))))))) (fun s1 => (run_ret (ev_tuple c.toCw g.bt (by decide +kernel) (evb_own c.toCw (i := 4) (by decide +kernel) (by rfl) (by rfl))) ht0)))))
theorem d_law_run {P : Program} {w : World} {K : PySem.W.Frag} {mg : Str → Option Value} {base : Heap} (g : G P w K mg base) : ∀ n : Nat, Df P w K mg base CX0 (2 + 1 * n) "_law_run" (spD K 3 (l3 (m_law_run n)))
  | 0 => df_badD g.at_law_run fun ds => (by unfold l3; split <;> rfl)
  | n + 1 => df_ofD (k := 2 + 1 * n + 0) g.at_law_run s_law_run (n := 3) rfl (m := l3 (m_law_run (n + 1))) (o := l3 (o_law_run (m_law_run n))) (fun ds hl => match ds, hl with | [v_law_moves, v_law_depth, v_law_times], _ => rfl)
      fun X a c e1 e2 e3 e4 e5 => by subst e1 e2 e3 e4 e5; exact fun ds hl => match ds, hl with | [v_law_moves, v_law_depth, v_law_times], _ => r_law_run (k := 2 + 1 * n + 0) c (noWD a) g (by omega) (d_law_run g n) (by omega) (by omega) v_law_moves v_law_depth v_law_times
theorem s_law_other : FnScope ["_law_draws_here", "_law_run_here", "_law_found", "_law_step", "_law_kind", "_law_count", "_law_inner", "_law_first"] ["_law_draws_here", "_law_run_here"] (defScope (top 30)) := ⟨rfl, rfl, rfl, by decide +kernel, rfl, by decide +kernel, by decide +kernel⟩
theorem r_law_other {X : Cx} {k : Nat} {dra : Addr} (c : Cd CX0 k (wdD dra) ["_law_draws_here", "_law_run_here", "_law_found", "_law_step", "_law_kind", "_law_count", "_law_inner", "_law_first"] (defScope (top 30)) X) (W : NoW (wdD dra)) (g : G X.prog X.w X.K X.mg X.base) (hk : 1 ≤ k) {j : Nat} {rec : D → R D} (hrec : Df X.prog X.w X.K X.mg X.base CX0 j "_law_other" (spD X.K 1 (l1 rec))) (hj : j + 0 ≤ k) (hb : 2 ≤ j) (v_law_run_here : D) :
    Run X (wdD dra) (fun _ : Unit => [.no, .no, .no, .no, .no, .no, .no, .no]) (fun e : Empty => e.elim) (fun _ : Unit => []) [.w, .d v_law_run_here, .no, .no, .no, .no, .no, .no] (defBody (top 30)) (o_law_other rec v_law_run_here) :=
  (run_setO c (i := 2) (by decide +kernel) (by rfl) (by rfl) evl_nil (fun v_law_found => (run_for (S1 := List D) (eS1 := fun (s1 : List D) => [.w, .d v_law_run_here, .l s1, .no, .no, .no, .no, .no]) (s0 := v_law_found) c (i := 3) (by decide +kernel) (by rfl) (evi_seq (ev_var c.toCw (i := 1) (by decide +kernel) (by rfl) (by rfl))) (le_eq (le_eq (le_eq (le_no (le_no (le_no (le_no (le_no le_nil)))))))) (fun s1 v_law_step => (run_set c (i := 4) (by decide +kernel) (by rfl) (ev_callD1 c.toCw W (d_law_take g) (Nat.le_trans (by decide) hk) (by decide +kernel) (i := 0) (by decide +kernel) (by rfl) (by rfl) ev_int) (fun v_law_kind => (run_ifx (eE := fun e => e.elim) (evt_eq c.toCw (Ev.look (ev_ix (Ev.look (ev_var c.toCw (i := 3) (by decide +kernel) (by rfl) (by rfl))) (Ev.look ev_int))) (Ev.look ev_str)) (run_if (eS1 := fun (s2 : List D) => [.w, .d v_law_run_here, .l s2, .d v_law_step, .d v_law_kind, .no, .no, .no]) (evt_eq c.toCw (Ev.look (ev_var c.toCw (i := 4) (by decide +kernel) (by rfl) (by rfl))) (Ev.look ev_int)) (run_app c (i := 2) (by decide +kernel) (by rfl) (by rfl) (ev_tup3 ev_str ev_int (ev_tup1 (ev_var c.toCw (i := 3) (by decide +kernel) (by rfl) (by rfl)))) (fun v_law_found => (run_nil (le_eq (le_eq (le_eq (le_eq (le_eq (le_no (le_no (le_no le_nil))))))))))) (run_app c (i := 2) (by decide +kernel) (by rfl) (by rfl) (ev_var c.toCw (i := 3) (by decide +kernel) (by rfl) (by rfl)) (fun v_law_found => (run_nil (le_eq (le_eq (le_eq (le_eq (le_eq (le_no (le_no (le_no le_nil))))))))))) (fun s2 => (run_cont (le_eq (le_eq (le_eq (le_no (le_no (le_no (le_no (le_no le_nil))))))))))) (run_set c (i := 5) (by decide +kernel) (by rfl) (ev_ix (Ev.look (ev_var c.toCw (i := 3) (by decide +kernel) (by rfl) (by rfl))) (Ev.look ev_int)) (fun v_law_count => (run_set c (i := 6) (by decide +kernel) (by rfl) (ev_callD1 c.toCw W hrec (by omega) (by decide +kernel) (i := 0) (by decide +kernel) (by rfl) (by rfl) (ev_ix (Ev.look (ev_var c.toCw (i := 3) (by decide +kernel) (by rfl) (by rfl))) (Ev.look ev_int))) (fun v_law_inner => (run_if1 (evt_w (evw_and (evt_eq c.toCw (Ev.look (ev_var c.toCw (i := 4) (by decide +kernel) (by rfl) (by rfl))) (Ev.look ev_int)) (evw_and1 (evt_gt (Ev.look (ev_var c.toCw (i := 5) (by decide +kernel) (by rfl) (by rfl))) (Ev.look ev_int))))) (run_set c (i := 7) (by decide +kernel) (by rfl) (ev_add (Ev.look ev_int) (Ev.look (ev_callD1 c.toCw W (d_law_take g) (Nat.le_trans (by decide) hk) (by decide +kernel) (i := 0) (by decide +kernel) (by rfl) (by rfl) (ev_sub (Ev.look (ev_var c.toCw (i := 5) (by decide +kernel) (by rfl) (by rfl))) (Ev.look ev_int))))) (fun v_law_first => (run_setO c (i := 2) (by decide +kernel) (by rfl) (by rfl) (evl_cat (evb_own c.toCw (i := 2) (by decide +kernel) (by rfl) (by rfl)) (Ev.look (EvL.ev (evl_lst2 (ev_tup3 ev_str (ev_var c.toCw (i := 7) (by decide +kernel) (by rfl) (by rfl)) (ev_var c.toCw (i := 6) (by decide +kernel) (by rfl) (by rfl))) (ev_tup3 ev_str (ev_sub (Ev.look (ev_var c.toCw (i := 5) (by decide +kernel) (by rfl) (by rfl))) (Ev.look (ev_var c.toCw (i := 7) (by decide +kernel) (by rfl) (by rfl)))) (ev_var c.toCw (i := 6) (by decide +kernel) (by rfl) (by rfl))))))) (fun v_law_found => (run_nil (le_eq (le_eq (le_eq (le_no (le_no (le_no (le_no (le_no le_nil))))))))))))) (run_if1 (evt_w (evw_and (evt_eq c.toCw (Ev.look (ev_var c.toCw (i := 4) (by decide +kernel) (by rfl) (by rfl))) (Ev.look ev_int)) (evw_and1 (evt_gt (Ev.look (ev_var c.toCw (i := 5) (by decide +kernel) (by rfl) (by rfl))) (Ev.look ev_int))))) (run_setO c (i := 2) (by decide +kernel) (by rfl) (by rfl) (evl_cat (Ev.look (ev_add (evb_own c.toCw (i := 2) (by decide +kernel) (by rfl) (by rfl)) (Ev.look (ev_list c.toCw g.bt (by decide +kernel) (Ev.look (ev_var c.toCw (i := 6) (by decide +kernel) (by rfl) (by rfl))))))) (Ev.look (EvL.ev (evl_lst1 (ev_tup3 ev_str (ev_sub (Ev.look (ev_var c.toCw (i := 5) (by decide +kernel) (by rfl) (by rfl))) (Ev.look ev_int)) (ev_ix (Ev.look (ev_var c.toCw (i := 3) (by decide +kernel) (by rfl) (by rfl))) (Ev.look ev_int))))))) (fun v_law_found => (run_nil (le_eq (le_eq (le_eq (le_no (le_no (le_no (le_no (le_no le_nil))))))))))) (run_if1 (evt_w (evw_and (evt_eq c.toCw (Ev.look (ev_var c.toCw (i := 4) (by decide +kernel) (by rfl) (by rfl))) (Ev.look ev_int)) (evw_and1 (evt_eq c.toCw (Ev.look (ev_mod (Ev.look (ev_var c.toCw (i := 5) (by decide +kernel) (by rfl) (by rfl))) (Ev.look ev_int))) (Ev.look ev_int))))) (run_app c (i := 2) (by decide +kernel) (by rfl) (by rfl) (ev_tup3 ev_str (ev_fdiv (Ev.look (ev_var c.toCw (i := 5) (by decide +kernel) (by rfl) (by rfl))) (Ev.look ev_int)) (ev_tup1 (ev_tup3 ev_str ev_int (ev_var c.toCw (i := 6) (by decide +kernel) (by rfl) (by rfl))))) (fun v_law_found => (run_nil (le_eq (le_eq (le_eq (le_no (le_no (le_no (le_no (le_no le_nil))))))))))) (run_if1 (evt_eq c.toCw (Ev.look (ev_var c.toCw (i := 4) (by decide +kernel) (by rfl) (by rfl))) (Ev.look ev_int)) (run_app c (i := 2) (by decide +kernel) (by rfl) (by rfl) (ev_tup3 ev_str ev_int (ev_tup1 (ev_tup3 ev_str (ev_var c.toCw (i := 5) (by decide +kernel) (by rfl) (by rfl)) (ev_var c.toCw (i := 6) (by decide +kernel) (by rfl) (by rfl))))) (fun v_law_found => (run_nil (le_eq (le_eq (le_eq (le_no (le_no (le_no (le_no (le_no le_nil))))))))))) (run_app c (i := 2) (by decide +kernel) (by rfl) (by rfl) (ev_tup3 ev_str (ev_var c.toCw (i := 5) (by decide +kernel) (by rfl) (by rfl)) (ev_var c.toCw (i := 6) (by decide +kernel) (by rfl) (by rfl))) (fun v_law_found => (run_nil (le_eq (le_eq (le_eq (le_no (le_no (le_no (le_no (le_no le_nil))))))))))))))))))))))) (fun s1 => (run_ret (ev_tuple c.toCw g.bt (by decide +kernel) (evb_own c.toCw (i := 2) (by decide +kernel) (by rfl) (by rfl))) ht0)))))
theorem d_law_other {P : Program} {w : World} {K : PySem.W.Frag} {mg : Str → Option Value} {base : Heap} (g : G P w K mg base) : ∀ n : Nat, Df P w K mg base CX0 (2 + 1 * n) "_law_other" (spD K 1 (l1 (m_law_other n)))
  | 0 => df_badD g.at_law_other fun ds => (by unfold l1; split <;> rfl)
  | n + 1 => df_ofD (k := 2 + 1 * n + 0) g.at_law_other s_law_other (n := 1) rfl (m := l1 (m_law_other (n + 1))) (o := l1 (o_law_other (m_law_other n))) (fun ds hl => match ds, hl with | [v_law_run_here], _ => rfl)
      fun X a c e1 e2 e3 e4 e5 => by subst e1 e2 e3 e4 e5; exact fun ds hl => match ds, hl with | [v_law_run_here], _ => r_law_other (k := 2 + 1 * n + 0) c (noWD a) g (by omega) (d_law_other g n) (by omega) (by omega) v_law_run_here
theorem s_law : FnScope ["_law_script", "_law_draws_here", "_law_book_here", "_law_n", "_law_run_here", "_law_other_here", "_law_turn", "_law_stock_here", "_law_entry"] ["_law_script"] (defScope (top 31)) := ⟨rfl, rfl, rfl, by decide +kernel, rfl, by decide +kernel, by decide +kernel⟩
theorem r_law {X : Cx} {k : Nat} {dra : Addr} (c : Cd CX0 k (wdD dra) ["_law_script", "_law_draws_here", "_law_book_here", "_law_n", "_law_run_here", "_law_other_here", "_law_turn", "_law_stock_here", "_law_entry"] (defScope (top 31)) X) (W : NoW (wdD dra)) (g : G X.prog X.w X.K X.mg X.base) (hk : 23 ≤ k) :
    Run X (wdD dra) (fun _ : Unit => [.no, .no, .no, .no, .no, .no, .no, .no, .no]) (fun e : Empty => e.elim) (fun _ : Unit => []) [.no, .w, .no, .no, .no, .no, .no, .no, .no] ((defBody (top 31)).tail) o_law :=
  (run_set c (i := 2) (by decide +kernel) (by rfl) (ev_callD1 c.toCw W (d_law_book g) (Nat.le_trans (by decide) hk) (by decide +kernel) (i := 1) (by decide +kernel) (by rfl) (by rfl) ev_int) (fun v_law_book_here => (run_set c (i := 3) (by decide +kernel) (by rfl) (ev_len c.toCw g.bt (by decide +kernel) (Ev.look (ev_ix (Ev.look (ev_var c.toCw (i := 2) (by decide +kernel) (by rfl) (by rfl))) (Ev.look ev_int)))) (fun v_law_n => (run_set c (i := 4) (by decide +kernel) (by rfl) (ev_callD3 c.toCw W (d_law_run g 5) (Nat.le_trans (by decide) hk) (by decide +kernel) (i := 1) (by decide +kernel) (by rfl) (by rfl) (ev_len c.toCw g.bt (by decide +kernel) (Ev.look (ev_ix (Ev.look (ev_var c.toCw (i := 2) (by decide +kernel) (by rfl) (by rfl))) (Ev.look ev_int)))) ev_int (ev_pow (Ev.look ev_int) (Ev.look ev_int))) (fun v_law_run_here => (run_set c (i := 5) (by decide +kernel) (by rfl) (ev_callD1 c.toCw W (d_law_other g 5) (Nat.le_trans (by decide) hk) (by decide +kernel) (i := 1) (by decide +kernel) (by rfl) (by rfl) (ev_var c.toCw (i := 4) (by decide +kernel) (by rfl) (by rfl))) (fun v_law_other_here => (run_ifx (eE := fun e => e.elim) (evt_w (evw_or (evt_isNot (Ev.look (ev_call2 c.toCw W (d_is_run g) (Nat.le_trans (by decide) hk) (by decide +kernel) (ev_var c.toCw (i := 2) (by decide +kernel) (by rfl) (by rfl)) (ev_var c.toCw (i := 5) (by decide +kernel) (by rfl) (by rfl)))) (Ev.look ev_bl)) (evw_or1 (evt_ne c.toCw (Ev.look (ev_call1 c.toCw W (d_length g 8) (Nat.le_trans (by decide) hk) (by decide +kernel) (ev_var c.toCw (i := 4) (by decide +kernel) (by rfl) (by rfl)))) (Ev.look (ev_call1 c.toCw W (d_length g 8) (Nat.le_trans (by decide) hk) (by decide +kernel) (ev_var c.toCw (i := 5) (by decide +kernel) (by rfl) (by rfl)))))))) (run_ret ev_bl ht0) (run_ifx (eE := fun e => e.elim) (evt_w (evw_or (evt_ne c.toCw (Ev.look (ev_call2 c.toCw W (d_need g) (Nat.le_trans (by decide) hk) (by decide +kernel) (ev_var c.toCw (i := 2) (by decide +kernel) (by rfl) (by rfl)) (ev_var c.toCw (i := 4) (by decide +kernel) (by rfl) (by rfl)))) (Ev.look (ev_call2 c.toCw W (d_need g) (Nat.le_trans (by decide) hk) (by decide +kernel) (ev_var c.toCw (i := 2) (by decide +kernel) (by rfl) (by rfl)) (ev_var c.toCw (i := 5) (by decide +kernel) (by rfl) (by rfl))))) (evw_or1 (evt_ne c.toCw (Ev.look (ev_call2 c.toCw W (d_change g) (Nat.le_trans (by decide) hk) (by decide +kernel) (ev_var c.toCw (i := 2) (by decide +kernel) (by rfl) (by rfl)) (ev_var c.toCw (i := 4) (by decide +kernel) (by rfl) (by rfl)))) (Ev.look (ev_call2 c.toCw W (d_change g) (Nat.le_trans (by decide) hk) (by decide +kernel) (ev_var c.toCw (i := 2) (by decide +kernel) (by rfl) (by rfl)) (ev_var c.toCw (i := 5) (by decide +kernel) (by rfl) (by rfl)))))))) (run_ret ev_bl ht0) (run_for (S1 := Unit) (eS1 := fun (s1 : Unit) => [.no, .w, .d v_law_book_here, .d v_law_n, .d v_law_run_here, .d v_law_other_here, .no, .no, .no]) (s0 := ()) c (i := 6) (by decide +kernel) (by rfl) (evi_r1 c.toCw g.bt (by decide +kernel) (Ev.look ev_int)) (le_no (le_eq (le_eq (le_eq (le_eq (le_eq (le_no (le_no (le_no le_nil))))))))) (fun s1 v_law_turn => (run_set c (i := 7) (by decide +kernel) (by rfl) (ev_ix (Ev.look (EvL.ev (evl_lst3 (ev_call2 c.toCw W (d_need g) (Nat.le_trans (by decide) hk) (by decide +kernel) (ev_var c.toCw (i := 2) (by decide +kernel) (by rfl) (by rfl)) (ev_var c.toCw (i := 4) (by decide +kernel) (by rfl) (by rfl))) (ev_callD2 c.toCw W (d_law_stock g) (Nat.le_trans (by decide) hk) (by decide +kernel) (i := 1) (by decide +kernel) (by rfl) (by rfl) (ev_var c.toCw (i := 3) (by decide +kernel) (by rfl) (by rfl)) ev_int) (ev_callD2 c.toCw W (d_law_stock g) (Nat.le_trans (by decide) hk) (by decide +kernel) (i := 1) (by decide +kernel) (by rfl) (by rfl) (ev_var c.toCw (i := 3) (by decide +kernel) (by rfl) (by rfl)) (ev_pow (Ev.look ev_int) (Ev.look ev_int)))))) (Ev.look (ev_mod (Ev.look (ev_var c.toCw (i := 6) (by decide +kernel) (by rfl) (by rfl))) (Ev.look ev_int)))) (fun v_law_stock_here => (run_if (eS1 := fun (s2 : D) => [.no, .w, .d v_law_book_here, .d v_law_n, .d v_law_run_here, .d v_law_other_here, .d v_law_turn, .d s2, .no]) (evt_eq c.toCw (Ev.look (ev_var c.toCw (i := 6) (by decide +kernel) (by rfl) (by rfl))) (Ev.look ev_int)) (run_set c (i := 7) (by decide +kernel) (by rfl) (ev_tuple c.toCw g.bt (by decide +kernel) (Ev.look (EvL.ev (evl_comp c.toCw (i := 8) (by decide +kernel) (by rfl) (by decide +kernel) (by rfl) (by rfl) (evj_seq (Ev.look (ev_call2 c.toCw W (d_need g) (Nat.le_trans (by decide) hk) (by decide +kernel) (ev_var c.toCw (i := 2) (by decide +kernel) (by rfl) (by rfl)) (ev_var c.toCw (i := 4) (by decide +kernel) (by rfl) (by rfl))))) (fun v_law_entry s0 H0 C cl fp => have c3 := Cw.blk c.toCw cx0F s0 H0 _ C cl fp; have W4 := NoW.calm W; (ev_max c3 g.bt (by decide +kernel) (Ev.look ev_int) (Ev.look (ev_sub (Ev.look (ev_var c3 (i := 8) (by decide +kernel) (by rfl) (by rfl))) (Ev.look (ev_callD1 c3 W4 (d_law_take g) (Nat.le_trans (by decide) hk) (by decide +kernel) (i := 1) (by decide +kernel) (by rfl) (by rfl) ev_int)))))))))) (fun v_law_stock_here => (run_nil (le_no (le_eq (le_eq (le_eq (le_eq (le_eq (le_eq (le_eq (le_no le_nil)))))))))))) (run_nil (le_no (le_eq (le_eq (le_eq (le_eq (le_eq (le_eq (le_eq (le_no le_nil)))))))))) (fun s2 => (run_ifx (eE := fun e => e.elim) (evt_ne c.toCw (Ev.look (ev_call3 c.toCw W (d_end_of_run g) (Nat.le_trans (by decide) hk) (by decide +kernel) (ev_var c.toCw (i := 2) (by decide +kernel) (by rfl) (by rfl)) (ev_var c.toCw (i := 7) (by decide +kernel) (by rfl) (by rfl)) (ev_var c.toCw (i := 4) (by decide +kernel) (by rfl) (by rfl)))) (Ev.look (ev_call3 c.toCw W (d_end_of_run g) (Nat.le_trans (by decide) hk) (by decide +kernel) (ev_var c.toCw (i := 2) (by decide +kernel) (by rfl) (by rfl)) (ev_var c.toCw (i := 7) (by decide +kernel) (by rfl) (by rfl)) (ev_var c.toCw (i := 5) (by decide +kernel) (by rfl) (by rfl))))) (run_ret ev_bl ht0) (run_if1 (evt_ne c.toCw (Ev.look (ev_call3 c.toCw W (d_stops_at g 8) (Nat.le_trans (by decide) hk) (by decide +kernel) (ev_var c.toCw (i := 2) (by decide +kernel) (by rfl) (by rfl)) (ev_var c.toCw (i := 7) (by decide +kernel) (by rfl) (by rfl)) (ev_var c.toCw (i := 4) (by decide +kernel) (by rfl) (by rfl)))) (Ev.look (ev_call3 c.toCw W (d_stops_at g 8) (Nat.le_trans (by decide) hk) (by decide +kernel) (ev_var c.toCw (i := 2) (by decide +kernel) (by rfl) (by rfl)) (ev_var c.toCw (i := 7) (by decide +kernel) (by rfl) (by rfl)) (ev_var c.toCw (i := 5) (by decide +kernel) (by rfl) (by rfl))))) (run_ret ev_bl ht0) (run_nil (le_no (le_eq (le_eq (le_eq (le_eq (le_eq (le_no (le_no (le_no le_nil))))))))))))))))) (fun s1 => (run_ret ev_bl ht0)))))))))))))
theorem d_law {P : Program} {w : World} {K : PySem.W.Frag} {mg : Str → Option Value} {base : Heap} (g : G P w K mg base) {f : Addr} {fd : FuncData} (F : Fun K "law" "law" (top 31) f fd) (hm : ∀ ns : List Int, ns.length ≤ 63 → (m_law_numbers (.list (ns.map PyData.int)) (.int drawCount)).wp rowsOk (fun _ _ => False)) (ho : o_law.wp (fun x => ∃ t, x = .rt (.bool true) t) fun _ _ => False) :
    FnOk P w K mg base CX0 24 f fd ["_law_script"] (spLaw K) :=
  ok_law F s_law rfl (d_law_draws g) (by decide) hm (by decide +kernel) rfl (fun X a c e1 e2 e3 e4 e5 => by subst e1 e2 e3 e4 e5; exact r_law c (noWD a) g (by decide)) ho
theorem all_mk {l : PySem.W.OpenLaw} {w : World} {K : PySem.W.Frag} {h : Heap} {mg : Str → Option Value} {fa : Addr} (X : K.In h) (Gm : h.Ns mainGlobals mg) (hfa : mg "law" = some (.ref fa))
    {f1 : Addr} {od1 an1 : Option Addr} {sl1 : Array (Option Value)} {oc1 kV1 dc1 pm1 cd1 ct1 : Value}
    {f2 : Addr} {od2 an2 : Option Addr} {sl2 : Array (Option Value)} {oc2 kV2 dc2 pm2 cd2 ct2 : Value}
    {f3 : Addr} {od3 an3 : Option Addr} {sl3 : Array (Option Value)} {oc3 kV3 dc3 pm3 cd3 ct3 : Value}
    {f4 : Addr} {od4 an4 : Option Addr} {sl4 : Array (Option Value)} {oc4 kV4 dc4 pm4 cd4 ct4 : Value}
    {f5 : Addr} {od5 an5 : Option Addr} {sl5 : Array (Option Value)} {oc5 kV5 dc5 pm5 cd5 ct5 : Value}
    {f6 : Addr} {od6 an6 : Option Addr} {sl6 : Array (Option Value)} {oc6 kV6 dc6 pm6 cd6 ct6 : Value}
    {f7 : Addr} {od7 an7 : Option Addr} {sl7 : Array (Option Value)} {oc7 kV7 dc7 pm7 cd7 ct7 : Value}
    {f8 : Addr} {od8 an8 : Option Addr} {sl8 : Array (Option Value)} {oc8 kV8 dc8 pm8 cd8 ct8 : Value}
    {f9 : Addr} {od9 an9 : Option Addr} {sl9 : Array (Option Value)} {oc9 kV9 dc9 pm9 cd9 ct9 : Value}
    {f10 : Addr} {od10 an10 : Option Addr} {sl10 : Array (Option Value)} {oc10 kV10 dc10 pm10 cd10 ct10 : Value}
    {f11 : Addr} {od11 an11 : Option Addr} {sl11 : Array (Option Value)} {oc11 kV11 dc11 pm11 cd11 ct11 : Value}
    {f12 : Addr} {od12 an12 : Option Addr} {sl12 : Array (Option Value)} {oc12 kV12 dc12 pm12 cd12 ct12 : Value}
    {f13 : Addr} {od13 an13 : Option Addr} {sl13 : Array (Option Value)} {oc13 kV13 dc13 pm13 cd13 ct13 : Value}
    {f14 : Addr} {od14 an14 : Option Addr} {sl14 : Array (Option Value)} {oc14 kV14 dc14 pm14 cd14 ct14 : Value}
    {f15 : Addr} {od15 an15 : Option Addr} {sl15 : Array (Option Value)} {oc15 kV15 dc15 pm15 cd15 ct15 : Value}
    {f16 : Addr} {od16 an16 : Option Addr} {sl16 : Array (Option Value)} {oc16 kV16 dc16 pm16 cd16 ct16 : Value}
    {f17 : Addr} {od17 an17 : Option Addr} {sl17 : Array (Option Value)} {oc17 kV17 dc17 pm17 cd17 ct17 : Value}
    {f18 : Addr} {od18 an18 : Option Addr} {sl18 : Array (Option Value)} {oc18 kV18 dc18 pm18 cd18 ct18 : Value}
    {f19 : Addr} {od19 an19 : Option Addr} {sl19 : Array (Option Value)} {oc19 kV19 dc19 pm19 cd19 ct19 : Value}
    {f20 : Addr} {od20 an20 : Option Addr} {sl20 : Array (Option Value)} {oc20 kV20 dc20 pm20 cd20 ct20 : Value}
    {f21 : Addr} {od21 an21 : Option Addr} {sl21 : Array (Option Value)} {oc21 kV21 dc21 pm21 cd21 ct21 : Value}
    {f22 : Addr} {od22 an22 : Option Addr} {sl22 : Array (Option Value)} {oc22 kV22 dc22 pm22 cd22 ct22 : Value}
    {f23 : Addr} {od23 an23 : Option Addr} {sl23 : Array (Option Value)} {oc23 kV23 dc23 pm23 cd23 ct23 : Value}
    {f24 : Addr} {od24 an24 : Option Addr} {sl24 : Array (Option Value)} {oc24 kV24 dc24 pm24 cd24 ct24 : Value}
    {f25 : Addr} {od25 an25 : Option Addr} {sl25 : Array (Option Value)} {oc25 kV25 dc25 pm25 cd25 ct25 : Value}
    {f26 : Addr} {od26 an26 : Option Addr} {sl26 : Array (Option Value)} {oc26 kV26 dc26 pm26 cd26 ct26 : Value}
    {f27 : Addr} {od27 an27 : Option Addr} {sl27 : Array (Option Value)} {oc27 kV27 dc27 pm27 cd27 ct27 : Value}
    {f28 : Addr} {od28 an28 : Option Addr} {sl28 : Array (Option Value)} {oc28 kV28 dc28 pm28 cd28 ct28 : Value}
    {t_MAX_NESTED : Tok}
    (a1 : PySem.W.nsIn K mainGlobals "plus" = some (some (.ref f1))) (l1 : K.lookup f1 = some ⟨oc1, od1, .func (PySem.W.fnOf "plus" "plus" (defArgs (top 1)) (defBody (top 1)) (defScope (top 1)) .none kV1 dc1 pm1 an1 cd1 ct1), sl1⟩) (c1 : PySem.W.codeIn K cd1 "plus" = true) (k1 : PySem.W.keepIn K (.ref f1) = true)
    (a2 : PySem.W.nsIn K mainGlobals "less" = some (some (.ref f2))) (l2 : K.lookup f2 = some ⟨oc2, od2, .func (PySem.W.fnOf "less" "less" (defArgs (top 2)) (defBody (top 2)) (defScope (top 2)) .none kV2 dc2 pm2 an2 cd2 ct2), sl2⟩) (c2 : PySem.W.codeIn K cd2 "less" = true) (k2 : PySem.W.keepIn K (.ref f2) = true)
    (a3 : PySem.W.nsIn K mainGlobals "times" = some (some (.ref f3))) (l3 : K.lookup f3 = some ⟨oc3, od3, .func (PySem.W.fnOf "times" "times" (defArgs (top 3)) (defBody (top 3)) (defScope (top 3)) .none kV3 dc3 pm3 an3 cd3 ct3), sl3⟩) (c3 : PySem.W.codeIn K cd3 "times" = true) (k3 : PySem.W.keepIn K (.ref f3) = true)
    (a4 : PySem.W.nsIn K mainGlobals "greater" = some (some (.ref f4))) (l4 : K.lookup f4 = some ⟨oc4, od4, .func (PySem.W.fnOf "greater" "greater" (defArgs (top 4)) (defBody (top 4)) (defScope (top 4)) .none kV4 dc4 pm4 an4 cd4 ct4), sl4⟩) (c4 : PySem.W.codeIn K cd4 "greater" = true) (k4 : PySem.W.keepIn K (.ref f4) = true)
    (a5 : PySem.W.nsIn K mainGlobals "covers" = some (some (.ref f5))) (l5 : K.lookup f5 = some ⟨oc5, od5, .func (PySem.W.fnOf "covers" "covers" (defArgs (top 5)) (defBody (top 5)) (defScope (top 5)) .none kV5 dc5 pm5 an5 cd5 ct5), sl5⟩) (c5 : PySem.W.codeIn K cd5 "covers" = true) (k5 : PySem.W.keepIn K (.ref f5) = true)
    (a6 : PySem.W.nsIn K mainGlobals "can_do" = some (some (.ref f6))) (l6 : K.lookup f6 = some ⟨oc6, od6, .func (PySem.W.fnOf "can_do" "can_do" (defArgs (top 6)) (defBody (top 6)) (defScope (top 6)) .none kV6 dc6 pm6 an6 cd6 ct6), sl6⟩) (c6 : PySem.W.codeIn K cd6 "can_do" = true) (k6 : PySem.W.keepIn K (.ref f6) = true)
    (a7 : PySem.W.nsIn K mainGlobals "done" = some (some (.ref f7))) (l7 : K.lookup f7 = some ⟨oc7, od7, .func (PySem.W.fnOf "done" "done" (defArgs (top 7)) (defBody (top 7)) (defScope (top 7)) .none kV7 dc7 pm7 an7 cd7 ct7), sl7⟩) (c7 : PySem.W.codeIn K cd7 "done" = true) (k7 : PySem.W.keepIn K (.ref f7) = true)
    (a8 : PySem.W.nsIn K mainGlobals "need_and_change" = some (some (.ref f8))) (l8 : K.lookup f8 = some ⟨oc8, od8, .func (PySem.W.fnOf "need_and_change" "need_and_change" (defArgs (top 8)) (defBody (top 8)) (defScope (top 8)) .none kV8 dc8 pm8 an8 cd8 ct8), sl8⟩) (c8 : PySem.W.codeIn K cd8 "need_and_change" = true) (k8 : PySem.W.keepIn K (.ref f8) = true)
    (a9 : PySem.W.nsIn K mainGlobals "need" = some (some (.ref f9))) (l9 : K.lookup f9 = some ⟨oc9, od9, .func (PySem.W.fnOf "need" "need" (defArgs (top 9)) (defBody (top 9)) (defScope (top 9)) .none kV9 dc9 pm9 an9 cd9 ct9), sl9⟩) (c9 : PySem.W.codeIn K cd9 "need" = true) (k9 : PySem.W.keepIn K (.ref f9) = true)
    (a10 : PySem.W.nsIn K mainGlobals "change" = some (some (.ref f10))) (l10 : K.lookup f10 = some ⟨oc10, od10, .func (PySem.W.fnOf "change" "change" (defArgs (top 10)) (defBody (top 10)) (defScope (top 10)) .none kV10 dc10 pm10 an10 cd10 ct10), sl10⟩) (c10 : PySem.W.codeIn K cd10 "change" = true) (k10 : PySem.W.keepIn K (.ref f10) = true)
    (a11 : PySem.W.nsIn K mainGlobals "length" = some (some (.ref f11))) (l11 : K.lookup f11 = some ⟨oc11, od11, .func (PySem.W.fnOf "length" "length" (defArgs (top 11)) (defBody (top 11)) (defScope (top 11)) .none kV11 dc11 pm11 an11 cd11 ct11), sl11⟩) (c11 : PySem.W.codeIn K cd11 "length" = true) (k11 : PySem.W.keepIn K (.ref f11) = true)
    (a12 : PySem.W.nsIn K mainGlobals "end_of_run" = some (some (.ref f12))) (l12 : K.lookup f12 = some ⟨oc12, od12, .func (PySem.W.fnOf "end_of_run" "end_of_run" (defArgs (top 12)) (defBody (top 12)) (defScope (top 12)) .none kV12 dc12 pm12 an12 cd12 ct12), sl12⟩) (c12 : PySem.W.codeIn K cd12 "end_of_run" = true) (k12 : PySem.W.keepIn K (.ref f12) = true)
    (a13 : PySem.W.nsIn K mainGlobals "rounds" = some (some (.ref f13))) (l13 : K.lookup f13 = some ⟨oc13, od13, .func (PySem.W.fnOf "rounds" "rounds" (defArgs (top 13)) (defBody (top 13)) (defScope (top 13)) .none kV13 dc13 pm13 an13 cd13 ct13), sl13⟩) (c13 : PySem.W.codeIn K cd13 "rounds" = true) (k13 : PySem.W.keepIn K (.ref f13) = true)
    (a14 : PySem.W.nsIn K mainGlobals "stops_at" = some (some (.ref f14))) (l14 : K.lookup f14 = some ⟨oc14, od14, .func (PySem.W.fnOf "stops_at" "stops_at" (defArgs (top 14)) (defBody (top 14)) (defScope (top 14)) .none kV14 dc14 pm14 an14 cd14 ct14), sl14⟩) (c14 : PySem.W.codeIn K cd14 "stops_at" = true) (k14 : PySem.W.keepIn K (.ref f14) = true)
    (a15 : PySem.W.nsIn K mainGlobals "is_number" = some (some (.ref f15))) (l15 : K.lookup f15 = some ⟨oc15, od15, .func (PySem.W.fnOf "is_number" "is_number" (defArgs (top 17)) (defBody (top 17)) (defScope (top 17)) .none kV15 dc15 pm15 an15 cd15 ct15), sl15⟩) (c15 : PySem.W.codeIn K cd15 "is_number" = true) (k15 : PySem.W.keepIn K (.ref f15) = true)
    (a16 : PySem.W.nsIn K mainGlobals "is_step" = some (some (.ref f16))) (l16 : K.lookup f16 = some ⟨oc16, od16, .func (PySem.W.fnOf "is_step" "is_step" (defArgs (top 18)) (defBody (top 18)) (defScope (top 18)) .none kV16 dc16 pm16 an16 cd16 ct16), sl16⟩) (c16 : PySem.W.codeIn K cd16 "is_step" = true) (k16 : PySem.W.keepIn K (.ref f16) = true)
    (a17 : PySem.W.nsIn K mainGlobals "are_steps" = some (some (.ref f17))) (l17 : K.lookup f17 = some ⟨oc17, od17, .func (PySem.W.fnOf "are_steps" "are_steps" (defArgs (top 19)) (defBody (top 19)) (defScope (top 19)) .none kV17 dc17 pm17 an17 cd17 ct17), sl17⟩) (c17 : PySem.W.codeIn K cd17 "are_steps" = true) (k17 : PySem.W.keepIn K (.ref f17) = true)
    (a18 : PySem.W.nsIn K mainGlobals "is_run" = some (some (.ref f18))) (l18 : K.lookup f18 = some ⟨oc18, od18, .func (PySem.W.fnOf "is_run" "is_run" (defArgs (top 20)) (defBody (top 20)) (defScope (top 20)) .none kV18 dc18 pm18 an18 cd18 ct18), sl18⟩) (c18 : PySem.W.codeIn K cd18 "is_run" = true) (k18 : PySem.W.keepIn K (.ref f18) = true)
    (a19 : PySem.W.nsIn K mainGlobals "_law_mix" = some (some (.ref f19))) (l19 : K.lookup f19 = some ⟨oc19, od19, .func (PySem.W.fnOf "_law_mix" "_law_mix" (defArgs (top 22)) (defBody (top 22)) (defScope (top 22)) .none kV19 dc19 pm19 an19 cd19 ct19), sl19⟩) (c19 : PySem.W.codeIn K cd19 "_law_mix" = true) (k19 : PySem.W.keepIn K (.ref f19) = true)
    (a20 : PySem.W.nsIn K mainGlobals "_law_numbers" = some (some (.ref f20))) (l20 : K.lookup f20 = some ⟨oc20, od20, .func (PySem.W.fnOf "_law_numbers" "_law_numbers" (defArgs (top 23)) (defBody (top 23)) (defScope (top 23)) .none kV20 dc20 pm20 an20 cd20 ct20), sl20⟩) (c20 : PySem.W.codeIn K cd20 "_law_numbers" = true) (k20 : PySem.W.keepIn K (.ref f20) = true)
    (a21 : PySem.W.nsIn K mainGlobals "_law_draws" = some (some (.ref f21))) (l21 : K.lookup f21 = some ⟨oc21, od21, .func (PySem.W.fnOf "_law_draws" "_law_draws" (defArgs (top 24)) (defBody (top 24)) (defScope (top 24)) .none kV21 dc21 pm21 an21 cd21 ct21), sl21⟩) (c21 : PySem.W.codeIn K cd21 "_law_draws" = true) (k21 : PySem.W.keepIn K (.ref f21) = true)
    (a22 : PySem.W.nsIn K mainGlobals "_law_take" = some (some (.ref f22))) (l22 : K.lookup f22 = some ⟨oc22, od22, .func (PySem.W.fnOf "_law_take" "_law_take" (defArgs (top 25)) (defBody (top 25)) (defScope (top 25)) .none kV22 dc22 pm22 an22 cd22 ct22), sl22⟩) (c22 : PySem.W.codeIn K cd22 "_law_take" = true) (k22 : PySem.W.keepIn K (.ref f22) = true)
    (a23 : PySem.W.nsIn K mainGlobals "_law_named" = some (some (.ref f23))) (l23 : K.lookup f23 = some ⟨oc23, od23, .func (PySem.W.fnOf "_law_named" "_law_named" (defArgs (top 26)) (defBody (top 26)) (defScope (top 26)) .none kV23 dc23 pm23 an23 cd23 ct23), sl23⟩) (c23 : PySem.W.codeIn K cd23 "_law_named" = true) (k23 : PySem.W.keepIn K (.ref f23) = true)
    (a24 : PySem.W.nsIn K mainGlobals "_law_stock" = some (some (.ref f24))) (l24 : K.lookup f24 = some ⟨oc24, od24, .func (PySem.W.fnOf "_law_stock" "_law_stock" (defArgs (top 27)) (defBody (top 27)) (defScope (top 27)) .none kV24 dc24 pm24 an24 cd24 ct24), sl24⟩) (c24 : PySem.W.codeIn K cd24 "_law_stock" = true) (k24 : PySem.W.keepIn K (.ref f24) = true)
    (a25 : PySem.W.nsIn K mainGlobals "_law_book" = some (some (.ref f25))) (l25 : K.lookup f25 = some ⟨oc25, od25, .func (PySem.W.fnOf "_law_book" "_law_book" (defArgs (top 28)) (defBody (top 28)) (defScope (top 28)) .none kV25 dc25 pm25 an25 cd25 ct25), sl25⟩) (c25 : PySem.W.codeIn K cd25 "_law_book" = true) (k25 : PySem.W.keepIn K (.ref f25) = true)
    (a26 : PySem.W.nsIn K mainGlobals "_law_run" = some (some (.ref f26))) (l26 : K.lookup f26 = some ⟨oc26, od26, .func (PySem.W.fnOf "_law_run" "_law_run" (defArgs (top 29)) (defBody (top 29)) (defScope (top 29)) .none kV26 dc26 pm26 an26 cd26 ct26), sl26⟩) (c26 : PySem.W.codeIn K cd26 "_law_run" = true) (k26 : PySem.W.keepIn K (.ref f26) = true)
    (a27 : PySem.W.nsIn K mainGlobals "_law_other" = some (some (.ref f27))) (l27 : K.lookup f27 = some ⟨oc27, od27, .func (PySem.W.fnOf "_law_other" "_law_other" (defArgs (top 30)) (defBody (top 30)) (defScope (top 30)) .none kV27 dc27 pm27 an27 cd27 ct27), sl27⟩) (c27 : PySem.W.codeIn K cd27 "_law_other" = true) (k27 : PySem.W.keepIn K (.ref f27) = true)
    (a28 : PySem.W.nsIn K mainGlobals "law" = some (some (.ref f28))) (l28 : K.lookup f28 = some ⟨oc28, od28, .func (PySem.W.fnOf "law" "law" (defArgs (top 31)) (defBody (top 31)) (defScope (top 31)) .none kV28 dc28 pm28 an28 cd28 ct28), sl28⟩) (c28 : PySem.W.codeIn K cd28 "law" = true) (k28 : PySem.W.keepIn K (.ref f28) = true)
    (z_len : PySem.W.nsIn K mainGlobals "len" = some none)
    (z_range : PySem.W.nsIn K mainGlobals "range" = some none)
    (z_tuple : PySem.W.nsIn K mainGlobals "tuple" = some none)
    (z_list : PySem.W.nsIn K mainGlobals "list" = some none)
    (z_sum : PySem.W.nsIn K mainGlobals "sum" = some none)
    (z_max : PySem.W.nsIn K mainGlobals "max" = some none)
    (z_min : PySem.W.nsIn K mainGlobals "min" = some none)
    (z_abs : PySem.W.nsIn K mainGlobals "abs" = some none)
    (z_int : PySem.W.nsIn K mainGlobals "int" = some none)
    (z_str : PySem.W.nsIn K mainGlobals "str" = some none)
    (z_all : PySem.W.nsIn K mainGlobals "all" = some none)
    (z_any : PySem.W.nsIn K mainGlobals "any" = some none)
    (z_isinstance : PySem.W.nsIn K mainGlobals "isinstance" = some none)
    (z_bool : PySem.W.nsIn K mainGlobals "bool" = some none)
    (z_sorted : PySem.W.nsIn K mainGlobals "sorted" = some none)
    (con_MAX_NESTED : PySem.W.nsIn K mainGlobals "MAX_NESTED" = some (some (.int (30) t_MAX_NESTED)))
    : ∃ fd : FuncData, (∀ (s : Shared) (v : Value), BindsTo s fd ⟨[v], []⟩ [("_law_script", v)]) ∧ ∀ base : Heap, K.In base → base.Ns mainGlobals mg → FnOk l.prog w K mg base CX0 24 fa fd ["_law_script"] (spLaw K) :=
  law_mk X Gm hfa a28 l28 c28 k28 (fun s v => .of_eq rfl) fun fd base F =>
    have g : G l.prog w K mg base := {
      bt := ⟨PySem.W.mg_none_of X Gm z_len, PySem.W.mg_none_of X Gm z_range, PySem.W.mg_none_of X Gm z_tuple, PySem.W.mg_none_of X Gm z_list, PySem.W.mg_none_of X Gm z_sum, PySem.W.mg_none_of X Gm z_max, PySem.W.mg_none_of X Gm z_min, PySem.W.mg_none_of X Gm z_abs, PySem.W.mg_none_of X Gm z_int, PySem.W.mg_none_of X Gm z_str, PySem.W.mg_none_of X Gm z_all, PySem.W.mg_none_of X Gm z_any, PySem.W.mg_none_of X Gm z_isinstance, PySem.W.mg_none_of X Gm z_bool, PySem.W.mg_none_of X Gm z_sorted⟩
      at_plus := at_mk X Gm a1 l1 c1 k1 (fun fd F => F.binds fun _ _ _ _ _ _ us hl => match us, hl with | [_, _], _ => rfl)
      at_less := at_mk X Gm a2 l2 c2 k2 (fun fd F => F.binds fun _ _ _ _ _ _ us hl => match us, hl with | [_, _], _ => rfl)
      at_times := at_mk X Gm a3 l3 c3 k3 (fun fd F => F.binds fun _ _ _ _ _ _ us hl => match us, hl with | [_, _], _ => rfl)
      at_greater := at_mk X Gm a4 l4 c4 k4 (fun fd F => F.binds fun _ _ _ _ _ _ us hl => match us, hl with | [_, _], _ => rfl)
      at_covers := at_mk X Gm a5 l5 c5 k5 (fun fd F => F.binds fun _ _ _ _ _ _ us hl => match us, hl with | [_, _], _ => rfl)
      at_can_do := at_mk X Gm a6 l6 c6 k6 (fun fd F => F.binds fun _ _ _ _ _ _ us hl => match us, hl with | [_, _, _], _ => rfl)
      at_done := at_mk X Gm a7 l7 c7 k7 (fun fd F => F.binds fun _ _ _ _ _ _ us hl => match us, hl with | [_, _, _], _ => rfl)
      at_need_and_change := at_mk X Gm a8 l8 c8 k8 (fun fd F => F.binds fun _ _ _ _ _ _ us hl => match us, hl with | [_, _], _ => rfl)
      at_need := at_mk X Gm a9 l9 c9 k9 (fun fd F => F.binds fun _ _ _ _ _ _ us hl => match us, hl with | [_, _], _ => rfl)
      at_change := at_mk X Gm a10 l10 c10 k10 (fun fd F => F.binds fun _ _ _ _ _ _ us hl => match us, hl with | [_, _], _ => rfl)
      at_length := at_mk X Gm a11 l11 c11 k11 (fun fd F => F.binds fun _ _ _ _ _ _ us hl => match us, hl with | [_], _ => rfl)
      at_end_of_run := at_mk X Gm a12 l12 c12 k12 (fun fd F => F.binds fun _ _ _ _ _ _ us hl => match us, hl with | [_, _, _], _ => rfl)
      at_rounds := at_mk X Gm a13 l13 c13 k13 (fun fd F => F.binds fun _ _ _ _ _ _ us hl => match us, hl with | [_, _, _, _], _ => rfl)
      at_stops_at := at_mk X Gm a14 l14 c14 k14 (fun fd F => F.binds fun _ _ _ _ _ _ us hl => match us, hl with | [_, _, _], _ => rfl)
      at_is_number := at_mk X Gm a15 l15 c15 k15 (fun fd F => F.binds fun _ _ _ _ _ _ us hl => match us, hl with | [_, _, _], _ => rfl)
      at_is_step := at_mk X Gm a16 l16 c16 k16 (fun fd F => F.binds fun _ _ _ _ _ _ us hl => match us, hl with | [_, _, _], _ => rfl)
      at_are_steps := at_mk X Gm a17 l17 c17 k17 (fun fd F => F.binds fun _ _ _ _ _ _ us hl => match us, hl with | [_, _, _], _ => rfl)
      at_is_run := at_mk X Gm a18 l18 c18 k18 (fun fd F => F.binds fun _ _ _ _ _ _ us hl => match us, hl with | [_, _], _ => rfl)
      at_law_mix := at_mk X Gm a19 l19 c19 k19 (fun fd F => F.binds fun _ _ _ _ _ _ us hl => match us, hl with | [_, _], _ => rfl)
      at_law_numbers := at_mk X Gm a20 l20 c20 k20 (fun fd F => F.binds fun _ _ _ _ _ _ us hl => match us, hl with | [_, _], _ => rfl)
      at_law_draws := at_mk X Gm a21 l21 c21 k21 (fun fd F => F.binds fun _ _ _ _ _ _ us hl => match us, hl with | [_, _], _ => rfl)
      at_law_take := at_mk X Gm a22 l22 c22 k22 (fun fd F => F.binds fun _ _ _ _ _ _ us hl => match us, hl with | [_, _], _ => rfl)
      at_law_named := at_mk X Gm a23 l23 c23 k23 (fun fd F => F.binds fun _ _ _ _ _ _ us hl => match us, hl with | [_], _ => rfl)
      at_law_stock := at_mk X Gm a24 l24 c24 k24 (fun fd F => F.binds fun _ _ _ _ _ _ us hl => match us, hl with | [_, _, _], _ => rfl)
      at_law_book := at_mk X Gm a25 l25 c25 k25 (fun fd F => F.binds fun _ _ _ _ _ _ us hl => match us, hl with | [_, _], _ => rfl)
      at_law_run := at_mk X Gm a26 l26 c26 k26 (fun fd F => F.binds fun _ _ _ _ _ _ us hl => match us, hl with | [_, _, _, _], _ => rfl)
      at_law_other := at_mk X Gm a27 l27 c27 k27 (fun fd F => F.binds fun _ _ _ _ _ _ us hl => match us, hl with | [_, _], _ => rfl)
      at_law := at_mk X Gm a28 l28 c28 k28 (fun fd F => F.binds fun _ _ _ _ _ _ us hl => match us, hl with | [_], _ => rfl)
      con_MAX_NESTED := con_mk_int X Gm con_MAX_NESTED }
    d_law g F fin_m fin_o
end k13
open PySem PySem.W PyProof.Rows
set_option maxHeartbeats 0 in
theorem PySem.Challenge.cw_mintlaw_k13_runs_written_otherwise_holds : PySem.Challenge.rw_mintlaw_k13_runs_written_otherwise.Holds := by
  w_on; o_law; k_head; (case hw => w_witness2)
  k_fill
  refine L2.walk_of (l := PySem.Challenge.rw_mintlaw_k13_runs_written_otherwise) (n := 63) (k := 24) (x := "_law_script") (CX := fun _ => L2.CX0) (sp := fun w => Pu.spLaw _) rfl (by decide) rfl ⟨rfl, by decide, by decide⟩ (fun w h Y => PySem.W.kIn_of Y) ?F (fun _ _ a ns hl _ hS => ⟨a, ns, rfl, hS, hl, fun _ => rfl⟩) (fun _ _ _ _ _ h => h)
  case F =>
    intro w mg fa h KX G hmg
    refine' k13.all_mk KX G hmg ?a1 ?l1 ?c1 ?k1 ?a2 ?l2 ?c2 ?k2 ?a3 ?l3 ?c3 ?k3 ?a4 ?l4 ?c4 ?k4 ?a5 ?l5 ?c5 ?k5 ?a6 ?l6 ?c6 ?k6 ?a7 ?l7 ?c7 ?k7 ?a8 ?l8 ?c8 ?k8 ?a9 ?l9 ?c9 ?k9 ?a10 ?l10 ?c10 ?k10 ?a11 ?l11 ?c11 ?k11 ?a12 ?l12 ?c12 ?k12 ?a13 ?l13 ?c13 ?k13 ?a14 ?l14 ?c14 ?k14 ?a15 ?l15 ?c15 ?k15 ?a16 ?l16 ?c16 ?k16 ?a17 ?l17 ?c17 ?k17 ?a18 ?l18 ?c18 ?k18 ?a19 ?l19 ?c19 ?k19 ?a20 ?l20 ?c20 ?k20 ?a21 ?l21 ?c21 ?k21 ?a22 ?l22 ?c22 ?k22 ?a23 ?l23 ?c23 ?k23 ?a24 ?l24 ?c24 ?k24 ?a25 ?l25 ?c25 ?k25 ?a26 ?l26 ?c26 ?k26 ?a27 ?l27 ?c27 ?k27 ?a28 ?l28 ?c28 ?k28 ?z_len ?z_range ?z_tuple ?z_list ?z_sum ?z_max ?z_min ?z_abs ?z_int ?z_str ?z_all ?z_any ?z_isinstance ?z_bool ?z_sorted ?con_MAX_NESTED
    (case a1 => k_is); (case l1 => k_is); (case c1 => k_is); (case k1 => k_is); (case a2 => k_is); (case l2 => k_is); (case c2 => k_is); (case k2 => k_is)
    (case a3 => k_is); (case l3 => k_is); (case c3 => k_is); (case k3 => k_is); (case a4 => k_is); (case l4 => k_is); (case c4 => k_is); (case k4 => k_is)
    (case a5 => k_is); (case l5 => k_is); (case c5 => k_is); (case k5 => k_is); (case a6 => k_is); (case l6 => k_is); (case c6 => k_is); (case k6 => k_is)
    (case a7 => k_is); (case l7 => k_is); (case c7 => k_is); (case k7 => k_is); (case a8 => k_is); (case l8 => k_is); (case c8 => k_is); (case k8 => k_is)
    (case a9 => k_is); (case l9 => k_is); (case c9 => k_is); (case k9 => k_is); (case a10 => k_is); (case l10 => k_is); (case c10 => k_is); (case k10 => k_is)
    (case a11 => k_is); (case l11 => k_is); (case c11 => k_is); (case k11 => k_is); (case a12 => k_is); (case l12 => k_is); (case c12 => k_is); (case k12 => k_is)
    (case a13 => k_is); (case l13 => k_is); (case c13 => k_is); (case k13 => k_is); (case a14 => k_is); (case l14 => k_is); (case c14 => k_is); (case k14 => k_is)
    (case a15 => k_is); (case l15 => k_is); (case c15 => k_is); (case k15 => k_is); (case a16 => k_is); (case l16 => k_is); (case c16 => k_is); (case k16 => k_is)
    (case a17 => k_is); (case l17 => k_is); (case c17 => k_is); (case k17 => k_is); (case a18 => k_is); (case l18 => k_is); (case c18 => k_is); (case k18 => k_is)
    (case a19 => k_is); (case l19 => k_is); (case c19 => k_is); (case k19 => k_is); (case a20 => k_is); (case l20 => k_is); (case c20 => k_is); (case k20 => k_is)
    (case a21 => k_is); (case l21 => k_is); (case c21 => k_is); (case k21 => k_is); (case a22 => k_is); (case l22 => k_is); (case c22 => k_is); (case k22 => k_is)
    (case a23 => k_is); (case l23 => k_is); (case c23 => k_is); (case k23 => k_is); (case a24 => k_is); (case l24 => k_is); (case c24 => k_is); (case k24 => k_is)
    (case a25 => k_is); (case l25 => k_is); (case c25 => k_is); (case k25 => k_is); (case a26 => k_is); (case l26 => k_is); (case c26 => k_is); (case k26 => k_is)
    (case a27 => k_is); (case l27 => k_is); (case c27 => k_is); (case k27 => k_is); (case a28 => k_is); (case l28 => k_is); (case c28 => k_is); (case k28 => k_is)
    (case z_len => k_is); (case z_range => k_is); (case z_tuple => k_is); (case z_list => k_is); (case z_sum => k_is); (case z_max => k_is); (case z_min => k_is); (case z_abs => k_is)
    (case z_int => k_is); (case z_str => k_is); (case z_all => k_is); (case z_any => k_is); (case z_isinstance => k_is); (case z_bool => k_is); (case z_sorted => k_is); (case con_MAX_NESTED => k_is)
