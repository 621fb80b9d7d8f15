import PyProof.Rows.All
import Wide.All
import OpenK.AllK
import Wide.FinOn
import HandS.ForMost
import HandS.ForExc
import KE.KDictKeyed
import KE.KeyNested
import HandS.Flow
import HandS.Wide
import HandS.TupAny
import HandS.TupMul
import HandS.TupLe
import HandS.Deep
import HandS.Conv
import KE.DataCmp
import KE.LtData
import KE.SortData
import HandS.IsInst
import HandS.Walk
import HandS.Zip
import KE.GoesEnum
import HandS.ExcOwn
import HandS.WordsExc
import HandS.List
import HandS.Exc
import KE.KExcSuper
import KE.KSuper
import PyProof.EqAt
import PyProof.EqKinds
import PyProof.TupleCall
import HandS.ForSpec
import HandS.TryMany
import HandS.TryOnly
import HandS.ExcField
import HandS.Defaults
import HandS.Style
import KE.KRevSl
import KE.KDictExact
import PyProof.TupleOfSeq
import HandS.More
import KE.KDictSum
import HandS.SetFor
import HandS.Strs
import HandS.Star
import PySem.Challenge.RW_everystack_k55_checks_judged_and_marked
set_option Elab.async false
set_option linter.all false
set_option maxRecDepth 100000
set_option maxHeartbeats 2000000
/-! P0: the pure layer's ground: data, the mirror's monad, what a value stands for, a def's slots. -/
namespace Pu
open PySem PySem.Spec L2

abbrev D := PyData
/-- a choice that is never worked out (whnf of great numbers) -/
noncomputable def cIf {α : Type} (p : Prop) (a b : α) : α := @ite α p (Classical.propDecidable p) a b
theorem cIf_pos {α : Type} {p : Prop} {a b : α} (h : p) : cIf p a b = a := by unfold cIf; rw [if_pos h]
theorem cIf_neg {α : Type} {p : Prop} {a b : α} (h : ¬ p) : cIf p a b = b := by unfold cIf; rw [if_neg h]

/-- a mirror's answer: a value; an error of an own class with its field; nothing is said; something less than n is drawn -/
inductive R (α : Type) where
  | ok (a : α)
  | exc (x : Str) (d : Option D)
  | bad
  | ch (n : Nat) (k : Nat → R α)
namespace R
def bind {α β : Type} : R α → (α → R β) → R β
  | .ok a, f => f a
  | .exc x d, _ => .exc x d
  | .bad, _ => .bad
  | .ch n k, f => .ch n fun i => bind (k i) f
instance : Monad R := { pure := .ok, bind := R.bind }
@[simp] theorem ok_bind {α β : Type} (a : α) (f : α → R β) : (R.ok a >>= f) = f a := rfl
@[simp] theorem exc_bind {α β : Type} (x : Str) (d : Option D) (f : α → R β) : ((R.exc x d : R α) >>= f) = R.exc x d := rfl
@[simp] theorem bad_bind {α β : Type} (f : α → R β) : ((R.bad : R α) >>= f) = R.bad := rfl
@[simp] theorem ch_bind {α β : Type} (n : Nat) (k : Nat → R α) (f : α → R β) : ((R.ch n k : R α) >>= f) = R.ch n fun i => k i >>= f := rfl
@[simp] theorem pure_eq {α : Type} (a : α) : (pure a : R α) = .ok a := rfl
@[simp] theorem bind_assoc {α β γ : Type} (m : R α) (f : α → R β) (g : β → R γ) : ((m >>= f) >>= g) = m >>= fun a => f a >>= g := by
  induction m with
  | ch n k ih => simp only [ch_bind]; congr 1; funext i; exact ih i
  | _ => rfl
@[simp] theorem bind_ok {α : Type} (m : R α) : (m >>= fun a => R.ok a) = m := by
  induction m with
  | ch n k ih => simp only [ch_bind]; congr 1; funext i; exact ih i
  | _ => rfl
def of {α : Type} : Option α → R α
  | some a => .ok a
  | none => .bad
@[simp] theorem of_some {α : Type} (a : α) : R.of (some a) = .ok a := rfl
@[simp] theorem of_none {α : Type} : R.of (none : Option α) = .bad := rfl
end R
/-- m run with a purse of c draws: where it comes to -/
def Po {α : Type} : Nat → R α → (Nat → α → Prop) → (Nat → Str → Option D → Prop) → Prop
  | c, .ok a, ok, _ => ok c a
  | c, .exc x d, _, ex => ex c x d
  | _, .bad, _, _ => False
  | 0, .ch _ _, _, _ => False
  | c + 1, .ch n k, ok, ex => ∀ i, i < n → Po c (k i) ok ex
section
variable {α β : Type} {ok ok' : Nat → α → Prop} {ex ex' : Nat → Str → Option D → Prop}
@[simp] theorem Po.ok_ {c : Nat} {a : α} : Po c (.ok a) ok ex = ok c a := by cases c <;> rfl
@[simp] theorem Po.exc_ {c : Nat} {x : Str} {d : Option D} : Po c (.exc x d : R α) ok ex = ex c x d := by cases c <;> rfl
@[simp] theorem Po.bad_ {c : Nat} : Po c (.bad : R α) ok ex = False := by cases c <;> rfl
theorem Po.mono {m : R α} (ho : ∀ c a, ok c a → ok' c a) (he : ∀ c x d, ex c x d → ex' c x d) : ∀ {c : Nat}, Po c m ok ex → Po c m ok' ex' := by
  induction m with
  | ok a => intro c h; rw [Po.ok_] at h ⊢; exact ho _ _ h
  | exc x d => intro c h; rw [Po.exc_] at h ⊢; exact he _ _ _ h
  | bad => intro c h; rw [Po.bad_] at h; exact h.elim
  | ch n k ih =>
    intro c h
    cases c with
    | zero => exact h
    | succ c => exact fun i hi => ih i (h i hi)
theorem Po.bind {m : R α} {f : α → R β} {ok : Nat → β → Prop} : ∀ {c : Nat}, Po c (m >>= f) ok ex → Po c m (fun c' a => Po c' (f a) ok ex) ex := by
  induction m with
  | ok a => intro c h; rw [Po.ok_]; exact h
  | exc x d => intro c h; rw [Po.exc_]; rw [R.exc_bind, Po.exc_] at h; exact h
  | bad => intro c h; rw [R.bad_bind, Po.bad_] at h; exact h.elim
  | ch n k ih =>
    intro c h
    cases c with
    | zero => exact h
    | succ c => exact fun i hi => ih i (h i hi)
theorem Po.of {o : Option α} {c : Nat} (h : Po c (R.of o) ok ex) : ∃ a, o = some a ∧ ok c a := by
  cases o with
  | none => rw [R.of_none, Po.bad_] at h; exact h.elim
  | some a => rw [R.of_some, Po.ok_] at h; exact ⟨a, rfl, h⟩
theorem Po.ofb {o : Option α} {f : α → R β} {ok : Nat → β → Prop} {c : Nat} (h : Po c (R.of o >>= f) ok ex) : ∃ a, o = some a ∧ Po c (f a) ok ex := Po.of (Po.bind h)
end

/-- the ground of a run -/
structure Gd where
  P : Program
  w : World
  K : PySem.W.Frag
abbrev gd (X : Cx) : Gd := ⟨X.prog, X.w, X.K⟩

mutual
/-- a key of a dict -/
def keyOf : D → Option NestedKey
  | .none => some .none
  | .bool b => some (.num (if b then 1 else 0))
  | .int i => some (.num i)
  | .str x => some (.text x)
  | .tuple xs => (keysOf xs).map .tup
  | .list _ => none
  | .dict _ => none
def keysOf : List D → Option (List NestedKey)
  | [] => some []
  | x :: xs => match keyOf x, keysOf xs with
    | some k, some ks => some (k :: ks)
    | _, _ => none
end

/-- a dict with tuple keys, at a: its keys, where their tuples stand, its values -/
def DN (G : Gd) (a : Addr) (es : List (NestedKey × Addr × V)) (h : Heap) : Prop :=
  es.length ≤ sizeLine ∧ (a == sysModules) = false ∧ ∃ xs : List (NestedKey × Addr × Value), Paired (fun (p : NestedKey × Addr × V) (q : NestedKey × Addr × Value) => p.1 = q.1 ∧ p.2.1 = q.2.1 ∧ RelV p.2.2 q.2.2) es xs ∧
    ∃ o ens ep, h.get? a = some o ∧ o.ExactDict ∧ o.data = .dict ens ep ∧ ens.toList = xs.map (entryOfKey (nestedKind G.P G.w)) ∧ (xs.map (·.1)).Nodup

/-- at a stands a dict with these keys and values (as values) -/
def DHold (G : Gd) (H : Hp) (a : Addr) (kds : List D) (ks vs : List V) : Prop :=
  (∃ kvs : List (Key × V), H a = some (.dK kvs) ∧ ks = kvs.map (fun p => kV p.1) ∧ vs = kvs.map (·.2)) ∨
  (∃ es : List (NestedKey × Addr × V), H a = some (.ext (DN G a es)) ∧ ks = es.map (fun e => V.ref e.2.1) ∧ vs = es.map (·.2.2) ∧ kds.map keyOf = es.map (fun e => some e.1) ∧ (∀ e ∈ es, e.1.depth ≤ 8))

/-- a list, a tuple of the written part -/
def KSL (K : PySem.W.Frag) (a : Addr) (xs : List V) : Prop :=
  ∃ (o : Obj) (its : Array Value) (n : Nat), K.lookup a = some o ∧ o.cls = .type "list" ∧ o.dict = none ∧ o.data = .seq its n ∧ its.size ≤ sizeLine ∧ Vals xs its.toList
def KST (K : PySem.W.Frag) (a : Addr) (xs : List V) : Prop :=
  ∃ (o : Obj) (its : Array Value) (n : Nat), K.lookup a = some o ∧ o.cls = .type "tuple" ∧ o.data = .seq its n ∧ its.size ≤ sizeLine ∧ Vals xs its.toList
mutual
/-- the value v stands for the data d in H; nothing of it stands in A -/
inductive Rp (G : Gd) (A : Addr → Prop) (H : Hp) : V → D → Prop
  | non : Rp G A H .non .none
  | bl (b : Bool) : Rp G A H (.bl b) (.bool b)
  | int (i : Int) : Rp G A H (.int i) (.int i)
  | str (x : Str) : Rp G A H (.str x) (.str x)
  | lst {a : Addr} {xs : List V} {ds : List D} : ¬ A a ∨ KSL G.K a xs → SqL G.K H a xs → RpAll G A H xs ds → Rp G A H (.ref a) (.list ds)
  | tup {a : Addr} {xs : List V} {ds : List D} : ¬ A a ∨ KST G.K a xs → SqT G.K H a xs → RpAll G A H xs ds → Rp G A H (.ref a) (.tuple ds)
  | dct {a : Addr} {kvs : List (D × D)} {ks vs : List V} {kds vds : List D} : ¬ A a → kds = kvs.map (·.1) → vds = kvs.map (·.2) → DHold G H a kds ks vs → RpAll G A H ks kds → RpAll G A H vs vds → Rp G A H (.ref a) (.dict kvs)
inductive RpAll (G : Gd) (A : Addr → Prop) (H : Hp) : List V → List D → Prop
  | nil : RpAll G A H [] []
  | cons {v : V} {vs : List V} {d : D} {ds : List D} : Rp G A H v d → RpAll G A H vs ds → RpAll G A H (v :: vs) (d :: ds)
end

section
variable {G : Gd} {A A' : Addr → Prop} {H H' : Hp}
theorem SqL.keepN {K : PySem.W.Frag} {A : Addr → Prop} {H H' : Hp} {a : Addr} {xs : List V} (na : ¬ A a ∨ KSL K a xs) (h : SqL K H a xs) (k : ∀ o, ¬ A a → H a = some o → H' a = some o) : SqL K H' a xs := by
  rcases na with na | q
  · rcases h with (h | ⟨o, h⟩) | h
    · exact .inl (.inl (k _ na h))
    · exact .inl (.inr ⟨o, k _ na h⟩)
    · exact .inr h
  · exact .inr q
theorem SqT.keepN {K : PySem.W.Frag} {A : Addr → Prop} {H H' : Hp} {a : Addr} {xs : List V} (na : ¬ A a ∨ KST K a xs) (h : SqT K H a xs) (k : ∀ o, ¬ A a → H a = some o → H' a = some o) : SqT K H' a xs := by
  rcases na with na | q
  · rcases h with (h | ⟨o, h⟩) | h
    · exact .inl (.inl (k _ na h))
    · exact .inl (.inr ⟨o, k _ na h⟩)
    · exact .inr h
  · exact .inr q
theorem SqL.keep' {K : PySem.W.Frag} {a : Addr} {xs : List V} (h : SqL K H a xs) (k : ∀ o, H a = some o → H' a = some o) : SqL K H' a xs := by
  rcases h with (h | ⟨o, h⟩) | h
  · exact .inl (.inl (k _ h))
  · exact .inl (.inr ⟨o, k _ h⟩)
  · exact .inr h
theorem SqT.keep' {K : PySem.W.Frag} {a : Addr} {xs : List V} (h : SqT K H a xs) (k : ∀ o, H a = some o → H' a = some o) : SqT K H' a xs := by
  rcases h with (h | ⟨o, h⟩) | h
  · exact .inl (.inl (k _ h))
  · exact .inl (.inr ⟨o, k _ h⟩)
  · exact .inr h
theorem DHold.keep {a : Addr} {kds : List D} {ks vs : List V} (h : DHold G H a kds ks vs) (k : ∀ o, H a = some o → H' a = some o) : DHold G H' a kds ks vs := by
  rcases h with ⟨kvs, h, r⟩ | ⟨es, h, r⟩
  · exact .inl ⟨kvs, k _ h, r⟩
  · exact .inr ⟨es, k _ h, r⟩
/-- all that is outside A and was tracked is as it was -/
def Kept (A : Addr → Prop) (H H' : Hp) : Prop := ∀ b o, ¬ A b → H b = some o → H' b = some o
mutual
theorem Rp.keep (k : Kept A H H') : ∀ {v : V} {d : D}, Rp G A H v d → Rp G A H' v d
  | _, _, .non => .non
  | _, _, .bl b => .bl b
  | _, _, .int i => .int i
  | _, _, .str x => .str x
  | _, _, .lst na s r => .lst na (SqL.keepN na s fun o n e => k _ o n e) (RpAll.keep k r)
  | _, _, .tup na s r => .tup na (SqT.keepN na s fun o n e => k _ o n e) (RpAll.keep k r)
  | _, _, .dct na e1 e2 h r1 r2 => .dct na e1 e2 (h.keep fun o e => k _ o na e) (RpAll.keep k r1) (RpAll.keep k r2)
theorem RpAll.keep (k : Kept A H H') : ∀ {vs : List V} {ds : List D}, RpAll G A H vs ds → RpAll G A H' vs ds
  | _, _, .nil => .nil
  | _, _, .cons r t => .cons (Rp.keep k r) (RpAll.keep k t)
end
mutual
theorem Rp.sub (k : ∀ a, A' a → A a) : ∀ {v : V} {d : D}, Rp G A H v d → Rp G A' H v d
  | _, _, .non => .non
  | _, _, .bl b => .bl b
  | _, _, .int i => .int i
  | _, _, .str x => .str x
  | _, _, .lst na s r => .lst (na.imp (fun na z => na (k _ z)) id) s (RpAll.sub k r)
  | _, _, .tup na s r => .tup (na.imp (fun na z => na (k _ z)) id) s (RpAll.sub k r)
  | _, _, .dct na e1 e2 h r1 r2 => .dct (fun z => na (k _ z)) e1 e2 h (RpAll.sub k r1) (RpAll.sub k r2)
theorem RpAll.sub (k : ∀ a, A' a → A a) : ∀ {vs : List V} {ds : List D}, RpAll G A H vs ds → RpAll G A' H vs ds
  | _, _, .nil => .nil
  | _, _, .cons r t => .cons (Rp.sub k r) (RpAll.sub k t)
end
/-- more places that are not to be touched: such as are not tracked -/
theorem naL {K : PySem.W.Frag} {A A' : Addr → Prop} {H : Hp} {a : Addr} {xs : List V} (k : ∀ a, A' a → A a ∨ H a = none) (na : ¬ A a ∨ KSL K a xs) (s : SqL K H a xs) : ¬ A' a ∨ KSL K a xs := by
  rcases na with na | q
  · by_cases z : A' a
    · rcases k a z with y | y
      · exact absurd y na
      · rcases s with (h | ⟨o, h⟩) | h
        · rw [y] at h; cases h
        · rw [y] at h; cases h
        · exact .inr h
    · exact .inl z
  · exact .inr q
theorem naT {K : PySem.W.Frag} {A A' : Addr → Prop} {H : Hp} {a : Addr} {xs : List V} (k : ∀ a, A' a → A a ∨ H a = none) (na : ¬ A a ∨ KST K a xs) (s : SqT K H a xs) : ¬ A' a ∨ KST K a xs := by
  rcases na with na | q
  · by_cases z : A' a
    · rcases k a z with y | y
      · exact absurd y na
      · rcases s with (h | ⟨o, h⟩) | h
        · rw [y] at h; cases h
        · rw [y] at h; cases h
        · exact .inr h
    · exact .inl z
  · exact .inr q
theorem DHold.trk {a : Addr} {kds : List D} {ks vs : List V} (h : DHold G H a kds ks vs) : ∃ o, H a = some o := by
  rcases h with ⟨kvs, h, r⟩ | ⟨es, h, r⟩
  · exact ⟨_, h⟩
  · exact ⟨_, h⟩
mutual
theorem Rp.more (k : ∀ a, A' a → A a ∨ H a = none) : ∀ {v : V} {d : D}, Rp G A H v d → Rp G A' H v d
  | _, _, .non => .non
  | _, _, .bl b => .bl b
  | _, _, .int i => .int i
  | _, _, .str x => .str x
  | _, _, .lst na s r => .lst (naL k na s) s (RpAll.more k r)
  | _, _, .tup na s r => .tup (naT k na s) s (RpAll.more k r)
  | _, _, .dct na e1 e2 h r1 r2 => .dct (fun z => (k _ z).elim na fun q => by
      obtain ⟨o, e⟩ := h.trk
      rw [q] at e; cases e) e1 e2 h (RpAll.more k r1) (RpAll.more k r2)
theorem RpAll.more (k : ∀ a, A' a → A a ∨ H a = none) : ∀ {vs : List V} {ds : List D}, RpAll G A H vs ds → RpAll G A' H vs ds
  | _, _, .nil => .nil
  | _, _, .cons r t => .cons (Rp.more k r) (RpAll.more k t)
end
theorem RpAll.length : ∀ {vs : List V} {ds : List D}, RpAll G A H vs ds → vs.length = ds.length
  | _, _, .nil => rfl
  | _, _, .cons _ t => congrArg (· + 1) t.length
theorem RpAll.get : ∀ {vs : List V} {ds : List D} {i : Nat} {d : D}, RpAll G A H vs ds → ds[i]? = some d → ∃ v, vs[i]? = some v ∧ Rp G A H v d
  | _, _, _, _, .nil, e => by simp at e
  | _, _, 0, _, .cons r _, e => by simp at e; subst e; exact ⟨_, rfl, r⟩
  | _, _, i + 1, d, .cons _ t, e => by
    obtain ⟨v, h1, h2⟩ := RpAll.get (i := i) (d := d) t (by simpa using e)
    exact ⟨v, by simpa using h1, h2⟩
theorem RpAll.get' : ∀ {vs : List V} {ds : List D} {i : Nat} {v : V}, RpAll G A H vs ds → vs[i]? = some v → ∃ d, ds[i]? = some d ∧ Rp G A H v d
  | _, _, _, _, .nil, e => by simp at e
  | _, _, 0, _, .cons r _, e => by simp at e; subst e; exact ⟨_, rfl, r⟩
  | _, _, i + 1, d, .cons _ t, e => by
    obtain ⟨v, h1, h2⟩ := RpAll.get' (i := i) t (by simpa using e)
    exact ⟨v, by simpa using h1, h2⟩
theorem RpAll.append : ∀ {vs us : List V} {ds es : List D}, RpAll G A H vs ds → RpAll G A H us es → RpAll G A H (vs ++ us) (ds ++ es)
  | _, _, _, _, .nil, q => q
  | _, _, _, _, .cons r t, q => .cons r (t.append q)
theorem RpAll.take : ∀ {vs : List V} {ds : List D} (n : Nat), RpAll G A H vs ds → RpAll G A H (vs.take n) (ds.take n)
  | _, _, 0, _ => .nil
  | _, _, _ + 1, .nil => .nil
  | _, _, n + 1, .cons r t => .cons r (t.take n)
theorem RpAll.drop : ∀ {vs : List V} {ds : List D} (n : Nat), RpAll G A H vs ds → RpAll G A H (vs.drop n) (ds.drop n)
  | _, _, 0, r => r
  | _, _, _ + 1, .nil => .nil
  | _, _, n + 1, .cons r t => t.drop n
theorem RpAll.reverse {vs : List V} {ds : List D} (r : RpAll G A H vs ds) : RpAll G A H vs.reverse ds.reverse := by
  induction vs generalizing ds with
  | nil => cases r; exact .nil
  | cons v vs ih =>
    cases r with
    | cons r t => rw [List.reverse_cons, List.reverse_cons]; exact (ih t).append (.cons r .nil)
mutual
/-- lists, tuples, flat things: what HandS calls Dp -/
theorem Rp.dp : ∀ {v : V} {d : D}, Rp G A H v d → d.canLay0 = true → Dp G.K H v d
  | _, _, .non, _ => .non
  | _, _, .bl b, _ => .bl b
  | _, _, .int i, _ => .int i
  | _, _, .str x, _ => .str x
  | _, _, .lst _ s r, h => .lst s (RpAll.dp r (by simpa [PyData.canLay0] using h))
  | _, _, .tup _ s r, h => .tup s (RpAll.dp r (by simpa [PyData.canLay0] using h))
  | _, _, .dct .., h => by simp [PyData.canLay0] at h
theorem RpAll.dp : ∀ {vs : List V} {ds : List D}, RpAll G A H vs ds → PyData.canLayAll0 ds = true → DpAll G.K H vs ds
  | _, _, .nil, _ => .nil
  | _, _, .cons r t, h => by
    simp only [PyData.canLayAll0, Bool.and_eq_true] at h
    exact .cons (Rp.dp r h.1) (RpAll.dp t h.2)
end
end

/-! ### a def's slots -/
/-- nothing is known; a value that nobody changes; an own object at a, with what it holds now; the jar of draws at a; the exception at a, its dict at b, its field -/
inductive Slot where
  | no
  | pu (d : D)
  | ce (a : Addr) (d : D)
  | jar (a : Addr)
  | exs (a b : Addr) (d : D)
abbrev Ev := List Slot
def ownOf : Slot → Option Addr
  | .ce a _ => some a
  | .jar a => some a
  | _ => none
/-- a jar with room for c draws -/
def JMAX : Nat := 2 ^ 1000
def CMAX : Nat := 2 ^ 999
def Jar (H : Hp) (a : Addr) (c : Nat) : Prop := ∃ x y t : Int, H a = some (.lst [.int x, .int y, .int t]) ∧ 0 ≤ x ∧ x < 2 ^ 1000 ∧ 0 ≤ y ∧ y < 2 ^ 1000 ∧ 0 ≤ t ∧ t + c ≤ JMAX
theorem Jar.less {H : Hp} {a : Addr} {c c' : Nat} (j : Jar H a c) (h : c' ≤ c) : Jar H a c' := by
  obtain ⟨x, y, t, e, q1, q2, q3, q4, q5, q6⟩ := j
  exact ⟨x, y, t, e, q1, q2, q3, q4, q5, by omega⟩
theorem Jar.keep {H H' : Hp} {a : Addr} {c : Nat} (j : Jar H a c) (k : ∀ o, H a = some o → H' a = some o) : Jar H' a c := by
  obtain ⟨x, y, t, e, q⟩ := j
  exact ⟨x, y, t, k _ e, q⟩
/-- the own objects -/
def owns (ρ : Ev) : List Addr := ρ.filterMap ownOf
theorem owns_mem {ρ : Ev} {a : Addr} : a ∈ owns ρ ↔ ∃ s, s ∈ ρ ∧ ownOf s = some a := by
  unfold owns
  rw [List.mem_filterMap]
/-- an own object holds d; B: all that must not be touched -/
inductive RpC (G : Gd) (B : Addr → Prop) (H : Hp) (a : Addr) : D → Prop
  | lst {xs : List V} {ds : List D} : H a = some (.lst xs) → RpAll G B H xs ds → RpC G B H a (.list ds)
  | dct {kvs : List (D × D)} {ks vs : List V} {kds vds : List D} : kds = kvs.map (·.1) → vds = kvs.map (·.2) → DHold G H a kds ks vs → RpAll G B H ks kds → RpAll G B H vs vds → RpC G B H a (.dict kvs)
theorem RpC.trk {G : Gd} {A : Addr → Prop} {H : Hp} {a : Addr} {d : D} (r : RpC G A H a d) : ∃ o, H a = some o := by
  cases r with
  | lst e _ => exact ⟨_, e⟩
  | dct _ _ h _ _ =>
    rcases h with ⟨kvs, h, r⟩ | ⟨es, h, r⟩
    · exact ⟨_, h⟩
    · exact ⟨_, h⟩
theorem RpC.keep {G : Gd} {A : Addr → Prop} {H H' : Hp} {a : Addr} {d : D} (r : RpC G A H a d) (k : Kept A H H') (ka : ∀ o, H a = some o → H' a = some o) : RpC G A H' a d := by
  cases r with
  | lst e r => exact .lst (ka _ e) (r.keep k)
  | dct e1 e2 h r1 r2 => exact .dct e1 e2 (h.keep ka) (r1.keep k) (r2.keep k)
theorem RpC.sub {G : Gd} {A A' : Addr → Prop} {H : Hp} {a : Addr} {d : D} (r : RpC G A H a d) (k : ∀ a, A' a → A a) : RpC G A' H a d := by
  cases r with
  | lst e r => exact .lst e (r.sub k)
  | dct e1 e2 h r1 r2 => exact .dct e1 e2 h (r1.sub k) (r2.sub k)
/-- an own object handed on: it is data now -/
theorem RpC.frz {G : Gd} {A : Addr → Prop} {H : Hp} {a : Addr} {d : D} (r : RpC G A H a d) (na : ¬ A a) : Rp G A H (.ref a) d := by
  cases r with
  | lst e r => exact .lst (.inl na) (.of e) r
  | dct e1 e2 h r1 r2 => exact .dct na e1 e2 h r1 r2
/-- all of B is tracked -/
def InH (B : Addr → Prop) (H : Hp) : Prop := ∀ a, B a → ∃ o, H a = some o
theorem nav_of {B : Addr → Prop} {H : Hp} (h : InH B H) {a : Addr} (e : H a = none) : ¬ B a := fun z => by
  obtain ⟨o, q⟩ := h a z
  rw [e] at q; cases q
theorem InH.same {B : Addr → Prop} {H H' : Hp} (h : InH B H) (s : Same H H') : InH B H' := fun a z => let ⟨o, q⟩ := h a z; ⟨o, s _ _ q⟩
theorem Same.kept {B : Addr → Prop} {H H' : Hp} (e : Same H H') : Kept B H H' := fun b o _ h => e b o h
theorem Kept.refl {B : Addr → Prop} {H : Hp} : Kept B H H := fun _ _ _ e => e
theorem Kept.trans {B : Addr → Prop} {H H1 H2 : Hp} (a : Kept B H H1) (b : Kept B H1 H2) : Kept B H H2 := fun c o n e => b c o n (a c o n e)
theorem Kept.mono {B B' : Addr → Prop} {H H1 : Hp} (a : Kept B H H1) (h : ∀ c, B c → B' c) : Kept B' H H1 := fun c o n e => a c o (fun z => n (h c z)) e

/-- what a slot that nobody changes says -/
def Ro (G : Gd) (B : Addr → Prop) (H : Hp) (o : Option (Option V)) : Slot → Prop
  | .pu d => ∃ v, o = some (some v) ∧ Rp G B H v d
  | .exs a b d => o = some (some (.ref a)) ∧ ¬ B b ∧ ∃ v, H b = some (.xd [("index", v)]) ∧ Rp G B H v d
  | _ => True
theorem Ro.keep {G : Gd} {B : Addr → Prop} {H H' : Hp} {o : Option (Option V)} {s : Slot} (r : Ro G B H o s) (k : Kept B H H') : Ro G B H' o s := by
  cases s with
  | pu d => obtain ⟨v, e, h⟩ := r; exact ⟨v, e, h.keep k⟩
  | exs a b d => obtain ⟨e, n, v, h1, h2⟩ := r; exact ⟨e, n, v, k _ _ n h1, h2.keep k⟩
  | _ => trivial
theorem Ro.sub {G : Gd} {B B' : Addr → Prop} {H : Hp} {o : Option (Option V)} {s : Slot} (r : Ro G B H o s) (k : ∀ a, B' a → B a) : Ro G B' H o s := by
  cases s with
  | pu d => obtain ⟨v, e, h⟩ := r; exact ⟨v, e, h.sub k⟩
  | exs a b d => obtain ⟨e, n, v, h1, h2⟩ := r; exact ⟨e, fun z => n (k _ z), v, h1, h2.sub k⟩
  | _ => trivial
theorem Ro.more {G : Gd} {B B' : Addr → Prop} {H : Hp} {o : Option (Option V)} {s : Slot} (r : Ro G B H o s) (k : ∀ a, B' a → B a ∨ H a = none) : Ro G B' H o s := by
  cases s with
  | pu d => obtain ⟨v, e, h⟩ := r; exact ⟨v, e, h.more k⟩
  | exs a b d =>
    obtain ⟨e, n, v, h1, h2⟩ := r
    exact ⟨e, fun z => (k _ z).elim n fun y => (by rw [y] at h1; cases h1), v, h1, h2.more k⟩
  | _ => trivial
/-- the slots as the mirror has them. A: the callers' own objects; B: what the data do not reach; c: draws that may still come -/
structure RS (G : Gd) (A B : Addr → Prop) (c : Nat) (H : Hp) (σ : L2.St) (ρ : Ev) : Prop where
  ro : ∀ (i : Nat) (s : Slot), ρ[i]? = some s → Ro G B H σ[i]? s
  ce : ∀ (i : Nat) (a : Addr) (d : D), ρ[i]? = some (.ce a d) → σ[i]? = some (some (.ref a)) ∧ RpC G B H a d ∧ ¬ A a ∧ B a
  jr : ∀ (i : Nat) (a : Addr), ρ[i]? = some (.jar a) → σ[i]? = some (some (.ref a)) ∧ Jar H a c ∧ ¬ A a ∧ B a
  inj : ∀ (i j : Nat) (a : Addr) (s t : Slot), ρ[i]? = some s → ρ[j]? = some t → ownOf s = some a → ownOf t = some a → i = j
  sub : ∀ a, A a → B a
  dom : InH B H
  len : σ.length = ρ.length
  cm : c ≤ CMAX

section
variable {G : Gd} {A B : Addr → Prop} {c : Nat} {H H' : Hp} {σ : L2.St} {ρ ρ' : Ev}
theorem RS.pu (r : RS G A B c H σ ρ) (i : Nat) (d : D) (h : ρ[i]? = some (.pu d)) : ∃ v, σ[i]? = some (some v) ∧ Rp G B H v d := r.ro i _ h
theorem RS.nav (r : RS G A B c H σ ρ) {a : Addr} (h : H a = none) : ¬ B a := nav_of r.dom h
/-- the heap grows -/
theorem RS.ext (r : RS G A B c H σ ρ) (e : Same H H') : RS G A B c H' σ ρ where
  ro := fun i s h => (r.ro i s h).keep (Same.kept e)
  ce := fun i a d h => let ⟨h1, h2, h3⟩ := r.ce i a d h; ⟨h1, h2.keep (Same.kept e) (fun o q => e _ _ q), h3⟩
  jr := fun i a h => let ⟨h1, h2, h3⟩ := r.jr i a h; ⟨h1, h2.keep (fun o q => e _ _ q), h3⟩
  inj := r.inj
  sub := r.sub
  dom := r.dom.same e
  len := r.len
  cm := r.cm
theorem RS.less {c' : Nat} (r : RS G A B c H σ ρ) (h : c' ≤ c) : RS G A B c' H σ ρ := { r with jr := fun i a e => let ⟨h1, h2, h3⟩ := r.jr i a e; ⟨h1, h2.less h, h3⟩, cm := Nat.le_trans h r.cm }
theorem RS.at (r : RS G A B c H σ ρ) {i : Nat} {s : Slot} {a : Addr} (h : ρ[i]? = some s) (e : ownOf s = some a) : σ[i]? = some (some (.ref a)) ∧ ¬ A a ∧ B a := by
  cases s with
  | ce b d => cases e; exact ⟨(r.ce i _ d h).1, (r.ce i _ d h).2.2⟩
  | jar b => cases e; exact ⟨(r.jr i _ h).1, (r.jr i _ h).2.2⟩
  | _ => cases e
theorem RS.own (r : RS G A B c H σ ρ) {a : Addr} (h : a ∈ owns ρ) : B a ∧ ¬ A a := by
  obtain ⟨d, h, e⟩ := owns_mem.mp h
  obtain ⟨i, hi, e'⟩ := List.getElem_of_mem h
  have := r.at (i := i) (s := d) (by rw [List.getElem?_eq_getElem hi, e']) e
  exact ⟨this.2.2, this.2.1⟩
/-- knowing less -/
inductive Wk : Ev → Ev → Prop
  | nil : Wk [] []
  | no {s : Slot} {ρ ρ' : Ev} : Wk ρ ρ' → Wk (s :: ρ) (.no :: ρ')
  | eq {s : Slot} {ρ ρ' : Ev} : Wk ρ ρ' → Wk (s :: ρ) (s :: ρ')
theorem Wk.refl : ∀ ρ : Ev, Wk ρ ρ
  | [] => .nil
  | _ :: ρ => .eq (Wk.refl ρ)
theorem Wk.get : ∀ {ρ ρ' : Ev}, Wk ρ ρ' → ∀ (i : Nat) (s : Slot), ρ'[i]? = some s → s = .no ∨ ρ[i]? = some s
  | _, _, .nil, i, s, h => by simp at h
  | _, _, .no w, 0, s, h => by simp at h; exact .inl h.symm
  | _, _, .no w, i + 1, s, h => by simpa using w.get i s (by simpa using h)
  | _, _, .eq w, 0, s, h => .inr h
  | _, _, .eq w, i + 1, s, h => by simpa using w.get i s (by simpa using h)
theorem Wk.length : ∀ {ρ ρ' : Ev}, Wk ρ ρ' → ρ.length = ρ'.length
  | _, _, .nil => rfl
  | _, _, .no w => congrArg (· + 1) w.length
  | _, _, .eq w => congrArg (· + 1) w.length
/-- fewer slots are known -/
theorem RS.lose (r : RS G A B c H σ ρ) (hl : ρ.length = ρ'.length) (w : ∀ (i : Nat) (s : Slot), ρ'[i]? = some s → s = .no ∨ ρ[i]? = some s) : RS G A B c H σ ρ' := by
  refine ⟨fun i s h => ?_, fun i a d h => ?_, fun i a h => ?_, fun i j a s t h1 h2 e1 e2 => ?_, r.sub, r.dom, r.len.trans hl, r.cm⟩
  · rcases w i _ h with z | z
    · subst z; trivial
    · exact r.ro i s z
  · rcases w i _ h with z | z
    · cases z
    · exact r.ce i a d z
  · rcases w i _ h with z | z
    · cases z
    · exact r.jr i a z
  · rcases w i _ h1 with z | z
    · subst z; cases e1
    · rcases w j _ h2 with z' | z'
      · subst z'; cases e2
      · exact r.inj i j a s t z z' e1 e2
theorem RS.wk (r : RS G A B c H σ ρ) (w : Wk ρ ρ') : RS G A B c H σ ρ' := r.lose w.length w.get
theorem getE_set {ρ : Ev} {i j : Nat} {s t : Slot} (q : (ρ.set i t)[j]? = some s) : (j = i ∧ s = t) ∨ (j ≠ i ∧ ρ[j]? = some s) := by
  by_cases e : i = j
  · subst e
    rw [List.getElem?_set] at q
    simp at q
    exact .inl ⟨rfl, q.2.symm⟩
  · rw [List.getElem?_set_ne e] at q
    exact .inr ⟨fun z => e z.symm, q⟩
/-- a name gets data -/
theorem RS.put (r : RS G A B c H σ ρ) {i : Nat} {v : V} {d : D} (hi : i < ρ.length) (h : Rp G B H v d) : RS G A B c H (σ.set i (some v)) (ρ.set i (.pu d)) := by
  have hi' : i < σ.length := by rw [r.len]; exact hi
  refine ⟨fun j e q => ?_, fun j a e q => ?_, fun j a q => ?_, fun j k a s t q1 q2 e1 e2 => ?_, r.sub, r.dom, (by rw [List.length_set, List.length_set]; exact r.len), r.cm⟩
  · rcases getE_set q with ⟨rfl, z⟩ | ⟨hj, z⟩
    · subst z
      exact ⟨v, by rw [List.getElem?_set_self hi'], h⟩
    · rw [List.getElem?_set_ne (Ne.symm hj)]; exact r.ro j e z
  · rcases getE_set q with ⟨rfl, z⟩ | ⟨hj, z⟩
    · cases z
    · obtain ⟨h1, h2⟩ := r.ce j a e z
      exact ⟨by rw [List.getElem?_set_ne (Ne.symm hj)]; exact h1, h2⟩
  · rcases getE_set q with ⟨rfl, z⟩ | ⟨hj, z⟩
    · cases z
    · obtain ⟨h1, h2⟩ := r.jr j a z
      exact ⟨by rw [List.getElem?_set_ne (Ne.symm hj)]; exact h1, h2⟩
  · rcases getE_set q1 with ⟨rfl, z⟩ | ⟨hj, z⟩
    · subst z; cases e1
    · rcases getE_set q2 with ⟨rfl, z'⟩ | ⟨hk, z'⟩
      · subst z'; cases e2
      · exact r.inj j k a s t z z' e1 e2
/-- a name gets an object of its own: new since H, so nothing that stood leads to it -/
theorem RS.putO (r : RS G A B c H σ ρ) {i : Nat} {a : Addr} {s0 : Slot} (hi : i < ρ.length) (e : Same H H') (h0 : H a = none) (hs : ownOf s0 = some a)
    (h : (∀ d, s0 = .ce a d → RpC G (fun b => B b ∨ b = a) H' a d) ∧ (s0 = .jar a → Jar H' a c) ∧ ∃ o, H' a = some o) :
    RS G A (fun b => B b ∨ b = a) c H' (σ.set i (some (.ref a))) (ρ.set i s0) := by
  have hi' : i < σ.length := by rw [r.len]; exact hi
  have nB := r.nav h0
  have up : ∀ {v d}, Rp G B H v d → Rp G (fun b => B b ∨ b = a) H' v d := fun {v d} q => (Rp.more (fun b z => z.imp id fun z => by subst z; exact h0) q).keep (Same.kept e)
  have upA : ∀ {v d}, RpAll G B H v d → RpAll G (fun b => B b ∨ b = a) H' v d := fun {v d} q => (RpAll.more (fun b z => z.imp id fun z => by subst z; exact h0) q).keep (Same.kept e)
  refine ⟨fun j e q => ?_, fun j b e q => ?_, fun j b q => ?_, fun j k b s t q1 q2 e1 e2 => ?_, fun b z => .inl (r.sub b z), fun b z => ?_, (by rw [List.length_set, List.length_set]; exact r.len), r.cm⟩
  · rcases getE_set q with ⟨hji, z⟩ | ⟨hj, z⟩
    · rw [z]
      cases s0 with
      | ce _ _ => trivial
      | jar _ => trivial
      | _ => cases hs
    · rw [List.getElem?_set_ne (Ne.symm hj)]
      exact ((r.ro j e z).more fun b z => z.imp id fun z => by subst z; exact h0).keep (Same.kept ‹Same H H'›)
  · rcases getE_set q with ⟨rfl, z⟩ | ⟨hj, z⟩
    · subst z; cases hs
      exact ⟨by rw [List.getElem?_set_self hi'], h.1 _ rfl, fun z => nB (r.sub _ z), .inr rfl⟩
    · obtain ⟨h1, h2, h3, h4⟩ := r.ce j b e z
      refine ⟨by rw [List.getElem?_set_ne (Ne.symm hj)]; exact h1, ?_, h3, .inl h4⟩
      cases h2 with
      | lst q1 q2 => exact .lst (by first | exact ‹Same H H'› _ _ q1) (upA q2)
      | dct e1 e2 q1 q2 q3 => exact .dct e1 e2 (q1.keep fun o z => by first | exact ‹Same H H'› _ _ z) (upA q2) (upA q3)
  · rcases getE_set q with ⟨rfl, z⟩ | ⟨hj, z⟩
    · subst z; cases hs
      exact ⟨by rw [List.getElem?_set_self hi'], h.2.1 rfl, fun z => nB (r.sub _ z), .inr rfl⟩
    · obtain ⟨h1, h2, h3, h4⟩ := r.jr j b z
      exact ⟨by rw [List.getElem?_set_ne (Ne.symm hj)]; exact h1, h2.keep fun o z => e _ _ z, h3, .inl h4⟩
  · have one : ∀ {k : Nat} {t : Slot}, ρ[k]? = some t → ownOf t = some a → False := fun {k t} z e => nB (r.at z e).2.2
    rcases getE_set q1 with ⟨rfl, z⟩ | ⟨hj, z⟩
    · subst z
      rw [hs] at e1; cases e1
      rcases getE_set q2 with ⟨rfl, z'⟩ | ⟨hk, z'⟩
      · rfl
      · exact (one z' e2).elim
    · rcases getE_set q2 with ⟨rfl, z'⟩ | ⟨hk, z'⟩
      · subst z'; rw [hs] at e2; cases e2; exact (one z e1).elim
      · exact r.inj j k b s t z z' e1 e2
  · rcases z with z | z
    · exact r.dom.same e b z
    · subst z; exact h.2.2
theorem RS.putC (r : RS G A B c H σ ρ) {i : Nat} {a : Addr} {d : D} (hi : i < ρ.length) (e : Same H H') (h0 : H a = none) (h : RpC G (fun b => B b ∨ b = a) H' a d) :
    RS G A (fun b => B b ∨ b = a) c H' (σ.set i (some (.ref a))) (ρ.set i (.ce a d)) := r.putO hi e h0 rfl ⟨fun d e => (by cases e; exact h), fun e => (by cases e), h.trk⟩
/-- an own object's content has changed -/
theorem RS.chg (r : RS G A B c H σ ρ) {i : Nat} {a : Addr} {d d' : D} (hi : ρ[i]? = some (.ce a d)) (k : ∀ b o, b ≠ a → H b = some o → H' b = some o) (h : RpC G B H' a d') : RS G A B c H' σ (ρ.set i (.ce a d')) := by
  obtain ⟨s1, s2, s3, s4⟩ := r.ce i a d hi
  have kp : Kept B H H' := fun b o n e => k b o (fun z => n (z ▸ s4)) e
  refine ⟨fun j e q => ?_, fun j b e q => ?_, fun j b q => ?_, fun j l b s t q1 q2 e1 e2 => ?_, r.sub, fun b z => ?_, (by rw [List.length_set]; exact r.len), r.cm⟩
  · rcases getE_set q with ⟨rfl, z⟩ | ⟨hj, z⟩
    · subst z; trivial
    · exact (r.ro j e z).keep kp
  · rcases getE_set q with ⟨rfl, z⟩ | ⟨hj, z⟩
    · cases z
      exact ⟨s1, h, s3, s4⟩
    · obtain ⟨h1, h2, h3, h4⟩ := r.ce j b e z
      refine ⟨h1, h2.keep kp fun o z' => k b o (fun y => ?_) z', h3, h4⟩
      subst y
      exact hj (r.inj _ _ _ _ _ z hi rfl rfl)
  · rcases getE_set q with ⟨rfl, z⟩ | ⟨hj, z⟩
    · cases z
    · obtain ⟨h1, h2, h3, h4⟩ := r.jr j b z
      refine ⟨h1, h2.keep fun o z' => k b o (fun y => ?_) z', h3, h4⟩
      subst y
      exact hj (r.inj _ _ _ _ _ z hi rfl rfl)
  · rcases getE_set q1 with ⟨rfl, z⟩ | ⟨hj, z⟩
    · subst z; cases e1
      rcases getE_set q2 with ⟨rfl, z'⟩ | ⟨hl, z'⟩
      · rfl
      · exact r.inj _ _ _ _ _ hi z' rfl e2
    · rcases getE_set q2 with ⟨rfl, z'⟩ | ⟨hl, z'⟩
      · subst z'; cases e2; exact r.inj _ _ _ _ _ z hi e1 rfl
      · exact r.inj _ _ _ _ _ z z' e1 e2
  · by_cases hb : b = a
    · subst hb; exact h.trk
    · obtain ⟨o, q⟩ := r.dom b z
      exact ⟨o, k b o hb q⟩
/-- an own object is data from now on -/
theorem RS.frz (r : RS G A B c H σ ρ) {i : Nat} {a : Addr} {d : D} (hi : ρ[i]? = some (.ce a d)) : RS G A (fun b => B b ∧ b ≠ a) c H σ (ρ.set i (.pu d)) := by
  obtain ⟨s1, s2, s3, s4⟩ := r.ce i a d hi
  have sb : ∀ b, (B b ∧ b ≠ a) → B b := fun b z => z.1
  refine ⟨fun j e q => ?_, fun j b e q => ?_, fun j b q => ?_, fun j l b s t q1 q2 e1 e2 => ?_, fun b z => ⟨r.sub b z, fun y => s3 (y ▸ z)⟩, fun b z => r.dom b z.1, (by rw [List.length_set]; exact r.len), r.cm⟩
  · rcases getE_set q with ⟨rfl, z⟩ | ⟨hj, z⟩
    · subst z
      exact ⟨_, s1, (s2.sub sb).frz fun y => y.2 rfl⟩
    · exact (r.ro j e z).sub sb
  · rcases getE_set q with ⟨rfl, z⟩ | ⟨hj, z⟩
    · cases z
    · obtain ⟨h1, h2, h3, h4⟩ := r.ce j b e z
      refine ⟨h1, h2.sub sb, h3, h4, fun y => ?_⟩
      subst y
      exact hj (r.inj _ _ _ _ _ z hi rfl rfl)
  · rcases getE_set q with ⟨rfl, z⟩ | ⟨hj, z⟩
    · cases z
    · obtain ⟨h1, h2, h3, h4⟩ := r.jr j b z
      refine ⟨h1, h2, h3, h4, fun y => ?_⟩
      subst y
      exact hj (r.inj _ _ _ _ _ z hi rfl rfl)
  · rcases getE_set q1 with ⟨rfl, z⟩ | ⟨hj, z⟩
    · subst z; cases e1
    · rcases getE_set q2 with ⟨rfl, z'⟩ | ⟨hl, z'⟩
      · subst z'; cases e2
      · exact r.inj _ _ _ _ _ z z' e1 e2
/-- an expression may have drawn: nothing else has changed -/
structure Kx (A B : Addr → Prop) (H H' : Hp) : Prop where
  kept : Kept (fun b => B b ∧ ¬ A b) H H'
  there : ∀ b o, H b = some o → ∃ o', H' b = some o'
/-- all but the jars -/
abbrev Aj (B : Addr → Prop) (ρ : Ev) : Addr → Prop := fun b => B b ∧ Slot.jar b ∉ ρ
theorem mem_get {ρ : Ev} {s : Slot} (h : s ∈ ρ) : ∃ i : Nat, ρ[i]? = some s := by
  obtain ⟨i, hi, e⟩ := List.getElem_of_mem h
  exact ⟨i, by rw [List.getElem?_eq_getElem hi, e]⟩
theorem Kx.ofj (r : RS G A B c H σ ρ) (k : Kx (Aj B ρ) B H H') : Kx A B H H' := ⟨fun b o n e => k.kept b o (fun z => n ⟨z.1, by
  have hj : Slot.jar b ∈ ρ := Classical.byContradiction fun y => z.2 ⟨z.1, y⟩
  obtain ⟨i, hi⟩ := mem_get hj
  exact (r.jr i b hi).2.2.1⟩) e, k.there⟩
theorem Kx.refl : Kx A B H H := ⟨Kept.refl, fun _ o e => ⟨o, e⟩⟩
theorem Kx.same (s : Same H H') : Kx A B H H' := ⟨Same.kept s, fun _ o e => ⟨o, s _ _ e⟩⟩
theorem Kx.trans {H2 : Hp} (a : Kx A B H H') (b : Kx A B H' H2) : Kx A B H H2 := ⟨a.kept.trans b.kept, fun x o e => let ⟨o', q⟩ := a.there x o e; b.there x o' q⟩
theorem Kx.kp (a : Kx A B H H') : Kept B H H' := a.kept.mono fun _ z => z.1
theorem Rp.kx {v : V} {d : D} (r : Rp G B H v d) (k : Kx A B H H') : Rp G B H' v d := r.keep k.kp
theorem RpAll.kx {v : List V} {d : List D} (r : RpAll G B H v d) (k : Kx A B H H') : RpAll G B H' v d := r.keep k.kp
end
end Pu

set_option maxHeartbeats 2000000
/-! P1: the judgements over mirrors, and the expressions. -/
namespace Pu
open PySem PySem.Spec L2

/-! ### the weakest readings -/
/-- a promise that is not looked into -/
structure Wz (p : Prop) : Prop where
  h : p
def wpE (X : Cx) (e : Expr) : TE := fun σ H Q => Wz (∀ (pins : List (Addr × Obj)) (s : Shared), Inv X pins σ H s → wpAny (model X.prog X.w) X.A (eval e X.env) (EP X pins σ Q) X.xe s)
def wpT (X : Cx) (e : Expr) : TT := fun σ H Q => Wz (∀ (pins : List (Addr × Obj)) (s : Shared), Inv X pins σ H s → wpAny (model X.prog X.w) X.A (isTrue e X.env (eval e X.env)) (TP X pins σ Q) X.xe s)
def wpW (X : Cx) (e : Expr) : TT := fun σ H Q => Wz (∀ (whole : Sem Value) (pins : List (Addr × Obj)) (s : Shared), Inv X pins σ H s → wpAny (model X.prog X.w) X.A (isTrue e X.env whole) (TP X pins σ Q) X.xe s)
def wpA (X : Cx) (es : List Expr) : TA := fun σ H Q => Wz (∀ (pos : Pos) (pins : List (Addr × Obj)) (s : Shared), Inv X pins σ H s → wpAny (model X.prog X.w) X.A (spliced (backTo pos (starEach es X.env))) (AP X pins σ Q) X.xe s)
def wpS (X : Cx) (st : Stmt) : TS := fun D σ H => Wz (∀ (pins : List (Addr × Obj)) (s : Shared), Inv X pins σ H s → wpAny (model X.prog X.w) X.A (exec st X.env) (SP X pins D) X.xe s)
def wpB (X : Cx) (st : List Stmt) : TS := fun D σ H => Wz (∀ (pins : List (Addr × Obj)) (s : Shared), Inv X pins σ H s → wpAny (model X.prog X.w) X.A (execs st X.env) (SP X pins D) X.xe s)
section
variable {X : Cx} {e : Expr} {es : List Expr} {st : Stmt} {sts : List Stmt}
theorem pe_wp : PE X e (wpE X e) := ⟨fun pins s σ H Q I h => h.h pins s I⟩
theorem pt_wp : PT X e (wpT X e) := ⟨fun pins s σ H Q I h => h.h pins s I⟩
theorem pw_wp : PW X e (wpW X e) := ⟨fun wh pins s σ H Q I h => h.h wh pins s I⟩
theorem pa_wp : PA X es (wpA X es) := ⟨fun pos pins s σ H Q I h => h.h pos pins s I⟩
theorem ps_wp : PS X st (wpS X st) := ⟨fun pins s σ H D I h => h.h pins s I⟩
theorem pb_wp : PSs X sts (wpB X sts) := ⟨fun pins s σ H D I h => h.h pins s I⟩
theorem _root_.L2.PE.to {t : TE} (h : PE X e t) {σ : L2.St} {H : Hp} {Q : VK} (q : t σ H Q) : wpE X e σ H Q := ⟨fun pins s I => h.run pins s σ H Q I q⟩
theorem _root_.L2.PT.to {t : TT} (h : PT X e t) {σ : L2.St} {H : Hp} {Q : Bool → Hp → Prop} (q : t σ H Q) : wpT X e σ H Q := ⟨fun pins s I => h.run pins s σ H Q I q⟩
theorem _root_.L2.PW.to {t : TT} (h : PW X e t) {σ : L2.St} {H : Hp} {Q : Bool → Hp → Prop} (q : t σ H Q) : wpW X e σ H Q := ⟨fun wh pins s I => h.run wh pins s σ H Q I q⟩
theorem _root_.L2.PA.to {t : TA} (h : PA X es t) {σ : L2.St} {H : Hp} {Q : List V → Hp → Prop} (q : t σ H Q) : wpA X es σ H Q := ⟨fun pos pins s I => h.run pos pins s σ H Q I q⟩
theorem _root_.L2.PS.to {t : TS} (h : PS X st t) {σ : L2.St} {H : Hp} {D : Ends} (q : t D σ H) : wpS X st D σ H := ⟨fun pins s I => h.run pins s σ H D I q⟩
theorem _root_.L2.PSs.to {t : TS} (h : PSs X sts t) {σ : L2.St} {H : Hp} {D : Ends} (q : t D σ H) : wpB X sts D σ H := ⟨fun pins s I => h.run pins s σ H D I q⟩
end

/-! ### what is wanted -/
/-- an own error's field, behind -/
def ExF (G : Gd) (B : Addr → Prop) (H : Hp) (dx : Option Addr) : Option D → Prop
  | none => dx = none
  | some d => ∃ a v, dx = some a ∧ H a = some (.xd [("index", v)]) ∧ Rp G B H v d ∧ ¬ B a
/-- .. and its class -/
def ExM (X : Cx) (B : Addr → Prop) (H : Hp) (x : Str) (d : Option D) (cls : Value) (dx : Option Addr) : Prop := X.mg x = some cls ∧ ExF (gd X) B H dx d
theorem ExF.sub {G : Gd} {B B' : Addr → Prop} {H : Hp} {dx : Option Addr} {d : Option D} (h : ExF G B H dx d) (k : ∀ a, B' a → B a) : ExF G B' H dx d := by
  cases d with
  | none => exact h
  | some d => obtain ⟨a, v, h1, h2, h3, h4⟩ := h; exact ⟨a, v, h1, h2, h3.sub k, fun z => h4 (k a z)⟩
/-- m's answers, told by rel, are what is wanted -/
def PoG (X : Cx) (W : WX) (A B : Addr → Prop) (σ : L2.St) (ρ : Ev) (c : Nat) (H : Hp) {α β : Type} (rel : Hp → β → α → Prop) (m : R α) (Q : β → Hp → Prop) : Prop :=
  Po c m (fun c' a => ∀ b H', Kx (Aj B ρ) B H H' → RS (gd X) A B c' H' σ ρ → rel H' b a → Q b H') (fun c' x d => ∀ cls dx H', Kx (Aj B ρ) B H H' → RS (gd X) A B c' H' σ ρ → ExM X B H' x d cls dx → W cls dx σ H')
abbrev relE (X : Cx) (B : Addr → Prop) : Hp → V → D → Prop := fun H v d => Rp (gd X) B H v d
abbrev relT : Hp → Bool → Bool → Prop := fun _ b a => b = a
abbrev relA (X : Cx) (B : Addr → Prop) : Hp → List V → List D → Prop := fun H v d => RpAll (gd X) B H v d
abbrev PoE (X : Cx) (W : WX) (A B : Addr → Prop) (σ : L2.St) (ρ : Ev) (c : Nat) (H : Hp) (m : R D) (Q : VK) : Prop := PoG X W A B σ ρ c H (relE X B) m Q
abbrev PoT (X : Cx) (W : WX) (A B : Addr → Prop) (σ : L2.St) (ρ : Ev) (c : Nat) (H : Hp) (m : R Bool) (Q : Bool → Hp → Prop) : Prop := PoG X W A B σ ρ c H relT m Q
abbrev PoA (X : Cx) (W : WX) (A B : Addr → Prop) (σ : L2.St) (ρ : Ev) (c : Nat) (H : Hp) (m : R (List D)) (Q : List V → Hp → Prop) : Prop := PoG X W A B σ ρ c H (relA X B) m Q
/-- an expression does what its mirror does: nothing that stood is changed, but jars -/
def PuE (X : Cx) (W : WX) (e : Expr) (ρ : Ev) (m : R D) : Prop := ∀ (A B : Addr → Prop) (c : Nat) (H : Hp) (σ : L2.St) (Q : VK), RS (gd X) A B c H σ ρ → PoE X W A B σ ρ c H m Q → wpE X e σ H Q
def PuT (X : Cx) (W : WX) (e : Expr) (ρ : Ev) (m : R Bool) : Prop := ∀ (A B : Addr → Prop) (c : Nat) (H : Hp) (σ : L2.St) (Q : Bool → Hp → Prop), RS (gd X) A B c H σ ρ → PoT X W A B σ ρ c H m Q → wpT X e σ H Q
def PuW (X : Cx) (W : WX) (e : Expr) (ρ : Ev) (m : R Bool) : Prop := ∀ (A B : Addr → Prop) (c : Nat) (H : Hp) (σ : L2.St) (Q : Bool → Hp → Prop), RS (gd X) A B c H σ ρ → PoT X W A B σ ρ c H m Q → wpW X e σ H Q
def PuA (X : Cx) (W : WX) (es : List Expr) (ρ : Ev) (m : R (List D)) : Prop := ∀ (A B : Addr → Prop) (c : Nat) (H : Hp) (σ : L2.St) (Q : List V → Hp → Prop), RS (gd X) A B c H σ ρ → PoA X W A B σ ρ c H m Q → wpA X es σ H Q
/-- what is no starred one -/
theorem se_of {e : Expr} {es : List Expr} {env : Env} (h : ∀ x p, e = .Starred x p → False) : starEach (e :: es) env = (false, eval e env) :: starEach es env := by
  cases e with
  | Starred x p => exact (h x p rfl).elim
  | _ => rfl
theorem pl_nil {pos : Pos} {env : Env} : (backTo pos (starEach [] env)).any (·.1) = false := rfl
theorem pl_cons {pos : Pos} {e : Expr} {es : List Expr} {env : Env} (h : ∀ x p, e = .Starred x p → False) (t : (backTo pos (starEach es env)).any (·.1) = false) : (backTo pos (starEach (e :: es) env)).any (·.1) = false := by
  rw [se_of h]
  exact t
/-- no argument is spliced -/
def noStar : List Expr → Bool
  | [] => true
  | .Starred .. :: _ => false
  | _ :: es => noStar es
theorem pl_of {pos : Pos} {env : Env} : ∀ {es : List Expr}, noStar es = true → (backTo pos (starEach es env)).any (·.1) = false
  | [], _ => pl_nil
  | e :: es, h => by
    refine pl_cons (fun x p z => ?_) (pl_of ?_)
    · subst z; cases h
    · cases e with
      | Starred x p => cases h
      | _ => exact h
/-- nothing is handled, there is room -/
structure Lv (X : Cx) : Prop where
  calm : X.calm = true
  un : X.A.units + 200 < cLine
theorem Lv.of {X : Cx} {k : Nat} (c : X.calm = true) (r : Room k X.A) : Lv X := ⟨c, by have := r.un; omega⟩

section
variable {X : Cx} {W : WX} {A B : Addr → Prop} {σ : L2.St} {ρ : Ev} {c : Nat} {H H1 : Hp} {α β γ δ : Type} {rel : Hp → β → α → Prop} {rel1 : Hp → δ → γ → Prop}
theorem PoG.ext {m : R α} {Q : β → Hp → Prop} (e : Kx (Aj B ρ) B H H1) (p : PoG X W A B σ ρ c H rel m Q) : PoG X W A B σ ρ c H1 rel m Q :=
  Po.mono (fun _ _ q b H' k => q b H' (e.trans k)) (fun _ _ _ q cls dx H' k => q cls dx H' (e.trans k)) p
theorem PoG.here {a : α} {b : β} {Q : β → Hp → Prop} (p : PoG X W A B σ ρ c H rel (.ok a) Q) (k : Kx (Aj B ρ) B H H1) (r : RS (gd X) A B c H1 σ ρ) (h : rel H1 b a) : Q b H1 := by
  unfold PoG at p
  rw [Po.ok_] at p
  exact p b H1 k r h
/-- the answer at once, where the heap may have grown -/
theorem PoG.now {a : α} {b : β} {Q : β → Hp → Prop} (p : PoG X W A B σ ρ c H rel (.ok a) Q) (r : RS (gd X) A B c H σ ρ) (s : Same H H1) (h : rel H1 b a) : Q b H1 := p.here (Kx.same s) (r.ext s) h
/-- the step of the monad: m, then f -/
theorem PoG.step {m : R γ} {f : γ → R α} {Q : δ → Hp → Prop} {Q' : β → Hp → Prop} (p : PoG X W A B σ ρ c H rel (m >>= f) Q')
    (hq : ∀ c' d v H', Kx (Aj B ρ) B H H' → rel1 H' v d → RS (gd X) A B c' H' σ ρ → PoG X W A B σ ρ c' H' rel (f d) Q' → Q v H') : PoG X W A B σ ρ c H rel1 m Q :=
  Po.mono (fun c' d q v H' k r h => hq c' d v H' k h r (PoG.ext k q)) (fun _ _ _ q => q) (Po.bind p)
theorem PoG.ofo {o : Option γ} {f : γ → R α} {Q' : β → Hp → Prop} (p : PoG X W A B σ ρ c H rel (R.of o >>= f) Q') : ∃ a, o = some a ∧ PoG X W A B σ ρ c H rel (f a) Q' := Po.ofb p
theorem PoG.bad {Q' : β → Hp → Prop} (p : PoG X W A B σ ρ c H rel (.bad : R α) Q') : False := by
  unfold PoG at p
  rwa [Po.bad_] at p
end

/-! ### running one part after another -/
section
variable {X : Cx} {W : WX} {e : Expr} {ρ : Ev} {A B : Addr → Prop} {c : Nat} {σ : L2.St} {H : Hp} {α β : Type} {rel : Hp → β → α → Prop}
theorem PuE.step {m : R D} {f : D → R α} (h : PuE X W e ρ m) (r : RS (gd X) A B c H σ ρ) {Q : VK} {Q' : β → Hp → Prop} (p : PoG X W A B σ ρ c H rel (m >>= f) Q')
    (hq : ∀ c' d v H', Kx (Aj B ρ) B H H' → Rp (gd X) B H' v d → RS (gd X) A B c' H' σ ρ → PoG X W A B σ ρ c' H' rel (f d) Q' → Q v H') : wpE X e σ H Q := h A B c H σ Q r (p.step hq)
theorem PuT.step {m : R Bool} {f : Bool → R α} (h : PuT X W e ρ m) (r : RS (gd X) A B c H σ ρ) {Q : Bool → Hp → Prop} {Q' : β → Hp → Prop} (p : PoG X W A B σ ρ c H rel (m >>= f) Q')
    (hq : ∀ c' b H', Kx (Aj B ρ) B H H' → RS (gd X) A B c' H' σ ρ → PoG X W A B σ ρ c' H' rel (f b) Q' → Q b H') : wpT X e σ H Q := h A B c H σ Q r (p.step fun c' d v H' k e r' q => by
  have e : v = d := e
  subst e
  exact hq c' v H' k r' q)
theorem PuA.step {es : List Expr} {m : R (List D)} {f : List D → R α} (h : PuA X W es ρ m) (r : RS (gd X) A B c H σ ρ) {Q : List V → Hp → Prop} {Q' : β → Hp → Prop} (p : PoG X W A B σ ρ c H rel (m >>= f) Q')
    (hq : ∀ c' ds vs H', Kx (Aj B ρ) B H H' → RpAll (gd X) B H' vs ds → RS (gd X) A B c' H' σ ρ → PoG X W A B σ ρ c' H' rel (f ds) Q' → Q vs H') : wpA X es σ H Q := h A B c H σ Q r (p.step hq)
end

/-! ### names and constants -/
section
variable {X : Cx} {W : WX} {ρ : Ev} {pos : Pos}
/-- a name that holds data -/
theorem pu_var (i : Nat) {d : D} {x : Str} (h : ρ[i]? = some (.pu d) := by rfl) (hN : X.N[i]? = some x := by rfl) (hv : Vis X.env.scope x := by first | exact Or.inl rfl | exact Or.inr (Or.inl rfl) | exact Or.inr (Or.inr rfl))
    (hd : (x == ("__debug__" : Str)) = false := by decide) (hcd : (x == ("__classdict__" : Str)) = false := by decide) : PuE X W (.Name x pos) ρ (.ok d) := by
  intro A B c0 H σ Q r p
  obtain ⟨v, e, rp⟩ := r.pu i d h
  exact (pe_var hN hv hd hcd).to ⟨v, e, p.now r (Same.refl H) rp⟩
theorem pu_int {i j} : PuE X W (.Constant (.int i) j pos) ρ (.ok (.int i)) := fun A B c0 H σ Q r p => pe_int.to (p.now r (Same.refl H) (.int i))
theorem pu_bl {b j} : PuE X W (.Constant (.bool b) j pos) ρ (.ok (.bool b)) := fun A B c0 H σ Q r p => pe_bl.to (p.now r (Same.refl H) (.bl b))
theorem pu_non {j} : PuE X W (.Constant .none j pos) ρ (.ok .none) := fun A B c0 H σ Q r p => pe_non.to (p.now r (Same.refl H) .non)
theorem pu_str {x j} : PuE X W (.Constant (.str x) j pos) ρ (.ok (.str x)) := fun A B c0 H σ Q r p => pe_str.to (p.now r (Same.refl H) (.str x))
/-- a module's constant: what stands in the written part -/
inductive KRp (K : PySem.W.Frag) : Value → D → Prop
  | non : KRp K .none .none
  | bl (b : Bool) : KRp K (.bool b) (.bool b)
  | int (i : Int) (t : Tok) : KRp K (.int i t) (.int i)
  | str (x : Str) (t : Tok) : KRp K (.str x t) (.str x)
  | tup {a : Addr} {o : Obj} {its : Array Value} {n : Nat} {ds : List D} : K.lookup a = some o → o.cls = .type "tuple" → o.data = .seq its n → its.size ≤ sizeLine → Paired (KRp K) its.toList ds → KRp K (.ref a) (.tuple ds)
  | lst {a : Addr} {o : Obj} {its : Array Value} {n : Nat} {ds : List D} : K.lookup a = some o → o.cls = .type "list" → o.dict = none → o.data = .seq its n → its.size ≤ sizeLine → Paired (KRp K) its.toList ds → KRp K (.ref a) (.list ds)
end

/-! ### operators -/
def LINE : Nat := 16777216
theorem line_eq : sizeLine = LINE := sizeLine_eq
def PoV (G : Gd) (B : Addr → Prop) (H : Hp) (m : Option D) (Q : VK) : Prop := ∃ d, m = some d ∧ ∀ v H', Same H H' → Rp G B H' v d → Q v H'
theorem PoG.toV {X : Cx} {W : WX} {A B : Addr → Prop} {σ : L2.St} {ρ : Ev} {c : Nat} {H : Hp} {m : Option D} {Q : VK} (p : PoE X W A B σ ρ c H (R.of m) Q) (r : RS (gd X) A B c H σ ρ) : PoV (gd X) B H m Q := by
  cases m with
  | none => exact p.bad.elim
  | some d => exact ⟨d, rfl, fun v H' s rp => p.now r s rp⟩
/-- a reading of two values by their data -/
def r2 (G : Gd) (g : D → D → Option D) : R2 := fun x y H Q => ∃ (B : Addr → Prop) (dx dy : D), InH B H ∧ Rp G B H x dx ∧ Rp G B H y dy ∧ PoV G B H (g dx dy) Q
def r2b (G : Gd) (g : D → D → Option Bool) : R2 := fun x y H Q => ∃ (B : Addr → Prop) (dx dy : D) (b : Bool), InH B H ∧ Rp G B H x dx ∧ Rp G B H y dy ∧ g dx dy = some b ∧ Q (.bl b) H
section
variable {X : Cx} {W : WX} {ρ : Ev} {pos : Pos} {a b c : Expr} {ma mb mc : R D} {ta tb : R Bool}
theorem Rp.same {G : Gd} {B : Addr → Prop} {H H' : Hp} {v : V} {d : D} (r : Rp G B H v d) (s : Same H H') : Rp G B H' v d := r.keep (Same.kept s)
theorem RpAll.same {G : Gd} {B : Addr → Prop} {H H' : Hp} {v : List V} {d : List D} (r : RpAll G B H v d) (s : Same H H') : RpAll G B H' v d := r.keep (Same.kept s)
theorem pu_bin {op : Operator} {g : D → D → Option D} (ho : OpR X (binaryOp op) (r2 (gd X) g)) (h1 : PuE X W a ρ ma) (h2 : PuE X W b ρ mb) : PuE X W (.BinOp a op b pos) ρ (do let x ← ma; let y ← mb; R.of (g x y)) := by
  intro A B c0 H σ Q r p
  refine (pe_op ho pe_wp pe_wp).to ?_
  refine h1.step r p fun c1 dx x H1 k1 rx r1 p1 => ?_
  refine h2.step (Q := fun y H2 => r2 (gd X) g x y H2 Q) r1 p1 fun c2 dy y H2 k2 ry r2 p2 => ?_
  exact ⟨B, dx, dy, r2.dom, rx.kx k2, ry, p2.toV r2⟩
/-- a comparison, as a value -/
theorem pu_cmp {op : CmpOp} {g : D → D → Option Bool} (ho : OpR X (compareOp op) (r2b (gd X) g)) (h1 : PuE X W a ρ ma) (h2 : PuE X W b ρ mb) (hm : behindInMarks op b = false) :
    PuE X W (.Compare a [op] [b] pos) ρ (do let x ← ma; let y ← mb; let k ← R.of (g x y); R.ok (.bool k)) := by
  intro A B c0 H σ Q r p
  refine (pe_cmpR ho pe_wp pe_wp hm).to ?_
  refine h1.step r p fun c1 dx x H1 k1 rx r1 p1 => ?_
  refine h2.step (Q := fun y H2 => r2b (gd X) g x y H2 Q) r1 p1 fun c2 dy y H2 k2 ry r2 p2 => ?_
  obtain ⟨k, hg, p2⟩ := p2.ofo
  exact ⟨B, dx, dy, k, r2.dom, rx.kx k2, ry, hg, p2.now r2 (Same.refl H2) (.bl k)⟩
/-- .. as a test -/
theorem pt_cmp {op : CmpOp} {g : D → D → Option Bool} (ho : OpR X (compareOp op) (r2b (gd X) g)) (h1 : PuE X W a ρ ma) (h2 : PuE X W b ρ mb) (hm : behindInMarks op b = false) :
    PuT X W (.Compare a [op] [b] pos) ρ (do let x ← ma; let y ← mb; let k ← R.of (g x y); R.ok k) := by
  intro A B c0 H σ Q r p
  refine (pt_cmpR ho pe_wp pe_wp hm).to ?_
  refine h1.step r p fun c1 dx x H1 k1 rx r1 p1 => ?_
  refine h2.step (Q := fun y H2 => r2b (gd X) g x y H2 fun z H' => ∃ k, z = .bl k ∧ Q k H') r1 p1 fun c2 dy y H2 k2 ry r2 p2 => ?_
  obtain ⟨k, hg, p2⟩ := p2.ofo
  exact ⟨B, dx, dy, k, r2.dom, rx.kx k2, ry, hg, k, rfl, p2.now r2 (Same.refl H2) rfl⟩
/-- a op b op' c -/
theorem pt_chain' {op op' : CmpOp} {g g' : D → D → Option Bool} (ho : OpR X (compareOp op) (r2b (gd X) g)) (ho' : OpR X (compareOp op') (r2b (gd X) g')) (h1 : PuE X W a ρ ma) (h2 : PuE X W b ρ mb) (h3 : PuE X W c ρ mc)
    (hm : lastMarks [op, op'] [b, c] = false) : PuT X W (.Compare a [op, op'] [b, c] pos) ρ (do let x ← ma; let y ← mb; let k ← R.of (g x y); if k = true then (do let z ← mc; let k' ← R.of (g' y z); R.ok k') else R.ok false) := by
  intro A B c0 H σ Q r p
  refine (pt_chain ho ho' pe_wp pe_wp pe_wp hm).to ?_
  refine h1.step r p fun c1 dx x H1 k1 rx r1 p1 => ?_
  refine h2.step (Q := fun y H2 => r2b (gd X) g x y H2 fun z H3 => ∃ k, z = .bl k ∧ (if k = true then wpE X c σ H3 (fun w' H4 => r2b (gd X) g' y w' H4 fun x H' => ∃ k, x = .bl k ∧ Q k H') else ∃ k, V.bl false = .bl k ∧ Q k H3)) r1 p1 fun c2 dy y H2 k2 ry r2 p2 => ?_
  obtain ⟨k, hg, p2⟩ := p2.ofo
  refine ⟨B, dx, dy, k, r2.dom, rx.kx k2, ry, hg, k, rfl, ?_⟩
  cases k with
  | false =>
    rw [if_neg Bool.false_ne_true] at p2 ⊢
    exact ⟨false, rfl, p2.now r2 (Same.refl H2) rfl⟩
  | true =>
    rw [if_pos rfl] at p2 ⊢
    refine h3.step (Q := fun w' H4 => r2b (gd X) g' y w' H4 fun x H' => ∃ k, x = .bl k ∧ Q k H') r2 p2 fun c3 dz z H4 k4 rz r4 p4 => ?_
    obtain ⟨k', hg', p4⟩ := p4.ofo
    exact ⟨B, dy, dz, k', r4.dom, ry.kx k4, rz, hg', k', rfl, p4.now r4 (Same.refl H4) rfl⟩
theorem pu_chain {op op' : CmpOp} {g g' : D → D → Option Bool} (ho : OpR X (compareOp op) (r2b (gd X) g)) (ho' : OpR X (compareOp op') (r2b (gd X) g')) (h1 : PuE X W a ρ ma) (h2 : PuE X W b ρ mb) (h3 : PuE X W c ρ mc)
    (hm : lastMarks [op, op'] [b, c] = false) : PuE X W (.Compare a [op, op'] [b, c] pos) ρ (do let x ← ma; let y ← mb; let k ← R.of (g x y); if k = true then (do let z ← mc; let k' ← R.of (g' y z); R.ok (.bool k')) else R.ok (.bool false)) := by
  intro A B c0 H σ Q r p
  refine (pe_chain ho ho' pe_wp pe_wp pe_wp hm).to ?_
  refine h1.step r p fun c1 dx x H1 k1 rx r1 p1 => ?_
  refine h2.step (Q := fun y H2 => r2b (gd X) g x y H2 fun z H3 => ∃ k, z = .bl k ∧ (if k = true then wpE X c σ H3 (fun w' H4 => r2b (gd X) g' y w' H4 Q) else Q (.bl false) H3)) r1 p1 fun c2 dy y H2 k2 ry r2 p2 => ?_
  obtain ⟨k, hg, p2⟩ := p2.ofo
  refine ⟨B, dx, dy, k, r2.dom, rx.kx k2, ry, hg, k, rfl, ?_⟩
  cases k with
  | false =>
    rw [if_neg Bool.false_ne_true] at p2 ⊢
    exact p2.now r2 (Same.refl H2) (.bl _)
  | true =>
    rw [if_pos rfl] at p2 ⊢
    refine h3.step (Q := fun w' H4 => r2b (gd X) g' y w' H4 Q) r2 p2 fun c3 dz z H4 k4 rz r4 p4 => ?_
    obtain ⟨k', hg', p4⟩ := p4.ofo
    exact ⟨B, dy, dz, k', r4.dom, ry.kx k4, rz, hg', p4.now r4 (Same.refl H4) (.bl k')⟩

/-! ### truth -/
/-- a value's truth -/
def pTru : D → Option Bool
  | .none => some false
  | .bool b => some b
  | .int i => some (i != 0)
  | .str x => if x.length ≤ LINE then some ((x.length : Int) != 0) else none
  | .list xs => some (!xs.isEmpty)
  | .tuple xs => some (!xs.isEmpty)
  | .dict _ => none
theorem RpAll.isEmpty {G : Gd} {B : Addr → Prop} {H : Hp} {vs : List V} {ds : List D} (r : RpAll G B H vs ds) : vs.isEmpty = ds.isEmpty := by
  cases r <;> rfl
theorem tru_rp {B : Addr → Prop} {H : Hp} {v : V} {d : D} {k : Bool} (r : Rp (gd X) B H v d) (h : pTru d = some k) : TruV X.K v H k := by
  cases r with
  | non => exact (Option.some.inj h).symm
  | bl b => exact (Option.some.inj h).symm
  | int i => exact (Option.some.inj h).symm
  | str x =>
    have h' : (if x.length ≤ LINE then some ((x.length : Int) != 0) else none) = some k := h
    by_cases hl : x.length ≤ LINE
    · rw [if_pos hl] at h'
      exact ⟨by rw [line_eq]; exact hl, (Option.some.inj h').symm⟩
    · rw [if_neg hl] at h'; cases h'
  | lst na s r => exact .inl ⟨_, s, by rw [r.isEmpty]; exact (Option.some.inj h).symm⟩
  | tup na s r => exact .inr (.inl ⟨_, s, by rw [r.isEmpty]; exact (Option.some.inj h).symm⟩)
  | dct => cases h
/-- a value as a test -/
theorem pt_tru (h1 : PuE X W a ρ ma) (he : ∀ whole, isTrue a X.env whole = (do let v ← whole; standAt a.pos; holding [v] (truthy v)) := by intro _; rfl) : PuT X W a ρ (do let x ← ma; let k ← R.of (pTru x); R.ok k) := by
  intro A B c0 H σ Q r p
  refine (pt_truth pe_wp he).to ?_
  refine h1.step r p fun c1 dx x H1 k1 rx r1 p1 => ?_
  obtain ⟨k, hg, p1⟩ := p1.ofo
  exact ⟨k, tru_rp rx hg, p1.now r1 (Same.refl H1) rfl⟩
theorem pt_not' (h1 : PuT X W a ρ ta) : PuT X W (.UnaryOp .Not a pos) ρ (do let k ← ta; R.ok (!k)) := by
  intro A B c0 H σ Q r p
  refine (pt_not pt_wp).to ?_
  exact h1.step r p fun c1 k H1 k1 r1 p1 => p1.now r1 (Same.refl H1) rfl
theorem pu_not (h1 : PuE X W a ρ ma) : PuE X W (.UnaryOp .Not a pos) ρ (do let x ← ma; let k ← R.of (pTru x); R.ok (.bool (!k))) := by
  intro A B c0 H σ Q r p
  refine (pe_notT pe_wp).to ?_
  refine h1.step r p fun c1 dx x H1 k1 rx r1 p1 => ?_
  obtain ⟨k, hg, p1⟩ := p1.ofo
  exact ⟨k, tru_rp rx hg, p1.now r1 (Same.refl H1) (.bl _)⟩
theorem pw_one {op} (h1 : PuT X W a ρ ta) : PuW X W (.BoolOp op [a] pos) ρ ta := by
  intro A B c0 H σ Q r p
  cases op with
  | And => exact (pw_and1 pt_wp).to (h1 A B c0 H σ Q r p)
  | Or => exact (pw_or1 pt_wp).to (h1 A B c0 H σ Q r p)
theorem pw_and' {rest : List Expr} (h1 : PuT X W a ρ ta) (h2 : PuW X W (.BoolOp .And (b :: rest) pos) ρ tb) : PuW X W (.BoolOp .And (a :: b :: rest) pos) ρ (do let k ← ta; if k = true then tb else R.ok false) := by
  intro A B c0 H σ Q r p
  refine (pw_and pt_wp pw_wp).to ?_
  refine h1.step r p fun c1 k H1 k1 r1 p1 => ?_
  cases k with
  | true => exact h2 A B c1 H1 σ Q r1 (by simpa only [if_true] using p1)
  | false => exact PoG.now (by simpa only [Bool.false_eq_true, if_false] using p1) r1 (Same.refl H1) rfl
theorem pw_or' {rest : List Expr} (h1 : PuT X W a ρ ta) (h2 : PuW X W (.BoolOp .Or (b :: rest) pos) ρ tb) : PuW X W (.BoolOp .Or (a :: b :: rest) pos) ρ (do let k ← ta; if k = true then R.ok true else tb) := by
  intro A B c0 H σ Q r p
  refine (pw_or pt_wp pw_wp).to ?_
  refine h1.step r p fun c1 k H1 k1 r1 p1 => ?_
  cases k with
  | true => exact PoG.now (by simpa only [if_true] using p1) r1 (Same.refl H1) rfl
  | false => exact h2 A B c1 H1 σ Q r1 (by simpa only [Bool.false_eq_true, if_false] using p1)
theorem PuW.t (h : PuW X W a ρ ta) : PuT X W a ρ ta := fun A B c0 H σ Q r p => ⟨fun pins s I => (h A B c0 H σ Q r p).h _ pins s I⟩
/-- and, or as values -/
theorem pu_one {op} (h1 : PuE X W a ρ ma) : PuE X W (.BoolOp op [a] pos) ρ ma := fun A B c0 H σ Q r p => (pe_one pe_wp).to (h1 A B c0 H σ Q r p)
theorem pu_and {rest : List Expr} (h1 : PuE X W a ρ ma) (h2 : PuE X W (.BoolOp .And (b :: rest) pos) ρ mb) : PuE X W (.BoolOp .And (a :: b :: rest) pos) ρ (do let x ← ma; let k ← R.of (pTru x); if k = true then mb else R.ok x) := by
  intro A B c0 H σ Q r p
  refine (pe_andT pe_wp pe_wp).to ?_
  refine h1.step r p fun c1 dx x H1 k1 rx r1 p1 => ?_
  obtain ⟨k, hg, p1⟩ := p1.ofo
  refine ⟨k, tru_rp rx hg, ?_⟩
  cases k with
  | true => exact h2 A B c1 H1 σ Q r1 (by simpa only [if_true] using p1)
  | false => exact PoG.now (by simpa only [Bool.false_eq_true, if_false] using p1) r1 (Same.refl H1) rx
theorem pu_or {rest : List Expr} (h1 : PuE X W a ρ ma) (h2 : PuE X W (.BoolOp .Or (b :: rest) pos) ρ mb) : PuE X W (.BoolOp .Or (a :: b :: rest) pos) ρ (do let x ← ma; let k ← R.of (pTru x); if k = true then R.ok x else mb) := by
  intro A B c0 H σ Q r p
  refine (pe_orT pe_wp pe_wp).to ?_
  refine h1.step r p fun c1 dx x H1 k1 rx r1 p1 => ?_
  obtain ⟨k, hg, p1⟩ := p1.ofo
  refine ⟨k, tru_rp rx hg, ?_⟩
  cases k with
  | false => exact h2 A B c1 H1 σ Q r1 (by simpa only [Bool.false_eq_true, if_false] using p1)
  | true => exact PoG.now (by simpa only [if_true] using p1) r1 (Same.refl H1) rx
theorem pu_if (h1 : PuT X W c ρ ta) (h2 : PuE X W a ρ ma) (h3 : PuE X W b ρ mb) : PuE X W (.IfExp c a b pos) ρ (do let k ← ta; if k = true then ma else mb) := by
  intro A B c0 H σ Q r p
  refine (pe_ifExp pt_wp pe_wp pe_wp).to ?_
  refine h1.step r p fun c1 k H1 k1 r1 p1 => ?_
  cases k with
  | true => exact h2 A B c1 H1 σ Q r1 (by simpa only [if_true] using p1)
  | false => exact h3 A B c1 H1 σ Q r1 (by simpa only [Bool.false_eq_true, if_false] using p1)

/-! ### arguments, displays -/
theorem pa_nil' : PuA X W [] ρ (R.ok []) := fun A B c0 H σ Q r p => pa_nil.to (p.now r (Same.refl H) .nil)
theorem pa_cons' {es : List Expr} {ms : R (List D)} (h1 : PuE X W a ρ ma) (h2 : PuA X W es ρ ms) (hs : starEach (a :: es) X.env = (false, eval a X.env) :: starEach es X.env := by first | exact se_of (fun _ _ h => nomatch h) | rfl) : PuA X W (a :: es) ρ (do let x ← ma; let xs ← ms; R.ok (x :: xs)) := by
  intro A B c0 H σ Q r p
  refine (pa_cons pe_wp pa_wp hs).to ?_
  refine h1.step r p fun c1 dx x H1 k1 rx r1 p1 => ?_
  refine h2.step (Q := fun xs H2 => Q (x :: xs) H2) r1 p1 fun c2 ds vs H2 k2 rs r2 p2 => ?_
  exact p2.now r2 (Same.refl H2) (.cons (rx.kx k2) rs)
def mkTup (xs : List D) : Option D := if xs.length ≤ LINE then some (.tuple xs) else none
def mkLst (xs : List D) : Option D := if xs.length ≤ LINE then some (.list xs) else none
theorem same_upd {H : Hp} {p : Addr} {o : HO} (h : H p = none) : Same H (upd H p o) := fun b u e => by
  rw [upd_ne (ne_of_none e h)]; exact e
theorem pu_tup {es : List Expr} {x1} {ms : R (List D)} (h : PuA X W es ρ ms) : PuE X W (.Tuple es x1 pos) ρ (do let xs ← ms; R.of (mkTup xs)) := by
  intro A B c0 H σ Q r p
  refine (pe_tup pa_wp).to ?_
  refine h.step r p fun c1 ds vs H1 k1 rs r1 p1 => ?_
  unfold mkTup at p1
  split at p1
  · rename_i hl
    refine ⟨by rw [rs.length, line_eq]; exact hl, fun q hq => PoG.now p1 r1 (same_upd hq) ?_⟩
    exact .tup (.inl (r1.nav hq)) (.of upd_same) (rs.same (same_upd hq))
  · exact p1.bad.elim
theorem pu_lst {es : List Expr} {ms : R (List D)} (h : PuA X W es ρ ms) : PuE X W (.List es pos) ρ (do let xs ← ms; R.of (mkLst xs)) := by
  intro A B c0 H σ Q r p
  refine (pe_lst pa_wp).to ?_
  refine h.step r p fun c1 ds vs H1 k1 rs r1 p1 => ?_
  unfold mkLst at p1
  split at p1
  · rename_i hl
    refine ⟨by rw [rs.length, line_eq]; exact hl, fun q hq => PoG.now p1 r1 (same_upd hq) ?_⟩
    exact .lst (.inl (r1.nav hq)) (.of upd_same) (rs.same (same_upd hq))
  · exact p1.bad.elim
end
end Pu

set_option maxHeartbeats 2000000
/-! P2: operators on data. -/
namespace Pu
open PySem PySem.Spec L2

section
variable {X : Cx}
theorem Rp.reads {B : Addr → Prop} {pins : List (Addr × Obj)} {σ : L2.St} {H : Hp} {s : Shared} {v : V} {d : D} {u : Value} (I : Inv X pins σ H s) (r : Rp (gd X) B H v d) (h : d.canLay0 = true) (ru : RelV v u) : ∃ as, Reads s.heap u d as :=
  Dp.reads I d v u (r.dp h) ru
/-! ### numbers, rows, texts -/
def pAdd : D → D → Option D
  | .int i, .int j => some (.int (i + j))
  | .int i, .bool k => some (.int (i + PyProof.Rows.b2i k))
  | .tuple xs, .tuple ys => if xs.length + ys.length ≤ LINE then some (.tuple (xs ++ ys)) else none
  | .list xs, .list ys => if xs.length + ys.length ≤ LINE then some (.list (xs ++ ys)) else none
  | .str x, .str y => if x.length + y.length ≤ LINE then some (.str (x ++ y)) else none
  | _, _ => none
theorem cat_lists {prog : Program} {w : World} {A : Around} {E : Value → Shared → Prop} {s : Shared} {l b : Addr} {vs ws : List Value} {Q : Value → Shared → Prop} (hl : s.heap.IsList l vs.toArray) (hb : s.heap.IsList b ws.toArray)
    (h : Q (.ref s.heap.objs.size) { s with heap := s.heap.push { cls := .type "list", data := .seq (vs ++ ws).toArray } }) (hsz : vs.length + ws.length ≤ sizeLine) :
    wpAny (model prog w) A (binaryOp .Add (.ref l) (.ref b)) Q E s := by
  obtain ⟨⟨cls, dd, data, sl⟩, ho, hc, n, hd⟩ := id hl
  obtain ⟨⟨cls2, dd2, data2, sl2⟩, ho2, hc2, n2, hd2⟩ := id hb
  simp only at hc hd hc2 hd2
  subst hc hd hc2 hd2
  have e : vs.toArray ++ ws.toArray = (vs ++ ws).toArray := by simp
  refine concat_meets ⟨_, ho, rfl⟩ ⟨_, ho2, rfl⟩ noFill_list_add seq_list_add PySem.F.slot_list_add PySem.F.entry_list_add (PySem.F.args_list_add_2 _ _) (PyProof.Rows.list_addW l b vs.toArray ws.toArray n n2 dd dd2 sl sl2 (by simpa using hsz)) ⟨ho, ho2, ?_⟩
  rw [e]
  exact h
theorem op_addP : OpR X (binaryOp .Add) (r2 (gd X) pAdd) := by
  intro pins s σ H x y v u Q I rx ry h
  obtain ⟨B, dx, dy, hB, px, py, d, e, q⟩ := h
  cases px with
  | int i =>
    cases py with
    | int j => cases e; exact op_add pins s σ H _ _ v u Q I rx ry ⟨i, j, rfl, rfl, q _ H (Same.refl H) (.int _)⟩
    | bl k => cases e; exact op_add_ib pins s σ H _ _ v u Q I rx ry ⟨i, k, rfl, rfl, q _ H (Same.refl H) (.int _)⟩
    | _ => cases e
  | str i =>
    cases py with
    | str j =>
      have e' : (if i.length + j.length ≤ LINE then some (PyData.str (i ++ j)) else none) = some d := e
      by_cases hl : i.length + j.length ≤ LINE
      · rw [if_pos hl] at e'; cases e'
        exact op_add_str pins s σ H _ _ v u Q I rx ry ⟨i, j, rfl, rfl, by rw [line_eq]; exact hl, q _ H (Same.refl H) (.str _)⟩
      · rw [if_neg hl] at e'; cases e'
    | _ => cases e
  | @tup a xs ds na sx rsx =>
    cases py with
    | @tup b ys es nb sy rsy =>
      have e' : (if ds.length + es.length ≤ LINE then some (PyData.tuple (ds ++ es)) else none) = some d := e
      by_cases hl : ds.length + es.length ≤ LINE
      · rw [if_pos hl] at e'; cases e'
        refine op_catA pins s σ H _ _ v u Q I rx ry ⟨a, b, xs, ys, rfl, rfl, sx, sy, by rw [rsx.length, rsy.length, line_eq]; exact hl, fun e1 => ?_, fun e1 e2 => ?_, fun _ _ p hp => ?_⟩
        · subst e1
          cases rsx
          exact q _ H (Same.refl H) (.tup nb sy rsy)
        · subst e2
          cases rsy
          rw [List.append_nil] at q
          exact q _ H (Same.refl H) (.tup na sx rsx)
        · exact q _ _ (same_upd hp) (.tup (.inl (nav_of hB hp)) (.of upd_same) ((rsx.append rsy).same (same_upd hp)))
      · rw [if_neg hl] at e'; cases e'
    | _ => cases e
  | @lst a xs ds na sx rsx =>
    cases py with
    | @lst b ys es nb sy rsy =>
      have e' : (if ds.length + es.length ≤ LINE then some (PyData.list (ds ++ es)) else none) = some d := e
      by_cases hl : ds.length + es.length ≤ LINE
      · rw [if_pos hl] at e'; cases e'
        obtain ⟨its, r1, p1, z1⟩ := I.list sx
        obtain ⟨its2, r2, p2, z2⟩ := I.list sy
        cases rx
        cases ry
        refine cat_lists p1.isList p2.isList ?_ (by rw [← r1.length, ← r2.length, rsx.length, rsy.length, line_eq]; exact hl)
        refine ⟨.ref _, _, I.lnew (t' := s.toks) (r1.append r2) (by rw [List.length_append, rsx.length, rsy.length, line_eq]; exact hl), rfl, ?_⟩
        have hf : H s.heap.objs.size = none := I.hok.fresh (Nat.le_refl _)
        exact q _ _ (same_upd hf) (.lst (.inl (nav_of hB hf)) (.of upd_same) ((rsx.append rsy).same (same_upd hf)))
      · rw [if_neg hl] at e'; cases e'
    | _ => cases e
  | _ => cases e

/-- two ints -/
def pI (f : Int → Int → Option Int) : D → D → Option D
  | .int i, .int j => (f i j).map .int
  | _, _ => none
theorem opI_P {f : Value → Value → Sem Value} {C : Int → Int → Prop} {g : Int → Int → Int} {k : Int → Int → Option Int} (ho : OpR X f (rI C fun i j => .int (g i j))) (hk : ∀ i j n, k i j = some n → C i j ∧ n = g i j) : OpR X f (r2 (gd X) (pI k)) := by
  intro pins s σ H x y v u Q I rx ry h
  obtain ⟨B, dx, dy, hB, px, py, d, e, q⟩ := h
  cases px with
  | int i =>
    cases py with
    | int j =>
      have e' : (k i j).map PyData.int = some d := e
      cases hn : k i j with
      | none => rw [hn] at e'; cases e'
      | some n =>
        rw [hn] at e'; cases e'
        obtain ⟨c, rfl⟩ := hk i j n hn
        exact ho pins s σ H _ _ v u Q I rx ry ⟨i, j, rfl, rfl, c, q _ H (Same.refl H) (.int _)⟩
    | _ => cases e
  | _ => cases e
theorem rI0_rI {f : Value → Value → Sem Value} {g : Int → Int → V} (ho : OpR X f (rI0 g)) : OpR X f (rI (fun _ _ => True) g) := fun pins s σ H x y v u Q I rx ry ⟨i, j, e1, e2, _, q⟩ => ho pins s σ H x y v u Q I rx ry ⟨i, j, e1, e2, q⟩
def pSub := pI fun i j => some (i - j)
theorem op_subP : OpR X (binaryOp .Sub) (r2 (gd X) pSub) := opI_P (rI0_rI op_sub) fun i j n e => ⟨trivial, (Option.some.inj e).symm⟩
/-- products of numbers below 2 ^ 400000 -/
def BIG : Nat := 400000
def pMulI (i j : Int) : Option Int := if i.natAbs.log2 < BIG ∧ j.natAbs.log2 < BIG then some (i * j) else none
def pMul := pI pMulI
theorem op_mulP : OpR X (binaryOp .Mult) (r2 (gd X) pMul) := opI_P op_mulW fun i j n e => by
  unfold pMulI at e
  split at e
  · rename_i hl
    refine ⟨?_, (Option.some.inj e).symm⟩
    have h1 := hl.1
    have h2 := hl.2
    unfold CMulW
    unfold BIG at h1 h2
    omega
  · cases e
def pDivI (i j : Int) : Option Int := if 0 < j ∧ j.natAbs.log2 < 9000 then some (i / j) else none
def pDiv := pI pDivI
theorem op_divP : OpR X (binaryOp .FloorDiv) (r2 (gd X) pDiv) := opI_P op_fdivW fun i j n e => by
  unfold pDivI at e
  split at e
  · rename_i h; exact ⟨h, (Option.some.inj e).symm⟩
  · cases e
def pModI (i j : Int) : Option Int := if 0 < j then some (i % j) else none
def pMod := pI pModI
theorem op_modP : OpR X (binaryOp .Mod) (r2 (gd X) pMod) := opI_P op_mod fun i j n e => by
  unfold pModI at e
  split at e
  · rename_i h; exact ⟨h, (Option.some.inj e).symm⟩
  · cases e
def pPowI (i j : Int) : Option Int := if 0 ≤ j ∧ j ≤ 1000000 ∧ i.natAbs < 2 ^ 64 then some (i ^ j.toNat) else none
def pPow := pI pPowI
theorem op_powP : OpR X (binaryOp .Pow) (r2 (gd X) pPow) := opI_P op_pow fun i j n e => by
  unfold pPowI at e
  split at e
  · rename_i h; exact ⟨h, (Option.some.inj e).symm⟩
  · cases e
def pShlI (i j : Int) : Option Int := if 0 ≤ j ∧ j ≤ 1000000 ∧ i.natAbs < 2 ^ 64 then some (i * 2 ^ j.toNat) else none
def pShl := pI pShlI
theorem op_shlP : OpR X (binaryOp .LShift) (r2 (gd X) pShl) := opI_P op_shl fun i j n e => by
  unfold pShlI at e
  split at e
  · rename_i h; exact ⟨h, (Option.some.inj e).symm⟩
  · cases e
def pShrI (i j : Int) : Option Int := if 0 ≤ j then some (i / 2 ^ j.toNat) else none
def pShr := pI pShrI
theorem op_shrP : OpR X (binaryOp .RShift) (r2 (gd X) pShr) := opI_P op_shr fun i j n e => by
  unfold pShrI at e
  split at e
  · rename_i h; exact ⟨h, (Option.some.inj e).symm⟩
  · cases e
def pBand := pI fun i j => some (Builtin.bitAnd i j)
theorem op_bandP : OpR X (binaryOp .BitAnd) (r2 (gd X) pBand) := opI_P (rI0_rI op_and) fun i j n e => ⟨trivial, (Option.some.inj e).symm⟩
def pBor := pI fun i j => some (Builtin.bitOr i j)
theorem op_borP : OpR X (binaryOp .BitOr) (r2 (gd X) pBor) := opI_P (rI0_rI op_or) fun i j n e => ⟨trivial, (Option.some.inj e).symm⟩

/-! ### comparisons -/
def shp (d : D) : Bool := SeqAt.shaped d
def pEq (x y : D) : Option Bool := if shp x && shp y then some (PyData.eqv x y) else none
def pNe (x y : D) : Option Bool := if shp x && shp y then some (!PyData.eqv x y) else none
theorem op_eqP (L : Lv X) : OpR X (compareOp .Eq) (r2b (gd X) pEq) := by
  intro pins s σ H x y v u Q I rx ry h
  obtain ⟨B, dx, dy, b, hB, px, py, e, q⟩ := h
  unfold pEq at e
  by_cases hs : (shp dx && shp dy) = true
  · rw [if_pos hs] at e
    cases e
    rw [Bool.and_eq_true] at hs
    exact op_eqD (by have := L.un; omega) pins s σ H x y v u Q I rx ry ⟨dx, dy, px.dp (SeqAt.canLay_of_shaped hs.1), py.dp (SeqAt.canLay_of_shaped hs.2), hs.1, hs.2, q⟩
  · rw [if_neg hs] at e; cases e
theorem op_neP (L : Lv X) : OpR X (compareOp .NotEq) (r2b (gd X) pNe) := by
  intro pins s σ H x y v u Q I rx ry h
  obtain ⟨B, dx, dy, b, hB, px, py, e, q⟩ := h
  unfold pNe at e
  by_cases hs : (shp dx && shp dy) = true
  · rw [if_pos hs] at e
    cases e
    rw [Bool.and_eq_true] at hs
    exact op_neD (by have := L.un; omega) pins s σ H x y v u Q I rx ry ⟨dx, dy, px.dp (SeqAt.canLay_of_shaped hs.1), py.dp (SeqAt.canLay_of_shaped hs.2), hs.1, hs.2, q⟩
  · rw [if_neg hs] at e; cases e
/-- is None, is not None (the right side is None), is True .. (both bools) -/
def isN : D → Bool
  | .none => true
  | _ => false
def pIsN (x y : D) : Option Bool := match y with
  | .none => some (isN x)
  | .bool b => (match x with | .bool a => some (decide (a = b)) | _ => none)
  | _ => none
def pNotN (x y : D) : Option Bool := match y with
  | .none => some (!isN x)
  | .bool b => (match x with | .bool a => some (!decide (a = b)) | _ => none)
  | _ => none
theorem isN_rp {B : Addr → Prop} {H : Hp} {v : V} {d : D} (r : Rp (gd X) B H v d) : decide (v = .non) = isN d := by
  cases r <;> first | rfl | (simp [isN])
theorem op_isNP : OpR X (compareOp .Is) (r2b (gd X) pIsN) := by
  intro pins s σ H x y v u Q I rx ry h
  obtain ⟨B, dx, dy, b, hB, px, py, e, q⟩ := h
  cases py with
  | non =>
    have e' : some (isN dx) = some b := e
    cases e'
    exact op_isN pins s σ H x _ v u Q I rx ry ⟨rfl, by rw [isN_rp px]; exact q⟩
  | bl c =>
    cases px with
    | bl a =>
      have e' : some (decide (a = c)) = some b := e
      cases e'
      exact op_is_bl pins s σ H _ _ v u Q I rx ry ⟨a, c, rfl, rfl, q⟩
    | _ => cases e
  | _ => cases e
theorem op_notNP : OpR X (compareOp .IsNot) (r2b (gd X) pNotN) := by
  intro pins s σ H x y v u Q I rx ry h
  obtain ⟨B, dx, dy, b, hB, px, py, e, q⟩ := h
  cases py with
  | non =>
    have e' : some (!isN dx) = some b := e
    cases e'
    exact op_notN pins s σ H x _ v u Q I rx ry ⟨rfl, by rw [isN_rp px]; exact q⟩
  | bl c =>
    cases px with
    | bl a =>
      have e' : some (!decide (a = c)) = some b := e
      cases e'
      exact op_isnot_bl pins s σ H _ _ v u Q I rx ry ⟨a, c, rfl, rfl, q⟩
    | _ => cases e
  | _ => cases e
/-- order, of numbers, and of the like -/
def isNo : D → Bool
  | .none => true
  | _ => false
def likeD (x y : D) : Bool := PySem.W.alike x y && !isNo x && shp x && shp y
def pLt (x y : D) : Option Bool := match x, y with
  | .int i, .int j => some (decide (i < j))
  | _, _ => if likeD x y = true then some (PySem.W.dataLt x y) else none
def pLe (x y : D) : Option Bool := match x, y with
  | .int i, .int j => some (decide (i ≤ j))
  | _, _ => if likeD x y = true then some (!PySem.W.dataLt y x) else none
def pGt (x y : D) : Option Bool := match x, y with
  | .int i, .int j => some (decide (j < i))
  | _, _ => if likeD x y = true then some (PySem.W.dataLt y x) else none
def pGe (x y : D) : Option Bool := match x, y with
  | .int i, .int j => some (decide (j ≤ i))
  | _, _ => if likeD x y = true then some (!PySem.W.dataLt x y) else none
theorem like_reads {B : Addr → Prop} {pins : List (Addr × Obj)} {σ : L2.St} {H : Hp} {s : Shared} {x y : V} {dx dy : D} {v u : Value} (L : Lv X) (I : Inv X pins σ H s) (rx : Rp (gd X) B H x dx) (ry : Rp (gd X) B H y dy) (hx : RelV x v) (hy : RelV y u) (h : likeD dx dy = true) :
    ∃ as bs, Reads s.heap v dx as ∧ Reads s.heap u dy bs ∧ PySem.W.alike dx dy = true ∧ dx ≠ .none ∧ X.A.units + min dx.depth dy.depth < cLine := by
  unfold likeD at h
  simp only [Bool.and_eq_true] at h
  obtain ⟨⟨⟨h1, h2⟩, h3⟩, h4⟩ := h
  obtain ⟨as, r1⟩ := Rp.reads I rx (SeqAt.canLay_of_shaped h3) hx
  obtain ⟨bs, r2⟩ := Rp.reads I ry (SeqAt.canLay_of_shaped h4) hy
  exact ⟨as, bs, r1, r2, h1, fun z => (by subst z; cases h2), SeqAt.room_of_shaped h3 (by have := L.un; omega)⟩
theorem cmp_P {op : CmpOp} {g : D → D → Option Bool} {gi : Int → Int → Bool} {gd' : D → D → Bool} (hop : ∀ (A : Around) (a b : Value), compareOp op a b = richCompare op a b) (hi : OpR X (compareOp op) (rI0 fun i j => .bl (gi i j))) (hgi : ∀ i j, g (.int i) (.int j) = some (gi i j))
    (hg : ∀ x y b, g x y = some b → (∃ i j, x = .int i ∧ y = .int j) ∨ (likeD x y = true ∧ b = gd' x y))
    (hr : ∀ (da db : PyData) (A : Around) (s : Shared) (a b : Value) (as bs : List Addr), Reads s.heap a da as → Reads s.heap b db bs → PySem.W.alike da db = true → da ≠ .none → A.units + min da.depth db.depth < cLine →
      ∀ (Q : Value → Shared → Prop) (E : Value → Shared → Prop), Q (.bool (gd' da db)) s → wpAny (model X.prog X.w) A (richCompare op a b) Q E s) (L : Lv X) : OpR X (compareOp op) (r2b (gd X) g) := by
  intro pins s σ H x y v u Q I rx ry h
  obtain ⟨B, dx, dy, b, hB, px, py, e, q⟩ := h
  rcases hg dx dy b e with ⟨i, j, e1, e2⟩ | ⟨hl, eb⟩
  · subst e1; subst e2
    cases px
    cases py
    rw [hgi] at e
    cases e
    exact hi pins s σ H _ _ v u Q I rx ry ⟨i, j, rfl, rfl, q⟩
  · subst eb
    obtain ⟨as, bs, r1, r2, h1, h2, h3⟩ := like_reads L I px py rx ry hl
    rw [hop X.A v u]
    exact hr dx dy X.A s v u as bs r1 r2 h1 h2 h3 _ _ ⟨.bl _, H, I, rfl, q⟩
theorem op_ltP (L : Lv X) : OpR X (compareOp .Lt) (r2b (gd X) pLt) := by
  refine cmp_P (gi := fun i j => decide (i < j)) (gd' := fun x y => PySem.W.dataLt x y) (fun _ _ _ => rfl) op_lt (fun _ _ => rfl) (fun x y b e => ?_) (fun da db A s a b as bs r1 r2 h1 h2 h3 Q E q => PySem.W.lt_data r1 r2 h1 h2 h3 q) L
  unfold pLt at e
  split at e
  · exact .inl ⟨_, _, rfl, rfl⟩
  · split at e
    · rename_i hl; cases e; exact .inr ⟨hl, rfl⟩
    · cases e
theorem op_leP (L : Lv X) : OpR X (compareOp .LtE) (r2b (gd X) pLe) := by
  refine cmp_P (gi := fun i j => decide (i ≤ j)) (gd' := fun x y => !PySem.W.dataLt y x) (fun _ _ _ => rfl) op_le (fun _ _ => rfl) (fun x y b e => ?_) (fun da db A s a b as bs r1 r2 h1 h2 h3 Q E q => PySem.W.le_data r1 r2 h1 h2 h3 q) L
  unfold pLe at e
  split at e
  · exact .inl ⟨_, _, rfl, rfl⟩
  · split at e
    · rename_i hl; cases e; exact .inr ⟨hl, rfl⟩
    · cases e
theorem op_gtP (L : Lv X) : OpR X (compareOp .Gt) (r2b (gd X) pGt) := by
  refine cmp_P (gi := fun i j => decide (j < i)) (gd' := fun x y => PySem.W.dataLt y x) (fun _ _ _ => rfl) op_gt (fun _ _ => rfl) (fun x y b e => ?_) (fun da db A s a b as bs r1 r2 h1 h2 h3 Q E q => PySem.W.gt_data r1 r2 h1 h2 h3 q) L
  unfold pGt at e
  split at e
  · exact .inl ⟨_, _, rfl, rfl⟩
  · split at e
    · rename_i hl; cases e; exact .inr ⟨hl, rfl⟩
    · cases e
theorem op_geP (L : Lv X) : OpR X (compareOp .GtE) (r2b (gd X) pGe) := by
  refine cmp_P (gi := fun i j => decide (j ≤ i)) (gd' := fun x y => !PySem.W.dataLt x y) (fun _ _ _ => rfl) op_ge (fun _ _ => rfl) (fun x y b e => ?_) (fun da db A s a b as bs r1 r2 h1 h2 h3 Q E q => PySem.W.ge_data r1 r2 h1 h2 h3 q) L
  unfold pGe at e
  split at e
  · exact .inl ⟨_, _, rfl, rfl⟩
  · split at e
    · rename_i hl; cases e; exact .inr ⟨hl, rfl⟩
    · cases e
/-- x in a list, a tuple; a text in a text -/
def pIn (x y : D) : Option Bool := match y with
  | .list ds => if shp x && shp y then some (ds.any fun z => PyData.eqv z x) else none
  | .tuple ds => if shp x && shp y then some (ds.any fun z => PyData.eqv z x) else none
  | _ => none
def pNotIn (x y : D) : Option Bool := (pIn x y).map (!·)
theorem room1 {d : D} {ds : List D} (L : Lv X) (h : shp d = true) : X.A.units + 1 + min (PyData.depthAll ds) d.depth < cLine := by
  have h1 := SeqAt.depth_of_shaped h
  have h2 := L.un
  have h3 : min (PyData.depthAll ds) d.depth ≤ d.depth := Nat.min_le_right _ _
  omega
theorem op_inP (L : Lv X) : OpR X (compareOp .In) (r2b (gd X) pIn) := by
  intro pins s σ H x y v u Q I rx ry h
  obtain ⟨B, dx, dy, b, hB, px, py, e, q⟩ := h
  cases dy with
  | list ds =>
    have e' : (if shp dx && shp (.list ds) then some (ds.any fun z => PyData.eqv z dx) else none) = some b := e
    by_cases hs : (shp dx && shp (.list ds)) = true
    · rw [if_pos hs] at e'; cases e'
      rw [Bool.and_eq_true] at hs
      obtain ⟨as, r1⟩ := Rp.reads I px (SeqAt.canLay_of_shaped hs.1) rx
      obtain ⟨bs, r2⟩ := Rp.reads I py (SeqAt.canLay_of_shaped hs.2) ry
      have c2 : PyData.canLayAll0 ds = true := SeqAt.canLay_of_shaped hs.2
      exact SeqAt.in_list_reads r2 r1 c2 (SeqAt.canLay_of_shaped hs.1) (room1 L hs.1) ⟨.bl _, H, I, rfl, q⟩
    · rw [if_neg hs] at e'; cases e'
  | tuple ds =>
    have e' : (if shp dx && shp (.tuple ds) then some (ds.any fun z => PyData.eqv z dx) else none) = some b := e
    by_cases hs : (shp dx && shp (.tuple ds)) = true
    · rw [if_pos hs] at e'; cases e'
      rw [Bool.and_eq_true] at hs
      obtain ⟨as, r1⟩ := Rp.reads I px (SeqAt.canLay_of_shaped hs.1) rx
      obtain ⟨bs, r2⟩ := Rp.reads I py (SeqAt.canLay_of_shaped hs.2) ry
      have c2 : PyData.canLayAll0 ds = true := SeqAt.canLay_of_shaped hs.2
      exact SeqAt.in_tuple_reads r2 r1 c2 (SeqAt.canLay_of_shaped hs.1) (room1 L hs.1) ⟨.bl _, H, I, rfl, q⟩
    · rw [if_neg hs] at e'; cases e'
  | _ => cases e
theorem op_notInP (L : Lv X) : OpR X (compareOp .NotIn) (r2b (gd X) pNotIn) := by
  intro pins s σ H x y v u Q I rx ry h
  obtain ⟨B, dx, dy, b, hB, px, py, e, q⟩ := h
  cases dy with
  | list ds =>
    have e' : (if shp dx && shp (.list ds) then some (ds.any fun z => PyData.eqv z dx) else none).map (!·) = some b := e
    by_cases hs : (shp dx && shp (.list ds)) = true
    · rw [if_pos hs] at e'; cases e'
      rw [Bool.and_eq_true] at hs
      obtain ⟨as, r1⟩ := Rp.reads I px (SeqAt.canLay_of_shaped hs.1) rx
      obtain ⟨bs, r2⟩ := Rp.reads I py (SeqAt.canLay_of_shaped hs.2) ry
      have c2 : PyData.canLayAll0 ds = true := SeqAt.canLay_of_shaped hs.2
      exact SeqAt.notIn_list_reads r2 r1 c2 (SeqAt.canLay_of_shaped hs.1) (room1 L hs.1) ⟨.bl _, H, I, rfl, q⟩
    · rw [if_neg hs] at e'; cases e'
  | tuple ds =>
    have e' : (if shp dx && shp (.tuple ds) then some (ds.any fun z => PyData.eqv z dx) else none).map (!·) = some b := e
    by_cases hs : (shp dx && shp (.tuple ds)) = true
    · rw [if_pos hs] at e'; cases e'
      rw [Bool.and_eq_true] at hs
      obtain ⟨as, r1⟩ := Rp.reads I px (SeqAt.canLay_of_shaped hs.1) rx
      obtain ⟨bs, r2⟩ := Rp.reads I py (SeqAt.canLay_of_shaped hs.2) ry
      have c2 : PyData.canLayAll0 ds = true := SeqAt.canLay_of_shaped hs.2
      exact SeqAt.notIn_tuple_reads r2 r1 c2 (SeqAt.canLay_of_shaped hs.1) (room1 L hs.1) ⟨.bl _, H, I, rfl, q⟩
    · rw [if_neg hs] at e'; cases e'
  | _ => cases e
end
end Pu

set_option maxHeartbeats 2000000
/-! P3: subscripts, slices, built-ins; what is walked; comprehensions. -/
namespace Pu
open PySem PySem.Spec L2

/-! ### subscripts, slices -/
def pIx : D → D → Option D
  | .list xs, .int i => atI xs i
  | .tuple xs, .int i => atI xs i
  | .str z, .int i => if z.length ≤ LINE then (atI z.cps.toList i).map fun c => .str ⟨#[c]⟩ else none
  | _, _ => none
section
variable {X : Cx} {W : WX} {ρ : Ev} {pos : Pos} {a b c : Expr} {ma mb mc : R D} {ta tb : R Bool}
theorem atI_rp {B : Addr → Prop} {H : Hp} {vs : List V} {ds : List D} {i : Int} {d : D} (r : RpAll (gd X) B H vs ds) (h : atI ds i = some d) : ∃ v, atI vs i = some v ∧ Rp (gd X) B H v d := by
  unfold atI at h ⊢
  rw [r.length]
  cases e : ixN ds.length i with
  | none => rw [e] at h; cases h
  | some j =>
    rw [e] at h
    exact r.get h
theorem ix_P : IxR X (r2 (gd X) pIx) := by
  intro value slice pins s σ H x y v u Q I rx ry h hs
  obtain ⟨B, dx, dy, hB, px, py, d, e, q⟩ := h
  cases px with
  | @lst a xs ds na sx rsx =>
    cases py with
    | int i =>
      obtain ⟨z, e1, rz⟩ := atI_rp rsx (show atI ds i = some d from e)
      exact ix_list value slice pins s σ H _ _ v u Q I rx ry ⟨a, xs, i, z, rfl, rfl, sx, e1, q _ H (Same.refl H) rz⟩ hs
    | _ => cases e
  | @tup a xs ds na sx rsx =>
    cases py with
    | int i =>
      obtain ⟨z, e1, rz⟩ := atI_rp rsx (show atI ds i = some d from e)
      exact ix_tup value slice pins s σ H _ _ v u Q I rx ry ⟨a, xs, i, z, rfl, rfl, sx, e1, q _ H (Same.refl H) rz⟩ hs
    | _ => cases e
  | str z =>
    cases py with
    | int i =>
      have e' : (if z.length ≤ LINE then (atI z.cps.toList i).map fun c => PyData.str ⟨#[c]⟩ else none) = some d := e
      by_cases hl : z.length ≤ LINE
      · rw [if_pos hl] at e'
        cases hc : atI z.cps.toList i with
        | none => rw [hc] at e'; cases e'
        | some c =>
          rw [hc] at e'; cases e'
          exact ix_str value slice pins s σ H _ _ v u Q I rx ry ⟨z, i, c, rfl, rfl, by rw [line_eq]; exact hl, hc, q _ H (Same.refl H) (.str _)⟩ hs
      · rw [if_neg hl] at e'; cases e'
    | _ => cases e
  | _ => cases py <;> cases e
theorem pu_ix (h1 : PuE X W a ρ ma) (h2 : PuE X W b ρ mb) (hs : PlainIx b := by exact fun _ _ => rfl) : PuE X W (.Subscript a b pos) ρ (do let x ← ma; let y ← mb; R.of (pIx x y)) := by
  intro A B c0 H σ Q r p
  refine (pe_ix ix_P pe_wp pe_wp hs).to ?_
  refine h1.step r p fun c1 dx x H1 k1 rx r1 p1 => ?_
  refine h2.step (Q := fun y H2 => r2 (gd X) pIx x y H2 Q) r1 p1 fun c2 dy y H2 k2 ry r2 p2 => ?_
  exact ⟨B, dx, dy, r2.dom, rx.kx k2, ry, p2.toV r2⟩
/-- the part of a row -/
def cutD {α : Type} (xs : List α) (lo hi : Option Int) : List α := (xs.drop (HT.sIx xs.length 0 lo)).take (HT.sIx xs.length xs.length hi - HT.sIx xs.length 0 lo)
def oI : D → Option (Option Int)
  | .int i => some (some i)
  | _ => none
def pSl (d : D) (lo hi : Option Int) : Option D := match d with
  | .list xs => some (.list (cutD xs lo hi))
  | .tuple xs => some (.tuple (cutD xs lo hi))
  | _ => none
theorem cut_rp {B : Addr → Prop} {H : Hp} {vs : List V} {ds : List D} (r : RpAll (gd X) B H vs ds) (lo hi : Option Int) : RpAll (gd X) B H (cutV vs lo hi) (cutD ds lo hi) := by
  unfold cutV cutD
  rw [r.length]
  exact (r.drop _).take _
theorem cut_all {xs : List D} {lo hi : Option Int} (h1 : HT.sIx xs.length 0 lo = 0) (h2 : HT.sIx xs.length xs.length hi = xs.length) : cutD xs lo hi = xs := by
  unfold cutD
  rw [h1, h2]
  simp
theorem sl_P : SlR X (fun x lo hi H Q => ∃ (B : Addr → Prop) (dx : D), InH B H ∧ Rp (gd X) B H x dx ∧ PoV (gd X) B H (pSl dx lo hi) Q) := by
  intro pins s σ H x v vl vu lo hi sl Q I rx hs pl pu h
  obtain ⟨B, dx, hB, px, d, e, q⟩ := h
  cases px with
  | @lst a xs ds na sx rsx =>
    cases e
    exact sl_list pins s σ H _ v vl vu lo hi sl Q I rx hs pl pu ⟨a, xs, rfl, sx, fun p hp => q _ _ (same_upd hp) (.lst (.inl (nav_of hB hp)) (.of upd_same) ((cut_rp rsx lo hi).same (same_upd hp)))⟩
  | @tup a xs ds na sx rsx =>
    cases e
    refine sl_tupA pins s σ H _ v vl vu lo hi sl Q I rx hs pl pu ⟨a, xs, rfl, sx, fun ⟨e1, e2⟩ => ?_, fun _ p hp => ?_⟩
    · rw [rsx.length] at e1 e2
      rw [cut_all e1 e2] at q
      exact q _ H (Same.refl H) (.tup na sx rsx)
    · exact q _ _ (same_upd hp) (.tup (.inl (nav_of hB hp)) (.of upd_same) ((cut_rp rsx lo hi).same (same_upd hp)))
  | _ => cases e
theorem oI_int {B : Addr → Prop} {H : Hp} {v : V} {d : D} {i : Option Int} (r : Rp (gd X) B H v d) (h : oI d = some i) : ∃ j, v = .int j ∧ i = some j := by
  cases r with
  | int j => exact ⟨j, rfl, (Option.some.inj h).symm⟩
  | _ => cases h
theorem pu_slA {lo hi : Expr} {p2 : Pos} (h1 : PuE X W a ρ ma) (h2 : PuE X W lo ρ mb) (h3 : PuE X W hi ρ mc) : PuE X W (.Subscript a (.Slice (some lo) (some hi) none p2) pos) ρ (do let x ← ma; let l ← mb; let i ← R.of (oI l); let u ← mc; let j ← R.of (oI u); R.of (pSl x i j)) := by
  intro A B c0 H σ Q r p
  refine (pe_slice sl_P pe_wp (po_some pe_wp) (po_some pe_wp)).to ?_
  refine h1.step r p fun c1 dx x H1 k1 rx r1 p1 => ?_
  refine h2.step (Q := fun y H2 => ∃ i, y = V.int i ∧ (wpE X hi σ H2 fun z H3 => ∃ j, z = V.int j ∧ _)) r1 p1 fun c2 dy y H2 k2 ry r2 p2 => ?_
  obtain ⟨i, hi, p2⟩ := p2.ofo
  obtain ⟨i', rfl, rfl⟩ := oI_int ry hi
  refine ⟨i', rfl, ?_⟩
  refine h3.step r2 p2 fun c3 dz z H3 k3 rz r3 p3 => ?_
  obtain ⟨j, hj, p3⟩ := p3.ofo
  obtain ⟨j', rfl, rfl⟩ := oI_int rz hj
  exact ⟨j', rfl, B, dx, r3.dom, (rx.kx k2).kx k3, p3.toV r3⟩
theorem pu_slL {lo : Expr} {p2 : Pos} (h1 : PuE X W a ρ ma) (h2 : PuE X W lo ρ mb) : PuE X W (.Subscript a (.Slice (some lo) none none p2) pos) ρ (do let x ← ma; let l ← mb; let i ← R.of (oI l); R.of (pSl x i none)) := by
  intro A B c0 H σ Q r p
  refine (pe_slice sl_P pe_wp (po_some pe_wp) po_none).to ?_
  refine h1.step r p fun c1 dx x H1 k1 rx r1 p1 => ?_
  refine h2.step r1 p1 fun c2 dy y H2 k2 ry r2 p2 => ?_
  obtain ⟨i, hi, p2⟩ := p2.ofo
  obtain ⟨i', rfl, rfl⟩ := oI_int ry hi
  exact ⟨i', rfl, B, dx, r2.dom, rx.kx k2, p2.toV r2⟩
theorem pu_slH {hi : Expr} {p2 : Pos} (h1 : PuE X W a ρ ma) (h2 : PuE X W hi ρ mb) : PuE X W (.Subscript a (.Slice none (some hi) none p2) pos) ρ (do let x ← ma; let l ← mb; let i ← R.of (oI l); R.of (pSl x none i)) := by
  intro A B c0 H σ Q r p
  refine (pe_slice sl_P pe_wp po_none (po_some pe_wp)).to ?_
  refine h1.step r p fun c1 dx x H1 k1 rx r1 p1 => ?_
  refine h2.step r1 p1 fun c2 dy y H2 k2 ry r2 p2 => ?_
  obtain ⟨i, hi, p2⟩ := p2.ofo
  obtain ⟨i', rfl, rfl⟩ := oI_int ry hi
  exact ⟨i', rfl, B, dx, r2.dom, rx.kx k2, p2.toV r2⟩

/-! ### calls of built-ins -/
def rc (G : Gd) (g : List D → Option D) : List V → Hp → VK → Prop := fun vs H Q => ∃ (B : Addr → Prop) (ds : List D), InH B H ∧ RpAll G B H vs ds ∧ PoV G B H (g ds) Q
theorem pu_callB {x : Str} {id : String} {p : Pos} {es : List Expr} {ms : R (List D)} {g : List D → Option D} (hc : CallR X (.builtin id) (rc (gd X) g)) (hg : Gl X x) (hm : X.mg x = none) (hv : bootBuiltins x = some (.builtin id)) (ha : PuA X W (a :: es) ρ ms)
    (hn : x ≠ "__name__" := by decide) (hdb : (x == ("__debug__" : Str)) = false := by decide)
    (he : starEach (a :: es) X.env = (false, eval a X.env) :: starEach es X.env := by first | exact se_of (fun _ _ h => nomatch h) | rfl) (hpl : (backTo pos (starEach es X.env)).any (·.1) = false := by first | exact pl_of (by rfl) | rfl) : PuE X W (.Call (.Name x p) (a :: es) [] pos) ρ (do let xs ← ms; R.of (g xs)) := by
  intro A B c0 H σ Q r p
  refine (pe_callB hc hg hm hv pa_wp hn hdb he hpl).to ?_
  exact ha.step r p fun c1 ds vs H1 k1 rs r1 p1 => ⟨B, ds, r1.dom, rs, p1.toV r1⟩
theorem pu_callT {x : Str} {T : String} {p : Pos} {es : List Expr} {ms : R (List D)} {g : List D → Option D} (hc : CallR X (.type T) (rc (gd X) g)) (hg : Gl X x) (hm : X.mg x = none) (hv : bootBuiltins x = some (.type T)) (ha : PuA X W (a :: es) ρ ms)
    (hn : x ≠ "__name__" := by decide) (hdb : (x == ("__debug__" : Str)) = false := by decide)
    (he : starEach (a :: es) X.env = (false, eval a X.env) :: starEach es X.env := by first | exact se_of (fun _ _ h => nomatch h) | rfl) (hpl : (backTo pos (starEach es X.env)).any (·.1) = false := by first | exact pl_of (by rfl) | rfl) : PuE X W (.Call (.Name x p) (a :: es) [] pos) ρ (do let xs ← ms; R.of (g xs)) := by
  intro A B c0 H σ Q r p
  refine (pe_callTy hc hg hm hv pa_wp hn hdb he hpl).to ?_
  exact ha.step r p fun c1 ds vs H1 k1 rs r1 p1 => ⟨B, ds, r1.dom, rs, p1.toV r1⟩
def pLen : D → Option D
  | .list xs => some (.int xs.length)
  | .tuple xs => some (.int xs.length)
  | .str z => if z.length ≤ LINE then some (.int z.length) else none
  | _ => none
def f1 (g : D → Option D) : List D → Option D
  | [x] => g x
  | _ => none
def f2 (g : D → D → Option D) : List D → Option D
  | [x, y] => g x y
  | _ => none
theorem rc1 {B : Addr → Prop} {H : Hp} {vs : List V} {ds : List D} {g : D → Option D} {d : D} (r : RpAll (gd X) B H vs ds) (e : f1 g ds = some d) : ∃ v x, vs = [v] ∧ ds = [x] ∧ Rp (gd X) B H v x ∧ g x = some d := by
  cases r with
  | nil => cases e
  | cons r t =>
    cases t with
    | nil => exact ⟨_, _, rfl, rfl, r, e⟩
    | cons _ _ => cases e
theorem rc2 {B : Addr → Prop} {H : Hp} {vs : List V} {ds : List D} {g : D → D → Option D} {d : D} (r : RpAll (gd X) B H vs ds) (e : f2 g ds = some d) : ∃ v w x y, vs = [v, w] ∧ ds = [x, y] ∧ Rp (gd X) B H v x ∧ Rp (gd X) B H w y ∧ g x y = some d := by
  cases r with
  | nil => cases e
  | cons r t =>
    cases t with
    | nil => cases e
    | cons r2 t =>
      cases t with
      | nil => exact ⟨_, _, _, _, rfl, rfl, r, r2, e⟩
      | cons _ _ => cases e
theorem c_len : CallR X (.builtin "len") (rc (gd X) (f1 pLen)) := by
  intro pins s σ H xs us Q I r h
  obtain ⟨B, ds, hB, rs, d, e, q⟩ := h
  obtain ⟨v, x, rfl, rfl, rv, e⟩ := rc1 rs e
  cases rv with
  | lst na sx rsx => cases e; exact call_len pins s σ H _ us Q I r ⟨_, _, rfl, .inl ⟨_, sx, rsx.length.symm⟩, q _ H (Same.refl H) (.int _)⟩
  | tup na sx rsx => cases e; exact call_len pins s σ H _ us Q I r ⟨_, _, rfl, .inr ⟨_, sx, rsx.length.symm⟩, q _ H (Same.refl H) (.int _)⟩
  | str z =>
    have e' : (if z.length ≤ LINE then some (PyData.int z.length) else none) = some d := e
    by_cases hl : z.length ≤ LINE
    · rw [if_pos hl] at e'; cases e'
      exact call_len pins s σ H _ us Q I r ⟨_, _, rfl, ⟨by rw [line_eq]; exact hl, rfl⟩, q _ H (Same.refl H) (.int _)⟩
    · rw [if_neg hl] at e'; cases e'
  | _ => cases e
def pTuple : D → Option D
  | .list xs => some (.tuple xs)
  | .tuple xs => some (.tuple xs)
  | _ => none
theorem c_tuple : CallR X (.type "tuple") (rc (gd X) (f1 pTuple)) := by
  intro pins s σ H xs us Q I r h
  obtain ⟨B, ds, hB, rs, d, e, q⟩ := h
  obtain ⟨v, x, rfl, rfl, rv, e⟩ := rc1 rs e
  cases rv with
  | lst na sx rsx => cases e; exact call_tuple_of pins s σ H _ us Q I r ⟨_, _, rfl, .inl ⟨sx, fun p hp => q _ _ (same_upd hp) (.tup (.inl (nav_of hB hp)) (.of upd_same) (rsx.same (same_upd hp)))⟩⟩
  | tup na sx rsx => cases e; exact call_tuple_of pins s σ H _ us Q I r ⟨_, _, rfl, .inr ⟨sx, q _ _ (Same.refl H) (.tup na sx rsx)⟩⟩
  | _ => cases e
def pList : D → Option D
  | .list xs => some (.list xs)
  | .tuple xs => some (.list xs)
  | _ => none
theorem c_list : CallR X (.type "list") (rc (gd X) (f1 pList)) := by
  intro pins s σ H xs us Q I r h
  obtain ⟨B, ds, hB, rs, d, e, q⟩ := h
  obtain ⟨v, x, rfl, rfl, rv, e⟩ := rc1 rs e
  cases rv with
  | lst na sx rsx => cases e; exact call_list_of pins s σ H _ us Q I r ⟨_, _, rfl, .inl sx, fun p hp => q _ _ (same_upd hp) (.lst (.inl (nav_of hB hp)) (.of upd_same) (rsx.same (same_upd hp)))⟩
  | tup na sx rsx => cases e; exact call_list_of pins s σ H _ us Q I r ⟨_, _, rfl, .inr sx, fun p hp => q _ _ (same_upd hp) (.lst (.inl (nav_of hB hp)) (.of upd_same) (rsx.same (same_upd hp)))⟩
  | _ => cases e
def pInt : D → Option D
  | .int i => some (.int i)
  | .bool k => some (.int (if k then 1 else 0))
  | _ => none
theorem c_int : CallR X (.type "int") (rc (gd X) (f1 pInt)) := by
  intro pins s σ H xs us Q I r h
  obtain ⟨B, ds, hB, rs, d, e, q⟩ := h
  obtain ⟨v, x, rfl, rfl, rv, e⟩ := rc1 rs e
  cases rv with
  | int i => cases e; exact call_int1 pins s σ H _ us Q I r (.inl ⟨i, rfl, q _ H (Same.refl H) (.int _)⟩)
  | bl k => cases e; exact call_int1 pins s σ H _ us Q I r (.inr ⟨k, rfl, q _ H (Same.refl H) (.int _)⟩)
  | _ => cases e
def pAbs : D → Option D
  | .int i => some (.int (if i < 0 then -i else i))
  | _ => none
theorem c_abs : CallR X (.builtin "abs") (rc (gd X) (f1 pAbs)) := by
  intro pins s σ H xs us Q I r h
  obtain ⟨B, ds, hB, rs, d, e, q⟩ := h
  obtain ⟨v, x, rfl, rfl, rv, e⟩ := rc1 rs e
  cases rv with
  | int i => cases e; exact call_abs pins s σ H _ us Q I r ⟨i, rfl, q _ H (Same.refl H) (.int _)⟩
  | _ => cases e
def pStr : D → Option D
  | .int i => if i.natAbs.log2 < 1920 then some (.str (toString i)) else none
  | _ => none
theorem c_str : CallR X (.type "str") (rc (gd X) (f1 pStr)) := by
  intro pins s σ H xs us Q I r h
  obtain ⟨B, ds, hB, rs, d, e, q⟩ := h
  obtain ⟨v, x, rfl, rfl, rv, e⟩ := rc1 rs e
  cases rv with
  | int i =>
    have e' : (if i.natAbs.log2 < 1920 then some (PyData.str (toString i)) else none) = some d := e
    by_cases hl : i.natAbs.log2 < 1920
    · rw [if_pos hl] at e'; cases e'
      exact call_str_int pins s σ H _ us Q I r ⟨i, rfl, hl, q _ H (Same.refl H) (.str _)⟩
    · rw [if_neg hl] at e'; cases e'
  | _ => cases e
def pMax2 : D → D → Option D
  | .int i, .int j => some (.int (if j > i then j else i))
  | _, _ => none
def pMin2 : D → D → Option D
  | .int i, .int j => some (.int (if j < i then j else i))
  | _, _ => none
theorem c_max2 (L : Lv X) : CallR X (.builtin "max") (rc (gd X) (f2 pMax2)) := by
  intro pins s σ H xs us Q I r h
  obtain ⟨B, ds, hB, rs, d, e, q⟩ := h
  obtain ⟨v, w, x, y, rfl, rfl, rv, rw', e⟩ := rc2 rs e
  cases rv with
  | int i =>
    cases rw' with
    | int j => cases e; exact call_max2 L.calm pins s σ H _ us Q I r ⟨i, j, rfl, q _ H (Same.refl H) (.int _)⟩
    | _ => cases e
  | _ => cases e
theorem c_min2 (L : Lv X) : CallR X (.builtin "min") (rc (gd X) (f2 pMin2)) := by
  intro pins s σ H xs us Q I r h
  obtain ⟨B, ds, hB, rs, d, e, q⟩ := h
  obtain ⟨v, w, x, y, rfl, rfl, rv, rw', e⟩ := rc2 rs e
  cases rv with
  | int i =>
    cases rw' with
    | int j => cases e; exact call_min2 L.calm pins s σ H _ us Q I r ⟨i, j, rfl, q _ H (Same.refl H) (.int _)⟩
    | _ => cases e
  | _ => cases e
/-- a row of truths -/
def bools : List D → Option (List Bool)
  | [] => some []
  | .bool b :: r => (bools r).map (b :: ·)
  | _ => none
theorem bools_rp {B : Addr → Prop} {H : Hp} : ∀ {vs : List V} {ds : List D} {bs : List Bool}, RpAll (gd X) B H vs ds → bools ds = some bs → vs = bs.map V.bl
  | _, _, _, .nil, e => by cases e; rfl
  | _, _, bs, .cons r t, e => by
    cases r with
    | @bl b =>
      rename_i vs ds
      have e' : (bools ds).map (b :: ·) = some bs := e
      cases hb : bools ds with
      | none => rw [hb] at e'; cases e'
      | some cs =>
        rw [hb] at e'; cases e'
        rw [List.map_cons, bools_rp t hb]
    | _ => cases e
def pAll : D → Option D
  | .list xs => (bools xs).map fun bs => .bool (bs.all id)
  | _ => none
def pAny : D → Option D
  | .list xs => (bools xs).map fun bs => .bool (bs.any id)
  | _ => none
theorem c_all (L : Lv X) : CallR X (.builtin "all") (rc (gd X) (f1 pAll)) := by
  intro pins s σ H xs us Q I r h
  obtain ⟨B, ds, hB, rs, d, e, q⟩ := h
  obtain ⟨v, x, rfl, rfl, rv, e⟩ := rc1 rs e
  cases rv with
  | @lst a vs ds na sx rsx =>
    have e' : (bools ds).map (fun bs => PyData.bool (bs.all id)) = some d := e
    cases hb : bools ds with
    | none => rw [hb] at e'; cases e'
    | some bs =>
      rw [hb] at e'; cases e'
      exact cr_all L.calm pins s σ H _ us Q I r ⟨a, bs, rfl, bools_rp rsx hb ▸ sx, q _ H (Same.refl H) (.bl _)⟩
  | _ => cases e
theorem c_any (L : Lv X) : CallR X (.builtin "any") (rc (gd X) (f1 pAny)) := by
  intro pins s σ H xs us Q I r h
  obtain ⟨B, ds, hB, rs, d, e, q⟩ := h
  obtain ⟨v, x, rfl, rfl, rv, e⟩ := rc1 rs e
  cases rv with
  | @lst a vs ds na sx rsx =>
    have e' : (bools ds).map (fun bs => PyData.bool (bs.any id)) = some d := e
    cases hb : bools ds with
    | none => rw [hb] at e'; cases e'
    | some bs =>
      rw [hb] at e'; cases e'
      exact cr_any L.calm pins s σ H _ us Q I r ⟨a, bs, rfl, bools_rp rsx hb ▸ sx, q _ H (Same.refl H) (.bl _)⟩
  | _ => cases e
def intsD : List D → Option (List Int)
  | [] => some []
  | .int b :: r => (intsD r).map (b :: ·)
  | _ => none
theorem intsD_rp {B : Addr → Prop} {H : Hp} : ∀ {vs : List V} {ds : List D} {bs : List Int}, RpAll (gd X) B H vs ds → intsD ds = some bs → vs = bs.map V.int
  | _, _, _, .nil, e => by cases e; rfl
  | _, _, bs, .cons r t, e => by
    cases r with
    | @int b =>
      rename_i vs ds
      have e' : (intsD ds).map (b :: ·) = some bs := e
      cases hb : intsD ds with
      | none => rw [hb] at e'; cases e'
      | some cs =>
        rw [hb] at e'; cases e'
        rw [List.map_cons, intsD_rp t hb]
    | _ => cases e
def pSum : D → Option D
  | .list xs => (intsD xs).map fun bs => .int bs.sum
  | _ => none
theorem c_sum (L : Lv X) : CallR X (.builtin "sum") (rc (gd X) (f1 pSum)) := by
  intro pins s σ H xs us Q I r h
  obtain ⟨B, ds, hB, rs, d, e, q⟩ := h
  obtain ⟨v, x, rfl, rfl, rv, e⟩ := rc1 rs e
  cases rv with
  | @lst a vs ds na sx rsx =>
    have e' : (intsD ds).map (fun bs => PyData.int bs.sum) = some d := e
    cases hb : intsD ds with
    | none => rw [hb] at e'; cases e'
    | some bs =>
      rw [hb] at e'; cases e'
      exact cr_sum L.calm pins s σ H _ us Q I r ⟨a, bs, rfl, intsD_rp rsx hb ▸ sx, q _ H (Same.refl H) (.int _)⟩
  | _ => cases e
end

/-! ### isinstance -/
def tyD : D → String
  | .none => "NoneType"
  | .bool _ => "bool"
  | .int _ => "int"
  | .str _ => "str"
  | .list _ => "list"
  | .tuple _ => "tuple"
  | .dict _ => "dict"
def isI (T : String) (d : D) : Bool := match d with
  | .none => T == "NoneType"
  | .bool _ => T == "bool" || T == "int"
  | .int _ => T == "int"
  | .str _ => T == "str"
  | .list _ => T == "list"
  | .tuple _ => T == "tuple"
  | .dict _ => T == "dict"
/-- the classes that are asked for -/
def isT (T : String) : Bool := T == "int" || T == "bool" || T == "str" || T == "list" || T == "tuple" || T == "dict"
section
variable {X : Cx} {W : WX} {ρ : Ev} {pos : Pos} {a b c : Expr} {ma mb mc : R D}
theorem tyX_seqL {K : PySem.W.Frag} {H : Hp} {a : Addr} {xs : List V} (h : SqL K H a xs) : TyX K H (.ref a) (.type "list") := by
  rcases h with (h | ⟨o, h⟩) | ⟨o, _, _, h, hc, _⟩
  · exact .base (.lst h)
  · exact .base (.frz h)
  · exact .kList h hc
theorem tyX_seqT {K : PySem.W.Frag} {H : Hp} {a : Addr} {xs : List V} (h : SqT K H a xs) : TyX K H (.ref a) (.type "tuple") := by
  rcases h with (h | ⟨o, h⟩) | ⟨o, _, _, h, hc, _⟩
  · exact .base (.tup h)
  · exact .fTuple h
  · exact .kTuple h hc
theorem isT_cases {T : String} (h : isT T = true) : T = "int" ∨ T = "bool" ∨ T = "str" ∨ T = "list" ∨ T = "tuple" ∨ T = "dict" := by
  simp [isT] at h
  rcases h with ((((h | h) | h) | h) | h) | h <;> simp [h]
theorem kitB_is {T : String} (h : isT T = true) : kitB "NoneType" T = some (T == "NoneType") ∧ kitB "bool" T = some (T == "bool" || T == "int") ∧ kitB "int" T = some (T == "int") ∧ kitB "str" T = some (T == "str") ∧ kitB "list" T = some (T == "list") ∧
    kitB "tuple" T = some (T == "tuple") ∧ kitB "dict" T = some (T == "dict") := by
  rcases isT_cases h with rfl | rfl | rfl | rfl | rfl | rfl <;> decide +kernel
theorem isi_val {pins : List (Addr × Obj)} {s : Shared} {σ : L2.St} {H : Hp} {B : Addr → Prop} {v : V} {d : D} {u : Value} {T : String} {Q : VK} (I : Inv X pins σ H s) (r : Rp (gd X) B H v d) (ru : RelV v u) (hT : isT T = true) (q : Q (.bl (isI T d)) H) :
    wpAny (model X.prog X.w) X.A (call (.builtin "isinstance") [u, .type T]) (EP X pins σ Q) X.xe s := by
  obtain ⟨k0, k1, k2, k3, k4, k5, k6⟩ := kitB_is hT
  have go : ∀ {t : String} {b : Bool}, TyX X.K H v (.type t) → kitB t T = some b → isI T d = b → wpAny (model X.prog X.w) X.A (call (.builtin "isinstance") [u, .type T]) (EP X pins σ Q) X.xe s := fun {t b} ty e1 e2 =>
    call_isi pins s σ H [v, .ty T] [u, .type T] Q I (.cons ru (.cons rfl .nil)) ⟨v, .ty T, .type t, .type T, b, rfl, .ty T, ty, kit_ty e1, e2 ▸ q⟩
  cases r with
  | non => exact go (.base .non) k0 rfl
  | bl b => exact go (.base (.bl b)) k1 rfl
  | int i => exact go (.base (.int i)) k2 rfl
  | str x => exact go (.base (.str x)) k3 rfl
  | lst na sx rsx => exact go (tyX_seqL sx) k4 rfl
  | tup na sx rsx => exact go (tyX_seqT sx) k5 rfl
  | @dct a kvs ks vs kds vds na e1 e2 h r1 r2 =>
    rcases h with ⟨kvs', h, _⟩ | ⟨es, h, _⟩
    · exact go (.base (.dK h)) k6 rfl
    · obtain ⟨⟨_, _, xs, _, o, ens, ep, h1, h2, _⟩, _⟩ := (show ObjOk X.prog X.w H s.heap a (.ext (DN (gd X) a es)) from I.hok a _ h)
      cases (show u = Value.ref a from ru)
      refine PySem.W.kia_one (c := .type T) (b := isI T (.dict kvs)) PySem.W.kitx_dict I.kIn ⟨o, h1, h2.1⟩ (kit_ty k6) (fun z => nomatch z) fun tk => ⟨.bl _, H, I.tok tk, rfl, q⟩
theorem pu_isi {T : String} {x : Str} {p q : Pos} (h1 : PuE X W a ρ ma) (hT : isT T = true) (hg : Gl X "isinstance") (hm : X.mg "isinstance" = none) (hgT : Gl X x) (hmT : X.mg x = none) (hvT : bootBuiltins x = some (.type T))
    (hn : x ≠ "__name__" := by decide) (hdb : (x == ("__debug__" : Str)) = false := by decide)
    (he : starEach [a, .Name x q] X.env = (false, eval a X.env) :: starEach [.Name x q] X.env := by first | exact se_of (fun _ _ h => nomatch h) | rfl) (he2 : starEach [.Name x q] X.env = [(false, eval (.Name x q) X.env)] := by rfl) :
    PuE X W (.Call (.Name "isinstance" p) [a, .Name x q] [] pos) ρ (do let x ← ma; R.ok (.bool (isI T x))) := by
  intro A B c0 H σ Q r p
  have hc : CallR X (.builtin "isinstance") (fun vs H Q => ∃ v d B, vs = [v, .ty T] ∧ Rp (gd X) B H v d ∧ Q (.bl (isI T d)) H) := by
    rintro pins s σ H vs us Q I rv ⟨v, d, B, rfl, r, q⟩
    obtain ⟨u1, u2, rfl, r1, r2⟩ := vals2 rv
    cases (show u2 = Value.type T from r2)
    exact isi_val I r r1 hT q
  refine (pe_callB hc hg hm (by decide +kernel) (pa_cons pe_wp (pa_cons (pe_bltn (v := .ty T) hgT hmT hvT rfl hn hdb) pa_nil (by rw [he2]; rfl)) he) (by decide) (by decide) he (by rw [he2]; rfl)).to ?_
  refine h1.step r p fun c1 dx x H1 k1 rx r1 p1 => ?_
  exact ⟨_, dx, B, rfl, rx, p1.now r1 (Same.refl H1) (.bl _)⟩
end
end Pu

set_option maxHeartbeats 2000000
/-! P4: what is walked, and comprehensions. -/
namespace Pu
open PySem PySem.Spec L2
open AutoSeq1 (wpAny_loadPart')

/-! ### enumerate of a tuple -/
theorem meets_enum1 {v : Value} {o : Obj} {H : Heap → Prop} (B : Begins v o H) :
    Meets (Builtin.«enumerate.__new__» ⟨[.type "enumerate", v], []⟩) (fun _ R s => H s.heap ∧
      R (.ok (.ret (.ref (s.heap.push o).objs.size))) { s with heap := (s.heap.push o).push { cls := .type "enumerate", data := .fields #[.none, .bool false, .ref s.heap.objs.size, rawInt 0, .none, .none] } }) :=
  .of_wp fun prog w A R s h => by
    obtain ⟨hp, g, d, tk, os⟩ := s; obtain ⟨h1, h⟩ := h
    have hsub := sub_enumerate
    have q1 : ∀ {A' : Around} {E : Value → Shared → Prop} {Q : Value → Shared → Prop}, Q (.ref hp.objs.size) ⟨hp.push o, g, d, tk, os⟩ → wpAny (model prog w) A' (pyIter v) Q E ⟨hp, g, d, tk, os⟩ :=
      fun q => B.iter prog w _ _ ⟨hp, g, d, tk, os⟩ _ h1 q
    wp_walk using q1
    refine wpAny_stack_any fun st => wpAny_pure ?_
    split
    · rename_i c _ _ _ _ _
      cases (c == Value.type "enumerate")
      · wp_walk using q1
        exact ⟨_, rfl, h⟩
      · wp_walk using q1
        exact ⟨_, rfl, h⟩
    · wp_walk using q1
      exact ⟨_, rfl, h⟩
theorem enum_begins1 {prog : Program} {w : World} {A : Around} {E : Value → Shared → Prop} {s : Shared} {v : Value} {o : Obj} {H : Heap → Prop} {Q : Value → Shared → Prop} (B : Begins v o H) (h1 : H s.heap)
    (h : ∀ h', IsEnum h' (s.heap.objs.size + 1) s.heap.objs.size 0 .none → h'.get? s.heap.objs.size = some o → h'.objs.size = s.heap.objs.size + 2 →
      (∀ b o, s.heap.get? b = some o → h'.get? b = some o) → Q (.ref (s.heap.objs.size + 1)) { s with heap := h' }) :
    wpAny (model prog w) A (call (.type "enumerate") [v]) Q E s := by
  refine callType_new F.called_enumerate (by decide) (F.typeCall_enumerate_1 _) (F.newCall_enumerate_1 _) (fun obj => F.args_object_init_2 obj _) F.entry_enumerate_new
    (meets_enum1 B) ⟨h1, ?_⟩
  have hz : (s.heap.push o).objs.size = s.heap.objs.size + 1 := Heap.size_push ..
  show _ ∧ _
  rw [hz]
  have he : IsEnum ((s.heap.push o).push { cls := .type "enumerate", data := .fields #[.none, .bool false, .ref s.heap.objs.size, rawInt 0, .none, .none] }) (s.heap.objs.size + 1) s.heap.objs.size 0 .none := by
    have := Heap.get?_push_size (s.heap.push o) (o := { cls := .type "enumerate", data := .fields #[.none, .bool false, .ref s.heap.objs.size, rawInt 0, .none, .none] }) rfl
    rw [hz] at this; exact this
  refine ⟨⟨_, he, rfl⟩, h _ he (Heap.get?_push_of_some _ (Heap.get?_push_size _ B.free)) (by rw [Heap.size_push, hz]) fun b o x => Heap.get?_push_of_some _ (Heap.get?_push_of_some _ x)⟩
/-- the tuple at a, each item in a new pair with its place -/
def IteT (K : PySem.W.Frag) (a : Addr) : It :=
  ⟨fun i H => ∃ (xs : List V) (x : V), SqT K H a xs ∧ xs[i]? = some x, fun i H v H' => ∃ T x, v = .ref T ∧ H T = none ∧ H' = upd H T (.tup [.int (i : Nat), x]) ∧ ∀ xs, SqT K H a xs → xs[i]? = some x, fun i H => ∃ xs : List V, SqT K H a xs ∧ xs.length = i⟩
theorem turn_enumT {P : Program} {w : World} {K : PySem.W.Frag} {elts : List Expr} {kk : Nat} {tpos : Pos} (a e it : Addr) :
    Turn P w K (.Tuple elts kk tpos) (IteT K a) [e, it] e (fun i h => (∃ old, IsEnum h e it ((i : Nat) : Int) old) ∧ h.IsTupleIter it a i ∧ e ≠ it) where
  mem := by simp
  obj := fun i h st b hb => by
    obtain ⟨⟨old, he⟩, ⟨o, ho, hc, hd⟩, _⟩ := st
    have e' : b = e ∨ b = it := by simpa using hb
    rcases e' with z | z
    · rw [z]; exact ⟨_, he, fun v q => nomatch q⟩
    · rw [z]; exact ⟨o, ho, fun v q => by rw [hd] at q; cases q⟩
  keep := fun i h h' st k => let ⟨⟨old, he⟩, hi, hne⟩ := st; ⟨⟨old, k e (by simp) _ he⟩, hi.at fun o q => k it (by simp) o q, hne⟩
  item := by
    intro X hP hw hK hc i pins s σ H E I hf st hg
    subst hP hw hK
    obtain ⟨⟨old, he⟩, hit, hne⟩ := st
    obtain ⟨xs, x, hq, hx⟩ := hg
    obtain ⟨its, rv, p, hz⟩ := I.tuple hq
    obtain ⟨u, hu, ru⟩ := rv.get hx
    have hel : e < s.heap.objs.size := Heap.lt_size he
    have hil : it < s.heap.objs.size := by obtain ⟨_, q, _⟩ := hit; exact Heap.lt_size q
    obtain ⟨ot, hot, hct, nt, hdt⟩ := id p
    have hta : a ≠ it := fun z => by
      obtain ⟨oi, q1, q2, q3⟩ := hit
      rw [← z, hot] at q1; cases q1
      rw [hdt] at q3; cases q3
    have hea : e ≠ a := fun z => by
      have he' : s.heap.get? e = some _ := he
      rw [z, hot] at he'; cases he'; cases hdt
    have hlt : i < its.toArray.size := by
      have := (List.getElem?_eq_some_iff.mp hu).1
      simpa using this
    have Dr := Draws.tuple (prog := X.prog) (w := X.w) (A := X.A.in1) (show X.A.in1.handled = none from I.ok.hd hc) it a hta its.toArray
    refine wpAny_pyNext_enum_itemD Dr he ⟨hit, (show s.heap.IsTuple a its.toArray from p)⟩ hlt hne (by simp [hne, hea]) fun y h' tk hy ho hit' hT hsz hk => ?_
    have ey : y = u := by
      have hy' : its.toArray[i]? = some y := hy
      have hu' : its.toArray[i]? = some u := by simpa using hu
      rw [hu'] at hy'; cases hy'; rfl
    subst ey
    refine ⟨_, rfl, wpAny_letOwnedTupleGo_enum (s := { s with heap := h', toks := tk + 1 }) ho fun h'' he' sb => ?_⟩
    have hT2 : h''.get? s.heap.objs.size = some { cls := .type "tuple", data := .seq #[.int i tk, y] } := (sb.2 _ (Nat.ne_of_gt hel)).trans hT
    have new : ObjOk X.prog X.w (upd H s.heap.objs.size (.tup [.int (i : Nat), x])) h'' s.heap.objs.size (.tup [.int (i : Nat), x]) :=
      ⟨by show 2 ≤ sizeLine; decide, [.int i tk, y], .cons ⟨_, rfl⟩ (.cons ru .nil), ⟨_, hT2, rfl, _, rfl⟩⟩
    have I1 : Inv X pins σ (upd H s.heap.objs.size (.tup [.int (i : Nat), x])) { s with heap := h'', toks := tk + 1 } :=
      I.turnedNew (ch := [e, it]) (fun b ob hb q => (sb.2 b (fun z => hb (by simp [z]))).trans (hk b ob (fun z => hb (by simp [z])) (fun z => hb (by simp [z])) q)) hf (Nat.le_refl _) new
    refine ⟨.ref s.heap.objs.size, _, I1, rfl, ⟨_, x, rfl, I.hok.fresh (Nat.le_refl _), rfl, fun ys hy => by rw [I.tuple_inj hy hq]; exact hx⟩, ⟨⟨y, ?_⟩, hit'.1.at fun o q => (sb.2 it (Ne.symm hne)).trans q, hne⟩, fun b hb => ?_⟩
    · have e1 : ((i + 1 : Nat) : Int) = (i : Int) + 1 := by omega
      rw [e1]; exact he'
    · have hb' : b < s.heap.objs.size := by
        have e' : b = e ∨ b = it := by simpa using hb
        rcases e' with z | z
        · rw [z]; exact hel
        · rw [z]; exact hil
      rw [upd_ne (Nat.ne_of_lt hb')]
      exact (hf b hb).1
  done := by
    intro X hP hw hK hc i pins s σ H E I hf st hg
    subst hP hw hK
    obtain ⟨⟨old, he⟩, hit, hne⟩ := st
    obtain ⟨xs, hq, hx⟩ := hg
    obtain ⟨its, rv, p, hz⟩ := I.tuple hq
    obtain ⟨f0, f1, f2, f3, f4, f5⟩ := hf it (by simp)
    have hl := rv.length
    obtain ⟨ot, hot, hct, nt, hdt⟩ := id p
    have hta : a ≠ it := fun z => by
      obtain ⟨oi, q1, q2, q3⟩ := hit
      rw [← z, hot] at q1; cases q1
      rw [hdt] at q3; cases q3
    have Dr := Draws.tuple (prog := X.prog) (w := X.w) (A := X.A.in1) (show X.A.in1.handled = none from I.ok.hd hc) it a hta its.toArray
    have hn : its.toArray.size = i := by simp; omega
    exact wpAny_pyNext_enum_endD Dr he ⟨by rw [hn]; exact hit, (show s.heap.IsTuple a its.toArray from p)⟩ fun h' eb => ⟨rfl, I.turned (t' := s.toks) (fun b o hb q => eb b o hb q) f0 f1 f3 f4 f5⟩
  self := fun A i s Q E st h => let ⟨⟨_, he⟩, _⟩ := st; wpAny_pyIter_enum he h
def iEnumT (K : PySem.W.Frag) (ta : TA) : TI := fun σ H R => ta σ H fun vs H1 => ∃ a xs, vs = [.ref a] ∧ SqT K H1 a xs ∧ R (IteT K a) H1
theorem pi_enumT {X : Cx} {e : Expr} {ta : TA} {p pos tpos : Pos} {elts : List Expr} {kk : Nat} (hg : Gl X "enumerate") (hm : X.mg "enumerate" = none) (ha : PA X [e] ta) (hs : starEach [e] X.env = [(false, eval e X.env)] := by rfl) :
    PI X (.Tuple elts kk tpos) (.Call (.Name "enumerate" p) [e] [] pos) (iEnumT X.K ta) := by
  refine ⟨fun pins s σ H R I h => ?_⟩
  refine PyProof.Rows.Call_ (ld_blt I hg hm PyProof.Rows.boot_enumerate (PyProof.Rows.callWith_type1 (thn (ha.run pos pins s σ H _ I h) fun us s1 ⟨vs, H1, I1, r1, q1⟩ => ?_) hs rfl))
  obtain ⟨a, xs, ex, hq, q⟩ := q1
  subst ex
  cases r1 with
  | cons r rr =>
    cases rr
    cases r
    obtain ⟨its, rv, p', hz⟩ := I1.tuple hq
    refine enum_begins1 (begins_tuple a its.toArray) (show s1.heap.IsTuple a its.toArray from p') fun h' he hit hsz hk => wpAny_pyIter_enum he ?_
    have I2 : Inv X pins σ H1 { s1 with heap := h' } := I1.kept (t' := s1.toks) hk
    refine ⟨s1.heap.objs.size + 1, [s1.heap.objs.size + 1, s1.heap.objs.size], _, _, H1, rfl, I2, turn_enumT a (s1.heap.objs.size + 1) s1.heap.objs.size, ⟨⟨.none, he⟩, ⟨_, hit, rfl, rfl⟩, Nat.succ_ne_self _⟩, fun b hb => ?_, q⟩
    have e' : b = s1.heap.objs.size + 1 ∨ b = s1.heap.objs.size := by simpa using hb
    have hle : s1.heap.objs.size ≤ b := by
      rcases e' with z | z
      · rw [z]; exact Nat.le_add_right _ _
      · rw [z]; exact Nat.le_refl _
    exact I1.fpOk hle (I1.hok.fresh hle)

/-! ### what is walked, by data -/
/-- the walk J gives the data ds, while all outside B stands -/
structure Yl (G : Gd) (B : Addr → Prop) (J : It) (ds : List D) (H1 : Hp) : Prop where
  go : ∀ (B' : Addr → Prop) i H d, (∀ b, B' b → B b ∨ H1 b = none) → Kept B' H1 H → InH B' H → ds[i]? = some d → J.go i H ∧ ∀ x H', J.yld i H x H' → Same H H' ∧ Rp G B' H' x d
  stop : ∀ (B' : Addr → Prop) H, (∀ b, B' b → B b ∨ H1 b = none) → Kept B' H1 H → J.stop ds.length H
def wpI (X : Cx) (tg iter : Expr) : TI := fun σ H R => Wz (∀ (pins : List (Addr × Obj)) (s : Shared), Inv X pins σ H s →
    wpAny (model X.prog X.w) X.A (eval iter X.env) (fun v s1 => wpAny (model X.prog X.w) X.A (pyIter v) (PIE X pins σ tg R) X.xe s1) X.xe s)
theorem pi_wp {X : Cx} {tg iter : Expr} : PI X tg iter (wpI X tg iter) := ⟨fun pins s σ H R I h => h.h pins s I⟩
theorem _root_.L2.PI.to {X : Cx} {tg iter : Expr} {wi : TI} (h : PI X tg iter wi) {σ : L2.St} {H : Hp} {R : It → Hp → Prop} (q : wi σ H R) : wpI X tg iter σ H R := ⟨fun pins s I => h.run pins s σ H R I q⟩
abbrev relI (X : Cx) (B : Addr → Prop) : Hp → It → List D → Prop := fun H J ds => Yl (gd X) B J ds H
abbrev PoI (X : Cx) (W : WX) (A B : Addr → Prop) (σ : L2.St) (ρ : Ev) (c : Nat) (H : Hp) (m : R (List D)) (Q : It → Hp → Prop) : Prop := PoG X W A B σ ρ c H (relI X B) m Q
def PuI (X : Cx) (W : WX) (tg iter : Expr) (ρ : Ev) (m : R (List D)) : Prop := ∀ (A B : Addr → Prop) (c : Nat) (H : Hp) (σ : L2.St) (Q : It → Hp → Prop), RS (gd X) A B c H σ ρ → PoI X W A B σ ρ c H m Q → wpI X tg iter σ H Q
section
variable {G : Gd} {B : Addr → Prop} {H1 : Hp}
theorem yl_list {a : Addr} {xs : List V} {ds : List D} (na : ¬ B a ∨ KSL G.K a xs) (s : SqL G.K H1 a xs) (r : RpAll G B H1 xs ds) : Yl G B (Itl G.K a) ds H1 where
  go := fun B' i H d kB k hB e => by
    obtain ⟨x, hx, rx⟩ := (r.more kB).get e
    have s' := SqL.keepN (naL kB na s) s fun o n z => k a o n z
    refine ⟨⟨xs, x, s', hx⟩, fun y H' ⟨e1, e2⟩ => ?_⟩
    subst e1
    have := e2 xs s'
    rw [hx] at this; cases this
    exact ⟨Same.refl _, rx.keep k⟩
  stop := fun B' H kB k => ⟨xs, SqL.keepN (naL kB na s) s fun o n z => k a o n z, Nat.le_of_eq r.length⟩
theorem yl_tup {a : Addr} {xs : List V} {ds : List D} (na : ¬ B a ∨ KST G.K a xs) (s : SqT G.K H1 a xs) (r : RpAll G B H1 xs ds) : Yl G B (Itt G.K a) ds H1 where
  go := fun B' i H d kB k hB e => by
    obtain ⟨x, hx, rx⟩ := (r.more kB).get e
    have s' := SqT.keepN (naT kB na s) s fun o n z => k a o n z
    refine ⟨⟨xs, x, s', hx⟩, fun y H' ⟨e1, e2⟩ => ?_⟩
    subst e1
    have := e2 xs s'
    rw [hx] at this; cases this
    exact ⟨Same.refl _, rx.keep k⟩
  stop := fun B' H kB k => ⟨xs, SqT.keepN (naT kB na s) s fun o n z => k a o n z, Nat.le_of_eq r.length⟩
/-- lo, lo + 1, .. -/
def rangeD (lo : Int) (n : Nat) : List D := (List.range n).map fun (i : Nat) => .int (lo + i)
theorem rangeD_get {lo : Int} {n i : Nat} {d : D} (h : (rangeD lo n)[i]? = some d) : i < n ∧ d = .int (lo + i) := by
  unfold rangeD at h
  rw [List.getElem?_map] at h
  by_cases hi : i < n
  · rw [List.getElem?_range hi] at h
    cases h
    exact ⟨hi, rfl⟩
  · rw [List.getElem?_eq_none (by simpa using hi)] at h
    cases h
theorem rangeD_length {lo : Int} {n : Nat} : (rangeD lo n).length = n := by simp [rangeD]
theorem yl_range {lo : Int} {n : Nat} : Yl G B (Itr lo n) (rangeD lo n) H1 where
  go := fun B' i H d kB k hB e => by
    obtain ⟨hi, rfl⟩ := rangeD_get e
    refine ⟨hi, fun y H' ⟨e1, e2⟩ => ?_⟩
    subst e1 e2
    exact ⟨Same.refl _, .int _⟩
  stop := fun B' H kB k => by rw [rangeD_length]; exact Nat.le_refl _
def rangeC (lo c : Int) (n : Nat) : List D := (List.range n).map fun (i : Nat) => .int (lo + i * c)
theorem rangeC_get {lo c : Int} {n i : Nat} {d : D} (h : (rangeC lo c n)[i]? = some d) : i < n ∧ d = .int (lo + i * c) := by
  unfold rangeC at h
  rw [List.getElem?_map] at h
  by_cases hi : i < n
  · rw [List.getElem?_range hi] at h
    cases h
    exact ⟨hi, rfl⟩
  · rw [List.getElem?_eq_none (by simpa using hi)] at h
    cases h
theorem yl_rangeC {lo c : Int} {n : Nat} : Yl G B (Itc lo c n) (rangeC lo c n) H1 where
  go := fun B' i H d kB k hB e => by
    obtain ⟨hi, rfl⟩ := rangeC_get e
    refine ⟨hi, fun y H' ⟨e1, e2⟩ => ?_⟩
    subst e1 e2
    exact ⟨Same.refl _, .int _⟩
  stop := fun B' H kB k => by rw [show (rangeC lo c n).length = n by simp [rangeC]]; exact Nat.le_refl _
/-- pairs with their places -/
def enumD (xs : List D) : List D := xs.mapIdx fun i x => .tuple [.int (i : Nat), x]
theorem enumD_get {xs : List D} {i : Nat} {d : D} (h : (enumD xs)[i]? = some d) : ∃ x, xs[i]? = some x ∧ d = .tuple [.int (i : Nat), x] := by
  unfold enumD at h
  rw [List.getElem?_mapIdx] at h
  cases e : xs[i]? with
  | none => rw [e] at h; cases h
  | some x => rw [e] at h; cases h; exact ⟨x, rfl, rfl⟩
theorem new_pair {B : Addr → Prop} {H : Hp} {T : Addr} {x y : V} {d e : D} (hB : InH B H) (hT : H T = none) (rx : Rp G B H x d) (ry : Rp G B H y e) : Same H (upd H T (.tup [x, y])) ∧ Rp G B (upd H T (.tup [x, y])) (.ref T) (.tuple [d, e]) :=
  ⟨same_upd hT, .tup (.inl (nav_of hB hT)) (.of upd_same) (.cons (rx.same (same_upd hT)) (.cons (ry.same (same_upd hT)) .nil))⟩
theorem yl_enumL {a : Addr} {xs : List V} {ds : List D} (na : ¬ B a ∨ KSL G.K a xs) (s : SqL G.K H1 a xs) (r : RpAll G B H1 xs ds) : Yl G B (Ite G.K a) (enumD ds) H1 where
  go := fun B' i H d kB k hB e => by
    obtain ⟨d, e0, rfl⟩ := enumD_get e
    obtain ⟨x, hx, rx⟩ := (r.more kB).get e0
    have s' := SqL.keepN (naL kB na s) s fun o n z => k a o n z
    refine ⟨⟨xs, x, s', hx⟩, fun y H' ⟨T, x', e1, e2, e3, e4⟩ => ?_⟩
    subst e1 e3
    have := e4 xs s'
    rw [hx] at this; cases this
    exact new_pair hB e2 (.int _) (rx.keep k)
  stop := fun B' H kB k => ⟨xs, SqL.keepN (naL kB na s) s fun o n z => k a o n z, by simp [enumD, r.length]⟩
theorem yl_enumT {a : Addr} {xs : List V} {ds : List D} (na : ¬ B a ∨ KST G.K a xs) (s : SqT G.K H1 a xs) (r : RpAll G B H1 xs ds) : Yl G B (IteT G.K a) (enumD ds) H1 where
  go := fun B' i H d kB k hB e => by
    obtain ⟨d, e0, rfl⟩ := enumD_get e
    obtain ⟨x, hx, rx⟩ := (r.more kB).get e0
    have s' := SqT.keepN (naT kB na s) s fun o n z => k a o n z
    refine ⟨⟨xs, x, s', hx⟩, fun y H' ⟨T, x', e1, e2, e3, e4⟩ => ?_⟩
    subst e1 e3
    have := e4 xs s'
    rw [hx] at this; cases this
    exact new_pair hB e2 (.int _) (rx.keep k)
  stop := fun B' H kB k => ⟨xs, SqT.keepN (naT kB na s) s fun o n z => k a o n z, by simp [enumD, r.length]⟩
def zipD (xs ys : List D) : List D := List.zipWith (fun x y => .tuple [x, y]) xs ys
theorem zipD_get {xs ys : List D} {i : Nat} {d : D} (h : (zipD xs ys)[i]? = some d) : ∃ x y, xs[i]? = some x ∧ ys[i]? = some y ∧ d = .tuple [x, y] := by
  unfold zipD at h
  rw [List.getElem?_zipWith] at h
  cases e : xs[i]? with
  | none => rw [e] at h; cases h
  | some x =>
    cases e' : ys[i]? with
    | none => rw [e, e'] at h; cases h
    | some y => rw [e, e'] at h; cases h; exact ⟨x, y, rfl, rfl, rfl⟩
theorem yl_zipL {a b : Addr} {xs ys : List V} {ds es : List D} (na : ¬ B a ∨ KSL G.K a xs) (nb : ¬ B b ∨ KSL G.K b ys) (s : SqL G.K H1 a xs) (r : RpAll G B H1 xs ds) (s2 : SqL G.K H1 b ys) (r2 : RpAll G B H1 ys es) : Yl G B (Itz G.K a b) (zipD ds es) H1 where
  go := fun B' i H d kB k hB e => by
    obtain ⟨d, d2, e0, e0', rfl⟩ := zipD_get e
    obtain ⟨x, hx, rx⟩ := (r.more kB).get e0
    obtain ⟨y, hy, ry⟩ := (r2.more kB).get e0'
    have s' := SqL.keepN (naL kB na s) s fun o n z => k a o n z
    have s2' := SqL.keepN (naL kB nb s2) s2 fun o n z => k b o n z
    refine ⟨⟨xs, ys, x, y, s', s2', hx, hy⟩, fun v H' ⟨T, x', y', e1, e2, e3, e4, e5⟩ => ?_⟩
    subst e1 e3
    have h4 := e4 xs s'
    have h5 := e5 ys s2'
    rw [hx] at h4; cases h4
    rw [hy] at h5; cases h5
    exact new_pair hB e2 (rx.keep k) (ry.keep k)
  stop := fun B' H kB k => ⟨xs, ys, SqL.keepN (naL kB na s) s fun o n z => k a o n z, SqL.keepN (naL kB nb s2) s2 fun o n z => k b o n z, by
    rw [r.length, r2.length]
    simp [zipD]
    omega⟩
theorem yl_zipT {a b : Addr} {xs ys : List V} {ds es : List D} (na : ¬ B a ∨ KST G.K a xs) (nb : ¬ B b ∨ KST G.K b ys) (s : SqT G.K H1 a xs) (r : RpAll G B H1 xs ds) (s2 : SqT G.K H1 b ys) (r2 : RpAll G B H1 ys es) : Yl G B (RZ.ItzT G.K a b) (zipD ds es) H1 where
  go := fun B' i H d kB k hB e => by
    obtain ⟨d, d2, e0, e0', rfl⟩ := zipD_get e
    obtain ⟨x, hx, rx⟩ := (r.more kB).get e0
    obtain ⟨y, hy, ry⟩ := (r2.more kB).get e0'
    have s' := SqT.keepN (naT kB na s) s fun o n z => k a o n z
    have s2' := SqT.keepN (naT kB nb s2) s2 fun o n z => k b o n z
    refine ⟨⟨xs, ys, x, y, s', s2', hx, hy⟩, fun v H' ⟨T, x', y', e1, e2, e3, e4, e5⟩ => ?_⟩
    subst e1 e3
    have h4 := e4 xs s'
    have h5 := e5 ys s2'
    rw [hx] at h4; cases h4
    rw [hy] at h5; cases h5
    exact new_pair hB e2 (rx.keep k) (ry.keep k)
  stop := fun B' H kB k => ⟨xs, ys, SqT.keepN (naT kB na s) s fun o n z => k a o n z, SqT.keepN (naT kB nb s2) s2 fun o n z => k b o n z, by
    rw [r.length, r2.length]
    simp [zipD]
    omega⟩
end
def pSeq : D → Option (List D)
  | .list xs => some xs
  | .tuple xs => some xs
  | _ => none
def pEnum : D → Option (List D)
  | .list xs => some (enumD xs)
  | .tuple xs => some (enumD xs)
  | _ => none
def pZip : D → D → Option (List D)
  | .list xs, .list ys => some (zipD xs ys)
  | .tuple xs, .tuple ys => some (zipD xs ys)
  | _, _ => none
noncomputable def pRng1 : D → Option (List D)
  | .int j => cIf (-(2 ^ 62) ≤ j ∧ j < 2 ^ 62) (some (rangeD 0 j.toNat)) none
  | _ => none
noncomputable def pRng2 : D → D → Option (List D)
  | .int i, .int j => cIf (-(2 ^ 62) ≤ i ∧ i < 2 ^ 62 ∧ -(2 ^ 62) ≤ j ∧ j < 2 ^ 62) (some (rangeD i (j - i).toNat)) none
  | _, _ => none
section
variable {X : Cx} {W : WX} {ρ : Ev} {pos p : Pos} {tg a b c : Expr} {ma mb mc : R D}
/-- a list or a tuple is walked -/
theorem pi_seqB {l : Expr} {tl : TE} (hl : PE X l tl) : PI X tg l (fun σ H R => tl σ H fun v H1 => ∃ a xs, v = .ref a ∧ ((SqL X.K H1 a xs ∧ R (Itl X.K a) H1) ∨ (SqT X.K H1 a xs ∧ R (Itt X.K a) H1))) := by
  refine ⟨fun pins s σ H R I h => thn (hl.run pins s σ H _ I h) fun v s1 ⟨x, H1, I1, r1, q1⟩ => ?_⟩
  have fr : ∀ b, b ∈ [s1.heap.objs.size] → FpOk X pins H1 b := fun b hb => by
    cases (List.mem_singleton.mp hb)
    exact I1.fpOk (Nat.le_refl _) (I1.hok.fresh (Nat.le_refl _))
  obtain ⟨a, xs, e, q⟩ := q1
  cases e
  cases r1
  rcases q with ⟨hq, q⟩ | ⟨hq, q⟩
  · obtain ⟨_, _, pl, _⟩ := I1.list hq
    exact wpAny_pyIter_list pl.isList ⟨_, [s1.heap.objs.size], _, _, H1, rfl, I1.kept (t' := s1.toks) (fun _ _ e => Heap.get?_push_of_some _ e), turn_list a _, ⟨_, Heap.get?_push_size _ rfl, rfl, rfl⟩, fr, q⟩
  · obtain ⟨its, _, pl, _⟩ := I1.tuple hq
    exact wpAny_pyIter_tuple (show s1.heap.IsTuple a its.toArray from pl) ⟨_, [s1.heap.objs.size], _, _, H1, rfl, I1.kept (t' := s1.toks) (fun _ _ e => Heap.get?_push_of_some _ e), turn_tuple a _, ⟨_, Heap.get?_push_size _ rfl, rfl, rfl⟩, fr, q⟩
theorem pi_seq (h1 : PuE X W a ρ ma) : PuI X W tg a ρ (do let x ← ma; R.of (pSeq x)) := by
  intro A B c0 H σ Q r p
  refine (pi_seqB pe_wp).to ?_
  refine h1.step r p fun c1 dx x H1 k1 rx r1 p1 => ?_
  cases rx with
  | lst na sx rsx => exact ⟨_, _, rfl, .inl ⟨sx, PoG.now p1 r1 (Same.refl H1) (yl_list na sx rsx)⟩⟩
  | tup na sx rsx => exact ⟨_, _, rfl, .inr ⟨sx, PoG.now p1 r1 (Same.refl H1) (yl_tup na sx rsx)⟩⟩
  | _ => exact p1.bad.elim
theorem pi_rng1 (hg : Gl X "range") (hm : X.mg "range" = none) (h1 : PuE X W a ρ ma) (hs : starEach [a] X.env = [(false, eval a X.env)] := by rfl) : PuI X W tg (.Call (.Name "range" p) [a] [] pos) ρ (do let x ← ma; R.of (pRng1 x)) := by
  intro A B c0 H σ Q r p
  refine (pi_range1 hg hm (pa_cons pe_wp pa_nil hs) hs).to ?_
  refine h1.step r p fun c1 dx x H1 k1 rx r1 p1 => ?_
  cases rx with
  | int j =>
    unfold pRng1 cIf at p1
    simp only at p1
    split at p1
    · rename_i hj
      exact ⟨j, rfl, hj.1, hj.2, PoG.now p1 r1 (Same.refl H1) yl_range⟩
    · exact p1.bad.elim
  | _ => exact p1.bad.elim
theorem pi_rng2 (hg : Gl X "range") (hm : X.mg "range" = none) (h1 : PuE X W a ρ ma) (h2 : PuE X W b ρ mb) (hs : starEach [a, b] X.env = [(false, eval a X.env), (false, eval b X.env)] := by rfl) (hs2 : starEach [b] X.env = [(false, eval b X.env)] := by rfl) :
    PuI X W tg (.Call (.Name "range" p) [a, b] [] pos) ρ (do let x ← ma; let y ← mb; R.of (pRng2 x y)) := by
  intro A B c0 H σ Q r p
  refine (pi_range2 hg hm (pa_cons pe_wp (pa_cons pe_wp pa_nil hs2) (by rw [hs, hs2])) hs hs2).to ?_
  refine h1.step r p fun c1 dx x H1 k1 rx r1 p1 => ?_
  refine h2.step (Q := fun y H2 => tNil σ H2 fun xs H3 => ∃ i j : Int, x :: y :: xs = [.int i, .int j] ∧ (-(2 ^ 62) ≤ i ∧ i < 2 ^ 62 ∧ -(2 ^ 62) ≤ j ∧ j < 2 ^ 62) ∧ Q (Itr i (j - i).toNat) H3) r1 p1 fun c2 dy y H2 k2 ry r2 p2 => ?_
  cases rx with
  | int i =>
    cases ry with
    | int j =>
      unfold pRng2 cIf at p2
      simp only at p2
      split at p2
      · rename_i hj
        exact ⟨i, j, rfl, hj, PoG.now p2 r2 (Same.refl H2) yl_range⟩
      · exact p2.bad.elim
    | _ => exact p2.bad.elim
  | _ => cases dy <;> exact p2.bad.elim
/-- enumerate over a list or a tuple -/
theorem pi_enumB {e : Expr} {ta : TA} {tpos : Pos} {elts : List Expr} {kk : Nat} (hg : Gl X "enumerate") (hm : X.mg "enumerate" = none) (ha : PA X [e] ta) (hs : starEach [e] X.env = [(false, eval e X.env)] := by rfl) :
    PI X (.Tuple elts kk tpos) (.Call (.Name "enumerate" p) [e] [] pos) (fun σ H R => ta σ H fun vs H1 => ∃ a xs, vs = [.ref a] ∧ ((SqL X.K H1 a xs ∧ R (Ite X.K a) H1) ∨ (SqT X.K H1 a xs ∧ R (IteT X.K a) H1))) := by
  refine ⟨fun pins s σ H R I h => ?_⟩
  refine PyProof.Rows.Call_ (ld_blt I hg hm PyProof.Rows.boot_enumerate (PyProof.Rows.callWith_type1 (thn (ha.run pos pins s σ H _ I h) fun us s1 ⟨vs, H1, I1, r1, q1⟩ => ?_) hs rfl))
  have fr : ∀ b, b ∈ [s1.heap.objs.size + 1, s1.heap.objs.size] → FpOk X pins H1 b := fun b hb => by
    have hle : s1.heap.objs.size ≤ b := by
      rcases (by simpa using hb : b = s1.heap.objs.size + 1 ∨ b = s1.heap.objs.size) with z | z
      · rw [z]; exact Nat.le_add_right _ _
      · rw [z]; exact Nat.le_refl _
    exact I1.fpOk hle (I1.hok.fresh hle)
  obtain ⟨a, xs, ex, q⟩ := q1
  subst ex
  cases r1 with
  | cons r rr =>
    cases rr
    cases r
    rcases q with ⟨hq, q⟩ | ⟨hq, q⟩
    · obtain ⟨its, rv, p', hz⟩ := I1.list hq
      refine call_enumerate_list p'.isList fun h' he hit hsz hk => wpAny_pyIter_enum he ?_
      exact ⟨_, [s1.heap.objs.size + 1, s1.heap.objs.size], _, _, H1, rfl, I1.kept (t' := s1.toks) hk, turn_enum a (s1.heap.objs.size + 1) s1.heap.objs.size, ⟨⟨.none, he⟩, hit, Nat.succ_ne_self _⟩, fr, q⟩
    · obtain ⟨its, rv, p', hz⟩ := I1.tuple hq
      refine enum_begins1 (begins_tuple a its.toArray) (show s1.heap.IsTuple a its.toArray from p') fun h' he hit hsz hk => wpAny_pyIter_enum he ?_
      exact ⟨_, [s1.heap.objs.size + 1, s1.heap.objs.size], _, _, H1, rfl, I1.kept (t' := s1.toks) hk, turn_enumT a (s1.heap.objs.size + 1) s1.heap.objs.size, ⟨⟨.none, he⟩, ⟨_, hit, rfl, rfl⟩, Nat.succ_ne_self _⟩, fr, q⟩
theorem pi_enum' {elts : List Expr} {kk : Nat} {tpos p pos : Pos} (hg : Gl X "enumerate") (hm : X.mg "enumerate" = none) (h1 : PuE X W a ρ ma) (hs : starEach [a] X.env = [(false, eval a X.env)] := by rfl) :
    PuI X W (.Tuple elts kk tpos) (.Call (.Name "enumerate" p) [a] [] pos) ρ (do let x ← ma; R.of (pEnum x)) := by
  intro A B c0 H σ Q r p'
  refine (pi_enumB hg hm (pa_cons pe_wp pa_nil hs) hs).to ?_
  refine h1.step r p' fun c1 dx x H1 k1 rx r1 p1 => ?_
  cases rx with
  | lst na sx rsx => exact ⟨_, _, rfl, .inl ⟨sx, PoG.now p1 r1 (Same.refl H1) (yl_enumL na sx rsx)⟩⟩
  | tup na sx rsx => exact ⟨_, _, rfl, .inr ⟨sx, PoG.now p1 r1 (Same.refl H1) (yl_enumT na sx rsx)⟩⟩
  | _ => exact p1.bad.elim
theorem pi_zip' {elts : List Expr} {kk : Nat} {tpos : Pos} (hg : Gl X "zip") (hm : X.mg "zip" = none) (h1 : PuE X W a ρ ma) (h2 : PuE X W b ρ mb) (hs : starEach [a, b] X.env = (false, eval a X.env) :: starEach [b] X.env := by first | exact se_of (fun _ _ h => nomatch h) | rfl) (hs2 : starEach [b] X.env = [(false, eval b X.env)] := by rfl)
    (hpl : (backTo pos (starEach [b] X.env)).any (·.1) = false := by first | exact pl_of (by rfl) | rfl) :
    PuI X W (.Tuple elts kk tpos) (.Call (.Name "zip" p) [a, b] [] pos) ρ (do let x ← ma; let y ← mb; R.of (pZip x y)) := by
  intro A B c0 H σ Q r p
  refine (RZ.pi_zipA hg hm (pa_cons pe_wp (pa_cons pe_wp pa_nil hs2) hs) hs hpl).to ?_
  refine h1.step r p fun c1 dx x H1 k1 rx r1 p1 => ?_
  refine h2.step (Q := fun y H2 => tNil σ H2 fun zs H3 => ∃ a b xs ys, x :: y :: zs = [.ref a, .ref b] ∧ ((SqL X.K H3 a xs ∧ SqL X.K H3 b ys ∧ Q (Itz X.K a b) H3) ∨ (SqT X.K H3 a xs ∧ SqT X.K H3 b ys ∧ Q (RZ.ItzT X.K a b) H3))) r1 p1 fun c2 dy y H2 k2 ry r2 p2 => ?_
  have rx2 := rx.kx k2
  cases rx2 with
  | lst na sx rsx =>
    cases ry with
    | lst nb sy rsy => exact ⟨_, _, _, _, rfl, .inl ⟨sx, sy, PoG.now p2 r2 (Same.refl H2) (yl_zipL na nb sx rsx sy rsy)⟩⟩
    | _ => exact p2.bad.elim
  | tup na sx rsx =>
    cases ry with
    | tup nb sy rsy => exact ⟨_, _, _, _, rfl, .inr ⟨sx, sy, PoG.now p2 r2 (Same.refl H2) (yl_zipT na nb sx rsx sy rsy)⟩⟩
    | _ => exact p2.bad.elim
  | _ => cases dy <;> exact p2.bad.elim
end
end Pu

set_option maxHeartbeats 2000000
/-! P5: targets, list comprehensions. -/
namespace Pu
open PySem PySem.Spec L2

/-! ### targets -/
def wpG (X : Cx) (tg : Expr) : TG := fun v σ H Q => Wz (∀ (pins : List (Addr × Obj)) (s : Shared) (u : Value), Inv X pins σ H s → RelV v u →
    wpAny (model X.prog X.w) X.A (assign tg X.env u) (fun _ s' => ∃ σ' H', Inv X pins σ' H' s' ∧ Q σ' H') X.xe s)
theorem pg_wp {X : Cx} {tg : Expr} : PG X tg (wpG X tg) := ⟨fun pins s σ H v u Q I r h => h.h pins s u I r⟩
theorem _root_.L2.PG.to {X : Cx} {tg : Expr} {g : TG} (h : PG X tg g) {v : V} {σ : L2.St} {H : Hp} {Q : L2.St → Hp → Prop} (q : g v σ H Q) : wpG X tg v σ H Q := ⟨fun pins s u I r => h.run pins s σ H v u Q I r q⟩
def wpGs (X : Cx) (ts : List Expr) : TGs := fun vs σ H Q => Wz (∀ (pins : List (Addr × Obj)) (s : Shared) (us : List Value), Inv X pins σ H s → Vals vs us →
    wpAny (model X.prog X.w) X.A (assignInOrder ((assignEach ts X.env).map (·.2)) us) (fun _ s' => ∃ σ' H', Inv X pins σ' H' s' ∧ Q σ' H') X.xe s)
theorem pgs_wp {X : Cx} {ts : List Expr} : PGs X ts (wpGs X ts) := ⟨fun pins s σ H v u Q I r h => h.h pins s u I r⟩
theorem _root_.L2.PGs.to {X : Cx} {ts : List Expr} {g : TGs} (h : PGs X ts g) {vs : List V} {σ : L2.St} {H : Hp} {Q : L2.St → Hp → Prop} (q : g vs σ H Q) : wpGs X ts vs σ H Q := ⟨fun pins s u I r => h.run pins s σ H vs u Q I r q⟩
/-- only the slots sl changed -/
def OnlyS (sl : List Nat) (σ σ' : L2.St) : Prop := σ'.length = σ.length ∧ ∀ j, j ∉ sl → σ'[j]? = σ[j]?
theorem OnlyS.refl {sl : List Nat} {σ : L2.St} : OnlyS sl σ σ := ⟨rfl, fun _ _ => rfl⟩
/-- the target takes the data d apart (dec), the slots are then env -/
def PuG (X : Cx) (tg : Expr) {T : Type} (sl : List Nat) (dec : D → Option T) (env : T → Ev → Ev) : Prop :=
  ∀ (A B : Addr → Prop) (c : Nat) (H : Hp) (σ : L2.St) (ρ : Ev) (v : V) (d : D) (t : T) (Q : L2.St → Hp → Prop), RS (gd X) A B c H σ ρ → Rp (gd X) B H v d → dec d = some t → (∀ i ∈ sl, i < ρ.length) →
    (∀ σ', RS (gd X) A B c H σ' (env t ρ) → OnlyS sl σ σ' → Q σ' H) → wpG X tg v σ H Q
def PuGs (X : Cx) (ts : List Expr) {T : Type} (sl : List Nat) (dec : List D → Option T) (env : T → Ev → Ev) : Prop :=
  ∀ (A B : Addr → Prop) (c : Nat) (H : Hp) (σ : L2.St) (ρ : Ev) (vs : List V) (ds : List D) (t : T) (Q : L2.St → Hp → Prop), RS (gd X) A B c H σ ρ → RpAll (gd X) B H vs ds → dec ds = some t → (∀ i ∈ sl, i < ρ.length) →
    (∀ σ', RS (gd X) A B c H σ' (env t ρ) → OnlyS sl σ σ' → Q σ' H) → wpGs X ts vs σ H Q
def decN (d : D) : Option D := some d
def envN (i : Nat) (d : D) (ρ : Ev) : Ev := ρ.set i (.pu d)
def decNil : List D → Option Unit
  | [] => some ()
  | _ => none
def envNil (_ : Unit) (ρ : Ev) : Ev := ρ
def decCons {T U : Type} (f : D → Option T) (g : List D → Option U) : List D → Option (T × U)
  | d :: ds => match f d, g ds with
    | some t, some u => some (t, u)
    | _, _ => none
  | [] => none
def envCons {T U : Type} (f : T → Ev → Ev) (g : U → Ev → Ev) (t : T × U) (ρ : Ev) : Ev := g t.2 (f t.1 ρ)
def decTup {T : Type} (g : List D → Option T) : D → Option T
  | .tuple ds => g ds
  | _ => none
/-- what an assignment to the slots sl leaves as it was -/
def KeepEv (sl : List Nat) (f : Ev → Ev) : Prop := ∀ ρ : Ev, (f ρ).length = ρ.length ∧ (∀ j, j ∉ sl → (f ρ)[j]? = ρ[j]?) ∧ ∀ (j : Nat) (a : Addr), (f ρ)[j]? = some (Slot.jar a) → ρ[j]? = some (Slot.jar a)
section
variable {X : Cx} {pos : Pos}
theorem g_name (i : Nat) {x : Str} (hN : X.N.Nodup) (hi : X.N[i]? = some x := by rfl) (hx : Loc X.env.scope x := by first | exact Or.inl rfl | exact Or.inr rfl) (hf : X.fn x = true ∨ X.env.scope.names.lookup x = some .local := by first | exact .inl rfl | exact .inr rfl | assumption) :
    PuG X (.Name x pos) [i] decN (envN i) := by
  intro A B c H σ ρ v d t Q r rv e hs q
  cases e
  refine (pg_name hN hi hx hf).to (q _ (r.put (hs i (by simp)) rv) ⟨by simp, fun j hj => ?_⟩)
  rw [List.getElem?_set_ne]
  intro z
  exact hj (by simp [z])
theorem gs_nil : PuGs X [] [] decNil envNil := by
  intro A B c H σ ρ vs ds t Q r rv e hs q
  cases ds with
  | nil =>
    cases rv
    cases e
    exact pgs_nil.to ⟨rfl, q σ r OnlyS.refl⟩
  | cons _ _ => cases e
theorem gs_cons {e : Expr} {es : List Expr} {T U : Type} {s1 s2 : List Nat} {f : D → Option T} {g : List D → Option U} {ef : T → Ev → Ev} {eg : U → Ev → Ev} (h1 : PuG X e s1 f ef) (h2 : PuGs X es s2 g eg) (hk : ∀ t, KeepEv s1 (ef t))
    (hs : (assignEach (e :: es) X.env).map (·.2) = assign e X.env :: (assignEach es X.env).map (·.2) := by rfl) : PuGs X (e :: es) (s1 ++ s2) (decCons f g) (envCons ef eg) := by
  intro A B c H σ ρ vs ds t Q r rv ed hsl q
  cases ds with
  | nil => cases ed
  | cons d ds =>
    cases rv with
    | cons rv rvs =>
      rename_i v vs
      cases h1d : f d with
      | none => simp [decCons, h1d] at ed
      | some t1 =>
        cases h2d : g ds with
        | none => simp [decCons, h1d, h2d] at ed
        | some t2 =>
          simp [decCons, h1d, h2d] at ed
          subst ed
          refine (pgs_cons pg_wp pgs_wp hs).to ⟨v, vs, rfl, ?_⟩
          refine h1 A B c H σ ρ v d t1 _ r rv h1d (fun i hi => hsl i (by simp [hi])) fun σ1 r1 o1 => ?_
          refine h2 A B c H σ1 (ef t1 ρ) vs ds t2 _ r1 rvs h2d (fun i hi => by rw [(hk t1 ρ).1]; exact hsl i (by simp [hi])) fun σ2 r2 o2 => q σ2 r2 ⟨o2.1.trans o1.1, fun j hj => ?_⟩
          · rw [o2.2 j fun z => hj (by simp [z]), o1.2 j fun z => hj (by simp [z])]
theorem g_tup {es : List Expr} {k : Nat} {T : Type} {sl : List Nat} {g : List D → Option T} {eg : T → Ev → Ev} {n : Nat} (hc : X.calm = true) (h : PuGs X es sl g eg) (hlen : ∀ ds t, g ds = some t → ds.length = n)
    (hn : (assignEach es X.env).length = n := by rfl) (hst : (assignEach es X.env).findIdx? (·.1) = none := by rfl) : PuG X (.Tuple es k pos) sl (decTup g) eg := by
  intro A B c H σ ρ v d t Q r rv e hs q
  cases rv with
  | @tup a xs ds na sx rsx =>
    have e' : g ds = some t := e
    refine (pg_tup hc pgs_wp hn hst).to ⟨a, xs, rfl, sx, by rw [rsx.length]; exact hlen ds t e', ?_⟩
    exact h A B c H σ ρ xs ds t Q r rsx e' hs q
  | _ => cases e
theorem keep_name (i : Nat) (d : D) : KeepEv [i] (envN i d) := fun ρ => ⟨by simp [envN], fun j h => by
  unfold envN
  rw [List.getElem?_set_ne]
  intro z
  exact h (by simp [z]), fun j a z => by
  rcases getE_set z with ⟨_, z⟩ | ⟨_, z⟩
  · cases z
  · exact z⟩
theorem keep_nil (u : Unit) : KeepEv [] (envNil u) := fun ρ => ⟨rfl, fun _ _ => rfl, fun _ _ z => z⟩
theorem keep_cons {T U : Type} {s1 s2 : List Nat} {ef : T → Ev → Ev} {eg : U → Ev → Ev} (h1 : ∀ t, KeepEv s1 (ef t)) (h2 : ∀ t, KeepEv s2 (eg t)) (t : T × U) : KeepEv (s1 ++ s2) (envCons ef eg t) := fun ρ =>
  ⟨((h2 t.2 _).1).trans (h1 t.1 ρ).1, fun j h => ((h2 t.2 _).2.1 j fun z => h (by simp [z])).trans ((h1 t.1 ρ).2.1 j fun z => h (by simp [z])), fun j a z => (h1 t.1 ρ).2.2 j a ((h2 t.2 _).2.2 j a z)⟩
theorem len_nil (ds : List D) (t : Unit) (h : decNil ds = some t) : ds.length = 0 := by
  cases ds with
  | nil => rfl
  | cons _ _ => cases h
theorem len_cons {T U : Type} {f : D → Option T} {g : List D → Option U} {n : Nat} (h : ∀ ds t, g ds = some t → ds.length = n) (ds : List D) (t : T × U) (e : decCons f g ds = some t) : ds.length = n + 1 := by
  cases ds with
  | nil => cases e
  | cons d ds =>
    cases h2d : g ds with
    | none => cases h1d : f d <;> simp [decCons, h1d, h2d] at e
    | some u => rw [List.length_cons, h ds u h2d]
end

/-! ### a comprehension's block -/
def wipeE (ρ : Ev) : List Nat → Ev
  | [] => ρ
  | v :: vs => (wipeE ρ vs).set v .no
theorem wipeE_length (ρ : Ev) : ∀ vs, (wipeE ρ vs).length = ρ.length
  | [] => rfl
  | v :: vs => by unfold wipeE; rw [List.length_set, wipeE_length ρ vs]
theorem wipeE_get {ρ : Ev} : ∀ {vs : List Nat} {i : Nat} {s : Slot}, (wipeE ρ vs)[i]? = some s → s = .no ∨ (ρ[i]? = some s ∧ i ∉ vs)
  | [], i, s, h => .inr ⟨h, by simp⟩
  | v :: vs, i, s, h => by
    unfold wipeE at h
    rcases getE_set h with ⟨_, z⟩ | ⟨hi, z⟩
    · exact .inl z
    · rcases wipeE_get z with y | ⟨y, n⟩
      · exact .inl y
      · exact .inr ⟨y, by simp [hi, n]⟩
theorem wipe_get (σ : L2.St) : ∀ (vs : List Nat) (j : Nat), (wipe σ vs)[j]? = if j ∈ vs then (if j < σ.length then some none else none) else σ[j]?
  | [], j => by simp [wipe]
  | v :: vs, j => by
    unfold wipe
    by_cases hj : v = j
    · subst hj
      rw [List.getElem?_set]
      simp [wipe_length]
    · rw [List.getElem?_set_ne hj, wipe_get σ vs j]
      have : (j ∈ v :: vs) ↔ j ∈ vs := by simp; intro z; exact absurd z.symm hj
      simp only [this]
theorem wipe_only {σ σ' : L2.St} {sl vs : List Nat} (h : OnlyS sl (wipe σ vs) σ') (hs : ∀ i ∈ sl, i ∈ vs) : wipe σ' vs = wipe σ vs := by
  apply List.ext_getElem?
  intro j
  rw [wipe_get, wipe_get]
  have hl : σ'.length = σ.length := h.1.trans (wipe_length σ vs)
  by_cases hj : j ∈ vs
  · simp only [hj, if_true, hl]
  · simp only [hj, if_false]
    rw [h.2 j fun z => hj (hs j z), wipe_get]
    simp only [hj, if_false]
theorem RS.wipe {G : Gd} {A B : Addr → Prop} {c : Nat} {H : Hp} {σ : L2.St} {ρ : Ev} (r : RS G A B c H σ ρ) (vs : List Nat) : RS G A B c H (L2.wipe σ vs) (wipeE ρ vs) := by
  have hg : ∀ (i : Nat) (v : V), i ∉ vs → σ[i]? = some (some v) → (L2.wipe σ vs)[i]? = some (some v) := fun i v n e => by
    rw [wipe_get]; simp only [n, if_false]; exact e
  refine ⟨fun i s h => ?_, fun i a d h => ?_, fun i a h => ?_, fun i j a s t h1 h2 e1 e2 => ?_, r.sub, r.dom, (by rw [wipe_length, wipeE_length]; exact r.len), r.cm⟩
  · rcases wipeE_get h with z | ⟨z, n⟩
    · subst z; trivial
    · rw [wipe_get]; simp only [n, if_false]; exact r.ro i s z
  · rcases wipeE_get h with z | ⟨z, n⟩
    · cases z
    · obtain ⟨e, rest⟩ := r.ce i a d z
      exact ⟨hg i _ n e, rest⟩
  · rcases wipeE_get h with z | ⟨z, n⟩
    · cases z
    · obtain ⟨e, rest⟩ := r.jr i a z
      exact ⟨hg i _ n e, rest⟩
  · rcases wipeE_get h1 with z | ⟨z, _⟩
    · subst z; cases e1
    · rcases wipeE_get h2 with z' | ⟨z', _⟩
      · subst z'; cases e2
      · exact r.inj i j a s t z z' e1 e2
/-- what B may be enlarged by: places that are not tracked -/
theorem RS.more {G : Gd} {A B B' : Addr → Prop} {c : Nat} {H H' : Hp} {σ : L2.St} {ρ : Ev} (r : RS G A B c H σ ρ) (s : Same H H') (h1 : ∀ a, B a → B' a) (h2 : ∀ a, B' a → B a ∨ (H a = none ∧ ∃ o, H' a = some o)) : RS G A B' c H' σ ρ := by
  have up : ∀ {v d}, Rp G B H v d → Rp G B' H' v d := fun {v d} q => (q.more fun a z => (h2 a z).imp id fun y => y.1).keep (Same.kept s)
  have upA : ∀ {v d}, RpAll G B H v d → RpAll G B' H' v d := fun {v d} q => (q.more fun a z => (h2 a z).imp id fun y => y.1).keep (Same.kept s)
  refine ⟨fun i s0 h => ((r.ro i s0 h).more fun a z => (h2 a z).imp id fun y => y.1).keep (Same.kept s), fun i a d h => ?_, fun i a h => ?_, r.inj, fun a z => h1 a (r.sub a z), fun a z => ?_, r.len, r.cm⟩
  · obtain ⟨e, rv, n, b⟩ := r.ce i a d h
    refine ⟨e, ?_, n, h1 a b⟩
    cases rv with
    | lst q1 q2 => exact .lst (s _ _ q1) (upA q2)
    | dct e1 e2 q1 q2 q3 => exact .dct e1 e2 (q1.keep fun o z => s _ _ z) (upA q2) (upA q3)
  · obtain ⟨e, rv, n, b⟩ := r.jr i a h
    exact ⟨e, rv.keep fun o z => s _ _ z, n, h1 a b⟩
  · rcases h2 a z with y | ⟨_, y⟩
    · exact r.dom.same s a y
    · exact y
/-- an object of the callers, a, is put beside -/
theorem RS.into {G : Gd} {A B : Addr → Prop} {c : Nat} {H H' : Hp} {σ : L2.St} {ρ : Ev} {a : Addr} (r : RS G A B c H σ ρ) (s : Same H H') (h0 : H a = none) (h1 : ∃ o, H' a = some o) : RS G (fun b => A b ∨ b = a) (fun b => B b ∨ b = a) c H' σ ρ := by
  have r' := r.more (B' := fun b => B b ∨ b = a) s (fun b z => .inl z) fun b z => z.imp id fun z => by subst z; exact ⟨h0, h1⟩
  have na : ∀ b, B b → b ≠ a := fun b z y => r.nav h0 (y ▸ z)
  refine ⟨r'.ro, fun i b d h => ?_, fun i b h => ?_, r'.inj, fun b z => z.imp (r.sub b) id, r'.dom, r'.len, r'.cm⟩
  · obtain ⟨e1, e2, e3, e4⟩ := r'.ce i b d h
    exact ⟨e1, e2, fun z => z.elim e3 (na b (r.ce i b d h).2.2.2), e4⟩
  · obtain ⟨e1, e2, e3, e4⟩ := r'.jr i b h
    exact ⟨e1, e2, fun z => z.elim e3 (na b (r.jr i b h).2.2.2), e4⟩
/-- an object of the callers is changed -/
theorem RS.touch {G : Gd} {A B : Addr → Prop} {c : Nat} {H H' : Hp} {σ : L2.St} {ρ : Ev} {a : Addr} (r : RS G A B c H σ ρ) (ha : A a) (k : ∀ b o, b ≠ a → H b = some o → H' b = some o) (h1 : ∃ o, H' a = some o) : RS G A B c H' σ ρ := by
  have kp : Kept B H H' := fun b o n e => k b o (fun z => n (z ▸ r.sub a ha)) e
  refine ⟨fun i s h => (r.ro i s h).keep kp, fun i b d h => ?_, fun i b h => ?_, r.inj, r.sub, fun b z => ?_, r.len, r.cm⟩
  · obtain ⟨e1, e2, e3, e4⟩ := r.ce i b d h
    exact ⟨e1, e2.keep kp fun o z => k b o (fun y => e3 (y ▸ ha)) z, e3, e4⟩
  · obtain ⟨e1, e2, e3, e4⟩ := r.jr i b h
    exact ⟨e1, e2.keep fun o z => k b o (fun y => e3 (y ▸ ha)) z, e3, e4⟩
  · by_cases hb : b = a
    · subst hb; exact h1
    · obtain ⟨o, q⟩ := r.dom b z
      exact ⟨o, k b o hb q⟩
/-- behind a block: its own names are as before, the own objects as the block left them -/
theorem RS.outof {G : Gd} {A B : Addr → Prop} {A' B' : Addr → Prop} {c c' : Nat} {H H' : Hp} {σ : L2.St} {ρ : Ev} {vs : List Nat} (r : RS G A B c H σ ρ) (r' : RS G A' B' c' H' (L2.wipe σ vs) (wipeE ρ vs)) (hb : ∀ b, B b → B' b) (k : Kept B H H')
    (hno : ∀ i, i ∈ vs → ∀ s, ρ[i]? = some s → ownOf s = none) : RS G A B c' H' σ ρ := by
  have get : ∀ {i : Nat} {s : Slot} {a : Addr}, ρ[i]? = some s → ownOf s = some a → (wipeE ρ vs)[i]? = some s := fun {i s a} h e => by
    have hn : i ∉ vs := fun z => by rw [hno i z s h] at e; cases e
    have : ∀ ws : List Nat, i ∉ ws → (wipeE ρ ws)[i]? = some s := fun ws => by
      induction ws with
      | nil => intro _; exact h
      | cons w ws ih =>
        intro hw
        unfold wipeE
        rw [List.getElem?_set_ne fun z => hw (by simp [z])]
        exact ih fun z => hw (by simp [z])
    exact this vs hn
  refine ⟨fun i s h => (r.ro i s h).keep k, fun i a d h => ?_, fun i a h => ?_, r.inj, r.sub, fun a z => r'.dom a (hb a z), r.len, r'.cm⟩
  · obtain ⟨e1, e2, e3, e4⟩ := r.ce i a d h
    exact ⟨e1, (r'.ce i a d (get h rfl)).2.1.sub hb, e3, e4⟩
  · obtain ⟨e1, e2, e3, e4⟩ := r.jr i a h
    exact ⟨e1, (r'.jr i a (get h rfl)).2.1, e3, e4⟩

/-- nothing is raised -/
def R.nx {α : Type} : R α → R α
  | .ok a => .ok a
  | .ch n k => .ch n fun i => R.nx (k i)
  | _ => .bad
@[simp] theorem R.nx_ok {α : Type} (a : α) : R.nx (.ok a) = .ok a := rfl
@[simp] theorem R.nx_bad {α : Type} : R.nx (.bad : R α) = .bad := rfl
@[simp] theorem R.nx_exc {α : Type} (x : Str) (d : Option D) : R.nx (.exc x d : R α) = .bad := rfl
@[simp] theorem R.nx_ch {α : Type} (n : Nat) (k : Nat → R α) : R.nx (.ch n k) = .ch n fun i => R.nx (k i) := rfl
@[simp] theorem R.nx_bind {α β : Type} (m : R α) (f : α → R β) : R.nx (m >>= f) = R.nx m >>= fun a => R.nx (f a) := by
  induction m with
  | ch n k ih => simp only [R.ch_bind, R.nx_ch]; congr 1; funext i; exact ih i
  | _ => rfl
@[simp] theorem R.nx_of {α : Type} (o : Option α) : R.nx (R.of o) = R.of o := by cases o <;> rfl
theorem Po.nx {α : Type} {m : R α} {ok : Nat → α → Prop} {ex ex' : Nat → Str → Option D → Prop} : ∀ {c : Nat}, Po c (R.nx m) ok ex → Po c m ok ex' := by
  induction m with
  | ok a => intro c h; rw [R.nx_ok, Po.ok_] at h; rw [Po.ok_]; exact h
  | exc x d => intro c h; rw [R.nx_exc, Po.bad_] at h; exact h.elim
  | bad => intro c h; rw [R.nx_bad, Po.bad_] at h; exact h.elim
  | ch n k ih =>
    intro c h
    cases c with
    | zero => exact h
    | succ c => exact fun i hi => ih i (h i hi)
/-- the comprehension's items -/
def lcM {T : Type} (dec : D → Option T) (mt : T → R Bool) (me : T → R D) : List D → R (List D)
  | [] => .ok []
  | x :: xs => do
    let t ← R.of (dec x)
    let k ← R.nx (mt t)
    if k = true then (do let y ← R.nx (me t); let ys ← lcM dec mt me xs; R.ok (y :: ys)) else lcM dec mt me xs
/-- the comprehension over ds -/
def lcD {T : Type} (dec : D → Option T) (mt : T → R Bool) (me : T → R D) (ds : List D) : R (List D) := if ds.length ≤ LINE then lcM dec mt me ds else .bad
abbrev W0 : WX := fun _ _ _ _ => False
abbrev Blk (X : Cx) (scope : Scope) (P : Cx → Prop) : Prop := ∀ (s : Shared) (H : Hp) (C : Addr) (cl : List (Str × Addr)) (fp : List Addr), P (X.blk s H scope (compEnvC scope cl C X.env) fp)
def wpTs (X : Cx) (ifs : List Expr) : TT := fun σ H Q => Wz (∀ (pins : List (Addr × Obj)) (s : Shared), Inv X pins σ H s →
    wpAny (model X.prog X.w) X.A (forIn ifs true fun c r => if r = true then do let ok ← isTrue c X.env (eval c X.env); pure (ForInStep.yield ok) else pure (ForInStep.yield r)) (TP X pins σ Q) X.xe s)
def PuTs (X : Cx) (W : WX) (ifs : List Expr) (ρ : Ev) (m : R Bool) : Prop := ∀ (A B : Addr → Prop) (c : Nat) (H : Hp) (σ : L2.St) (Q : Bool → Hp → Prop), RS (gd X) A B c H σ ρ → PoT X W A B σ ρ c H m Q → wpTs X ifs σ H Q
theorem pts_wp {X : Cx} {ifs : List Expr} : PTs X ifs (wpTs X ifs) := ⟨fun pins s σ H Q I h => h.h pins s I⟩
theorem ts_nil {X : Cx} {W : WX} {ρ : Ev} : PuTs X W [] ρ (.ok true) := fun A B c H σ Q r p => ⟨fun pins s I => pts_nil.run pins s σ H Q I (p.now r (Same.refl H) rfl)⟩
theorem ts_one {X : Cx} {W : WX} {ρ : Ev} {c : Expr} {m : R Bool} (h : PuT X W c ρ m) : PuTs X W [c] ρ m := fun A B c H σ Q r p => ⟨fun pins s I => (pts_one pt_wp).run pins s σ H Q I (h A B c H σ Q r p)⟩

section
variable {X : Cx} {W : WX} {ρ : Ev} {pos : Pos}
/-- the readings of a block's parts, whatever the block -/
def bE (X : Cx) (scope : Scope) (e : Expr) : TE := fun σ H Q => Blk X scope fun Y => wpE Y e σ H Q
def bT (X : Cx) (scope : Scope) (ifs : List Expr) : TT := fun σ H Q => Blk X scope fun Y => wpTs Y ifs σ H Q
def bG (X : Cx) (scope : Scope) (tg : Expr) : TG := fun v σ H Q => Blk X scope fun Y => wpG Y tg v σ H Q
/-- the reading of a comprehension, from its parts' mirrors -/
theorem lc_read {T : Type} {sl vs : List Nat} {dec : D → Option T} {env : T → Ev → Ev} {mt : T → R Bool} {me : T → R D} {mi : R (List D)} {elt tg iter : Expr} {ifs : List Expr} {scope : Scope}
    (hi : PuI X W tg iter ρ mi) (hg : Blk X scope fun Y => PuG Y tg sl dec env) (hsl : ∀ i ∈ sl, i ∈ vs) (hlen : ∀ i ∈ vs, i < ρ.length)
    (ht : ∀ t, Blk X scope fun Y => PuTs Y W0 ifs (env t (wipeE ρ vs)) (mt t)) (he : ∀ t, Blk X scope fun Y => PuE Y W0 elt (env t (wipeE ρ vs)) (me t)) (hk : ∀ t, KeepEv sl (env t)) (hno : ∀ i, i ∈ vs → ∀ s, ρ[i]? = some s → ownOf s = none)
    {A B : Addr → Prop} {c : Nat} {H : Hp} {σ : L2.St} {Q : VK} (r : RS (gd X) A B c H σ ρ) (p : PoE X W A B σ ρ c H (do let xs ← mi; let ys ← lcD dec mt me xs; R.ok (.list ys)) Q) :
    tLc (wpI X tg iter) (bG X scope tg) (bT X scope ifs) (bE X scope elt) vs σ H Q := by
  refine hi A B c H σ _ r (p.step fun c1 ds J H1 k1 yl r1 p1 Dn hDn => ?_)
  unfold lcD at p1
  by_cases hl : ds.length ≤ LINE
  rotate_left
  · rw [if_neg hl] at p1; exact p1.bad.elim
  rw [if_pos hl] at p1
  have nD : ¬ B Dn := nav_of r1.dom hDn
  generalize hB' : (fun b => B b ∨ b = Dn) = B'
  generalize hA' : (fun b => A b ∨ b = Dn) = A'
  have bB : ∀ b, B b → B' b := fun b z => by rw [← hB']; exact .inl z
  have bD : B' Dn := by rw [← hB']; exact .inr rfl
  have bc : ∀ b, B' b → B b ∨ b = Dn := fun b z => by rw [← hB'] at z; exact z
  have aA : ∀ b, A b → A' b := fun b z => by rw [← hA']; exact .inl z
  have aD : A' Dn := by rw [← hA']; exact .inr rfl
  have ac : ∀ b, B' b ∧ ¬ A' b → B b ∧ ¬ A b := fun b z => ⟨(bc b z.1).elim id fun y => absurd (y ▸ aD) z.2, fun y => z.2 (aA b y)⟩
  have s0 := same_upd (o := HO.lst []) hDn
  have rs0 : RS (gd X) A' B' c1 (upd H1 Dn (.lst [])) (L2.wipe σ vs) (wipeE ρ vs) := by
    rw [← hB', ← hA']; exact (r1.into s0 hDn ⟨_, upd_same⟩).wipe vs
  -- the way out
  let fin : List D → Nat → List D → Prop := fun ys c'' ws => ∀ v H'', Kx (Aj B ρ) B H1 H'' → RS (gd X) A B c'' H'' σ ρ → Rp (gd X) B H'' v (.list (ys ++ ws)) → Q v H''
  have p2 : Po c1 (lcM dec mt me ds) (fin []) (fun _ _ _ => False) := by
    have p3 : PoG X W A B σ ρ c1 H1 (relE X B) (lcM dec mt me ds >>= fun ys => R.ok (.list ys)) Q := p1
    have ne : ∀ xs, R.nx (lcM dec mt me xs) = lcM dec mt me xs := fun xs => by
      induction xs with
      | nil => rfl
      | cons x xs ih =>
        have i1 : ∀ {β : Type} (m : R β), R.nx (R.nx m) = R.nx m := fun m => by
          induction m with
          | ch n k ih => simp only [R.nx_ch]; congr 1; funext i; exact ih i
          | _ => rfl
        unfold lcM
        simp only [R.nx_bind, R.nx_of, i1]
        congr 1; funext t; congr 1; funext k
        cases k with
        | false => simpa using ih
        | true => simp only [if_true, R.nx_bind, i1, ih, R.nx_ok]
    have p4 := Po.bind p3
    have exf : ∀ {β : Type} {m : R β} {ok : Nat → β → Prop} {ex : Nat → Str → Option D → Prop}, R.nx m = m → ∀ {c : Nat}, Po c m ok ex → Po c m ok (fun _ _ _ => False) := fun {β m ok ex} e {c} q => by rw [← e] at q; exact Po.nx q
    refine Po.mono (fun c' ys q v H'' k r' rv => ?_) (fun _ _ _ q => q) (exf (ne ds) p4)
    rw [Po.ok_] at q
    exact q v H'' k r' (by simpa using rv)
  let Pv : Nat → Hp → Prop := fun i H' => ∃ c' va ys, Kx (Aj B ρ) B H1 H' ∧ RS (gd X) A' B' c' H' (L2.wipe σ vs) (wipeE ρ vs) ∧ H' Dn = some (.lst va) ∧ RpAll (gd X) B' H' va ys ∧ ys.length ≤ i ∧ Po c' (lcM dec mt me (ds.drop i)) (fin ys) (fun _ _ _ => False)
  refine ⟨fun i m H' => m = ds.length - i ∧ i ≤ ds.length ∧ Pv i H', ⟨ds.length, by simp, Nat.zero_le _, c1, [], [], Kx.same s0, rs0, upd_same, .nil, Nat.le_refl _, p2⟩, ?_⟩
  rintro i m H' ⟨rfl, hile, c', va, ys, kH, rs, hDv, rva, hyl, pl⟩
  have kp' : Kept B' H1 H' := fun b o n e => kH.kept b o (fun z => n (bB b z.1)) e
  by_cases hlt : i < ds.length
  · refine .inr ?_
    have hdi : ds[i]? = some ds[i] := by simp [hlt]
    have kB : ∀ b, B' b → B b ∨ H1 b = none := fun b z => (bc b z).imp id fun z => by subst z; exact hDn
    obtain ⟨hgo, hyld⟩ := yl.go B' i H' ds[i] kB kp' rs.dom hdi
    refine ⟨hgo, Pv (i + 1), fun H2 h2 => ⟨ds.length - (i + 1), by omega, rfl, hlt, h2⟩, fun x H2 y => ?_⟩
    obtain ⟨s2, rx⟩ := hyld x H2 y
    rw [List.drop_eq_getElem_cons hlt] at pl
    unfold lcM at pl
    obtain ⟨t, hdec, pl⟩ := Po.ofb pl
    -- what is left behind a part of the turn
    have stay : ∀ {c'' : Nat} {H3 : Hp} {σ2 : L2.St}, RS (gd X) A' B' c'' H3 σ2 (env t (wipeE ρ vs)) → L2.wipe σ2 vs = L2.wipe σ vs → RS (gd X) A' B' c'' H3 (L2.wipe σ vs) (wipeE ρ vs) := fun {c'' H3 σ2} q e => by
      have q' := q.wipe vs
      rw [e] at q'
      refine q'.lose (by rw [wipeE_length, (hk t _).1, wipeE_length]) fun j s hj => ?_
      rcases wipeE_get hj with z | ⟨z, n⟩
      · exact .inl z
      · refine .inr ?_
        have nsl : j ∉ sl := fun y => n (hsl j y)
        have : ∀ ws : List Nat, j ∉ ws → (wipeE (env t (wipeE ρ vs)) ws)[j]? = some s := fun ws => by
          induction ws with
          | nil => intro _; show (env t (wipeE ρ vs))[j]? = some s; rw [(hk t _).2.1 j nsl]; exact hj
          | cons w ws ih =>
            intro hw
            unfold wipeE
            rw [List.getElem?_set_ne fun z => hw (by simp [z])]
            exact ih fun z => hw (by simp [z])
        exact this vs n
    have jin : ∀ b, Slot.jar b ∈ env t (wipeE ρ vs) → Slot.jar b ∈ ρ := fun b z => by
      obtain ⟨i, hi⟩ := mem_get z
      rcases wipeE_get ((hk t _).2.2 i b hi) with y | ⟨y, _⟩
      · cases y
      · exact List.mem_of_getElem? y
    have jnD : Slot.jar Dn ∉ env t (wipeE ρ vs) := fun z => by
      obtain ⟨i, hi⟩ := mem_get (jin _ z)
      exact nD (r1.jr i _ hi).2.2.2
    have kD' : ∀ {Hx Hy : Hp} {o : HO}, Kx (Aj B' (env t (wipeE ρ vs))) B' Hx Hy → Hx Dn = some o → Hy Dn = some o := fun q e => q.kept Dn _ (fun z => z.2 ⟨z.1, jnD⟩) e
    have kx2 : ∀ {H3 : Hp}, Kx (Aj B' (env t (wipeE ρ vs))) B' H2 H3 → Kx (Aj B ρ) B H1 H3 := fun {H3} q => kH.trans ⟨fun b o n e => q.kept b o (fun z => n (by
      have hj : Slot.jar b ∈ env t (wipeE ρ vs) := Classical.byContradiction fun y => z.2 ⟨z.1, y⟩
      exact ⟨(bc b z.1).elim id fun y => absurd (y ▸ hj) jnD, fun y => y.2 (jin b hj)⟩)) (s2 b o e), fun b o e => q.there b o (s2 b o e)⟩
    intro s0 H0 C0 cl0 fp0
    refine hg s0 H0 C0 cl0 fp0 A' B' c' H2 _ _ x ds[i] t _ (rs.ext s2) rx hdec (fun j hj => by rw [wipeE_length]; exact hlen j (hsl j hj)) fun σ2 rs2 os2 => ⟨wipe_only os2 hsl, ?_⟩
    have ew := wipe_only os2 hsl
    intro s1' H1' C1 cl1 fp1
    refine ht t s1' H1' C1 cl1 fp1 A' B' c' H2 σ2 _ rs2 (Po.nx (Po.mono (fun c3 k q b H3 k3 rs3 eb => ?_) (fun _ _ _ q => q) (Po.bind pl)))
    have eb : b = k := eb
    subst eb
    have hD3 : H3 Dn = some (.lst va) := kD' k3 (s2 _ _ hDv)
    have rva3 := (rva.same s2).kx k3
    cases b with
    | false =>
      show if false = true then _ else _
      rw [if_neg Bool.false_ne_true] at q ⊢
      exact ⟨c3, va, ys, kx2 k3, stay rs3 ew, hD3, rva3, Nat.le_succ_of_le hyl, q⟩
    | true =>
      show if true = true then _ else _
      rw [if_pos rfl] at q ⊢
      intro s4' H4' C4 cl4 fp4
      refine he t s4' H4' C4 cl4 fp4 A' B' c3 H3 σ2 _ rs3 (Po.nx (Po.mono (fun c4 yd q yv H4 k4 rs4 ryv => ?_) (fun _ _ _ q => q) (Po.bind q)))
      have hD4 : H4 Dn = some (.lst va) := kD' k4 hD3
      have rva4 := rva3.kx k4
      have kD : Kept B' H4 (upd H4 Dn (.lst (va ++ [yv]))) := fun b o n e => by
        rw [upd_ne (show b ≠ Dn from fun z => n (by rw [z]; exact bD))]; exact e
      have kx4 := kx2 (k3.trans k4)
      refine ⟨va, hD4, by rw [rva4.length, line_eq]; omega, c4, va ++ [yv], ys ++ [yd], ⟨fun b o n e => ?_, fun b o e => ?_⟩, (stay rs4 ew).touch aD (fun b o n e => by rw [upd_ne n]; exact e) ⟨_, upd_same⟩, upd_same, (rva4.keep kD).append (.cons (ryv.keep kD) .nil), by simp; omega, ?_⟩
      · have hbD : b ≠ Dn := fun z => by subst z; rw [hDn] at e; cases e
        rw [upd_ne hbD]
        exact kx4.kept b o n e
      · have hbD : b ≠ Dn := fun z => by subst z; rw [hDn] at e; cases e
        rw [upd_ne hbD]
        exact kx4.there b o e
      · refine Po.mono (fun c5 ws q v H'' k' r' rv => ?_) (fun _ _ _ q => q) (Po.bind q)
        rw [Po.ok_] at q
        exact q v H'' k' r' (by simpa using rv)
  · have ei : i = ds.length := by omega
    subst ei
    refine .inl ⟨yl.stop B H' (fun b z => .inl z) (kH.kp), ?_⟩
    rw [List.drop_length] at pl
    unfold lcM at pl
    rw [Po.ok_] at pl
    exact pl _ _ kH (r1.outof rs bB kH.kp hno) (by rw [List.append_nil]; exact .lst (.inl nD) (.of hDv) (rva.sub bB))
theorem pu_lc {T : Type} {sl : List Nat} {own : List (Str × Nat)} {dec : D → Option T} {env : T → Ev → Ev} {mt : T → R Bool} {me : T → R D} {mi : R (List D)} {elt tg iter : Expr} {ifs : List Expr} {scope : Scope} (L : Lv X) (hN : X.N.Nodup)
    (ok : BlkOk X.N X.env.scope scope own) (hi : PuI X W tg iter ρ mi) (hg : Blk X scope fun Y => PuG Y tg sl dec env) (hsl : ∀ i ∈ sl, i ∈ own.map (·.2)) (hlen : ∀ i ∈ own.map (·.2), i < ρ.length)
    (ht : ∀ t, Blk X scope fun Y => PuTs Y W0 ifs (env t (wipeE ρ (own.map (·.2)))) (mt t)) (he : ∀ t, Blk X scope fun Y => PuE Y W0 elt (env t (wipeE ρ (own.map (·.2)))) (me t))
    (hk : ∀ t, KeepEv sl (env t)) (hno : ∀ i, i ∈ own.map (·.2) → ∀ s, ρ[i]? = some s → ownOf s = none)
    (hfs : ∀ x, foldedSetIterable iter X.env x = pure x := by intro _; rfl) :
    PuE X W (.ListComp elt [⟨tg, iter, ifs, 0⟩] scope pos) ρ (do let xs ← mi; let ys ← lcD dec mt me xs; R.ok (.list ys)) := fun A B c H σ Q r p =>
  (pe_lc L.calm hN pi_wp ok (fun s H C cl fp => ⟨fun pins s' σ' H' v u Q' I rv h => (h s H C cl fp).h pins s' u I rv⟩) (fun s H C cl fp => ⟨fun pins s' σ' H' Q' I h => (h s H C cl fp).h pins s' I⟩) (fun s H C cl fp => ⟨fun pins s' σ' H' Q' I h => (h s H C cl fp).h pins s' I⟩) hfs).to
    (lc_read hi hg hsl hlen ht he hk hno r p)
end
end Pu

set_option maxHeartbeats 2000000
/-! P6: statements, calls. -/
namespace Pu
open PySem PySem.Spec L2

/-- how a block ends: it falls through; break, continue; a value is handed back -/
inductive Fl (α γ β : Type) where
  | nx (a : α)
  | bk (c : γ)
  | ct (c : γ)
  | rt (r : β)
/-- what follows a block that falls through -/
def Fl.then {α δ γ β : Type} (m : R (Fl α γ β)) (f : α → R (Fl δ γ β)) : R (Fl δ γ β) := m >>= fun
  | .nx a => f a
  | .bk c => .ok (.bk c)
  | .ct c => .ok (.ct c)
  | .rt r => .ok (.rt r)
section
variable {α δ γ β : Type}
@[simp] theorem Fl.then_nx (a : α) (f : α → R (Fl δ γ β)) : Fl.then (.ok (.nx a)) f = f a := rfl
@[simp] theorem Fl.then_bk (c : γ) (f : α → R (Fl δ γ β)) : Fl.then (.ok (.bk c)) f = .ok (.bk c) := rfl
@[simp] theorem Fl.then_ct (c : γ) (f : α → R (Fl δ γ β)) : Fl.then (.ok (.ct c)) f = .ok (.ct c) := rfl
@[simp] theorem Fl.then_rt (r : β) (f : α → R (Fl δ γ β)) : Fl.then (.ok (.rt r)) f = .ok (.rt r) := rfl
@[simp] theorem Fl.then_bad (f : α → R (Fl δ γ β)) : Fl.then (.bad) f = .bad := rfl
@[simp] theorem Fl.then_exc (x : Str) (d : Option D) (f : α → R (Fl δ γ β)) : Fl.then (.exc x d) f = .exc x d := rfl
@[simp] theorem Fl.then_ch (n : Nat) (k : Nat → R (Fl α γ β)) (f : α → R (Fl δ γ β)) : Fl.then (.ch n k) f = .ch n fun i => Fl.then (k i) f := rfl
@[simp] theorem Fl.then_bind {ι : Type} (m : R ι) (g : ι → R (Fl α γ β)) (f : α → R (Fl δ γ β)) : Fl.then (m >>= g) f = m >>= fun i => Fl.then (g i) f := by unfold Fl.then; rw [R.bind_assoc]
end
/-- a block that never falls through, among such that do -/
def R.up {α γ β : Type} (m : R (Fl Empty γ β)) : R (Fl α γ β) := m >>= fun
  | .nx a => nomatch a
  | .bk c => .ok (.bk c)
  | .ct c => .ok (.ct c)
  | .rt r => .ok (.rt r)
section
variable {α γ β : Type}
@[simp] theorem R.up_bk (c : γ) : (R.up (.ok (.bk c)) : R (Fl α γ β)) = .ok (.bk c) := rfl
@[simp] theorem R.up_ct (c : γ) : (R.up (.ok (.ct c)) : R (Fl α γ β)) = .ok (.ct c) := rfl
@[simp] theorem R.up_rt (r : β) : (R.up (.ok (.rt r)) : R (Fl α γ β)) = .ok (.rt r) := rfl
@[simp] theorem R.up_bad : (R.up (.bad) : R (Fl α γ β)) = .bad := rfl
@[simp] theorem R.up_exc (x : Str) (d : Option D) : (R.up (.exc x d) : R (Fl α γ β)) = .exc x d := rfl
@[simp] theorem R.up_ch (n : Nat) (k : Nat → R (Fl Empty γ β)) : (R.up (.ch n k) : R (Fl α γ β)) = .ch n fun i => R.up (k i) := rfl
@[simp] theorem R.up_bind {ι : Type} (m : R ι) (g : ι → R (Fl Empty γ β)) : (R.up (m >>= g) : R (Fl α γ β)) = m >>= fun i => R.up (g i) := by unfold R.up; rw [R.bind_assoc]
end

/-- from (B, H) to (B', H'): only own objects were changed, what is new was not there -/
structure Fr (A B : Addr → Prop) (H : Hp) (B' : Addr → Prop) (H' : Hp) : Prop where
  kept : Kept (fun b => B b ∧ ¬ A b) H H'
  new : ∀ b, B' b → B b ∨ H b = none
  there : ∀ b o, H b = some o → ∃ o', H' b = some o'
theorem Fr.refl {A B : Addr → Prop} {H : Hp} : Fr A B H B H := ⟨Kept.refl, fun _ z => .inl z, fun _ o e => ⟨o, e⟩⟩
theorem Fr.trans {A B B1 B2 : Addr → Prop} {H H1 H2 : Hp} (a : Fr A B H B1 H1) (b : Fr A B1 H1 B2 H2) : Fr A B H B2 H2 where
  kept := fun c o n e => b.kept c o (fun z => n ⟨(a.new c z.1).elim id fun y => (by rw [e] at y; cases y), z.2⟩) (a.kept c o n e)
  new := fun c z => (b.new c z).elim (a.new c) fun y => by
    cases e : H c with
    | none => exact .inr rfl
    | some o =>
      obtain ⟨o', q⟩ := a.there c o e
      rw [q] at y; cases y
  there := fun c o e => let ⟨o', q⟩ := a.there c o e; b.there c o' q
theorem Fr.same {A B : Addr → Prop} {H H1 : Hp} (s : Same H H1) : Fr A B H B H1 := ⟨Same.kept s, fun _ z => .inl z, fun b o e => ⟨o, s b o e⟩⟩
theorem Fr.kx {A B : Addr → Prop} {H H1 : Hp} (k : Kx A B H H1) : Fr A B H B H1 := ⟨k.kept, fun _ z => .inl z, k.there⟩

/-- what a def hands back: the value, and what its own parameters hold then; own: the value is a new own object; jars: its jars -/
structure Rsp (β : Type) where
  val : β → D
  fin : β → List (Addr × D) := fun _ => []
  own : Bool := false
  jars : List Addr := []
def RtOk (G : Gd) {β : Type} (rs : Rsp β) (A B : Addr → Prop) (c : Nat) (H : Hp) (v : V) (r : β) : Prop :=
  (if rs.own = true then ∃ a, v = .ref a ∧ RpC G B H a (rs.val r) ∧ B a ∧ ¬ A a ∧ a ∉ rs.jars else Rp G B H v (rs.val r)) ∧ (∀ p ∈ rs.fin r, RpC G B H p.1 p.2) ∧ (∀ a ∈ rs.jars, Jar H a c ∧ B a) ∧ InH B H ∧ ∀ a, A a → B a
def PoB (X : Cx) (W : WX) {α γ β : Type} (rs : Rsp β) (encL : γ → Ev) (ex : Ev) (enc : α → Ev) (A B : Addr → Prop) (c : Nat) (H : Hp) (m : R (Fl α γ β)) (Dd : Ends) : Prop :=
  Po c m (fun c' fl => match fl with
    | .nx a => ∀ B' σ' H', Fr A B H B' H' → RS (gd X) A B' c' H' σ' (enc a) → Dd.nx σ' H'
    | .bk a => ∀ B' σ' H', Fr A B H B' H' → RS (gd X) A B' c' H' σ' (encL a) → Dd.bk σ' H'
    | .ct a => ∀ B' σ' H', Fr A B H B' H' → RS (gd X) A B' c' H' σ' (encL a) → Dd.ct σ' H'
    | .rt r => ∀ v B' H', Fr A B H B' H' → RtOk (gd X) rs A B' c' H' v r → Dd.rt v H')
  (fun c' x d => ∀ cls dx B' σ' H', Fr A B H B' H' → RS (gd X) A B' c' H' σ' ex → ExM X B' H' x d cls dx → W cls dx σ' H')
/-- a block does what its mirror does -/
def PuB (X : Cx) (W : WX) {α γ β : Type} (rs : Rsp β) (encL : γ → Ev) (ex : Ev) (sts : List Stmt) (ρ : Ev) (enc : α → Ev) (m : R (Fl α γ β)) : Prop :=
  ∀ (A B : Addr → Prop) (c : Nat) (H : Hp) (σ : L2.St) (Dd : Ends), RS (gd X) A B c H σ ρ → PoB X W rs encL ex enc A B c H m Dd → wpB X sts Dd σ H
/-- a body's surroundings -/
structure Fx (X : Cx) (W : WX) (k : Nat) : Prop where
  calm : X.calm = true
  room : Room k X.A
  nd : X.N.Nodup
  tk : Takes X W
  po : PassesOwn (model X.prog X.w) X.A X.env X.xe
theorem Fx.lv {X : Cx} {W : WX} {k : Nat} (F : Fx X W k) : Lv X := Lv.of F.calm F.room
section
variable {X : Cx} {W : WX} {k : Nat} {α δ γ β : Type} {rs : Rsp β} {encL : γ → Ev} {ex ρ : Ev} {enc : α → Ev} {st : Stmt} {rest sts : List Stmt} {pos : Pos} {e : Expr} {m : R D} {me : R D} {mm : R (Fl α γ β)} {A B B1 : Addr → Prop} {c : Nat} {H H1 : Hp} {σ : L2.St} {Dd : Ends}
theorem RS.jars (r : RS (gd X) A B c H σ ρ) (h : ∀ a ∈ rs.jars, Slot.jar a ∈ ρ) : ∀ a ∈ rs.jars, Jar H a c ∧ B a := fun a ha => by
  obtain ⟨i, hi, e⟩ := List.getElem_of_mem (h a ha)
  exact ⟨(r.jr i a (by rw [List.getElem?_eq_getElem hi, e])).2.1, (r.jr i a (by rw [List.getElem?_eq_getElem hi, e])).2.2.2⟩
/-- the wish from further on -/
theorem PoB.from {mm : R (Fl α γ β)} (f : Fr A B H B1 H1) (p : PoB X W rs encL ex enc A B c H mm Dd) : PoB X W rs encL ex enc A B1 c H1 mm Dd := by
  refine Po.mono (fun c' fl q => ?_) (fun c' x d q cls dx B' σ' H' g r y => q cls dx B' σ' H' (f.trans g) r y) p
  cases fl with
  | nx a => exact fun B' σ' H' g r => q B' σ' H' (f.trans g) r
  | bk a => exact fun B' σ' H' g r => q B' σ' H' (f.trans g) r
  | ct a => exact fun B' σ' H' g r => q B' σ' H' (f.trans g) r
  | rt a => exact fun v B' H' g r => q v B' H' (f.trans g) r
theorem PoB.bad (p : PoB X W rs encL ex enc A B c H (.bad : R (Fl α γ β)) Dd) : False := by
  unfold PoB at p
  rwa [Po.bad_] at p
theorem PoB.ofo {ι : Type} {o : Option ι} {f : ι → R (Fl α γ β)} (p : PoB X W rs encL ex enc A B c H (R.of o >>= f) Dd) : ∃ a, o = some a ∧ PoB X W rs encL ex enc A B c H (f a) Dd := Po.ofb p
theorem PoB.nx {a : α} {B' : Addr → Prop} {σ' : L2.St} {H' : Hp} (p : PoB X W rs encL ex enc A B c H (.ok (.nx a)) Dd) (f : Fr A B H B' H') (r : RS (gd X) A B' c H' σ' (enc a)) : Dd.nx σ' H' := by
  unfold PoB at p
  rw [Po.ok_] at p
  exact p B' σ' H' f r
theorem PoB.bk {a : γ} {B' : Addr → Prop} {σ' : L2.St} {H' : Hp} (p : PoB X W rs encL ex enc A B c H (.ok (.bk a) : R (Fl α γ β)) Dd) (f : Fr A B H B' H') (r : RS (gd X) A B' c H' σ' (encL a)) : Dd.bk σ' H' := by
  unfold PoB at p
  rw [Po.ok_] at p
  exact p B' σ' H' f r
theorem PoB.ct {a : γ} {B' : Addr → Prop} {σ' : L2.St} {H' : Hp} (p : PoB X W rs encL ex enc A B c H (.ok (.ct a) : R (Fl α γ β)) Dd) (f : Fr A B H B' H') (r : RS (gd X) A B' c H' σ' (encL a)) : Dd.ct σ' H' := by
  unfold PoB at p
  rw [Po.ok_] at p
  exact p B' σ' H' f r
theorem PoB.rt {a : β} {B' : Addr → Prop} {v : V} {H' : Hp} (p : PoB X W rs encL ex enc A B c H (.ok (.rt a) : R (Fl α γ β)) Dd) (f : Fr A B H B' H') (r : RtOk (gd X) rs A B' c H' v a) : Dd.rt v H' := by
  unfold PoB at p
  rw [Po.ok_] at p
  exact p v B' H' f r
/-- the part that follows, within the wish -/
theorem PoB.thn {m1 : R (Fl δ γ β)} {f : δ → R (Fl α γ β)} {enc1 : δ → Ev} {D' : Ends} (h1 : D'.bk = Dd.bk) (h2 : D'.ct = Dd.ct) (h3 : D'.rt = Dd.rt) (p : PoB X W rs encL ex enc A B c H (Fl.then m1 f) Dd)
    (hn : ∀ a c' B' σ' H', Fr A B H B' H' → RS (gd X) A B' c' H' σ' (enc1 a) → PoB X W rs encL ex enc A B' c' H' (f a) Dd → D'.nx σ' H') : PoB X W rs encL ex enc1 A B c H m1 D' := by
  refine Po.mono (fun c' fl q => ?_) (fun _ _ _ q => q) (Po.bind p)
  cases fl with
  | nx a => exact fun B' σ' H' g r => hn a c' B' σ' H' g r (PoB.from g q)
  | bk a =>
    have q' : PoB X W rs encL ex enc A B c' H (.ok (.bk a)) Dd := q
    show ∀ B' σ' H', _ → _ → D'.bk σ' H'
    rw [h1]; exact fun B' σ' H' g r => q'.bk g r
  | ct a =>
    have q' : PoB X W rs encL ex enc A B c' H (.ok (.ct a)) Dd := q
    show ∀ B' σ' H', _ → _ → D'.ct σ' H'
    rw [h2]; exact fun B' σ' H' g r => q'.ct g r
  | rt a =>
    have q' : PoB X W rs encL ex enc A B c' H (.ok (.rt a)) Dd := q
    show ∀ v B' H', _ → _ → D'.rt v H'
    rw [h3]; exact fun v B' H' g r => q'.rt g r
theorem PuE.stepB {f : D → R (Fl α γ β)} (h : PuE X W e ρ m) (hx : Wk ρ ex) (r : RS (gd X) A B c H σ ρ) {Q : VK} (p : PoB X W rs encL ex enc A B c H (m >>= f) Dd)
    (hq : ∀ c' d v H', Kx (Aj B ρ) B H H' → Rp (gd X) B H' v d → RS (gd X) A B c' H' σ ρ → PoB X W rs encL ex enc A B c' H' (f d) Dd → Q v H') : wpE X e σ H Q :=
  h A B c H σ Q r (Po.mono (fun c' d q v H' k r' rp => hq c' d v H' k rp r' (PoB.from (Fr.kx (k.ofj r)) q)) (fun c' x d q cls dx H' k r' y => q cls dx B σ H' (Fr.kx (k.ofj r)) (r'.wk hx) y) (Po.bind p))
theorem PuT.stepB {t : R Bool} {f : Bool → R (Fl α γ β)} (h : PuT X W e ρ t) (hx : Wk ρ ex) (r : RS (gd X) A B c H σ ρ) {Q : Bool → Hp → Prop} (p : PoB X W rs encL ex enc A B c H (t >>= f) Dd)
    (hq : ∀ c' b H', Kx (Aj B ρ) B H H' → RS (gd X) A B c' H' σ ρ → PoB X W rs encL ex enc A B c' H' (f b) Dd → Q b H') : wpT X e σ H Q :=
  h A B c H σ Q r (Po.mono (fun c' d q v H' k r' rp => by
    have rp : v = d := rp
    subst rp
    exact hq c' v H' k r' (PoB.from (Fr.kx (k.ofj r)) q)) (fun c' x d q cls dx H' k r' y => q cls dx B σ H' (Fr.kx (k.ofj r)) (r'.wk hx) y) (Po.bind p))
theorem PuA.stepB {es : List Expr} {ms : R (List D)} {f : List D → R (Fl α γ β)} (h : PuA X W es ρ ms) (hx : Wk ρ ex) (r : RS (gd X) A B c H σ ρ) {Q : List V → Hp → Prop} (p : PoB X W rs encL ex enc A B c H (ms >>= f) Dd)
    (hq : ∀ c' d v H', Kx (Aj B ρ) B H H' → RpAll (gd X) B H' v d → RS (gd X) A B c' H' σ ρ → PoB X W rs encL ex enc A B c' H' (f d) Dd → Q v H') : wpA X es σ H Q :=
  h A B c H σ Q r (Po.mono (fun c' d q v H' k r' rp => hq c' d v H' k rp r' (PoB.from (Fr.kx (k.ofj r)) q)) (fun c' x d q cls dx H' k r' y => q cls dx B σ H' (Fr.kx (k.ofj r)) (r'.wk hx) y) (Po.bind p))
theorem PuI.stepB {tg iter : Expr} {ms : R (List D)} {f : List D → R (Fl α γ β)} (h : PuI X W tg iter ρ ms) (hx : Wk ρ ex) (r : RS (gd X) A B c H σ ρ) {Q : It → Hp → Prop} (p : PoB X W rs encL ex enc A B c H (ms >>= f) Dd)
    (hq : ∀ c' ds J H', Kx (Aj B ρ) B H H' → Yl (gd X) B J ds H' → RS (gd X) A B c' H' σ ρ → PoB X W rs encL ex enc A B c' H' (f ds) Dd → Q J H') : wpI X tg iter σ H Q :=
  h A B c H σ Q r (Po.mono (fun c' d q v H' k r' rp => hq c' d v H' k rp r' (PoB.from (Fr.kx (k.ofj r)) q)) (fun c' x d q cls dx H' k r' y => q cls dx B σ H' (Fr.kx (k.ofj r)) (r'.wk hx) y) (Po.bind p))
/-- the end of a block -/
theorem b_nil {a : α} (w : Wk ρ (enc a)) : PuB X W rs encL ex [] ρ enc (.ok (.nx a)) := fun A B c H σ Dd r p => pss_nil.to (p.nx Fr.refl (r.wk w))
/-- x = e -/
theorem b_set (i : Nat) {x : Str} {px : Pos} {f : D → R (Fl α γ β)} (nd : X.N.Nodup) (h : PuE X W e ρ m) (hx : Wk ρ ex) (h2 : ∀ d, PuB X W rs encL ex rest (ρ.set i (.pu d)) enc (f d)) (hi : i < ρ.length := by simp) (hN : X.N[i]? = some x := by rfl)
    (hl : Loc X.env.scope x := by first | exact Or.inl rfl | exact Or.inr rfl) (hs : swapsWith e (some (.Name x px)) pos.line X.env = pure false := by rfl)
    (hf : X.fn x = true ∨ X.env.scope.names.lookup x = some .local := by first | exact .inl rfl | exact .inr rfl | assumption) : PuB X W rs encL ex (.Assign [.Name x px] e pos :: rest) ρ enc (m >>= f) := by
  intro A B c H σ Dd r p
  refine (pss_cons (ps_set nd hN hl pe_wp hs hf) pb_wp).to ?_
  exact h.stepB hx r p fun c' d v H' k rp r' p' => h2 d A B c' H' _ Dd (r'.put hi rp) p'
/-- a, b = e; also a name -/
theorem b_tgt {tg : Expr} {T : Type} {sl : List Nat} {dec : D → Option T} {env : T → Ev → Ev} {f : T → R (Fl α γ β)} (h : PuE X W e ρ m) (hx : Wk ρ ex) (hg : PuG X tg sl dec env) (h2 : ∀ t, PuB X W rs encL ex rest (env t ρ) enc (f t)) (hsl : ∀ i ∈ sl, i < ρ.length)
    (hs : swapsWithSole [tg] e pos.line X.env = pure false := by rfl) (hw : swappedStores [tg] e X.env = pure none := by rfl) (h1 : (assignEach [tg] X.env).map (·.2) = [assign tg X.env] := by rfl) :
    PuB X W rs encL ex (.Assign [tg] e pos :: rest) ρ enc (m >>= fun d => R.of (dec d) >>= f) := by
  intro A B c H σ Dd r p
  refine (pss_cons (ps_asg pe_wp pg_wp hs hw h1) pb_wp).to ?_
  refine h.stepB hx r p fun c' d v H' k rp r' p' => ?_
  obtain ⟨t, hd, p'⟩ := p'.ofo
  exact hg A B c' H' σ ρ v d t _ r' rp hd hsl fun σ' r2 _ => h2 t A B c' H' σ' Dd r2 p'
/-- a, b = e1, e2: the values first -/
theorem b_par (i j : Nat) {x y : Str} {e1 e2 : Expr} {px py pt : Pos} {kt k2 pt2} {m2 : R D} {f : D → D → R (Fl α γ β)} (F : Fx X W k) (h : PuE X W e1 ρ m) (h' : PuE X W e2 ρ m2) (hx : Wk ρ ex) (h2 : ∀ c d, PuB X W rs encL ex rest ((ρ.set i (.pu c)).set j (.pu d)) enc (f c d))
    (hi : i < ρ.length := by simp) (hj : j < ρ.length := by simp) (hij : i ≠ j := by decide) (hN : X.N[i]? = some x := by rfl) (hM : X.N[j]? = some y := by rfl)
    (hlx : X.env.scope.names.lookup x = some .local := by rfl) (hly : X.env.scope.names.lookup y = some .local := by rfl)
    (hst : starEach [e1, e2] X.env = (false, eval e1 X.env) :: starEach [e2] X.env := by first | exact se_of (fun _ _ h => nomatch h) | rfl) (hst2 : starEach [e2] X.env = (false, eval e2 X.env) :: starEach [] X.env := by first | exact se_of (fun _ _ h => nomatch h) | rfl)
    (hw : swappedStores [.Tuple [.Name x px, .Name y py] kt pt] (.Tuple [e1, e2] k2 pt2) X.env = pure (some [x, y]) := by rfl)
    (hs : swapsWithSole [.Tuple [.Name x px, .Name y py] kt pt] (.Tuple [e1, e2] k2 pt2) pos.line X.env = pure false := by rfl) :
    PuB X W rs encL ex (.Assign [.Tuple [.Name x px, .Name y py] kt pt] (.Tuple [e1, e2] k2 pt2) pos :: rest) ρ enc (m >>= fun c => m2 >>= fun d => f c d) := by
  intro A B c0 H σ Dd r p
  refine (pss_cons (ps_par F.calm F.nd hN hM hij hlx hly (pa_cons pe_wp (pa_cons pe_wp pa_nil hst2) hst) hw hs) pb_wp).to ?_
  refine h.stepB hx r p fun c1 c v H1 k1 rv r1 p1 => ?_
  refine h'.stepB (Q := fun w H2 => tNil σ H2 fun xs H3 => ∃ v' w', v :: w :: xs = [v', w'] ∧ wpB X rest Dd ((σ.set i (some v')).set j (some w')) H3) hx r1 p1 fun c2 d w H2 k2 rw' r2 p2 => ?_
  exact ⟨v, w, rfl, h2 c d A B c2 H2 _ Dd ((r2.put hi (rv.kx k2)).put (by rw [List.length_set]; exact hj) rw') p2⟩
/-- return e -/
theorem b_ret {mk : D → β} (h : PuE X W e ρ m) (hx : Wk ρ ex) (ho : rs.own = false := by rfl) (hv : ∀ d, rs.val (mk d) = d := by exact fun _ => rfl) (hfin : ∀ (d : D), ∀ p ∈ rs.fin (mk d), ∃ i : Nat, ρ[i]? = some (Slot.ce p.1 p.2) := by simp) (hjr : ∀ a ∈ rs.jars, Slot.jar a ∈ ρ := by simp) : PuB X W rs encL ex (.Return (some e) pos :: rest) ρ enc (m >>= fun d => .ok (.rt (mk d))) := by
  intro A B c H σ Dd r p
  refine (pss_cons (ps_ret pe_wp) pss_never).to ?_
  refine h.stepB hx r p fun c' d v H' k rp r' p' => p'.rt Fr.refl ⟨?_, fun q hq => ?_, r'.jars hjr, r'.dom, r'.sub⟩
  · rw [ho, if_neg Bool.false_ne_true, hv]; exact rp
  · obtain ⟨i, hi⟩ := hfin d q hq
    exact (r'.ce i _ _ hi).2.1
/-- return -/
theorem b_retN {r0 : β} (ho : rs.own = false := by rfl) (hv : rs.val r0 = .none := by rfl) (hfin : ∀ p ∈ rs.fin r0, ∃ i : Nat, ρ[i]? = some (Slot.ce p.1 p.2) := by simp) (hjr : ∀ a ∈ rs.jars, Slot.jar a ∈ ρ := by simp) : PuB X W rs encL ex (.Return none pos :: rest) ρ enc (.ok (.rt r0)) := by
  intro A B c H σ Dd r p
  refine (pss_cons ps_retN pss_never).to ?_
  refine p.rt Fr.refl ⟨?_, fun q hq => ?_, r.jars hjr, r.dom, r.sub⟩
  · rw [ho, if_neg Bool.false_ne_true, hv]; exact .non
  · obtain ⟨i, hi⟩ := hfin q hq
    exact (r.ce i _ _ hi).2.1
/-- return x, x an own object -/
theorem b_retO (i : Nat) {x : Str} {px : Pos} {a : Addr} {d : D} {r0 : β} (hi : ρ[i]? = some (.ce a d)) (ho : rs.own = true) (hv : rs.val r0 = d) (hfin : rs.fin r0 = [] := by rfl) (hjr : ∀ a ∈ rs.jars, Slot.jar a ∈ ρ := by simp) (hN : X.N[i]? = some x := by rfl) (hvis : Vis X.env.scope x := by first | exact Or.inl rfl | exact Or.inr (Or.inl rfl) | exact Or.inr (Or.inr rfl))
    (hd : (x == ("__debug__" : Str)) = false := by decide) (hcd : (x == ("__classdict__" : Str)) = false := by decide) : PuB X W rs encL ex (.Return (some (.Name x px)) pos :: rest) ρ enc (.ok (.rt r0)) := by
  intro A B c H σ Dd r p
  obtain ⟨s1, s2, s3, s4⟩ := r.ce i a d hi
  refine (pss_cons (ps_ret (pe_var hN hvis hd hcd)) pss_never).to ⟨_, s1, p.rt (v := .ref a) Fr.refl ⟨?_, fun q hq => ?_, r.jars hjr, r.dom, r.sub⟩⟩
  · rw [ho, if_pos rfl, hv]
    refine ⟨a, rfl, s2, s4, s3, fun z => ?_⟩
    obtain ⟨j, hj⟩ := mem_get (hjr a z)
    have := r.inj i j a _ _ hi hj rfl rfl
    subst this
    rw [hi] at hj; cases hj
  · rw [hfin] at hq; cases hq
theorem b_pass (h2 : PuB X W rs encL ex rest ρ enc mm) : PuB X W rs encL ex (.Pass pos :: rest) ρ enc mm := fun A B c H σ Dd r p => (pss_cons ps_pass pb_wp).to (h2 A B c H σ Dd r p)
theorem b_brk {a : γ} (w : Wk ρ (encL a)) : PuB X W rs encL ex (.Break pos :: rest) ρ enc (.ok (.bk a)) := fun A B c H σ Dd r p => (pss_cons ps_break pss_never).to (p.bk Fr.refl (r.wk w))
theorem b_cont {a : γ} (w : Wk ρ (encL a)) : PuB X W rs encL ex (.Continue pos :: rest) ρ enc (.ok (.ct a)) := fun A B c H σ Dd r p => (pss_cons ps_continue pss_never).to (p.ct Fr.refl (r.wk w))
/-- an expression as a statement -/
theorem b_expr {f : R (Fl α γ β)} (h : PuE X W e ρ m) (hx : Wk ρ ex) (h2 : PuB X W rs encL ex rest ρ enc f) (hs : swapsWith e none pos.line X.env = pure false := by rfl) : PuB X W rs encL ex (.Expr e pos :: rest) ρ enc (m >>= fun _ => f) := by
  intro A B c H σ Dd r p
  refine (pss_cons (ps_expr pe_wp hs) pb_wp).to ?_
  exact h.stepB hx r p fun c' d v H' k rp r' p' => h2 A B c' H' σ Dd r' p'
/-- if: both ways may go on -/
theorem b_if {t0 : Expr} {a b : List Stmt} {t : R Bool} {enc1 : δ → Ev} {m1 m2 : R (Fl δ γ β)} {f : δ → R (Fl α γ β)} (ht : PuT X W t0 ρ t) (hx : Wk ρ ex) (h1 : PuB X W rs encL ex a ρ enc1 m1) (h2 : PuB X W rs encL ex b ρ enc1 m2) (h3 : ∀ s, PuB X W rs encL ex rest (enc1 s) enc (f s)) :
    PuB X W rs encL ex (.If t0 a b pos :: rest) ρ enc (t >>= fun k => Fl.then (if k = true then m1 else m2) f) := by
  intro A B c H σ Dd r p
  refine (pss_cons (ps_if pt_wp pb_wp pb_wp) pb_wp).to ?_
  refine ht.stepB hx r p fun c' k H' kx r' p' => ?_
  have fin : ∀ {mm : R (Fl δ γ β)}, PoB X W rs encL ex enc A B c' H' (Fl.then mm f) Dd → PoB X W rs encL ex enc1 A B c' H' mm { Dd with nx := wpB X rest Dd } := fun {mm} q =>
    PoB.thn (Dd := Dd) (D' := { Dd with nx := wpB X rest Dd }) rfl rfl rfl q fun a c'' B' σ' H2 g r2 p2 => h3 a A B' c'' H2 σ' Dd r2 p2
  cases k with
  | true => exact h1 A B c' H' σ _ r' (fin (by simpa only [if_true] using p'))
  | false => exact h2 A B c' H' σ _ r' (fin (by simpa only [Bool.false_eq_true, if_false] using p'))
/-- if at a block's end -/
theorem b_ifl {t0 : Expr} {a b : List Stmt} {t : R Bool} {m1 m2 : R (Fl α γ β)} (ht : PuT X W t0 ρ t) (hx : Wk ρ ex) (h1 : PuB X W rs encL ex a ρ enc m1) (h2 : PuB X W rs encL ex b ρ enc m2) : PuB X W rs encL ex [.If t0 a b pos] ρ enc (t >>= fun k => if k = true then m1 else m2) := by
  intro A B c H σ Dd r p
  refine (pss_one (ps_if pt_wp pb_wp pb_wp)).to ?_
  refine ht.stepB hx r p fun c' k H' kx r' p' => ?_
  cases k with
  | true => exact h1 A B c' H' σ _ r' (by simpa only [if_true] using p')
  | false => exact h2 A B c' H' σ _ r' (by simpa only [Bool.false_eq_true, if_false] using p')
theorem PoB.up {mm : R (Fl Empty γ β)} {enc0 : Empty → Ev} {D' : Ends} (h1 : D'.bk = Dd.bk) (h2 : D'.ct = Dd.ct) (h3 : D'.rt = Dd.rt) (p : PoB X W rs encL ex enc A B c H (R.up mm) Dd) : PoB X W rs encL ex enc0 A B c H mm D' := by
  refine Po.mono (fun c' fl q => ?_) (fun _ _ _ q => q) (Po.bind p)
  cases fl with
  | nx a => exact nomatch a
  | bk a =>
    have q' : PoB X W rs encL ex enc A B c' H (.ok (.bk a)) Dd := q
    show ∀ B' σ' H', _ → _ → D'.bk σ' H'
    rw [h1]; exact fun B' σ' H' g r => q'.bk g r
  | ct a =>
    have q' : PoB X W rs encL ex enc A B c' H (.ok (.ct a)) Dd := q
    show ∀ B' σ' H', _ → _ → D'.ct σ' H'
    rw [h2]; exact fun B' σ' H' g r => q'.ct g r
  | rt a =>
    have q' : PoB X W rs encL ex enc A B c' H (.ok (.rt a)) Dd := q
    show ∀ v B' H', _ → _ → D'.rt v H'
    rw [h3]; exact fun v B' H' g r => q'.rt g r
/-- if: the first way never goes on -/
theorem b_ifT {t0 : Expr} {a : List Stmt} {t : R Bool} {m1 : R (Fl Empty γ β)} {f : R (Fl α γ β)} (ht : PuT X W t0 ρ t) (hx : Wk ρ ex) (h1 : PuB X W rs encL ex a ρ (fun z : Empty => nomatch z) m1) (h3 : PuB X W rs encL ex rest ρ enc f) :
    PuB X W rs encL ex (.If t0 a [] pos :: rest) ρ enc (t >>= fun k => if k = true then R.up m1 else f) := by
  intro A B c H σ Dd r p
  refine (pss_cons (ps_if pt_wp pb_wp pb_wp) pb_wp).to ?_
  refine ht.stepB hx r p fun c' k H' kx r' p' => ?_
  cases k with
  | true => exact h1 A B c' H' σ _ r' (PoB.up (enc := enc) (Dd := Dd) rfl rfl rfl (by simpa only [if_true] using p'))
  | false => exact pss_nil.to (h3 A B c' H' σ Dd r' (by simpa only [Bool.false_eq_true, if_false] using p'))
end
end Pu

set_option maxHeartbeats 2000000
/-! P7: what a def promises; calls. -/
namespace Pu
open PySem PySem.Spec L2 PySem.W PyProof.Rows

/-- arguments, kind by kind (true: a jar) -/
inductive Mix (G : Gd) (B : Addr → Prop) (H : Hp) : List Bool → List V → List Addr → List D → Prop
  | nil : Mix G B H [] [] [] []
  | dat {ks : List Bool} {v : V} {vs : List V} {js : List Addr} {d : D} {ds : List D} : Rp G B H v d → Mix G B H ks vs js ds → Mix G B H (false :: ks) (v :: vs) js (d :: ds)
  | jar {ks : List Bool} {a : Addr} {vs : List V} {js : List Addr} {ds : List D} : Mix G B H ks vs js ds → Mix G B H (true :: ks) (.ref a :: vs) (a :: js) ds
def slots : List Bool → List Addr → List D → Ev
  | false :: ks, js, d :: ds => .pu d :: slots ks js ds
  | true :: ks, a :: js, ds => .jar a :: slots ks js ds
  | _, _, _ => []
/-- the jars alone -/
def slotsX : List Bool → List Addr → Ev
  | false :: ks, js => .no :: slotsX ks js
  | true :: ks, a :: js => .jar a :: slotsX ks js
  | _, _ => []
section
variable {G : Gd} {B : Addr → Prop} {H H' : Hp}
theorem Mix.keep {A : Addr → Prop} {ks : List Bool} {vs : List V} {js : List Addr} {ds : List D} (m : Mix G B H ks vs js ds) (k : Kx A B H H') : Mix G B H' ks vs js ds := by
  induction m with
  | nil => exact .nil
  | dat r m ih => exact .dat (r.kx k) ih
  | jar m ih => exact .jar ih
theorem Mix.length {ks : List Bool} {vs : List V} {js : List Addr} {ds : List D} (m : Mix G B H ks vs js ds) : vs.length = ks.length := by
  induction m with
  | nil => rfl
  | dat r m ih => rw [List.length_cons, List.length_cons, ih]
  | jar m ih => rw [List.length_cons, List.length_cons, ih]
theorem Mix.lenD {ks : List Bool} {vs : List V} {js : List Addr} {ds : List D} (m : Mix G B H ks vs js ds) : ds.length = ks.count false := by
  induction m with
  | nil => rfl
  | dat r m ih => simp [ih]
  | jar m ih => simp [ih]
theorem Mix.lenJ {ks : List Bool} {vs : List V} {js : List Addr} {ds : List D} (m : Mix G B H ks vs js ds) : js.length = ks.count true := by
  induction m with
  | nil => rfl
  | dat r m ih => simp [ih]
  | jar m ih => simp [ih]
theorem Mix.slen {ks : List Bool} {vs : List V} {js : List Addr} {ds : List D} (m : Mix G B H ks vs js ds) : (slots ks js ds).length = vs.length := by
  induction m with
  | nil => rfl
  | dat r m ih => show (slots _ _ _).length + 1 = _; rw [ih]; rfl
  | jar m ih => show (slots _ _ _).length + 1 = _; rw [ih]; rfl
theorem Mix.get {ks : List Bool} {vs : List V} {js : List Addr} {ds : List D} (m : Mix G B H ks vs js ds) : ∀ (i : Nat) (s : Slot), (slots ks js ds)[i]? = some s →
    (∃ v d, s = .pu d ∧ vs[i]? = some v ∧ Rp G B H v d) ∨ ∃ a, s = .jar a ∧ a ∈ js ∧ vs[i]? = some (.ref a) := by
  induction m with
  | nil => intro i s e; simp [slots] at e
  | @dat ks v vs js d ds r m ih =>
    intro i s e
    cases i with
    | zero =>
      have e : some (Slot.pu d) = some s := e
      cases e; exact .inl ⟨_, _, rfl, rfl, r⟩
    | succ i =>
      have e : (slots ks js ds)[i]? = some s := e
      rcases ih i s e with ⟨v, d, h⟩ | ⟨a, h⟩
      · exact .inl ⟨v, d, by simpa using h⟩
      · exact .inr ⟨a, by simpa using h⟩
  | @jar ks a vs js ds m ih =>
    intro i s e
    cases i with
    | zero =>
      have e : some (Slot.jar a) = some s := e
      cases e; exact .inr ⟨_, rfl, by simp, rfl⟩
    | succ i =>
      have e : (slots ks js ds)[i]? = some s := e
      rcases ih i s e with ⟨v, d, h⟩ | ⟨b, h1, h2, h3⟩
      · exact .inl ⟨v, d, by simpa using h⟩
      · exact .inr ⟨b, h1, by simp [h2], by simpa using h3⟩
/-- a jar stands once -/
theorem Mix.inj {ks : List Bool} {vs : List V} {js : List Addr} {ds : List D} (m : Mix G B H ks vs js ds) (hn : js.Nodup) : ∀ (i j : Nat) (a : Addr) (s t : Slot), (slots ks js ds)[i]? = some s → (slots ks js ds)[j]? = some t → ownOf s = some a → ownOf t = some a → i = j := by
  induction m with
  | nil => intro i j a s t e; simp [slots] at e
  | @dat ks v vs js d ds r m ih =>
    intro i j a s t e1 e2 o1 o2
    cases i with
    | zero =>
      have e : some (Slot.pu d) = some s := e1
      cases e; cases o1
    | succ i =>
      cases j with
      | zero =>
        have e : some (Slot.pu d) = some t := e2
        cases e; cases o2
      | succ j => exact congrArg (· + 1) (ih hn i j a s t e1 e2 o1 o2)
  | @jar ks b vs js ds m ih =>
    intro i j a s t e1 e2 o1 o2
    have hn' := (List.nodup_cons.mp hn)
    have no : ∀ (i : Nat) (s : Slot), (slots ks js ds)[i]? = some s → ownOf s = some b → False := fun i s e o => by
      rcases m.get i s e with ⟨v, d, rfl, _⟩ | ⟨c, rfl, h2, _⟩
      · cases o
      · cases o; exact hn'.1 h2
    cases i with
    | zero =>
      have e : some (Slot.jar b) = some s := e1
      cases e; cases o1
      cases j with
      | zero => rfl
      | succ j => exact (no j t e2 o2).elim
    | succ i =>
      cases j with
      | zero =>
        have e : some (Slot.jar b) = some t := e2
        cases e; cases o2
        exact (no i s e1 o1).elim
      | succ j => exact congrArg (· + 1) (ih hn'.2 i j a s t e1 e2 o1 o2)
end
theorem Po.le {α : Type} {m : R α} {ok : Nat → α → Prop} {ex : Nat → Str → Option D → Prop} : ∀ {c : Nat}, Po c m ok ex → Po c m (fun c' a => c' ≤ c ∧ ok c' a) (fun c' x d => c' ≤ c ∧ ex c' x d) := by
  induction m with
  | ok a => intro c h; rw [Po.ok_] at h ⊢; exact ⟨Nat.le_refl _, h⟩
  | exc x d => intro c h; rw [Po.exc_] at h ⊢; exact ⟨Nat.le_refl _, h⟩
  | bad => intro c h; rw [Po.bad_] at h; exact h.elim
  | ch n k ih =>
    intro c h
    cases c with
    | zero => exact h
    | succ c => exact fun i hi => Po.mono (fun _ _ q => ⟨Nat.le_succ_of_le q.1, q.2⟩) (fun _ _ _ q => ⟨Nat.le_succ_of_le q.1, q.2⟩) (ih i (h i hi))

/-- what comes back: data, or a new own object -/
def Back (G : Gd) (own : Bool) (B : Addr → Prop) (H0 H : Hp) (v : V) (d : D) : Prop := if own = true then ∃ a, v = .ref a ∧ H0 a = none ∧ RpC G (fun b => B b ∨ b = a) H a d else Rp G B H v d
/-- what a def promises: it does what its mirror does -/
def spD (G : Gd) (mg : Str → Option Value) (own : Bool) (ks : List Bool) (mir : List D → R D) : Sp := fun vs H Q E => ∃ (B : Addr → Prop) (c : Nat) (js : List Addr) (ds : List D),
  Mix G B H ks vs js ds ∧ js.Nodup ∧ (∀ a ∈ js, Jar H a c ∧ B a) ∧ InH B H ∧ c ≤ CMAX ∧
    Po c (mir ds) (fun c' d => ∀ v H', Kx (fun b => B b ∧ b ∉ js) B H H' → (∀ a ∈ js, Jar H' a c') → InH B H' → Back G own B H H' v d → Q v H')
      (fun c' x d => ∀ cls dx H', Kx (fun b => B b ∧ b ∉ js) B H H' → (∀ a ∈ js, Jar H' a c') → InH B H' → (mg x = some cls ∧ ExF G B H' dx d) → E cls dx H')

/-! ### a call -/
/-- arguments as they are evaluated -/
def PuJ (X : Cx) (W : WX) (es : List Expr) (ρ : Ev) (ks : List Bool) (js : List Addr) (ms : R (List D)) : Prop := ∀ (A B : Addr → Prop) (c : Nat) (H : Hp) (σ : L2.St) (Q : List V → Hp → Prop), RS (gd X) A B c H σ ρ →
  PoG X W A B σ ρ c H (fun H vs ds => Mix (gd X) B H ks vs js ds) ms Q → wpA X es σ H Q
section
variable {X : Cx} {W : WX} {ρ : Ev} {pos p : Pos} {e : Expr} {es : List Expr} {m : R D} {ks : List Bool} {js : List Addr} {ms : R (List D)}
theorem pj_nil : PuJ X W [] ρ [] [] (R.ok []) := fun A B c0 H σ Q r p => pa_nil.to (p.now r (Same.refl H) .nil)
theorem pj_cons (h1 : PuE X W e ρ m) (h2 : PuJ X W es ρ ks js ms) (hs : starEach (e :: es) X.env = (false, eval e X.env) :: starEach es X.env := by first | exact se_of (fun _ _ h => nomatch h) | rfl) : PuJ X W (e :: es) ρ (false :: ks) js (do let x ← m; let xs ← ms; R.ok (x :: xs)) := by
  intro A B c0 H σ Q r p
  refine (pa_cons pe_wp pa_wp hs).to ?_
  refine h1.step r p fun c1 dx x H1 k1 rx r1 p1 => ?_
  refine h2 A B c1 H1 σ (fun xs H2 => Q (x :: xs) H2) r1 (PoG.step p1 fun c2 ds vs H2 k2 rs r2 p2 => ?_)
  exact p2.now r2 (Same.refl H2) (.dat (rx.kx k2) rs)
theorem pj_jar (i : Nat) {x : Str} {a : Addr} (h2 : PuJ X W es ρ ks js ms) (h : ρ[i]? = some (.jar a) := by rfl) (hN : X.N[i]? = some x := by rfl) (hv : Vis X.env.scope x := by first | exact Or.inl rfl | exact Or.inr (Or.inl rfl) | exact Or.inr (Or.inr rfl))
    (hd : (x == ("__debug__" : Str)) = false := by decide) (hcd : (x == ("__classdict__" : Str)) = false := by decide) (hs : starEach (.Name x p :: es) X.env = (false, eval (.Name x p) X.env) :: starEach es X.env := by first | exact se_of (fun _ _ h => nomatch h) | rfl) : PuJ X W (.Name x p :: es) ρ (true :: ks) (a :: js) ms := by
  intro A B c0 H σ Q r q
  refine (pa_cons (pe_var hN hv hd hcd) pa_wp hs).to ⟨_, (r.jr i a h).1, ?_⟩
  refine h2 A B c0 H σ _ r (Po.mono (fun c' ds q => ?_) (fun _ _ _ q => q) q)
  intro vs H' k r' rs
  exact q (.ref a :: vs) H' k r' (.jar rs)
/-- what a callee wants, from what the caller wants -/
theorem call_sp {own : Bool} {mir : List D → R D} {A B : Addr → Prop} {c0 c1 : Nat} {H H1 : Hp} {σ : L2.St} {Q : VK} {vs : List V} {ds : List D} (r : RS (gd X) A B c0 H σ ρ) (k1 : Kx (Aj B ρ) B H H1) (r1 : RS (gd X) A B c1 H1 σ ρ) (mx : Mix (gd X) B H1 ks vs js ds) (hnd : js.Nodup) (hjs : ∀ a ∈ js, Slot.jar a ∈ ρ)
    (p1 : PoG X W A B σ ρ c1 H1 (fun H' v d => ∃ H1, (∀ a, H1 a = none → H a = none) ∧ Back (gd X) own B H1 H' v d) (mir ds) Q) : spD (gd X) X.mg own ks mir vs H1 Q (WE W σ) := by
  have jat : ∀ a ∈ js, ∃ i : Nat, ρ[i]? = some (Slot.jar a) := fun a h => by
    obtain ⟨i, hi, e⟩ := List.getElem_of_mem (hjs a h)
    exact ⟨i, by rw [List.getElem?_eq_getElem hi, e]⟩
  -- what is so behind the call
  have back : ∀ {c2 : Nat} {H2 : Hp}, c2 ≤ c1 → Kx (fun b => B b ∧ b ∉ js) B H1 H2 → (∀ a ∈ js, Jar H2 a c2) → InH B H2 → Kx (Aj B ρ) B H1 H2 ∧ RS (gd X) A B c2 H2 σ ρ := fun {c2 H2} hc k j iB => by
    have kp : Kept (fun b => b ∈ js) H1 H2 := fun b o n e => k.kept b o (fun z => z.2 ⟨z.1, n⟩) e
    refine ⟨⟨fun b o n e => kp b o (fun z => ?_) e, k.there⟩, ⟨fun i s h => (r1.ro i s h).keep k.kp, fun i a d h => ?_, fun i a h => ?_, r1.inj, r1.sub, iB, r1.len, Nat.le_trans hc r1.cm⟩⟩
    · obtain ⟨i, hi⟩ := jat b z
      exact n ⟨(r1.jr i b hi).2.2.2, fun y => y.2 (hjs b z)⟩
    · obtain ⟨e1, e2, e3, e4⟩ := r1.ce i a d h
      refine ⟨e1, e2.keep k.kp fun o z => kp a o (fun y => ?_) z, e3, e4⟩
      obtain ⟨l, hl⟩ := jat a y
      have := r1.inj i l a _ _ h hl rfl rfl
      subst this
      rw [h] at hl; cases hl
    · obtain ⟨e1, e2, e3, e4⟩ := r1.jr i a h
      by_cases hj : a ∈ js
      · exact ⟨e1, j a hj, e3, e4⟩
      · exact ⟨e1, (e2.keep fun o z => kp a o hj z).less hc, e3, e4⟩
  refine ⟨B, c1, js, ds, mx, hnd, fun a h => ?_, r1.dom, r1.cm, Po.mono (fun c2 d q v H2 k j iB rv => ?_) (fun c2 y d q cls dx H2 k j iB ex => ?_) (Po.le p1)⟩
  · obtain ⟨i, hi⟩ := jat a h
    exact ⟨(r1.jr i a hi).2.1, (r1.jr i a hi).2.2.2⟩
  · obtain ⟨k2, r2⟩ := back q.1 k j iB
    exact q.2 v H2 k2 r2 ⟨H1, fun a z => (by
      cases e : H a with
      | none => rfl
      | some o => obtain ⟨o', w⟩ := k1.there a o e; rw [z] at w; cases w), rv⟩
  · obtain ⟨k2, r2⟩ := back q.1 k j iB
    exact q.2 cls dx H2 k2 r2 ex
/-- f(..) -/
theorem call_g {own : Bool} {x : Str} {k : Nat} {f : Addr} {fd : FuncData} {ps : List Str} {mir : List D → R D} (tk : Takes X W) (hr : Room k X.A) (F : FnOk X.prog X.w X.K X.mg X.base (L2.CX X.prog X.w) k f fd ps (spD (gd X) X.mg own ks mir))
    (hm : X.mg x = some (.ref f)) (hk : PySem.W.keepIn X.K (.ref f) = true) (hb : Binds X.K fd ps []) (ha : PuJ X W (e :: es) ρ ks js ms) (hg : Gl X x := by rfl) (hnd : js.Nodup := by simp) (hjs : ∀ a ∈ js, Slot.jar a ∈ ρ := by simp)
    (hdb : (x == ("__debug__" : Str)) = false := by decide) (he : starEach (e :: es) X.env = (false, eval e X.env) :: starEach es X.env := by first | exact se_of (fun _ _ h => nomatch h) | rfl) (hpl : (backTo pos (starEach es X.env)).any (·.1) = false := by first | exact pl_of (by rfl) | rfl) {A B : Addr → Prop} {c0 : Nat} {H : Hp} {σ : L2.St} {Q : VK} (r : RS (gd X) A B c0 H σ ρ) (q : PoG X W A B σ ρ c0 H (fun H' v d => ∃ H1, (∀ a, H1 a = none → H a = none) ∧ Back (gd X) own B H1 H' v d) (do let ds ← ms; mir ds) Q) :
    wpE X (.Call (.Name x p) (e :: es) [] pos) σ H Q := by
  refine (pe_callS F hr hg hm hk hb (fun σ => passAt tk σ) pa_wp hdb he hpl).to ?_
  exact ha A B c0 H σ _ r (PoG.step q fun c1 ds vs H1 k1 mx r1 p1 => call_sp r k1 r1 mx hnd hjs p1)
theorem pu_call {x : Str} {k : Nat} {f : Addr} {fd : FuncData} {ps : List Str} {mir : List D → R D} (tk : Takes X W) (hr : Room k X.A) (F : FnOk X.prog X.w X.K X.mg X.base (L2.CX X.prog X.w) k f fd ps (spD (gd X) X.mg false ks mir))
    (hm : X.mg x = some (.ref f)) (hk : PySem.W.keepIn X.K (.ref f) = true) (hb : Binds X.K fd ps []) (ha : PuJ X W (e :: es) ρ ks js ms) (hg : Gl X x := by rfl) (hnd : js.Nodup := by simp) (hjs : ∀ a ∈ js, Slot.jar a ∈ ρ := by simp)
    (hdb : (x == ("__debug__" : Str)) = false := by decide) (he : starEach (e :: es) X.env = (false, eval e X.env) :: starEach es X.env := by first | exact se_of (fun _ _ h => nomatch h) | rfl) (hpl : (backTo pos (starEach es X.env)).any (·.1) = false := by first | exact pl_of (by rfl) | rfl) :
    PuE X W (.Call (.Name x p) (e :: es) [] pos) ρ (do let ds ← ms; mir ds) := fun A B c0 H σ Q r q =>
  call_g tk hr F hm hk hb ha hg hnd hjs hdb he hpl r (Po.mono (fun c' d q v H' k r' ⟨H1, _, b⟩ => q v H' k r' (by unfold Back at b; rwa [if_neg Bool.false_ne_true] at b)) (fun _ _ _ q => q) q)
end

/-! ### a def keeps its promise -/
/-- what a body comes to -/
def R.fin {α : Type} (m : R (Fl α Empty D)) : R D := m >>= fun
  | .nx _ => .ok .none
  | .rt d => .ok d
  | .bk c => nomatch c
  | .ct c => nomatch c
@[simp] theorem R.fin_rt {α : Type} (d : D) : R.fin (.ok (.rt d) : R (Fl α Empty D)) = .ok d := rfl
@[simp] theorem R.fin_nx {α : Type} (a : α) : R.fin (.ok (.nx a) : R (Fl α Empty D)) = .ok .none := rfl
@[simp] theorem R.fin_bad {α : Type} : R.fin (.bad : R (Fl α Empty D)) = .bad := rfl
@[simp] theorem R.fin_exc {α : Type} (x : Str) (d : Option D) : R.fin (.exc x d : R (Fl α Empty D)) = .exc x d := rfl
@[simp] theorem R.fin_ch {α : Type} (n : Nat) (k : Nat → R (Fl α Empty D)) : R.fin (.ch n k) = .ch n fun i => R.fin (k i) := rfl
@[simp] theorem R.fin_bind {α ι : Type} (m : R ι) (g : ι → R (Fl α Empty D)) : R.fin (m >>= g) = m >>= fun i => R.fin (g i) := by unfold R.fin; rw [R.bind_assoc]
abbrev encE : Empty → Ev := fun z => nomatch z
/-- a body's mirror is mir -/
inductive Body (X : Cx) (W : WX) (own : Bool) (js : List Addr) (ex : Ev) (sts : List Stmt) (ρ : Ev) (mir : R D) : Prop
  | mk {α : Type} {enc : α → Ev} {m : R (Fl α Empty D)} : PuB X W { val := id, own := own, jars := js } encE ex sts ρ enc m → (∀ a : α, own = false ∧ ∀ j ∈ js, Slot.jar j ∈ enc a) → mir = R.fin m → Body X W own js ex sts ρ mir
section
variable {P : Program} {w : World} {K : PySem.W.Frag} {mg : Str → Option Value} {base : Heap}
/-- a def's body's surroundings -/
abbrev Cd (P : Program) (w : World) (K : PySem.W.Frag) (mg : Str → Option Value) (base : Heap) (N : List Str) (qual : Str) (st : Stmt) (f : Addr) (cdv : Value) (A : Around) (outer : List Env) (s : Shared) (H : Hp) (E : XK) : Cx := cxOf (L2.CX P w) P w K mg base N qual (defScope st) f cdv A outer s H E
abbrev WD (E : XK) : WX := fun cls d _ H => E cls d H
theorem fx_of {N : List Str} {qual : Str} {st : Stmt} {f : Addr} {cdv : Value} {A : Around} {outer : List Env} {s : Shared} {H : Hp} {E : XK} {k : Nat} (hN : N.Nodup) (hr : Room k (A.deeper (envOfC qual (defScope st) s.heap.objs.size f cdv))) :
    Fx (Cd P w K mg base N qual st f cdv A outer s H E) (WD E) k := ⟨rfl, hr, hN, takes_of rfl rfl rfl rfl, passes_of rfl⟩
theorem fnD {own : Bool} {x qual : Str} {st : Stmt} {f : Addr} {fd : FuncData} {N ps : List Str} {k : Nat} {ks : List Bool} {mir : List D → R D} (F : Fun K x qual st f fd) (S : FnScope N ps (defScope st)) (hl : ks.length = ps.length)
    (hb : ∀ (cdv : Value) (A : Around) (outer : List Env) (s : Shared) (H : Hp) (E : XK), Fx (Cd P w K mg base N qual st f cdv A outer s H E) (WD E) k → ∀ (js : List Addr) (ds : List D), js.length = ks.count true → ds.length = ks.count false →
      Body (Cd P w K mg base N qual st f cdv A outer s H E) (WD E) own js (slotsX ks js ++ List.replicate (N.length - ps.length) Slot.no) (defBody st) (slots ks js ds ++ List.replicate (N.length - ps.length) Slot.no) (mir ds)) :
    FnOk P w K mg base (L2.CX P w) (k + 1) f fd ps (spD ⟨P, w, K⟩ mg own ks mir) := by
  refine F.okX S (fun vs H Q E h => ?_) (fun cdv A outer s H vs Q E hr h => ?_)
  · obtain ⟨B, c, js, ds, mx, _⟩ := h
    rw [mx.length, hl]
  · obtain ⟨B, c, js, ds, mx, hnd, hj, hB, hcm, p⟩ := h
    have FX : Fx (Cd P w K mg base N qual st f cdv A outer s H E) (WD E) k := fx_of S.nd hr
    refine ⟨wpB (Cd P w K mg base N qual st f cdv A outer s H E) (defBody st), pb_wp, ?_⟩
    have hlv : vs.length = ps.length := by rw [mx.length, hl]
    obtain ⟨hbody, hen, hmir⟩ := hb cdv A outer s H E FX js ds mx.lenJ mx.lenD
    have gt : ∀ (i : Nat) (s : Slot), (slots ks js ds ++ List.replicate (N.length - ps.length) Slot.no)[i]? = some s → s = .no ∨ (slots ks js ds)[i]? = some s := fun i s e => by
      rw [List.getElem?_append] at e
      split at e
      · exact .inr e
      · rw [List.getElem?_replicate] at e
        split at e
        · cases e; exact .inl rfl
        · cases e
    have st0 : ∀ (i : Nat) (v : V), vs[i]? = some v → (L2.start N vs)[i]? = some (some v) := fun i v e => by
      unfold L2.start
      rw [List.getElem?_append_left (by rw [List.length_map]; exact (List.getElem?_eq_some_iff.mp e).1), List.getElem?_map, e]
      rfl
    have rs : RS ⟨P, w, K⟩ (fun b => B b ∧ b ∉ js) B c H (L2.start N vs) (slots ks js ds ++ List.replicate (N.length - ps.length) Slot.no) := by
      refine ⟨fun i s e => ?_, fun i a d e => ?_, fun i a e => ?_, fun i j a s t e1 e2 o1 o2 => ?_, fun a z => z.1, hB, ?_, hcm⟩
      · rcases gt i s e with rfl | e
        · trivial
        · rcases mx.get i s e with ⟨v, d, rfl, h2, h3⟩ | ⟨a, rfl, _⟩
          · exact ⟨v, st0 i v h2, h3⟩
          · trivial
      · rcases gt i _ e with z | e
        · cases z
        · rcases mx.get i _ e with ⟨v, d, z, _⟩ | ⟨a, z, _⟩ <;> cases z
      · rcases gt i _ e with z | e
        · cases z
        · rcases mx.get i _ e with ⟨v, d, z, _⟩ | ⟨b, z, h2, h3⟩
          · cases z
          · cases z
            exact ⟨st0 i _ h3, (hj a h2).1, fun y => y.2 h2, (hj a h2).2⟩
      · rcases gt i s e1 with z | e1
        · subst z; cases o1
        · rcases gt j t e2 with z | e2
          · subst z; cases o2
          · exact mx.inj hnd i j a s t e1 e2 o1 o2
      · unfold L2.start
        rw [List.length_append, List.length_append, List.length_map, List.length_replicate, List.length_replicate, mx.slen, hlv]
    have jx : ∀ a ∈ js, ∃ i : Nat, (slotsX ks js ++ List.replicate (N.length - ps.length) Slot.no)[i]? = some (Slot.jar a) := by
      have : ∀ (ks : List Bool) (js : List Addr), js.length = ks.count true → ∀ a ∈ js, ∃ i : Nat, (slotsX ks js)[i]? = some (Slot.jar a) := by
        intro ks
        induction ks with
        | nil => intro js h a ha; simp at h; subst h; cases ha
        | cons b ks ih =>
          intro js h a ha
          cases b with
          | false =>
            obtain ⟨i, hi⟩ := ih js (by simpa using h) a ha
            exact ⟨i + 1, hi⟩
          | true =>
            cases js with
            | nil => cases ha
            | cons b js =>
              rcases List.mem_cons.mp ha with rfl | ha
              · exact ⟨0, rfl⟩
              · obtain ⟨i, hi⟩ := ih js (by simpa using h) a ha
                exact ⟨i + 1, hi⟩
      intro a ha
      obtain ⟨i, hi⟩ := this ks js mx.lenJ a ha
      exact ⟨i, by rw [List.getElem?_append_left ((List.getElem?_eq_some_iff.mp hi).1)]; exact hi⟩
    have back : ∀ {B' : Addr → Prop} {H' : Hp}, Fr (fun b => B b ∧ b ∉ js) B H B' H' → Kx (fun b => B b ∧ b ∉ js) B H H' := fun f => ⟨f.kept, f.there⟩
    rw [hmir] at p
    refine hbody _ B c H _ _ rs ?_
    rename_i α enc m
    refine Po.mono (fun c' fl q => ?_) (fun c' y d q => ?_) (Po.bind p)
    · cases fl with
      | nx a =>
        intro B' σ' H' f r'
        rw [Po.ok_] at q
        obtain ⟨ho, hen⟩ := hen a
        have bb : ∀ b, B b → B' b := fun b z => by
          by_cases hb : b ∈ js
          · obtain ⟨i, hi, e⟩ := List.getElem_of_mem (hen b hb)
            exact (r'.jr i b (by rw [List.getElem?_eq_getElem hi, e])).2.2.2
          · exact r'.sub b ⟨z, hb⟩
        exact q .non H' (back f) (fun b hb => by
          obtain ⟨i, hi, e⟩ := List.getElem_of_mem (hen b hb)
          exact (r'.jr i b (by rw [List.getElem?_eq_getElem hi, e])).2.1) (fun b z => r'.dom b (bb b z)) (by unfold Back; rw [ho, if_neg Bool.false_ne_true]; exact .non)
      | bk a => exact nomatch a
      | ct a => exact nomatch a
      | rt d =>
        intro v B' H' f r'
        rw [Po.ok_] at q
        obtain ⟨q1, _, q3, q4, q5⟩ := r'
        have bb : ∀ b, B b → B' b := fun b z => by
          by_cases hb : b ∈ js
          · exact (q3 b hb).2
          · exact q5 b ⟨z, hb⟩
        refine q v H' (back f) (fun b hb => (q3 b hb).1) (fun b z => q4 b (bb b z)) ?_
        unfold Back
        cases own with
        | false =>
          rw [if_neg Bool.false_ne_true] at q1 ⊢
          exact q1.sub bb
        | true =>
          rw [if_pos rfl] at q1 ⊢
          obtain ⟨a, e1, e2, e3, e4, e5⟩ := q1
          refine ⟨a, e1, ?_, e2.sub fun b z => z.elim (bb b) fun z => by rw [z]; exact e3⟩
          rcases f.new a e3 with z | z
          · exact absurd ⟨z, e5⟩ e4
          · exact z
    · intro cls dx B' σ' H' f r' e
      have bb : ∀ b, B b → B' b := fun b z => by
        by_cases hb : b ∈ js
        · obtain ⟨i, hi⟩ := jx b hb
          exact (r'.jr i b hi).2.2.2
        · exact r'.sub b ⟨z, hb⟩
      refine q cls dx H' (back f) (fun b hb => ?_) (fun b z => r'.dom b (bb b z)) ⟨e.1, e.2.sub bb⟩
      obtain ⟨i, hi⟩ := jx b hb
      exact (r'.jr i b hi).2.1
end
end Pu

set_option maxHeartbeats 2000000
/-! P8: own objects, loops. -/
namespace Pu
open PySem PySem.Spec L2

/-! ### own objects, looked at -/
def frzS : Slot → Slot
  | .ce _ d => .pu d
  | s => s
def frzE (ρ : Ev) : Ev := ρ.map frzS
theorem frzE_get {ρ : Ev} {i : Nat} {s : Slot} (h : (frzE ρ)[i]? = some s) : ∃ t, ρ[i]? = some t ∧ s = frzS t := by
  unfold frzE at h
  rw [List.getElem?_map] at h
  cases e : ρ[i]? with
  | none => rw [e] at h; cases h
  | some t => rw [e] at h; exact ⟨t, rfl, (Option.some.inj h).symm⟩
def flat : D → Bool
  | .none => true
  | .bool _ => true
  | .int _ => true
  | .str _ => true
  | _ => false
theorem Rp.flat {G : Gd} {B B' : Addr → Prop} {H H' : Hp} {v : V} {d : D} (r : Rp G B H v d) (h : flat d = true) : Rp G B' H' v d := by
  cases r with
  | non => exact .non
  | bl b => exact .bl b
  | int i => exact .int i
  | str x => exact .str x
  | _ => cases h
def flatO : Option D → Bool
  | none => true
  | some d => flat d
/-- flat answers only -/
def R.flt : R D → R D
  | .ok d => if flat d = true then .ok d else .bad
  | .exc x d => if flatO d = true then .exc x d else .bad
  | .bad => .bad
  | .ch n k => .ch n fun i => R.flt (k i)
def R.flx {α : Type} : R α → R α
  | .ok d => .ok d
  | .exc x d => if flatO d = true then .exc x d else .bad
  | .bad => .bad
  | .ch n k => .ch n fun i => R.flx (k i)
@[simp] theorem R.flt_ok (d : D) : R.flt (.ok d) = if flat d = true then .ok d else .bad := rfl
@[simp] theorem R.flt_bad : R.flt .bad = .bad := rfl
@[simp] theorem R.flt_exc (x : Str) (d : Option D) : R.flt (.exc x d) = if flatO d = true then .exc x d else .bad := rfl
@[simp] theorem R.flt_ch (n : Nat) (k : Nat → R D) : R.flt (.ch n k) = .ch n fun i => R.flt (k i) := rfl
@[simp] theorem R.flt_bind {α : Type} (m : R α) (f : α → R D) : R.flt (m >>= f) = R.flx m >>= fun a => R.flt (f a) := by
  induction m with
  | ch n k ih => simp only [R.ch_bind, R.flt_ch, R.flx]; congr 1; funext i; exact ih i
  | exc x d => simp only [R.exc_bind, R.flt_exc, R.flx]; split <;> rfl
  | _ => rfl
@[simp] theorem R.flx_ok {α : Type} (d : α) : R.flx (.ok d) = .ok d := rfl
@[simp] theorem R.flx_bad {α : Type} : R.flx (.bad : R α) = .bad := rfl
@[simp] theorem R.flx_exc {α : Type} (x : Str) (d : Option D) : R.flx (.exc x d : R α) = if flatO d = true then .exc x d else .bad := rfl
@[simp] theorem R.flx_ch {α : Type} (n : Nat) (k : Nat → R α) : R.flx (.ch n k) = .ch n fun i => R.flx (k i) := rfl
@[simp] theorem R.flx_of {α : Type} (o : Option α) : R.flx (R.of o) = R.of o := by cases o <;> rfl
@[simp] theorem R.flx_bind {α β : Type} (m : R α) (f : α → R β) : R.flx (m >>= f) = R.flx m >>= fun a => R.flx (f a) := by
  induction m with
  | ch n k ih => simp only [R.ch_bind, R.flx_ch]; congr 1; funext i; exact ih i
  | exc x d => simp only [R.exc_bind, R.flx_exc]; split <;> rfl
  | _ => rfl
theorem Po.flt {m : R D} {ok : Nat → D → Prop} {ex : Nat → Str → Option D → Prop} : ∀ {c : Nat}, Po c (R.flt m) ok ex → Po c m (fun c' d => flat d = true ∧ ok c' d) (fun c' x d => flatO d = true ∧ ex c' x d) := by
  induction m with
  | ok a =>
    intro c h
    rw [R.flt_ok] at h
    split at h
    · rename_i hf; rw [Po.ok_] at h ⊢; exact ⟨hf, h⟩
    · rw [Po.bad_] at h; exact h.elim
  | exc x d =>
    intro c h
    rw [R.flt_exc] at h
    split at h
    · rename_i hf; rw [Po.exc_] at h ⊢; exact ⟨hf, h⟩
    · rw [Po.bad_] at h; exact h.elim
  | bad => intro c h; rw [R.flt_bad, Po.bad_] at h; exact h.elim
  | ch n k ih =>
    intro c h
    cases c with
    | zero => exact h
    | succ c => exact fun i hi => ih i (h i hi)
theorem Po.flx {α : Type} {m : R α} {ok : Nat → α → Prop} {ex : Nat → Str → Option D → Prop} : ∀ {c : Nat}, Po c (R.flx m) ok ex → Po c m ok (fun c' x d => flatO d = true ∧ ex c' x d) := by
  induction m with
  | ok a => intro c h; rw [R.flx_ok, Po.ok_] at h; rw [Po.ok_]; exact h
  | exc x d =>
    intro c h
    rw [R.flx_exc] at h
    split at h
    · rename_i hf; rw [Po.exc_] at h ⊢; exact ⟨hf, h⟩
    · rw [Po.bad_] at h; exact h.elim
  | bad => intro c h; rw [R.flx_bad, Po.bad_] at h; exact h.elim
  | ch n k ih =>
    intro c h
    cases c with
    | zero => exact h
    | succ c => exact fun i hi => ih i (h i hi)
section
variable {G : Gd} {A B : Addr → Prop} {c : Nat} {H H' : Hp} {σ : L2.St} {ρ : Ev}
abbrev Bp (B : Addr → Prop) (ρ : Ev) : Addr → Prop := fun b => B b ∧ ¬ ∃ d, Slot.ce b d ∈ ρ
abbrev Ap (B : Addr → Prop) (ρ : Ev) : Addr → Prop := fun b => Bp B ρ b ∧ Slot.jar b ∉ ρ
theorem RS.peek (r : RS G A B c H σ ρ) : RS G (Ap B ρ) (Bp B ρ) c H σ (frzE ρ) := by
  have sb : ∀ b, Bp B ρ b → B b := fun b z => z.1
  have nj : ∀ {i j : Nat} {a : Addr} {d : D}, ρ[i]? = some (.jar a) → ρ[j]? = some (.ce a d) → False := fun {i j a d} h1 h2 => by
    have := r.inj i j a _ _ h1 h2 rfl rfl
    subst this
    rw [h1] at h2; cases h2
  refine ⟨fun i s h => ?_, fun i a d h => ?_, fun i a h => ?_, fun i j a s t h1 h2 e1 e2 => ?_, fun a z => z.1, fun a z => r.dom a z.1, ?_, r.cm⟩
  · obtain ⟨t, ht, rfl⟩ := frzE_get h
    cases t with
    | ce a d =>
      obtain ⟨s1, s2, s3, s4⟩ := r.ce i a d ht
      exact ⟨_, s1, (s2.sub sb).frz fun z => z.2 ⟨d, List.mem_of_getElem? ht⟩⟩
    | pu d => exact (r.ro i _ ht).sub sb
    | exs a b d => exact (r.ro i _ ht).sub sb
    | no => trivial
    | jar _ => trivial
  · obtain ⟨t, ht, e⟩ := frzE_get h
    cases t <;> cases e
  · obtain ⟨t, ht, e⟩ := frzE_get h
    cases t with
    | jar b =>
      cases e
      obtain ⟨s1, s2, s3, s4⟩ := r.jr i a ht
      refine ⟨s1, s2, fun z => z.2 (List.mem_of_getElem? ht), s4, fun ⟨d, hd⟩ => ?_⟩
      obtain ⟨j, hj⟩ := mem_get hd
      exact nj ht hj
    | _ => cases e
  · obtain ⟨t1, ht1, e⟩ := frzE_get h1
    obtain ⟨t2, ht2, e'⟩ := frzE_get h2
    refine r.inj i j a t1 t2 ht1 ht2 ?_ ?_
    · subst e; cases t1 <;> first | exact e1 | cases e1
    · subst e'; cases t2 <;> first | exact e2 | cases e2
  · unfold frzE; rw [List.length_map]; exact r.len
theorem frz_jar {ρ : Ev} {b : Addr} (h : Slot.jar b ∈ frzE ρ) : Slot.jar b ∈ ρ := by
  obtain ⟨i, hi⟩ := mem_get h
  obtain ⟨t, ht, e⟩ := frzE_get hi
  cases t with
  | jar a => cases e; exact List.mem_of_getElem? ht
  | _ => cases e
theorem RS.unpeek {c' : Nat} (r : RS G A B c H σ ρ) (k : Kx (Aj (Bp B ρ) (frzE ρ)) (Bp B ρ) H H') (r' : RS G (Ap B ρ) (Bp B ρ) c' H' σ (frzE ρ)) : Kx (Aj B ρ) B H H' ∧ RS G A B c' H' σ ρ := by
  have kp : ∀ b o, Slot.jar b ∉ ρ → H b = some o → H' b = some o := fun b o n e => k.kept b o (fun z => z.2 ⟨z.1, fun y => n (frz_jar y)⟩) e
  have kB : Kept B H H' := fun b o n e => k.kept b o (fun z => n z.1.1) e
  refine ⟨⟨fun b o n e => kp b o (fun z => ?_) e, k.there⟩, ⟨fun i s h => (r.ro i s h).keep kB, fun i a d h => ?_, fun i a h => ?_, r.inj, r.sub, fun b z => ?_, r.len, r'.cm⟩⟩
  · obtain ⟨i, hi⟩ := mem_get z
    exact n ⟨(r.jr i b hi).2.2.2, fun y => y.2 z⟩
  · obtain ⟨s1, s2, s3, s4⟩ := r.ce i a d h
    refine ⟨s1, s2.keep kB fun o z => kp a o (fun y => ?_) z, s3, s4⟩
    obtain ⟨j, hj⟩ := mem_get y
    have := r.inj i j a _ _ h hj rfl rfl
    subst this
    rw [h] at hj; cases hj
  · obtain ⟨s1, s2, s3, s4⟩ := r.jr i a h
    have : (frzE ρ)[i]? = some (.jar a) := by unfold frzE; rw [List.getElem?_map, h]; rfl
    exact ⟨s1, (r'.jr i a this).2.1, s3, s4⟩
  · obtain ⟨o, q⟩ := r.dom b z
    exact k.there b o q
end
section
variable {X : Cx} {W : WX} {ρ : Ev} {pos : Pos} {e : Expr} {m : R D} {t : R Bool}
theorem ExM.unpeek {A B : Addr → Prop} {c c' : Nat} {H H' : Hp} {σ : L2.St} {x : Str} {d : Option D} {cls : Value} {dx : Option Addr} (r : RS (gd X) A B c' H' σ ρ) (h : flatO d = true) (q : ExM X (Bp B ρ) H' x d cls dx) : ExM X B H' x d cls dx := by
  refine ⟨q.1, ?_⟩
  have q2 := q.2
  cases d with
  | none => exact q2
  | some d =>
    obtain ⟨a, v, h1, h2, h3, h4⟩ := q2
    refine ⟨a, v, h1, h2, h3.flat h, fun z => h4 ⟨z, fun ⟨d, hd⟩ => ?_⟩⟩
    obtain ⟨i, hi⟩ := mem_get hd
    obtain ⟨s1, s2, _⟩ := r.ce i a d hi
    cases s2 with
    | lst e1 _ => rw [h2] at e1; cases e1
    | dct _ _ e1 _ _ =>
      rcases e1 with ⟨_, e1, _⟩ | ⟨_, e1, _⟩
      · rw [h2] at e1; cases e1
      · rw [h2] at e1; cases e1
/-- own objects are looked at, the answer is flat -/
theorem pu_peek (h : PuE X W e (frzE ρ) m) : PuE X W e ρ (R.flt m) := by
  intro A B c H σ Q r p
  refine h (Ap B ρ) (Bp B ρ) c H σ Q r.peek (Po.mono (fun c' d q v H' k r' rv => ?_) (fun c' x d q cls dx H' k r' ex => ?_) (Po.flt p))
  · obtain ⟨k2, r2⟩ := r.unpeek k r'
    exact q.2 v H' k2 r2 (rv.flat q.1)
  · obtain ⟨k2, r2⟩ := r.unpeek k r'
    exact q.2 cls dx H' k2 r2 (ExM.unpeek (A := A) (c := c) (H := H) r2 q.1 ex)
theorem pt_peek (h : PuT X W e (frzE ρ) t) : PuT X W e ρ (R.flx t) := by
  intro A B c H σ Q r p
  refine h (Ap B ρ) (Bp B ρ) c H σ Q r.peek (Po.mono (fun c' d q v H' k r' rv => ?_) (fun c' x d q cls dx H' k r' ex => ?_) (Po.flx p))
  · obtain ⟨k2, r2⟩ := r.unpeek k r'
    exact q v H' k2 r2 rv
  · obtain ⟨k2, r2⟩ := r.unpeek k r'
    exact q.2 cls dx H' k2 r2 (ExM.unpeek (A := A) (c := c) (H := H) r2 q.1 ex)
/-- x[e], x an own list -/
theorem pu_ixC (i : Nat) {x : Str} {px : Pos} {a : Addr} {ds : List D} (h2 : PuE X W e ρ m) (hi : ρ[i]? = some (.ce a (.list ds)) := by rfl) (hs : PlainIx e := by exact fun _ _ => rfl) (hN : X.N[i]? = some x := by rfl) (hv : Vis X.env.scope x := by first | exact Or.inl rfl | exact Or.inr (Or.inl rfl) | exact Or.inr (Or.inr rfl))
    (hd : (x == ("__debug__" : Str)) = false := by decide) (hcd : (x == ("__classdict__" : Str)) = false := by decide) : PuE X W (.Subscript (.Name x px) e pos) ρ (do let y ← m; R.of (pIx (.list ds) y)) := by
  intro A B c0 H σ Q r p
  refine (pe_ix ix_list (pe_var hN hv hd hcd) pe_wp hs).to ⟨_, (r.ce i a _ hi).1, ?_⟩
  refine h2.step r p fun c1 dy y H1 k1 ry r1 p1 => ?_
  cases ry with
  | int j =>
    obtain ⟨s1, s2, _⟩ := r1.ce i a _ hi
    cases s2 with
    | lst ha rs =>
      cases e1 : atI ds j with
      | none => have p2 : PoE X W A B σ ρ c1 H1 (R.of (atI ds j)) Q := p1; rw [e1] at p2; exact p2.bad.elim
      | some d =>
        have p2 : PoE X W A B σ ρ c1 H1 (R.of (atI ds j)) Q := p1
        rw [e1] at p2
        obtain ⟨z, e2, rz⟩ := atI_rp rs e1
        exact ⟨a, _, j, z, rfl, rfl, .of ha, e2, PoG.now p2 r1 (Same.refl H1) rz⟩
  | _ => exact p1.bad.elim
end

/-! ### own lists, changed -/
section
variable {X : Cx} {W : WX} {k : Nat} {α δ γ β : Type} {rs : Rsp β} {encL : γ → Ev} {ex ρ : Ev} {enc : α → Ev} {rest sts : List Stmt} {pos : Pos} {e e2 : Expr} {m m2 : R D} {mm : R (Fl α γ β)} {A B B1 : Addr → Prop} {c : Nat} {H H1 : Hp} {σ : L2.St} {Dd : Ends}
theorem own_chg {i : Nat} {a : Addr} {d d' : D} (r : RS (gd X) A B c H σ ρ) (hi : ρ[i]? = some (.ce a d)) (k : ∀ b o, b ≠ a → H b = some o → H1 b = some o) (h : RpC (gd X) B H1 a d') : Fr A B H B H1 ∧ RS (gd X) A B c H1 σ (ρ.set i (.ce a d')) := by
  obtain ⟨s1, s2, s3, s4⟩ := r.ce i a d hi
  refine ⟨⟨fun b o n e => k b o (fun z => n ?_) e, fun b z => .inl z, fun b o e => ?_⟩, r.chg hi k h⟩
  · subst z; exact ⟨s4, s3⟩
  · by_cases hb : b = a
    · subst hb; exact h.trk
    · exact ⟨o, k b o hb e⟩
theorem own_lst {i : Nat} {a : Addr} {ds ds' : List D} {xs xs' : List V} (r : RS (gd X) A B c H σ ρ) (hi : ρ[i]? = some (.ce a (.list ds))) (h : RpAll (gd X) B H xs' ds') : Fr A B H B (upd H a (.lst xs')) ∧ RS (gd X) A B c (upd H a (.lst xs')) σ (ρ.set i (.ce a (.list ds'))) := by
  obtain ⟨s1, s2, s3, s4⟩ := r.ce i a _ hi
  have kk : ∀ b o, b ≠ a → H b = some o → upd H a (.lst xs') b = some o := fun b o n e => by rw [upd_ne n]; exact e
  exact own_chg r hi kk (.lst upd_same (h.keep fun b o n e => kk b o (fun z => n (z ▸ s4)) e))
/-- x.append(e) -/
theorem b_app (i : Nat) {x : Str} {px pa pc : Pos} {a : Addr} {ds : List D} {f : D → R (Fl α γ β)} (h : PuE X W e ρ m) (hx : Wk ρ ex) (h2 : ∀ d, PuB X W rs encL ex rest (ρ.set i (.ce a (.list (ds ++ [d])))) enc (f d)) (hi : ρ[i]? = some (.ce a (.list ds)) := by rfl)
    (hN : X.N[i]? = some x := by rfl) (hvis : Vis X.env.scope x := by first | exact Or.inl rfl | exact Or.inr (Or.inl rfl) | exact Or.inr (Or.inr rfl)) (hd : (x == ("__debug__" : Str)) = false := by decide) (hcd : (x == ("__classdict__" : Str)) = false := by decide)
    (hbase : attributeBase (.Name x px) "append" X.env (eval (.Name x px) X.env) = eval (.Name x px) X.env := by rfl)
    (hfew : ((backTo pc (starEach (e :: []) X.env)).all (fun x => !x.1) && (backToKw pc (keywordEach [] X.env)).all (fun x => x.1.isSome)
      && decide ((e :: []).length + ([] : List Keyword).length + (if ([] : List Keyword).isEmpty then 0 else 1) < 30)) = true := by rfl)
    (hst : starEach [e] X.env = (false, eval e X.env) :: starEach [] X.env := by first | exact se_of (fun _ _ h => nomatch h) | rfl) (hline : (pa.endLine == pc.line) = true := by rfl) (hpl : (backTo pc (starEach [] X.env)).any (·.1) = false := by first | exact pl_of (by rfl) | rfl)
    (hs : swapsWith (.Call (.Attribute (.Name x px) "append" pa) [e] [] pc) none pos.line X.env = pure false := by rfl) :
    PuB X W rs encL ex (.Expr (.Call (.Attribute (.Name x px) "append" pa) [e] [] pc) pos :: rest) ρ enc (m >>= fun d => if ds.length < LINE then f d else .bad) := by
  intro A B c0 H σ Dd r p
  refine (pss_cons (ps_expr (pe_bm PySem.F.plainAttrs_list PySem.F.slot_list_append PySem.F.type_list_append mt_append (pe_var hN hvis hd hcd) (pa_cons pe_wp pa_nil hst) hbase hfew hline hst hpl) hs) pb_wp).to ?_
  obtain ⟨s1, s2, s3, s4⟩ := r.ce i a _ hi
  have ty : tyV X.K "list" (.ref a) H := by
    cases s2 with
    | lst ha _ => exact .inl ⟨rfl, _, SqL.of ha⟩
  refine ⟨_, s1, ty, ?_⟩
  refine h.stepB hx r p fun c1 d v H1 k1 rv r1 p1 => ?_
  obtain ⟨t1, t2, t3, t4⟩ := r1.ce i a _ hi
  cases t2 with
  | @lst xs _ ha rvs =>
    by_cases hl : ds.length < LINE
    · rw [if_pos hl] at p1
      obtain ⟨f1, r2⟩ := own_lst (xs := xs) r1 hi (rvs.append (.cons rv .nil))
      exact ⟨a, xs, v, rfl, rfl, ha, by rw [rvs.length, line_eq]; exact hl, h2 d A B c1 _ σ Dd r2 (PoB.from f1 p1)⟩
    · rw [if_neg hl] at p1; exact p1.bad.elim
/-- the list with the item at i exchanged -/
def setD (ds : List D) : D → D → Option (List D)
  | .int j, v => (ixN ds.length j).map fun n => ds.set n v
  | _, _ => none
theorem RpAll.set {G : Gd} {B : Addr → Prop} {H : Hp} {v : V} {d : D} (rv : Rp G B H v d) : ∀ {vs : List V} {ds : List D} (n : Nat), RpAll G B H vs ds → RpAll G B H (vs.set n v) (ds.set n d)
  | _, _, _, .nil => .nil
  | _, _, 0, .cons _ t => .cons rv t
  | _, _, n + 1, .cons r t => .cons r (RpAll.set rv n t)
/-- x[e] = e2 -/
theorem b_six (i : Nat) {x : Str} {px p2 : Pos} {a : Addr} {ds : List D} {f : List D → R (Fl α γ β)} (h : PuE X W e2 ρ m2) (h' : PuE X W e ρ m) (hx : Wk ρ ex) (h2 : ∀ ds', PuB X W rs encL ex rest (ρ.set i (.ce a (.list ds'))) enc (f ds')) (hi : ρ[i]? = some (.ce a (.list ds)) := by rfl)
    (hN : X.N[i]? = some x := by rfl) (hvis : Vis X.env.scope x := by first | exact Or.inl rfl | exact Or.inr (Or.inl rfl) | exact Or.inr (Or.inr rfl)) (hd : (x == ("__debug__" : Str)) = false := by decide) (hcd : (x == ("__classdict__" : Str)) = false := by decide)
    (ha : ∀ v, assign (.Subscript (.Name x px) e p2) X.env v = (do
      let ov ← holding [v] (eval (.Name x px) X.env)
      let iv ← holding [v, ov] (eval e X.env)
      standAt p2
      holding [v, ov, iv] (setItem ov iv v)
      release [v, ov, iv] []) := by intro _; rfl)
    (hs : swapsWithSole [.Subscript (.Name x px) e p2] e2 pos.line X.env = pure false := by rfl) (hw : swappedStores [.Subscript (.Name x px) e p2] e2 X.env = pure none := by rfl) (h1 : (assignEach [.Subscript (.Name x px) e p2] X.env).map (·.2) = [assign (.Subscript (.Name x px) e p2) X.env] := by rfl) :
    PuB X W rs encL ex (.Assign [.Subscript (.Name x px) e p2] e2 pos :: rest) ρ enc (m2 >>= fun v => m >>= fun j => R.of (setD ds j v) >>= f) := by
  intro A B c0 H σ Dd r p
  refine (pss_cons (ps_asg pe_wp (pg_sub (pe_var hN hvis hd hcd) pe_wp set_list ha) hs hw h1) pb_wp).to ?_
  refine h.stepB hx r p fun c1 d v H1 k1 rv r1 p1 => ?_
  refine ⟨_, (r1.ce i a _ hi).1, ?_⟩
  refine h'.stepB hx r1 p1 fun c2 j y H2 k2 ry r2 p2 => ?_
  obtain ⟨ds', hd', p2⟩ := p2.ofo
  cases ry with
  | int l =>
    have hd' : (ixN ds.length l).map (fun n => ds.set n d) = some ds' := hd'
    cases e1 : ixN ds.length l with
    | none => rw [e1] at hd'; cases hd'
    | some n =>
      rw [e1] at hd'
      cases hd'
      obtain ⟨t1, t2, t3, t4⟩ := r2.ce i a _ hi
      cases t2 with
      | @lst xs _ ha rvs =>
        obtain ⟨f1, r3⟩ := own_lst (xs := xs) r2 hi (RpAll.set (rv.kx k2) n rvs)
        exact ⟨a, xs, l, n, rfl, rfl, ha, by rw [rvs.length]; exact e1, h2 _ A B c2 _ σ Dd r3 (PoB.from f1 p2)⟩
  | _ => cases hd'
/-- an own object is data from now on -/
theorem b_frz (i : Nat) {a : Addr} {d : D} {mm : R (Fl α γ β)} (h2 : PuB X W rs encL ex sts (ρ.set i (.pu d)) enc mm) (hi : ρ[i]? = some (.ce a d) := by rfl) : PuB X W rs encL ex sts ρ enc mm := by
  intro A B c H σ Dd r p
  exact h2 A _ c H σ Dd (r.frz hi) (PoB.from ⟨Kept.refl, fun b z => .inl z.1, fun b o e => ⟨o, e⟩⟩ p)
/-- slots are forgotten -/
theorem b_wk {ρ' : Ev} {mm : R (Fl α γ β)} (w : Wk ρ ρ') (h2 : PuB X W rs encL ex sts ρ' enc mm) : PuB X W rs encL ex sts ρ enc mm := fun A B c H σ Dd r p => h2 A B c H σ Dd (r.wk w) p

/-! ### expressions that make a new own object -/
def relO (X : Cx) (B : Addr → Prop) (H0 : Hp) : Hp → V → D → Prop := fun H v d => ∃ a, v = .ref a ∧ H0 a = none ∧ RpC (gd X) (fun b => B b ∨ b = a) H a d
def PuO (X : Cx) (W : WX) (e : Expr) (ρ : Ev) (m : R D) : Prop := ∀ (A B : Addr → Prop) (c : Nat) (H : Hp) (σ : L2.St) (Q : VK), RS (gd X) A B c H σ ρ → PoG X W A B σ ρ c H (relO X B H) m Q → wpE X e σ H Q
theorem PuO.stepB {f : D → R (Fl α γ β)} (h : PuO X W e ρ m) (hx : Wk ρ ex) (r : RS (gd X) A B c H σ ρ) {Q : VK} (p : PoB X W rs encL ex enc A B c H (m >>= f) Dd)
    (hq : ∀ c' d v H', Kx (Aj B ρ) B H H' → relO X B H H' v d → RS (gd X) A B c' H' σ ρ → PoB X W rs encL ex enc A B c' H (f d) Dd → Q v H') : wpE X e σ H Q :=
  h A B c H σ Q r (Po.mono (fun c' d q v H' k r' rp => hq c' d v H' k rp r' q) (fun c' x d q cls dx H' k r' y => q cls dx B σ H' (Fr.kx (k.ofj r)) (r'.wk hx) y) (Po.bind p))
theorem PuO.pu (h : PuO X W e ρ m) : PuE X W e ρ m := fun A B c H σ Q r p => h A B c H σ Q r (Po.mono (fun c' d q v H' k r' ⟨a, e1, e2, e3⟩ => by
  subst e1
  exact q _ H' k r' (RpC.frz (e3.sub fun b z => .inl z) (r.nav e2))) (fun _ _ _ q => q) p)
/-- [..] -/
theorem po_lst {es : List Expr} {ms : R (List D)} (h : PuA X W es ρ ms) : PuO X W (.List es pos) ρ (do let xs ← ms; R.of (mkLst xs)) := by
  intro A B c0 H σ Q r p
  refine (pe_lst pa_wp).to ?_
  refine h.step r p fun c1 ds vs H1 k1 rs r1 p1 => ?_
  unfold mkLst at p1
  split at p1
  · rename_i hl
    refine ⟨by rw [rs.length, line_eq]; exact hl, fun q hq => PoG.now p1 r1 (same_upd hq) ⟨q, rfl, ?_, ?_⟩⟩
    · cases e : H q with
      | none => rfl
      | some o =>
        obtain ⟨o', z⟩ := k1.there q o e
        rw [hq] at z; cases z
    · exact .lst upd_same ((rs.more fun b z => z.imp id fun z => by subst z; exact hq).keep (Same.kept (same_upd hq)))
  · exact p1.bad.elim
/-- what RS is with the new object put into a slot -/
theorem RS.putN {i : Nat} {a : Addr} {s0 : Slot} (r : RS (gd X) A B c H σ ρ) (hi : i < ρ.length) (nb : ¬ B a) (hs : ownOf s0 = some a)
    (h : (∀ d, s0 = .ce a d → RpC (gd X) (fun b => B b ∨ b = a) H a d) ∧ (s0 = .jar a → Jar H a c) ∧ ∃ o, H a = some o) (hp : ∀ (i : Nat) (s : Slot), ρ[i]? = some s → Ro (gd X) (fun b => B b ∨ b = a) H σ[i]? s)
    (hc : ∀ (i : Nat) (b : Addr) (d : D), ρ[i]? = some (.ce b d) → RpC (gd X) (fun b => B b ∨ b = a) H b d) :
    RS (gd X) A (fun b => B b ∨ b = a) c H (σ.set i (some (.ref a))) (ρ.set i s0) := by
  have hi' : i < σ.length := by rw [r.len]; exact hi
  have one : ∀ {k : Nat} {t : Slot}, ρ[k]? = some t → ownOf t = some a → False := fun {k t} z e => nb (r.at z e).2.2
  refine ⟨fun j e q => ?_, fun j b e q => ?_, fun j b q => ?_, fun j k b s t q1 q2 e1 e2 => ?_, fun b z => .inl (r.sub b z), fun b z => ?_, (by rw [List.length_set, List.length_set]; exact r.len), r.cm⟩
  · rcases getE_set q with ⟨hji, z⟩ | ⟨hj, z⟩
    · rw [z]
      cases s0 with
      | ce _ _ => trivial
      | jar _ => trivial
      | _ => cases hs
    · rw [List.getElem?_set_ne (Ne.symm hj)]
      exact hp j e z
  · rcases getE_set q with ⟨rfl, z⟩ | ⟨hj, z⟩
    · subst z; cases hs
      exact ⟨by rw [List.getElem?_set_self hi'], h.1 _ rfl, fun z => nb (r.sub _ z), .inr rfl⟩
    · obtain ⟨h1, h2, h3, h4⟩ := r.ce j b e z
      exact ⟨by rw [List.getElem?_set_ne (Ne.symm hj)]; exact h1, hc j b e z, h3, .inl h4⟩
  · rcases getE_set q with ⟨rfl, z⟩ | ⟨hj, z⟩
    · subst z; cases hs
      exact ⟨by rw [List.getElem?_set_self hi'], h.2.1 rfl, fun z => nb (r.sub _ z), .inr rfl⟩
    · obtain ⟨h1, h2, h3, h4⟩ := r.jr j b z
      exact ⟨by rw [List.getElem?_set_ne (Ne.symm hj)]; exact h1, h2, h3, .inl h4⟩
  · rcases getE_set q1 with ⟨rfl, z⟩ | ⟨hj, z⟩
    · subst z
      rw [hs] at e1; cases e1
      rcases getE_set q2 with ⟨rfl, z'⟩ | ⟨hk, z'⟩
      · rfl
      · exact (one z' e2).elim
    · rcases getE_set q2 with ⟨rfl, z'⟩ | ⟨hk, z'⟩
      · subst z'; rw [hs] at e2; cases e2; exact (one z e1).elim
      · exact r.inj j k b s t z z' e1 e2
  · rcases z with z | z
    · exact r.dom b z
    · subst z; exact h.2.2
/-- .. behind an expression that made it -/
theorem RS.putM {i : Nat} {a : Addr} {s0 : Slot} {c' : Nat} (r0 : RS (gd X) A B c H σ ρ) (kx : Kx (Aj B ρ) B H H1) (r : RS (gd X) A B c' H1 σ ρ) (hi : i < ρ.length) (h0 : H a = none) (hs : ownOf s0 = some a)
    (h : (∀ d, s0 = .ce a d → RpC (gd X) (fun b => B b ∨ b = a) H1 a d) ∧ (s0 = .jar a → Jar H1 a c') ∧ ∃ o, H1 a = some o) :
    Fr A B H (fun b => B b ∨ b = a) H1 ∧ RS (gd X) A (fun b => B b ∨ b = a) c' H1 (σ.set i (some (.ref a))) (ρ.set i s0) := by
  have mr : ∀ b, (B b ∨ b = a) → B b ∨ H b = none := fun b z => z.imp id fun z => by subst z; exact h0
  have kk : Kept (fun b => B b ∨ b = a) H H1 := fun b o n e => kx.kept b o (fun z => n (.inl z.1)) e
  refine ⟨⟨(kx.ofj r0).kept, mr, kx.there⟩, r.putN hi (r0.nav h0) hs h (fun j s e => ((r0.ro j s e).more mr).keep kk) fun j b d e => ?_⟩
  obtain ⟨e1, e2, e3, e4⟩ := r0.ce j b d e
  have hb : ∀ o, H b = some o → H1 b = some o := fun o z => kx.kept b o (fun y => y.2 ⟨y.1, fun w => by
    obtain ⟨l, hl⟩ := mem_get w
    have := r0.inj j l b _ _ e hl rfl rfl
    subst this
    rw [e] at hl; cases hl⟩) z
  cases e2 with
  | lst q1 q2 => exact .lst (hb _ q1) ((q2.more mr).keep kk)
  | dct e1 e2 q1 q2 q3 => exact .dct e1 e2 (q1.keep hb) ((q2.more mr).keep kk) ((q3.more mr).keep kk)
end
end Pu

set_option maxHeartbeats 2000000
/-! P9: new own objects into names and back; loops. -/
namespace Pu
open PySem PySem.Spec L2
section
variable {X : Cx} {W : WX} {k : Nat} {α δ γ β : Type} {rs : Rsp β} {encL : γ → Ev} {ex ρ : Ev} {enc : α → Ev} {rest sts : List Stmt} {pos : Pos} {e e2 : Expr} {m m2 : R D} {mm : R (Fl α γ β)} {A B B1 : Addr → Prop} {c : Nat} {H H1 : Hp} {σ : L2.St} {Dd : Ends}
/-- x = e, x's own from now on -/
theorem b_setO (i : Nat) {x : Str} {px : Pos} {f : D → R (Fl α γ β)} (nd : X.N.Nodup) (h : PuO X W e ρ m) (hx : Wk ρ ex) (h2 : ∀ d a, PuB X W rs encL ex rest (ρ.set i (.ce a d)) enc (f d)) (hi : i < ρ.length := by simp) (hN : X.N[i]? = some x := by rfl)
    (hl : Loc X.env.scope x := by first | exact Or.inl rfl | exact Or.inr rfl) (hs : swapsWith e (some (.Name x px)) pos.line X.env = pure false := by rfl)
    (hf : X.fn x = true ∨ X.env.scope.names.lookup x = some .local := by first | exact .inl rfl | exact .inr rfl | assumption) : PuB X W rs encL ex (.Assign [.Name x px] e pos :: rest) ρ enc (m >>= f) := by
  intro A B c H σ Dd r p
  refine (pss_cons (ps_set nd hN hl pe_wp hs hf) pb_wp).to ?_
  refine h.stepB hx r p fun c' d v H' k ⟨a, e1, h0, rc⟩ r' p' => ?_
  subst e1
  obtain ⟨f1, r2⟩ := r.putM (s0 := .ce a d) k r' hi h0 rfl ⟨fun d e => (by cases e; exact rc), fun e => (by cases e), rc.trk⟩
  exact h2 d a A _ c' H' _ Dd r2 (PoB.from f1 p')
/-- what may become a jar -/
noncomputable def jarD : D → Bool
  | .list [.int x, .int y, .int t] => cIf (0 ≤ x ∧ x < 2 ^ 1000 ∧ 0 ≤ y ∧ y < 2 ^ 1000 ∧ 0 ≤ t ∧ t ≤ CMAX) true false
  | _ => false
theorem jar_of {G : Gd} {B : Addr → Prop} {H : Hp} {a : Addr} {d : D} {c : Nat} (r : RpC G B H a d) (h : jarD d = true) (hc : c ≤ CMAX) : Jar H a c := by
  unfold jarD at h
  split at h
  · rename_i x y t
    unfold cIf at h
    split at h
    rotate_left
    · cases h
    rename_i h'
    replace h := h'
    cases r with
    | lst e rs =>
      cases rs with
      | cons r1 rs =>
        cases rs with
        | cons r2 rs =>
          cases rs with
          | cons r3 rs =>
            cases rs; cases r1; cases r2; cases r3
            refine ⟨x, y, t, e, h.1, h.2.1, h.2.2.1, h.2.2.2.1, h.2.2.2.2.1, ?_⟩
            have h6 := h.2.2.2.2.2
            have e1 : JMAX = CMAX + CMAX := by unfold JMAX CMAX; rw [← Nat.two_mul, ← Nat.pow_succ']
            rw [e1]
            omega
  · cases h
/-- x = e, a jar -/
theorem b_setJ (i : Nat) {x : Str} {px : Pos} {f : R (Fl α γ β)} (nd : X.N.Nodup) (h : PuO X W e ρ m) (hx : Wk ρ ex) (h2 : ∀ a, PuB X W rs encL ex rest (ρ.set i (.jar a)) enc f) (hi : i < ρ.length := by simp) (hN : X.N[i]? = some x := by rfl)
    (hl : Loc X.env.scope x := by first | exact Or.inl rfl | exact Or.inr rfl) (hs : swapsWith e (some (.Name x px)) pos.line X.env = pure false := by rfl)
    (hf : X.fn x = true ∨ X.env.scope.names.lookup x = some .local := by first | exact .inl rfl | exact .inr rfl | assumption) : PuB X W rs encL ex (.Assign [.Name x px] e pos :: rest) ρ enc (m >>= fun d => if jarD d = true then f else .bad) := by
  intro A B c H σ Dd r p
  refine (pss_cons (ps_set nd hN hl pe_wp hs hf) pb_wp).to ?_
  refine h.stepB hx r p fun c' d v H' k ⟨a, e1, h0, rc⟩ r' p' => ?_
  subst e1
  by_cases hj : jarD d = true
  · rw [if_pos hj] at p'
    obtain ⟨f1, r2⟩ := r.putM (s0 := .jar a) k r' hi h0 rfl ⟨fun d e => (by cases e), fun _ => jar_of rc hj r'.cm, rc.trk⟩
    exact h2 a A _ c' H' _ Dd r2 (PoB.from f1 p')
  · rw [if_neg hj] at p'; exact p'.bad.elim
/-- return e, e new and handed over -/
theorem b_retE {mk : D → β} (h : PuO X W e ρ m) (hx : Wk ρ ex) (ho : rs.own = true := by rfl) (hv : ∀ d, rs.val (mk d) = d := by exact fun _ => rfl) (hfin : ∀ (d : D), rs.fin (mk d) = [] := by exact fun _ => rfl) (hjr : ∀ a ∈ rs.jars, Slot.jar a ∈ ρ := by simp) : PuB X W rs encL ex (.Return (some e) pos :: rest) ρ enc (m >>= fun d => .ok (.rt (mk d))) := by
  intro A B c H σ Dd r p
  refine (pss_cons (ps_ret pe_wp) pss_never).to ?_
  refine h.stepB hx r p fun c' d v H' k ⟨a, e1, h0, rc⟩ r' p' => ?_
  subst e1
  have nb := r.nav h0
  refine p'.rt (B' := fun b => B b ∨ b = a) ⟨(k.ofj r).kept, fun b z => z.imp id fun z => by subst z; exact h0, k.there⟩ ⟨?_, fun q hq => ?_, fun b hb => ⟨(r'.jars hjr b hb).1, .inl (r'.jars hjr b hb).2⟩, fun b z => ?_, fun b z => .inl (r'.sub b z)⟩
  · rw [ho, if_pos rfl, hv]
    exact ⟨a, rfl, rc, .inr rfl, fun z => nb (r.sub a z), fun z => nb (r'.jars hjr a z).2⟩
  · rw [hfin] at hq; cases hq
  · rcases z with z | z
    · exact r'.dom b z
    · subst z; exact rc.trk
/-- a call that hands over a new own object -/
theorem po_call {x : Str} {p : Pos} {es : List Expr} {ks : List Bool} {js : List Addr} {ms : R (List D)} {f : Addr} {fd : FuncData} {ps : List Str} {mir : List D → R D} (tk : Takes X W) (hr : Room k X.A) (F : FnOk X.prog X.w X.K X.mg X.base (L2.CX X.prog X.w) k f fd ps (spD (gd X) X.mg true ks mir))
    (hm : X.mg x = some (.ref f)) (hk : PySem.W.keepIn X.K (.ref f) = true) (hb : Binds X.K fd ps []) (ha : PuJ X W (e :: es) ρ ks js ms) (hg : Gl X x := by rfl) (hnd : js.Nodup := by simp) (hjs : ∀ a ∈ js, Slot.jar a ∈ ρ := by simp)
    (hdb : (x == ("__debug__" : Str)) = false := by decide) (he : starEach (e :: es) X.env = (false, eval e X.env) :: starEach es X.env := by first | exact se_of (fun _ _ h => nomatch h) | rfl) (hpl : (backTo pos (starEach es X.env)).any (·.1) = false := by first | exact pl_of (by rfl) | rfl) :
    PuO X W (.Call (.Name x p) (e :: es) [] pos) ρ (do let ds ← ms; mir ds) := fun A B c0 H σ Q r q =>
  call_g tk hr F hm hk hb ha hg hnd hjs hdb he hpl r (Po.mono (fun c' d q v H' k r' ⟨H1, n, b⟩ => q v H' k r' (by
    unfold Back at b
    rw [if_pos rfl] at b
    obtain ⟨a, e1, e2, e3⟩ := b
    exact ⟨a, e1, n a e2, e3⟩)) (fun _ _ _ q => q) q)

/-! ### loops -/
/-- for: the items ds, the loop's slots s -/
def forR {T S γ' β : Type} (dec : D → Option T) (step : T → S → R (Fl S S β)) : List D → S → R (Fl S γ' β)
  | [], s => .ok (.nx s)
  | d :: ds, s => R.of (dec d) >>= fun t => step t s >>= fun
    | .nx s' => forR dec step ds s'
    | .ct s' => forR dec step ds s'
    | .bk s' => .ok (.nx s')
    | .rt r => .ok (.rt r)
theorem b_for {S T : Type} {enc0 : S → Ev} {sl : List Nat} {dec : D → Option T} {env : T → Ev → Ev} {step : T → S → R (Fl S S β)} {mi : R (List D)} (s0 : S) {f : S → R (Fl α γ β)} {tg iter : Expr} {body : List Stmt}
    (F : Fx X W k) (hi : PuI X W tg iter ρ mi) (hx : Wk ρ ex) (w0 : Wk ρ (enc0 s0)) (hg : PuG X tg sl dec env) (hsl : ∀ s, ∀ i ∈ sl, i < (enc0 s).length)
    (hb : ∀ t s, PuB X W rs enc0 ex body (env t (enc0 s)) enc0 (step t s)) (h2 : ∀ s, PuB X W rs encL ex rest (enc0 s) enc (f s)) (hfs : ∀ x, foldedSetIterable iter X.env x = pure x := by intro _; rfl) :
    PuB X W rs encL ex (.For tg iter body [] pos :: rest) ρ enc (mi >>= fun ds => Fl.then (forR dec step ds s0) f) := by
  intro A B c H σ Dd r p
  refine (pss_cons (ps_for F.po F.calm pi_wp pg_wp pb_wp hfs) pb_wp).to ?_
  refine hi.stepB hx r p fun c1 ds J H1 k1 yl r1 p1 => ?_
  let N : Nat → L2.St → Hp → Prop := fun i σ' H' => ∃ c' B' s, Fr A B H1 B' H' ∧ RS (gd X) A B' c' H' σ' (enc0 s) ∧ PoB X W rs encL ex enc A B' c' H' (Fl.then (forR dec step (ds.drop i) s) f) Dd
  refine ⟨fun i n σ' H' => n = ds.length - i ∧ i ≤ ds.length ∧ N i σ' H', ⟨ds.length, by simp, Nat.zero_le _, c1, B, s0, Fr.refl, r1.wk w0, p1⟩, ?_⟩
  rintro i n σ' H' ⟨rfl, hile, c', B', s, fr, rs', pl⟩
  have hBt : ∀ b, (B b ∨ B' b) → B b ∨ H1 b = none := fun b z => z.elim .inl (fr.new b)
  have kBt : Kept (fun b => B b ∨ B' b) H1 H' := fun b o n e => fr.kept b o (fun z => n (.inl z.1)) e
  have iBt : InH (fun b => B b ∨ B' b) H' := fun b z => z.elim (fun z => let ⟨o, q⟩ := r1.dom b z; fr.there b o q) (rs'.dom b)
  by_cases hlt : i < ds.length
  · refine .inr ?_
    have hdi : ds[i]? = some ds[i] := by simp [hlt]
    obtain ⟨hgo, hyld⟩ := yl.go (fun b => B b ∨ B' b) i H' ds[i] hBt kBt iBt hdi
    refine ⟨hgo, N (i + 1), fun σ'' H2 h2 => ⟨ds.length - (i + 1), by omega, rfl, hlt, h2⟩, fun x H2 y => ?_⟩
    obtain ⟨s2, rx⟩ := hyld x H2 y
    rw [List.drop_eq_getElem_cons hlt] at pl
    unfold forR at pl
    rw [Fl.then_bind] at pl
    obtain ⟨t, hdec, pl⟩ := pl.ofo
    rw [Fl.then_bind] at pl
    refine hg A B' c' H2 _ _ x ds[i] t _ (rs'.ext s2) (rx.sub fun b z => .inr z) hdec (hsl s) fun σ2 rs2 _ => ?_
    refine hb t s A B' c' H2 σ2 _ rs2 (Po.mono (fun c2 fl q => ?_) (fun c2 y d q cls dx B2 σ3 H3 g r3 ee => ?_) (Po.bind pl))
    · cases fl with
      | nx s' => exact fun B2 σ3 H3 g r3 => ⟨c2, B2, s', fr.trans ((Fr.same s2).trans g), r3, PoB.from ((Fr.same s2).trans g) q⟩
      | ct s' => exact fun B2 σ3 H3 g r3 => ⟨c2, B2, s', fr.trans ((Fr.same s2).trans g), r3, PoB.from ((Fr.same s2).trans g) q⟩
      | bk s' =>
        have q : PoB X W rs encL ex enc A B' c2 H' (f s') Dd := q
        exact fun B2 σ3 H3 g r3 => h2 s' A B2 c2 H3 σ3 Dd r3 (PoB.from ((Fr.same s2).trans g) q)
      | rt v =>
        have q : PoB X W rs encL ex enc A B' c2 H' (.ok (.rt v)) Dd := q
        exact fun u B2 H3 g r3 => q.rt ((Fr.same s2).trans g) r3
    · exact q cls dx B2 σ3 H3 ((Fr.same s2).trans g) r3 ee
  · have ei : i = ds.length := by omega
    subst ei
    refine .inl ⟨yl.stop _ H' hBt kBt, ?_⟩
    rw [List.drop_length] at pl
    exact h2 s A B' c' H' σ' Dd rs' pl
/-- while, with fuel -/
def whileR {S γ' β : Type} (t : S → R Bool) (step : S → R (Fl S S β)) : Nat → S → R (Fl S γ' β)
  | 0, _ => .bad
  | n + 1, s => t s >>= fun b => if b = true then (step s >>= fun
    | .nx s' => whileR t step n s'
    | .ct s' => whileR t step n s'
    | .bk s' => .ok (.nx s')
    | .rt r => .ok (.rt r)) else .ok (.nx s)
theorem b_while {S : Type} {enc0 : S → Ev} {t : S → R Bool} {step : S → R (Fl S S β)} (n : Nat) (s0 : S) {f : S → R (Fl α γ β)} {tst : Expr} {body : List Stmt}
    (F : Fx X W k) (hx : ∀ s, Wk (enc0 s) ex) (w0 : Wk ρ (enc0 s0)) (ht : ∀ s, PuT X W tst (enc0 s) (t s))
    (hb : ∀ s, PuB X W rs enc0 ex body (enc0 s) enc0 (step s)) (h2 : ∀ s, PuB X W rs encL ex rest (enc0 s) enc (f s)) :
    PuB X W rs encL ex (.While tst body [] pos :: rest) ρ enc (Fl.then (whileR t step n s0) f) := by
  intro A B c H σ Dd r p
  refine (pss_cons (ps_while F.po pt_wp pb_wp) pb_wp).to ?_
  refine ⟨fun n σ' H' => ∃ c' B' s, RS (gd X) A B' c' H' σ' (enc0 s) ∧ PoB X W rs encL ex enc A B' c' H' (Fl.then (whileR t step n s) f) Dd, ⟨n, c, B, s0, r.wk w0, p⟩, ?_⟩
  rintro n σ' H' ⟨c', B', s, rs', pl⟩
  cases n with
  | zero => exact (show False from PoB.bad (by simpa [whileR] using pl)).elim
  | succ n =>
    unfold whileR at pl
    rw [Fl.then_bind] at pl
    refine (ht s).stepB (hx s) rs' pl fun c2 b H2 k2 r2 p2 => ?_
    cases b with
    | false =>
      rw [if_neg Bool.false_ne_true] at p2 ⊢
      exact h2 s A B' c2 H2 σ' Dd r2 p2
    | true =>
      rw [if_pos rfl] at p2 ⊢
      refine ⟨fun σ'' H'' => ∃ c' B' s, RS (gd X) A B' c' H'' σ'' (enc0 s) ∧ PoB X W rs encL ex enc A B' c' H'' (Fl.then (whileR t step n s) f) Dd, fun σ'' H'' h => ⟨n, Nat.lt_succ_self n, h⟩, ?_⟩
      rw [Fl.then_bind] at p2
      refine hb s A B' c2 H2 σ' _ r2 (Po.mono (fun c3 fl q => ?_) (fun _ _ _ q => q) (Po.bind p2))
      cases fl with
      | nx s' => exact fun B2 σ3 H3 g r3 => ⟨c3, B2, s', r3, PoB.from g q⟩
      | ct s' => exact fun B2 σ3 H3 g r3 => ⟨c3, B2, s', r3, PoB.from g q⟩
      | bk s' =>
        have q : PoB X W rs encL ex enc A B' c3 H2 (f s') Dd := q
        exact fun B2 σ3 H3 g r3 => h2 s' A B2 c3 H3 σ3 Dd r3 (PoB.from g q)
      | rt v =>
        have q : PoB X W rs encL ex enc A B' c3 H2 (.ok (.rt v)) Dd := q
        exact fun u B2 H3 g r3 => q.rt g r3
end
end Pu

set_option maxHeartbeats 4000000
/-! PX: an own error whose __init__ says super().__init__(index), then self.index = index. -/
namespace Pu
namespace Sup
open PySem PySem.W PySem.Calls PyProof.Rows PySem.HandSPX
def iA (p1 p2 : Pos) : Arguments := { posonlyargs := [], args := [{ arg := "self", annotation := none, pos := p1 }, { arg := "index", annotation := none, pos := p2 }], vararg := none, kwonlyargs := [], kw_defaults := [], kwarg := none, defaults := [] }
def iB (a0 a1 a2 a3 a4 a5 b1 b2 b3 b4 : Pos) : List Stmt := [.Expr (.Call (.Attribute (.Call (.Name "super" a0) [] [] a1) "__init__" a2) [.Name "index" a3] [] a4) a5, .Assign [.Attribute (.Name "self" b1) "index" b2] (.Name "index" b3) b4]
def iS : Scope := { kind := .function, names := [(PySem.Str.ofString "self", .local), (PySem.Str.ofString "index", .local), (PySem.Str.ofString "__class__", .free), (PySem.Str.ofString "super", .globalImplicit)], isGenerator := false, isCoroutine := false, more := [] }
abbrev bVE : List Value := [.type "ValueError", .type "Exception", .type "BaseException", .type "object"]
/-- what the written part says of the class x, at C, and of its __init__, at fI -/
structure Txt (P : Program) (K : Frag) (mg : Str → Option Value) (x : Str) (qual : String) (C fI cda cc : Addr) : Prop where
  gC : mg x = some (.ref C)
  cls : ∃ nm q N bs bm sn sub ab col dd k0 k1 k2 k3 k5, K.lookup C = some (excClassObj nm q C N bs bm true sn sub ab col dd k0 k1 k2 k3 k5 "ValueError.__new__") ∧ refsVE bm = true
  sa : findIn K (.ref C) "__setattr__" = some (some (.builtin "object.__setattr__"))
  noN : findIn K (.ref C) "index" = some none
  iC : findIn K (.ref C) "__init__" = some (some (.ref fI))
  tC : typeIn K (.ref fI) = some (.type "function")
  kC : keepIn K (.ref C) = true
  exC : subIn K (.ref C) (.type "BaseException") = some true
  tyC : typeIn K (.ref C) = some (.type "type")
  init : excInitIn K C bVE "ValueError.__new__" = true
  sup : ks_superIn K C C "__init__" = some (some (.builtin "ValueError.__init__"))
  subV : subIn K (.ref C) (.type "ValueError") = some true
  self : mroIn K C (.ref C) = some true
  noSup : mg "super" = none
  opq : nsIn K cStatics "thirdparty.any" = some none
  cell : ∃ cl cld csl, K.lookup cc = some ⟨cl, cld, .cell (some (.ref C)), csl⟩
  code : ∃ ccl cdd vs ccs file tf, K.lookup cda = some ⟨ccl, cdd, .fields vs, ccs⟩ ∧ vs[2]? = some (.str file tf) ∧ ((P.main.file : Str) == file) = true
  top : (P.main.scope.names.lookup ("super" : Str)).isSome = false
  fn : ∃ (oc : Value) (od : Option Addr) (doc pm : Value) (an : Option Addr) (ct kV : Value) (osl : Array (Option Value)) (p1 p2 a0 a1 a2 a3 a4 a5 b1 b2 b3 b4 : Pos),
    (a2.endLine == a4.line) = true ∧ K.lookup fI = some ⟨oc, od, .func (ksFn "__init__" qual (iA p1 p2) (iB a0 a1 a2 a3 a4 a5 b1 b2 b3 b4) iS .none kV doc pm an (.ref cda) ct cc), osl⟩ ∧ codeIn K (.ref cda) qual = true
/-- what __init__ leaves of a fresh exception at x -/
structure Left (h h' : Heap) (x C dx t1 : Addr) (v : Value) : Prop where
  keep : ∀ b o, b ≠ x → h.get? b = some o → h'.get? b = some o
  obj : h'.get? x = some { cls := .ref C, dict := some dx, data := .fields #[.ref t1, .none, .none, .none, .bool false, .none] }
  dbig : h.objs.size ≤ dx
  dne : dx ≠ x
  ns : h'.Ns1 dx (fun y => if y = "index" then some v else none)
/-- a made error -/
structure Made (h h' : Heap) (e C d : Addr) (v : Value) : Prop where
  keep : ∀ b o, h.get? b = some o → h'.get? b = some o
  new : h.objs.size ≤ e
  obj : ∃ oe vs, h'.get? e = some oe ∧ oe.cls = .ref C ∧ oe.dict = some d ∧ oe.data = .fields vs ∧ vs[1]? = some .none
  dbig : h.objs.size ≤ d
  dne : d ≠ e
  ns : h'.Ns1 d (fun y => if y = "index" then some v else none)
section
variable {prog : Program} {w : World} {A : Around} {E : Value → Shared → Prop} {R : Result → Shared → Prop} {s : Shared} {K : Frag} {mg : Str → Option Value} {nx : Str} {qual : String} {C fI cda cc : Addr}
/-- ValueError.__init__, bound to the error x, called with one value -/
theorem call_mw {h : Heap} {g : Array GenState} {d : Drawn} {t : Nat} {os : OsState} {u x t0 : Addr} {v : Value} {Q : Value → Shared → Prop} (X : K.In h) (q : excInitIn K C bVE "ValueError.__new__" = true) (hx : h.get? x = some (excO C t0)) (hu : h.get? u = some (kxs_mw "ValueError.__init__" x))
    (hq : ∀ h' t1, (∀ b o, b ≠ x → h.get? b = some o → h'.get? b = some o) → h'.get? x = some (excO C t1) → Q .none ⟨h', g, d, t, os⟩) : wpAny (model prog w) A (call (.ref u) [v]) Q E ⟨h, g, d, t, os⟩ := by
  obtain ⟨nm, N', qn, bs, bm, hdct, sn, sub, ab, col, dd, k0, k1, k2, k3, k5, hC, hT⟩ := excInit_of X q
  refine wpAny_call (codeAny_of_tree (show wpAny _ A.in1 (callAny (.ref u) ⟨[v], []⟩) _ _ _ from ?_))
  simp only [callAny]
  refine wpAny_bind (wpAny_load hu ?_)
  simp only [kxs_mw]
  refine KFB.if_so (by decide) (wpAny_bind (check_bound_init F.excBase_ValueError.toExcCallFacts hC hx rfl (wpAny_bind (wpAny_pure (wpAny_pure ⟨plainId_quiet F.excBase_ValueError.init.plain _, codeAny_builtin F.excBase_ValueError.initEntry ?_⟩)))))
  exact exc_init_tree (cls := .ref C) (t0 := t0) (dv := none) (c2 := .none) (c3 := .none) (b4 := .bool false) hx (by show 1 ≤ sizeLine; rw [sizeLine_eq]; omega) fun h' k e _ => hq h' _ k e
theorem sup_init (T : Txt prog K mg nx qual C fI cda cc) {x t0 : Addr} {v : Value} (X : K.In s.heap) (hg : s.heap.Ns mainGlobals mg) (hb : ∃ mb, s.heap.Ns builtinsNs mb ∧ ∀ y : Str, y ≠ "__name__" → mb y = bootBuiltins y) (hlim : s.heap.NoLimit) (hx : s.heap.get? x = some (excO C t0)) (hnx : K.lookup x = none) (hroom : A.depth < recursionLimit)
    (hq : ∀ h' tk dx t1, Left s.heap h' x C dx t1 v → R (.ok (.ret .none)) { s with heap := h', toks := tk }) :
    codeAny (model prog w) A (.call (.ref fI) ⟨[.ref x, v], []⟩) R s := by
  obtain ⟨oc, od, doc, pm, an, ct, kV, osl, p1, p2, a0, a1, a2, a3, a4, a5, b1, b2, b3, b4, hline, ho, hcd⟩ := T.fn
  obtain ⟨nm, q, N, bs, bm, sn, sub, ab, col, dd, k0, k1, k2, k3, k5, hC, hbm⟩ := T.cls
  obtain ⟨cl, cld, csl, hcell⟩ := T.cell
  obtain ⟨ccl, cdd, vs, ccs, file, tf, hcode, hvs, hfile⟩ := T.code
  have hcl : clsIn K C = some { name := nm, bases := bs, mro := .ref C :: bm, ns := N, qualname := q, hasDict := true, slotNames := sn, subclasses := sub, abstract := ab, collection := col, hasDel := false } := by unfold clsIn; rw [hC] <;> rfl
  obtain ⟨mb, hb1, hb2⟩ := hb
  refine ks_codeAny_call_defAt (binds := [("self", .ref x), ("index", v)]) hroom (X _ _ ho) rfl hlim (codeRec_of X hcd) rfl (BindsTo.of_eq (by first | rfl | with_unfolding_all rfl)) (show ∀ y ∈ iS.names, y.2 ≠ .cell from by decide +kernel) (fun y hy => ?_) (fun h₁ hn k => ?_) rfl rfl rfl
  · rcases List.mem_cons.mp hy with rfl | hy
    · exact (by decide +kernel : List.lookup ("self" : Str) iS.names = some NameKind.local)
    · rcases List.mem_cons.mp hy with rfl | hy
      · exact (by decide +kernel : List.lookup ("index" : Str) iS.names = some NameKind.local)
      · cases hy
  have hxL : x ≠ s.heap.objs.size := Nat.ne_of_lt (Heap.lt_size hx)
  have X₁ : K.In h₁ := X.keeps k
  have hx₁ := k _ _ hx
  have hm1 : (fun y => ([("self", Value.ref x), ("index", v)] : List (Str × Value)).reverse.lookup y) "self" = some (.ref x) := by first | rfl | kernel_rfl
  have hm2 : (fun y => ([("self", Value.ref x), ("index", v)] : List (Str × Value)).reverse.lookup y) "index" = some v := by first | rfl | kernel_rfl
  obtain ⟨hp, g, d, t, os⟩ := s
  -- super().__init__(index)
  refine ks_wpAt_execs_cons (ks_wpAt_Expr_any (ks_wpAt_MethodCall (ks_wpAt_super_base (by first | rfl | kernel_rfl) (by first | rfl | kernel_rfl) (by decide +kernel) rfl (X₁ _ _ ho) rfl rfl rfl (X₁ _ _ hcode) rfl hvs hfile T.top ?_) (pl := (do return (← importBound (.Call (.Name "super" a0) [] [] a1) (ksEnv qual iS hp.objs.size fI (.ref cda) cc)).getD true)) ?_))
  rotate_left
  · have hpos : methodCallPos true (.Call (.Name "super" a0) [] [] a1) (ksEnv qual iS hp.objs.size fI (.ref cda) cc) a2 a4 = pure a4 := by unfold methodCallPos; simp [hline]
    rw [arm_eval_Call]
    have hform : ∀ ov, methodCall (.Call (.Name "super" a0) [] [] a1) "__init__" a2 a4 (ksEnv qual iS hp.objs.size fI (.ref cda) cc) ov 1 (backTo a4 (starEach [.Name "index" a3] (ksEnv qual iS hp.objs.size fI (.ref cda) cc))) [] = (do
      let (f, first) ← holding [ov] (getMethod ov "__init__" (do return (← importBound (.Call (.Name "super" a0) [] [] a1) (ksEnv qual iS hp.objs.size fI (.ref cda) cc)).getD true))
      callWith a4 f first (backTo a4 (starEach [.Name "index" a3] (ksEnv qual iS hp.objs.size fI (.ref cda) cc))) []) := fun ov => by
      unfold methodCall
      rw [show methodCallForm 1 (backTo a4 (starEach [.Name "index" a3] (ksEnv qual iS hp.objs.size fI (.ref cda) cc))) [] = true from rfl, hpos]
      rfl
    exact congrArg _ (funext fun ov => congrArg _ (funext fun _ => hform ov))
  refine ks_loadName_global rfl (by first | rfl | kernel_rfl) (loadGlobal_builtin (show h₁.Ns mainGlobals mg from hg.keeps k) T.noSup (show h₁.Ns builtinsNs mb from hb1.keeps k) ((hb2 _ (by decide +kernel)).trans (by decide +kernel)) ⟨rfl, ?_⟩)
  refine wpAny_loadName_free rfl (by first | rfl | kernel_rfl) rfl ⟨_, X₁ _ _ hcell, rfl⟩ ?_
  refine wpAny_loadName_local rfl (by first | rfl | kernel_rfl) hn hm1 ?_
  have hCo : h₁.get? C = some _ := X₁ _ _ hC
  refine ks_wpAny_isType_cls hCo rfl ⟨rfl, ?_⟩
  refine ks_wpAny_call_super hCo rfl hx₁ rfl (fun c e => by cases e) (looks_mroIn X₁ T.self) (fun h₂ hso k2 => ?_)
  have X₂ : K.In h₂ := X₁.keeps k2
  have hx₂ := k2 _ _ hx₁
  have hn₂ := hn.keeps k2
  have hsup : alongIn K "__init__" (((Value.ref C :: bm).dropWhile (· != .ref C)).drop 1) = some (some (.builtin "ValueError.__init__")) := by
    have z := T.sup
    unfold ks_superIn at z
    rw [hcl] at z
    exact z
  have I₂ : InstAt h₂ x (excO C t0) C none := ⟨hx₂, rfl, rfl, trivial⟩
  refine kxs_getMethod kxs_ValueError hso (looks_opaque X₂ T.opq) (l₀ := .ref C :: bm) (fun A Q E s k q => wpAny_bind ((looks_clsIn X₂ hcl) A _ E s k (wpAny_pure q))) rfl X₂ hsup (I₂.type.andThen (looks_subIn X₂ T.subV)) (ks_ne X₂ I₂ hcl) (by decide +kernel) ?_
  have hu3 : (h₂.push (kxs_mw "ValueError.__init__" x)).get? h₂.objs.size = some (kxs_mw "ValueError.__init__" x) := Heap.get?_push_at rfl rfl
  have k3 : ∀ b o, h₂.get? b = some o → (h₂.push (kxs_mw "ValueError.__init__" x)).get? b = some o := fun b o e => Heap.get?_push_of_some _ e
  refine kxs_callWith (i := "ValueError.__init__") (x := x) rfl (evalArgs_plain (spliced_cons (wpAny_Name (wpAny_loadName_local rfl (by first | rfl | kernel_rfl) (hn₂.keeps k3) hm2 (spliced_nil ⟨hu3, ?_⟩)) (by decide))))
  refine call_mw (X₂.keeps k3) T.init (k3 _ _ hx₂) hu3 fun h₄ t1 k4 hx4 => ?_
  have kk : ∀ b o, b ≠ x → h₁.get? b = some o → h₄.get? b = some o := fun b o n e => k4 b o n (k3 b o (k2 b o e))
  have X₄ : K.In h₄ := fun a o e => by
    have z := X₁ a o e
    exact kk a o (fun y => by rw [y, hnx] at e; cases e) z
  have hn₄ := hn.at (h' := h₄) fun o e => kk _ o (Ne.symm hxL) e
  -- self.index = index
  refine ks_wpAt_execs_cons (ks_wpAt_Assign_Attr (wpAt_of_wpAny (wpAny_Name (wpAny_loadName_local rfl (by first | rfl | kernel_rfl) hn₄ hm2 (wpAny_Name (wpAny_loadName_local rfl (by first | rfl | kernel_rfl) hn₄ hm1 ?_) (by decide))) (by decide))))
  refine set_plain X₄ (ox := excO C t1) (od := none) ⟨hx4, rfl, rfl, trivial⟩ T.sa (exc_osa X₄ hx4 hcl (show refsVE (.ref C :: bm) = true from hbm) rfl T.noN fun h₅ tk₅ dx k₅ dn dne hx₅ hn₅ => ?_)
  have z : hp.objs.size < h₄.objs.size := hn₄.lt
  exact wpAt_of_wpAny (wpAny_execs_nil (hq h₅ tk₅ dx t1 ⟨fun b o hb e => k₅ b o hb (kk b o hb (k b o e)), hx₅, Nat.le_of_lt (Nat.lt_of_lt_of_le z dn), dne, hn₅⟩))
theorem sup_made (T : Txt prog K mg nx qual C fI cda cc) {v : Value} (X : K.In s.heap) (hg : s.heap.Ns mainGlobals mg) (hb : ∃ mb, s.heap.Ns builtinsNs mb ∧ ∀ y : Str, y ≠ "__name__" → mb y = bootBuiltins y) (hlim : s.heap.NoLimit) (hroom : A.depth + 1 < recursionLimit)
    (hq : ∀ h' tk e d, Made s.heap h' e C d v → R (.ok (.ret (.ref e))) { s with heap := h', toks := tk }) :
    codeAny (model prog w) A (.call (.ref C) ⟨[v], []⟩) R s := by
  obtain ⟨nm, q, N, bs, bm, sn, sub, ab, col, dd, k0, k1, k2, k3, k5, hC, hbm⟩ := T.cls
  obtain ⟨hp, g, dr, tk, os⟩ := s
  have k : ∀ b o, hp.get? b = some o → ((hp.push (kdv_tup [v])).push (excO C hp.objs.size)).get? b = some o := fun b o e => Heap.get?_push_of_some _ (Heap.get?_push_of_some _ e)
  have hget : ((hp.push (kdv_tup [v])).push (excO C hp.objs.size)).get? (hp.objs.size + 1) = some (excO C hp.objs.size) := by heap_get
  have hnx : K.lookup (hp.objs.size + 1) = none := by
    cases e : K.lookup (hp.objs.size + 1) with
    | none => rfl
    | some o =>
      have z : hp.get? (hp.objs.size + 1) = some o := X _ _ e
      exact absurd (Nat.lt_of_succ_lt (Heap.lt_size z)) (Nat.lt_irrefl _)
  obtain ⟨mb, hb1, hb2⟩ := hb
  refine call_own F.excBase_ValueError (fun X => refsVE_contains X bm hbm) (X _ _ hC) (looks_findIn X T.iC) (fun self => bind_fn X self T.tC) (by show 1 ≤ sizeLine; rw [sizeLine_eq]; omega) ?_
  refine sup_init (s := ⟨(hp.push (kdv_tup [v])).push (excO C hp.objs.size), g, dr, tk, os⟩) T (X.keeps k) (hg.keeps k) ⟨mb, hb1.keeps k, hb2⟩ (hlim.keeps k) hget hnx hroom fun h' tk' dx t1 ⟨k', hx, dn, dne, hns⟩ => ?_
  have old : ∀ b o, hp.get? b = some o → h'.get? b = some o := fun b o e => k' b o (Nat.ne_of_lt (Nat.lt_succ_of_lt (Heap.lt_size e))) (k b o e)
  have z : hp.objs.size + 1 + 1 ≤ dx := by
    first
      | (simpa only [Heap.size_push] using dn)
      | exact dn
      | (have q := dn; rw [Heap.size_push, Heap.size_push] at q; exact q)
  exact ⟨rfl, hq h' tk' (hp.objs.size + 1) dx ⟨old, Nat.le_succ _, ⟨_, _, hx, rfl, rfl, rfl, rfl⟩, (by show hp.objs.size ≤ dx; omega), dne, hns⟩⟩
end
end Sup
end Pu
namespace L2
open PySem PySem.Spec PyProof.Rows
theorem relO_ix {v : V} {v' : Value} (r : RelV v v') (f : Str) : RelO (List.lookup f [(("index" : Str), v)]) (if f = "index" then some v' else none) := by
  by_cases hw : f = "index"
  · subst hw
    rw [if_pos rfl]
    have q : List.lookup ("index" : Str) [(("index" : Str), v)] = some v := by simp [List.lookup]
    rw [q]
    exact r
  · rw [if_neg hw]
    have qw : (f == ("index" : Str)) = false := by simpa using hw
    have q2 : List.lookup f [(("index" : Str), v)] = none := by simp [List.lookup, qw]
    rw [q2]
    trivial
section
variable {X : Cx} {C fI cda cc : Addr} {qual : String}
/-- an own error made with e -/
theorem pmk_sup {x : Str} {a : Expr} {ta : TA} {p pos : Pos} {k : Nat} (T : Pu.Sup.Txt X.prog X.K X.mg x qual C fI cda cc) (hr : Room k X.A) (ha : PA X [a] ta) (hg : Gl X x := by rfl) (hdb : (x == ("__debug__" : Str)) = false := by decide)
    (he : starEach (a :: []) X.env = (false, eval a X.env) :: starEach [] X.env := by first | exact se_of (fun _ _ h => nomatch h) | rfl) (hpl : (backTo pos (starEach [] X.env)).any (·.1) = false := by first | exact pl_of (by rfl) | rfl) :
    PMk X (.Call (.Name x p) [a] [] pos) (fun σ H Q => ta σ H fun vs H1 => ∃ v, vs = [v] ∧ ∀ d, H1 d = none → Q (.ref C) (some d) (upd H1 d (.xd [(("index" : Str), v)]))) := by
  intro pins s σ H Q I h
  refine wpAny_Call_Name_kw (ld_glob I hg T.gC ?_ hdb)
  refine PySem.W.callWith_K (h₀ := X.base) I.ok.mod.kin T.kC (thn (ha.run pos pins s σ H _ I h) fun us s1 hh => ?_) he hpl
  obtain ⟨vs, H1, I1, r1, v, ev, q1⟩ := hh
  subst ev
  refine ⟨I1.kIn, ?_⟩
  cases r1 with
  | cons rv rn =>
    rename_i v' us'
    cases rn
    show wpAny _ _ (call (.ref C) [v']) _ _ _
    have hlim := I1.nolimit
    have hgl := I1.mod.glob.keeps I1.bk
    obtain ⟨mb, hb1, hb2⟩ := I1.mod.blt
    have hb1 := hb1.keeps I1.bk
    obtain ⟨hp, g, dr, tk, os⟩ := s1
    refine wpAny_call (Pu.Sup.sup_made T I1.kIn hgl ⟨mb, hb1, hb2⟩ hlim (by have := hr.dp; omega) fun h' tk' e d M => ?_)
    obtain ⟨oe, fv, hoe, hc, hd, hdat, h1⟩ := M.obj
    have hns := M.ns
    obtain ⟨G', g1, g2⟩ := restrict h' fun b => decide (b ≠ e)
    have gk : ∀ b, b ≠ e → G'.get? b = h'.get? b := fun b hb => g1 b (decide_eq_true hb)
    have ge : G'.get? e = none := g2 e (by simp)
    have old : ∀ b o, hp.get? b = some o → G'.get? b = some o := fun b o q => (gk b (Nat.ne_of_lt (Nat.lt_of_lt_of_le (Heap.lt_size q) M.new))).trans (M.keep b o q)
    have ob : ObjOk X.prog X.w (upd H1 d (.xd [(("index" : Str), v)])) G' d (.xd [(("index" : Str), v)]) := ⟨_, hns.at (fun o q => (gk d M.dne).trans q), fun f => relO_ix rv f⟩
    have J : Inv X pins σ (upd H1 d (.xd [(("index" : Str), v)])) ⟨G', g, dr, tk', os⟩ := I1.laid (t' := tk') old M.dbig ob
    refine ⟨e, oe, fv, ⟨G', g, dr, tk', os⟩, _, .ref C, some d, rfl, J, fun b o q => ?_, ge, hoe, ⟨hc, hd⟩, hdat, h1, ?_, rfl, I1.bare, raises_own T.exC T.tyC, q1 d (I1.hok.fresh M.dbig)⟩
    · by_cases hb : b = e
      · have q' : G'.get? b = some o := q
        rw [hb, ge] at q'; cases q'
      · exact (gk b hb).symm.trans q
    · rw [upd_ne (Ne.symm M.dne)]
      exact I1.hok.fresh M.new
end
end L2

set_option maxHeartbeats 2000000
/-! P10: errors raised and caught. -/
namespace Pu
open PySem PySem.Spec L2
/-- an error class without own __init__ -/
structure Er (K : PySem.W.Frag) (mg : Str → Option Value) (x : Str) (C : Addr) : Prop where
  gC : mg x = some (.ref C)
  kC : PySem.W.keepIn K (.ref C) = true
  q : PySem.W.excIn K C Sup.bVE "ValueError.__new__" = true
  exC : PySem.W.subIn K (.ref C) (.type "BaseException") = some true
  tyC : PySem.W.typeIn K (.ref C) = some (.type "type")
/-- which errors a clause takes -/
def catT (tab : List (Str × Bool)) (x : Str) : Option Bool := tab.lookup x
def CatOk (X : Cx) (c : Value) (tab : List (Str × Bool)) : Prop := ∀ x b, catT tab x = some b → ∀ cls, X.mg x = some cls → PySem.W.exmOne X.K cls c = some b
/-- a try: hd tells what is done with an error -/
def tryR {δ γ β : Type} (hd : Str → Option D → Option (R (Fl δ γ β))) : R (Fl δ γ β) → R (Fl δ γ β)
  | .ok a => .ok a
  | .bad => .bad
  | .exc x d => match hd x d with
    | some m => m
    | none => .exc x d
  | .ch n k => .ch n fun i => tryR hd (k i)
def R.lft {α γ β : Type} (m : R (Fl α Empty β)) : R (Fl α γ β) := m >>= fun
  | .nx a => .ok (.nx a)
  | .rt r => .ok (.rt r)
  | .bk c => nomatch c
  | .ct c => nomatch c
@[simp] theorem R.lft_nx {α γ β : Type} (a : α) : (R.lft (.ok (.nx a)) : R (Fl α γ β)) = .ok (.nx a) := rfl
@[simp] theorem R.lft_rt {α γ β : Type} (a : β) : (R.lft (.ok (.rt a)) : R (Fl α γ β)) = .ok (.rt a) := rfl
@[simp] theorem R.lft_bad {α γ β : Type} : (R.lft (.bad) : R (Fl α γ β)) = .bad := rfl
@[simp] theorem R.lft_bind {ι α γ β : Type} (m : R ι) (g : ι → R (Fl α Empty β)) : (R.lft (m >>= g) : R (Fl α γ β)) = m >>= fun i => R.lft (g i) := by unfold R.lft; rw [R.bind_assoc]
theorem Po.try {δ γ β : Type} {hd : Str → Option D → Option (R (Fl δ γ β))} {m : R (Fl δ γ β)} {ok : Nat → Fl δ γ β → Prop} {ex : Nat → Str → Option D → Prop} : ∀ {c : Nat}, Po c (tryR hd m) ok ex →
    Po c m ok (fun c' x d => match hd x d with | some m2 => Po c' m2 ok ex | none => ex c' x d) := by
  induction m with
  | ok a => intro c h; rw [Po.ok_]; unfold tryR at h; rw [Po.ok_] at h; exact h
  | exc x d =>
    intro c h
    unfold tryR at h
    rw [Po.exc_]
    cases e : hd x d with
    | none => rw [e] at h; rw [Po.exc_] at h; exact h
    | some m2 => rw [e] at h; exact h
  | bad => intro c h; unfold tryR at h; rw [Po.bad_] at h; exact h.elim
  | ch n k ih =>
    intro c h
    cases c with
    | zero => exact h
    | succ c => exact fun i hi => ih i (h i hi)
section
variable {X : Cx} {W : WX} {k : Nat} {α δ γ β : Type} {rs : Rsp β} {encL : γ → Ev} {ex ρ : Ev} {enc : α → Ev} {rest sts : List Stmt} {pos pos' pos2 : Pos} {e e2 : Expr} {m m2 : R D} {mm : R (Fl α γ β)} {A B B1 : Addr → Prop} {c : Nat} {H H1 : Hp} {σ : L2.St} {Dd : Ends}
/-- raise x('..') -/
theorem b_raiseT {x t : Str} {j : Nat} {p p2 : Pos} {C : Addr} (F : Fx X W k) (E : Er X.K X.mg x C) (hx : Wk ρ ex) (hg : Gl X x := by rfl) (hdb : (x == ("__debug__" : Str)) = false := by decide) :
    PuB X W rs encL ex (.Raise (some (.Call (.Name x p) [.Constant (.str t) j p2] [] pos)) none pos2 :: rest) ρ enc (.exc x none) := by
  intro A B c H σ Dd r q
  refine (pss_cons (ps_raise F.calm F.tk (pmk_own PySem.F.excBase_ValueError E.q E.gC E.kC (raises_own E.exC E.tyC) hg hdb)) pss_never).to ?_
  unfold PoB at q
  rw [Po.exc_] at q
  exact q _ none B σ H Fr.refl (r.wk hx) ⟨E.gC, rfl⟩
/-- raise x(e), x with a field -/
theorem b_raiseO {x : Str} {p : Pos} {C fI cda cc : Addr} {qual : String} (F : Fx X W k) (T : Sup.Txt X.prog X.K X.mg x qual C fI cda cc) (h : PuE X W e ρ m) (hx : Wk ρ ex) (hg : Gl X x := by rfl) (hdb : (x == ("__debug__" : Str)) = false := by decide)
    (he : starEach (e :: []) X.env = (false, eval e X.env) :: starEach [] X.env := by first | exact se_of (fun _ _ h => nomatch h) | rfl) (hpl : (backTo pos (starEach [] X.env)).any (·.1) = false := by first | exact pl_of (by rfl) | rfl) :
    PuB X W rs encL ex (.Raise (some (.Call (.Name x p) [e] [] pos)) none pos2 :: rest) ρ enc (m >>= fun d => .exc x (some d)) := by
  intro A B c H σ Dd r q
  refine (pss_cons (ps_raise F.calm F.tk (pmk_sup T F.room (pa_cons pe_wp pa_nil he) hg hdb he hpl)) pss_never).to ?_
  refine h.stepB hx r q fun c' d v H' k rv r' q' => ?_
  unfold PoB at q'
  rw [Po.exc_] at q'
  refine ⟨v, rfl, fun a ha => ?_⟩
  have su := same_upd (o := HO.xd [("index", v)]) ha
  exact q' _ (some a) B σ _ (Fr.same su) ((r'.ext su).wk hx) ⟨T.gC, a, v, rfl, upd_same, rv.same su, r'.nav ha⟩
/-- the field of the error that the suite holds -/
theorem pu_xf (i : Nat) {n : Str} {a b C : Addr} {oe : Obj} {cls : Value} {pn : List (Addr × Obj)} {d : D} {px pos : Pos} (T : XfC X.K C) (hno : PySem.W.findIn X.K (.ref C) "index" = some none) (hz : Zc cls (some b) oe) (hcls : cls = .ref C) (hf : ∃ vs, oe.data = .fields vs)
    (h : ρ[i]? = some (.exs a b d) := by rfl) (hN : X.N[i]? = some n := by rfl) (hv : Vis X.env.scope n := by first | exact Or.inl rfl | exact Or.inr (Or.inl rfl) | exact Or.inr (Or.inr rfl))
    (hd : (n == ("__debug__" : Str)) = false := by decide) (hcd : (n == ("__classdict__" : Str)) = false := by decide) (hb : attributeBase (.Name n px) "index" X.env (eval (.Name n px) X.env) = eval (.Name n px) X.env := by rfl) :
    PuE (X.suite a ((a, oe) :: pn)) W (.Attribute (.Name n px) "index" pos) ρ (.ok d) := by
  intro A B c H σ Q r p
  obtain ⟨e1, nb, v, e2, rv⟩ := r.ro i _ h
  refine (pe_xf T hno hz hf (pe_var hN hv hd hcd) hb).to ⟨_, e1, rfl, hcls, b, _, v, rfl, e2, ?_, p.now r (Same.refl H) rv⟩
  simp [List.lookup]
/-- a slot that nobody changes is filled -/
theorem _root_.Pu.RS.putR {G : Gd} {A B : Addr → Prop} {c : Nat} {H : Hp} {σ : L2.St} {ρ : Ev} (r : RS G A B c H σ ρ) {i : Nat} {v : V} {s0 : Slot} (hi : i < ρ.length) (h : Ro G B H (some (some v)) s0) (ho : ownOf s0 = none) : RS G A B c H (σ.set i (some v)) (ρ.set i s0) := by
  have hi' : i < σ.length := by rw [r.len]; exact hi
  refine ⟨fun j e q => ?_, fun j a e q => ?_, fun j a q => ?_, fun j k a s t q1 q2 e1 e2 => ?_, r.sub, r.dom, (by rw [List.length_set, List.length_set]; exact r.len), r.cm⟩
  · rcases getE_set q with ⟨hji, z⟩ | ⟨hj, z⟩
    · rw [hji, z, List.getElem?_set_self hi']; exact h
    · rw [List.getElem?_set_ne (Ne.symm hj)]; exact r.ro j e z
  · rcases getE_set q with ⟨rfl, z⟩ | ⟨hj, z⟩
    · subst z; cases ho
    · obtain ⟨h1, h2⟩ := r.ce j a e z
      exact ⟨by rw [List.getElem?_set_ne (Ne.symm hj)]; exact h1, h2⟩
  · rcases getE_set q with ⟨rfl, z⟩ | ⟨hj, z⟩
    · subst z; cases ho
    · obtain ⟨h1, h2⟩ := r.jr j a z
      exact ⟨by rw [List.getElem?_set_ne (Ne.symm hj)]; exact h1, h2⟩
  · rcases getE_set q1 with ⟨rfl, z⟩ | ⟨hj, z⟩
    · rw [z, ho] at e1; cases e1
    · rcases getE_set q2 with ⟨rfl, z'⟩ | ⟨hk, z'⟩
      · rw [z', ho] at e2; cases e2
      · exact r.inj j k a s t z z' e1 e2
/-- an unknown slot is emptied -/
theorem _root_.Pu.RS.unset {G : Gd} {A B : Addr → Prop} {c : Nat} {H : Hp} {σ : L2.St} {ρ : Ev} (r : RS G A B c H σ ρ) {i : Nat} (hi : ρ[i]? = some .no) : RS G A B c H (σ.set i none) ρ := by
  have ne : ∀ {j : Nat} {s : Slot}, ρ[j]? = some s → s ≠ .no → (σ.set i none)[j]? = σ[j]? := fun {j s} h n => by
    rw [List.getElem?_set_ne]
    intro z
    subst z
    rw [hi] at h; cases h; exact n rfl
  refine ⟨fun j e q => ?_, fun j a e q => ?_, fun j a q => ?_, r.inj, r.sub, r.dom, (by rw [List.length_set]; exact r.len), r.cm⟩
  · by_cases h : e = .no
    · subst h; trivial
    · rw [ne q h]; exact r.ro j e q
  · obtain ⟨h1, h2⟩ := r.ce j a e q
    exact ⟨by rw [ne q (by intro z; cases z)]; exact h1, h2⟩
  · obtain ⟨h1, h2⟩ := r.jr j a q
    exact ⟨by rw [ne q (by intro z; cases z)]; exact h1, h2⟩
/-- except x as n, n's field is known -/
theorem b_tryAs (i : Nat) {ex2 : Ev} {x n : Str} {np : Pos} {C : Addr} {tab : List (Str × Bool)} {body suite : List Stmt} {b₀ : Stmt} {ex1 : Ev} {enc1 : δ → Ev} {m1 : R (Fl δ γ β)} {mS : D → R (Fl δ Empty β)} {f : δ → R (Fl α γ β)}
    (hs : X.stack = X.env :: X.outer) (hf : X.env.frame = some X.env.locals) (F : Fx X W k) (hgx : X.mg x = some (.ref C)) (cat : CatOk X (.ref C) tab) (htab : ∀ y cls, catT tab y = some true → X.mg y = some cls → cls = .ref C) (hx : Wk ex1 ex) (hi : ex1[i]? = some .no) (hne : ∀ s, (enc1 s)[i]? = some .no)
    (hb : ∀ (W' : WX) (pn : List (Addr × Obj)) (xe : Value → Shared → Prop), Fx (X.tr pn xe) W' k → PuB (X.tr pn xe) W' rs encL ex1 body ρ enc1 m1)
    (hsu : ∀ (a b : Addr) (oe : Obj) (cls : Value) (pn : List (Addr × Obj)) (d : D), Zc cls (some b) oe → cls = .ref C → (∃ vs, oe.data = .fields vs) → PuB (X.suite a ((a, oe) :: pn)) W0 rs encE ex2 (b₀ :: suite) (ex1.set i (.exs a b d)) enc1 (mS d))
    (h3 : ∀ s, PuB X W rs encL ex rest (enc1 s) enc (f s)) (hN : X.N[i]? = some n := by rfl) (hln : X.env.kindOf n = some .local := by rfl) (hg : Gl X x := by rfl) (hdb : (x == ("__debug__" : Str)) = false := by decide) :
    PuB X W rs encL ex (.Try body [.ExceptHandler (some (.Name x np)) (some n) (b₀ :: suite) pos'] [] [] pos :: rest) ρ enc
      (Fl.then (tryR (fun y d => match catT tab y, d with | some true, some d => some (R.lft (R.nx (mS d))) | some false, _ => none | _, _ => some .bad) m1) f) := by
  intro A B c H σ Dd r p
  refine (pss_cons (ps_try_as (c := .ref C) (i := i) (Wout := W) (tb := fun W' => fun D σ H => ∀ (pn : List (Addr × Obj)) (xe : Value → Shared → Prop), Takes (X.tr pn xe) W' → PassesOwn (model X.prog X.w) X.A X.env xe → wpB (X.tr pn xe) body D σ H)
    (ts := fun a cls d => fun D σ H => ∀ (oe : Obj) (pn : List (Addr × Obj)), Zc cls d oe → (∃ vs, oe.data = .fields vs) → wpB (X.suite a ((a, oe) :: pn)) (b₀ :: suite) D σ H)
    hs hf F.nd hN hln ⟨hg, hdb, .inl hgx⟩ F.tk (fun W' pn xe tk po => ⟨fun pins s σ H D I h => (h pn xe tk po).h pins s I⟩) (fun a oe cls d pn hz hfi => ⟨fun pins s σ H D I h => (h oe pn hz hfi).h pins s I⟩)) pb_wp).to ?_
  intro pn xe tk po
  have p1 := PoB.thn (Dd := Dd) (D' := { Dd with nx := wpB X rest Dd }) (enc1 := enc1) rfl rfl rfl p fun a c'' B' σ' H2 g r2 p2 => h3 a A B' c'' H2 σ' Dd r2 p2
  have p2 := Po.try p1
  refine hb _ pn xe ⟨F.calm, F.room, F.nd, tk, po⟩ A B c H σ _ r (Po.mono (fun c' fl q => q) (fun c' y d q cls dx B' σ' H' g r' em => ?_) p2)
  cases hc : catT tab y with
  | none => rw [hc] at q; simp only [Po.bad_] at q
  | some b =>
    rw [hc] at q
    have hexm := cat y b hc cls em.1
    cases b with
    | false =>
      refine ⟨false, hexm, fun z => (by cases z), fun _ => ?_⟩
      exact q cls dx B' σ' H' g (r'.wk hx) em
    | true =>
      cases d with
      | none => simp only [Po.bad_] at q
      | some d =>
        refine ⟨true, hexm, fun _ a ha => ?_, fun z => (by cases z)⟩
        intro oe pn' hz hfi
        obtain ⟨b, v, e1, e2, rv, nb⟩ := em.2
        subst e1
        have hil : i < ex1.length := (List.getElem?_eq_some_iff.mp hi).1
        have rs' : RS (gd X) A B' c' H' (σ'.set i (some (.ref a))) (ex1.set i (.exs a b d)) := r'.putR hil ⟨rfl, nb, v, e2, rv⟩ rfl
        refine hsu a b oe cls pn' d hz (htab y cls hc em.1) hfi A B' c' H' _ _ rs' (Po.nx (Po.mono (fun c2 fl q2 => ?_) (fun _ _ _ q2 => q2) (Po.bind q)))
        cases fl with
        | nx a =>
          rw [Po.ok_] at q2
          exact fun B2 σ2 H2 g2 r2 => q2 B2 _ H2 (g.trans g2) (RS.unset r2 (hne a))
        | rt v =>
          rw [Po.ok_] at q2
          exact fun u B2 H2 g2 r2 => q2 u B2 H2 (g.trans g2) r2
        | bk z => exact nomatch z
        | ct z => exact nomatch z
/-- several clauses without a name -/
def hdM {δ γ β : Type} : List (List (Str × Bool) × R (Fl δ Empty β)) → Str → Option D → Option (R (Fl δ γ β))
  | [], _, _ => none
  | (tab, mS) :: r, x, d => match catT tab x with
    | some true => some (R.lft (R.nx mS))
    | some false => hdM r x d
    | none => some .bad
inductive Hds (X : Cx) (rs : Rsp β) (ex1 : Ev) (enc1 : δ → Ev) : List ExceptHandler → List (List (Str × Bool) × R (Fl δ Empty β)) → Prop
  | nil : Hds X rs ex1 enc1 [] []
  | cons {ex2 : Ev} {x : Str} {c : Value} {tab : List (Str × Bool)} {mS : R (Fl δ Empty β)} {b₀ : Stmt} {suite : List Stmt} {np pos' : Pos} {hds : List ExceptHandler} {l : List (List (Str × Bool) × R (Fl δ Empty β))} (hc : Names X x c) (cat : CatOk X c tab)
      (hsu : ∀ (a : Addr) (oe : Obj) (cls : Value) (d : Option Addr) (pn : List (Addr × Obj)), Zc cls d oe → (∃ vs, oe.data = .fields vs) → PuB (X.suite a ((a, oe) :: pn)) W0 rs encE ex2 (b₀ :: suite) ex1 enc1 mS) (r : Hds X rs ex1 enc1 hds l) :
      Hds X rs ex1 enc1 (.ExceptHandler (some (.Name x np)) none (b₀ :: suite) pos' :: hds) ((tab, mS) :: l)
theorem Hds.ok {ex1 : Ev} {enc1 : δ → Ev} {hds : List ExceptHandler} {l : List (List (Str × Bool) × R (Fl δ Empty β))} (h : Hds X rs ex1 enc1 hds l) : ∃ l', HdsOk X hds l' ∧ ∀ (Dd' : Ends) (A B B' : Addr → Prop) (H H' : Hp) (c' : Nat) (σ' : L2.St) (y : Str) (d : Option D) (cls : Value) (dx : Option Addr) (mm1 : R (Fl δ γ β)),
    Fr A B H B' H' → RS (gd X) A B' c' H' σ' ex1 → ExM X B' H' y d cls dx → hdM (γ := γ) l y d = some mm1 ∧ PoB X W rs encL ex enc1 A B c' H mm1 Dd' ∨ hdM (γ := γ) l y d = none ∧ W cls dx σ' H' → wMany X.K W Dd' l' cls dx σ' H' := by
  induction h with
  | nil => exact ⟨[], .nil, fun Dd' A B B' H H' c' σ' y d cls dx mm1 g r em q => q.elim (fun q => by have := q.1; cases this) fun q => q.2⟩
  | @cons ex2 x c tab mS b₀ suite np pos' hds l hc cat hsu r ih =>
    obtain ⟨l', hl, ih⟩ := ih
    refine ⟨(c, fun a cls d => fun D σ H => ∀ (oe : Obj) (pn : List (Addr × Obj)), Zc cls d oe → (∃ vs, oe.data = .fields vs) → wpB (X.suite a ((a, oe) :: pn)) (b₀ :: suite) D σ H) :: l',
      .cons hc (fun a oe cls d pn hz hfi => ⟨fun pins s σ H D I h => (h oe pn hz hfi).h pins s I⟩) hl, fun Dd' A B B' H H' c' σ' y d cls dx mm1 g r em q => ?_⟩
    unfold hdM at q
    cases hc : catT tab y with
    | none =>
      rw [hc] at q
      rcases q with ⟨q1, q2⟩ | ⟨q1, _⟩
      · cases q1; exact q2.bad.elim
      · cases q1
    | some b =>
      rw [hc] at q
      have hexm := cat y b hc cls em.1
      cases b with
      | false => exact ⟨false, hexm, fun z => (by cases z), fun _ => ih Dd' A B B' H H' c' σ' y d cls dx mm1 g r em q⟩
      | true =>
        rcases q with ⟨q1, q2⟩ | ⟨q1, _⟩
        · cases q1
          refine ⟨true, hexm, fun _ a ha => fun oe pn' hz hfi => ?_, fun z => (by cases z)⟩
          refine hsu a oe cls dx pn' hz hfi A B' c' H' σ' _ r (Po.nx (Po.mono (fun c2 fl q2 => ?_) (fun _ _ _ q2 => q2) (Po.bind q2)))
          cases fl with
          | nx a =>
            rw [Po.ok_] at q2
            exact fun B2 σ2 H2 g2 r2 => q2 B2 _ H2 (g.trans g2) r2
          | rt v =>
            rw [Po.ok_] at q2
            exact fun u B2 H2 g2 r2 => q2 u B2 H2 (g.trans g2) r2
          | bk z => exact nomatch z
          | ct z => exact nomatch z
        · cases q1
theorem b_tryM {h₀ : ExceptHandler} {hds : List ExceptHandler} {l : List (List (Str × Bool) × R (Fl δ Empty β))} {body : List Stmt} {ex1 : Ev} {enc1 : δ → Ev} {m1 : R (Fl δ γ β)} {f : δ → R (Fl α γ β)}
    (hs : X.stack = X.env :: X.outer) (hf : X.env.frame = some X.env.locals) (F : Fx X W k) (hx : Wk ex1 ex)
    (hb : ∀ (W' : WX) (pn : List (Addr × Obj)) (xe : Value → Shared → Prop), Fx (X.tr pn xe) W' k → PuB (X.tr pn xe) W' rs encL ex1 body ρ enc1 m1) (hh : Hds X rs ex1 enc1 (h₀ :: hds) l) (h3 : ∀ s, PuB X W rs encL ex rest (enc1 s) enc (f s)) :
    PuB X W rs encL ex (.Try body (h₀ :: hds) [] [] pos :: rest) ρ enc (Fl.then (tryR (hdM l) m1) f) := by
  intro A B c H σ Dd r p
  obtain ⟨l', hl, hw⟩ := hh.ok (γ := γ) (W := W) (encL := encL) (ex := ex)
  refine (pss_cons (ps_try_many (Wout := W) (tb := fun W' => fun D σ H => ∀ (pn : List (Addr × Obj)) (xe : Value → Shared → Prop), Takes (X.tr pn xe) W' → PassesOwn (model X.prog X.w) X.A X.env xe → wpB (X.tr pn xe) body D σ H)
    hs hf F.tk (fun W' pn xe tk po => ⟨fun pins s σ H D I h => (h pn xe tk po).h pins s I⟩) hl) pb_wp).to ?_
  intro pn xe tk po
  have p1 := PoB.thn (Dd := Dd) (D' := { Dd with nx := wpB X rest Dd }) (enc1 := enc1) rfl rfl rfl p fun a c'' B' σ' H2 g r2 p2 => h3 a A B' c'' H2 σ' Dd r2 p2
  have p2 := Po.try p1
  refine hb _ pn xe ⟨F.calm, F.room, F.nd, tk, po⟩ A B c H σ _ r (Po.mono (fun c' fl q => q) (fun c' y d q cls dx B' σ' H' g r' em => ?_) p2)
  cases hm : hdM (γ := γ) l y d with
  | none =>
    rw [hm] at q
    exact hw _ A B B' H H' c' σ' y d cls dx .bad g r' em (.inr ⟨hm, q cls dx B' σ' H' g (r'.wk hx) em⟩)
  | some mm1 =>
    rw [hm] at q
    exact hw _ A B B' H H' c' σ' y d cls dx mm1 g r' em (.inl ⟨hm, q⟩)
end
end Pu

set_option maxHeartbeats 2000000
/-! P11: constants of the module, calls by keyword, jars. -/
namespace Pu
open PySem PySem.Spec L2
mutual
theorem KRp.rp {G : Gd} : ∀ {u : Value} {d : D}, KRp G.K u d → ∃ v, RelV v u ∧ ∀ (B : Addr → Prop) (H : Hp), Rp G B H v d
  | _, _, .non => ⟨.non, rfl, fun _ _ => .non⟩
  | _, _, .bl b => ⟨.bl b, rfl, fun _ _ => .bl b⟩
  | _, _, .int i t => ⟨.int i, ⟨t, rfl⟩, fun _ _ => .int i⟩
  | _, _, .str x t => ⟨.str x, ⟨t, rfl⟩, fun _ _ => .str x⟩
  | _, _, .tup (a := a) e1 e2 e3 e4 r => by
    obtain ⟨vs, h1, h2⟩ := KRp.rps r
    exact ⟨.ref a, rfl, fun B H => .tup (.inr ⟨_, _, _, e1, e2, e3, e4, h1⟩) (.inr ⟨_, _, _, e1, e2, e3, e4, h1⟩) (h2 B H)⟩
  | _, _, .lst (a := a) e1 e2 e3 e4 e5 r => by
    obtain ⟨vs, h1, h2⟩ := KRp.rps r
    exact ⟨.ref a, rfl, fun B H => .lst (.inr ⟨_, _, _, e1, e2, e3, e4, e5, h1⟩) (.inr ⟨_, _, _, e1, e2, e3, e4, e5, h1⟩) (h2 B H)⟩
theorem KRp.rps {G : Gd} : ∀ {us : List Value} {ds : List D}, Paired (KRp G.K) us ds → ∃ vs, Vals vs us ∧ ∀ (B : Addr → Prop) (H : Hp), RpAll G B H vs ds
  | _, _, .nil => ⟨[], .nil, fun _ _ => .nil⟩
  | _, _, .cons r rs => by
    obtain ⟨v, h1, h2⟩ := KRp.rp r
    obtain ⟨vs, h3, h4⟩ := KRp.rps rs
    exact ⟨v :: vs, .cons h1 h3, fun B H => .cons (h2 B H) (h4 B H)⟩
end
/-- a constant of the module -/
def Kc (K : PySem.W.Frag) (mg : Str → Option Value) (x : Str) (d : D) : Prop := ∃ u, mg x = some u ∧ KRp K u d
section
variable {X : Cx} {W : WX} {ρ : Ev} {pos p : Pos} {e : Expr} {es : List Expr} {m : R D} {ks : List Bool} {js : List Addr} {ms : R (List D)}
theorem pu_const {x : Str} {d : D} (h : Kc X.K X.mg x d) (hg : Gl X x := by rfl) (hd : (x == ("__debug__" : Str)) = false := by decide) : PuE X W (.Name x pos) ρ (.ok d) := by
  intro A B c H σ Q r p
  obtain ⟨u, hm, kr⟩ := h
  obtain ⟨v, rv, hr⟩ := KRp.rp (G := gd X) kr
  exact (pe_glob hg hm rv hd).to (p.now r (Same.refl H) (hr B H))

/-! ### keywords -/
def wpK (X : Cx) (kws : List Keyword) : TA := fun σ H Q => Wz (∀ (pos : Pos) (pins : List (Addr × Obj)) (s : Shared), Inv X pins σ H s → wpAny (model X.prog X.w) X.A (evalAll ((backToKw pos (keywordEach kws X.env)).map (·.2))) (AP X pins σ Q) X.xe s)
theorem pk_wp {kws : List Keyword} : PK X kws (wpK X kws) := ⟨fun pos pins s σ H Q I h => h.h pos pins s I⟩
theorem _root_.L2.PK.to {kws : List Keyword} {t : TA} (h : PK X kws t) {σ : L2.St} {H : Hp} {Q : List V → Hp → Prop} (q : t σ H Q) : wpK X kws σ H Q := ⟨fun pos pins s I => h.run pos pins s σ H Q I q⟩
/-- the values of the keywords, all data -/
def PuK (X : Cx) (W : WX) (kws : List Keyword) (ρ : Ev) (ms : R (List D)) : Prop := ∀ (A B : Addr → Prop) (c : Nat) (H : Hp) (σ : L2.St) (Q : List V → Hp → Prop), RS (gd X) A B c H σ ρ → PoA X W A B σ ρ c H ms Q → wpK X kws σ H Q
theorem pk_nil' : PuK X W [] ρ (R.ok []) := fun A B c0 H σ Q r p => pk_nil.to (p.now r (Same.refl H) .nil)
theorem pk_cons' {nm : Option Str} {kpos : Pos} {kws : List Keyword} (h1 : PuE X W e ρ m) (h2 : PuK X W kws ρ ms) : PuK X W (⟨nm, e, kpos⟩ :: kws) ρ (do let x ← m; let xs ← ms; R.ok (x :: xs)) := by
  intro A B c0 H σ Q r p
  refine (pk_cons pe_wp pk_wp).to ?_
  refine h1.step r p fun c1 dx x H1 k1 rx r1 p1 => ?_
  refine h2 A B c1 H1 σ (fun xs H2 => Q (x :: xs) H2) r1 (p1.step fun c2 ds vs H2 k2 rs r2 p2 => ?_)
  exact p2.now r2 (Same.refl H2) (.cons (rx.kx k2) rs)
/-- how a call by keywords binds -/
structure KB (K : PySem.W.Frag) (fd : FuncData) (ps : List Str) (n : Nat) (ks : List Str) (g : {α : Type} → List α → List α) : Prop where
  to : ∀ (s : Shared) (us ws : List Value), us.length = n → ws.length = ks.length → BindsTo s fd ⟨us, ks.zip ws⟩ (ps.zip (g (us ++ ws)))
theorem _root_.L2.Fun.kb {K : PySem.W.Frag} {x qual : Str} {st : Stmt} {f : Addr} {fd : FuncData} {ps : List Str} (F : Fun K x qual st f fd) {n : Nat} {ks : List Str} {g : {α : Type} → List α → List α}
    (h : ∀ (kV doc pm : Value) (an : Option Addr) (cdv ct : Value) (us ws : List Value), us.length = n → ws.length = ks.length → bindArgs (PySem.W.fnOf x qual (defArgs st) (defBody st) (defScope st) .none kV doc pm an cdv ct) ⟨us, ks.zip ws⟩ = pure (ps.zip (g (us ++ ws)))) : KB K fd ps n ks g := by
  obtain ⟨oc, od, kV, doc, pm, an, cdv, ct, osl, rfl, lk, hcd⟩ := F.ex
  exact ⟨fun s us ws h1 h2 => .of_eq (h kV doc pm an cdv ct us ws h1 h2)⟩
theorem run_kw {pins : List (Addr × Obj)} {σ : L2.St} {H : Hp} {s : Shared} {Q : VK} {k n : Nat} {f : Addr} {fd : FuncData} {ps ks : List Str} {sp : Sp} {g : {α : Type} → List α → List α} {us ws : List Value} {vs zs : List V} {E : XK} (F : FnOk X.prog X.w X.K X.mg X.base (L2.CX X.prog X.w) k f fd ps sp) (hr : Room k X.A) (hb : KB X.K fd ps n ks g)
    (hg : ∀ {vs : List V} {us : List Value}, Vals vs us → Vals (g vs) (g us)) (hx : PassesAt (L2.CX X.prog X.w) X σ E)
    (I : Inv X pins σ H s) (r : Vals vs us) (rz : Vals zs ws) (l1 : vs.length = n) (l2 : zs.length = ks.length) (h : sp (g (vs ++ zs)) H Q E) : wpAny (model X.prog X.w) X.A (call (.ref f) us (ks.zip ws)) (EP X pins σ Q) X.xe s := by
  refine wpAny_call (codeAny_mono (F.run X.A X.stack s H ⟨us, ks.zip ws⟩ (g (us ++ ws)) (g (vs ++ zs)) Q E hr I.env0 (hb.to s us ws (r.length.symm.trans l1) (rz.length.symm.trans l2)) (hg (r.append rz)) h) fun r s' hq => ?_)
  cases r with
  | error e => exact hx pins H s e s' I hq
  | ok fl =>
    cases fl with
    | ret u => exact I.after hq
    | next => exact False.elim hq
    | brk => exact False.elim hq
    | cont => exact False.elim hq
/-- all data -/
theorem Mix.ofAll {G : Gd} {B : Addr → Prop} {H : Hp} : ∀ {vs : List V} {ds : List D}, RpAll G B H vs ds → Mix G B H (List.replicate ds.length false) vs [] ds
  | _, _, .nil => .nil
  | _, _, .cons r t => .dat r (Mix.ofAll t)
/-- f(e, .., k = v, ..); f(k = v, ..) -/
theorem pe_kw {k n : Nat} {x : Str} {f : Addr} {fd : FuncData} {ps kn : List Str} {sp : Sp} {g : {α : Type} → List α → List α} {kws : List Keyword} {t tk' : TA} {E : L2.St → XK} (F : FnOk X.prog X.w X.K X.mg X.base (L2.CX X.prog X.w) k f fd ps sp) (hr : Room k X.A) (hg : Gl X x) (hm : X.mg x = some (.ref f)) (hk : PySem.W.keepIn X.K (.ref f) = true)
    (hb : KB X.K fd ps n kn g) (hgv : ∀ {vs : List V} {us : List Value}, Vals vs us → Vals (g vs) (g us)) (hx : ∀ σ, PassesAt (L2.CX X.prog X.w) X σ (E σ)) (ha : PA X (e :: es) t) (hkw : PK X kws tk') (hall : (backToKw pos (keywordEach kws X.env)).all (·.1.isSome) = true := by rfl) (hks : (backToKw pos (keywordEach kws X.env)).filterMap (·.1) = kn := by rfl)
    (hdb : (x == ("__debug__" : Str)) = false := by decide) (he : starEach (e :: es) X.env = (false, eval e X.env) :: starEach es X.env := by first | exact se_of (fun _ _ h => nomatch h) | rfl)
    (hpl : ((backTo pos (starEach (e :: es) X.env)).any (·.1) || (backToKw pos (keywordEach kws X.env)).any (·.1.isNone)) = false := by rfl) :
    PE X (.Call (.Name x p) (e :: es) kws pos) (fun σ H Q => t σ H fun vs H1 => tk' σ H1 fun zs H2 => vs.length = n ∧ zs.length = kn.length ∧ sp (g (vs ++ zs)) H2 Q (E σ)) := by
  refine ⟨fun pins s σ H Q I h => wpAny_Call_Name_kw (ld_glob I hg hm ?_ hdb)⟩
  refine PySem.W.callWith_KW (h₀ := X.base) I.ok.mod.kin hk hall (thn (ha.run pos pins s σ H _ I h) fun us s1 ⟨vs, H1, I1, r, q⟩ => ?_) hpl he
  refine thn (hkw.run pos pins s1 σ H1 _ I1 q) fun ws s2 ⟨zs, H2, I2, rz, l1, l2, q2⟩ => ⟨I2.kIn, ?_⟩
  rw [hks]
  exact run_kw F hr hb hgv (hx σ) I2 r rz l1 l2 q2
theorem pe_kw0 {k : Nat} {x : Str} {f : Addr} {fd : FuncData} {ps kn : List Str} {sp : Sp} {g : {α : Type} → List α → List α} {kws : List Keyword} {tk' : TA} {E : L2.St → XK} (F : FnOk X.prog X.w X.K X.mg X.base (L2.CX X.prog X.w) k f fd ps sp) (hr : Room k X.A) (hg : Gl X x) (hm : X.mg x = some (.ref f)) (hk : PySem.W.keepIn X.K (.ref f) = true)
    (hb : KB X.K fd ps 0 kn g) (hgv : ∀ {vs : List V} {us : List Value}, Vals vs us → Vals (g vs) (g us)) (hx : ∀ σ, PassesAt (L2.CX X.prog X.w) X σ (E σ)) (hkw : PK X kws tk') (hall : (backToKw pos (keywordEach kws X.env)).all (·.1.isSome) = true := by rfl) (hks : (backToKw pos (keywordEach kws X.env)).filterMap (·.1) = kn := by rfl)
    (hdb : (x == ("__debug__" : Str)) = false := by decide)
    (hpl : ((backTo pos (starEach [] X.env)).any (·.1) || (backToKw pos (keywordEach kws X.env)).any (·.1.isNone)) = false := by rfl) :
    PE X (.Call (.Name x p) [] kws pos) (fun σ H Q => tk' σ H fun zs H2 => zs.length = kn.length ∧ sp (g zs) H2 Q (E σ)) := by
  refine ⟨fun pins s σ H Q I h => wpAny_Call_Name_kw (ld_glob I hg hm ?_ hdb)⟩
  refine PySem.W.callWith_KW0 (h₀ := X.base) I.ok.mod.kin hk hall ?_ hpl
  refine thn (hkw.run pos pins s σ H _ I h) fun ws s2 ⟨zs, H2, I2, rz, l2, q2⟩ => ⟨I2.kIn, ?_⟩
  rw [hks]
  exact run_kw (us := []) (vs := []) F hr hb hgv (hx σ) I2 .nil rz rfl l2 q2
theorem pu_kw {k n : Nat} {x : Str} {f : Addr} {fd : FuncData} {ps kn : List Str} {mir : List D → R D} {kk : List Bool} {g : {α : Type} → List α → List α} {kws : List Keyword} {mk : R (List D)} (tk : Takes X W) (hr : Room k X.A) (F : FnOk X.prog X.w X.K X.mg X.base (L2.CX X.prog X.w) k f fd ps (spD (gd X) X.mg false kk mir))
    (hm : X.mg x = some (.ref f)) (hk : PySem.W.keepIn X.K (.ref f) = true) (hb : KB X.K fd ps n kn g) (hgv : ∀ {vs : List V} {us : List Value}, Vals vs us → Vals (g vs) (g us)) (hgr : ∀ {B : Addr → Prop} {H : Hp} {vs : List V} {ds : List D}, RpAll (gd X) B H vs ds → RpAll (gd X) B H (g vs) (g ds))
    (hkk : kk = List.replicate kk.length false) (ha : PuA X W (e :: es) ρ ms) (hkw : PuK X W kws ρ mk) (hg : Gl X x := by rfl) (hall : (backToKw pos (keywordEach kws X.env)).all (·.1.isSome) = true := by rfl) (hks : (backToKw pos (keywordEach kws X.env)).filterMap (·.1) = kn := by rfl)
    (hdb : (x == ("__debug__" : Str)) = false := by decide) (he : starEach (e :: es) X.env = (false, eval e X.env) :: starEach es X.env := by first | exact se_of (fun _ _ h => nomatch h) | rfl)
    (hpl : ((backTo pos (starEach (e :: es) X.env)).any (·.1) || (backToKw pos (keywordEach kws X.env)).any (·.1.isNone)) = false := by rfl) :
    PuE X W (.Call (.Name x p) (e :: es) kws pos) ρ (do let xs ← ms; let ys ← mk; if xs.length = n ∧ ys.length = kn.length ∧ (g (xs ++ ys)).length = kk.length then mir (g (xs ++ ys)) else .bad) := by
  intro A B c0 H σ Q r q
  refine (pe_kw F hr hg hm hk hb hgv (fun σ => passAt tk σ) pa_wp pk_wp hall hks hdb he hpl).to ?_
  refine ha.step r q fun c1 xs vs H1 k1 rx r1 p1 => ?_
  refine hkw A B c1 H1 σ _ r1 (p1.step fun c2 ys zs H2 k2 ry r2 p2 => ?_)
  by_cases hl : xs.length = n ∧ ys.length = kn.length ∧ (g (xs ++ ys)).length = kk.length
  · rw [if_pos hl] at p2
    refine ⟨by rw [rx.length]; exact hl.1, by rw [ry.length]; exact hl.2.1, ?_⟩
    have mx := Mix.ofAll (hgr ((rx.kx k2).append ry))
    rw [hl.2.2, ← hkk] at mx
    exact call_sp r (k1.trans k2) r2 mx List.nodup_nil (fun a h => nomatch h) (Po.mono (fun c' d q v H' k r' ⟨H1, _, b⟩ => q v H' k r' (by unfold Back at b; rwa [if_neg Bool.false_ne_true] at b)) (fun _ _ _ q => q) p2)
  · rw [if_neg hl] at p2; exact p2.bad.elim
theorem pu_kw0 {k : Nat} {x : Str} {f : Addr} {fd : FuncData} {ps kn : List Str} {mir : List D → R D} {kk : List Bool} {g : {α : Type} → List α → List α} {kws : List Keyword} {mk : R (List D)} (tk : Takes X W) (hr : Room k X.A) (F : FnOk X.prog X.w X.K X.mg X.base (L2.CX X.prog X.w) k f fd ps (spD (gd X) X.mg false kk mir))
    (hm : X.mg x = some (.ref f)) (hk : PySem.W.keepIn X.K (.ref f) = true) (hb : KB X.K fd ps 0 kn g) (hgv : ∀ {vs : List V} {us : List Value}, Vals vs us → Vals (g vs) (g us)) (hgr : ∀ {B : Addr → Prop} {H : Hp} {vs : List V} {ds : List D}, RpAll (gd X) B H vs ds → RpAll (gd X) B H (g vs) (g ds))
    (hkk : kk = List.replicate kk.length false) (hkw : PuK X W kws ρ mk) (hg : Gl X x := by rfl) (hall : (backToKw pos (keywordEach kws X.env)).all (·.1.isSome) = true := by rfl) (hks : (backToKw pos (keywordEach kws X.env)).filterMap (·.1) = kn := by rfl)
    (hdb : (x == ("__debug__" : Str)) = false := by decide)
    (hpl : ((backTo pos (starEach [] X.env)).any (·.1) || (backToKw pos (keywordEach kws X.env)).any (·.1.isNone)) = false := by rfl) :
    PuE X W (.Call (.Name x p) [] kws pos) ρ (do let ys ← mk; if ys.length = kn.length ∧ (g ys).length = kk.length then mir (g ys) else .bad) := by
  intro A B c0 H σ Q r q
  refine (pe_kw0 F hr hg hm hk hb hgv (fun σ => passAt tk σ) pk_wp hall hks hdb hpl).to ?_
  refine hkw A B c0 H σ _ r (q.step fun c2 ys zs H2 k2 ry r2 p2 => ?_)
  by_cases hl : ys.length = kn.length ∧ (g ys).length = kk.length
  · rw [if_pos hl] at p2
    refine ⟨by rw [ry.length]; exact hl.1, ?_⟩
    have mx := Mix.ofAll (hgr ry)
    rw [hl.2, ← hkk] at mx
    exact call_sp r k2 r2 mx List.nodup_nil (fun a h => nomatch h) (Po.mono (fun c' d q v H' k r' ⟨H1, _, b⟩ => q v H' k r' (by unfold Back at b; rwa [if_neg Bool.false_ne_true] at b)) (fun _ _ _ q => q) p2)
  · rw [if_neg hl] at p2; exact p2.bad.elim
end
end Pu

set_option maxHeartbeats 2000000
/-! P12: what the printer needs besides; the jar's drawing def. -/
namespace Pu
open PySem PySem.Spec L2
def isLstD : D → Option (List D)
  | .list xs => some xs
  | _ => none
def isDctD : D → Option (List (D × D))
  | .dict xs => some xs
  | _ => none
def pNeg : D → Option D
  | .int i => some (.int (-i))
  | _ => none
theorem Lv.blk {X : Cx} (L : Lv X) {s : Shared} {H : Hp} {scope : Scope} {cenv : Env} {fp : List Addr} : Lv (X.blk s H scope cenv fp) := ⟨L.calm, L.un⟩
section
variable {X : Cx} {W : WX} {k : Nat} {α δ γ β : Type} {rs : Rsp β} {encL : γ → Ev} {ex ρ : Ev} {enc : α → Ev} {rest sts : List Stmt} {pos : Pos} {e e2 : Expr} {m m2 : R D} {mm : R (Fl α γ β)} {A B B1 : Addr → Prop} {c : Nat} {H H1 : Hp} {σ : L2.St} {Dd : Ends}
theorem pu_neg (h : PuE X W e ρ m) : PuE X W (.UnaryOp .USub e pos) ρ (do let x ← m; R.of (pNeg x)) := by
  intro A B c0 H σ Q r p
  refine (pe_un un_neg pe_wp).to ?_
  refine h.step r p fun c1 dx x H1 k1 rx r1 p1 => ?_
  cases rx with
  | int i => exact ⟨i, rfl, PoG.now p1 r1 (Same.refl H1) (.int (-i))⟩
  | _ => exact p1.bad.elim
/-- a block that never goes on, among such that do -/
theorem b_up {m1 : R (Fl Empty γ β)} {enc0 : Empty → Ev} (h : PuB X W rs encL ex sts ρ enc0 m1) : PuB X W rs encL ex sts ρ enc (R.up m1) := fun A B c H σ Dd r p => h A B c H σ Dd r (PoB.up (enc := enc) (Dd := Dd) rfl rfl rfl p)
/-- x = e, a list of x's own from now on -/
theorem b_setOL (i : Nat) {x : Str} {px : Pos} {f : List D → R (Fl α γ β)} (nd : X.N.Nodup) (h : PuO X W e ρ m) (hx : Wk ρ ex) (h2 : ∀ ds a, PuB X W rs encL ex rest (ρ.set i (.ce a (.list ds))) enc (f ds)) (hi : i < ρ.length := by simp) (hN : X.N[i]? = some x := by rfl)
    (hl : Loc X.env.scope x := by first | exact Or.inl rfl | exact Or.inr rfl) (hs : swapsWith e (some (.Name x px)) pos.line X.env = pure false := by rfl)
    (hf : X.fn x = true ∨ X.env.scope.names.lookup x = some .local := by first | exact .inl rfl | exact .inr rfl | assumption) : PuB X W rs encL ex (.Assign [.Name x px] e pos :: rest) ρ enc (m >>= fun d => R.of (isLstD d) >>= f) := by
  refine b_setO i nd h hx (fun d a => ?_) hi hN hl hs hf
  cases d with
  | list ds => exact h2 ds a
  | _ => exact fun A B c H σ Dd r p => p.bad.elim
theorem b_setOD (i : Nat) {x : Str} {px : Pos} {f : List (D × D) → R (Fl α γ β)} (nd : X.N.Nodup) (h : PuO X W e ρ m) (hx : Wk ρ ex) (h2 : ∀ ds a, PuB X W rs encL ex rest (ρ.set i (.ce a (.dict ds))) enc (f ds)) (hi : i < ρ.length := by simp) (hN : X.N[i]? = some x := by rfl)
    (hl : Loc X.env.scope x := by first | exact Or.inl rfl | exact Or.inr rfl) (hs : swapsWith e (some (.Name x px)) pos.line X.env = pure false := by rfl)
    (hf : X.fn x = true ∨ X.env.scope.names.lookup x = some .local := by first | exact .inl rfl | exact .inr rfl | assumption) : PuB X W rs encL ex (.Assign [.Name x px] e pos :: rest) ρ enc (m >>= fun d => R.of (isDctD d) >>= f) := by
  refine b_setO i nd h hx (fun d a => ?_) hi hN hl hs hf
  cases d with
  | dict ds => exact h2 ds a
  | _ => exact fun A B c H σ Dd r p => p.bad.elim
end
/-- nothing is promised -/
theorem fn_bad {P : Program} {w : World} {K : PySem.W.Frag} {mg : Str → Option Value} {base : Heap} {CX : CXT} {k : Nat} {f : Addr} {fd : FuncData} {ps : List Str} {G : Gd} {own : Bool} {ks : List Bool} {mir : List D → R D} (h : ∀ ds, mir ds = .bad) : FnOk P w K mg base CX k f fd ps (spD G mg own ks mir) :=
  ⟨fun vs H Q E ⟨B, c, js, ds, _, _, _, _, _, p⟩ => by rw [h, Po.bad_] at p; exact p.elim, fun A outer s H args us vs Q E _ _ _ _ ⟨B, c, js, ds, _, _, _, _, _, p⟩ => by rw [h, Po.bad_] at p; exact p.elim⟩
/-- a def of the text: where it stands, how it is called -/
structure Df (K : PySem.W.Frag) (mg : Str → Option Value) (x : Str) (st : Stmt) (f : Addr) (fd : FuncData) (ps : List Str) : Prop where
  F : Fun K x x st f fd
  m : mg x = some (.ref f)
  k : PySem.W.keepIn K (.ref f) = true
  b : Binds K fd ps []

/-! ### a drawing -/
noncomputable def drawL : List D → R D
  | [.int n] => cIf (0 < n ∧ n < 2 ^ 8000) (.ch n.toNat fun i => .ok (.int i)) .bad
  | _ => .bad
/-- what the drawing def does to its jar -/
def DrawOk (nx : Int → Int → Int → Int → R (Fl Empty Empty (D × D))) : Prop := ∀ x y t n : Int, 0 ≤ x → x < 2 ^ 1000 → 0 ≤ y → y < 2 ^ 1000 → 0 ≤ t → t ≤ JMAX → 0 < n → n < 2 ^ 8000 →
  ∃ i x' y' t' : Int, nx x y t n = .ok (.rt (.int i, .list [.int x', .int y', .int t'])) ∧ 0 ≤ i ∧ i < n ∧ 0 ≤ x' ∧ x' < 2 ^ 1000 ∧ 0 ≤ y' ∧ y' < 2 ^ 1000 ∧ 0 ≤ t' ∧ t' ≤ t + 1
theorem fnN {P : Program} {w : World} {K : PySem.W.Frag} {mg : Str → Option Value} {base : Heap} {x qual : Str} {st : Stmt} {f : Addr} {fd : FuncData} {N ps : List Str} {k : Nat} {nx : Int → Int → Int → Int → R (Fl Empty Empty (D × D))} (F : Fun K x qual st f fd) (S : FnScope N ps (defScope st)) (hl : ps.length = 2)
    (hb : ∀ (cdv : Value) (A : Around) (outer : List Env) (s : Shared) (H : Hp) (E : XK), Fx (Cd P w K mg base N qual st f cdv A outer s H E) (WD E) k → ∀ (a : Addr) (x y t n : Int),
      PuB (Cd P w K mg base N qual st f cdv A outer s H E) (WD E) ({ val := Prod.fst, fin := fun r => [(a, r.2)] } : Rsp (D × D)) encE (List.replicate N.length .no) (defBody st) (.ce a (.list [.int x, .int y, .int t]) :: .pu (.int n) :: List.replicate (N.length - 2) Slot.no) encE (nx x y t n))
    (hM : DrawOk nx) : FnOk P w K mg base (L2.CX P w) (k + 1) f fd ps (spD ⟨P, w, K⟩ mg false [true, false] drawL) := by
  refine F.okX S (fun vs H Q E h => ?_) (fun cdv A outer s H vs Q E hr h => ?_)
  · obtain ⟨B, c, js, ds, mx, _⟩ := h
    rw [mx.length, hl]; rfl
  · obtain ⟨B, c, js, ds, mx, hnd, hj, hB, hcm, p⟩ := h
    have FX : Fx (Cd P w K mg base N qual st f cdv A outer s H E) (WD E) k := fx_of S.nd hr
    refine ⟨wpB (Cd P w K mg base N qual st f cdv A outer s H E) (defBody st), pb_wp, ?_⟩
    cases mx with
    | @jar _ a vs js ds mx =>
      cases mx with
      | @dat _ v vs js d ds rv mx =>
        cases mx
        have p : Po c (drawL [d]) _ _ := p
        cases rv with
        | int n =>
          rw [show drawL [.int n] = @ite _ (0 < n ∧ n < 2 ^ 8000) (Classical.propDecidable _) (.ch n.toNat fun i => .ok (.int i)) .bad from rfl] at p
          by_cases hn : 0 < n ∧ n < 2 ^ 8000
          rotate_left
          · rw [if_neg hn, Po.bad_] at p; exact p.elim
          rw [if_pos hn] at p
          cases c with
          | zero => exact p.elim
          | succ c =>
            obtain ⟨⟨x, y, t, ha, h1, h2, h3, h4, h5, h6⟩, hBa⟩ := hj a (by simp)
            have hNl : 2 ≤ N.length := by
              have := congrArg List.length S.pre
              rw [List.length_take, hl] at this
              omega
            have rs : RS ⟨P, w, K⟩ (fun b => B b ∧ b ∉ [a]) B c H (L2.start N [.ref a, .int n]) (.ce a (.list [.int x, .int y, .int t]) :: .pu (.int n) :: List.replicate (N.length - 2) Slot.no) := by
              have rep : ∀ (i : Nat) (s : Slot), (Slot.ce a (.list [.int x, .int y, .int t]) :: .pu (.int n) :: List.replicate (N.length - 2) Slot.no)[i]? = some s → (i = 0 ∧ s = .ce a (.list [.int x, .int y, .int t])) ∨ (i = 1 ∧ s = .pu (.int n)) ∨ s = .no := fun i s e => by
                match i with
                | 0 => exact .inl ⟨rfl, by simpa using e.symm⟩
                | 1 => exact .inr (.inl ⟨rfl, by simpa using e.symm⟩)
                | i + 2 =>
                  rw [List.getElem?_cons_succ, List.getElem?_cons_succ, List.getElem?_replicate] at e
                  split at e
                  · cases e; exact .inr (.inr rfl)
                  · cases e
              refine ⟨fun i s e => ?_, fun i b d e => ?_, fun i b e => ?_, fun i j b s t' e1 e2 o1 o2 => ?_, fun b z => z.1, hB, ?_, Nat.le_of_succ_le hcm⟩
              · rcases rep i s e with ⟨rfl, rfl⟩ | ⟨rfl, rfl⟩ | rfl
                · trivial
                · exact ⟨.int n, rfl, .int n⟩
                · trivial
              · rcases rep i _ e with ⟨rfl, z⟩ | ⟨rfl, z⟩ | z
                · cases z
                  exact ⟨rfl, .lst ha (.cons (.int x) (.cons (.int y) (.cons (.int t) .nil))), fun z => z.2 (by simp), hBa⟩
                · cases z
                · cases z
              · rcases rep i _ e with ⟨rfl, z⟩ | ⟨rfl, z⟩ | z <;> cases z
              · rcases rep i s e1 with ⟨rfl, rfl⟩ | ⟨rfl, rfl⟩ | rfl
                · rcases rep j t' e2 with ⟨rfl, rfl⟩ | ⟨rfl, rfl⟩ | rfl
                  · rfl
                  · cases o2
                  · cases o2
                · cases o1
                · cases o1
              · unfold L2.start
                simp
            refine hb cdv A outer s H E FX a x y t n _ B c H _ _ rs ?_
            obtain ⟨i, x', y', t', e1, i0, in', q1, q2, q3, q4, q5, q6⟩ := hM x y t n h1 h2 h3 h4 h5 (by omega) hn.1 hn.2
            rw [e1]
            unfold PoB
            rw [Po.ok_]
            intro v B' H' fr rt
            obtain ⟨r1, r2, _, r4, r5⟩ := rt
            rw [if_neg Bool.false_ne_true] at r1
            have r1 : Rp ⟨P, w, K⟩ B' H' v (.int i) := r1
            have rc := r2 (a, .list [.int x', .int y', .int t']) (by simp)
            have hH' : H' a = some (.lst [.int x', .int y', .int t']) := by
              have rc : RpC ⟨P, w, K⟩ B' H' a (.list [.int x', .int y', .int t']) := rc
              cases rc with
              | lst e rs =>
                cases rs with
                | cons z1 rs =>
                  cases rs with
                  | cons z2 rs =>
                    cases rs with
                    | cons z3 rs => cases rs; cases z1; cases z2; cases z3; exact e
            have p2 := p i.toNat (by omega)
            rw [Po.ok_] at p2
            have ei : ((i.toNat : Nat) : Int) = i := Int.toNat_of_nonneg i0
            refine p2 v H' ⟨fr.kept, fr.there⟩ (fun b hb => ?_) (fun b z => ?_) ?_
            · have hb : b = a := by simpa using hb
              subst hb
              exact ⟨x', y', t', hH', q1, q2, q3, q4, q5, by omega⟩
            · by_cases hb : b = a
              · subst hb; exact ⟨_, hH'⟩
              · exact r4 b (r5 b ⟨z, by simpa using hb⟩)
            · unfold Back
              rw [if_neg Bool.false_ne_true, ei]
              cases r1
              exact .int i
        | _ => exact (show False from by rw [show drawL _ = R.bad from rfl, Po.bad_] at p; exact p).elim
end Pu

set_option maxHeartbeats 4000000
/-! P13: rows made by repeating; a tuple turned round. -/
namespace Pu
open PySem PySem.Spec L2 PyProof.Rows
open PySem.AutoSeq1 (wpAny_loadPart')
theorem tuple_mul1 (l : Addr) (items : Array Value) (n : Nat) (dd : Option Addr) (sl : Array (Option Value)) (u : Tok) :
    Meets (Builtin.«tuple.__mul__» ⟨[.ref l, .int 1 u], []⟩) (fun _ R s => s.heap.get? l = some { cls := .type "tuple", dict := dd, data := .seq items n, slots := sl } ∧ R (.ok (.ret (.ref l))) s) :=
  .of_wp fun prog w A R s h => by
    obtain ⟨hp, g, d, tk, os⟩ := s
    obtain ⟨hl, h⟩ := h
    have f1 := AutoSeq1.idx_int
    have c1 : (items.isEmpty || (1 : Int) == 1) = true := by simp
    wp_walk using wpAny_loadPart' hl
    exact ⟨_, rfl, h⟩
theorem tuple_mul0 (l : Addr) (items : Array Value) (n : Nat) (dd : Option Addr) (sl : Array (Option Value)) (x : Int) (u : Tok) (c0 : (decide (x < -(2 ^ 63)) || decide (x ≥ 2 ^ 63)) = false) (hx : x ≤ 0) (hi : items.isEmpty = false) :
    Meets (Builtin.«tuple.__mul__» ⟨[.ref l, .int x u], []⟩) (fun _ R s => s.heap.get? l = some { cls := .type "tuple", dict := dd, data := .seq items n, slots := sl } ∧ R (.ok (.ret (.ref s.heap.objs.size))) { s with heap := s.heap.push { cls := Value.type "tuple", data := .seq #[] } }) :=
  .of_wp fun prog w A R s h => by
    obtain ⟨hp, g, d, tk, os⟩ := s
    obtain ⟨hl, h⟩ := h
    have f1 := AutoSeq1.idx_int
    have c1 : (items.isEmpty || x == 1) = false := by rw [hi, Bool.false_or]; exact beq_eq_false_iff_ne.mpr (by omega)
    have c2 : (decide (x ≤ 0) || items.isEmpty) = true := by rw [decide_eq_true hx]; rfl
    wp_walk using wpAny_loadPart' hl
    refine wpAny_ite_false (decide_eq_false (by rw [c0]; exact Bool.false_ne_true)) ?_
    wp_walk using wpAny_loadPart' hl
    refine wpAny_ite_false (decide_eq_false (by rw [c1]; exact Bool.false_ne_true)) ?_
    wp_walk using wpAny_loadPart' hl
    exact ⟨_, rfl, h⟩
section
variable {X : Cx} {W : WX} {ρ : Ev} {pos p1 : Pos} {e : Expr} {es : List Expr} {m : R D} {ms : R (List D)}
def rRepA (K : PySem.W.Frag) : R2 := fun x y H Q => ∃ l k xs, x = .ref l ∧ y = .int k ∧ SqT K H l xs ∧ xs ≠ [] ∧ -(2 ^ 62) ≤ k ∧ k < 2 ^ 62 ∧ xs.length * k.toNat ≤ sizeLine ∧ (k = 1 → Q (.ref l) H) ∧ (k ≠ 1 → ∀ p, H p = none → Q (.ref p) (upd H p (.tup (List.replicate k.toNat xs).flatten)))
theorem op_repA : OpR X (binaryOp .Mult) (rRepA X.K) := by
  intro pins s σ H x y v u Q I rx ry h
  obtain ⟨l, k, xs, rfl, rfl, hT, hne, h1, h2, hz, q1, q2⟩ := h
  cases rx
  obtain ⟨t, rfl⟩ := ry
  obtain ⟨its, r, ⟨⟨cls, dd, data, sl⟩, ho, hc, n, hd⟩, hs⟩ := I.tuple hT
  simp only at hc hd
  subst hc hd
  have hle : its.length = xs.length := r.length.symm
  have hn : its ≠ [] := fun e => hne (List.eq_nil_of_length_eq_zero (by rw [← hle, e]; rfl))
  have hi : its.toArray.isEmpty = false := by
    cases its with
    | nil => exact absurd rfl hn
    | cons a b => rfl
  have c0 : (decide (k < -(2 ^ 63)) || decide (k ≥ 2 ^ 63)) = false := by
    rw [decide_eq_false (by omega), decide_eq_false (by omega)] <;> rfl
  have road : ∀ {Q' : Value → Shared → Prop} {Γ : Around → (Result → Shared → Prop) → Shared → Prop}, Meets (Builtin.«tuple.__mul__» ⟨[.ref l, .int k t], []⟩) Γ → Γ X.A.in1.in1 (fun r s' => match r with | .ok (.ret v) => Q' v s' | .ok _ => False | .error e => X.xe e s') s → True := fun _ _ => trivial
  have sz : its.toArray.size = xs.length := by rw [List.size_toArray, hle]
  by_cases k1 : k = 1
  · subst k1
    refine wpAny_binaryOp_repeat_ref (T := "tuple") (U := "int") (by decide) ⟨_, ho, rfl⟩ (fun s' => typeIs_int s' 1 t) noFill_tuple_mul F.fills_int_mul F.slot_int_rmul repeat_tuple F.slot_int_index.lookup
      (call_meets F.slot_int_rmul (typeIs_int s 1 t) F.entry_int_rmul (F.args_int_rmul_2 _ _) (int_rmul_tuple 1 t l its.toArray n dd sl)
        ⟨ho, rfl, ⟨_, ho, rfl⟩, call_meets F.slot_tuple_mul ⟨_, ho, rfl⟩ F.entry_tuple_mul (F.args_tuple_mul_2 _ _) (tuple_mul1 l its.toArray n dd sl t) ⟨ho, ?_⟩⟩)
    exact ⟨.ref l, H, I, rfl, q1 rfl⟩
  · by_cases k0 : k ≤ 0
    · refine wpAny_binaryOp_repeat_ref (T := "tuple") (U := "int") (by decide) ⟨_, ho, rfl⟩ (fun s' => typeIs_int s' k t) noFill_tuple_mul F.fills_int_mul F.slot_int_rmul repeat_tuple F.slot_int_index.lookup
        (call_meets F.slot_int_rmul (typeIs_int s k t) F.entry_int_rmul (F.args_int_rmul_2 _ _) (int_rmul_tuple k t l its.toArray n dd sl)
          ⟨ho, rfl, ⟨_, ho, rfl⟩, call_meets F.slot_tuple_mul ⟨_, ho, rfl⟩ F.entry_tuple_mul (F.args_tuple_mul_2 _ _) (tuple_mul0 l its.toArray n dd sl k t c0 k0 hi) ⟨ho, ?_⟩⟩)
      have e0 : k.toNat = 0 := Int.toNat_of_nonpos k0
      have q3 := q2 k1 _ (I.hok.fresh (Nat.le_refl _))
      rw [e0] at q3
      exact ⟨.ref s.heap.objs.size, _, I.laid (t' := s.toks) (o := .tup []) (fun b ob q => Heap.get?_push_of_some _ q) (Nat.le_refl _) ⟨Nat.zero_le _, [], .nil, IsTup.new _ _⟩, rfl, q3⟩
    · have c1 : (its.toArray.isEmpty || k == 1) = false := by
        rw [hi, Bool.false_or]
        exact beq_eq_false_iff_ne.mpr k1
      have c2 : (decide (k ≤ 0) || its.toArray.isEmpty) = false := by
        rw [hi, Bool.or_false]
        exact decide_eq_false k0
      have ek : ((k.toNat : Nat) : Int) = k := Int.toNat_of_nonneg (by omega)
      have hm : ((its.toArray.size : Nat) : Int) * k ≤ sizeLine := by
        rw [sz, ← ek, ← Int.natCast_mul]
        exact Int.ofNat_le.mpr hz
      have hsl := sizeLine_eq
      have flen : (List.replicate k.toNat its).flatten.length ≤ sizeLine := by
        rw [PyProof.Rows.lm_len_rep_flat, hle, Nat.mul_comm]
        exact hz
      have c4 : Builtin.Tuple.tupleTooMany (((its.toArray.size : Nat) : Int) * k) = false := by
        unfold Builtin.Tuple.tupleTooMany
        exact decide_eq_false (by omega)
      refine wpAny_binaryOp_repeat_ref (T := "tuple") (U := "int") (by decide) ⟨_, ho, rfl⟩ (fun s' => typeIs_int s' k t) noFill_tuple_mul F.fills_int_mul F.slot_int_rmul repeat_tuple F.slot_int_index.lookup
        (call_meets F.slot_int_rmul (typeIs_int s k t) F.entry_int_rmul (F.args_int_rmul_2 _ _) (int_rmul_tuple k t l its.toArray n dd sl)
          ⟨ho, rfl, ⟨_, ho, rfl⟩, call_meets F.slot_tuple_mul ⟨_, ho, rfl⟩ F.entry_tuple_mul (F.args_tuple_mul_2 _ _) (tuple_mulW l its.toArray n dd sl k t c0 c1 c2 (by omega) c4 (by rw [size_rep, List.size_toArray]; exact flen)) ⟨ho, ?_⟩⟩)
      rw [size_rep]
      refine ⟨.ref s.heap.objs.size, _, I.laid (t' := s.toks) (o := .tup (List.replicate k.toNat xs).flatten) (fun b ob q => Heap.get?_push_of_some _ q) (Nat.le_refl _) ?_, rfl, q2 k1 _ (I.hok.fresh (Nat.le_refl _))⟩
      exact ⟨by rw [PyProof.Rows.lm_len_rep_flat, Nat.mul_comm]; exact hz, _, r.rep k.toNat, IsTup.new _ _⟩
theorem RpAll.rep {G : Gd} {B : Addr → Prop} {H : Hp} {vs : List V} {ds : List D} (r : RpAll G B H vs ds) : ∀ n : Nat, RpAll G B H (List.replicate n vs).flatten (List.replicate n ds).flatten
  | 0 => .nil
  | n + 1 => by
    rw [List.replicate_succ, List.replicate_succ, List.flatten_cons, List.flatten_cons]
    exact r.append (RpAll.rep r n)
noncomputable def pRep : D → D → Option D
  | .tuple xs, .int k => cIf (xs ≠ [] ∧ -(2 ^ 62) ≤ k ∧ k < 2 ^ 62 ∧ xs.length * k.toNat ≤ LINE) (some (.tuple (List.replicate k.toNat xs).flatten)) none
  | _, _ => none
/-- a tuple, so many times -/
theorem op_repP : OpR X (binaryOp .Mult) (r2 (gd X) pRep) := by
  intro pins s σ H x y v u Q I rx ry h
  obtain ⟨B, dx, dy, hB, px, py, d, e, q⟩ := h
  cases px with
  | @tup a xs ds na sx rsx =>
    cases py with
    | int k =>
      have e' : cIf (ds ≠ [] ∧ -(2 ^ 62) ≤ k ∧ k < 2 ^ 62 ∧ ds.length * k.toNat ≤ LINE) (some (PyData.tuple (List.replicate k.toNat ds).flatten)) none = some d := e
      unfold cIf at e'
      split at e'
      · rename_i hc
        cases e'
        refine op_repA pins s σ H _ _ v u Q I rx ry ⟨a, k, xs, rfl, rfl, sx, fun z => ?_, hc.2.1, hc.2.2.1, by rw [rsx.length, line_eq]; exact hc.2.2.2, fun k1 => ?_, fun _ p hp => ?_⟩
        · subst z; cases rsx; exact hc.1 rfl
        · subst k1
          refine q _ H (Same.refl H) (.tup na sx ?_)
          simpa using rsx
        · exact q _ _ (same_upd hp) (.tup (.inl (nav_of hB hp)) (.of upd_same) ((rsx.rep k.toNat).same (same_upd hp)))
      · cases e'
    | _ => cases e
  | _ => cases py <;> cases e
/-- [..] * e -/
noncomputable def pRepL (xs : List D) : D → Option D
  | .int k => cIf (-(2 ^ 62) ≤ k ∧ k < 2 ^ 62 ∧ xs.length * k.toNat ≤ LINE) (some (.list (List.replicate k.toNat xs).flatten)) none
  | _ => none
theorem po_repL (h : PuA X W es ρ ms) (h2 : PuE X W e ρ m) : PuO X W (.BinOp (.List es p1) .Mult e pos) ρ (do let xs ← ms; if xs.length ≤ LINE then (do let y ← m; R.of (pRepL xs y)) else .bad) := by
  intro A B c0 H σ Q r p
  refine (pe_op op_rep (pe_lst pa_wp) pe_wp).to ?_
  refine h.step r p fun c1 ds vs H1 k1 rs r1 p1 => ?_
  by_cases hl : ds.length ≤ LINE
  rotate_left
  · rw [if_neg hl] at p1; exact p1.bad.elim
  rw [if_pos hl] at p1
  refine ⟨by rw [rs.length, line_eq]; exact hl, fun q hq => ?_⟩
  have su := same_upd (o := HO.lst vs) hq
  have h0 : H q = none := by
    cases e : H q with
    | none => rfl
    | some o =>
      obtain ⟨o', z⟩ := k1.there q o e
      rw [hq] at z; cases z
  -- the list itself stands aside while e is worked out
  have r2 := r1.into su hq ⟨_, upd_same⟩
  have nj : Slot.jar q ∉ ρ := fun z => by
    obtain ⟨i, hi⟩ := mem_get z
    exact r1.nav hq (r1.jr i q hi).2.2.2
  refine h2 (fun b => A b ∨ b = q) (fun b => B b ∨ b = q) c1 _ σ _ r2 (Po.mono (fun c2 dy pp y H2 k2 r3 ry => ?_) (fun c2 x d pp cls dx H2 k2 r3 ex => ?_) (Po.bind p1))
  · have kb : Kx (Aj B ρ) B H1 H2 := ⟨fun b o n e => k2.kept b o (fun z => n ⟨z.1.elim id fun y => absurd (by subst y; exact Classical.byContradiction fun w => z.2 ⟨.inr rfl, w⟩) nj, fun w => z.2 ⟨.inl w.1, w.2⟩⟩) (su b o e), fun b o e => k2.there b o (su b o e)⟩
    have hq2 : H2 q = some (.lst vs) := k2.kept q _ (fun z => z.2 ⟨.inr rfl, nj⟩) upd_same
    have r4 : RS (gd X) A B c2 H2 σ ρ := by
      refine ⟨fun i s h => (r3.ro i s h).sub fun b z => .inl z, fun i a d h => ?_, fun i a h => ?_, r3.inj, r1.sub, fun b z => r3.dom b (.inl z), r3.len, r3.cm⟩
      · obtain ⟨e1, e2, e3, e4⟩ := r3.ce i a d h
        exact ⟨e1, e2.sub fun b z => .inl z, (r1.ce i a d h).2.2⟩
      · obtain ⟨e1, e2, e3, e4⟩ := r3.jr i a h
        exact ⟨e1, e2, (r1.jr i a h).2.2⟩
    have pp : PoG X W A B σ ρ c2 H1 (relO X B H) (R.of (pRepL ds dy)) Q := pp
    cases ry with
    | int k =>
      unfold pRepL cIf at pp
      simp only at pp
      split at pp
      · rename_i hc
        refine ⟨q, k, vs, rfl, rfl, hq2, by omega, by omega, by rw [rs.length, line_eq]; exact hc.2.2, fun p' hp => ?_⟩
        have su2 := same_upd (o := HO.lst (List.replicate k.toNat vs).flatten) hp
        have h0' : H p' = none := by
          cases e : H p' with
          | none => rfl
          | some o =>
            obtain ⟨o', z⟩ := (k1.trans kb).there p' o e
            rw [hp] at z; cases z
        refine PoG.here pp (kb.trans (Kx.same su2)) (r4.ext su2) ⟨p', rfl, h0', ?_⟩
        refine .lst upd_same (((rs.kx kb).rep k.toNat).more (fun b z => z.imp id fun z => by subst z; exact hp) |>.keep (Same.kept su2))
      · exact pp.bad.elim
    | _ => exact pp.bad.elim
  · have kb : Kx (Aj B ρ) B H1 H2 := ⟨fun b o n e => k2.kept b o (fun z => n ⟨z.1.elim id fun y => absurd (by subst y; exact Classical.byContradiction fun w => z.2 ⟨.inr rfl, w⟩) nj, fun w => z.2 ⟨.inl w.1, w.2⟩⟩) (su b o e), fun b o e => k2.there b o (su b o e)⟩
    have r4 : RS (gd X) A B c2 H2 σ ρ := by
      refine ⟨fun i s h => (r3.ro i s h).sub fun b z => .inl z, fun i a d h => ?_, fun i a h => ?_, r3.inj, r1.sub, fun b z => r3.dom b (.inl z), r3.len, r3.cm⟩
      · obtain ⟨e1, e2, e3, e4⟩ := r3.ce i a d h
        exact ⟨e1, e2.sub fun b z => .inl z, (r1.ce i a d h).2.2⟩
      · obtain ⟨e1, e2, e3, e4⟩ := r3.jr i a h
        exact ⟨e1, e2, (r1.jr i a h).2.2⟩
    exact pp cls dx H2 kb r4 ⟨ex.1, ex.2.sub fun b z => .inl z⟩
theorem pu_repL (h : PuA X W es ρ ms) (h2 : PuE X W e ρ m) : PuE X W (.BinOp (.List es p1) .Mult e pos) ρ (do let xs ← ms; if xs.length ≤ LINE then (do let y ← m; R.of (pRepL xs y)) else .bad) := (po_repL h h2).pu
/-! ### a tuple turned round -/
theorem places_back (n : Nat) : Builtin.Slice.slicePlaces ((n : Int) - 1) (-1) (-1) = n := by
  unfold Builtin.Slice.slicePlaces
  by_cases h : n = 0
  · subst h; decide
  · simp
    try omega
theorem adjust_back (n : Nat) : Builtin.Slice.sliceAdjust none none (-1) (n : Int) = ((n : Int) - 1, -1) := by
  unfold Builtin.Slice.sliceAdjust
  simp
theorem pick_back (xs : Array Value) : ((List.range xs.size).filterMap fun (m : Nat) => xs[((xs.size : Int) - 1 + (m : Int) * (-1)).toNat]?).toArray = xs.toList.reverse.toArray := by
  have e : (List.range xs.size).filterMap (fun (m : Nat) => xs[((xs.size : Int) - 1 + (m : Int) * (-1)).toNat]?) = ((List.range xs.size).map fun k => xs.size - 1 - k).filterMap (xs[·]?) := by
    rw [List.filterMap_map]
    have go : ∀ l : List Nat, (∀ m ∈ l, m < xs.size) → l.filterMap (fun (m : Nat) => xs[((xs.size : Int) - 1 + (m : Int) * (-1)).toNat]?) = l.filterMap ((xs[·]?) ∘ fun k => xs.size - 1 - k) := fun l => by
      induction l with
      | nil => intro _; rfl
      | cons m l ih =>
        intro hl
        have hm := hl m (by simp)
        have e1 : ((xs.size : Int) - 1 + (m : Int) * (-1)).toNat = xs.size - 1 - m := by omega
        rw [List.filterMap_cons, List.filterMap_cons, ih fun k hk => hl k (by simp [hk])]
        simp only [e1, Function.comp]
    exact go _ fun m hm => List.mem_range.mp hm
  rw [e, PySem.W.krv_range, List.filterMap_reverse, PySem.W.krv_all]
theorem getItem_back {prog : Program} {w : World} {A : Around} {E : Value → Shared → Prop} {s : Shared} {t sl : Addr} {items : Array Value} {vl vu vs : Value} {Q : Value → Shared → Prop} (ht : IsTup s.heap t items) (hs : s.heap.IsSliceOf sl vl vu vs) (pl : IsPart vl none) (pu : IsPart vu none) (ps : IsPart vs (some (-1)))
    (h : Q (.ref s.heap.objs.size) { s with heap := s.heap.push { cls := .type "tuple", data := .seq items.toList.reverse.toArray } }) (hsz : items.size ≤ sizeLine) : wpAny (model prog w) A (getItem (.ref t) (.ref sl)) Q E s := by
  have htake : sizeOk (.seq items.toList.reverse.toArray) := by
    show items.toList.reverse.toArray.size ≤ sizeLine
    simpa using hsz
  obtain ⟨os, hos, hcs, hds⟩ := id hs
  have hTs : s.TypeIs (.ref sl) "slice" := ⟨os, hos, hcs⟩
  unfold getItem
  try with_reducible refine wpAny_holding ?_
  first | refine wpAny_bind (wpAny_pure ?_) | skip
  refine wpAny_bind (wpAny_sequenceKey ht.typeIs (by decide) (wpAny_bind (wpAny_callSpecial?_slot (name := Str.ofString "__getitem__") ht.typeIs PyProof.Rows.slot_tuple_getitem (wpAny_call_entry PyProof.Rows.slot_tuple_getitem ht.typeIs PyProof.Rows.entry_tuple_getitem ?_ (PyProof.Rows.args_tuple_getitem _ _)))))
  refine wpAny_bind (m := Builtin.Tuple.tupleItemsOf (.ref t)) (PyProof.Rows.tupleItemsOf_ ht (wpAny_bind (wpAny_typeOf hTs ?_)))
  rw [if_pos (by decide)]
  refine wpAny_bind (m := Builtin.Slice.sliceApplied (.ref sl) (pure (items.size : Int))) ?_
  unfold Builtin.Slice.sliceApplied Builtin.Slice.sliceFields
  refine wpAny_bind (wpAny_bind (wpAny_field hos hds (x := vl) rfl (wpAny_bind (wpAny_field hos hds (x := vu) rfl (wpAny_bind (wpAny_field hos hds (x := vs) rfl (wpAny_pure ?_)))))))
  refine wpAny_bind (HT.slicePart_ ps ?_)
  show wpAny _ _ (if ((-1 : Int) == 0) = true then _ else _) _ _ s
  rw [if_neg (by decide)]
  refine wpAny_bind (HT.slicePart_ pl (wpAny_bind (HT.slicePart_ pu (wpAny_bind (wpAny_pure ?_)))))
  show wpAny _ _ (match Builtin.Slice.sliceAdjust none none (-1) (items.size : Int) with | (lo, hi) => pure (lo, (-1 : Int), Builtin.Slice.slicePlaces lo hi (-1))) _ _ s
  rw [adjust_back items.size]
  show wpAny _ _ (pure ((items.size : Int) - 1, (-1 : Int), Builtin.Slice.slicePlaces ((items.size : Int) - 1) (-1) (-1))) _ _ s
  rw [places_back]
  refine wpAny_pure ?_
  show wpAny _ _ (if (((items.size : Int) - 1) == 0 && (-1 : Int) == 1 && items.size == items.size) = true then _ else _) _ _ s
  rw [if_neg (by rw [show ((-1 : Int) == 1) = false from rfl, Bool.and_false, Bool.false_and]; exact Bool.false_ne_true), pick_back]
  first
    | exact wpAny_bind (m := Builtin.Tuple.tupleExact _) (wpAny_newObj_type (wpAny_pure ⟨_, rfl, wpAny_pure h⟩) htake)
    | exact wpAny_bind (wpAny_bind (m := Builtin.Tuple.tupleExact _) (wpAny_newObj_type (wpAny_pure ⟨_, rfl, wpAny_pure h⟩) htake))
def pRevT : D → Option D
  | .tuple xs => some (.tuple xs.reverse)
  | .list xs => some (.list xs.reverse)
  | _ => none
theorem pu_revT {k : Nat} {p2 p3 : Pos} (h : PuE X W e ρ m) : PuE X W (.Subscript e (.Slice none none (some (.UnaryOp .USub (.Constant (.int 1) k p1) p2)) p3) pos) ρ (do let x ← m; R.of (pRevT x)) := by
  intro A B c0 H σ Q r p
  have pe : PE X (.Subscript e (.Slice none none (some (.UnaryOp .USub (.Constant (.int 1) k p1) p2)) p3) pos) (fun σ H Q => wpE X e σ H fun x H1 => ∃ a xs, x = .ref a ∧ ((SqT X.K H1 a xs ∧ ∀ p, H1 p = none → Q (.ref p) (upd H1 p (.tup xs.reverse))) ∨ (SqL X.K H1 a xs ∧ ∀ p, H1 p = none → Q (.ref p) (upd H1 p (.lst xs.reverse))))) := by
    refine ⟨fun pins s σ H Q I h => Subscript_ (thn (pe_wp.run pins s σ H _ I h) fun v s1 ⟨x, H1, I1, r1, q1⟩ => ?_)⟩
    obtain ⟨a, xs, ex, hxq⟩ := q1
    subst ex
    cases r1
    have hst : PO X (some (.UnaryOp .USub (.Constant (.int 1) k p1) p2)) (tPart (tUn (rU fun i => .int (-i)) (tC (.int 1)))) := po_some (pe_un un_neg pe_int)
    refine wpAny_Slice (thn (po_none.run pins s1 σ H1 (fun o H2 => o = none ∧ H2 = H1) I1 ⟨rfl, rfl⟩) fun vl s2 ⟨l, H2, I2, pl, el, e2⟩ => ?_)
    subst el e2
    refine thn (po_none.run pins s2 σ H2 (fun o H3 => o = none ∧ H3 = H2) I2 ⟨rfl, rfl⟩) fun vu s3 ⟨u, H3, I3, pu, eu, e3⟩ => ?_
    subst eu e3
    refine thn (hst.run pins s3 σ H3 (fun o H4 => o = some (-1) ∧ H4 = H3) I3 ⟨1, rfl, -1, rfl, rfl, rfl⟩) fun vs s4 ⟨o, H4, I4, ps, eo, e4⟩ => ?_
    subst eo e4
    have I5 : Inv X pins σ H4 { s4 with heap := s4.heap.push { cls := .type "slice", data := .fields #[vl, vu, vs] } } := I4.kept (t' := s4.toks) fun b ob q => Heap.get?_push_of_some _ q
    rcases hxq with ⟨hx, q⟩ | ⟨hx, q⟩
    · obtain ⟨its, r, ht, hz⟩ := I5.tuple hx
      have hlen := r.length
      show wpAny (model X.prog X.w) X.A (subscriptTail e (.Slice none none (some (.UnaryOp .USub (.Constant (.int 1) k p1) p2)) p3) (.ref a) (.ref s4.heap.objs.size)) (EP X pins σ Q) X.xe { s4 with heap := s4.heap.push { cls := .type "slice", data := .fields #[vl, vu, vs] } }
      refine tail_any (ops := [.ref a, .ref s4.heap.objs.size]) ht.typeIs PyProof.Rows.slot_tuple_getitem.lookup ?_ (by with_unfolding_all rfl)
      refine getItem_back ht (Heap.IsSliceOf.new _ vl vu vs) pl pu ps ?_ (by rw [List.size_toArray]; omega)
      refine ⟨.ref _, _, I5.laid (t' := s4.toks) (o := .tup xs.reverse) (fun b ob q => Heap.get?_push_of_some _ q) (Nat.le_refl _) ?_, rfl, q _ (I5.hok.fresh (Nat.le_refl _))⟩
      exact ⟨by rw [List.length_reverse]; exact hz, _, r.reverse, IsTup.new _ _⟩
    · obtain ⟨its, r, ht, hz⟩ := I5.list hx
      have hlen := r.length
      show wpAny (model X.prog X.w) X.A (subscriptTail e (.Slice none none (some (.UnaryOp .USub (.Constant (.int 1) k p1) p2)) p3) (.ref a) (.ref s4.heap.objs.size)) (EP X pins σ Q) X.xe { s4 with heap := s4.heap.push { cls := .type "slice", data := .fields #[vl, vu, vs] } }
      refine tail_any (ops := [.ref a, .ref s4.heap.objs.size]) ht.isList.typeIs slot_list_getitem.lookup ?_ (by with_unfolding_all rfl)
      refine wpAny_getItem_list_slice ht.isList (Heap.IsSliceOf.new _ vl vu vs) pl pu ps (by simp) ?_ (by rw [List.size_toArray] <;> omega)
      rw [PySem.W.krv_pick]
      refine ⟨.ref _, _, I5.laid (t' := s4.toks) (o := .lst xs.reverse) (fun b ob q => Heap.get?_push_of_some _ q) (Nat.le_refl _) ?_, rfl, q _ (I5.hok.fresh (Nat.le_refl _))⟩
      exact ⟨by rw [List.length_reverse]; exact hz, _, 0, r.reverse, Heap.get?_push_size _ rfl⟩
  refine pe.to (h.step r p fun c1 dx x H1 k1 rx r1 p1 => ?_)
  cases rx with
  | tup na sx rsx => exact ⟨_, _, rfl, .inl ⟨sx, fun p hp => PoG.now p1 r1 (same_upd hp) (.tup (.inl (r1.nav hp)) (.of upd_same) (rsx.reverse.same (same_upd hp)))⟩⟩
  | lst na sx rsx => exact ⟨_, _, rfl, .inr ⟨sx, fun p hp => PoG.now p1 r1 (same_upd hp) (.lst (.inl (r1.nav hp)) (.of upd_same) (rsx.reverse.same (same_upd hp)))⟩⟩
  | _ => exact p1.bad.elim
end
end Pu

set_option maxHeartbeats 4000000
/-! P14: dicts, sorted. -/
namespace Pu
open PySem PySem.Spec L2 PyProof.Rows PySem.W
section
variable {X : Cx} {W : WX} {ρ : Ev} {pos p1 : Pos} {e : Expr} {es : List Expr} {m : R D} {ms : R (List D)}
mutual
theorem reads_lt {h : Heap} : ∀ {v : Value} {d : PyData} {as : List Addr}, Reads h v d as → ∀ b ∈ as, b < h.objs.size
  | _, _, _, .none, b, hb => nomatch hb
  | _, _, _, .bool _, b, hb => nomatch hb
  | _, _, _, .int _ _, b, hb => nomatch hb
  | _, _, _, .str _ _, b, hb => nomatch hb
  | _, _, _, .list h1 _ _ r, b, hb => by
    rcases List.mem_cons.mp hb with rfl | hb
    · exact Heap.lt_size h1
    · exact readsAll_lt r b hb
  | _, _, _, .tuple h1 _ _ r, b, hb => readsAll_lt r b hb
  | _, _, _, .dict h1 _ _ r1 r2, b, hb => by
    rcases List.mem_cons.mp hb with rfl | hb
    · exact Heap.lt_size h1
    · rcases List.mem_append.mp hb with hb | hb
      · exact readsAll_lt r1 b hb
      · exact readsAll_lt r2 b hb
theorem readsAll_lt {h : Heap} : ∀ {vs : List Value} {ds : List PyData} {as : List Addr}, ReadsAll h vs ds as → ∀ b ∈ as, b < h.objs.size
  | _, _, _, .nil, b, hb => nomatch hb
  | _, _, _, .cons r1 r2, b, hb => by
    rcases List.mem_append.mp hb with hb | hb
    · exact reads_lt r1 b hb
    · exact readsAll_lt r2 b hb
end
theorem vals_of_get {vs : List V} {us : List Value} (hl : vs.length = us.length) (h : ∀ (i : Nat) (v : V) (u : Value), vs[i]? = some v → us[i]? = some u → RelV v u) : Vals vs us := by
  induction vs generalizing us with
  | nil => cases us with
    | nil => exact .nil
    | cons _ _ => simp at hl
  | cons v vs ih =>
    cases us with
    | nil => simp at hl
    | cons u us => exact .cons (h 0 v u rfl rfl) (ih (by simpa using hl) fun i v u h1 h2 => h (i + 1) v u (by simpa using h1) (by simpa using h2))
theorem dn_keys {G : Gd} {es : List (NestedKey × Addr × V)} {xs : List (NestedKey × Addr × Value)} (pr : Paired (fun (p : NestedKey × Addr × V) (q : NestedKey × Addr × Value) => p.1 = q.1 ∧ p.2.1 = q.2.1 ∧ RelV p.2.2 q.2.2) es xs) :
    Vals (es.map fun e => V.ref e.2.1) ((xs.map (entryOfKey (nestedKind G.P G.w))).map (·.key)) ∧ Vals (es.map (·.2.2)) ((xs.map (entryOfKey (nestedKind G.P G.w))).map (·.val)) := by
  induction pr with
  | nil => exact ⟨.nil, .nil⟩
  | cons r _ ih => exact ⟨.cons (by show RelV (.ref _) _; rw [r.2.1]; exact rfl) ih.1, .cons r.2.2 ih.2⟩
/-- a dict's entries, whatever its keys -/
theorem DHold.raw {pins : List (Addr × Obj)} {σ : L2.St} {H : Hp} {s : Shared} {a : Addr} {kds : List D} {ks vs : List V} (I : Inv X pins σ H s) (h : DHold (gd X) H a kds ks vs) :
    (a == sysModules) = false ∧ ks.length ≤ sizeLine ∧ ks.length = vs.length ∧ ∃ es ep, s.heap.DictRaw a es ep ∧ Vals ks (es.toList.map (·.key)) ∧ Vals vs (es.toList.map (·.val)) := by
  rcases h with ⟨kvs, h, rfl, rfl⟩ | ⟨es, h, rfl, rfl, _, _⟩
  · obtain ⟨hz, lo, xs, rel, dd⟩ := dk_of I.hok h
    obtain ⟨ep, hat⟩ := dd.dictAt
    obtain ⟨ens, hr, hs, he⟩ := hat.raw
    have hl := rel.length
    have at_ : ∀ (i : Nat) (k : Key) (v : V), kvs[i]? = some (k, v) → ∃ u, xs[i]? = some (k, u) ∧ RelV v u := fun i k v e => by
      have go : ∀ {l1 : List (Key × V)} {l2 : List (Key × Value)}, KV l1 l2 → ∀ i : Nat, l1[i]? = some (k, v) → ∃ u, l2[i]? = some (k, u) ∧ RelV v u := fun {l1 l2} r => by
        induction r with
        | nil => intro i e; simp at e
        | @cons p q _ _ r _ ih =>
          intro i e
          cases i with
          | zero =>
            have e : p = (k, v) := by simpa using e
            subst e
            obtain ⟨q1, q2⟩ := q
            obtain ⟨r1, r2⟩ := r
            have r1 : k = q1 := r1
            subst r1
            exact ⟨q2, rfl, r2⟩
          | succ i => simpa using ih i (by simpa using e)
      exact go rel i e
    refine ⟨lo, by rw [List.length_map]; exact hz, by rw [List.length_map, List.length_map], ens, ep, hr, ?_, ?_⟩
    · refine vals_of_get (by have hz' : ens.toList.length = ens.size := Array.length_toList; rw [List.length_map, List.length_map, hz', hs, hl]) fun i v u e1 e2 => ?_
      rw [List.getElem?_map] at e1 e2
      cases e3 : kvs[i]? with
      | none => rw [e3] at e1; cases e1
      | some p =>
        rw [e3] at e1; cases e1
        obtain ⟨w, e4, _⟩ := at_ i p.1 p.2 e3
        have hi : i < ens.size := by rw [hs]; exact (List.getElem?_eq_some_iff.mp e4).1
        obtain ⟨h1, h2⟩ := he i hi p.1 w e4
        have e5 : ens.toList[i]? = some ens[i] := by simp [hi]
        rw [e5] at e2; cases e2
        rcases keyIs_shape h1 with ⟨j, t, ek, ev⟩ | ⟨z, t, ek, ev⟩
        · show RelV (kV p.1) ens[i].key
          rw [ek, ev]; exact ⟨t, rfl⟩
        · show RelV (kV p.1) ens[i].key
          rw [ek, ev]; exact ⟨t, rfl⟩
    · refine vals_of_get (by have hz' : ens.toList.length = ens.size := Array.length_toList; rw [List.length_map, List.length_map, hz', hs, hl]) fun i v u e1 e2 => ?_
      rw [List.getElem?_map] at e1 e2
      cases e3 : kvs[i]? with
      | none => rw [e3] at e1; cases e1
      | some p =>
        rw [e3] at e1; cases e1
        obtain ⟨w, e4, rw'⟩ := at_ i p.1 p.2 e3
        have hi : i < ens.size := by rw [hs]; exact (List.getElem?_eq_some_iff.mp e4).1
        obtain ⟨h1, h2⟩ := he i hi p.1 w e4
        have e5 : ens.toList[i]? = some ens[i] := by simp [hi]
        rw [e5] at e2; cases e2
        show RelV p.2 ens[i].val
        rw [h2]; exact rw'
  · obtain ⟨⟨hz, lo, xs, pr, o, ens, ep, h1, h2, h3, h4, h5⟩, _⟩ := (show ObjOk X.prog X.w H s.heap a (.ext (DN (gd X) a es)) from I.hok a _ h)
    obtain ⟨q1, q2⟩ := dn_keys (G := gd X) pr
    exact ⟨lo, by rw [List.length_map]; exact hz, by rw [List.length_map, List.length_map], ens, ep, ⟨o, h1, h2, h3⟩, by rw [h4]; exact q1, by rw [h4]; exact q2⟩
/-- the items of what is walked -/
def items : D → Option (List D)
  | .list xs => some xs
  | .tuple xs => some xs
  | .dict kvs => some (kvs.map (·.1))
  | _ => none
theorem collect_rp {pins : List (Addr × Obj)} {σ : L2.St} {H : Hp} {s : Shared} {B : Addr → Prop} {v : V} {u : Value} {d : D} {ds : List D} {A : Around} {Ee : Value → Shared → Prop} {Q : List Value → Shared → Prop} (hA : A.handled = none) (I : Inv X pins σ H s) (r : Rp (gd X) B H v d) (ru : RelV v u) (hi : items d = some ds)
    (q : ∀ us vs h' tk, (∀ b o, s.heap.get? b = some o → h'.get? b = some o) → Vals vs us → RpAll (gd X) B H vs ds → vs.length ≤ sizeLine → Q us { s with heap := h', toks := tk }) : wpAny (model X.prog X.w) A (collect u) Q Ee s := by
  cases r with
  | @lst a xs es na sx rs =>
    cases hi
    cases (show u = Value.ref a from ru)
    obtain ⟨its, rv, pl, hz⟩ := I.list sx
    obtain ⟨o, ho, hc, n, hd⟩ := pl.isList
    refine wpAny_collect_seq a (.inl rfl) ho hc hd (fun h' k => ?_) (by rw [List.size_toArray, ← rv.length]; exact hz)
    exact q _ xs h' s.toks k (by simpa using rv) rs hz
  | @tup a xs es na sx rs =>
    cases hi
    cases (show u = Value.ref a from ru)
    obtain ⟨its, rv, ⟨o, ho, hc, n, hd⟩, hz⟩ := I.tuple sx
    refine wpAny_collect_seq a (.inr rfl) ho hc hd (fun h' k => ?_) (by rw [List.size_toArray, ← rv.length]; exact hz)
    exact q _ xs h' s.toks k (by simpa using rv) rs hz
  | @dct a kvs ks vs kds vds na e1 e2 h r1 r2 =>
    cases hi
    cases (show u = Value.ref a from ru)
    obtain ⟨lo, hz, _, ens, ep, hr, vk, _⟩ := h.raw I
    have hs : ens.size = ks.length := by have := vk.length; rw [List.length_map, Array.length_toList] at this; exact this.symm
    refine kdu_collect (KdlSrc.rawDict (es := ens) (ep := ep) lo) hA hr (by rw [hs]; exact hz) fun h' tk acc hk hacc => ?_
    refine q _ ks h' tk hk ?_ (e1 ▸ r1) hz
    have : acc.toList = ens.toList.map (·.key) := by
      apply List.ext_getElem?
      intro i
      rw [List.getElem?_map]
      cases e : acc.toList[i]? with
      | none =>
        have := List.getElem?_eq_none_iff.mp e
        rw [Array.length_toList, hacc.1] at this
        rw [List.getElem?_eq_none (by rw [Array.length_toList]; exact this)]
        rfl
      | some w =>
        obtain ⟨hi, e2⟩ := hacc.2 i w (by rw [← Array.getElem?_toList]; exact e)
        have : ens.toList[i]? = some ens[i] := by simp [hi]
        rw [this]
        show some w = some ens[i].key
        rw [e2]
    rw [this]; exact vk
  | _ => cases hi
/-! ### sorted -/
def allAlikeB (ds : List D) : Bool := ds.all fun x => ds.all fun y => PySem.W.alike x y
def sortableB (ds : List D) : Bool := (ds.all fun d => match d with | .tuple (_ :: _) => true | _ => false) || ds.all fun d => match d with | .none => false | .tuple _ => false | _ => true
def sortOk (ds : List D) : Bool := allAlikeB ds && sortableB ds && ds.all shp
def sortD (ds : List D) : List D := ds.mergeSort (PySem.W.dataLe false id)
def pSorted (d : D) : Option D := match items d with
  | some ds => if sortOk ds = true then some (.list (sortD ds)) else none
  | none => none
theorem sortable_of {ds : List D} (h : sortableB ds = true) : PySem.W.Sortable ds := by
  unfold sortableB at h
  rw [Bool.or_eq_true] at h
  rcases h with h | h
  · refine .inl fun d hd => ?_
    have := List.all_eq_true.mp h d hd
    cases d with
    | tuple xs => cases xs with
      | nil => cases this
      | cons x r => exact ⟨x, r, rfl⟩
    | _ => cases this
  · refine .inr fun d hd => ?_
    have := List.all_eq_true.mp h d hd
    exact ⟨fun z => (by subst z; cases this), fun xs z => (by subst z; cases this)⟩
theorem c_sorted (L : Lv X) : CallR X (.builtin "sorted") (rc (gd X) (f1 pSorted)) := by
  rintro pins s σ H vs us Q I rv ⟨B, ds, hB, rds, d, e, q⟩
  obtain ⟨v, x, rfl, rfl, rx, e⟩ := rc1 rds e
  obtain ⟨u, rfl, ru⟩ := vals1 rv
  unfold pSorted at e
  cases hi : items x with
  | none => rw [hi] at e; cases e
  | some ls =>
    rw [hi] at e
    simp only at e
    split at e
    rotate_left
    · cases e
    rename_i hok
    cases e
    unfold sortOk at hok
    simp only [Bool.and_eq_true] at hok
    obtain ⟨⟨h1, h2⟩, h3⟩ := hok
    refine Calls.call_function_entry PyProof.Rows.kind_sorted PyProof.Rows.plain_sorted PyProof.Rows.entry_sorted (PyProof.Rows.args_sorted1 _) ?_
    unfold Builtin.«sorted»
    refine wpAny_bind (m := checkCount "sorted" 1 1 _) (wpAny_pure ?_)
    refine wpAny_bind (collect_rp (A := X.A.in1) (I.ok.hd L.calm) I rx ru hi fun us vs h' tk hk rvs rps hz => ?_)
    have I1 : Inv X pins σ H { s with heap := h', toks := tk } := I.kept hk
    have hlu : us.length = ls.length := rvs.length.symm.trans rps.length
    refine wpAny_bind (wpAny_newList ?_ (by rw [← rvs.length]; exact hz))
    have hoL : (h'.push (seqObj "list" us.toArray 0)).get? h'.objs.size = some (seqObj "list" us.toArray 0) := Heap.get?_push_size _ rfl
    show wpAny _ _ _ _ _ { s with heap := h'.push (seqObj "list" us.toArray 0), toks := tk }
    generalize hhe : h'.push (seqObj "list" us.toArray 0) = hh
    have each : ∀ {us : List Value} {vs : List V} {ls : List D}, Vals vs us → RpAll (gd X) B H vs ls → ls.all shp = true →
        EachIs (fun v b => ∃ x, RelV x v ∧ Rp (gd X) B H x b) us ls ∧ EachIs (fun v b => ∃ as, Reads hh v (id b) as ∧ h'.objs.size ∉ as) us ls := fun {us vs ls} r1 => by
      induction r1 generalizing ls with
      | nil => intro r2 _; cases r2; exact ⟨.nil, .nil⟩
      | cons r _ ih =>
        intro r2 h
        cases r2 with
        | cons rp r2 =>
          rw [List.all_cons, Bool.and_eq_true] at h
          obtain ⟨i1, i2⟩ := ih r2 h.2
          obtain ⟨as, rd⟩ := Rp.reads I1 rp (SeqAt.canLay_of_shaped h.1) r
          exact ⟨.cons ⟨_, r, rp⟩ i1, .cons ⟨as, PyProof.Rows.Reads.keeps (fun b o e => by rw [← hhe]; exact Heap.get?_push_of_some _ e) rd, fun z => Nat.lt_irrefl _ (reads_lt rd _ z)⟩ i2⟩
    obtain ⟨ea, eb⟩ := each rvs rps h3
    subst hhe
    have hdp : ∀ b ∈ ls, b.depth ≤ 64 := fun b hb => by
      have := List.all_eq_true.mp h3 b hb
      exact SeqAt.depth_of_shaped this
    refine wpAny_bind (wpAny_holding (PySem.W.list_sort_data (s := { s with heap := h'.push (seqObj "list" us.toArray 0), toks := tk }) (enc := id) hoL ea eb (by rw [List.map_id]; exact fun x hx y hy => List.all_eq_true.mp (List.all_eq_true.mp h1 x hx) y hy) (by rw [List.map_id]; exact sortable_of h2) (by rw [← rps.length]; exact hz)
      (fun b hb => by have := L.un; have := hdp b hb; show X.A.units + 1 + 1 + b.depth < cLine; omega) fun out ho eo => wpAny_pure ⟨_, rfl, ?_⟩))
    have back : ∀ {out : List Value} {ls : List D}, EachIs (fun v b => ∃ x, RelV x v ∧ Rp (gd X) B H x b) out ls → ∃ ws, Vals ws out ∧ RpAll (gd X) B H ws ls := fun {out ls} r => by
      induction r with
      | nil => exact ⟨[], .nil, .nil⟩
      | cons r _ ih =>
        obtain ⟨x, r1, r2⟩ := r
        obtain ⟨ws, r3, r4⟩ := ih
        exact ⟨x :: ws, .cons r1 r3, .cons r2 r4⟩
    obtain ⟨ws, w1, w2⟩ := back eo
    obtain ⟨ep, he'⟩ := PyProof.Rows.sortedHeap_at (vs := us) (out := out.toArray) hoL
    have hlen : ws.length ≤ sizeLine := by rw [w1.length, ho, ← rps.length]; exact hz
    have hp : H h'.objs.size = none := I1.hok.fresh (Nat.le_refl _)
    refine ⟨.ref h'.objs.size, upd H h'.objs.size (.lst ws), I1.laid (t' := tk) (fun b u e => ?_) (Nat.le_refl _) (show ObjOk X.prog X.w _ _ _ (.lst ws) from ⟨hlen, out, ep, w1, he'⟩), rfl, ?_⟩
    · have hb : b < h'.objs.size := Heap.lt_size e
      rw [PyProof.Rows.sortedHeap_old (Nat.ne_of_lt hb) (by rw [size_push']; exact Nat.lt_succ_of_lt hb)]
      exact Heap.get?_push_of_some _ e
    · exact q _ _ (same_upd hp) (.lst (.inl (nav_of hB hp)) (.of upd_same) (w2.same (same_upd hp)))
end
end Pu

set_option maxHeartbeats 4000000
/-! P15: own dicts by tuples. -/
namespace Pu
open PySem PySem.Spec L2 PyProof.Rows PySem.W
section
variable {X : Cx} {W : WX} {ρ : Ev} {pos p1 : Pos} {e : Expr} {es : List Expr} {m : R D} {ms : R (List D)}
mutual
/-- data that is a key -/
theorem Rp.nested {pins : List (Addr × Obj)} {σ : L2.St} {H : Hp} {s : Shared} {B : Addr → Prop} (I : Inv X pins σ H s) : ∀ {v : V} {d : D} {k : NestedKey} {u : Value}, Rp (gd X) B H v d → keyOf d = some k → RelV v u → NestedIs s.heap k u
  | _, _, k, u, .non, e, r => by cases e; cases (show u = Value.none from r); exact .none
  | _, _, k, u, .bl b, e, r => by cases e; cases (show u = Value.bool b from r); exact .bool rfl
  | _, _, k, u, .int i, e, r => by cases e; obtain ⟨t, rfl⟩ := r; exact .int i t
  | _, _, k, u, .str x, e, r => by cases e; obtain ⟨t, rfl⟩ := r; exact .text x t
  | _, _, k, u, .lst _ _ _, e, r => by cases e
  | _, _, k, u, .tup (a := a) (ds := ds) _ sx rs, e, r => by
    cases (show u = Value.ref a from r)
    obtain ⟨its, rv, ⟨o, ho, hc, n, hd⟩, hz⟩ := I.tuple sx
    have e : (keysOf ds).map .tup = some k := e
    cases hk : keysOf ds with
    | none => rw [hk] at e; cases e
    | some ks =>
      rw [hk] at e; cases e
      exact .tup ho hc hd (by simpa using RpAll.nested I rs hk rv)
  | _, _, k, u, .dct _ _ _ _ _ _, e, r => by cases e
theorem RpAll.nested {pins : List (Addr × Obj)} {σ : L2.St} {H : Hp} {s : Shared} {B : Addr → Prop} (I : Inv X pins σ H s) : ∀ {vs : List V} {ds : List D} {ks : List NestedKey} {us : List Value}, RpAll (gd X) B H vs ds → keysOf ds = some ks → Vals vs us → NestedAll s.heap ks us
  | _, _, ks, us, .nil, e, r => by cases e; cases r; exact .nil
  | _, _, ks, us, .cons (d := d) (ds := ds) r1 r2, e, r => by
    cases r with
    | cons rv rvs =>
      have e : (match keyOf d, keysOf ds with | some k, some ks => some (k :: ks) | _, _ => none) = some ks := e
      cases h1 : keyOf d with
      | none => rw [h1] at e; cases e
      | some k =>
        cases h2 : keysOf ds with
        | none => rw [h1, h2] at e; cases e
        | some ks' =>
          rw [h1, h2] at e; cases e
          exact .cons (Rp.nested I r1 h1 rv) (RpAll.nested I r2 h2 rvs)
end
abbrev Ent := NestedKey × Addr × V
/-- the entries of a dict by tuples, with their data -/
def DE (G : Gd) (B : Addr → Prop) (H : Hp) : List (D × D) → List Ent → Prop := Paired fun (p : D × D) (e : Ent) => keyOf p.1 = some e.1 ∧ Rp G B H (.ref e.2.1) p.1 ∧ Rp G B H e.2.2 p.2
def DNat (G : Gd) (H : Hp) (a : Addr) (es : List Ent) : Prop := H a = some (.ext (DN G a es)) ∨ (es = [] ∧ H a = some (.dK []))
def isTupD : D → Bool
  | .tuple _ => true
  | _ => false
theorem dct_de {G : Gd} {B : Addr → Prop} {H : Hp} {a : Addr} {kvs : List (D × D)} (r : RpC G B H a (.dict kvs)) (ht : kvs.all (fun p => isTupD p.1) = true) : ∃ es, DNat G H a es ∧ DE G B H kvs es ∧ ∀ e ∈ es, e.1.depth ≤ 8 := by
  cases r with
  | @dct _ ks vs kds vds e1 e2 h r1 r2 =>
    subst e1; subst e2
    rcases h with ⟨kv, h, rfl, rfl⟩ | ⟨es, h, rfl, rfl, hk, hd⟩
    · cases kvs with
      | nil =>
        cases kv with
        | nil => exact ⟨[], .inr ⟨rfl, h⟩, .nil, fun _ z => nomatch z⟩
        | cons p kv => cases r1
      | cons p kvs =>
        cases kv with
        | nil => cases r1
        | cons q kv =>
          rw [List.all_cons, Bool.and_eq_true] at ht
          cases r1 with
          | cons rp _ =>
            obtain ⟨pk, pv⟩ := p
            cases pk with
            | tuple xs =>
              have rp : Rp G B H (kV q.1) (.tuple xs) := rp
              cases hq : q.1 with
              | inl i => rw [hq] at rp; cases rp
              | inr x => rw [hq] at rp; cases rp
            | _ => cases ht.1
    · refine ⟨es, .inl h, ?_, hd⟩
      clear h hd
      induction es generalizing kvs with
      | nil =>
        cases kvs with
        | nil => exact .nil
        | cons _ _ => cases r1
      | cons e es ih =>
        cases kvs with
        | nil => cases r1
        | cons p kvs =>
          cases r1 with
          | cons a1 a2 =>
            cases r2 with
            | cons b1 b2 =>
              rw [List.all_cons, Bool.and_eq_true] at ht
              have hk' : keyOf p.1 :: (kvs.map (·.1)).map keyOf = some e.1 :: es.map (fun e => some e.1) := hk
              exact .cons ⟨(List.cons.inj hk').1, a1, b1⟩ (ih ht.2 a2 b2 (List.cons.inj hk').2)
theorem de_dct {G : Gd} {B : Addr → Prop} {H : Hp} {a : Addr} {kvs : List (D × D)} {es : List Ent} (h : H a = some (.ext (DN G a es))) (r : DE G B H kvs es) (hd : ∀ e ∈ es, e.1.depth ≤ 8) : RpC G B H a (.dict kvs) := by
  have all : RpAll G B H (es.map fun e => V.ref e.2.1) (kvs.map (·.1)) ∧ RpAll G B H (es.map (·.2.2)) (kvs.map (·.2)) ∧ (kvs.map (·.1)).map keyOf = es.map (fun e => some e.1) := by
    clear h hd
    induction r with
    | nil => exact ⟨.nil, .nil, rfl⟩
    | cons r _ ih => exact ⟨.cons r.2.1 ih.1, .cons r.2.2 ih.2.1, by rw [List.map_cons, List.map_cons, List.map_cons, ih.2.2, r.1]⟩
  exact .dct rfl rfl (.inr ⟨es, h, rfl, rfl, all.2.2, hd⟩) all.1 all.2.1
theorem DE.keep {G : Gd} {B : Addr → Prop} {H H' : Hp} {kvs : List (D × D)} {es : List Ent} (r : DE G B H kvs es) (k : Kept B H H') : DE G B H' kvs es := by
  induction r with
  | nil => exact .nil
  | cons r _ ih => exact .cons ⟨r.1, r.2.1.keep k, r.2.2.keep k⟩ ih
/-- the entry k is v now -/
def stN (es : List Ent) (k : NestedKey) (ka : Addr) (v : V) : List Ent := if (es.any fun e => decide (e.1 = k)) = true then es.map (fun e => if e.1 = k then (e.1, e.2.1, v) else e) else es ++ [(k, ka, v)]
def stD (kvs : List (D × D)) (k v : D) : List (D × D) := if (kvs.any fun p => decide (keyOf p.1 = keyOf k)) = true then kvs.map (fun p => if keyOf p.1 = keyOf k then (p.1, v) else p) else kvs ++ [(k, v)]
theorem DE.st {G : Gd} {B : Addr → Prop} {H : Hp} {kvs : List (D × D)} {es : List Ent} {kd vd : D} {k : NestedKey} {ka : Addr} {v : V} (r : DE G B H kvs es) (hk : keyOf kd = some k) (rk : Rp G B H (.ref ka) kd) (rv : Rp G B H v vd) : DE G B H (stD kvs kd vd) (stN es k ka v) := by
  have ha : (kvs.any fun p => decide (keyOf p.1 = keyOf kd)) = es.any fun e => decide (e.1 = k) := by
    induction r with
    | nil => rfl
    | cons r _ ih => rw [List.any_cons, List.any_cons, ih, r.1, hk]; simp
  unfold stD stN
  rw [ha]
  split
  · rename_i hc; clear hc ha
    induction r with
    | nil => exact .nil
    | @cons p e _ _ r _ ih =>
      rw [List.map_cons, List.map_cons]
      refine .cons ?_ ih
      by_cases h : e.1 = k
      · rw [if_pos h, if_pos (by rw [r.1, hk, h])]
        exact ⟨r.1, r.2.1, rv⟩
      · rw [if_neg h, if_neg (by rw [r.1, hk]; intro z; exact h (Option.some.inj z))]
        exact r
  · rename_i hc; clear hc ha
    induction r with
    | nil => exact .cons ⟨hk, rk, rv⟩ .nil
    | cons r _ ih => exact .cons r ih
theorem stN_depth {es : List Ent} {k : NestedKey} {ka : Addr} {v : V} (h : ∀ e ∈ es, e.1.depth ≤ 8) (hk : k.depth ≤ 8) : ∀ e ∈ stN es k ka v, e.1.depth ≤ 8 := by
  unfold stN
  split
  · intro e he
    obtain ⟨e', h1, rfl⟩ := List.mem_map.mp he
    split
    · exact h e' h1
    · exact h e' h1
  · intro e he
    rcases List.mem_append.mp he with he | he
    · exact h e he
    · cases List.mem_singleton.mp he; exact hk
theorem stN_length {es : List Ent} {k : NestedKey} {ka : Addr} {v : V} : (stN es k ka v).length ≤ es.length + 1 := by
  unfold stN
  split
  · rw [List.length_map]; exact Nat.le_succ _
  · rw [List.length_append]; exact Nat.le_refl _
/-- the dict behind, in the heap -/
theorem dn_ofH {pins : List (Addr × Obj)} {σ : L2.St} {H : Hp} {s : Shared} {B : Addr → Prop} {a : Addr} {kvs : List (D × D)} {es : List Ent} (I : Inv X pins σ H s) (h : DNat (gd X) H a es) (r : DE (gd X) B H kvs es) (hd : ∀ e ∈ es, e.1.depth ≤ 8) :
    (a == sysModules) = false ∧ es.length ≤ sizeLine ∧ ∃ xs : List (NestedKey × Addr × Value), Paired (fun (p : Ent) (q : NestedKey × Addr × Value) => p.1 = q.1 ∧ p.2.1 = q.2.1 ∧ RelV p.2.2 q.2.2) es xs ∧ s.heap.DictOfH (nestedKind X.prog X.w) a xs := by
  rcases h with h | ⟨rfl, h⟩
  · obtain ⟨⟨hz, lo, xs, pr, o, ens, ep, h1, h2, h3, h4, h5⟩, _⟩ := (show ObjOk X.prog X.w H s.heap a (.ext (DN (gd X) a es)) from I.hok a _ h)
    refine ⟨lo, hz, xs, pr, o, ens, ep, h1, h2, h3, h4, ?_, h5⟩
    clear h4 h5 hz h
    have go : ∀ {kvs : List (D × D)} {es : List Ent} {xs : List (NestedKey × Addr × Value)}, DE (gd X) B H kvs es → Paired (fun (p : Ent) (q : NestedKey × Addr × Value) => p.1 = q.1 ∧ p.2.1 = q.2.1 ∧ RelV p.2.2 q.2.2) es xs → (∀ e ∈ es, e.1.depth ≤ 8) → ∀ x ∈ xs, (nestedKind X.prog X.w).is s.heap x.1 x.2.1 := fun {kvs es xs} r => by
      induction r generalizing xs with
      | nil => intro p _ x hx; cases p; cases hx
      | @cons p e _ _ r _ ih =>
        intro q hd x hx
        cases q with
        | cons q1 q2 =>
          rcases List.mem_cons.mp hx with rfl | hx
          · refine ⟨?_, by rw [← q1.1]; exact hd e (by simp)⟩
            have := Rp.nested I r.2.1 r.1 (show RelV (.ref e.2.1) (Value.ref e.2.1) from rfl)
            rw [q1.1, q1.2.1] at this
            exact this
          · exact ih q2 (fun e he => hd e (by simp [he])) x hx
    exact go r pr hd
  · obtain ⟨hz, lo, vs, rel, dd⟩ := dk_of I.hok h
    cases rel
    obtain ⟨ep, hat⟩ := dd.dictAt
    obtain ⟨ens, ⟨o, h1, h2, h3⟩, hs, _⟩ := hat.raw
    have : ens = #[] := by
      have hs : ens.size = 0 := hs
      exact Array.eq_empty_of_size_eq_zero hs
    subst this
    exact ⟨lo, Nat.zero_le _, [], .nil, o, #[], ep, h1, h2, h3, rfl, (fun x hx => by cases hx), .nil⟩
theorem st_pair {es : List Ent} {xs : List (NestedKey × Addr × Value)} {k : NestedKey} {ka : Addr} {v : V} {u : Value} (pr : Paired (fun (p : Ent) (q : NestedKey × Addr × Value) => p.1 = q.1 ∧ p.2.1 = q.2.1 ∧ RelV p.2.2 q.2.2) es xs) (ru : RelV v u) :
    Paired (fun (p : Ent) (q : NestedKey × Addr × Value) => p.1 = q.1 ∧ p.2.1 = q.2.1 ∧ RelV p.2.2 q.2.2) (stN es k ka v) (storedH xs k ka u) := by
  have ha : (es.any fun e => decide (e.1 = k)) = (atKey xs k).isSome := by
    induction pr with
    | nil => rfl
    | @cons p q _ _ r _ ih =>
      rw [List.any_cons, ih]
      by_cases h : q.1 = k
      · simp [atKey, List.find?_cons, h, r.1]
      · simp [atKey, List.find?_cons, h, r.1]
  unfold stN storedH
  rw [ha]
  split
  · rename_i hc; clear hc ha
    induction pr with
    | nil => exact .nil
    | @cons p q _ _ r _ ih =>
      rw [List.map_cons, List.map_cons]
      refine .cons ?_ ih
      unfold putAt
      by_cases h : q.1 = k
      · rw [if_pos h, if_pos (by rw [r.1]; exact h)]
        exact ⟨r.1, r.2.1, ru⟩
      · rw [if_neg h, if_neg (by rw [r.1]; exact h)]
        exact r
  · rename_i hc; clear hc ha
    induction pr with
    | nil => exact .cons ⟨rfl, rfl, ru⟩ .nil
    | cons r _ ih => exact .cons r ih
/-- the dict's new state is told -/
theorem dn_new {pins : List (Addr × Obj)} {σ : L2.St} {H : Hp} {s : Shared} {a : Addr} {es es' : List Ent} {xs : List (NestedKey × Addr × Value)} {h' : Heap} {tk : Nat} (I : Inv X pins σ H s) (hn : DNat (gd X) H a es) (lo : (a == sysModules) = false) (hz : es'.length ≤ sizeLine)
    (pr : Paired (fun (p : Ent) (q : NestedKey × Addr × Value) => p.1 = q.1 ∧ p.2.1 = q.2.1 ∧ RelV p.2.2 q.2.2) es' xs) (hm : h'.DictOfH (nestedKind X.prog X.w) a xs) (hs : Heap.SameBut a s.heap h') : Inv X pins σ (upd H a (.ext (DN (gd X) a es'))) { s with heap := h', toks := tk } := by
  obtain ⟨o, ens, ep, h1, h2, h3, h4, _, h5⟩ := hm
  refine I.write (t' := tk) (x := a) (e := a) (by rcases hn with z | ⟨_, z⟩ <;> (rw [z]; trivial)) (.inl rfl) (fun b u hb hu => (hs.2 b hb).trans hu) ⟨_, h1⟩ ?_
  refine ⟨⟨hz, lo, xs, pr, o, ens, ep, h1, h2, h3, h4, h5⟩, ⟨o, h1⟩, fun g1 g2 hφ hk => ?_⟩
  obtain ⟨z1, z2, ys, q1, o', ens', ep', q2, q3⟩ := hφ
  exact ⟨z1, z2, ys, q1, o', ens', ep', hk _ q2, q3⟩
end
end Pu

set_option maxHeartbeats 2000000
/-! P16: own dicts by tuples, changed. -/
namespace Pu
open PySem PySem.Spec L2 PyProof.Rows
section
variable {X : Cx} {W : WX} {k : Nat} {α δ γ β : Type} {rs : Rsp β} {encL : γ → Ev} {ex ρ : Ev} {enc : α → Ev} {rest : List Stmt} {pos : Pos} {e e2 : Expr} {m m2 : R D}
/-- kvs with the entry k made v -/
def putD (kvs : List (D × D)) (k v : D) : Option (List (D × D)) :=
  if kvs.all (fun p => isTupD p.1) = true ∧ isTupD k = true ∧ kvs.length < LINE then
    (keyOf k).bind fun nk => if nk.depth ≤ 8 then some (stD kvs k v) else none
  else none
theorem putD_some {kvs kvs' : List (D × D)} {k v : D} (h : putD kvs k v = some kvs') : kvs.all (fun p => isTupD p.1) = true ∧ isTupD k = true ∧ kvs.length < LINE ∧ (∃ nk, keyOf k = some nk ∧ nk.depth ≤ 8) ∧ kvs' = stD kvs k v := by
  unfold putD at h
  split at h
  · rename_i hc
    cases hk : keyOf k with
    | none => rw [hk] at h; cases h
    | some nk =>
      rw [hk] at h
      replace h : (if nk.depth ≤ 8 then some (stD kvs k v) else none) = some kvs' := h
      split at h
      · rename_i hd
        exact ⟨hc.1, hc.2.1, hc.2.2, ⟨nk, rfl, hd⟩, (Option.some.inj h).symm⟩
      · cases h
  · cases h
/-- o[i] = v of an own dict by tuples -/
def rSetDn (X : Cx) : TSet := fun o i v H Q => ∃ (a ka : Addr) (B : Addr → Prop) (kvs : List (D × D)) (es : List Ent) (kd : D) (k : NestedKey), o = .ref a ∧ i = .ref ka ∧ DNat (gd X) H a es ∧ DE (gd X) B H kvs es ∧ (∀ e ∈ es, e.1.depth ≤ 8) ∧
  Rp (gd X) B H (.ref ka) kd ∧ keyOf kd = some k ∧ k.depth ≤ 8 ∧ es.length < sizeLine ∧ Q (upd H a (.ext (DN (gd X) a (stN es k ka v))))
theorem set_dn (L : Lv X) : PSet X (rSetDn X) := by
  intro pins s σ H o i v ov iv u Q I ro ri rv h
  obtain ⟨a, ka, B, kvs, es, kd, k, rfl, rfl, hn, de, hd, rk, hk, hkd, hz, q⟩ := h
  cases (show ov = Value.ref a from ro)
  cases (show iv = Value.ref ka from ri)
  obtain ⟨lo, hz', xs, pr, hm⟩ := dn_ofH I hn de hd
  refine wpAny_setItem_heap (knd := nestedKind X.prog X.w) (by have := L.un; show X.A.units + 1 + 8 < cLine; omega) ⟨Rp.nested I rk hk rfl, hkd⟩ hm (fun h' hm' hs => ?_) (by rw [← pr.length]; exact hz')
  exact ⟨_, dn_new I hn lo (Nat.le_trans stN_length hz) (st_pair pr rv) hm' hs, q⟩
/-- x[e] = e2, x an own dict by tuples -/
theorem b_sixD (i : Nat) {x : Str} {px p2 : Pos} {a : Addr} {kvs : List (D × D)} {f : List (D × D) → R (Fl α γ β)} (L : Lv X) (h : PuE X W e2 ρ m2) (h' : PuE X W e ρ m) (hx : Wk ρ ex) (h2 : ∀ ds', PuB X W rs encL ex rest (ρ.set i (.ce a (.dict ds'))) enc (f ds')) (hi : ρ[i]? = some (.ce a (.dict kvs)) := by rfl)
    (hN : X.N[i]? = some x := by rfl) (hvis : Vis X.env.scope x := by first | exact Or.inl rfl | exact Or.inr (Or.inl rfl) | exact Or.inr (Or.inr rfl)) (hd : (x == ("__debug__" : Str)) = false := by decide) (hcd : (x == ("__classdict__" : Str)) = false := by decide)
    (ha : ∀ v, assign (.Subscript (.Name x px) e p2) X.env v = (do
      let ov ← holding [v] (eval (.Name x px) X.env)
      let iv ← holding [v, ov] (eval e X.env)
      standAt p2
      holding [v, ov, iv] (setItem ov iv v)
      release [v, ov, iv] []) := by intro _; rfl)
    (hs : swapsWithSole [.Subscript (.Name x px) e p2] e2 pos.line X.env = pure false := by rfl) (hw : swappedStores [.Subscript (.Name x px) e p2] e2 X.env = pure none := by rfl) (h1 : (assignEach [.Subscript (.Name x px) e p2] X.env).map (·.2) = [assign (.Subscript (.Name x px) e p2) X.env] := by rfl) :
    PuB X W rs encL ex (.Assign [.Subscript (.Name x px) e p2] e2 pos :: rest) ρ enc (m2 >>= fun v => m >>= fun j => R.of (putD kvs j v) >>= f) := by
  intro A B c0 H σ Dd r p
  refine (pss_cons (ps_asg pe_wp (pg_sub (pe_var hN hvis hd hcd) pe_wp (set_dn L) ha) hs hw h1) pb_wp).to ?_
  refine h.stepB hx r p fun c1 d v H1 k1 rv r1 p1 => ?_
  refine ⟨_, (r1.ce i a _ hi).1, ?_⟩
  refine h'.stepB hx r1 p1 fun c2 j y H2 k2 ry r2 p2 => ?_
  obtain ⟨ds', hd', p2⟩ := p2.ofo
  obtain ⟨ht, hj, hl, ⟨nk, hnk, hdk⟩, rfl⟩ := putD_some hd'
  obtain ⟨t1, t2, t3, t4⟩ := r2.ce i a _ hi
  obtain ⟨es, hn, de, hde⟩ := dct_de t2 ht
  cases ry with
  | @tup ka xs ds s1 s2 s3 =>
    have rk : Rp (gd X) B H2 (.ref ka) (.tuple ds) := .tup s1 s2 s3
    have rv2 : Rp (gd X) B H2 v d := rv.kx k2
    have kk : ∀ b o, b ≠ a → H2 b = some o → upd H2 a (.ext (DN (gd X) a (stN es nk ka v))) b = some o := fun b o n e => by rw [upd_ne n]; exact e
    obtain ⟨f1, r3⟩ := own_chg r2 hi kk (de_dct upd_same ((de.st hnk rk rv2).keep fun b o n e => kk b o (fun z => n (z ▸ t4)) e) (stN_depth hde hdk))
    exact ⟨a, ka, B, kvs, es, _, nk, rfl, rfl, hn, de, hde, rk, hnk, hdk, by rw [← de.length]; exact Nat.lt_of_lt_of_eq hl line_eq, h2 _ A B c2 _ σ Dd r3 (PoB.from f1 p2)⟩
  | _ => cases hj
/-- {} -/
theorem po_dict0 : PuO X W (.Dict [] [] pos) ρ (R.ok (.dict [])) := by
  intro A B c0 H σ Q r p
  refine pe_dnewK.to fun q hq => ?_
  exact PoG.now p r (same_upd hq) ⟨q, rfl, hq, .dct rfl rfl (.inl ⟨[], upd_same, rfl, rfl⟩) .nil .nil⟩
end
end Pu

set_option maxHeartbeats 2000000
/-! P17: x.setdefault(k, []).append(v), all through a loop. -/
namespace Pu
open PySem PySem.Spec L2 PyProof.Rows
section
variable {X : Cx}
/-- the keys of a dict by tuples, with their data -/
def DK (G : Gd) (B : Addr → Prop) (H : Hp) : List D → List Ent → Prop := Paired fun (d : D) (e : Ent) => keyOf d = some e.1 ∧ Rp G B H (.ref e.2.1) d
theorem dn_ofK {pins : List (Addr × Obj)} {σ : L2.St} {H : Hp} {s : Shared} {B : Addr → Prop} {a : Addr} {kds : List D} {es : List Ent} (I : Inv X pins σ H s) (h : DNat (gd X) H a es) (r : DK (gd X) B H kds es) (hd : ∀ e ∈ es, e.1.depth ≤ 8) :
    (a == sysModules) = false ∧ es.length ≤ sizeLine ∧ ∃ xs : List (NestedKey × Addr × Value), Paired (fun (p : Ent) (q : NestedKey × Addr × Value) => p.1 = q.1 ∧ p.2.1 = q.2.1 ∧ RelV p.2.2 q.2.2) es xs ∧ s.heap.DictOfH (nestedKind X.prog X.w) a xs := by
  rcases h with h | ⟨rfl, h⟩
  · obtain ⟨⟨hz, lo, xs, pr, o, ens, ep, h1, h2, h3, h4, h5⟩, hz0⟩ := (show ObjOk X.prog X.w H s.heap a (.ext (DN (gd X) a es)) from I.hok a _ h)
    refine ⟨lo, hz, xs, pr, o, ens, ep, h1, h2, h3, h4, fun x hx => ?_, h5⟩
    clear h4 h5 hz h hz0
    induction r generalizing xs with
    | nil => cases pr; cases hx
    | @cons d e _ _ r _ ih =>
      cases pr with
      | @cons _ q _ _ q1 q2 =>
        rcases List.mem_cons.mp hx with rfl | hx
        · refine ⟨?_, by rw [← q1.1]; exact hd e (by simp)⟩
          have := Rp.nested I r.2 r.1 (show RelV (.ref e.2.1) (Value.ref e.2.1) from rfl)
          rw [q1.1, q1.2.1] at this
          exact this
        · exact ih (fun e he => hd e (by simp [he])) _ q2 hx
  · exact dn_ofH (B := B) (kvs := []) I (.inr ⟨rfl, h⟩) .nil hd
abbrev fdE (es : List Ent) (k : NestedKey) : Option Ent := es.find? fun e => decide (e.1 = k)
theorem at_pair {es : List Ent} {xs : List (NestedKey × Addr × Value)} {k : NestedKey} (pr : Paired (fun (p : Ent) (q : NestedKey × Addr × Value) => p.1 = q.1 ∧ p.2.1 = q.2.1 ∧ RelV p.2.2 q.2.2) es xs) :
    (∀ p, atKey xs k = some p → ∃ e, fdE es k = some e ∧ e.2.1 = p.1 ∧ RelV e.2.2 p.2) ∧ (atKey xs k = none → fdE es k = none) := by
  induction pr with
  | nil => exact ⟨fun p h => (by cases (show (none : Option (Addr × Value)) = some p from h)), fun _ => rfl⟩
  | @cons e q es0 xs0 r _ ih =>
    by_cases h : q.1 = k
    · have h' : e.1 = k := r.1.trans h
      refine ⟨fun p hp => ⟨e, by simp [fdE, List.find?_cons, h'], ?_⟩, fun hn => ?_⟩
      · simp only [atKey, List.find?_cons, h, decide_true, Option.map_some, Option.some.injEq] at hp
        subst hp
        exact ⟨r.2.1, r.2.2⟩
      · simp [atKey, List.find?_cons, h] at hn
    · have h' : ¬ e.1 = k := fun z => h (r.1.symm.trans z)
      have e1 : fdE (e :: es0) k = fdE es0 k := by simp [fdE, List.find?_cons, h']
      have e2 : atKey (q :: xs0) k = atKey xs0 k := by simp [atKey, List.find?_cons, h]
      rw [e1, e2]
      exact ih
/-- d.setdefault(k, v), d an own dict by tuples -/
def rSd (X : Cx) : V → List V → Hp → VK → Prop := fun x vs H Q => ∃ (a ka : Addr) (v : V) (B : Addr → Prop) (kds : List D) (es : List Ent) (kd : D) (k : NestedKey), x = .ref a ∧ vs = [.ref ka, v] ∧ DNat (gd X) H a es ∧ DK (gd X) B H kds es ∧ (∀ e ∈ es, e.1.depth ≤ 8) ∧
  Rp (gd X) B H (.ref ka) kd ∧ keyOf kd = some k ∧ k.depth ≤ 8 ∧ es.length < sizeLine ∧ (∀ e, fdE es k = some e → Q e.2.2 H) ∧ (fdE es k = none → Q v (upd H a (.ext (DN (gd X) a (stN es k ka v)))))
theorem mt_sd (L : Lv X) : MtR X "dict.setdefault" (rSd X) := by
  intro pins s σ H x vs v us Q I rx rv h
  obtain ⟨a, ka, w, B, kds, es, kd, k, rfl, rfl, hn, dk, hd, rk, hk, hkd, hz, q1, q2⟩ := h
  cases (show v = Value.ref a from rx)
  cases rv with
  | cons r0 rv =>
    cases rv with
    | cons r1 rv =>
      cases rv
      cases (show _ = Value.ref ka from r0)
      obtain ⟨lo, hz', xs, pr, hm⟩ := dn_ofK I hn dk hd
      refine call_setdefault_heap (knd := nestedKind X.prog X.w) (by have := L.un; show X.A.units + 1 + 8 < cLine; omega) ⟨Rp.nested I rk hk rfl, hkd⟩ lo hm (fun p hp => ?_) (fun hno h' hm' hs => ?_) (by rw [← pr.length]; exact hz')
      · obtain ⟨e, he, _, re⟩ := (at_pair pr).1 p hp
        exact ⟨_, H, I.tok _, re, q1 e he⟩
      · exact ⟨w, _, dn_new I hn lo (Nat.le_trans stN_length hz) (st_pair pr r1) hm' hs, r1, q2 ((at_pair pr).2 hno)⟩
def tSd (X : Cx) (to : TE) (t : TA) : TE := fun σ H Q => to σ H fun x H1 => (∃ (a : Addr) (es : List Ent) (B : Addr → Prop) (kds : List D), x = .ref a ∧ DNat (gd X) H1 a es ∧ DK (gd X) B H1 kds es ∧ ∀ e ∈ es, e.1.depth ≤ 8) ∧ t σ H1 fun xs H2 => rSd X x xs H2 Q
theorem pe_sd {o e : Expr} {es : List Expr} {to : TE} {t : TA} {apos cpos : Pos} (L : Lv X) (ho : PE X o to) (ha : PA X (e :: es) t)
    (hbase : attributeBase o "setdefault" X.env (eval o X.env) = eval o X.env := by rfl)
    (hfew : ((backTo cpos (starEach (e :: es) X.env)).all (fun x => !x.1) && (backToKw cpos (keywordEach [] X.env)).all (fun x => x.1.isSome)
      && decide ((e :: es).length + ([] : List Keyword).length + (if ([] : List Keyword).isEmpty then 0 else 1) < 30)) = true := by rfl)
    (hline : (apos.endLine == cpos.line) = true := by rfl) (hs : starEach (e :: es) X.env = (false, eval e X.env) :: starEach es X.env := by first | exact se_of (fun _ _ h => nomatch h) | rfl) (hplain : (backTo cpos (starEach es X.env)).any (·.1) = false := by first | exact pl_of (by rfl) | rfl) :
    PE X (.Call (.Attribute o "setdefault" apos) (e :: es) [] cpos) (tSd X to t) := by
  refine ⟨fun pins s σ H Q I h => ?_⟩
  refine wpAny_Call_method_late hbase hfew hline rfl (thn (ho.run pins s σ H _ I h) fun v s1 ⟨x, H1, I1, r1, ⟨a, es', B, kds, ex, hn, dk, hd⟩, q1⟩ => ?_)
  subst ex
  cases (show v = Value.ref a from r1)
  obtain ⟨_, _, xs, _, hm⟩ := dn_ofK I1 hn dk hd
  refine ⟨"dict", "dict.setdefault", PySem.F.plainAttrs_dict, PySem.F.slot_dict_setdefault, PySem.F.type_dict_setdefault, hm.typeIs, fun b eb => ?_, ?_⟩
  · cases eb
    obtain ⟨o, _, _, h1, h2, _⟩ := hm
    exact ⟨o, h1, h2.2.1⟩
  have hA := ha.run cpos pins s1 σ H1 _ I1 q1
  rw [hs] at hA ⊢
  refine Calls.callWith_builtin (by show (false || (backTo cpos (starEach es X.env)).any (·.1)) = false; rw [hplain] <;> rfl) (Calls.evalArgs_plain ?_)
  exact thn hA fun us s2 ⟨vs, H2, I2, r2, q2⟩ => mt_sd L pins s2 σ H2 (.ref a) vs _ us Q I2 (show RelV (.ref a) (Value.ref a) from rfl) r2 q2
end

/-! ### the dict of lists that is made -/
structure Grp (G : Gd) (B S : Addr → Prop) (H : Hp) (a : Addr) (kvs : List (D × D)) (es : List Ent) : Prop where
  at' : DNat G H a es
  pr : Paired (fun (p : D × D) (e : Ent) => keyOf p.1 = some e.1 ∧ Rp G B H (.ref e.2.1) p.1 ∧ ∃ b xs ds, e.2.2 = .ref b ∧ p.2 = .list ds ∧ H b = some (.lst xs) ∧ RpAll G B H xs ds ∧ S b) kvs es
  nd : (es.map (·.2.2)).Nodup
  kn : (es.map (·.1)).Nodup
  dp : ∀ e ∈ es, e.1.depth ≤ 8
theorem paired_map {α β γ : Type} {P : α → β → Prop} {P' : γ → β → Prop} {g : α → γ} {xs : List α} {ys : List β} (r : Paired P xs ys) : (∀ x y, y ∈ ys → P x y → P' (g x) y) → Paired P' (xs.map g) ys := by
  induction r with
  | nil => intro _; exact .nil
  | @cons x y _ _ r _ ih => intro h; exact .cons (h x y (by simp) r) (ih fun x y hy => h x y (by simp [hy]))
theorem paired_imp {α β : Type} {P P' : α → β → Prop} {xs : List α} {ys : List β} (r : Paired P xs ys) (h : ∀ x y, P x y → P' x y) : Paired P' xs ys := by
  induction r with
  | nil => exact .nil
  | cons r _ ih => exact .cons (h _ _ r) ih
theorem paired_app {α β : Type} {P : α → β → Prop} {xs us : List α} {ys vs : List β} (r : Paired P xs ys) (q : Paired P us vs) : Paired P (xs ++ us) (ys ++ vs) := by
  induction r with
  | nil => exact q
  | cons r _ ih => exact .cons r ih
theorem nodup_inj {α β : Type} {f : α → β} : ∀ {l : List α}, (l.map f).Nodup → ∀ {x y : α}, x ∈ l → y ∈ l → f x = f y → x = y
  | z :: l, h, x, y, hx, hy, e => by
    rw [List.map_cons, List.nodup_cons] at h
    rcases List.mem_cons.mp hx with hx1 | hx2
    · rcases List.mem_cons.mp hy with hy1 | hy2
      · rw [hx1, hy1]
      · exact absurd (List.mem_map.mpr ⟨y, hy2, by rw [← e, hx1]⟩) h.1
    · rcases List.mem_cons.mp hy with hy1 | hy2
      · exact absurd (List.mem_map.mpr ⟨x, hx2, by rw [e, hy1]⟩) h.1
      · exact nodup_inj h.2 hx2 hy2 e
section
variable {G : Gd} {B B' S S' : Addr → Prop} {H H' : Hp} {a : Addr} {kvs : List (D × D)} {es : List Ent}
theorem Grp.keep (g : Grp G B S H a kvs es) (k : Kept B H H') (ks : ∀ b o, S b → H b = some o → H' b = some o) (ka : ∀ o, H a = some o → H' a = some o) : Grp G B S H' a kvs es where
  at' := g.at'.imp (ka _) fun z => ⟨z.1, ka _ z.2⟩
  pr := paired_imp g.pr fun p e ⟨h1, h2, b, xs, ds, h3, h4, h5, h6, h7⟩ => ⟨h1, h2.keep k, b, xs, ds, h3, h4, ks b _ h7 h5, h6.keep k, h7⟩
  nd := g.nd
  kn := g.kn
  dp := g.dp
theorem Grp.more (g : Grp G B S H a kvs es) (h : ∀ b, B' b → B b ∨ H b = none) (hs : ∀ b, S b → S' b) : Grp G B' S' H a kvs es where
  at' := g.at'
  pr := paired_imp g.pr fun p e ⟨h1, h2, b, xs, ds, h3, h4, h5, h6, h7⟩ => ⟨h1, h2.more h, b, xs, ds, h3, h4, h5, h6.more h, hs _ h7⟩
  nd := g.nd
  kn := g.kn
  dp := g.dp
theorem Grp.dk (g : Grp G B S H a kvs es) : DK G B H (kvs.map (·.1)) es := by
  have := g.pr
  clear g
  induction this with
  | nil => exact .nil
  | cons r _ ih => exact .cons ⟨r.1, r.2.1⟩ ih
def ensL (kvs : List (D × D)) (k : D) : List (D × D) := if (kvs.any fun p => decide (keyOf p.1 = keyOf k)) = true then kvs else kvs ++ [(k, .list [])]
def addL (v : D) : D → D
  | .list ds => .list (ds ++ [v])
  | d => d
def appL (kvs : List (D × D)) (k v : D) : List (D × D) := kvs.map fun p => if keyOf p.1 = keyOf k then (p.1, addL v p.2) else p
theorem Grp.any (g : Grp G B S H a kvs es) {kd : D} {k : NestedKey} (hk : keyOf kd = some k) : (kvs.any fun p => decide (keyOf p.1 = keyOf kd)) = (fdE es k).isSome := by
  have := g.pr
  clear g
  induction this with
  | nil => rfl
  | @cons p e _ _ r _ ih =>
    rw [List.any_cons, ih, r.1, hk]
    by_cases h : e.1 = k
    · simp [fdE, List.find?_cons, h]
    · simp [fdE, List.find?_cons, h]
theorem Grp.ends (g : Grp G B S H a kvs es) {kd : D} {k : NestedKey} (hk : keyOf kd = some k) {e : Ent} (he : fdE es k = some e) : ensL kvs kd = kvs := by
  unfold ensL
  rw [g.any hk, he]; rfl
/-- a new list comes in -/
theorem Grp.ensN (g : Grp G B S H a kvs es) {kd : D} {k : NestedKey} {ka q : Addr} (hk : keyOf kd = some k) (hd : k.depth ≤ 8) (hn : fdE es k = none) (rk : Rp G B H (.ref ka) kd) (hq : H q = some (.lst [])) (hb : B a) (nq : ¬ S q) (hSa : ¬ S a) (haq : q ≠ a) :
    Grp G B (fun b => S b ∨ b = q) (upd H a (.ext (DN G a (stN es k ka (.ref q))))) a (ensL kvs kd) (es ++ [(k, ka, .ref q)]) ∧ stN es k ka (.ref q) = es ++ [(k, ka, .ref q)] := by
  have hany : (es.any fun e => decide (e.1 = k)) = false := by
    rw [List.any_eq_false]
    intro e he hc
    have := List.find?_eq_none.mp hn e he
    exact this hc
  have e1 : stN es k ka (.ref q) = es ++ [(k, ka, .ref q)] := by unfold stN; rw [hany]; rfl
  have e2 : ensL kvs kd = kvs ++ [(kd, .list [])] := by unfold ensL; rw [g.any hk, hn]; rfl
  have kk : ∀ b o, b ≠ a → H b = some o → upd H a (.ext (DN G a (stN es k ka (.ref q)))) b = some o := fun b o n e => by rw [upd_ne n]; exact e
  have kB : Kept B H (upd H a (.ext (DN G a (stN es k ka (.ref q))))) := fun b o n e => kk b o (fun z => n (z ▸ hb)) e
  refine ⟨?_, e1⟩
  rw [e2]
  refine ⟨.inl (by rw [upd_same, e1]), ?_, ?_, ?_, ?_⟩
  · refine paired_app (paired_imp g.pr fun p e ⟨h1, h2, b, xs, ds, h3, h4, h5, h6, h7⟩ => ⟨h1, h2.keep kB, b, xs, ds, h3, h4, kk b _ (fun z => hSa (z ▸ h7)) h5, h6.keep kB, .inl h7⟩) (.cons ⟨hk, rk.keep kB, q, [], [], rfl, rfl, kk q _ haq hq, .nil, .inr rfl⟩ .nil)
  · rw [List.map_append, List.nodup_append]
    refine ⟨g.nd, by simp, fun x hx y hy e => ?_⟩
    simp at hy; subst hy; subst e
    obtain ⟨e0, he0, ee⟩ := List.mem_map.mp hx
    have go : ∀ {kvs es}, Paired (fun (p : D × D) (e : Ent) => keyOf p.1 = some e.1 ∧ Rp G B H (.ref e.2.1) p.1 ∧ ∃ b xs ds, e.2.2 = .ref b ∧ p.2 = .list ds ∧ H b = some (.lst xs) ∧ RpAll G B H xs ds ∧ S b) kvs es → ∀ e ∈ es, ∃ b, e.2.2 = .ref b ∧ S b := fun r => by
      induction r with
      | nil => intro e he; cases he
      | cons r _ ih =>
        intro e he
        rcases List.mem_cons.mp he with rfl | he
        · obtain ⟨_, _, b, _, _, h3, _, _, _, h7⟩ := r
          exact ⟨b, h3, h7⟩
        · exact ih e he
    obtain ⟨b, h3, h7⟩ := go g.pr e0 he0
    rw [h3] at ee; cases ee
    exact nq h7
  · rw [List.map_append, List.nodup_append]
    refine ⟨g.kn, by simp, fun x hx y hy e => ?_⟩
    simp at hy; subst hy; subst e
    obtain ⟨e0, he0, ee⟩ := List.mem_map.mp hx
    have := List.find?_eq_none.mp hn e0 he0
    exact this (by simpa using ee)
  · intro e he
    rcases List.mem_append.mp he with he | he
    · exact g.dp e he
    · cases List.mem_singleton.mp he; exact hd
/-- a list gets an item -/
theorem Grp.app (g : Grp G B S H a kvs es) {kd d : D} {k : NestedKey} {e : Ent} {v : V} (hk : keyOf kd = some k) (hf : fdE es k = some e) (rv : Rp G B H v d) (hSB : ∀ b, S b → B b) (hl : kvs.all (fun p => match p.2 with | .list ds => decide (ds.length < LINE) | _ => false) = true) :
    ∃ b xs, e.2.2 = .ref b ∧ S b ∧ b ≠ a ∧ H b = some (.lst xs) ∧ xs.length < sizeLine ∧ Grp G B S (upd H b (.lst (xs ++ [v]))) a (appL kvs kd d) es := by
  have he : e ∈ es := List.mem_of_find?_eq_some hf
  have hek : e.1 = k := by have := List.find?_some hf; simpa using this
  obtain ⟨p, hp, h1, h2, b, xs, ds, h3, h4, h5, h6, h7⟩ : ∃ p ∈ kvs, keyOf p.1 = some e.1 ∧ Rp G B H (.ref e.2.1) p.1 ∧ ∃ b xs ds, e.2.2 = .ref b ∧ p.2 = .list ds ∧ H b = some (.lst xs) ∧ RpAll G B H xs ds ∧ S b := by
    have := g.pr
    clear hf hek g hl
    induction this with
    | nil => cases he
    | @cons p e' _ _ r _ ih =>
      rcases List.mem_cons.mp he with rfl | he
      · exact ⟨p, by simp, r⟩
      · obtain ⟨p', hp', r'⟩ := ih he
        exact ⟨p', by simp [hp'], r'⟩
  have hba : b ≠ a := fun z => by
    subst z
    rcases g.at' with z | ⟨_, z⟩ <;> (rw [h5] at z; cases z)
  have hlen : xs.length < sizeLine := by
    have := List.all_eq_true.mp hl p hp
    rw [h4] at this
    have : ds.length < LINE := by simpa using this
    rw [h6.length]
    exact Nat.lt_of_lt_of_eq this line_eq
  have kk : ∀ c o, c ≠ b → H c = some o → upd H b (.lst (xs ++ [v])) c = some o := fun c o n e => by rw [upd_ne n]; exact e
  have kB : Kept B H (upd H b (.lst (xs ++ [v]))) := fun c o n e => kk c o (fun z => n (z ▸ hSB b h7)) e
  refine ⟨b, xs, h3, h7, hba, h5, hlen, ⟨g.at'.imp (kk a _ (Ne.symm hba)) fun z => ⟨z.1, kk a _ (Ne.symm hba) z.2⟩, ?_, g.nd, g.kn, g.dp⟩⟩
  refine paired_map g.pr fun p0 e0 he0 ⟨q1, q2, b0, xs0, ds0, q3, q4, q5, q6, q7⟩ => ?_
  by_cases hc : e0.1 = k
  · have : e0 = e := nodup_inj g.kn he0 he (hc.trans hek.symm)
    subst this
    rw [q3] at h3; cases h3
    rw [q5] at h5; cases h5
    rw [if_pos (by rw [q1, hc, hk])]
    refine ⟨q1, q2.keep kB, b, xs ++ [v], ds0 ++ [d], q3, by rw [q4]; rfl, upd_same, (q6.keep kB).append (.cons (rv.keep kB) .nil), q7⟩
  · rw [if_neg (by rw [q1, hk]; intro z; exact hc (Option.some.inj z))]
    refine ⟨q1, q2.keep kB, b0, xs0, ds0, q3, q4, kk b0 _ (fun z => ?_) q5, q6.keep kB, q7⟩
    subst z
    have : e0 = e := nodup_inj g.nd he0 he (q3.trans h3.symm)
    subst this
    exact hc hek
end
end Pu

set_option maxHeartbeats 2000000
/-! P18: the loop that fills a dict of lists. -/
namespace Pu
open PySem PySem.Spec L2 PyProof.Rows
section
variable {G : Gd} {A B B2 S : Addr → Prop} {c : Nat} {H : Hp} {σ : L2.St} {ρ : Ev} {a : Addr} {kvs : List (D × D)} {es : List Ent}
theorem Grp.lst (g : Grp G B S H a kvs es) {k : NestedKey} {e : Ent} (hf : fdE es k = some e) : ∃ b xs, e.2.2 = .ref b ∧ S b ∧ H b = some (.lst xs) := by
  have he : e ∈ es := List.mem_of_find?_eq_some hf
  have := g.pr
  clear g hf
  induction this with
  | nil => cases he
  | @cons p e' _ _ r _ ih =>
    rcases List.mem_cons.mp he with rfl | he
    · obtain ⟨_, _, b, xs, _, h3, _, h5, _, h7⟩ := r
      exact ⟨b, xs, h3, h7, h5⟩
    · exact ih he
theorem Grp.dct (g : Grp G B S H a kvs es) (hs : ∀ b, S b → ¬ B2 b) (sb : ∀ b, B2 b → B b) : RpC G B2 H a (.dict kvs) := by
  have de : DE G B2 H kvs es := paired_imp g.pr fun p e ⟨h1, h2, b, xs, ds, h3, h4, h5, h6, h7⟩ => ⟨h1, h2.sub sb, by
    rw [h3, h4]
    exact .lst (.inl (hs b h7)) (.of h5) (h6.sub sb)⟩
  rcases g.at' with h | ⟨rfl, h⟩
  · exact de_dct h de g.dp
  · cases de
    exact .dct rfl rfl (.inl ⟨[], h, rfl, rfl⟩) .nil .nil
/-- an own object is put aside -/
theorem RS.aside (r : RS G A B c H σ ρ) {i : Nat} {d : D} (hi : ρ[i]? = some (.ce a d)) : RS G (fun b => A b ∨ b = a) B c H σ (ρ.set i .no) := by
  obtain ⟨s1, s2, s3, s4⟩ := r.ce i a d hi
  refine ⟨fun j e q => ?_, fun j b e q => ?_, fun j b q => ?_, fun j l b s t q1 q2 e1 e2 => ?_, fun b z => z.elim (r.sub b) fun z => z ▸ s4, r.dom, (by rw [List.length_set]; exact r.len), r.cm⟩
  · rcases getE_set q with ⟨rfl, z⟩ | ⟨hj, z⟩
    · subst z; trivial
    · exact r.ro j e z
  · rcases getE_set q with ⟨rfl, z⟩ | ⟨hj, z⟩
    · cases z
    · obtain ⟨h1, h2, h3, h4⟩ := r.ce j b e z
      refine ⟨h1, h2, fun y => y.elim h3 fun y => ?_, h4⟩
      subst y
      exact hj (r.inj _ _ _ _ _ z hi rfl rfl)
  · rcases getE_set q with ⟨rfl, z⟩ | ⟨hj, z⟩
    · cases z
    · obtain ⟨h1, h2, h3, h4⟩ := r.jr j b z
      refine ⟨h1, h2, fun y => y.elim h3 fun y => ?_, h4⟩
      subst y
      exact hj (r.inj _ _ _ _ _ z hi rfl rfl)
  · rcases getE_set q1 with ⟨rfl, z⟩ | ⟨hj, z⟩
    · subst z; cases e1
    · rcases getE_set q2 with ⟨rfl, z'⟩ | ⟨hl, z'⟩
      · subst z'; cases e2
      · exact r.inj _ _ _ _ _ z z' e1 e2
/-- .. and taken back -/
theorem RS.back {A' B' : Addr → Prop} (r : RS G A' B' c H σ ρ) {i : Nat} {d : D} (hi : i < ρ.length) (hA : ∀ b, A b → A' b) (haA : A' a) (hn : ¬ A a) (hB : ∀ b, B2 b → B' b) (hab : B2 a) (hAB : ∀ b, A b → B2 b) (hout : ∀ b, B' b → ¬ A' b → B2 b) (ha : σ[i]? = some (some (.ref a))) (h : RpC G B2 H a d) : RS G A B2 c H σ (ρ.set i (.ce a d)) := by
  have no : ∀ {k : Nat} {t : Slot}, ρ[k]? = some t → ownOf t = some a → False := fun {k t} z e => (r.at z e).2.1 haA
  refine ⟨fun j e q => ?_, fun j b e q => ?_, fun j b q => ?_, fun j l b s t q1 q2 e1 e2 => ?_, hAB, fun b z => r.dom b (hB b z), (by rw [List.length_set]; exact r.len), r.cm⟩
  · rcases getE_set q with ⟨rfl, z⟩ | ⟨hj, z⟩
    · subst z; trivial
    · exact (r.ro j e z).sub hB
  · rcases getE_set q with ⟨rfl, z⟩ | ⟨hj, z⟩
    · cases z; exact ⟨ha, h, hn, hab⟩
    · obtain ⟨h1, h2, h3, h4⟩ := r.ce j b e z
      exact ⟨h1, h2.sub hB, fun y => h3 (hA b y), hout b h4 h3⟩
  · rcases getE_set q with ⟨rfl, z⟩ | ⟨hj, z⟩
    · cases z
    · obtain ⟨h1, h2, h3, h4⟩ := r.jr j b z
      exact ⟨h1, h2, fun y => h3 (hA b y), hout b h4 h3⟩
  · rcases getE_set q1 with ⟨rfl, z⟩ | ⟨hj, z⟩
    · subst z; cases e1
      rcases getE_set q2 with ⟨rfl, z'⟩ | ⟨hl, z'⟩
      · rfl
      · exact (no z' e2).elim
    · rcases getE_set q2 with ⟨rfl, z'⟩ | ⟨hl, z'⟩
      · subst z'; cases e2; exact (no z e1).elim
      · exact r.inj _ _ _ _ _ z z' e1 e2
end
def ensD (kvs : List (D × D)) (k : D) : Option (List (D × D)) := if isTupD k = true ∧ kvs.length < LINE then (keyOf k).bind fun nk => if nk.depth ≤ 8 then some (ensL kvs k) else none else none
theorem ensD_some {kvs kvs' : List (D × D)} {k : D} (h : ensD kvs k = some kvs') : isTupD k = true ∧ kvs.length < LINE ∧ (∃ nk, keyOf k = some nk ∧ nk.depth ≤ 8) ∧ kvs' = ensL kvs k := by
  unfold ensD at h
  split at h
  · rename_i hc
    cases hk : keyOf k with
    | none => rw [hk] at h; cases h
    | some nk =>
      rw [hk] at h
      replace h : (if nk.depth ≤ 8 then some (ensL kvs k) else none) = some kvs' := h
      split at h
      · rename_i hd
        exact ⟨hc.1, hc.2, ⟨nk, rfl, hd⟩, (Option.some.inj h).symm⟩
      · cases h
  · cases h
def appD (kvs : List (D × D)) (k v : D) : Option (List (D × D)) := if kvs.all (fun p => match p.2 with | .list ds => decide (ds.length < LINE) | _ => false) = true then some (appL kvs k v) else none
/-- the dict of lists, from the items -/
def grpR {T : Type} (dec : D → Option T) (me1 me2 : T → R D) : List D → List (D × D) → R (List (D × D))
  | [], kvs => .ok kvs
  | d :: ds, kvs => R.of (dec d) >>= fun t => me1 t >>= fun k => R.of (ensD kvs k) >>= fun kvs1 => me2 t >>= fun v => R.of (appD kvs1 k v) >>= fun kvs2 => grpR dec me1 me2 ds kvs2
section
variable {X : Cx} {W : WX} {k : Nat} {α δ γ β : Type} {rs : Rsp β} {encL : γ → Ev} {ex ρ : Ev} {enc : α → Ev} {rest : List Stmt} {pos : Pos}
theorem Po.fx {α : Type} {m : R α} {ok : Nat → α → Prop} {ex' : Nat → Str → Option D → Prop} {c : Nat} (h : Po c m ok (fun _ _ _ => False)) : Po c m ok ex' := Po.mono (fun _ _ q => q) (fun _ _ _ q => q.elim) h
theorem b_grp {T : Type} {sl : List Nat} {dec : D → Option T} {env : T → Ev → Ev} {me1 me2 : T → R D} {mi : R (List D)} (i : Nat) {x : Str} {px p1 p2 pl : Pos} {c1 c2 ps : Pos} {a : Addr} {ρ0 : Ev} {f : List (D × D) → R (Fl α γ β)} {tg iter E1 E2 : Expr}
    (F : Fx X W k) (hi : PuI X W tg iter ρ mi) (hx : Wk ρ ex) (w0 : Wk (ρ.set i .no) ρ0) (hg : PuG X tg sl dec env) (hsl : ∀ j ∈ sl, j < ρ0.length) (hni : i ∉ sl)
    (hwk : ∀ t, Wk (env t ρ0) ρ0) (h1 : ∀ t, PuE X W E1 (env t ρ0) (me1 t)) (h2 : ∀ t, PuE X W E2 (env t ρ0) (me2 t))
    (h3 : ∀ kvs, PuB X W rs encL ex rest (ρ0.set i (.ce a (.dict kvs))) enc (f kvs))
    (hce : ρ[i]? = some (.ce a (.dict [])) := by rfl) (hN : X.N[i]? = some x := by rfl) (hvis : Vis X.env.scope x := by first | exact Or.inl rfl | exact Or.inr (Or.inl rfl) | exact Or.inr (Or.inr rfl)) (hd : (x == ("__debug__" : Str)) = false := by decide) (hcd : (x == ("__classdict__" : Str)) = false := by decide)
    (hst1 : starEach (E1 :: [.List [] pl]) X.env = (false, eval E1 X.env) :: starEach [.List [] pl] X.env := by first | exact se_of (fun _ _ h => nomatch h) | rfl) (hst2 : starEach (.List [] pl :: []) X.env = (false, eval (.List [] pl) X.env) :: starEach [] X.env := by first | exact se_of (fun _ _ h => nomatch h) | rfl)
    (hb1 : attributeBase (.Name x px) "setdefault" X.env (eval (.Name x px) X.env) = eval (.Name x px) X.env := by rfl)
    (hf1 : ((backTo c1 (starEach (E1 :: [.List [] pl]) X.env)).all (fun x => !x.1) && (backToKw c1 (keywordEach [] X.env)).all (fun x => x.1.isSome)
      && decide ((E1 :: [.List [] pl]).length + ([] : List Keyword).length + (if ([] : List Keyword).isEmpty then 0 else 1) < 30)) = true := by rfl)
    (hl1 : (p1.endLine == c1.line) = true := by rfl) (hp1 : (backTo c1 (starEach [.List [] pl] X.env)).any (·.1) = false := by first | exact pl_of (by rfl) | rfl)
    (hb2 : attributeBase (.Call (.Attribute (.Name x px) "setdefault" p1) [E1, .List [] pl] [] c1) "append" X.env (eval (.Call (.Attribute (.Name x px) "setdefault" p1) [E1, .List [] pl] [] c1) X.env) = eval (.Call (.Attribute (.Name x px) "setdefault" p1) [E1, .List [] pl] [] c1) X.env := by rfl)
    (hf2 : ((backTo c2 (starEach (E2 :: []) X.env)).all (fun x => !x.1) && (backToKw c2 (keywordEach [] X.env)).all (fun x => x.1.isSome)
      && decide ((E2 :: []).length + ([] : List Keyword).length + (if ([] : List Keyword).isEmpty then 0 else 1) < 30)) = true := by rfl)
    (hl2 : (p2.endLine == c2.line) = true := by rfl) (hst3 : starEach [E2] X.env = (false, eval E2 X.env) :: starEach [] X.env := by first | exact se_of (fun _ _ h => nomatch h) | rfl) (hp2 : (backTo c2 (starEach [] X.env)).any (·.1) = false := by first | exact pl_of (by rfl) | rfl)
    (hs : swapsWith (.Call (.Attribute (.Call (.Attribute (.Name x px) "setdefault" p1) [E1, .List [] pl] [] c1) "append" p2) [E2] [] c2) none ps.line X.env = pure false := by rfl)
    (hfs : ∀ x, foldedSetIterable iter X.env x = pure x := by intro _; rfl) :
    PuB X W rs encL ex (.For tg iter [.Expr (.Call (.Attribute (.Call (.Attribute (.Name x px) "setdefault" p1) [E1, .List [] pl] [] c1) "append" p2) [E2] [] c2) ps] [] pos :: rest) ρ enc (mi >>= fun ds => R.nx (grpR dec me1 me2 ds []) >>= f) := by
  intro A B c H σ Dd r p
  refine (pss_cons (ps_for F.po F.calm pi_wp pg_wp pb_wp hfs) pb_wp).to ?_
  refine hi.stepB hx r p fun c1' ds J H1 k1 yl r1 p1' => ?_
  obtain ⟨s1, s2, s3, s4⟩ := r1.ce i a _ hce
  have hil : i < ρ0.length := by
    rw [← w0.length, List.length_set]
    exact (List.getElem?_eq_some_iff.mp hce).1
  have q0 : Po c1' (grpR dec me1 me2 ds []) (fun c'' kvs' => PoB X W rs encL ex enc A B c'' H1 (f kvs') Dd) (fun _ _ _ => False) := Po.nx (Po.bind p1')
  let N : Nat → L2.St → Hp → Prop := fun n σ' H' => ∃ c' A' B' S kvs es, (∀ b, A' b ↔ (A b ∨ b = a ∨ S b)) ∧ (∀ b, B' b ↔ (B b ∨ S b)) ∧ (∀ b, S b → H1 b = none) ∧ Fr A B H1 B H' ∧ RS (gd X) A' B' c' H' σ' ρ0 ∧ Grp (gd X) B' S H' a kvs es ∧ σ'[i]? = some (some (.ref a)) ∧
    Po c' (grpR dec me1 me2 (ds.drop n) kvs) (fun c'' kvs' => PoB X W rs encL ex enc A B c'' H1 (f kvs') Dd) (fun _ _ _ => False)
  have g0 : Grp (gd X) B (fun _ => False) H1 a [] [] := by
    refine ⟨?_, .nil, by simp, by simp, fun e he => nomatch he⟩
    cases s2 with
    | @dct _ ks vs kds vds e1 e2 h rk rv =>
      subst e1; subst e2
      rcases h with ⟨kv, h, q1, q2⟩ | ⟨es, h, q1, q2, q3, _⟩
      · cases rk
        cases kv with
        | nil => exact .inr ⟨rfl, h⟩
        | cons _ _ => exact absurd q1 (by simp)
      · cases es with
        | nil => exact .inl h
        | cons _ _ => exact absurd q3 (by simp)
  refine ⟨fun n m σ' H' => m = ds.length - n ∧ n ≤ ds.length ∧ N n σ' H', ⟨ds.length, by simp, Nat.zero_le _, c1', _, B, fun _ => False, [], [], fun b => by simp, fun b => by simp, fun b z => z.elim, Fr.refl, (r1.aside hce).wk w0, g0, s1, q0⟩, ?_⟩
  rintro n m σ' H' ⟨rfl, hile, c', A', B', S, kvs, es, hA, hB, hS, fr, rs', g, ha, pl'⟩
  have hBt : ∀ b, B' b → B b ∨ H1 b = none := fun b z => ((hB b).mp z).imp id (hS b)
  have kBt : Kept B' H1 H' := fun b o n e => fr.kept b o (fun z => n ((hB b).mpr (.inl z.1))) e
  have aA : A' a := (hA a).mpr (.inr (.inl rfl))
  have aB : B' a := (hB a).mpr (.inl s4)
  have nSa : ¬ S a := fun z => by obtain ⟨o, e⟩ := s2.trk; rw [hS a z] at e; cases e
  by_cases hlt : n < ds.length
  · refine .inr ?_
    have hdi : ds[n]? = some ds[n] := by simp [hlt]
    obtain ⟨hgo, hyld⟩ := yl.go B' n H' ds[n] hBt kBt rs'.dom hdi
    refine ⟨hgo, N (n + 1), fun σ'' H2 h2 => ⟨ds.length - (n + 1), by omega, rfl, hlt, h2⟩, fun xv H2 y => ?_⟩
    obtain ⟨se2, rx⟩ := hyld xv H2 y
    rw [List.drop_eq_getElem_cons hlt] at pl'
    unfold grpR at pl'
    obtain ⟨t, hdec, pl'⟩ := Po.ofb pl'
    refine hg A' B' c' H2 _ _ xv ds[n] t _ (rs'.ext se2) rx hdec hsl fun σ2 rs2 os2 => ?_
    have ha2 : σ2[i]? = some (some (.ref a)) := by rw [os2.2 i hni]; exact ha
    have g2 := g.keep (Same.kept se2) (fun b o _ e => se2 b o e) (fun o e => se2 a o e)
    refine (pss_cons (ps_expr (pe_bm PySem.F.plainAttrs_list PySem.F.slot_list_append PySem.F.type_list_append mt_append (pe_sd F.lv (pe_var hN hvis hd hcd) (pa_cons pe_wp (pa_cons (pe_lst pa_nil) pa_nil hst2) hst1) hb1 hf1 hl1 hst1 hp1) (pa_cons pe_wp pa_nil hst3) hb2 hf2 hl2 hst3 hp2) hs) pss_nil).to ?_
    refine ⟨_, ha2, ⟨a, es, B', _, rfl, g2.at', g2.dk, g2.dp⟩, ?_⟩
    refine h1 t A' B' c' H2 σ2 _ rs2 (Po.fx (Po.mono (fun c3 kd q kv H3 k3 rs3 rk => ?_) (fun _ _ _ q => q) (Po.bind pl')))
    obtain ⟨kvs1, he1, q⟩ := Po.ofb q
    obtain ⟨ht, hll, ⟨nk, hnk, hdk⟩, rfl⟩ := ensD_some he1
    have kx3 := Kx.ofj rs2 k3
    have kpA : ∀ b o, A' b → H2 b = some o → H3 b = some o := fun b o z e => kx3.kept b o (fun w => w.2 z) e
    have g3 : Grp (gd X) B' S H3 a kvs es := g2.keep kx3.kp (fun b o z e => kpA b o ((hA b).mpr (.inr (.inr z))) e) (fun o e => kpA a o aA e)
    refine ⟨Nat.zero_le _, fun ql hql => ?_⟩
    have sq := same_upd (o := HO.lst []) hql
    have nBq : ¬ B' ql := rs3.nav hql
    have nSq : ¬ S ql := fun z => nBq ((hB ql).mpr (.inr z))
    have nqa : ql ≠ a := fun z => nBq (z ▸ aB)
    have rsq := rs3.into sq hql ⟨_, upd_same⟩
    have gq : Grp (gd X) (fun b => B' b ∨ b = ql) S (upd H3 ql (.lst [])) a kvs es := (g3.more (B' := fun b => B' b ∨ b = ql) (fun b z => z.imp id fun (z : b = ql) => z ▸ hql) (fun b z => z)).keep (Same.kept sq) (fun b o _ e => sq b o e) (fun o e => sq a o e)
    have hq1 : H1 ql = none := by
      cases e : H1 ql with
      | none => rfl
      | some o =>
        obtain ⟨o1, e1⟩ := fr.there ql o e
        obtain ⟨o2, e2⟩ := kx3.there ql o1 (se2 _ _ e1)
        rw [hql] at e2; cases e2
    have frq : Fr A B H1 B (upd H3 ql (.lst [])) := ⟨fun b o n e => sq b o (kx3.kept b o (fun w => n (by
        refine ⟨((hB b).mp w.1).elim id fun z => ?_, fun z => w.2 ((hA b).mpr (.inl z))⟩
        rw [hS b z] at e; cases e)) (se2 b o (fr.kept b o n e))), fun b z => .inl z, fun b o e => by
        obtain ⟨o1, e1⟩ := fr.there b o e
        obtain ⟨o2, e2⟩ := kx3.there b o1 (se2 _ _ e1)
        exact ⟨o2, sq _ _ e2⟩⟩
    cases rk with
    | @tup ka xs0 ds0 y1 y2 y3 =>
      have rkq : Rp (gd X) (fun b => B' b ∨ b = ql) (upd H3 ql (.lst [])) (.ref ka) (.tuple ds0) := ((Rp.tup y1 y2 y3).more fun b z => z.imp id fun (z : b = ql) => z ▸ hql).keep (Same.kept sq)
      -- what comes behind setdefault, whatever it told
      have hit : keyOf (.tuple ds0) = some nk := hnk
      have tail : ∀ (H4 : Hp) (es4 : List Ent) (e4 : Ent), RS (gd X) (fun b => A' b ∨ b = ql) (fun b => B' b ∨ b = ql) c3 H4 σ2 (env t ρ0) → Fr A B H1 B H4 → Grp (gd X) (fun b => B' b ∨ b = ql) (fun b => S b ∨ b = ql) H4 a (ensL kvs (.tuple ds0)) es4 → fdE es4 nk = some e4 →
          (tyV X.K "list" e4.2.2 H4 ∧ tCons (wpE X E2) tNil σ2 H4 fun xs H5 => rAppend e4.2.2 xs H5 fun _ H6 => N (n + 1) σ2 H6) := by
        intro H4 es4 e4 rs4 fr4 g4 hf4
        have hSB4 : ∀ b, (S b ∨ b = ql) → (B' b ∨ b = ql) := fun b z => z.imp (fun z => (hB b).mpr (.inr z)) id
        have hSA4 : ∀ b, (S b ∨ b = ql) → (A' b ∨ b = ql) := fun b z => z.imp (fun z => (hA b).mpr (.inr (.inr z))) id
        have hS4 : ∀ b, (S b ∨ b = ql) → H1 b = none := fun b z => z.elim (hS b) fun z => z ▸ hq1
        obtain ⟨b, xs, hb, hSb, hHb⟩ := g4.lst hf4
        refine ⟨by rw [hb]; exact .inl ⟨rfl, xs, SqL.of hHb⟩, ?_⟩
        refine h2 t _ _ c3 H4 σ2 _ rs4 (Po.fx (Po.mono (fun c5 vd q v H5 k5 rs5 rv => ?_) (fun _ _ _ q => q) (Po.bind q)))
        obtain ⟨kvs2, he2, q⟩ := Po.ofb q
        unfold appD at he2
        split at he2
        rotate_left
        · cases he2
        rename_i hall
        cases he2
        have kx5 := Kx.ofj rs4 k5
        have kpA5 : ∀ b o, (A' b ∨ b = ql) → H4 b = some o → H5 b = some o := fun b o z e => kx5.kept b o (fun w => w.2 z) e
        have g5 := g4.keep kx5.kp (fun b o z e => kpA5 b o (hSA4 b z) e) (fun o e => kpA5 a o (.inl aA) e)
        obtain ⟨b', xs', hb', hSb', hba, hHb', hlen, g6⟩ := g5.app hit hf4 rv hSB4 hall
        rw [hb] at hb'; cases hb'
        refine ⟨b, xs', v, hb, rfl, hHb', hlen, c5, (fun c => A' c ∨ c = ql), (fun c => B' c ∨ c = ql), (fun c => S c ∨ c = ql), _, es4, fun c => ?_, fun c => ?_, hS4, ⟨fun c o n e => ?_, fun c z => .inl z, fun c o e => ?_⟩, (rs5.touch (hSA4 b hSb) (fun c o n e => by rw [upd_ne n]; exact e) ⟨_, upd_same⟩).wk (hwk t), g6, ha2, q⟩
        · show ((A' c ∨ c = ql) ↔ (A c ∨ c = a ∨ (S c ∨ c = ql))); rw [hA c]; constructor
          · rintro ((z | z | z) | z)
            · exact .inl z
            · exact .inr (.inl z)
            · exact .inr (.inr (.inl z))
            · exact .inr (.inr (.inr z))
          · rintro (z | z | z | z)
            · exact .inl (.inl z)
            · exact .inl (.inr (.inl z))
            · exact .inl (.inr (.inr z))
            · exact .inr z
        · show ((B' c ∨ c = ql) ↔ (B c ∨ (S c ∨ c = ql))); rw [hB c]; exact or_assoc
        · have hcb : c ≠ b := fun z => by subst z; rw [hS4 c hSb] at e; cases e
          rw [upd_ne hcb]
          refine kx5.kept c o (fun w => n ⟨?_, fun z => w.2 (.inl ((hA c).mpr (.inl z)))⟩) (fr4.kept c o n e)
          rcases w.1 with z | z
          · rcases (hB c).mp z with z | z
            · exact z
            · rw [hS c z] at e; cases e
          · rw [z, hq1] at e; cases e
        · have hcb : c ≠ b := fun z => by subst z; rw [hS4 c hSb] at e; cases e
          rw [upd_ne hcb]
          obtain ⟨o1, e1⟩ := fr4.there c o e
          exact kx5.there c o1 e1
      refine ⟨a, ka, .ref ql, (fun b => B' b ∨ b = ql), _, es, _, nk, rfl, rfl, gq.at', gq.dk, gq.dp, rkq, hnk, hdk, by rw [← g.pr.length]; exact Nat.lt_of_lt_of_eq hll line_eq, fun e he => ?_, fun hno => ?_⟩
      · have e1 : ensL kvs (.tuple ds0) = kvs := gq.ends hit he
        refine tail _ es e rsq frq ?_ he
        rw [e1]
        exact gq.more (fun b z => .inl z) (fun b z => .inl z)
      · obtain ⟨g4, e1⟩ := gq.ensN hit hdk hno rkq upd_same (.inl aB) nSq nSa nqa
        have hnew : ∀ c o, c ≠ a → upd H3 ql (.lst []) c = some o → upd (upd H3 ql (.lst [])) a (.ext (DN (gd X) a (stN es nk ka (.ref ql)))) c = some o := fun c o n e => by rw [upd_ne n]; exact e
        refine tail _ (es ++ [(nk, ka, .ref ql)]) (nk, ka, .ref ql) (rsq.touch (.inl aA) hnew ⟨_, upd_same⟩) ⟨fun c o n e => hnew c o (fun z => n (z ▸ ⟨s4, s3⟩)) (frq.kept c o n e), fun c z => .inl z, fun c o e => ?_⟩ g4 ?_
        · obtain ⟨o1, e1⟩ := frq.there c o e
          by_cases hc : c = a
          · subst hc; exact ⟨_, upd_same⟩
          · exact ⟨o1, hnew c o1 hc e1⟩
        · show List.find? _ (es ++ _) = _
          rw [List.find?_append, show List.find? _ es = none from hno]
          simp
    | _ => cases ht
  · have ei : n = ds.length := by omega
    subst ei
    refine .inl ⟨yl.stop _ H' hBt kBt, ?_⟩
    rw [List.drop_length] at pl'
    unfold grpR at pl'
    rw [Po.ok_] at pl'
    have hnB : ∀ b, S b → ¬ B b := fun b z w => by
      obtain ⟨o, e⟩ := r1.dom b w
      rw [hS b z] at e; cases e
    have hBB : ∀ b, B b → B' b := fun b z => (hB b).mpr (.inl z)
    exact h3 kvs A B c' H' σ' Dd (rs'.back hil (fun b z => (hA b).mpr (.inl z)) aA s3 hBB s4 r1.sub (fun b z w => ((hB b).mp z).elim id fun y => absurd ((hA b).mpr (.inr (.inr y))) w) ha (g.dct hnB hBB)) (PoB.from fr pl')
end
end Pu
namespace Pu
open PySem PySem.Spec L2 PyProof.Rows
section
variable {X : Cx} {W : WX} {k : Nat} {α δ γ β : Type} {rs : Rsp β} {encL : γ → Ev} {ex ρ : Ev} {enc : α → Ev} {rest : List Stmt} {pos : Pos}
/-- x = {} -/
theorem b_setD0 (i : Nat) {x : Str} {px pd : Pos} {f : R (Fl α γ β)} (nd : X.N.Nodup) (hx : Wk ρ ex) (h2 : ∀ a, PuB X W rs encL ex rest (ρ.set i (.ce a (.dict []))) enc f) (hi : i < ρ.length := by simp) (hN : X.N[i]? = some x := by rfl)
    (hl : Loc X.env.scope x := by first | exact Or.inl rfl | exact Or.inr rfl) (hs : swapsWith (.Dict [] [] pd) (some (.Name x px)) pos.line X.env = pure false := by rfl)
    (hf : X.fn x = true ∨ X.env.scope.names.lookup x = some .local := by first | exact .inl rfl | exact .inr rfl | assumption) : PuB X W rs encL ex (.Assign [.Name x px] (.Dict [] [] pd) pos :: rest) ρ enc f :=
  b_setO (f := fun d => match d with | .dict [] => f | _ => .bad) i nd po_dict0 hx (fun d a => by
    split
    · exact h2 a
    · exact fun A B c H σ Dd r p => p.bad.elim) hi hN hl hs hf
end
end Pu

set_option maxHeartbeats 2000000
/-! P19: whole numbers, worked out. -/
namespace Pu
open PySem PySem.Spec L2
@[simp] theorem wipeE_nil (ρ : Ev) : wipeE ρ [] = ρ := rfl
@[simp] theorem wipeE_cons (ρ : Ev) (v : Nat) (vs : List Nat) : wipeE ρ (v :: vs) = (wipeE ρ vs).set v .no := rfl
@[simp] theorem envN_eq (i : Nat) (d : D) (ρ : Ev) : envN i d ρ = ρ.set i (.pu d) := rfl
@[simp] theorem envNil_eq (u : Unit) (ρ : Ev) : envNil u ρ = ρ := rfl
@[simp] theorem envCons_eq {T U : Type} (f : T → Ev → Ev) (g : U → Ev → Ev) (t : T × U) (ρ : Ev) : envCons f g t ρ = g t.2 (f t.1 ρ) := rfl
theorem lgK {n k : Nat} (h : n < 2 ^ k) (hk : 0 < k) : n.log2 < k := by
  by_cases h0 : n = 0
  · subst h0; simpa using hk
  · exact (Nat.log2_lt h0).mpr h
theorem mulK {i j : Int} (hi : i.natAbs < 2 ^ 2000) (hj : j.natAbs < 2 ^ 2000) : pMul (.int i) (.int j) = some (.int (i * j)) := by
  have h : pMulI i j = some (i * j) := by
    unfold pMulI
    have a := lgK hi (by omega)
    have b := lgK hj (by omega)
    have c : 2000 < BIG := by decide
    rw [if_pos ⟨by omega, by omega⟩]
  show (pMulI i j).map PyData.int = _
  rw [h]; rfl
theorem modK {i j : Int} (h : 0 < j) : pMod (.int i) (.int j) = some (.int (i % j)) := by
  show (pModI i j).map PyData.int = _
  unfold pModI
  rw [if_pos h]; rfl
theorem divK {i j : Int} (h : 0 < j) (hj : j < 2 ^ 8000) : pDiv (.int i) (.int j) = some (.int (i / j)) := by
  show (pDivI i j).map PyData.int = _
  unfold pDivI
  have := lgK (n := j.natAbs) (k := 8000) (by omega) (by omega)
  rw [if_pos ⟨h, by omega⟩]; rfl
@[simp] theorem eqK {i j : Int} : pEq (.int i) (.int j) = some (decide (i = j)) := by
  show (if (shp (.int i) && shp (.int j)) = true then some (PyData.eqv (.int i) (.int j)) else none) = _
  rw [if_pos (by rfl)]
  rfl
@[simp] theorem addK {i j : Int} : pAdd (.int i) (.int j) = some (.int (i + j)) := rfl
@[simp] theorem subK {i j : Int} : pSub (.int i) (.int j) = some (.int (i - j)) := rfl
@[simp] theorem gtK {i j : Int} : pGt (.int i) (.int j) = some (decide (j < i)) := rfl
@[simp] theorem intK {i : Int} : f1 pInt [.int i] = some (.int i) := rfl
theorem cat_nil {X : Cx} {c : Value} : CatOk X c [] := fun x b h => by cases h
theorem cat_cons {X : Cx} {c cy : Value} {y : Str} {b : Bool} {tab : List (Str × Bool)} (hm : X.mg y = some cy) (he : PySem.W.exmOne X.K cy c = some b) (t : CatOk X c tab) : CatOk X c ((y, b) :: tab) := fun x b' h cls hc => by
  unfold catT at h
  rw [List.lookup_cons] at h
  split at h
  · rename_i hxy
    have := eq_of_beq hxy
    subst this
    rw [hm] at hc
    cases hc; cases h
    exact he
  · exact t x b' h cls hc
theorem ht_nil {X : Cx} {C : Addr} : ∀ y cls, catT [] y = some true → X.mg y = some cls → cls = .ref C := fun y cls h => by cases h
theorem ht_cons {X : Cx} {cy : Value} {C : Addr} {y : Str} {b : Bool} {tab : List (Str × Bool)} (hm : X.mg y = some cy) (hb : b = true → cy = .ref C) (t : ∀ y cls, catT tab y = some true → X.mg y = some cls → cls = .ref C) : ∀ z cls, catT ((y, b) :: tab) z = some true → X.mg z = some cls → cls = .ref C := fun z cls h hc => by
  unfold catT at h
  rw [List.lookup_cons] at h
  split at h
  · rename_i hxy
    have := eq_of_beq hxy
    subst this
    rw [hm] at hc
    cases hc; cases h
    exact hb rfl
  · exact t z cls h hc
theorem jmaxK : (JMAX : Int) = 2 ^ 1000 := by unfold JMAX; simp
end Pu

set_option maxHeartbeats 2000000
/-! P20: short names for the mirrors' shapes -/
namespace Pu
open PySem PySem.Spec L2
namespace R
@[simp, reducible] def sq : List (R D) → R (List D)
  | [] => ok []
  | m :: ms => m >>= fun x => sq ms >>= fun xs => ok (x :: xs)
@[simp] abbrev tup (ms : List (R D)) : R D := sq ms >>= fun xs => of (mkTup xs)
@[simp] abbrev lst (ms : List (R D)) : R D := sq ms >>= fun xs => of (mkLst xs)
@[simp] abbrev bin {α : Type} (g : D → D → Option α) (a b : R D) : R α := a >>= fun x => b >>= fun y => of (g x y)
@[simp] abbrev un {α : Type} (g : D → Option α) (a : R D) : R α := a >>= fun x => of (g x)
@[simp] abbrev isi (T : String) (a : R D) : R D := a >>= fun x => ok (.bool (isI T x))
@[simp] abbrev nt (a : R D) : R D := a >>= fun x => of (pTru x) >>= fun k => ok (.bool (!k))
@[simp] abbrev cmp (g : D → D → Option Bool) (a b : R D) : R D := a >>= fun x => b >>= fun y => of (g x y) >>= fun k => ok (.bool k)
@[simp] abbrev chn (g g' : D → D → Option Bool) (a b c : R D) : R D := a >>= fun x => b >>= fun y => of (g x y) >>= fun k => if k = true then (c >>= fun z => of (g' y z) >>= fun k' => ok (.bool k')) else ok (.bool false)
@[simp] abbrev and (a b : R D) : R D := a >>= fun x => of (pTru x) >>= fun k => if k = true then b else ok x
@[simp] abbrev or (a b : R D) : R D := a >>= fun x => of (pTru x) >>= fun k => if k = true then ok x else b
@[simp] abbrev ite {α : Type} (t : R Bool) (a b : R α) : R α := t >>= fun k => if k = true then a else b
@[simp] abbrev slA (a b c : R D) : R D := a >>= fun x => b >>= fun l => of (oI l) >>= fun i => c >>= fun u => of (oI u) >>= fun j => of (pSl x i j)
@[simp] abbrev slL (a b : R D) : R D := a >>= fun x => b >>= fun l => of (oI l) >>= fun i => of (pSl x i none)
@[simp] abbrev slH (a b : R D) : R D := a >>= fun x => b >>= fun l => of (oI l) >>= fun i => of (pSl x none i)
@[simp] abbrev cal (f : List D → R D) (ms : List (R D)) : R D := sq ms >>= fun ds => f ds
@[simp] abbrev blt (g : List D → Option D) (ms : List (R D)) : R D := sq ms >>= fun xs => of (g xs)
@[simp] abbrev lc {T : Type} (dec : D → Option T) (t : T → R Bool) (e : T → R D) (m : R (List D)) : R D := m >>= fun xs => lcD dec t e xs >>= fun ys => ok (.list ys)
@[simp] abbrev tru (a : R D) : R Bool := a >>= fun x => of (pTru x) >>= fun k => ok k
@[simp] abbrev tnt (t : R Bool) : R Bool := t >>= fun k => ok (!k)
@[simp] abbrev tcmp (g : D → D → Option Bool) (a b : R D) : R Bool := a >>= fun x => b >>= fun y => of (g x y) >>= fun k => ok k
@[simp] abbrev tchn (g g' : D → D → Option Bool) (a b c : R D) : R Bool := a >>= fun x => b >>= fun y => of (g x y) >>= fun k => if k = true then (c >>= fun z => of (g' y z) >>= fun k' => ok k') else ok false
@[simp] abbrev tand (t u : R Bool) : R Bool := t >>= fun k => if k = true then u else ok false
@[simp] abbrev tor (t u : R Bool) : R Bool := t >>= fun k => if k = true then ok true else u
end R
end Pu

set_option maxHeartbeats 2000000
/-! P21: values side by side, some of them new own objects: a, b = [], e -/
namespace Pu
open PySem PySem.Spec L2
section
variable {X : Cx} {W : WX} {k : Nat} {α δ γ β : Type} {rs : Rsp β} {encL : γ → Ev} {ex ρ : Ev} {enc : α → Ev} {rest sts : List Stmt} {pos : Pos} {e : Expr} {es : List Expr} {m m2 : R D} {mm : R (Fl α γ β)} {A B B1 : Addr → Prop} {c : Nat} {H H1 : Hp} {σ : L2.St} {Dd : Ends}
/-- what is told of values behind their list: data; own objects, new since H0 -/
def Vs (G : Gd) (A B : Addr → Prop) (H0 H : Hp) (ρ : Ev) : List Bool → List V → List D → List Addr → Prop
  | [], [], [], [] => True
  | false :: ks, v :: vs, d :: ds, as => Rp G B H v d ∧ Vs G A B H0 H ρ ks vs ds as
  | true :: ks, v :: vs, d :: ds, a :: as => v = .ref a ∧ RpC G B H a d ∧ H0 a = none ∧ B a ∧ ¬ A a ∧ (∀ s ∈ ρ, ownOf s ≠ some a) ∧ a ∉ as ∧ Vs G A B H0 H ρ ks vs ds as
  | _, _, _, _ => False
theorem Vs.low {G : Gd} {H0 H0' : Hp} (t : ∀ b, H0' b = none → H0 b = none) : ∀ {ks : List Bool} {vs : List V} {ds : List D} {as : List Addr}, Vs G A B H0' H ρ ks vs ds as → Vs G A B H0 H ρ ks vs ds as
  | [], [], [], [], h => h
  | false :: ks, v :: vs, d :: ds, as, h => ⟨h.1, Vs.low t h.2⟩
  | true :: ks, v :: vs, d :: ds, a :: as, h => ⟨h.1, h.2.1, t _ h.2.2.1, h.2.2.2.1, h.2.2.2.2.1, h.2.2.2.2.2.1, h.2.2.2.2.2.2.1, Vs.low t h.2.2.2.2.2.2.2⟩
  | [], _ :: _, _, _, h => by cases h
  | [], [], _ :: _, _, h => by cases h
  | [], [], [], _ :: _, h => by cases h
  | false :: _, [], _, _, h => by cases h
  | false :: _, _ :: _, [], _, h => by cases h
  | true :: _, [], _, _, h => by cases h
  | true :: _, _ :: _, [], _, h => by cases h
  | true :: _, _ :: _, _ :: _, [], h => by cases h
theorem Vs.new {G : Gd} {H0 : Hp} {a : Addr} (ha : ∃ o, H0 a = some o) : ∀ {ks : List Bool} {vs : List V} {ds : List D} {as : List Addr}, Vs G A B H0 H ρ ks vs ds as → a ∉ as
  | [], [], [], [], h => by simp
  | false :: ks, v :: vs, d :: ds, as, h => Vs.new ha h.2
  | true :: ks, v :: vs, d :: ds, b :: as, h => fun z => by
    rcases List.mem_cons.mp z with rfl | z
    · obtain ⟨o, e⟩ := ha
      rw [h.2.2.1] at e; cases e
    · exact Vs.new ha h.2.2.2.2.2.2.2 z
  | [], _ :: _, _, _, h => by cases h
  | [], [], _ :: _, _, h => by cases h
  | [], [], [], _ :: _, h => by cases h
  | false :: _, [], _, _, h => by cases h
  | false :: _, _ :: _, [], _, h => by cases h
  | true :: _, [], _, _, h => by cases h
  | true :: _, _ :: _, [], _, h => by cases h
  | true :: _, _ :: _, _ :: _, [], h => by cases h
theorem Vs.len {G : Gd} {H0 : Hp} : ∀ {ks : List Bool} {vs : List V} {ds : List D} {as : List Addr}, Vs G A B H0 H ρ ks vs ds as → vs.length = ks.length ∧ ds.length = ks.length
  | [], [], [], [], h => ⟨rfl, rfl⟩
  | false :: ks, v :: vs, d :: ds, as, h => by
    obtain ⟨h1, h2⟩ := Vs.len h.2
    exact ⟨by simp [h1], by simp [h2]⟩
  | true :: ks, v :: vs, d :: ds, b :: as, h => by
    obtain ⟨h1, h2⟩ := Vs.len h.2.2.2.2.2.2.2
    exact ⟨by simp [h1], by simp [h2]⟩
  | [], _ :: _, _, _, h => by cases h
  | [], [], _ :: _, _, h => by cases h
  | [], [], [], _ :: _, h => by cases h
  | false :: _, [], _, _, h => by cases h
  | false :: _, _ :: _, [], _, h => by cases h
  | true :: _, [], _, _, h => by cases h
  | true :: _, _ :: _, [], _, h => by cases h
  | true :: _, _ :: _, _ :: _, [], h => by cases h
/-- the values of a list, then what follows -/
def PuV (X : Cx) (W : WX) {α γ β : Type} (rs : Rsp β) (encL : γ → Ev) (ex : Ev) (enc : α → Ev) (ks : List Bool) (es : List Expr) (ρ : Ev) (f : List D → R (Fl α γ β)) (mm : R (Fl α γ β)) : Prop :=
  ∀ (A B : Addr → Prop) (c : Nat) (H : Hp) (σ : L2.St) (Dd : Ends) (Q : List V → Hp → Prop), RS (gd X) A B c H σ ρ → PoB X W rs encL ex enc A B c H mm Dd →
    (∀ c' B' ds vs as H', Fr A B H B' H' → (∀ b, B b → B' b) → Kept (fun b => B b ∧ Slot.jar b ∈ ρ) H H' → RS (gd X) A B' c' H' σ ρ → Vs (gd X) A B' H H' ρ ks vs ds as → PoB X W rs encL ex enc A B' c' H' (f ds) Dd → Q vs H') → wpA X es σ H Q
theorem v_nil {f : List D → R (Fl α γ β)} : PuV X W rs encL ex enc [] [] ρ f (f []) := fun A B c H σ Dd Q r p hq => pa_nil.to (hq c B [] [] [] H Fr.refl (fun _ z => z) (fun _ _ _ e => e) r trivial p)
theorem kj_of (k1 : Kx (Aj B ρ) B H H1) : Kept (fun b => B b ∧ Slot.jar b ∈ ρ) H H1 := fun b o n e => k1.kept b o (fun z => n ⟨z.1, Classical.byContradiction fun y => z.2 ⟨z.1, y⟩⟩) e
theorem v_dat {ks : List Bool} {f : List D → R (Fl α γ β)} {g : D → R (Fl α γ β)} (h : PuE X W e ρ m) (hx : Wk ρ ex) (h2 : ∀ d, PuV X W rs encL ex enc ks es ρ (fun ds => f (d :: ds)) (g d)) (hs : starEach (e :: es) X.env = (false, eval e X.env) :: starEach es X.env := by first | exact se_of (fun _ _ h => nomatch h) | rfl) :
    PuV X W rs encL ex enc (false :: ks) (e :: es) ρ f (m >>= g) := by
  intro A B c H σ Dd Q r p hq
  refine (pa_cons pe_wp pa_wp hs).to ?_
  refine h.stepB hx r p fun c1 d v H1 k1 rv r1 p1 => ?_
  refine h2 d A B c1 H1 σ Dd (fun vs H2 => Q (v :: vs) H2) r1 p1 fun c' B' ds vs as H' fr sb kj r' ok p' => ?_
  refine hq c' B' (d :: ds) (v :: vs) as H' ((Fr.kx (k1.ofj r)).trans fr) sb (fun b o n e => kj b o n (kj_of k1 b o n e)) r' ⟨(rv.more fr.new).keep (fun b o n e => fr.kept b o (fun z => n (sb b z.1)) e), ok.low fun b z => ?_⟩ p'
  cases e : H b with
  | none => rfl
  | some o => obtain ⟨o', q⟩ := k1.there b o e; rw [z] at q; cases q
/-- what is known with a new object at hand, not yet in a slot -/
theorem RS.gain {a : Addr} {c' : Nat} (r0 : RS (gd X) A B c H σ ρ) (kx : Kx (Aj B ρ) B H H1) (r : RS (gd X) A B c' H1 σ ρ) (h0 : H a = none) (ht : ∃ o, H1 a = some o) :
    Fr A B H (fun b => B b ∨ b = a) H1 ∧ RS (gd X) A (fun b => B b ∨ b = a) c' H1 σ ρ := by
  have mr : ∀ b, (B b ∨ b = a) → B b ∨ H b = none := fun b z => z.imp id fun z => by subst z; exact h0
  have kk : Kept (fun b => B b ∨ b = a) H H1 := fun b o n e => kx.kept b o (fun z => n (.inl z.1)) e
  refine ⟨⟨(kx.ofj r0).kept, mr, kx.there⟩, ⟨fun j s e => ((r0.ro j s e).more mr).keep kk, fun j b d e => ?_, fun j b e => ?_, r.inj, fun b z => .inl (r.sub b z), fun b z => ?_, r.len, r.cm⟩⟩
  · obtain ⟨e1, e2, e3, e4⟩ := r0.ce j b d e
    have hb : ∀ o, H b = some o → H1 b = some o := fun o z => kx.kept b o (fun y => y.2 ⟨y.1, fun w => by
      obtain ⟨l, hl⟩ := mem_get w
      have := r0.inj j l b _ _ e hl rfl rfl
      subst this
      rw [e] at hl; cases hl⟩) z
    refine ⟨e1, ?_, e3, .inl e4⟩
    cases e2 with
    | lst q1 q2 => exact .lst (hb _ q1) ((q2.more mr).keep kk)
    | dct e1 e2 q1 q2 q3 => exact .dct e1 e2 (q1.keep hb) ((q2.more mr).keep kk) ((q3.more mr).keep kk)
  · obtain ⟨e1, e2, e3, e4⟩ := r.jr j b e
    exact ⟨e1, e2, e3, .inl e4⟩
  · rcases z with z | z
    · exact r.dom b z
    · subst z; exact ht
theorem v_own {ks : List Bool} {f : List D → R (Fl α γ β)} {g : D → R (Fl α γ β)} (h : PuO X W e ρ m) (hx : Wk ρ ex) (h2 : ∀ d, PuV X W rs encL ex enc ks es ρ (fun ds => f (d :: ds)) (g d)) (hs : starEach (e :: es) X.env = (false, eval e X.env) :: starEach es X.env := by first | exact se_of (fun _ _ h => nomatch h) | rfl) :
    PuV X W rs encL ex enc (true :: ks) (e :: es) ρ f (m >>= g) := by
  intro A B c H σ Dd Q r p hq
  refine (pa_cons pe_wp pa_wp hs).to ?_
  refine h.stepB hx r p fun c1 d v H1 k1 ⟨a, e1, h0, rc⟩ r1 p1 => ?_
  subst e1
  obtain ⟨f1, r2⟩ := r.gain k1 r1 h0 rc.trk
  have noj : Slot.jar a ∉ ρ := fun z => by
    obtain ⟨i, hi⟩ := mem_get z
    obtain ⟨o, q⟩ := r.dom a (r.jr i a hi).2.2.2
    rw [h0] at q; cases q
  refine h2 d A _ c1 H1 σ Dd (fun vs H2 => Q (.ref a :: vs) H2) r2 (PoB.from f1 p1) fun c' B' ds vs as H' fr sb kj r' ok p' => ?_
  have ka : ∀ o, H1 a = some o → H' a = some o := fun o z => kj a o (fun y => noj y.2) z
  have kk : Kept B' H1 H' := fun b o n e => fr.kept b o (fun z => n (sb b z.1)) e
  refine hq c' B' (d :: ds) (.ref a :: vs) (a :: as) H' (f1.trans fr) (fun b z => sb b (.inl z)) (fun b o n e => kj b o (fun z => ?_) (kj_of k1 b o n e)) r' ⟨rfl, ?_, h0, sb a (.inr rfl), fun z => r.nav h0 (r.sub a z), fun s hs e => ?_, ok.new rc.trk, ok.low fun b z => ?_⟩ p'
  · rcases z.1 with y | y
    · exact n ⟨y, z.2⟩
    · subst y; exact noj z.2
  · cases rc with
    | lst q1 q2 => exact .lst (ka _ q1) ((q2.more fr.new).keep kk)
    | dct e1 e2 q1 q2 q3 => exact .dct e1 e2 (q1.keep ka) ((q2.more fr.new).keep kk) ((q3.more fr.new).keep kk)
  · obtain ⟨i, hi⟩ := mem_get hs
    obtain ⟨o, q⟩ := r.dom a (r.at hi e).2.2
    rw [h0] at q; cases q
  · cases e : H b with
    | none => rfl
    | some o => obtain ⟨o', q⟩ := k1.there b o e; rw [z] at q; cases q
/-- an own object that no slot has yet -/
theorem RS.putA {i : Nat} {a : Addr} {d : D} (r : RS (gd X) A B c H σ ρ) (hi : i < ρ.length) (h : RpC (gd X) B H a d) (hB : B a) (hA : ¬ A a) (hn : ∀ s ∈ ρ, ownOf s ≠ some a) : RS (gd X) A B c H (σ.set i (some (.ref a))) (ρ.set i (.ce a d)) := by
  have hi' : i < σ.length := by rw [r.len]; exact hi
  have one : ∀ {k : Nat} {t : Slot}, ρ[k]? = some t → ownOf t = some a → False := fun {k t} z e => hn t (List.mem_of_getElem? z) e
  refine ⟨fun j e q => ?_, fun j b e q => ?_, fun j b q => ?_, fun j k b s t q1 q2 e1 e2 => ?_, r.sub, r.dom, (by rw [List.length_set, List.length_set]; exact r.len), r.cm⟩
  · rcases getE_set q with ⟨hji, z⟩ | ⟨hj, z⟩
    · rw [z]; trivial
    · rw [List.getElem?_set_ne (Ne.symm hj)]
      exact r.ro j e z
  · rcases getE_set q with ⟨rfl, z⟩ | ⟨hj, z⟩
    · cases z
      exact ⟨by rw [List.getElem?_set_self hi'], h, hA, hB⟩
    · obtain ⟨h1, h2, h3, h4⟩ := r.ce j b e z
      exact ⟨by rw [List.getElem?_set_ne (Ne.symm hj)]; exact h1, h2, h3, h4⟩
  · rcases getE_set q with ⟨rfl, z⟩ | ⟨hj, z⟩
    · cases z
    · obtain ⟨h1, h2, h3, h4⟩ := r.jr j b z
      exact ⟨by rw [List.getElem?_set_ne (Ne.symm hj)]; exact h1, h2, h3, h4⟩
  · rcases getE_set q1 with ⟨rfl, z⟩ | ⟨hj, z⟩
    · subst z; cases e1
      rcases getE_set q2 with ⟨rfl, z'⟩ | ⟨hk, z'⟩
      · rfl
      · exact (one z' e2).elim
    · rcases getE_set q2 with ⟨rfl, z'⟩ | ⟨hk, z'⟩
      · subst z'; cases e2; exact (one z e1).elim
      · exact r.inj j k b s t z z' e1 e2
@[reducible] def slk : Bool → Addr → D → Slot
  | true, a, d => .ce a d
  | false, _, d => .pu d
theorem mem_set {l : Ev} {i : Nat} {x s : Slot} (h : s ∈ l.set i x) : s = x ∨ s ∈ l := (List.mem_or_eq_of_mem_set h).symm
/-- a value into a slot -/
theorem Vs.put {G : Gd} {H0 : Hp} {kk : Bool} {ks : List Bool} {v : V} {vs : List V} {d : D} {ds : List D} {as : List Addr} {ρ0 : Ev} {i : Nat} (ok : Vs (gd X) A B H0 H ρ0 (kk :: ks) (v :: vs) (d :: ds) as) (r : RS (gd X) A B c H σ ρ) (hi : i < ρ.length) (hρ : ∀ s ∈ ρ, s ∈ ρ0 ∨ ∀ a, ownOf s = some a → a ∉ as) :
    ∃ a as', RS (gd X) A B c H (σ.set i (some v)) (ρ.set i (slk kk a d)) ∧ Vs (gd X) A B H0 H ρ0 ks vs ds as' ∧ ∀ s ∈ ρ.set i (slk kk a d), s ∈ ρ0 ∨ ∀ a, ownOf s = some a → a ∉ as' := by
  cases kk with
  | false =>
    refine ⟨0, as, r.put hi ok.1, ok.2, fun s hs => ?_⟩
    rcases mem_set hs with rfl | z
    · exact .inr fun a e => (by cases e)
    · exact hρ s z
  | true =>
    cases as with
    | nil => exact False.elim ok
    | cons a as =>
      obtain ⟨rfl, h1, h2, h3, h4, h5, h6, h7⟩ := ok
      refine ⟨a, as, r.putA hi h1 h3 h4 (fun s hs e => ?_), h7, fun s hs => ?_⟩
      · rcases hρ s hs with z | z
        · exact h5 s z e
        · exact z a e (List.mem_cons_self ..)
      · rcases mem_set hs with rfl | z
        · exact .inr fun b e => (by cases e; exact h6)
        · exact (hρ s z).imp id fun y b e w => y b e (List.mem_cons_of_mem _ w)
theorem b_parV (i j : Nat) {x y : Str} {e1 e2 : Expr} {k1 k2' : Bool} {px py pt : Pos} {kt k2 pt2} {f : List D → R (Fl α γ β)} (F : Fx X W k) (h : PuV X W rs encL ex enc [k1, k2'] [e1, e2] ρ f mm)
    (h2 : ∀ a b c d, PuB X W rs encL ex rest ((ρ.set i (slk k1 a c)).set j (slk k2' b d)) enc (f [c, d]))
    (hi : i < ρ.length := by simp) (hj : j < ρ.length := by simp) (hij : i ≠ j := by decide) (hN : X.N[i]? = some x := by rfl) (hM : X.N[j]? = some y := by rfl)
    (hlx : X.env.scope.names.lookup x = some .local := by rfl) (hly : X.env.scope.names.lookup y = some .local := by rfl)
    (hw : swappedStores [.Tuple [.Name x px, .Name y py] kt pt] (.Tuple [e1, e2] k2 pt2) X.env = pure (some [x, y]) := by rfl)
    (hs : swapsWithSole [.Tuple [.Name x px, .Name y py] kt pt] (.Tuple [e1, e2] k2 pt2) pos.line X.env = pure false := by rfl) :
    PuB X W rs encL ex (.Assign [.Tuple [.Name x px, .Name y py] kt pt] (.Tuple [e1, e2] k2 pt2) pos :: rest) ρ enc mm := by
  intro A B c0 H σ Dd r p
  refine (pss_cons (ps_par F.calm F.nd hN hM hij hlx hly pa_wp hw hs) pb_wp).to ?_
  refine h A B c0 H σ Dd _ r p fun c' B' ds vs as H' fr sb kj r' ok p' => ?_
  obtain ⟨l1, l2⟩ := ok.len
  match vs, ds, l1, l2, ok with
  | [v, w], [c, d], _, _, ok =>
    obtain ⟨a, as1, r1, ok1, hρ1⟩ := ok.put (G := gd X) r' hi (fun s z => .inl z)
    obtain ⟨b, as2, r2, ok2, hρ2⟩ := ok1.put (G := gd X) r1 (i := j) (by rw [List.length_set]; exact hj) hρ1
    exact ⟨v, w, rfl, h2 a b c d A B' c' H' _ Dd r2 p'⟩
theorem b_parV3 (i j l : Nat) {x y z : Str} {e1 e2 e3 : Expr} {k1 k2' k3 : Bool} {px py pz pt : Pos} {kt k2 pt2} {f : List D → R (Fl α γ β)} (F : Fx X W k) (h : PuV X W rs encL ex enc [k1, k2', k3] [e1, e2, e3] ρ f mm)
    (h2 : ∀ a b g c d e, PuB X W rs encL ex rest (((ρ.set i (slk k1 a c)).set j (slk k2' b d)).set l (slk k3 g e)) enc (f [c, d, e]))
    (hi : i < ρ.length := by simp) (hj : j < ρ.length := by simp) (hl : l < ρ.length := by simp) (hij : i ≠ j := by decide) (hil : i ≠ l := by decide) (hjl : j ≠ l := by decide) (hN : X.N[i]? = some x := by rfl) (hM : X.N[j]? = some y := by rfl) (hL : X.N[l]? = some z := by rfl)
    (hlx : X.env.scope.names.lookup x = some .local := by rfl) (hly : X.env.scope.names.lookup y = some .local := by rfl) (hlz : X.env.scope.names.lookup z = some .local := by rfl)
    (hw : swappedStores [.Tuple [.Name x px, .Name y py, .Name z pz] kt pt] (.Tuple [e1, e2, e3] k2 pt2) X.env = pure (some [x, y, z]) := by rfl)
    (hs : swapsWithSole [.Tuple [.Name x px, .Name y py, .Name z pz] kt pt] (.Tuple [e1, e2, e3] k2 pt2) pos.line X.env = pure false := by rfl) :
    PuB X W rs encL ex (.Assign [.Tuple [.Name x px, .Name y py, .Name z pz] kt pt] (.Tuple [e1, e2, e3] k2 pt2) pos :: rest) ρ enc mm := by
  intro A B c0 H σ Dd r p
  refine (pss_cons (ps_par3 F.calm F.nd hN hM hL hij hil hjl hlx hly hlz pa_wp hw hs) pb_wp).to ?_
  refine h A B c0 H σ Dd _ r p fun c' B' ds vs as H' fr sb kj r' ok p' => ?_
  obtain ⟨l1, l2⟩ := ok.len
  match vs, ds, l1, l2, ok with
  | [v, w, u], [c, d, e], _, _, ok =>
    obtain ⟨a, as1, r1, ok1, hρ1⟩ := ok.put (G := gd X) r' hi (fun s z => .inl z)
    obtain ⟨b, as2, r2, ok2, hρ2⟩ := ok1.put (G := gd X) r1 (i := j) (by rw [List.length_set]; exact hj) hρ1
    obtain ⟨g, as3, r3, ok3, hρ3⟩ := ok2.put (G := gd X) r2 (i := l) (by rw [List.length_set, List.length_set]; exact hl) hρ2
    exact ⟨v, w, u, rfl, h2 a b g c d e A B' c' H' _ Dd r3 p'⟩
theorem b_bad : PuB X W rs encL ex sts ρ enc (.bad : R (Fl α γ β)) := fun A B c H σ Dd r p => p.bad.elim
end
end Pu

set_option maxHeartbeats 2000000
/-! P22: x = [..] on one line -/
namespace Pu
open PySem PySem.Spec L2
section
variable {X : Cx} {W : WX} {k : Nat} {α δ γ β : Type} {rs : Rsp β} {encL : γ → Ev} {ex ρ : Ev} {enc : α → Ev} {rest sts : List Stmt} {pos spos : Pos}
theorem b_setLc (j : Nat) {y : Str} {py : Pos} {T : Type} {sl : List Nat} {own : List (Str × Nat)} {dec : D → Option T} {env : T → Ev → Ev} {mt : T → R Bool} {me : T → R D} {mi : R (List D)} {elt tg iter : Expr} {ifs : List Expr} {scope : Scope} {f : D → R (Fl α γ β)} (L : Lv X) (hN : X.N.Nodup)
    (ok : BlkOk X.N X.env.scope scope own) (hi : PuI X W tg iter ρ mi) (hg : Blk X scope fun Y => PuG Y tg sl dec env) (hsl : ∀ i ∈ sl, i ∈ own.map (·.2)) (hlen : ∀ i ∈ own.map (·.2), i < ρ.length)
    (ht : ∀ t, Blk X scope fun Y => PuTs Y W0 ifs (env t (wipeE ρ (own.map (·.2)))) (mt t)) (he : ∀ t, Blk X scope fun Y => PuE Y W0 elt (env t (wipeE ρ (own.map (·.2)))) (me t))
    (hk : ∀ t, KeepEv sl (env t)) (hno : ∀ i, i ∈ own.map (·.2) → ∀ s, ρ[i]? = some s → ownOf s = none) (hx : Wk ρ ex) (h2 : ∀ d, PuB X W rs encL ex rest (ρ.set j (.pu d)) enc (f d))
    (hj : j < ρ.length := by simp) (hy : X.N[j]? = some y := by rfl) (hyl : X.env.scope.names.lookup y = some .local := by rfl)
    (hsw : swapsWith (.ListComp elt [⟨tg, iter, ifs, 0⟩] scope pos) (some (.Name y py)) spos.line X.env = pure true := by rfl)
    (hfs : ∀ x, foldedSetIterable iter X.env x = pure x := by intro _; rfl) :
    PuB X W rs encL ex (.Assign [.Name y py] (.ListComp elt [⟨tg, iter, ifs, 0⟩] scope pos) spos :: rest) ρ enc ((do let xs ← mi; let ys ← lcD dec mt me xs; R.ok (.list ys)) >>= f) := by
  intro A B c H σ Dd r p
  refine (pss_cons (ps_setLc (g := bG X scope tg) (tt := bT X scope ifs) (te := bE X scope elt) L.calm hN hy hyl hsw pi_wp ok (fun s H C cl fp => ⟨fun pins s' σ' H' v u Q' I rv h => (h s H C cl fp).h pins s' u I rv⟩) (fun s H C cl fp => ⟨fun pins s' σ' H' Q' I h => (h s H C cl fp).h pins s' I⟩) (fun s H C cl fp => ⟨fun pins s' σ' H' Q' I h => (h s H C cl fp).h pins s' I⟩) hfs) pb_wp).to ?_
  refine (lc_read hi hg hsl hlen ht he hk hno r (Q := fun v H1 => gName j v σ H1 fun σ' H' => wpB X rest Dd σ' H') ?_ : tLc (wpI X tg iter) (bG X scope tg) (bT X scope ifs) (bE X scope elt) (own.map (·.2)) σ H _)
  exact Po.mono (fun c' d q v H' k r' rp => h2 d A B c' H' _ Dd (r'.put hj rp) (PoB.from (Fr.kx (k.ofj r)) q)) (fun c' x d q cls dx H' k r' y => q cls dx B σ H' (Fr.kx (k.ofj r)) (r'.wk hx) y) (Po.bind p)
end
end Pu
namespace Pu
open PySem PySem.Spec L2
section
variable {X : Cx} {W : WX} {k : Nat} {α δ γ β : Type} {rs : Rsp β} {encL : γ → Ev} {ex ρ : Ev} {enc : α → Ev} {rest sts : List Stmt} {pos spos : Pos} {mm : R (Fl α γ β)} {A B : Addr → Prop} {H H1 : Hp}
theorem Vs.same {G : Gd} {H0 : Hp} (s : Same H H1) : ∀ {ks : List Bool} {vs : List V} {ds : List D} {as : List Addr}, Vs G A B H0 H ρ ks vs ds as → Vs G A B H0 H1 ρ ks vs ds as
  | [], [], [], [], h => h
  | false :: ks, v :: vs, d :: ds, as, h => ⟨h.1.keep (Same.kept s), Vs.same s h.2⟩
  | true :: ks, v :: vs, d :: ds, a :: as, h => ⟨h.1, h.2.1.keep (Same.kept s) (fun o e => s _ _ e), h.2.2.1, h.2.2.2.1, h.2.2.2.2.1, h.2.2.2.2.2.1, h.2.2.2.2.2.2.1, Vs.same s h.2.2.2.2.2.2.2⟩
  | [], _ :: _, _, _, h => by cases h
  | [], [], _ :: _, _, h => by cases h
  | [], [], [], _ :: _, h => by cases h
  | false :: _, [], _, _, h => by cases h
  | false :: _, _ :: _, [], _, h => by cases h
  | true :: _, [], _, _, h => by cases h
  | true :: _, _ :: _, [], _, h => by cases h
  | true :: _, _ :: _, _ :: _, [], h => by cases h
theorem b_parU (i j : Nat) {x y : Str} {e1 e2 : Expr} {k1 k2' : Bool} {px py pt : Pos} {kt k2 pt2} {f : List D → R (Fl α γ β)} (F : Fx X W k) (h : PuV X W rs encL ex enc [k1, k2'] [e1, e2] ρ f mm)
    (h2 : ∀ a b c d, PuB X W rs encL ex rest ((ρ.set i (slk k1 a c)).set j (slk k2' b d)) enc (f [c, d]))
    (hi : i < ρ.length := by simp) (hj : j < ρ.length := by simp) (hN : X.N[i]? = some x := by rfl) (hM : X.N[j]? = some y := by rfl)
    (hlx : Loc X.env.scope x := by first | exact Or.inl rfl | exact Or.inr rfl) (hly : Loc X.env.scope y := by first | exact Or.inl rfl | exact Or.inr rfl)
    (hfx : X.fn x = true ∨ X.env.scope.names.lookup x = some .local := by first | exact .inl rfl | exact .inr rfl | assumption) (hfy : X.fn y = true ∨ X.env.scope.names.lookup y = some .local := by first | exact .inl rfl | exact .inr rfl | assumption)
    (hw : swappedStores [.Tuple [.Name x px, .Name y py] kt pt] (.Tuple [e1, e2] k2 pt2) X.env = pure none := by rfl)
    (hs : swapsWithSole [.Tuple [.Name x px, .Name y py] kt pt] (.Tuple [e1, e2] k2 pt2) pos.line X.env = pure false := by rfl)
    (h1 : (assignEach [.Tuple [.Name x px, .Name y py] kt pt] X.env).map (·.2) = [assign (.Tuple [.Name x px, .Name y py] kt pt) X.env] := by rfl)
    (ha : (assignEach [.Name x px, .Name y py] X.env).map (·.2) = assign (.Name x px) X.env :: (assignEach [.Name y py] X.env).map (·.2) := by rfl) (hb : (assignEach [.Name y py] X.env).map (·.2) = assign (.Name y py) X.env :: (assignEach [] X.env).map (·.2) := by rfl)
    (hn : (assignEach [.Name x px, .Name y py] X.env).length = 2 := by rfl) (hst : (assignEach [.Name x px, .Name y py] X.env).findIdx? (·.1) = none := by rfl) :
    PuB X W rs encL ex (.Assign [.Tuple [.Name x px, .Name y py] kt pt] (.Tuple [e1, e2] k2 pt2) pos :: rest) ρ enc mm := by
  intro A B c0 H σ Dd r p
  refine (pss_cons (ps_asg (pe_tup pa_wp) (pg_tup F.calm (pgs_cons (pg_name F.nd hN hlx hfx) (pgs_cons (pg_name F.nd hM hly hfy) pgs_nil hb) ha) hn hst) hs hw h1) pb_wp).to ?_
  refine h A B c0 H σ Dd _ r p fun c' B' ds vs as H' fr sb kj r' ok p' => ?_
  obtain ⟨l1, l2⟩ := ok.len
  match vs, ds, l1, l2, ok with
  | [v, w], [c, d], _, _, ok =>
    refine ⟨by simp [line_eq]; decide, fun q hq => ?_⟩
    have sm := same_upd (o := HO.tup [v, w]) hq
    obtain ⟨a, as1, r1, ok1, hρ1⟩ := (ok.same sm).put (G := gd X) (r'.ext sm) hi (fun s z => .inl z)
    obtain ⟨b, as2, r2, ok2, hρ2⟩ := ok1.put (G := gd X) r1 (i := j) (by rw [List.length_set]; exact hj) hρ1
    refine ⟨q, [v, w], rfl, .of upd_same, rfl, v, [w], rfl, ?_⟩
    refine ⟨w, [], rfl, rfl, ?_⟩
    exact h2 a b c d A B' c' _ _ Dd r2 (PoB.from (Fr.same sm) p')
theorem b_parU3 (i j l : Nat) {x y z : Str} {e1 e2 e3 : Expr} {k1 k2' k3 : Bool} {px py pz pt : Pos} {kt k2 pt2} {f : List D → R (Fl α γ β)} (F : Fx X W k) (h : PuV X W rs encL ex enc [k1, k2', k3] [e1, e2, e3] ρ f mm)
    (h2 : ∀ a b g c d e, PuB X W rs encL ex rest (((ρ.set i (slk k1 a c)).set j (slk k2' b d)).set l (slk k3 g e)) enc (f [c, d, e]))
    (hi : i < ρ.length := by simp) (hj : j < ρ.length := by simp) (hl : l < ρ.length := by simp) (hN : X.N[i]? = some x := by rfl) (hM : X.N[j]? = some y := by rfl) (hL : X.N[l]? = some z := by rfl)
    (hlx : Loc X.env.scope x := by first | exact Or.inl rfl | exact Or.inr rfl) (hly : Loc X.env.scope y := by first | exact Or.inl rfl | exact Or.inr rfl) (hlz : Loc X.env.scope z := by first | exact Or.inl rfl | exact Or.inr rfl)
    (hfx : X.fn x = true ∨ X.env.scope.names.lookup x = some .local := by first | exact .inl rfl | exact .inr rfl | assumption) (hfy : X.fn y = true ∨ X.env.scope.names.lookup y = some .local := by first | exact .inl rfl | exact .inr rfl | assumption) (hfz : X.fn z = true ∨ X.env.scope.names.lookup z = some .local := by first | exact .inl rfl | exact .inr rfl | assumption)
    (hw : swappedStores [.Tuple [.Name x px, .Name y py, .Name z pz] kt pt] (.Tuple [e1, e2, e3] k2 pt2) X.env = pure none := by rfl)
    (hs : swapsWithSole [.Tuple [.Name x px, .Name y py, .Name z pz] kt pt] (.Tuple [e1, e2, e3] k2 pt2) pos.line X.env = pure false := by rfl)
    (h1 : (assignEach [.Tuple [.Name x px, .Name y py, .Name z pz] kt pt] X.env).map (·.2) = [assign (.Tuple [.Name x px, .Name y py, .Name z pz] kt pt) X.env] := by rfl)
    (ha : (assignEach [.Name x px, .Name y py, .Name z pz] X.env).map (·.2) = assign (.Name x px) X.env :: (assignEach [.Name y py, .Name z pz] X.env).map (·.2) := by rfl) (hb : (assignEach [.Name y py, .Name z pz] X.env).map (·.2) = assign (.Name y py) X.env :: (assignEach [.Name z pz] X.env).map (·.2) := by rfl)
    (hc : (assignEach [.Name z pz] X.env).map (·.2) = assign (.Name z pz) X.env :: (assignEach [] X.env).map (·.2) := by rfl)
    (hn : (assignEach [.Name x px, .Name y py, .Name z pz] X.env).length = 3 := by rfl) (hst : (assignEach [.Name x px, .Name y py, .Name z pz] X.env).findIdx? (·.1) = none := by rfl) :
    PuB X W rs encL ex (.Assign [.Tuple [.Name x px, .Name y py, .Name z pz] kt pt] (.Tuple [e1, e2, e3] k2 pt2) pos :: rest) ρ enc mm := by
  intro A B c0 H σ Dd r p
  refine (pss_cons (ps_asg (pe_tup pa_wp) (pg_tup F.calm (pgs_cons (pg_name F.nd hN hlx hfx) (pgs_cons (pg_name F.nd hM hly hfy) (pgs_cons (pg_name F.nd hL hlz hfz) pgs_nil hc) hb) ha) hn hst) hs hw h1) pb_wp).to ?_
  refine h A B c0 H σ Dd _ r p fun c' B' ds vs as H' fr sb kj r' ok p' => ?_
  obtain ⟨l1, l2⟩ := ok.len
  match vs, ds, l1, l2, ok with
  | [v, w, u], [c, d, e], _, _, ok =>
    refine ⟨by simp [line_eq]; decide, fun q hq => ?_⟩
    have sm := same_upd (o := HO.tup [v, w, u]) hq
    obtain ⟨a, as1, r1, ok1, hρ1⟩ := (ok.same sm).put (G := gd X) (r'.ext sm) hi (fun s z => .inl z)
    obtain ⟨b, as2, r2, ok2, hρ2⟩ := ok1.put (G := gd X) r1 (i := j) (by rw [List.length_set]; exact hj) hρ1
    obtain ⟨g, as3, r3, ok3, hρ3⟩ := ok2.put (G := gd X) r2 (i := l) (by rw [List.length_set, List.length_set]; exact hl) hρ2
    refine ⟨q, [v, w, u], rfl, .of upd_same, rfl, v, [w, u], rfl, ?_⟩
    refine ⟨w, [u], rfl, ?_⟩
    refine ⟨u, [], rfl, rfl, ?_⟩
    exact h2 a b g c d e A B' c' _ _ Dd r3 (PoB.from (Fr.same sm) p')
end
end Pu

set_option maxHeartbeats 2000000
/-! P23: own objects are lent out for some statements: x = f(own); a, b = x[..]; then the own ones are changed again -/
namespace Pu
open PySem PySem.Spec L2
@[simp] theorem frzE_nil : frzE [] = [] := rfl
@[simp] theorem frzE_cons (s : Slot) (ρ : Ev) : frzE (s :: ρ) = frzS s :: frzE ρ := rfl
@[simp] theorem frzS_jar (a : Addr) : frzS (.jar a) = .jar a := rfl
@[simp] theorem frzS_pu (d : D) : frzS (.pu d) = .pu d := rfl
@[simp] theorem frzS_ce (a : Addr) (d : D) : frzS (.ce a d) = .pu d := rfl
@[simp] theorem frzS_no : frzS .no = .no := rfl
mutual
/-- no list, no dict anywhere -/
def noLst : D → Bool
  | .tuple xs => noLsts xs
  | .list _ => false
  | .dict _ => false
  | _ => true
def noLsts : List D → Bool
  | [] => true
  | x :: xs => noLst x && noLsts xs
end
section
variable {G : Gd} {A B B0 : Addr → Prop} {c c' : Nat} {H H' : Hp} {σ σ0 : L2.St} {ρ ρ0 : Ev}
def isCon (H : Hp) (b : Addr) : Prop := (∃ xs, H b = some (.lst xs)) ∨ (∃ k, H b = some (.dK k)) ∨ ∃ z, H b = some (.ext z)
theorem con_tup {K : PySem.W.Frag} {b : Addr} {xs : List V} (h : isCon H b) (s : SqT K H b xs) : KST K b xs := by
  rcases s with (s | ⟨o, s⟩) | s
  · rcases h with ⟨_, h⟩ | ⟨_, h⟩ | ⟨_, h⟩ <;> rw [h] at s <;> cases s
  · rcases h with ⟨_, h⟩ | ⟨_, h⟩ | ⟨_, h⟩ <;> rw [h] at s <;> cases s
  · exact s
mutual
theorem Rp.thin (k : ∀ b, B b → B0 b ∨ isCon H b) : ∀ {v : V} {d : D}, Rp G B0 H v d → noLst d = true → Rp G B H v d
  | _, _, .non, _ => .non
  | _, _, .bl b, _ => .bl b
  | _, _, .int i, _ => .int i
  | _, _, .str x, _ => .str x
  | _, _, .lst .., h => by simp [noLst] at h
  | _, _, @Rp.tup _ _ _ a xs ds na s r, h => .tup (by
      rcases na with na | q
      · by_cases z : B a
        · rcases k a z with y | y
          · exact absurd y na
          · exact .inr (con_tup y s)
        · exact .inl z
      · exact .inr q) s (RpAll.thin k r (by simpa [noLst] using h))
  | _, _, .dct .., h => by simp [noLst] at h
theorem RpAll.thin (k : ∀ b, B b → B0 b ∨ isCon H b) : ∀ {vs : List V} {ds : List D}, RpAll G B0 H vs ds → noLsts ds = true → RpAll G B H vs ds
  | _, _, .nil, _ => .nil
  | _, _, .cons r t, h => by
    simp only [noLsts, Bool.and_eq_true] at h
    exact .cons (Rp.thin k r h.1) (RpAll.thin k t h.2)
end
theorem RS.con (r : RS G A B c H σ ρ) (b : Addr) (hb : B b) : Bp B ρ b ∨ isCon H b := by
  by_cases h : ∃ d, Slot.ce b d ∈ ρ
  · obtain ⟨d, hd⟩ := h
    obtain ⟨i, hi⟩ := mem_get hd
    obtain ⟨s1, s2, _⟩ := r.ce i b d hi
    cases s2 with
    | lst e _ => exact .inr (.inl ⟨_, e⟩)
    | dct _ _ e _ _ =>
      rcases e with ⟨_, e, _⟩ | ⟨_, e, _⟩
      · exact .inr (.inr (.inl ⟨_, e⟩))
      · exact .inr (.inr (.inr ⟨_, e⟩))
  · exact .inl ⟨hb, h⟩
/-- the jars are where they were -/
structure Jx (ρ0 ρ : Ev) : Prop where
  to : ∀ (i : Nat) (a : Addr), ρ0[i]? = some (.jar a) → ρ[i]? = some (.jar a)
  back : ∀ a, Slot.jar a ∈ ρ → Slot.jar a ∈ ρ0
  len : ρ.length = ρ0.length
theorem RS.unlend (r : RS G A B c H σ0 ρ0) (j : Jx ρ0 ρ) (k : Kx (Aj (Bp B ρ0) ρ) (Bp B ρ0) H H') (r' : RS G (Ap B ρ0) (Bp B ρ0) c' H' σ ρ) : Kx (Aj B ρ0) B H H' ∧ RS G A B c' H' σ0 ρ0 := by
  have kp : ∀ b o, Slot.jar b ∉ ρ0 → H b = some o → H' b = some o := fun b o n e => k.kept b o (fun z => z.2 ⟨z.1, fun y => n (j.back b y)⟩) e
  have kB : Kept B H H' := fun b o n e => k.kept b o (fun z => n z.1.1) e
  refine ⟨⟨fun b o n e => kp b o (fun z => ?_) e, k.there⟩, ⟨fun i s h => (r.ro i s h).keep kB, fun i a d h => ?_, fun i a h => ?_, r.inj, r.sub, fun b z => ?_, r.len, r'.cm⟩⟩
  · obtain ⟨i, hi⟩ := mem_get z
    exact n ⟨(r.jr i b hi).2.2.2, fun y => y.2 z⟩
  · obtain ⟨s1, s2, s3, s4⟩ := r.ce i a d h
    refine ⟨s1, s2.keep kB fun o z => kp a o (fun y => ?_) z, s3, s4⟩
    obtain ⟨j, hj⟩ := mem_get y
    have := r.inj i j a _ _ h hj rfl rfl
    subst this
    rw [h] at hj; cases hj
  · obtain ⟨s1, s2, s3, s4⟩ := r.jr i a h
    exact ⟨s1, (r'.jr i a (j.to i a h)).2.1, s3, s4⟩
  · obtain ⟨o, q⟩ := r.dom b z
    exact k.there b o q
/-- the same knowledge of a store that is another one at sl -/
theorem RS.agree (r : RS G A B c H σ0 ρ0) {sl : List Nat} (hl : σ.length = σ0.length) (h : ∀ i, i ∉ sl → σ[i]? = σ0[i]?) (hn : ∀ i ∈ sl, ∀ s, ρ0[i]? = some s → s = .no) : RS G A B c H σ ρ0 := by
  have eq : ∀ (i : Nat) (s : Slot), ρ0[i]? = some s → s = .no ∨ σ[i]? = σ0[i]? := fun i s e => by
    by_cases z : i ∈ sl
    · exact .inl (hn i z s e)
    · exact .inr (h i z)
  refine ⟨fun i s e => ?_, fun i a d e => ?_, fun i a e => ?_, r.inj, r.sub, r.dom, hl.trans r.len, r.cm⟩
  · rcases eq i s e with z | z
    · subst z; trivial
    · rw [z]; exact r.ro i s e
  · rcases eq i _ e with z | z
    · cases z
    · rw [z]; exact r.ce i a d e
  · rcases eq i _ e with z | z
    · cases z
    · rw [z]; exact r.jr i a e
theorem RS.tell (r : RS G A B c H σ ρ) {i : Nat} {v : V} {d : D} (hv : σ[i]? = some (some v)) (h : Rp G B H v d) : RS G A B c H σ (ρ.set i (.pu d)) := by
  refine ⟨fun j e q => ?_, fun j a e q => ?_, fun j a q => ?_, fun j k a s t q1 q2 e1 e2 => ?_, r.sub, r.dom, (by rw [List.length_set]; exact r.len), r.cm⟩
  · rcases getE_set q with ⟨rfl, z⟩ | ⟨hj, z⟩
    · subst z; exact ⟨v, hv, h⟩
    · exact r.ro j e z
  · rcases getE_set q with ⟨rfl, z⟩ | ⟨hj, z⟩
    · cases z
    · exact r.ce j a e z
  · rcases getE_set q with ⟨rfl, z⟩ | ⟨hj, z⟩
    · cases z
    · exact r.jr j a z
  · rcases getE_set q1 with ⟨rfl, z⟩ | ⟨hj, z⟩
    · subst z; cases e1
    · rcases getE_set q2 with ⟨rfl, z'⟩ | ⟨hk, z'⟩
      · subst z'; cases e2
      · exact r.inj j k a s t z z' e1 e2
end
section
variable {X : Cx} {W : WX} {k : Nat} {α δ γ β : Type} {rs : Rsp β} {encL : γ → Ev} {ex ρ ρ0 : Ev} {enc : α → Ev} {rest sts : List Stmt} {pos : Pos} {e : Expr} {m : R D} {mm : R (Fl α γ β)} {sl : List Nat}
/-- a block in which the own objects of ρ0 are read alone; sl: the slots that it has set -/
def PuF (X : Cx) (W : WX) {α γ β : Type} (rs : Rsp β) (encL : γ → Ev) (ex : Ev) (ρ0 : Ev) (sl : List Nat) (sts : List Stmt) (ρ : Ev) (enc : α → Ev) (m : R (Fl α γ β)) : Prop :=
  ∀ (A B : Addr → Prop) (c : Nat) (H : Hp) (σ0 σ : L2.St) (Dd : Ends), RS (gd X) A B c H σ0 ρ0 → RS (gd X) (Ap B ρ0) (Bp B ρ0) c H σ ρ → (∀ i, i ∉ sl → σ[i]? = σ0[i]?) → Jx ρ0 ρ → PoB X W rs encL ex enc A B c H m Dd → wpB X sts Dd σ H
theorem f_enter (h : PuF X W rs encL ex ρ [] sts (frzE ρ) enc mm) : PuB X W rs encL ex sts ρ enc mm := fun A B c H σ Dd r p =>
  h A B c H σ σ Dd r r.peek (fun _ _ => rfl) ⟨fun i a e => by unfold frzE; rw [List.getElem?_map, e]; rfl, fun a z => frz_jar z, by unfold frzE; rw [List.length_map]⟩ p
def exNo (ex : Ev) (sl : List Nat) : Bool := sl.all fun i => match ex[i]? with
  | some .no => true
  | none => true
  | _ => false
theorem exNo_of {ex : Ev} {sl : List Nat} (h : exNo ex sl = true) : ∀ i ∈ sl, ∀ s, ex[i]? = some s → s = .no := fun i hi s e => by
  have := List.all_eq_true.mp h i hi
  rw [e] at this
  cases s <;> first | rfl | cases this
/-- an expression in such a block -/
theorem PuE.stepF {f : D → R (Fl α γ β)} (h : PuE X W e ρ m) (hx : Wk ρ0 ex) (hs : exNo ex sl = true) {A B : Addr → Prop} {c : Nat} {H : Hp} {σ0 σ : L2.St} {Dd : Ends} (r0 : RS (gd X) A B c H σ0 ρ0) (r : RS (gd X) (Ap B ρ0) (Bp B ρ0) c H σ ρ)
    (ha : ∀ i, i ∉ sl → σ[i]? = σ0[i]?) (j : Jx ρ0 ρ) {Q : VK} (p : PoB X W rs encL ex enc A B c H (R.flx m >>= f) Dd)
    (hq : ∀ c' d v H', RS (gd X) A B c' H' σ0 ρ0 → RS (gd X) (Ap B ρ0) (Bp B ρ0) c' H' σ ρ → Rp (gd X) (Bp B ρ0) H' v d → PoB X W rs encL ex enc A B c' H' (f d) Dd → Q v H') : wpE X e σ H Q := by
  refine h _ _ c H σ Q r (Po.mono (fun c' d q v H' k r' rv => ?_) (fun c' x d q cls dx H' k r' y => ?_) (Po.flx (Po.bind p)))
  · obtain ⟨k2, r2⟩ := r0.unlend j k r'
    exact hq c' d v H' r2 r' rv (PoB.from (Fr.kx (k2.ofj r0)) q)
  · obtain ⟨k2, r2⟩ := r0.unlend j k r'
    exact q.2 cls dx B σ H' (Fr.kx (k2.ofj r0)) ((r2.wk hx).agree (by rw [r'.len, r2.len, j.len]) ha (exNo_of hs)) (ExM.unpeek (A := A) (c := c) (H := H) r2 q.1 y)
theorem PuT.stepF {t : R Bool} {f : Bool → R (Fl α γ β)} (h : PuT X W e ρ t) (hx : Wk ρ0 ex) (hs : exNo ex sl = true) {A B : Addr → Prop} {c : Nat} {H : Hp} {σ0 σ : L2.St} {Dd : Ends} (r0 : RS (gd X) A B c H σ0 ρ0) (r : RS (gd X) (Ap B ρ0) (Bp B ρ0) c H σ ρ)
    (ha : ∀ i, i ∉ sl → σ[i]? = σ0[i]?) (j : Jx ρ0 ρ) {Q : Bool → Hp → Prop} (p : PoB X W rs encL ex enc A B c H (R.flx t >>= f) Dd)
    (hq : ∀ c' b H', RS (gd X) A B c' H' σ0 ρ0 → RS (gd X) (Ap B ρ0) (Bp B ρ0) c' H' σ ρ → PoB X W rs encL ex enc A B c' H' (f b) Dd → Q b H') : wpT X e σ H Q := by
  refine h _ _ c H σ Q r (Po.mono (fun c' d q v H' k r' rv => ?_) (fun c' x d q cls dx H' k r' y => ?_) (Po.flx (Po.bind p)))
  · obtain ⟨k2, r2⟩ := r0.unlend j k r'
    have rv : v = d := rv
    subst rv
    exact hq c' v H' r2 r' (PoB.from (Fr.kx (k2.ofj r0)) q)
  · obtain ⟨k2, r2⟩ := r0.unlend j k r'
    exact q.2 cls dx B σ H' (Fr.kx (k2.ofj r0)) ((r2.wk hx).agree (by rw [r'.len, r2.len, j.len]) ha (exNo_of hs)) (ExM.unpeek (A := A) (c := c) (H := H) r2 q.1 y)
theorem Jx.set {i : Nat} {d : D} (j : Jx ρ0 ρ) (h : ∀ a, ρ0[i]? ≠ some (.jar a)) : Jx ρ0 (ρ.set i (.pu d)) := ⟨fun l a e => by
  rw [List.getElem?_set_ne]
  · exact j.to l a e
  · intro z; subst z; exact h a e, fun a z => by
  obtain ⟨l, hl⟩ := mem_get z
  rcases getE_set hl with ⟨_, y⟩ | ⟨_, y⟩
  · cases y
  · exact j.back a (List.mem_of_getElem? y), by rw [List.length_set]; exact j.len⟩
def noJar (ρ0 : Ev) (i : Nat) : Bool := match ρ0[i]? with
  | some (.jar _) => false
  | _ => true
theorem noJar_of {i : Nat} (h : noJar ρ0 i = true) : ∀ a, ρ0[i]? ≠ some (.jar a) := fun a e => by
  unfold noJar at h
  rw [e] at h
  cases h
/-- x = e -/
theorem f_set (i : Nat) {x : Str} {px : Pos} {f : D → R (Fl α γ β)} (nd : X.N.Nodup) (h : PuE X W e ρ m) (hx : Wk ρ0 ex) (h2 : ∀ d, PuF X W rs encL ex ρ0 (i :: sl) rest (ρ.set i (.pu d)) enc (f d)) (hs : exNo ex sl = true := by rfl) (hj : noJar ρ0 i = true := by rfl) (hi : i < ρ.length := by simp) (hN : X.N[i]? = some x := by rfl)
    (hl : Loc X.env.scope x := by first | exact Or.inl rfl | exact Or.inr rfl) (hsw : swapsWith e (some (.Name x px)) pos.line X.env = pure false := by rfl)
    (hf : X.fn x = true ∨ X.env.scope.names.lookup x = some .local := by first | exact .inl rfl | exact .inr rfl | assumption) : PuF X W rs encL ex ρ0 sl (.Assign [.Name x px] e pos :: rest) ρ enc (R.flx m >>= f) := by
  intro A B c H σ0 σ Dd r0 r ha j p
  refine (pss_cons (ps_set nd hN hl pe_wp hsw hf) pb_wp).to ?_
  refine h.stepF hx hs r0 r ha j p fun c' d v H' r0' r' rv p' => h2 d A B c' H' σ0 _ Dd r0' (r'.put hi rv) (fun l hl => ?_) (j.set (noJar_of hj)) p'
  rw [List.getElem?_set_ne (fun z => hl (by subst z; exact List.mem_cons_self ..))]
  exact ha l fun z => hl (List.mem_cons_of_mem _ z)
theorem f_tgt {tg : Expr} {T : Type} {sl2 : List Nat} {dec : D → Option T} {env : T → Ev → Ev} {f : T → R (Fl α γ β)} (h : PuE X W e ρ m) (hx : Wk ρ0 ex) (hg : PuG X tg sl2 dec env) (hk : ∀ t, KeepEv sl2 (env t)) (h2 : ∀ t, PuF X W rs encL ex ρ0 (sl2 ++ sl) rest (env t ρ) enc (f t)) (hsl : ∀ i ∈ sl2, i < ρ.length) (hs : exNo ex sl = true := by rfl) (hj : sl2.all (noJar ρ0) = true := by rfl)
    (hs' : swapsWithSole [tg] e pos.line X.env = pure false := by rfl) (hw : swappedStores [tg] e X.env = pure none := by rfl) (h1 : (assignEach [tg] X.env).map (·.2) = [assign tg X.env] := by rfl) :
    PuF X W rs encL ex ρ0 sl (.Assign [tg] e pos :: rest) ρ enc (R.flx m >>= fun d => R.of (dec d) >>= f) := by
  intro A B c H σ0 σ Dd r0 r ha j p
  refine (pss_cons (ps_asg pe_wp pg_wp hs' hw h1) pb_wp).to ?_
  refine h.stepF hx hs r0 r ha j p fun c' d v H' r0' r' rv p' => ?_
  obtain ⟨t, hd, p'⟩ := p'.ofo
  refine hg (Ap B ρ0) (Bp B ρ0) c' H' σ ρ v d t _ r' rv hd hsl fun σ' r2 hσ => ?_
  obtain ⟨q1, q2, q3⟩ := hk t ρ
  refine h2 t A B c' H' σ0 σ' Dd r0' r2 (fun i hi => ?_) ⟨fun i a e => ?_, fun a z => ?_, by rw [q1]; exact j.len⟩ p'
  · rw [hσ.2 i fun z => hi (List.mem_append_left _ z)]
    exact ha i fun z => hi (List.mem_append_right _ z)
  · rw [q2 i fun z => noJar_of (List.all_eq_true.mp hj i z) a e]
    exact j.to i a e
  · obtain ⟨i, hi⟩ := mem_get z
    exact j.back a (List.mem_of_getElem? (q3 i a hi))
/-- if t: .., behind which nothing stands -/
theorem f_ifl {t0 : Expr} {a b : List Stmt} {t : R Bool} {m1 m2 : R (Fl α γ β)} (ht : PuT X W t0 ρ t) (hx : Wk ρ0 ex) (h1 : PuF X W rs encL ex ρ0 sl a ρ enc m1) (h2 : PuF X W rs encL ex ρ0 sl b ρ enc m2) (hs : exNo ex sl = true := by rfl) :
    PuF X W rs encL ex ρ0 sl [.If t0 a b pos] ρ enc (R.flx t >>= fun k => if k = true then m1 else m2) := by
  intro A B c H σ0 σ Dd r0 r ha j p
  refine (pss_one (ps_if pt_wp pb_wp pb_wp)).to ?_
  refine ht.stepF hx hs r0 r ha j p fun c' k H' r0' r' p' => ?_
  cases k with
  | true => exact h1 A B c' H' σ0 σ _ r0' r' ha j (by simpa only [if_true] using p')
  | false => exact h2 A B c' H' σ0 σ _ r0' r' ha j (by simpa only [Bool.false_eq_true, if_false] using p')
def tellE (ρ : Ev) : List (Nat × D) → Ev
  | [] => ρ
  | p :: ps => (tellE ρ ps).set p.1 (.pu p.2)
@[simp] theorem tellE_nil (ρ : Ev) : tellE ρ [] = ρ := rfl
@[simp] theorem tellE_cons (ρ : Ev) (p : Nat × D) (ps : List (Nat × D)) : tellE ρ (p :: ps) = (tellE ρ ps).set p.1 (.pu p.2) := rfl
def KeepOk (ρ : Ev) : List (Nat × D) → Prop
  | [] => True
  | p :: ps => ρ[p.1]? = some (.pu p.2) ∧ KeepOk ρ ps
def noLstK : List (Nat × D) → Bool
  | [] => true
  | p :: ps => noLst p.2 && noLstK ps
theorem RS.tells {A B : Addr → Prop} {c : Nat} {H : Hp} {σ : L2.St} {ρ1 : Ev} (r0 : RS (gd X) A B c H σ ρ1) (r : RS (gd X) (Ap B ρ0) (Bp B ρ0) c H σ ρ) (hc : ∀ b, B b → Bp B ρ0 b ∨ isCon H b) : ∀ {ps : List (Nat × D)}, KeepOk ρ ps → noLstK ps = true → RS (gd X) A B c H σ (tellE ρ1 ps)
  | [], _, _ => r0
  | p :: ps, hk, hn => by
    simp only [noLstK, Bool.and_eq_true] at hn
    obtain ⟨v, hv, hr⟩ := r.pu p.1 p.2 hk.1
    exact (RS.tells r0 r hc hk.2 hn.2).tell hv (hr.thin hc hn.1)
/-- the own objects are to be changed again: what was set is known where no list is in it -/
theorem f_thaw (keep : List (Nat × D)) (hk : KeepOk ρ keep) (h : PuB X W rs encL ex sts (tellE (wipeE ρ0 sl) keep) enc mm) : PuF X W rs encL ex ρ0 sl sts ρ enc (if noLstK keep = true then mm else .bad) := by
  intro A B c H σ0 σ Dd r0 r ha j p
  by_cases hn : noLstK keep = true
  · rw [if_pos hn] at p
    have r1 : RS (gd X) A B c H σ0 (wipeE ρ0 sl) := r0.lose (by rw [wipeE_length]) fun i s e => (wipeE_get e).imp id fun z => z.1
    have r2 : RS (gd X) A B c H σ (wipeE ρ0 sl) := r1.agree (by rw [r.len, r0.len, j.len]) ha fun i hi s e => (wipeE_get e).elim id fun z => absurd hi z.2
    exact h A B c H σ Dd (r2.tells r r0.con hk hn) p
  · rw [if_neg hn] at p
    exact p.bad.elim
end
end Pu

set_option maxHeartbeats 2000000
/-! P24: spliced parts, isinstance of two classes, a range as a list or a tuple, sorted(set(ints)). -/
namespace Pu
open PySem PySem.Spec L2
section
variable {X : Cx} {W : WX} {ρ : Ev} {pos : Pos} {a b c e : Expr} {m ma mb mc : R D}
theorem pa_star' {p : Pos} {es : List Expr} {ms : R (List D)} (h1 : PuE X W a ρ ma) (h2 : PuA X W es ρ ms) : PuA X W (.Starred a p :: es) ρ (ma >>= fun x => R.of (pSeq x) >>= fun xs => ms >>= fun ys => R.ok (xs ++ ys)) := by
  intro A B c0 H σ Q r p
  refine (StX.pa_star pe_wp pa_wp).to ?_
  refine h1.step r p fun c1 dx x H1 k1 rx r1 p1 => ?_
  obtain ⟨xs, hg, p1⟩ := p1.ofo
  obtain ⟨q, vs, rfl, hs, rvs⟩ : ∃ q vs, x = .ref q ∧ (SqT X.K H1 q vs ∨ SqL X.K H1 q vs) ∧ RpAll (gd X) B H1 vs xs := by
    cases rx with
    | lst na s rr => cases hg; exact ⟨_, _, rfl, .inr s, rr⟩
    | tup na s rr => cases hg; exact ⟨_, _, rfl, .inl s, rr⟩
    | _ => cases hg
  refine ⟨q, vs, rfl, hs, ?_⟩
  refine h2.step (Q := fun ys H2 => Q (vs ++ ys) H2) r1 p1 fun c2 ds us H2 k2 rs r2 p2 => ?_
  exact p2.now r2 (Same.refl H2) ((rvs.kx k2).append rs)
theorem dsp_star {R' : Type} (x : R') : x = x := rfl
/-- isinstance(x, (T1, T2)) -/
theorem pu_isi2 {T U : String} {x y : Str} {p q q' qt : Pos} {xt} (h1 : PuE X W a ρ ma) (hT : isT T = true) (hU : isT U = true) (hg : Gl X "isinstance") (hm : X.mg "isinstance" = none) (hgT : Gl X x) (hmT : X.mg x = none) (hvT : bootBuiltins x = some (.type T)) (hgU : Gl X y) (hmU : X.mg y = none) (hvU : bootBuiltins y = some (.type U))
    (hn : x ≠ "__name__" := by decide) (hdb : (x == ("__debug__" : Str)) = false := by decide) (hn' : y ≠ "__name__" := by decide) (hdb' : (y == ("__debug__" : Str)) = false := by decide)
    (he : starEach [a, .Tuple [.Name x q, .Name y q'] xt qt] X.env = (false, eval a X.env) :: starEach [.Tuple [.Name x q, .Name y q'] xt qt] X.env := by first | exact se_of (fun _ _ h => nomatch h) | rfl) :
    PuE X W (.Call (.Name "isinstance" p) [a, .Tuple [.Name x q, .Name y q'] xt qt] [] pos) ρ (ma >>= fun x => R.ok (.bool (isI T x || isI U x))) := by
  intro A B c0 H σ Q r p
  have hc : CallR X (.builtin "isinstance") (fun vs H Q => ∃ v tp d B, vs = [v, .ref tp] ∧ H tp = some (.tup [.ty T, .ty U]) ∧ Rp (gd X) B H v d ∧ Q (.bl (isI T d || isI U d)) H) := by
    rintro pins s σ H vs us Q I rv ⟨v, tp, d, B, rfl, ht, r, q⟩
    obtain ⟨u1, u2, rfl, r1, r2⟩ := vals2 rv
    cases (show u2 = Value.ref tp from r2)
    obtain ⟨k0, k1, k2, k3, k4, k5, k6⟩ := kitB_is hT
    obtain ⟨l0, l1, l2, l3, l4, l5, l6⟩ := kitB_is hU
    have any2 : ∀ {t : String} {b1 b2 : Bool}, kitB t T = some b1 → kitB t U = some b2 → PySem.W.kitAny X.K (.type t) [.type T, .type U] = some (b1 || b2) := fun {t b1 b2} e1 e2 => by
      refine kitAny_cons (kit_ty e1) (fun z => ?_) (fun z => by rw [z]; rfl)
      rw [z, Bool.false_or]
      exact kitAny_cons (kit_ty e2) (fun z => by rw [z]; exact kitAny_nil) (fun z => z)
    have go : ∀ {t : String} {b1 b2 : Bool}, TyX X.K H v (.type t) → kitB t T = some b1 → kitB t U = some b2 → isI T d = b1 → isI U d = b2 → wpAny (model X.prog X.w) X.A (call (.builtin "isinstance") [u1, .ref tp]) (EP X pins σ Q) X.xe s := fun {t b1 b2} ty e1 e2 z1 z2 =>
      call_isiT pins s σ H [v, .ref tp] [u1, .ref tp] Q I (.cons r1 (.cons rfl .nil)) ⟨v, tp, [.ty T, .ty U], .type t, [.type T, .type U], b1 || b2, rfl, ht, .cons (.ty T) (.cons (.ty U) .nil), ty, any2 e1 e2, z1 ▸ z2 ▸ q⟩
    cases r with
    | non => exact go (.base .non) k0 l0 rfl rfl
    | bl b => exact go (.base (.bl b)) k1 l1 rfl rfl
    | int i => exact go (.base (.int i)) k2 l2 rfl rfl
    | str x => exact go (.base (.str x)) k3 l3 rfl rfl
    | lst na sx rsx => exact go (tyX_seqL sx) k4 l4 rfl rfl
    | tup na sx rsx => exact go (tyX_seqT sx) k5 l5 rfl rfl
    | @dct a kvs ks vs kds vds na e1 e2 h r1' r2' =>
      rcases h with ⟨kvs', h, _⟩ | ⟨es, h, _⟩
      · exact go (.base (.dK h)) k6 l6 rfl rfl
      · obtain ⟨⟨_, _, xs, _, o, ens, ep, h1, h2, _⟩, _⟩ := (show ObjOk X.prog X.w H s.heap a (.ext (DN (gd X) a es)) from I.hok a _ h)
        cases (show u1 = Value.ref a from r1)
        obtain ⟨_, its, rvt, o2, g1, g2, n, g3⟩ := (show ObjOk X.prog X.w H s.heap tp (.tup [.ty T, .ty U]) from I.hok tp _ ht)
        have e3 := ClsV.all (.cons (.ty T) (.cons (.ty U) .nil)) rvt
        subst e3
        obtain ⟨oc, od, dt, sl⟩ := o2
        simp only at g2 g3
        subst g2 g3
        exact PySem.W.kia_tup PySem.W.kitx_dict I.kIn ⟨o, h1, h2.1⟩ g1 (any2 k6 l6) (fun z => nomatch z) fun tk => ⟨.bl _, H, I.tok tk, rfl, q⟩
  refine (pe_callB hc hg hm (by decide +kernel) (pa_cons pe_wp (pa_cons (pe_tup (pa_cons (pe_bltn (v := .ty T) hgT hmT hvT rfl hn hdb) (pa_cons (pe_bltn (v := .ty U) hgU hmU hvU rfl hn' hdb') pa_nil (by rfl)) (by rfl))) pa_nil (by rfl)) he) (by decide) (by decide) he (by rfl)).to ?_
  refine h1.step r p fun c1 dx x H1 k1 rx r1 p1 => ?_
  refine ⟨by rw [line_eq]; exact (by decide : 2 ≤ LINE), fun tp htp => ?_⟩
  exact ⟨_, tp, dx, B, rfl, upd_same, rx.same (same_upd htp), p1.now r1 (same_upd htp) (.bl _)⟩
end
/-! ### a range as a value -/
section
variable {X : Cx} {W : WX} {ρ : Ev} {pos p : Pos} {a b c e : Expr} {m ma mb mc : R D}
/-- what a range goes through -/
def PuR (X : Cx) (W : WX) (e : Expr) (ρ : Ev) (m : R (List D)) : Prop := ∃ te : L2.St → Hp → (Int → Int → Hp → Prop) → Prop, PRg X e te ∧ ∀ (A B : Addr → Prop) (c : Nat) (H : Hp) (σ : L2.St) (Q : Int → Int → Hp → Prop), RS (gd X) A B c H σ ρ →
  PoG X W A B σ ρ c H (fun _ (z : Int × Int) (ds : List D) => -(2 ^ 62) ≤ z.1 ∧ z.1 < 2 ^ 62 ∧ -(2 ^ 62) ≤ z.2 ∧ z.2 < 2 ^ 62 ∧ ds = rangeD z.1 (z.2 - z.1).toNat) m (fun z H' => Q z.1 z.2 H') → te σ H Q
theorem pr_rng1 {p' : Pos} (hg : Gl X "range") (hm : X.mg "range" = none) (h1 : PuE X W a ρ ma) (na : starEach [a] X.env = (false, eval a X.env) :: starEach [] X.env := by first | exact se_of (fun _ _ h => nomatch h) | rfl) : PuR X W (.Call (.Name "range" p') [a] [] p) ρ (ma >>= fun x => R.of (pRng1 x)) := by
  refine ⟨_, prg_1 hg hm pe_wp na, fun A B c0 H σ Q r p => ?_⟩
  refine h1.step r p fun c1 dx x H1 k1 rx r1 p1 => ?_
  cases rx with
  | int j =>
    unfold pRng1 cIf at p1
    simp only at p1
    split at p1
    · rename_i hj
      refine ⟨j, rfl, PoG.now (b := ((0 : Int), j)) p1 r1 (Same.refl H1) ⟨(by decide : -(2 ^ 62 : Int) ≤ 0), (by decide : (0 : Int) < 2 ^ 62), hj.1, hj.2, by simp⟩⟩
    · exact p1.bad.elim
  | _ => exact p1.bad.elim
theorem pr_rng2 {p' : Pos} (hg : Gl X "range") (hm : X.mg "range" = none) (h1 : PuE X W a ρ ma) (h2 : PuE X W b ρ mb) (na : starEach [a, b] X.env = (false, eval a X.env) :: starEach [b] X.env := by first | exact se_of (fun _ _ h => nomatch h) | rfl) (nb : starEach [b] X.env = (false, eval b X.env) :: starEach [] X.env := by first | exact se_of (fun _ _ h => nomatch h) | rfl) : PuR X W (.Call (.Name "range" p') [a, b] [] p) ρ (ma >>= fun x => mb >>= fun y => R.of (pRng2 x y)) := by
  refine ⟨_, prg_2 hg hm pe_wp pe_wp na nb (by rw [nb]; rfl), fun A B c0 H σ Q r p => ?_⟩
  refine h1.step r p fun c1 dx x H1 k1 rx r1 p1 => ?_
  refine h2.step (Q := fun y H2 => ∃ i j, x = .int i ∧ y = .int j ∧ Q i j H2) r1 p1 fun c2 dy y H2 k2 ry r2 p2 => ?_
  cases rx with
  | int i =>
    cases ry with
    | int j =>
      unfold pRng2 cIf at p2
      simp only at p2
      split at p2
      · rename_i hj
        exact ⟨i, j, rfl, rfl, PoG.now (b := ((i : Int), j)) p2 r2 (Same.refl H2) ⟨hj.1, hj.2.1, hj.2.2.1, hj.2.2.2, rfl⟩⟩
      · exact p2.bad.elim
    | _ => exact p2.bad.elim
  | _ => exact p2.bad.elim
theorem rp_rg {G : Gd} {B : Addr → Prop} {H : Hp} (i j : Int) : RpAll G B H (rgV i j) (rangeD i (j - i).toNat) := by
  unfold rgV rangeD
  induction List.range (j - i).toNat with
  | nil => exact .nil
  | cons x xs ih => exact .cons (.int _) ih
theorem pu_listRg (L : Lv X) (hg : Gl X "list") (hm : X.mg "list" = none) (h : PuR X W e ρ mi) (na : starEach [e] X.env = (false, eval e X.env) :: starEach [] X.env := by first | exact se_of (fun _ _ h => nomatch h) | rfl) : PuE X W (.Call (.Name "list" p) [e] [] pos) ρ (mi >>= fun ds => R.of (mkLst ds)) := by
  obtain ⟨te, he, hte⟩ := h
  intro A B c0 H σ Q r p
  refine (pe_listRg L.calm hg hm he na).to ?_
  refine hte A B c0 H σ _ r (p.step fun c1 ds z H1 k1 hz r1 p1 => ?_)
  obtain ⟨z1, z2, z3, z4, rfl⟩ := hz
  unfold mkLst at p1
  split at p1
  · rename_i hl
    rw [rangeD_length] at hl
    refine ⟨⟨z1, z2, z3, z4, Nat.le_trans hl (by decide)⟩, fun q hq => PoG.now p1 r1 (same_upd hq) ?_⟩
    exact .lst (.inl (r1.nav hq)) (.of upd_same) (rp_rg _ _)
  · exact p1.bad.elim
theorem pu_tupRg (L : Lv X) (hg : Gl X "tuple") (hm : X.mg "tuple" = none) (h : PuR X W e ρ mi) (na : starEach [e] X.env = (false, eval e X.env) :: starEach [] X.env := by first | exact se_of (fun _ _ h => nomatch h) | rfl) : PuE X W (.Call (.Name "tuple" p) [e] [] pos) ρ (mi >>= fun ds => R.of (mkTup ds)) := by
  obtain ⟨te, he, hte⟩ := h
  intro A B c0 H σ Q r p
  refine (pe_tupRg L.calm hg hm he na).to ?_
  refine hte A B c0 H σ _ r (p.step fun c1 ds z H1 k1 hz r1 p1 => ?_)
  obtain ⟨z1, z2, z3, z4, rfl⟩ := hz
  unfold mkTup at p1
  split at p1
  · rename_i hl
    rw [rangeD_length] at hl
    refine ⟨⟨z1, z2, z3, z4, Nat.le_trans hl (by decide)⟩, fun q hq => PoG.now p1 r1 (same_upd hq) ?_⟩
    exact .tup (.inl (r1.nav hq)) (.of upd_same) (rp_rg _ _)
  · exact p1.bad.elim
/-- list(range(..)), walked through the list's own name -/
theorem ri_of (h : PuE X W e ρ m) : PuE X W e ρ m := h
end
/-! ### sorted(set(ints)) -/
def insU (k : Int) : List Int → List Int
  | [] => [k]
  | x :: xs => if k < x then k :: x :: xs else if k = x then x :: xs else x :: insU k xs
def sortU : List Int → List Int
  | [] => []
  | k :: ks => insU k (sortU ks)
theorem insU_mem {k : Int} : ∀ {xs : List Int} {y : Int}, y ∈ insU k xs ↔ y = k ∨ y ∈ xs
  | [], y => by simp [insU]
  | x :: xs, y => by
    unfold insU
    split
    · simp
    · split
      · rename_i h
        subst h
        simp
      · simp only [List.mem_cons, insU_mem (xs := xs)]
        constructor
        · rintro (h | h | h) <;> simp [h]
        · rintro (h | h | h) <;> simp [h]
theorem sortU_mem : ∀ {xs : List Int} {y : Int}, y ∈ sortU xs ↔ y ∈ xs
  | [], y => by simp [sortU]
  | x :: xs, y => by
    unfold sortU
    rw [insU_mem, sortU_mem (xs := xs)]
    simp
theorem insU_asc {k : Int} : ∀ {xs : List Int}, xs.Pairwise (· < ·) → (insU k xs).Pairwise (· < ·)
  | [], _ => by simp [insU]
  | x :: xs, h => by
    obtain ⟨h1, h2⟩ := List.pairwise_cons.mp h
    unfold insU
    split
    · rename_i hk
      refine List.pairwise_cons.mpr ⟨fun y hy => ?_, h⟩
      rcases List.mem_cons.mp hy with rfl | hy
      · exact hk
      · exact Int.lt_trans hk (h1 y hy)
    · split
      · exact h
      · refine List.pairwise_cons.mpr ⟨fun y hy => ?_, insU_asc h2⟩
        rcases insU_mem.mp hy with rfl | hy
        · omega
        · exact h1 y hy
theorem sortU_asc : ∀ {xs : List Int}, (sortU xs).Pairwise (· < ·)
  | [] => List.Pairwise.nil
  | _ :: _ => insU_asc sortU_asc
theorem asc_ext : ∀ {xs ys : List Int}, xs.Pairwise (· < ·) → ys.Pairwise (· < ·) → (∀ k, k ∈ xs ↔ k ∈ ys) → xs = ys
  | [], [], _, _, _ => rfl
  | [], y :: ys, _, _, h => by have := (h y).mpr (List.mem_cons_self ..); simp at this
  | x :: xs, [], _, _, h => by have := (h x).mp (List.mem_cons_self ..); simp at this
  | x :: xs, y :: ys, hx, hy, h => by
    obtain ⟨x1, x2⟩ := List.pairwise_cons.mp hx
    obtain ⟨y1, y2⟩ := List.pairwise_cons.mp hy
    have e : x = y := by
      rcases List.mem_cons.mp ((h x).mp (List.mem_cons_self ..)) with z | z
      · exact z
      · rcases List.mem_cons.mp ((h y).mpr (List.mem_cons_self ..)) with w | w
        · exact w.symm
        · have := y1 x z
          have := x1 y w
          omega
    subst e
    congr 1
    refine asc_ext x2 y2 fun k => ⟨fun hk => ?_, fun hk => ?_⟩
    · rcases List.mem_cons.mp ((h k).mp (List.mem_cons_of_mem _ hk)) with z | z
      · subst z; have := x1 k hk; omega
      · exact z
    · rcases List.mem_cons.mp ((h k).mpr (List.mem_cons_of_mem _ hk)) with z | z
      · subst z; have := y1 k hk; omega
      · exact z
theorem insU_len {k : Int} : ∀ {xs : List Int}, (insU k xs).length ≤ xs.length + 1
  | [] => by simp [insU]
  | x :: xs => by
    unfold insU
    split
    · simp
    · split
      · simp
      · have := insU_len (k := k) (xs := xs)
        simp only [List.length_cons]
        omega
theorem sortU_len : ∀ {xs : List Int}, (sortU xs).length ≤ xs.length
  | [] => Nat.le_refl _
  | k :: xs => by
    have := insU_len (k := k) (xs := sortU xs)
    have := sortU_len (xs := xs)
    unfold sortU
    simp only [List.length_cons]
    omega
def pSetI : D → Option D
  | .tuple ds => match intsD ds with
    | some ns => if ns.length < 64 then some (.list ((sortU ns).map .int)) else none
    | none => none
  | _ => none
section
variable {X : Cx} {W : WX} {ρ : Ev} {pos p : Pos} {a b c e : Expr} {m ma mb mc : R D}
/-- set(a tuple of ints) -/
def rSetTI (K : PySem.W.Frag) (w : World) : List V → Hp → VK → Prop := fun vs H Q => ∃ (l : Addr) (ns : List Int), vs = [.ref l] ∧ SqT K H l (ns.map V.int) ∧ ns.length < 64 ∧ ∀ (q : Addr) (c : Nat), c ≤ ns.length → H q = none → Q (.ref q) (upd H q (SetO w q (fun j => decide (j ∈ ns)) c))
theorem cr_setTI (L : Lv X) : CallR X (.type "set") (rSetTI X.K X.w) := by
  rintro pins s σ H vs us Q I rv ⟨l, ns, rfl, hl, h64, q⟩
  rw [Vals.ref1 rv]
  obtain ⟨its, ri, pl, _⟩ := I.tuple hl
  have hn : H s.heap.objs.size = none := I.hok.fresh (Nat.le_refl _)
  have hsb : (64 : Nat) + 1 < scanBound := by decide
  refine call_set_tupI ns (I.ok.hd L.calm) (show s.heap.IsTuple l its.toArray from pl) (by simpa using intsAre_of ri) (by omega) fun h' tk c R hc k => ?_
  exact ⟨.ref s.heap.objs.size, _, I.laid (t' := tk) k (Nat.le_refl _) (setO_new R), rfl, q _ c hc hn⟩
theorem rp_ints {G : Gd} {B : Addr → Prop} {H : Hp} : ∀ (ns : List Int), RpAll G B H (ns.map V.int) (ns.map PyData.int)
  | [] => .nil
  | _ :: ns => .cons (.int _) (rp_ints ns)
/-- sorted(set(e)), e a tuple of ints -/
theorem pu_sortSetI {p2 pos2 : Pos} (L : Lv X) (hg : Gl X "sorted") (hm : X.mg "sorted" = none) (hg2 : Gl X "set") (hm2 : X.mg "set" = none) (h1 : PuE X W a ρ ma)
    (he : starEach [a] X.env = (false, eval a X.env) :: starEach [] X.env := by first | exact se_of (fun _ _ h => nomatch h) | rfl) : PuE X W (.Call (.Name "sorted" p) [.Call (.Name "set" p2) [a] [] pos2] [] pos) ρ (ma >>= fun x => R.of (pSetI x)) := by
  intro A B c0 H σ Q r p
  refine (pe_callB (cr_sortedSet L.calm) hg hm (by decide +kernel) (pa_cons (pe_callTy (cr_setTI L) hg2 hm2 (by decide +kernel) (pa_cons pe_wp pa_nil he) (by decide) (by decide) he (by rfl)) pa_nil (by rfl)) (by decide) (by decide) (by rfl) (by rfl)).to ?_
  refine h1.step r p fun c1 dx x H1 k1 rx r1 p1 => ?_
  obtain ⟨d, hg, p1⟩ : ∃ d, pSetI dx = some d ∧ PoE X W A B σ ρ c1 H1 (.ok d) Q := by
    cases hd : pSetI dx with
    | none => rw [hd] at p1; exact p1.bad.elim
    | some d => rw [hd] at p1; exact ⟨d, rfl, p1⟩
  cases rx with
  | tup na s rr =>
    unfold pSetI at hg
    simp only at hg
    split at hg
    · rename_i ns hi
      split at hg
      · rename_i h64
        cases hg
        have e := intsD_rp (X := X) rr hi
        subst e
        refine ⟨_, ns, rfl, s, h64, fun q c hc hq => ?_⟩
        refine ⟨q, _, c, rfl, upd_same, by omega, fun ms p' hp hm3 hl hn => ?_⟩
        have em : ms = sortU ns := asc_ext hp sortU_asc fun k => by rw [hm3, sortU_mem]; simp
        subst em
        have s1 := same_upd (o := SetO X.w q (fun j => decide (j ∈ ns)) c) hq
        have nb : H1 p' = none := by
          by_cases z : p' = q
          · subst z; exact hq
          · rwa [upd_ne z] at hn
        refine PoG.now p1 r1 (s1.trans (same_upd hn)) ?_
        exact .lst (.inl (r1.nav nb)) (.of upd_same) (rp_ints _)
      · cases hg
    · cases hg
  | _ => cases hg
end
end Pu

set_option maxHeartbeats 2000000
/-! P25: nothing is said. -/
namespace Pu
open PySem PySem.Spec L2
section
variable {X : Cx} {W : WX} {ρ : Ev} {e : Expr}
theorem pu_bad : PuE X W e ρ .bad := fun A B c H σ Q r p => p.bad.elim
@[simp] abbrev R.isi2 (T U : String) (a : R D) : R D := a >>= fun x => R.ok (.bool (isI T x || isI U x))
end
end Pu

set_option maxHeartbeats 2000000
/-! PL: what a mirror comes to, with no program in sight -/
namespace Pu
open PySem PySem.Spec L2
/-- at most N draws, no error, and each answer satisfies Q -/
structure Al {α : Type} (N : Nat) (m : R α) (Q : α → Prop) : Prop where
  po : Po N m (fun _ a => Q a) fun _ _ _ => False
section
variable {α β γ : Type} {P Q : α → Prop} {m : R α} {f : α → R β} {S : β → Prop}
theorem Al.more {M : Nat} : ∀ {N : Nat}, Al N m P → (∀ a, P a → Q a) → N ≤ M → Al M m Q := by
  induction m generalizing M with
  | ok a => intro N h i _; exact ⟨by rw [Po.ok_]; exact i _ (by have := h.po; rwa [Po.ok_] at this)⟩
  | exc x d => intro N h i _; exact (by have := h.po; rwa [Po.exc_] at this : False).elim
  | bad => intro N h i _; exact (by have := h.po; rwa [Po.bad_] at this : False).elim
  | ch n k ih =>
    intro N h i e
    cases N with
    | zero => exact False.elim h.po
    | succ N =>
      cases M with
      | zero => omega
      | succ M => exact ⟨fun j hj => (ih j ⟨h.po j hj⟩ i (by omega)).po⟩
theorem Al.ok {N : Nat} {a : α} (h : P a) : Al N (.ok a) P := ⟨by rw [Po.ok_]; exact h⟩
theorem Al.chI {N n : Nat} {k : Nat → R α} (h : ∀ i, i < n → Al N (k i) P) : Al (N + 1) (.ch n k) P := ⟨fun i hi => (h i hi).po⟩
theorem Al.bind {M K : Nat} : ∀ {N : Nat}, Al N m P → (∀ a, P a → Al M (f a) S) → N + M ≤ K → Al K (m >>= f) S := by
  induction m generalizing K with
  | ok a => intro N h g e; exact (g a (by have := h.po; rwa [Po.ok_] at this)).more (fun _ z => z) (by omega)
  | exc x d => intro N h g e; exact (by have := h.po; rwa [Po.exc_] at this : False).elim
  | bad => intro N h g e; exact (by have := h.po; rwa [Po.bad_] at this : False).elim
  | ch n k ih =>
    intro N h g e
    cases N with
    | zero => exact False.elim h.po
    | succ N =>
      cases K with
      | zero => omega
      | succ K => exact ⟨fun j hj => (ih j (K := K) ⟨h.po j hj⟩ g (by omega)).po⟩
/-- a piece and what follows it, with the draws that are left -/
theorem Al.seq {N K : Nat} (h : Al N m P) (g : ∀ a, P a → Al (K - N) (f a) S) (e : N ≤ K := by decide) : Al K (m >>= f) S := h.bind g (by omega)
theorem Al.seq0 {K : Nat} (h : Al 0 m P) (g : ∀ a, P a → Al K (f a) S) : Al K (m >>= f) S := h.bind g (by omega)
theorem Al.draw {N : Nat} {n : Int} (h : 0 < n) (h2 : n < 2 ^ 8000) : Al (N + 1) (drawL [.int n]) fun d => ∃ i : Nat, (i : Int) < n ∧ d = .int i := by
  have e : drawL [.int n] = .ch n.toNat fun i => .ok (.int i) := cIf_pos ⟨h, h2⟩
  rw [e]
  exact Al.chI fun i hi => Al.ok ⟨i, by omega, rfl⟩
theorem small {n : Int} (h : n < 1000000) : n < 2 ^ 8000 := by
  have : (1000000 : Int) < 2 ^ 8000 := by decide +kernel
  omega
/-- a loop that goes through, with what holds all along -/
theorem forR_al {T S γ' β : Type} {dec : D → Option T} {step : T → S → R (Fl S S β)} {I : S → Prop} {N : Nat} :
    ∀ (ds : List D) (s : S), (∀ d ∈ ds, ∃ t, dec d = some t ∧ ∀ s, I s → Al N (step t s) fun fl => ∃ s', fl = .nx s' ∧ I s') → I s →
      Al (ds.length * N) (forR dec step ds s : R (Fl S γ' β)) fun fl => ∃ s', fl = .nx s' ∧ I s'
  | [], s, _, i => Al.ok ⟨s, rfl, i⟩
  | d :: ds, s, h, i => by
    obtain ⟨t, e, q⟩ := h d (List.mem_cons_self ..)
    unfold forR
    rw [e, R.of_some, R.ok_bind]
    refine (q s i).bind (M := ds.length * N) (fun fl hf => ?_) (by rw [List.length_cons]; rw [Nat.succ_mul]; omega)
    obtain ⟨s', rfl, i'⟩ := hf
    exact forR_al ds s' (fun d hd => h d (List.mem_cons_of_mem _ hd)) i'
theorem forR_ali {T S γ' β : Type} {dec : D → Option T} {step : T → S → R (Fl S S β)} {I : Nat → S → Prop} {N : Nat} :
    ∀ (ds : List D) (k : Nat) (s : S), (∀ d ∈ ds, ∃ t, dec d = some t ∧ ∀ j s, j < k + ds.length → I j s → Al N (step t s) fun fl => ∃ s', fl = .nx s' ∧ I (j + 1) s') → I k s →
      Al (ds.length * N) (forR dec step ds s : R (Fl S γ' β)) fun fl => ∃ s', fl = .nx s' ∧ I (k + ds.length) s'
  | [], k, s, _, i => Al.ok ⟨s, rfl, i⟩
  | d :: ds, k, s, h, i => by
    obtain ⟨t, e, q⟩ := h d (List.mem_cons_self ..)
    unfold forR
    rw [e, R.of_some, R.ok_bind]
    refine (q k s (by rw [List.length_cons]; omega) i).bind (M := ds.length * N) (fun fl hf => ?_) (by rw [List.length_cons]; rw [Nat.succ_mul]; omega)
    obtain ⟨s', rfl, i'⟩ := hf
    have := forR_ali (γ' := γ') ds (k + 1) s' (fun d hd => let ⟨t, e, q⟩ := h d (List.mem_cons_of_mem _ hd); ⟨t, e, fun j s hj => q j s (by rw [List.length_cons]; omega)⟩) i'
    rw [List.length_cons, show k + (ds.length + 1) = k + 1 + ds.length by omega]
    exact this
@[simp] theorem fin_bind {α δ : Type} (m : R δ) (f : δ → R (Fl α Empty D)) : R.fin (m >>= f) = m >>= fun a => R.fin (f a) := by
  unfold R.fin
  rw [R.bind_assoc]
@[simp] theorem up_bind {α δ γ β : Type} (m : R δ) (f : δ → R (Fl Empty γ β)) : (R.up (m >>= f) : R (Fl α γ β)) = m >>= fun a => R.up (f a) := by
  unfold R.up
  rw [R.bind_assoc]
@[simp] theorem then_bind {α δ γ β ε : Type} (m : R ε) (f : ε → R (Fl α γ β)) (g : α → R (Fl δ γ β)) : Fl.then (m >>= f) g = m >>= fun a => Fl.then (f a) g := by
  unfold Fl.then
  rw [R.bind_assoc]
/-- a comprehension whose items draw -/
theorem lcM_al {T : Type} {dec : D → Option T} {me : T → R D} {P : D → Prop} {N : Nat} :
    ∀ (ds : List D), (∀ d ∈ ds, ∃ t, dec d = some t ∧ Al N (R.nx (me t)) P) → Al (ds.length * N) (lcM dec (fun _ => .ok true) me ds) fun ys => ys.length = ds.length ∧ ∀ y ∈ ys, P y
  | [], h => Al.ok ⟨rfl, by simp⟩
  | d :: ds, h => by
    obtain ⟨t, e, q⟩ := h d (List.mem_cons_self ..)
    unfold lcM
    rw [e, R.of_some]
    simp only [R.ok_bind, R.nx_ok, if_true]
    refine q.bind (M := ds.length * N) (fun y hy => ?_) (by rw [List.length_cons, Nat.succ_mul]; omega)
    refine (lcM_al ds fun d hd => h d (List.mem_cons_of_mem _ hd)).bind (M := 0) (fun ys hys => Al.ok ⟨by simp [hys.1], ?_⟩) (by omega)
    intro z hz
    rcases List.mem_cons.mp hz with rfl | hz
    · exact hy
    · exact hys.2 z hz
theorem lcD_al {T : Type} {dec : D → Option T} {me : T → R D} {P : D → Prop} {N : Nat} (ds : List D) (hl : ds.length ≤ LINE) (h : ∀ d ∈ ds, ∃ t, dec d = some t ∧ Al N (R.nx (me t)) P) : Al (ds.length * N) (lcD dec (fun _ => .ok true) me ds) fun ys => ys.length = ds.length ∧ ∀ y ∈ ys, P y := by
  unfold lcD
  rw [if_pos hl]
  exact lcM_al ds h
/-- a comprehension whose items do not -/
theorem lcM_ok {T : Type} {dec : D → Option T} {mt : T → R Bool} {me : T → R D} {p : D → Bool} {g : D → D} : ∀ (ds : List D), (∀ d ∈ ds, ∃ t, dec d = some t ∧ mt t = .ok (p d) ∧ (p d = true → me t = .ok (g d))) → lcM dec mt me ds = .ok ((ds.filter p).map g)
  | [], _ => rfl
  | d :: ds, h => by
    obtain ⟨t, e, q1, q2⟩ := h d (List.mem_cons_self ..)
    unfold lcM
    rw [e, R.of_some, R.ok_bind, q1, R.nx_ok, R.ok_bind, lcM_ok ds fun d hd => h d (List.mem_cons_of_mem _ hd)]
    cases hp : p d with
    | false => simp [hp]
    | true => rw [q2 hp]; simp [hp]
theorem lcD_ok {T : Type} {dec : D → Option T} {mt : T → R Bool} {me : T → R D} {p : D → Bool} {g : D → D} (ds : List D) (hl : ds.length ≤ LINE) (h : ∀ d ∈ ds, ∃ t, dec d = some t ∧ mt t = .ok (p d) ∧ (p d = true → me t = .ok (g d))) : lcD dec mt me ds = .ok ((ds.filter p).map g) := by
  unfold lcD
  rw [if_pos hl]
  exact lcM_ok ds h
theorem lcD_map {T : Type} {dec : D → Option T} {me : T → R D} {g : D → D} (ds : List D) (hl : ds.length ≤ LINE) (h : ∀ d ∈ ds, ∃ t, dec d = some t ∧ me t = .ok (g d)) : lcD dec (fun _ => .ok true) me ds = .ok (ds.map g) := by
  rw [lcD_ok (p := fun _ => true) (g := g) ds hl fun d hd => let ⟨t, e, q⟩ := h d hd; ⟨t, e, rfl, fun _ => q⟩]
  rw [List.filter_eq_self.mpr fun _ _ => rfl]
theorem bools_map (p : D → Bool) : ∀ ds : List D, bools (ds.map fun d => .bool (p d)) = some (ds.map p)
  | [] => rfl
  | d :: ds => by rw [List.map_cons, bools, bools_map p ds]; rfl
theorem pAll_map (p : D → Bool) (ds : List D) : pAll (.list (ds.map fun d => .bool (p d))) = some (.bool (ds.all p)) := by
  unfold pAll
  simp only
  rw [bools_map]
  simp [List.all_map]
end
mutual
/-- no row longer than n anywhere in it, no deeper than m -/
def szB (n : Nat) : Nat → D → Bool
  | 0, _ => false
  | m + 1, .tuple xs => decide (xs.length ≤ n) && szAll n m xs
  | m + 1, .list xs => decide (xs.length ≤ n) && szAll n m xs
  | _ + 1, .str x => decide (x.length ≤ n)
  | _ + 1, .dict _ => false
  | _ + 1, _ => true
def szAll (n : Nat) : Nat → List D → Bool
  | _, [] => true
  | m, x :: xs => szB n m x && szAll n m xs
end
theorem szAll_mem {n m : Nat} : ∀ {xs : List D}, szAll n m xs = true ↔ ∀ x ∈ xs, szB n m x = true
  | [] => by simp [szAll]
  | x :: xs => by simp [szAll, szAll_mem (xs := xs)]
theorem szB_tup {n m : Nat} {xs : List D} : szB n (m + 1) (.tuple xs) = true ↔ xs.length ≤ n ∧ ∀ x ∈ xs, szB n m x = true := by simp [szB, szAll_mem]
theorem szB_lst {n m : Nat} {xs : List D} : szB n (m + 1) (.list xs) = true ↔ xs.length ≤ n ∧ ∀ x ∈ xs, szB n m x = true := by simp [szB, szAll_mem]

end Pu

set_option maxHeartbeats 2000000
/-! PM: the end: a def's facts from the written part; the law's promise to the row's -/
namespace Pu
open PySem PySem.Spec L2
theorem df_mk {K : PySem.W.Frag} {h : Heap} {mg : Str → Option Value} {x : Str} {st : Stmt} {f : Addr} {ps : List Str} {oc : Value} {od an : Option Addr} {sl : Array (Option Value)} {kV dc pm cd ct : Value} (X : K.In h) (G : h.Ns mainGlobals mg)
    (m : PySem.W.nsIn K mainGlobals x = some (some (.ref f))) (l : K.lookup f = some ⟨oc, od, .func (PySem.W.fnOf x x (defArgs st) (defBody st) (defScope st) .none kV dc pm an cd ct), sl⟩) (c : PySem.W.codeIn K cd x = true) (k : PySem.W.keepIn K (.ref f) = true)
    (b : ∀ (kV doc pm : Value) (an : Option Addr) (cdv ct : Value) (us : List Value), us.length = ps.length → bindArgs (PySem.W.fnOf x x (defArgs st) (defBody st) (defScope st) .none kV doc pm an cdv ct) ⟨us, []⟩ = pure (ps.zip us)) :
    Df K mg x st f (PySem.W.fnOf x x (defArgs st) (defBody st) (defScope st) .none kV dc pm an cd ct) ps where
  F := fun_mk l c k
  m := PySem.W.mg_of X G m
  k := k
  b := (fun_mk l c k).binds b
theorem bind1 {K : PySem.W.Frag} {x y : Str} {st : Stmt} {f : Addr} {fd : FuncData} (F : Fun K x x st f fd)
    (h : ∀ (kV doc pm : Value) (an : Option Addr) (cdv ct u : Value), bindArgs (PySem.W.fnOf x x (defArgs st) (defBody st) (defScope st) .none kV doc pm an cdv ct) ⟨[u], []⟩ = pure [(y, u)]) (s : Shared) (u : Value) : BindsTo s fd ⟨[u], []⟩ [(y, u)] := by
  obtain ⟨oc, od, kV, doc, pm, an, cdv, ct, osl, rfl, lk, hcd⟩ := F.ex
  exact .of_eq (h kV doc pm an cdv ct u)
section
open PySem.W PySem.Calls PyProof.Rows PySem.HandSPX
variable {K : PySem.W.Frag} {C S N NS : Addr} {nm q nmS qS : Str} {bs bsS sub subS bmS : List Value} {sn snS : List Str} {ab hd hdS abS : Bool} {col colS : Option Bool} {dd ddS : Option Addr} {z0 z1 z2 z3 z5 y0 y1 y2 y3 y5 : Option Value} {newId : String}
theorem exm_mk {t : Value} {b : Bool} (h1 : subIn K (.ref C) (.type "BaseException") = some true) (h2 : isClsIn K C = true) (h3 : typeIn K (.ref C) = some (.type "type")) (h4 : subIn K t (.ref C) = some b) : exmOne K t (.ref C) = some b := by
  have h2' : (clsIn K C).isSome = true := h2
  unfold exmOne kitCls
  rw [h1]
  dsimp only
  rw [h2', h3]
  simpa using h4
theorem exIn_mk (L : K.lookup C = some (excClassObj nm q C N bs (.ref S :: veTail) true sn sub ab col dd z0 z1 z2 z3 z5 newId)) : excInitIn K C Sup.bVE newId = true := by
  unfold excInitIn
  rw [L]
  simp [excTail]
theorem nsOk_mk {cc : Value} {cd : Option Addr} {es : Array DictEntry} {n : Nat} {cs : Array (Option Value)} (l : K.lookup N = some ⟨cc, cd, .dict es n, cs⟩) (h : (es.toList.all fun e => match e.key with | .str _ _ => true | _ => false) = true) : nsOkIn K N = true := by
  unfold nsOkIn
  rw [l]
  rw [Array.all_toList] at h
  exact h
theorem excIn_mk (L : K.lookup C = some (excClassObj nm q C N bs (.ref S :: veTail) hd sn sub ab col dd z0 z1 z2 z3 z5 newId)) (LS : K.lookup S = some (excClassObj nmS qS S NS bsS bmS hdS snS subS abS colS ddS y0 y1 y2 y3 y5 "ValueError.__new__"))
    (o1 : nsOkIn K N = true) (o2 : nsOkIn K NS = true) (i1 : nsIn K N "__init__" = some none) (i2 : nsIn K NS "__init__" = some none) : excIn K C Sup.bVE newId = true := by
  have t : tailIn K Sup.bVE (.ref S :: veTail) = true := by
    unfold tailIn
    simp only
    rw [LS]
    simp only [o2, i2]
    have e : tailIn K Sup.bVE veTail = true := by
      unfold tailIn
      simp
    rw [e]
    simp
  unfold excIn
  rw [L]
  simp [t, o1, i1]
theorem sup_mk (L : K.lookup C = some (excClassObj nm q C N bs (.ref S :: veTail) true sn sub ab col dd z0 z1 z2 z3 z5 newId)) (LS : K.lookup S = some (excClassObj nmS qS S NS bsS bmS hdS snS subS abS colS ddS y0 y1 y2 y3 y5 "ValueError.__new__"))
    (n : nsIn K NS "__init__" = some none) : ks_superIn K C C "__init__" = some (some (.builtin "ValueError.__init__")) := by
  unfold ks_superIn clsIn
  rw [L]
  simp only [Option.bind_some]
  have e : (List.dropWhile (fun x => x != Value.ref C) (Value.ref C :: Value.ref S :: veTail)).drop 1 = Value.ref S :: veTail := by simp
  rw [e]
  unfold alongIn
  have o : ownIn K "__init__" (.ref S) = some none := by
    unfold ownIn
    dsimp only
    rw [LS]
    exact n
  rw [o]
  rfl
end
theorem rpall_ints {G : Gd} {B : Addr → Prop} {H : Hp} : ∀ ns : List Int, RpAll G B H (ns.map V.int) (ns.map PyData.int)
  | [] => .nil
  | n :: ns => .cons (.int n) (rpall_ints ns)
def spL (K : PySem.W.Frag) : Sp := fun vs H Q _ => ∃ (a : Addr) (ns : List Int), vs = [.ref a] ∧ SqL K H a (ns.map V.int) ∧ ns.length ≤ 63 ∧ ∀ H', Q (.bl true) H'
theorem walk_pu {l : PySem.W.OpenLaw} {q : Program} {loose : List Str} {XP : (Str → Option Value) → Heap → Prop} {YP : World → Heap → Prop} {d : DefRec} {K : Params → PySem.W.Frag} {pw : Program} {mir : List D → R D} {k : Nat} (hn : l.most = some 63) (hdf : d.params.defaults = []) (hp : l.prog = pw)
    (hY : ∀ (w : World) (h : Heap), YP w h → (K w.params).In h)
    (F : ∀ (w : World) (mg : Str → Option Value) (fa : Addr) (h : Heap), (K w.params).In h → h.Ns mainGlobals mg → mg d.name = some (.ref fa) →
      ∃ fd : FuncData, (∀ (s : Shared) (u : Value), BindsTo s fd ⟨[u], []⟩ [("script", u)]) ∧ ∀ base : Heap, (K w.params).In base → base.Ns mainGlobals mg →
        FnOk pw w (K w.params) mg base (L2.CX pw w) k fa fd ["script"] (spD ⟨pw, w, K w.params⟩ mg false [false] mir))
    (hr : Room k callerA) (hm : ∀ ns : List Int, ns.length ≤ 63 → Al CMAX (mir [.list (ns.map .int)]) fun d => d = .bool true) :
    PySem.W.WalkO q loose XP YP l.row.toRowW d [] (fun f vs => PySem.call f vs) := by
  subst hp
  refine L2.walk_of (n := 63) (k := k) (x := "script") (CX := fun w => L2.CX l.prog w) (sp := fun w => spL (K w.params)) hn (by decide) hdf hr hY (fun w mg fa h KX G hmg => ?_) (fun _ _ a ns hl _ hS => ⟨a, ns, rfl, hS, hl, fun _ => rfl⟩) (fun w H s e s' z => ?_)
  · obtain ⟨fd, hb, hF⟩ := F w mg fa h KX G hmg
    refine ⟨fd, hb, fun base hB hN => (hF base hB hN).imp fun vs H Q E z => ?_⟩
    obtain ⟨a, ns, rfl, hS, hl, q⟩ := z
    refine ⟨fun _ => False, CMAX, [], [.list (ns.map .int)], .dat (.lst (.inl fun z => z) hS (rpall_ints ns)) .nil, List.nodup_nil, (by simp), (fun _ z => z.elim), Nat.le_refl _, ?_⟩
    refine Po.mono (fun c' d e v H' _ _ _ b => ?_) (fun _ _ _ z => z.elim) (hm ns hl).po
    have e' : d = .bool true := e
    subst e'
    unfold Back at b
    rw [if_neg Bool.false_ne_true] at b
    cases b
    exact q H'
  · obtain ⟨_, _, _, _, _, _, _, _, _, _, _, _, z⟩ := z
    exact z
end Pu

set_option maxHeartbeats 2000000
/-! PN: numbers and tuples of them: as keys, in order, in own dicts -/
namespace Pu
open PySem PySem.Spec L2
mutual
/-- numbers, and tuples of such -/
def pureD : D → Bool
  | .int _ => true
  | .tuple xs => pureAll xs
  | _ => false
def pureAll : List D → Bool
  | [] => true
  | x :: xs => pureD x && pureAll xs
end
theorem pureAll_mem : ∀ {xs : List D}, pureAll xs = true ↔ ∀ x ∈ xs, pureD x = true
  | [] => by simp [pureAll]
  | x :: xs => by simp [pureAll, pureAll_mem (xs := xs)]
mutual
theorem pure_eqv : ∀ {x y : D}, pureD x = true → pureD y = true → PyData.eqv x y = true → x = y
  | .int i, .int j, _, _, h => by simp [PyData.eqv] at h; subst h; rfl
  | .tuple xs, .tuple ys, h1, h2, h => by
    have e : xs = ys := pureAll_eqv (by simpa [pureD] using h1) (by simpa [pureD] using h2) (by simpa [PyData.eqv] using h)
    rw [e]
  | .int _, .tuple _, _, _, h => by simp [PyData.eqv] at h
  | .tuple _, .int _, _, _, h => by simp [PyData.eqv] at h
theorem pureAll_eqv : ∀ {xs ys : List D}, pureAll xs = true → pureAll ys = true → PyData.eqvAll xs ys = true → xs = ys
  | [], [], _, _, _ => rfl
  | x :: xs, y :: ys, h1, h2, h => by
    simp only [pureAll, PyData.eqvAll, Bool.and_eq_true] at h1 h2 h
    rw [pure_eqv h1.1 h2.1 h.1, pureAll_eqv h1.2 h2.2 h.2]
  | [], _ :: _, _, _, h => by simp [PyData.eqvAll] at h
  | _ :: _, [], _, _, h => by simp [PyData.eqvAll] at h
end
mutual
theorem pure_key : ∀ {x : D}, pureD x = true → ∃ k, keyOf x = some k
  | .int i, _ => ⟨_, rfl⟩
  | .tuple xs, h => by
    obtain ⟨ks, e⟩ := pureAll_key (xs := xs) (by simpa [pureD] using h)
    exact ⟨.tup ks, by simp [keyOf, e]⟩
theorem pureAll_key : ∀ {xs : List D}, pureAll xs = true → ∃ ks, keysOf xs = some ks
  | [], _ => ⟨[], rfl⟩
  | x :: xs, h => by
    simp only [pureAll, Bool.and_eq_true] at h
    obtain ⟨k, e1⟩ := pure_key h.1
    obtain ⟨ks, e2⟩ := pureAll_key h.2
    exact ⟨k :: ks, by simp [keysOf, e1, e2]⟩
end
mutual
theorem pure_inj : ∀ {x y : D}, pureD x = true → pureD y = true → keyOf x = keyOf y → x = y
  | .int i, .int j, _, _, h => by simp [keyOf] at h; rw [h]
  | .tuple xs, .tuple ys, h1, h2, h => by
    have h1' : pureAll xs = true := by simpa [pureD] using h1
    have h2' : pureAll ys = true := by simpa [pureD] using h2
    obtain ⟨k1, e1⟩ := pureAll_key h1'
    obtain ⟨k2, e2⟩ := pureAll_key h2'
    simp [keyOf, e1, e2] at h
    rw [pureAll_inj h1' h2' (by rw [e1, e2, h])]
  | .int _, .tuple ys, _, h2, h => by
    obtain ⟨k2, e2⟩ := pureAll_key (xs := ys) (by simpa [pureD] using h2)
    simp [keyOf, e2] at h
  | .tuple xs, .int _, h1, _, h => by
    obtain ⟨k2, e2⟩ := pureAll_key (xs := xs) (by simpa [pureD] using h1)
    simp [keyOf, e2] at h
theorem pureAll_inj : ∀ {xs ys : List D}, pureAll xs = true → pureAll ys = true → keysOf xs = keysOf ys → xs = ys
  | [], [], _, _, _ => rfl
  | x :: xs, y :: ys, h1, h2, h => by
    simp only [pureAll, Bool.and_eq_true] at h1 h2
    obtain ⟨k1, e1⟩ := pure_key h1.1
    obtain ⟨k2, e2⟩ := pure_key h2.1
    obtain ⟨l1, f1⟩ := pureAll_key h1.2
    obtain ⟨l2, f2⟩ := pureAll_key h2.2
    simp [keysOf, e1, e2, f1, f2] at h
    rw [pure_inj h1.1 h2.1 (by rw [e1, e2, h.1]), pureAll_inj h1.2 h2.2 (by rw [f1, f2, h.2])]
  | [], y :: ys, _, h2, h => by
    obtain ⟨l, e⟩ := pureAll_key h2
    rw [e] at h
    simp only [pureAll, Bool.and_eq_true] at h2
    obtain ⟨k2, e2⟩ := pure_key h2.1
    obtain ⟨l2, f2⟩ := pureAll_key h2.2
    simp [keysOf, e2, f2] at e
    subst e
    simp [keysOf] at h
  | x :: xs, [], h1, _, h => by
    obtain ⟨l, e⟩ := pureAll_key h1
    rw [e] at h
    simp only [pureAll, Bool.and_eq_true] at h1
    obtain ⟨k2, e2⟩ := pure_key h1.1
    obtain ⟨l2, f2⟩ := pureAll_key h1.2
    simp [keysOf, e2, f2] at e
    subst e
    simp [keysOf] at h
end
mutual
theorem pure_lay : ∀ {x : D}, pureD x = true → x.canLay0 = true
  | .int _, _ => rfl
  | .tuple xs, h => by simpa [PyData.canLay0] using pureAll_lay (xs := xs) (by simpa [pureD] using h)
theorem pureAll_lay : ∀ {xs : List D}, pureAll xs = true → PyData.canLayAll0 xs = true
  | [], _ => rfl
  | x :: xs, h => by
    simp only [pureAll, Bool.and_eq_true] at h
    simp [PyData.canLayAll0, pure_lay h.1, pureAll_lay h.2]
end
/-- in order: one is ahead of the other, unless they are one -/
theorem lt_of_not_lt {x y : D} (hx : pureD x = true) (hy : pureD y = true) (ha : PySem.W.alike x y = true) (h : PySem.W.dataLt y x = false) (hne : x ≠ y) : PySem.W.dataLt x y = true := by
  cases e : PySem.W.dataLt x y with
  | true => rfl
  | false =>
    have t := PyProof.Rows.lex_total _ _ e h
    cases hq : PyData.eqv x y with
    | true => exact absurd (pure_eqv hx hy hq) hne
    | false =>
      exfalso
      have q := (PySem.W.toks_eqv x y ha).2 hq [] [.inl 0]
      rw [t, PySem.W.lex_pre, PyProof.Rows.lex_irrefl] at q
      cases q
theorem forD_cons {d : D} {ds : List D} {P : D → Prop} : (∀ x ∈ d :: ds, P x) ↔ P d ∧ ∀ x ∈ ds, P x := List.forall_mem_cons
/-- pure data of one shape, sorted: each ahead of the next one -/
theorem sortD_lt {ds : List D} (hp : ∀ x ∈ ds, pureD x = true) (ha : ∀ x ∈ ds, ∀ y ∈ ds, PySem.W.alike x y = true) (hn : ds.Nodup) : (sortD ds).Pairwise fun x y => PySem.W.dataLt x y = true := by
  have h1 := PySem.W.sort_pairwise (PySem.W.sortLe_total (PyProof.Rows.listOrd PyProof.Rows.itemOrd) false fun d : D => PySem.W.keyToks d) ds
  have h2 : (sortD ds).Nodup := (List.mergeSort_perm ds _).nodup_iff.mpr hn
  have hm : ∀ x ∈ sortD ds, x ∈ ds := fun x hx => (List.mergeSort_perm ds _).mem_iff.mp hx
  refine List.Pairwise.imp_of_mem (fun {x y} hx hy h => ?_) (h1.and h2)
  refine lt_of_not_lt (hp x (hm x hx)) (hp y (hm y hy)) (ha x (hm x hx) y (hm y hy)) ?_ h.2
  have h' : (!PySem.W.dataLt y x) = true := h.1
  simpa using h'
/-- a dict by pure tuples gets an entry -/
theorem putD_keys {kvs : List (D × D)} {k v : D} {P : D → Prop} (hk : ∀ p ∈ kvs, P p.1) (hP : ∀ d, P d → pureD d = true ∧ isTupD d = true) (hpk : P k) (hd : ∀ nk, keyOf k = some nk → nk.depth ≤ 8) (hn : (kvs.map (·.1)).Nodup) (hl : kvs.length < LINE) :
    ∃ kvs', putD kvs k v = some kvs' ∧ (∀ p ∈ kvs', P p.1) ∧ (kvs'.map (·.1)).Nodup ∧ kvs'.length ≤ kvs.length + 1 ∧ (∀ d, d ∈ kvs.map (·.1) → d ∈ kvs'.map (·.1)) ∧ k ∈ kvs'.map (·.1) := by
  obtain ⟨nk, e⟩ := pure_key (hP k hpk).1
  have ht : kvs.all (fun p => isTupD p.1) = true := List.all_eq_true.mpr fun p hp => (hP _ (hk p hp)).2
  refine ⟨stD kvs k v, ?_, ?_, ?_, ?_, ?_, ?_⟩
  · unfold putD
    rw [if_pos ⟨ht, (hP k hpk).2, hl⟩, e, Option.bind_some, if_pos (hd nk e)]
  all_goals unfold stD
  all_goals split
  · rename_i hc
    intro p hp
    obtain ⟨p0, h0, rfl⟩ := List.mem_map.mp hp
    have := hk p0 h0
    split <;> exact this
  · intro p hp
    rcases List.mem_append.mp hp with hp | hp
    · exact hk p hp
    · simp at hp; subst hp; exact hpk
  · rw [List.map_map]
    have : (fun p : D × D => p.1) ∘ (fun p : D × D => if keyOf p.1 = keyOf k then (p.1, v) else p) = fun p : D × D => p.1 := by
      funext p
      simp only [Function.comp]
      split <;> rfl
    rw [this]
    exact hn
  · rename_i hc
    rw [List.map_append, List.nodup_append]
    refine ⟨hn, by simp, ?_⟩
    intro a ha b hb
    simp at hb
    subst hb
    rintro rfl
    obtain ⟨p, hp, rfl⟩ := List.mem_map.mp ha
    exact hc (List.any_eq_true.mpr ⟨p, hp, by simp⟩)
  · rw [List.length_map]; omega
  · rw [List.length_append]; simp
  · intro d hd
    obtain ⟨p, hp, rfl⟩ := List.mem_map.mp hd
    rw [List.map_map]
    refine List.mem_map.mpr ⟨p, hp, ?_⟩
    simp only [Function.comp]
    split <;> rfl
  · intro d hd
    rw [List.map_append]
    exact List.mem_append_left _ hd
  · rename_i hc
    obtain ⟨p, hp, q⟩ := List.any_eq_true.mp hc
    simp at q
    have := pure_inj (hP _ (hk p hp)).1 (hP k hpk).1 q
    rw [List.map_map]
    refine List.mem_map.mpr ⟨p, hp, ?_⟩
    simp only [Function.comp]
    rw [if_pos q]
    exact this
  · rw [List.map_append]
    exact List.mem_append_right _ (by simp)
/-- a dict of lists by pure tuples: its keys -/
theorem grpR_keys {T : Type} {dec : D → Option T} {me1 me2 : T → R D} {P : D → Prop} (hP : ∀ d, P d → pureD d = true ∧ isTupD d = true) (hd : ∀ d nk, P d → keyOf d = some nk → nk.depth ≤ 8) (n : Nat) :
    ∀ (ds : List D) (kvs : List (D × D)), (∀ d ∈ ds, ∃ t k v, dec d = some t ∧ me1 t = .ok k ∧ P k ∧ me2 t = .ok v) → (∀ p ∈ kvs, P p.1 ∧ ∃ l, p.2 = .list l ∧ l.length ≤ n) → (kvs.map (·.1)).Nodup → kvs.length + ds.length ≤ 100000 → n + ds.length ≤ 100000 →
      ∃ kvs', grpR dec me1 me2 ds kvs = .ok kvs' ∧ (∀ p ∈ kvs', P p.1) ∧ (kvs'.map (·.1)).Nodup ∧ kvs'.length ≤ kvs.length + ds.length
  | [], kvs, _, hk, hn, _, _ => ⟨kvs, rfl, fun p hp => (hk p hp).1, hn, Nat.le_refl _⟩
  | d :: ds, kvs, h, hk, hn, hl, hl2 => by
    obtain ⟨t, k, v, e1, e2, hpk, e3⟩ := h d (List.mem_cons_self ..)
    obtain ⟨nk, e⟩ := pure_key (hP k hpk).1
    rw [List.length_cons] at hl hl2
    have hL : (100000 : Nat) < LINE := by decide
    have c1 : ensD kvs k = some (ensL kvs k) := by
      unfold ensD
      rw [if_pos ⟨(hP k hpk).2, by omega⟩, e, Option.bind_some, if_pos (hd k nk hpk e)]
    have ens : (∀ p ∈ ensL kvs k, P p.1 ∧ ∃ l, p.2 = .list l ∧ l.length ≤ n) ∧ ((ensL kvs k).map (·.1)).Nodup ∧ (ensL kvs k).length ≤ kvs.length + 1 := by
      unfold ensL
      split
      · exact ⟨hk, hn, by omega⟩
      · rename_i hc
        refine ⟨fun p hp => ?_, ?_, by simp⟩
        · rcases List.mem_append.mp hp with hp | hp
          · exact hk p hp
          · simp at hp; subst hp; exact ⟨hpk, [], rfl, by simp⟩
        · rw [List.map_append, List.nodup_append]
          refine ⟨hn, by simp, ?_⟩
          intro a ha b hb
          simp at hb
          subst hb
          rintro rfl
          obtain ⟨p, hp, rfl⟩ := List.mem_map.mp ha
          exact hc (List.any_eq_true.mpr ⟨p, hp, by simp⟩)
    have c2 : appD (ensL kvs k) k v = some (appL (ensL kvs k) k v) := by
      unfold appD
      rw [if_pos]
      refine List.all_eq_true.mpr fun p hp => ?_
      obtain ⟨l, q, ql⟩ := (ens.1 p hp).2
      rw [q]
      exact decide_eq_true (by omega)
    have app : (∀ p ∈ appL (ensL kvs k) k v, P p.1 ∧ ∃ l, p.2 = .list l ∧ l.length ≤ n + 1) ∧ ((appL (ensL kvs k) k v).map (·.1)).Nodup ∧ (appL (ensL kvs k) k v).length = (ensL kvs k).length := by
      unfold appL
      refine ⟨fun p hp => ?_, ?_, List.length_map _⟩
      · obtain ⟨p0, h0, rfl⟩ := List.mem_map.mp hp
        obtain ⟨a1, l, a2, a3⟩ := ens.1 p0 h0
        split
        · exact ⟨a1, l ++ [v], by rw [a2]; rfl, by rw [List.length_append]; simp; omega⟩
        · exact ⟨a1, l, a2, by omega⟩
      · rw [List.map_map]
        have : (fun p : D × D => p.1) ∘ (fun p : D × D => if keyOf p.1 = keyOf k then (p.1, addL v p.2) else p) = fun p : D × D => p.1 := by
          funext p
          simp only [Function.comp]
          split <;> rfl
        rw [this]
        exact ens.2.1
    obtain ⟨kvs', q1, q2, q3, q4⟩ := grpR_keys hP hd (n + 1) ds (appL (ensL kvs k) k v) (fun d hd => h d (List.mem_cons_of_mem _ hd)) app.1 app.2.1 (by omega) (by omega)
    refine ⟨kvs', ?_, q2, q3, by rw [List.length_cons]; omega⟩
    unfold grpR
    rw [e1, R.of_some, R.ok_bind, e2, R.ok_bind, c1, R.of_some, R.ok_bind, e3, R.ok_bind, c2, R.of_some, R.ok_bind]
    exact q1
/-- sorted(..) of pure tuples -/
theorem sorted_pure {d : D} {ds : List D} (hi : items d = some ds) (hp : ∀ x ∈ ds, pureD x = true ∧ x.depth ≤ 64) (ha : ∀ x ∈ ds, ∀ y ∈ ds, PySem.W.alike x y = true) (ht : ∀ x ∈ ds, ∃ y ys, x = .tuple (y :: ys)) : pSorted d = some (.list (sortD ds)) := by
  unfold pSorted
  rw [hi]
  simp only
  rw [if_pos]
  unfold sortOk
  simp only [Bool.and_eq_true]
  refine ⟨⟨?_, ?_⟩, ?_⟩
  · exact List.all_eq_true.mpr fun x hx => List.all_eq_true.mpr fun y hy => ha x hx y hy
  · unfold sortableB
    rw [Bool.or_eq_true]
    refine .inl (List.all_eq_true.mpr fun x hx => ?_)
    obtain ⟨y, ys, rfl⟩ := ht x hx
    rfl
  · refine List.all_eq_true.mpr fun x hx => ?_
    unfold shp SeqAt.shaped
    rw [pure_lay (hp x hx).1]
    simpa using (hp x hx).2
/-! ### rows of numbers -/
def enumF : Nat → List D → List D
  | _, [] => []
  | k, x :: xs => .tuple [.int (k : Nat), x] :: enumF (k + 1) xs
theorem enumF_length : ∀ (k : Nat) (xs : List D), (enumF k xs).length = xs.length
  | _, [] => rfl
  | k, x :: xs => congrArg (· + 1) (enumF_length (k + 1) xs)
theorem enumD_eq (xs : List D) : enumD xs = enumF 0 xs := by
  have : ∀ (xs : List D) (k : Nat), (xs.mapIdx fun i x => PyData.tuple [.int ((k + i : Nat) : Int), x]) = enumF k xs := by
    intro xs
    induction xs with
    | nil => intro k; rfl
    | cons x xs ih =>
      intro k
      rw [List.mapIdx_cons, enumF, ← ih (k + 1)]
      congr 1
      apply List.ext_getElem?
      intro i
      simp only [List.getElem?_mapIdx]
      congr 1
      funext y
      congr 3
      omega
  have := this xs 0
  simpa [enumD] using this
def rangeF : Nat → Nat → List D
  | _, 0 => []
  | k, n + 1 => .int (k : Nat) :: rangeF (k + 1) n
theorem rangeF_length : ∀ (k n : Nat), (rangeF k n).length = n
  | _, 0 => rfl
  | k, n + 1 => congrArg (· + 1) (rangeF_length (k + 1) n)
theorem rangeD_eq (n : Nat) : rangeD 0 n = rangeF 0 n := by
  have : ∀ (n k : Nat), (List.range' k n).map (fun i : Nat => PyData.int (i : Int)) = rangeF k n := by
    intro n
    induction n with
    | zero => intro k; rfl
    | succ n ih => intro k; rw [List.range'_succ, List.map_cons, ih (k + 1)]; rfl
  rw [← this n 0, rangeD, List.range_eq_range']
  apply List.map_congr_left
  intro i _
  simp
theorem rangeF_mem {d : D} : ∀ {k n : Nat}, d ∈ rangeF k n → ∃ i : Nat, k ≤ i ∧ i < k + n ∧ d = .int i
  | _, 0, h => by simp [rangeF] at h
  | k, n + 1, h => by
    rw [rangeF] at h
    rcases List.mem_cons.mp h with rfl | h
    · exact ⟨k, Nat.le_refl _, by omega, rfl⟩
    · obtain ⟨i, h1, h2, h3⟩ := rangeF_mem h
      exact ⟨i, by omega, by omega, h3⟩
end Pu

set_option maxHeartbeats 2000000
namespace Pu
open PySem PySem.Spec L2
/-! ### words worked out -/
@[simp] theorem neK {i j : Int} : pNe (.int i) (.int j) = some (!decide (i = j)) := by
  show (if (shp (.int i) && shp (.int j)) = true then some (!PyData.eqv (.int i) (.int j)) else none) = _
  rw [if_pos (by rfl)]
  rfl
@[simp] theorem leK {i j : Int} : pLe (.int i) (.int j) = some (decide (i ≤ j)) := rfl
@[simp] theorem ltK {i j : Int} : pLt (.int i) (.int j) = some (decide (i < j)) := rfl
@[simp] theorem geK {i j : Int} : pGe (.int i) (.int j) = some (decide (j ≤ i)) := rfl
@[simp] theorem truB {b : Bool} : pTru (.bool b) = some b := rfl
@[simp] theorem ix0 {a : D} {r : List D} : pIx (.tuple (a :: r)) (.int 0) = some a := by
  show atI (a :: r) ((0 : Nat) : Int) = some a
  exact atI_nat rfl
@[simp] theorem ix1 {a b : D} {r : List D} : pIx (.tuple (a :: b :: r)) (.int 1) = some b := by
  show atI (a :: b :: r) ((1 : Nat) : Int) = some b
  exact atI_nat rfl
@[simp] theorem ix2 {a b c : D} {r : List D} : pIx (.tuple (a :: b :: c :: r)) (.int 2) = some c := by
  show atI (a :: b :: c :: r) ((2 : Nat) : Int) = some c
  exact atI_nat rfl
@[simp] theorem ix3 {a b c d : D} {r : List D} : pIx (.tuple (a :: b :: c :: d :: r)) (.int 3) = some d := by
  show atI (a :: b :: c :: d :: r) ((3 : Nat) : Int) = some d
  exact atI_nat rfl
theorem ixT {xs : List D} {i : Nat} {d : D} (h : xs[i]? = some d) : pIx (.tuple xs) (.int (i : Int)) = some d := atI_nat h
theorem ixL {xs : List D} {i : Nat} {d : D} (h : xs[i]? = some d) : pIx (.list xs) (.int (i : Int)) = some d := atI_nat h
@[simp] theorem lenT {xs : List D} : f1 pLen [.tuple xs] = some (.int xs.length) := rfl
@[simp] theorem lenL {xs : List D} : f1 pLen [.list xs] = some (.int xs.length) := rfl
@[simp] theorem negK {i : Int} : pNeg (.int i) = some (.int (-i)) := rfl
@[simp] theorem bind_ite {α β : Type} (p : Prop) [Decidable p] (m n : R α) (f : α → R β) : ((if p then m else n) >>= f) = if p then m >>= f else n >>= f := by split <;> rfl
@[simp] theorem up_ite {α γ β : Type} (p : Prop) [Decidable p] (m n : R (Fl Empty γ β)) : (R.up (if p then m else n) : R (Fl α γ β)) = if p then R.up m else R.up n := by split <;> rfl
@[simp] theorem fin_ite {α : Type} (p : Prop) [Decidable p] (m n : R (Fl α Empty D)) : R.fin (if p then m else n) = if p then R.fin m else R.fin n := by split <;> rfl
theorem LINE_big {n : Nat} (h : n ≤ 100000) : n ≤ LINE := Nat.le_trans h (by decide)
theorem slHT {rs : List D} {k : Nat} (h : k ≤ rs.length) : pSl (.tuple rs) none (some (k : Int)) = some (.tuple (rs.take k)) := by
  have e : min k rs.length = k := by omega
  have n : ¬ ((k : Int) < 0) := by omega
  simp only [pSl, cutD, HT.sIx, n, if_false, Int.toNat_natCast, e]
  simp
theorem slLT {rs : List D} {k : Nat} (h : k ≤ rs.length) : pSl (.tuple rs) (some (k : Int)) none = some (.tuple (rs.drop k)) := by
  have e : min k rs.length = k := by omega
  have n : ¬ ((k : Int) < 0) := by omega
  simp only [pSl, cutD, HT.sIx, n, if_false, Int.toNat_natCast, e]
  rw [List.take_of_length_le (by rw [List.length_drop]; exact Nat.le_refl _)]
theorem Al.thenF {α δ : Type} {N M K : Nat} {m : R (Fl α Empty D)} {f : α → R (Fl δ Empty D)} {I : α → Prop} {P : D → Prop} (h : Al N m fun fl => ∃ s, fl = .nx s ∧ I s) (g : ∀ s, I s → Al M (R.fin (f s)) P) (e : N + M ≤ K) : Al K (R.fin (Fl.then m f)) P := by
  unfold Fl.then
  rw [fin_bind]
  refine h.bind (fun fl hf => ?_) e
  obtain ⟨s, rfl, hs⟩ := hf
  exact g s hs
theorem Al.thenT {α δ γ β : Type} {N M K : Nat} {m : R (Fl α γ β)} {f : α → R (Fl δ γ β)} {I : α → Prop} {P : Fl δ γ β → Prop} (h : Al N m fun fl => ∃ s, fl = .nx s ∧ I s) (g : ∀ s, I s → Al M (f s) P) (e : N + M ≤ K) : Al K (Fl.then m f) P := by
  unfold Fl.then
  refine h.bind (fun fl hf => ?_) e
  obtain ⟨s, rfl, hs⟩ := hf
  exact g s hs
/-- a loop that stops with an answer at the first place that has one -/
def findFrom (g : Nat → Option D) : Nat → Nat → Option D
  | _, 0 => none
  | k, n + 1 => match g k with
    | some r => some r
    | none => findFrom g (k + 1) n
def flOf {γ : Type} : Option D → Fl Unit γ D
  | some r => .rt r
  | none => .nx ()
theorem forR_idx {T γ' : Type} {dec : D → Option T} {step : T → Unit → R (Fl Unit Unit D)} (g : Nat → Option D) : ∀ (n k : Nat) (ds : List D), ds.length = n → (∀ i, i < n → (∀ j, j < k + i → g j = none) → ∃ d t, ds[i]? = some d ∧ dec d = some t ∧ step t () = .ok (flOf (g (k + i)))) → (∀ j, j < k → g j = none) →
    (forR dec step ds () : R (Fl Unit γ' D)) = .ok (flOf (findFrom g k n))
  | 0, k, ds, hl, h, hk => by
    have : ds = [] := List.eq_nil_of_length_eq_zero hl
    subst this
    rfl
  | n + 1, k, ds, hl, h, hk => by
    cases ds with
    | nil => cases hl
    | cons d ds =>
      obtain ⟨d', t, e1, e2, e3⟩ := h 0 (by omega) (by simpa using hk)
      simp at e1
      subst e1
      rw [Nat.add_zero] at e3
      unfold forR findFrom
      rw [e2, R.of_some, R.ok_bind, e3, R.ok_bind]
      cases hg : g k with
      | some r => rfl
      | none =>
        have hk' : ∀ j, j < k + 1 → g j = none := fun j hj => by
          by_cases z : j = k
          · subst z; exact hg
          · exact hk j (by omega)
        exact forR_idx g n (k + 1) ds (by simpa using hl) (fun i hi hj => by
          obtain ⟨d, t, q1, q2, q3⟩ := h (i + 1) (by omega) (fun j z => hj j (by omega))
          exact ⟨d, t, by simpa using q1, q2, by rw [q3]; congr 2; congr 1; omega⟩) hk'
theorem then_none {γ : Type} {f : Unit → R (Fl Unit γ D)} : Fl.then (R.ok (flOf none)) f = f () := by
  unfold Fl.then
  simp only [R.ok_bind, flOf]
theorem then_some {γ : Type} {r : D} {f : Unit → R (Fl Unit γ D)} : Fl.then (R.ok (flOf (some r))) f = R.ok (.rt r) := by
  unfold Fl.then
  simp only [R.ok_bind, flOf]
theorem thenE_none {γ : Type} {f : Unit → R (Fl Empty γ D)} : Fl.then (R.ok (flOf none)) f = f () := by
  unfold Fl.then
  simp only [R.ok_bind, flOf]
theorem thenE_some {γ : Type} {r : D} {f : Unit → R (Fl Empty γ D)} : Fl.then (R.ok (flOf (some r))) f = R.ok (.rt r) := by
  unfold Fl.then
  simp only [R.ok_bind, flOf]
theorem forR_some {T γ' : Type} {dec : D → Option T} {step : T → Unit → R (Fl Unit Unit D)} (f : D → Option D) : ∀ (ds : List D), (∀ d ∈ ds, ∃ t, dec d = some t ∧ step t () = .ok (flOf (f d))) → (forR dec step ds () : R (Fl Unit γ' D)) = .ok (flOf (ds.findSome? f))
  | [], _ => rfl
  | d :: ds, h => by
    obtain ⟨t, e2, e3⟩ := h d (List.mem_cons_self ..)
    unfold forR
    rw [e2, R.of_some, R.ok_bind, e3, R.ok_bind, List.findSome?_cons]
    cases f d with
    | some r => rfl
    | none => exact forR_some f ds fun d hd => h d (List.mem_cons_of_mem _ hd)
theorem enumF_get : ∀ {xs : List D} {k i : Nat} {x : D}, xs[i]? = some x → (enumF k xs)[i]? = some (.tuple [.int ((k + i : Nat) : Int), x])
  | x :: xs, k, 0, y, h => by simp at h; subst h; rfl
  | x :: xs, k, i + 1, y, h => by
    simp only [enumF, List.getElem?_cons_succ]
    rw [enumF_get (by simpa using h)]
    congr 4
    omega
  | [], k, i, y, h => by simp at h
theorem rangeF_get : ∀ {k n i : Nat}, i < n → (rangeF k n)[i]? = some (.int ((k + i : Nat) : Int))
  | k, n + 1, 0, h => rfl
  | k, n + 1, i + 1, h => by
    simp only [rangeF, List.getElem?_cons_succ]
    rw [rangeF_get (by omega)]
    congr 3
    omega
theorem rngK {n : Nat} (h : n ≤ 100000) : pRng1 (.int n) = some (rangeF 0 n) := by
  have e : pRng1 (.int n) = cIf (-(2 ^ 62) ≤ (n : Int) ∧ (n : Int) < 2 ^ 62) (some (rangeD 0 (n : Int).toNat)) none := rfl
  rw [e, cIf_pos ⟨by omega, by omega⟩, Int.toNat_natCast, rangeD_eq]
theorem neB {a b : Bool} : pNe (.bool a) (.bool b) = some (!(a == b)) := by cases a <;> cases b <;> rfl
theorem tup_ok {xs : List D} (h : xs.length ≤ 100000) : mkTup xs = some (.tuple xs) := by
  unfold mkTup
  rw [if_pos (LINE_big h)]
theorem lst_ok {xs : List D} (h : xs.length ≤ 100000) : mkLst xs = some (.list xs) := by
  unfold mkLst
  rw [if_pos (LINE_big h)]
theorem catL_ok {xs ys : List D} (h : xs.length + ys.length ≤ 100000) : pAdd (.list xs) (.list ys) = some (.list (xs ++ ys)) := by
  show (if _ then _ else _) = _
  rw [if_pos (LINE_big h)]
theorem catT_ok {xs ys : List D} (h : xs.length + ys.length ≤ 100000) : pAdd (.tuple xs) (.tuple ys) = some (.tuple (xs ++ ys)) := by
  show (if _ then _ else _) = _
  rw [if_pos (LINE_big h)]
theorem strK {i : Int} (h : i.natAbs < 1000000) : f1 pStr [.int i] = some (.str (toString i)) := by
  show (if _ then _ else _) = _
  rw [if_pos]
  exact Nat.lt_of_le_of_lt (Nat.log2_le_self _) (by omega) |> fun _ => lgK (k := 1920) (by have : (1000000 : Nat) < 2 ^ 1920 := by decide +kernel
                                                                                           omega) (by omega)
theorem powK {i : Int} {n : Nat} (hi : i.natAbs < 1000) (hn : n ≤ 1000) : pPow (.int i) (.int (n : Int)) = some (.int (i ^ n)) := by
  show (pPowI i n).map PyData.int = _
  unfold pPowI
  rw [if_pos ⟨by omega, by omega, by have : (1000 : Nat) < 2 ^ 64 := by decide
                                     omega⟩]
  simp

end Pu

set_option maxHeartbeats 2000000
namespace Pu
namespace K
noncomputable section
open PySem PySem.Spec L2
def top (i : Nat) : Stmt := PySem.Challenge.pw_everystack_k55_checks_judged_and_marked.main.body.getD i (.Pass ⟨0, 0, 0, 0⟩)
abbrev s_is_integer : Stmt := top 8
abbrev s_is_from : Stmt := top 9
abbrev s_is_between : Stmt := top 10
abbrev s_is_index_of : Stmt := top 11
abbrev s_is_ascending : Stmt := top 12
abbrev s_is_word : Stmt := top 13
abbrev s_is_index_row : Stmt := top 14
abbrev s_is_rule : Stmt := top 15
abbrev s_fault_of_system : Stmt := top 16
abbrev s_is_configuration_of : Stmt := top 17
abbrev s_check_number : Stmt := top 18
abbrev s_check_system : Stmt := top 19
abbrev s_check_configuration : Stmt := top 20
abbrev s_rules_at : Stmt := top 22
abbrev s_usable_in : Stmt := top 23
abbrev s_are_checks_in : Stmt := top 25
abbrev s_state_in : Stmt := top 26
abbrev s_is_let : Stmt := top 27
abbrev s_usable_checked_in : Stmt := top 28
abbrev s_marked_word : Stmt := top 29
abbrev s_marked_rules : Stmt := top 30
abbrev s_marked_in : Stmt := top 31
abbrev s_marked_configuration : Stmt := top 32
abbrev s_check_checks : Stmt := top 33
abbrev s_check_checked : Stmt := top 34
abbrev s_are_checks : Stmt := top 35
abbrev s_state_below : Stmt := top 36
abbrev s_usable_checked : Stmt := top 37
abbrev s_marked_system : Stmt := top 38
abbrev s_rule_told : Stmt := top 39
abbrev s_marked : Stmt := top 40
abbrev s_unmarked : Stmt := top 41
abbrev s__law_pot : Stmt := top 43
abbrev s__law_draw : Stmt := top 44
abbrev s__law_one : Stmt := top 45
abbrev s__law_alike : Stmt := top 46
abbrev s__law_system : Stmt := top 47
abbrev s__law_whole : Stmt := top 48
abbrev s__law_checks : Stmt := top 49
abbrev s__law_below : Stmt := top 50
abbrev s__law_usable : Stmt := top 51
abbrev s__law_marks : Stmt := top 52
abbrev s__law_is_numbers : Stmt := top 53
abbrev s__law_are_checks : Stmt := top 54
abbrev s__law_bent : Stmt := top 55
abbrev s__law_marked_rules : Stmt := top 56
abbrev s_law : Stmt := top 57
def c_MOST_OF_A_WORD : D := .int 2
/-- where the defs stand -/
structure Ad where
  f_is_integer : Addr
  d_is_integer : FuncData
  f_is_from : Addr
  d_is_from : FuncData
  f_is_between : Addr
  d_is_between : FuncData
  f_is_index_of : Addr
  d_is_index_of : FuncData
  f_is_ascending : Addr
  d_is_ascending : FuncData
  f_is_word : Addr
  d_is_word : FuncData
  f_is_index_row : Addr
  d_is_index_row : FuncData
  f_is_rule : Addr
  d_is_rule : FuncData
  f_fault_of_system : Addr
  d_fault_of_system : FuncData
  f_is_configuration_of : Addr
  d_is_configuration_of : FuncData
  f_check_number : Addr
  d_check_number : FuncData
  f_check_system : Addr
  d_check_system : FuncData
  f_check_configuration : Addr
  d_check_configuration : FuncData
  f_rules_at : Addr
  d_rules_at : FuncData
  f_usable_in : Addr
  d_usable_in : FuncData
  f_are_checks_in : Addr
  d_are_checks_in : FuncData
  f_state_in : Addr
  d_state_in : FuncData
  f_is_let : Addr
  d_is_let : FuncData
  f_usable_checked_in : Addr
  d_usable_checked_in : FuncData
  f_marked_word : Addr
  d_marked_word : FuncData
  f_marked_rules : Addr
  d_marked_rules : FuncData
  f_marked_in : Addr
  d_marked_in : FuncData
  f_marked_configuration : Addr
  d_marked_configuration : FuncData
  f_check_checks : Addr
  d_check_checks : FuncData
  f_check_checked : Addr
  d_check_checked : FuncData
  f_are_checks : Addr
  d_are_checks : FuncData
  f_state_below : Addr
  d_state_below : FuncData
  f_usable_checked : Addr
  d_usable_checked : FuncData
  f_marked_system : Addr
  d_marked_system : FuncData
  f_rule_told : Addr
  d_rule_told : FuncData
  f_marked : Addr
  d_marked : FuncData
  f_unmarked : Addr
  d_unmarked : FuncData
  f__law_pot : Addr
  d__law_pot : FuncData
  f__law_draw : Addr
  d__law_draw : FuncData
  f__law_one : Addr
  d__law_one : FuncData
  f__law_alike : Addr
  d__law_alike : FuncData
  f__law_system : Addr
  d__law_system : FuncData
  f__law_whole : Addr
  d__law_whole : FuncData
  f__law_checks : Addr
  d__law_checks : FuncData
  f__law_below : Addr
  d__law_below : FuncData
  f__law_usable : Addr
  d__law_usable : FuncData
  f__law_marks : Addr
  d__law_marks : FuncData
  f__law_is_numbers : Addr
  d__law_is_numbers : FuncData
  f__law_are_checks : Addr
  d__law_are_checks : FuncData
  f__law_bent : Addr
  d__law_bent : FuncData
  f__law_marked_rules : Addr
  d__law_marked_rules : FuncData
  f_law : Addr
  d_law : FuncData
  C_InvalidNumber : Addr
  C_InvalidConfiguration : Addr
  C_InvalidChecks : Addr
  C_InvalidSystem : Addr
  i_InvalidSystem : Addr
  a_InvalidSystem : Addr
  e_InvalidSystem : Addr
structure Tx (P : Program) (K : PySem.W.Frag) (mg : Str → Option Value) (a : Ad) : Prop where
  f_is_integer : Df K mg "is_integer" s_is_integer a.f_is_integer a.d_is_integer ["thing"]
  f_is_from : Df K mg "is_from" s_is_from a.f_is_from a.d_is_from ["low", "thing"]
  f_is_between : Df K mg "is_between" s_is_between a.f_is_between a.d_is_between ["low", "thing", "high"]
  f_is_index_of : Df K mg "is_index_of" s_is_index_of a.f_is_index_of a.d_is_index_of ["count", "thing"]
  f_is_ascending : Df K mg "is_ascending" s_is_ascending a.f_is_ascending a.d_is_ascending ["things"]
  f_is_word : Df K mg "is_word" s_is_word a.f_is_word a.d_is_word ["letters", "thing"]
  f_is_index_row : Df K mg "is_index_row" s_is_index_row a.f_is_index_row a.d_is_index_row ["count", "thing"]
  f_is_rule : Df K mg "is_rule" s_is_rule a.f_is_rule a.d_is_rule ["controls", "letters", "thing"]
  f_fault_of_system : Df K mg "fault_of_system" s_fault_of_system a.f_fault_of_system a.d_fault_of_system ["thing"]
  f_is_configuration_of : Df K mg "is_configuration_of" s_is_configuration_of a.f_is_configuration_of a.d_is_configuration_of ["frame", "thing"]
  f_check_number : Df K mg "check_number" s_check_number a.f_check_number a.d_check_number ["thing"]
  f_check_system : Df K mg "check_system" s_check_system a.f_check_system a.d_check_system ["thing"]
  f_check_configuration : Df K mg "check_configuration" s_check_configuration a.f_check_configuration a.d_check_configuration ["frame", "thing"]
  f_rules_at : Df K mg "rules_at" s_rules_at a.f_rules_at a.d_rules_at ["system", "head"]
  f_usable_in : Df K mg "usable_in" s_usable_in a.f_usable_in a.d_usable_in ["system", "configuration"]
  f_are_checks_in : Df K mg "are_checks_in" s_are_checks_in a.f_are_checks_in a.d_are_checks_in ["system", "thing"]
  f_state_in : Df K mg "state_in" s_state_in a.f_state_in a.d_state_in ["checks", "stack"]
  f_is_let : Df K mg "is_let" s_is_let a.f_is_let a.d_is_let ["checks", "index", "state"]
  f_usable_checked_in : Df K mg "usable_checked_in" s_usable_checked_in a.f_usable_checked_in a.d_usable_checked_in ["system", "checks", "configuration"]
  f_marked_word : Df K mg "marked_word" s_marked_word a.f_marked_word a.d_marked_word ["checks", "state", "word"]
  f_marked_rules : Df K mg "marked_rules" s_marked_rules a.f_marked_rules a.d_marked_rules ["system", "checks"]
  f_marked_in : Df K mg "marked_in" s_marked_in a.f_marked_in a.d_marked_in ["system", "checks"]
  f_marked_configuration : Df K mg "marked_configuration" s_marked_configuration a.f_marked_configuration a.d_marked_configuration ["checks", "configuration"]
  f_check_checks : Df K mg "check_checks" s_check_checks a.f_check_checks a.d_check_checks ["system", "thing"]
  f_check_checked : Df K mg "check_checked" s_check_checked a.f_check_checked a.d_check_checked ["system", "checks"]
  f_are_checks : Df K mg "are_checks" s_are_checks a.f_are_checks a.d_are_checks ["system", "value"]
  f_state_below : Df K mg "state_below" s_state_below a.f_state_below a.d_state_below ["system", "checks", "stack"]
  f_usable_checked : Df K mg "usable_checked" s_usable_checked a.f_usable_checked a.d_usable_checked ["system", "checks", "configuration"]
  f_marked_system : Df K mg "marked_system" s_marked_system a.f_marked_system a.d_marked_system ["system", "checks"]
  f_rule_told : Df K mg "rule_told" s_rule_told a.f_rule_told a.d_rule_told ["system", "checks", "number"]
  f_marked : Df K mg "marked" s_marked a.f_marked a.d_marked ["system", "checks", "configuration"]
  f_unmarked : Df K mg "unmarked" s_unmarked a.f_unmarked a.d_unmarked ["system", "checks", "configuration"]
  f__law_pot : Df K mg "_law_pot" s__law_pot a.f__law_pot a.d__law_pot ["script", "at"]
  f__law_draw : Df K mg "_law_draw" s__law_draw a.f__law_draw a.d__law_draw ["pot", "many"]
  f__law_one : Df K mg "_law_one" s__law_one a.f__law_one a.d__law_one ["pot", "rows"]
  f__law_alike : Df K mg "_law_alike" s__law_alike a.f__law_alike a.d__law_alike ["found", "due"]
  f__law_system : Df K mg "_law_system" s__law_system a.f__law_system a.d__law_system ["pot", "controls", "letters", "most", "lengths"]
  f__law_whole : Df K mg "_law_whole" s__law_whole a.f__law_whole a.d__law_whole ["thing"]
  f__law_checks : Df K mg "_law_checks" s__law_checks a.f__law_checks a.d__law_checks ["pot", "frame"]
  f__law_below : Df K mg "_law_below" s__law_below a.f__law_below a.d__law_below ["tests", "stack"]
  f__law_usable : Df K mg "_law_usable" s__law_usable a.f__law_usable a.d__law_usable ["frame", "tests", "at"]
  f__law_marks : Df K mg "_law_marks" s__law_marks a.f__law_marks a.d__law_marks ["tests", "stack"]
  f__law_is_numbers : Df K mg "_law_is_numbers" s__law_is_numbers a.f__law_is_numbers a.d__law_is_numbers ["many", "thing"]
  f__law_are_checks : Df K mg "_law_are_checks" s__law_are_checks a.f__law_are_checks a.d__law_are_checks ["frame", "value"]
  f__law_bent : Df K mg "_law_bent" s__law_bent a.f__law_bent a.d__law_bent ["pot", "frame", "tests"]
  f__law_marked_rules : Df K mg "_law_marked_rules" s__law_marked_rules a.f__law_marked_rules a.d__law_marked_rules ["frame", "tests"]
  f_law : Df K mg "law" s_law a.f_law a.d_law ["script"]
  n_abs : mg "abs" = none
  n_all : mg "all" = none
  n_bool : mg "bool" = none
  n_enumerate : mg "enumerate" = none
  n_int : mg "int" = none
  n_isinstance : mg "isinstance" = none
  n_len : mg "len" = none
  n_list : mg "list" = none
  n_max : mg "max" = none
  n_min : mg "min" = none
  n_range : mg "range" = none
  n_set : mg "set" = none
  n_sorted : mg "sorted" = none
  n_str : mg "str" = none
  n_tuple : mg "tuple" = none
  n_zip : mg "zip" = none
  c_MOST_OF_A_WORD : Kc K mg "MOST_OF_A_WORD" c_MOST_OF_A_WORD
  x_InvalidNumber : Er K mg "InvalidNumber" a.C_InvalidNumber
  x_InvalidConfiguration : Er K mg "InvalidConfiguration" a.C_InvalidConfiguration
  x_InvalidChecks : Er K mg "InvalidChecks" a.C_InvalidChecks
  x_InvalidSystem : Sup.Txt P K mg "InvalidSystem" "InvalidSystem.__init__" a.C_InvalidSystem a.i_InvalidSystem a.a_InvalidSystem a.e_InvalidSystem
section
variable {P : Program} {w : World} {K : PySem.W.Frag} {mg : Str → Option Value} {base : Heap} {a : Ad}
def l_is_integer : List D → R D
  | [x0] => R.fin (α := Empty) ((R.and (R.isi "int" (.ok x0)) (R.nt (R.isi "bool" (.ok x0)))) >>= fun d => .ok (.rt d))
  | _ => .bad
theorem sc_is_integer : FnScope ["thing"] ["thing"] (defScope s_is_integer) := ⟨rfl, rfl, rfl, by decide +kernel, rfl, by decide +kernel, by decide +kernel⟩
theorem ok_is_integer (T : Tx P K mg a) : FnOk P w K mg base (L2.CX P w) 1 a.f_is_integer a.d_is_integer ["thing"] (spD ⟨P, w, K⟩ mg false [false] l_is_integer) :=
  fnD (ks := [false]) T.f_is_integer.F sc_is_integer rfl fun cdv A outer s H E F js ds hj hd => match js, ds, hj, hd with
    | [], [x0], _, _ => .mk (enc := encE) (show PuB _ _ _ _ [.no] _ [.pu x0] _ _ from (b_ret (mk := fun d => d) (pu_and (pu_isi (T := "int") (pu_var 0) rfl (by rfl) T.n_isinstance (by rfl) T.n_int (by decide +kernel)) (pu_one (pu_not (pu_isi (T := "bool") (pu_var 0) rfl (by rfl) T.n_isinstance (by rfl) T.n_bool (by decide +kernel))))) (.no .nil))) (fun z => nomatch z) (by first | rfl | (rw [l_is_integer]))
def l_is_from : List D → R D
  | [x0, x1] => R.fin (α := Empty) ((R.and (R.cal (l_is_integer) [.ok x1]) (R.cmp pGe (.ok x1) (.ok x0))) >>= fun d => .ok (.rt d))
  | _ => .bad
theorem sc_is_from : FnScope ["low", "thing"] ["low", "thing"] (defScope s_is_from) := ⟨rfl, rfl, rfl, by decide +kernel, rfl, by decide +kernel, by decide +kernel⟩
theorem ok_is_from (T : Tx P K mg a) : FnOk P w K mg base (L2.CX P w) 2 a.f_is_from a.d_is_from ["low", "thing"] (spD ⟨P, w, K⟩ mg false [false, false] l_is_from) :=
  fnD (ks := [false, false]) T.f_is_from.F sc_is_from rfl fun cdv A outer s H E F js ds hj hd => match js, ds, hj, hd with
    | [], [x0, x1], _, _ => .mk (enc := encE) (show PuB _ _ _ _ [.no, .no] _ [.pu x0, .pu x1] _ _ from (b_ret (mk := fun d => d) (pu_and (pu_call F.tk (F.room.mono (by decide)) (ok_is_integer T) T.f_is_integer.m T.f_is_integer.k T.f_is_integer.b (pj_cons (pu_var 1) pj_nil)) (pu_one (pu_cmp (op_geP F.lv) (pu_var 1) (pu_var 0) (by rfl)))) (.no (.no .nil)))) (fun z => nomatch z) (by first | rfl | (rw [l_is_from]))
def l_is_between : List D → R D
  | [x0, x1, x2] => R.fin (α := Empty) ((R.and (R.cal (l_is_integer) [.ok x1]) (R.chn pLe pLe (.ok x0) (.ok x1) (.ok x2))) >>= fun d => .ok (.rt d))
  | _ => .bad
theorem sc_is_between : FnScope ["low", "thing", "high"] ["low", "thing", "high"] (defScope s_is_between) := ⟨rfl, rfl, rfl, by decide +kernel, rfl, by decide +kernel, by decide +kernel⟩
theorem ok_is_between (T : Tx P K mg a) : FnOk P w K mg base (L2.CX P w) 2 a.f_is_between a.d_is_between ["low", "thing", "high"] (spD ⟨P, w, K⟩ mg false [false, false, false] l_is_between) :=
  fnD (ks := [false, false, false]) T.f_is_between.F sc_is_between rfl fun cdv A outer s H E F js ds hj hd => match js, ds, hj, hd with
    | [], [x0, x1, x2], _, _ => .mk (enc := encE) (show PuB _ _ _ _ [.no, .no, .no] _ [.pu x0, .pu x1, .pu x2] _ _ from (b_ret (mk := fun d => d) (pu_and (pu_call F.tk (F.room.mono (by decide)) (ok_is_integer T) T.f_is_integer.m T.f_is_integer.k T.f_is_integer.b (pj_cons (pu_var 1) pj_nil)) (pu_one (pu_chain (op_leP F.lv) (op_leP F.lv) (pu_var 0) (pu_var 1) (pu_var 2) (by rfl)))) (.no (.no (.no .nil))))) (fun z => nomatch z) (by first | rfl | (rw [l_is_between]))
def l_is_index_of : List D → R D
  | [x0, x1] => R.fin (α := Empty) ((R.cal (l_is_between) [.ok (.int 0), .ok x1, (R.bin pSub (.ok x0) (.ok (.int 1)))]) >>= fun d => .ok (.rt d))
  | _ => .bad
theorem sc_is_index_of : FnScope ["count", "thing"] ["count", "thing"] (defScope s_is_index_of) := ⟨rfl, rfl, rfl, by decide +kernel, rfl, by decide +kernel, by decide +kernel⟩
theorem ok_is_index_of (T : Tx P K mg a) : FnOk P w K mg base (L2.CX P w) 3 a.f_is_index_of a.d_is_index_of ["count", "thing"] (spD ⟨P, w, K⟩ mg false [false, false] l_is_index_of) :=
  fnD (ks := [false, false]) T.f_is_index_of.F sc_is_index_of rfl fun cdv A outer s H E F js ds hj hd => match js, ds, hj, hd with
    | [], [x0, x1], _, _ => .mk (enc := encE) (show PuB _ _ _ _ [.no, .no] _ [.pu x0, .pu x1] _ _ from (b_ret (mk := fun d => d) (pu_call F.tk (F.room.mono (by decide)) (ok_is_between T) T.f_is_between.m T.f_is_between.k T.f_is_between.b (pj_cons pu_int (pj_cons (pu_var 1) (pj_cons (pu_bin op_subP (pu_var 0) pu_int) pj_nil)))) (.no (.no .nil)))) (fun z => nomatch z) (by first | rfl | (rw [l_is_index_of]))
def l_is_ascending : List D → R D
  | [x0] => R.fin (α := Empty) ((R.blt (f1 pAll) [(R.lc (decTup (decCons decN (decCons decN decNil))) (fun t1 => .ok true) (fun t1 => (R.cmp pLt (.ok t1.1) (.ok t1.2.1))) (R.bin pZip (.ok x0) (R.slL (.ok x0) (.ok (.int 1)))))]) >>= fun d => .ok (.rt d))
  | _ => .bad
theorem sc_is_ascending : FnScope ["things", "part", "later"] ["things"] (defScope s_is_ascending) := ⟨rfl, rfl, rfl, by decide +kernel, rfl, by decide +kernel, by decide +kernel⟩
theorem ok_is_ascending (T : Tx P K mg a) : FnOk P w K mg base (L2.CX P w) 1 a.f_is_ascending a.d_is_ascending ["things"] (spD ⟨P, w, K⟩ mg false [false] l_is_ascending) :=
  fnD (ks := [false]) T.f_is_ascending.F sc_is_ascending rfl fun cdv A outer s H E F js ds hj hd => match js, ds, hj, hd with
    | [], [x0], _, _ => .mk (enc := encE) (show PuB _ _ _ _ [.no, .no, .no] _ [.pu x0, .no, .no] _ _ from (b_ret (mk := fun d => d) (pu_callB (c_all F.lv) (by rfl) T.n_all (by decide +kernel) (pa_cons' (pu_lc F.lv F.nd (blkOk_by (N := ["things", "part", "later"]) (sc := defScope s_is_ascending) (own := [("part", 1), ("later", 2)]) (by first | decide +kernel | kernel_rfl)) (pi_zip' (by rfl) T.n_zip (pu_var 0) (pu_slL (pu_var 0) pu_int)) (fun s H C cl fp => (g_tup F.calm (gs_cons (g_name 1 F.nd) (gs_cons (g_name 2 F.nd) gs_nil (keep_name 2)) (keep_name 1)) (len_cons (len_cons len_nil)))) (by simp) (by simp) (fun t1 => fun s H C cl fp => ts_nil) (fun t1 => fun s H C cl fp => (pu_cmp (op_ltP (Lv.blk F.lv)) (pu_var 1) (pu_var 2) (by rfl))) (keep_cons (keep_name 1) (keep_cons (keep_name 2) keep_nil)) (by simp [ownOf])) pa_nil')) (.no (.no (.no .nil))))) (fun z => nomatch z) (by first | rfl | (rw [l_is_ascending]))
def l_is_word : List D → R D
  | [x0, x1] => R.fin (α := Empty) ((R.and (R.isi "tuple" (.ok x1)) (R.blt (f1 pAll) [(R.lc (decN) (fun t1 => .ok true) (fun t1 => (R.cal (l_is_index_of) [.ok x0, .ok t1])) (R.un pSeq (.ok x1)))])) >>= fun d => .ok (.rt d))
  | _ => .bad
theorem sc_is_word : FnScope ["letters", "thing", "letter"] ["letters", "thing"] (defScope s_is_word) := ⟨rfl, rfl, rfl, by decide +kernel, rfl, by decide +kernel, by decide +kernel⟩
theorem ok_is_word (T : Tx P K mg a) : FnOk P w K mg base (L2.CX P w) 4 a.f_is_word a.d_is_word ["letters", "thing"] (spD ⟨P, w, K⟩ mg false [false, false] l_is_word) :=
  fnD (ks := [false, false]) T.f_is_word.F sc_is_word rfl fun cdv A outer s H E F js ds hj hd => match js, ds, hj, hd with
    | [], [x0, x1], _, _ => .mk (enc := encE) (show PuB _ _ _ _ [.no, .no, .no] _ [.pu x0, .pu x1, .no] _ _ from (b_ret (mk := fun d => d) (pu_and (pu_isi (T := "tuple") (pu_var 1) rfl (by rfl) T.n_isinstance (by rfl) T.n_tuple (by decide +kernel)) (pu_one (pu_callB (c_all F.lv) (by rfl) T.n_all (by decide +kernel) (pa_cons' (pu_lc F.lv F.nd (blkOk_by (N := ["letters", "thing", "letter"]) (sc := defScope s_is_word) (own := [("letter", 2)]) (by first | decide +kernel | kernel_rfl)) (pi_seq (pu_var 1)) (fun s H C cl fp => (g_name 2 F.nd)) (by simp) (by simp) (fun t1 => fun s H C cl fp => ts_nil) (fun t1 => fun s H C cl fp => (pu_call takes0 (F.room.mono (by decide)) (ok_is_index_of T) T.f_is_index_of.m T.f_is_index_of.k T.f_is_index_of.b (pj_cons (pu_var 0) (pj_cons (pu_var 2) pj_nil)))) (keep_name 2) (by simp [ownOf])) pa_nil')))) (.no (.no (.no .nil))))) (fun z => nomatch z) (by first | rfl | (rw [l_is_word]))
def l_is_index_row : List D → R D
  | [x0, x1] => R.fin (α := Empty) ((R.and (R.cal (l_is_word) [.ok x0, .ok x1]) (R.cal (l_is_ascending) [.ok x1])) >>= fun d => .ok (.rt d))
  | _ => .bad
theorem sc_is_index_row : FnScope ["count", "thing"] ["count", "thing"] (defScope s_is_index_row) := ⟨rfl, rfl, rfl, by decide +kernel, rfl, by decide +kernel, by decide +kernel⟩
theorem ok_is_index_row (T : Tx P K mg a) : FnOk P w K mg base (L2.CX P w) 5 a.f_is_index_row a.d_is_index_row ["count", "thing"] (spD ⟨P, w, K⟩ mg false [false, false] l_is_index_row) :=
  fnD (ks := [false, false]) T.f_is_index_row.F sc_is_index_row rfl fun cdv A outer s H E F js ds hj hd => match js, ds, hj, hd with
    | [], [x0, x1], _, _ => .mk (enc := encE) (show PuB _ _ _ _ [.no, .no] _ [.pu x0, .pu x1] _ _ from (b_ret (mk := fun d => d) (pu_and (pu_call F.tk (F.room.mono (by decide)) (ok_is_word T) T.f_is_word.m T.f_is_word.k T.f_is_word.b (pj_cons (pu_var 0) (pj_cons (pu_var 1) pj_nil))) (pu_one (pu_call F.tk (F.room.mono (by decide)) (ok_is_ascending T) T.f_is_ascending.m T.f_is_ascending.k T.f_is_ascending.b (pj_cons (pu_var 1) pj_nil)))) (.no (.no .nil)))) (fun z => nomatch z) (by first | rfl | (rw [l_is_index_row]))
def l_is_rule : List D → R D
  | [x0, x1, x2] => R.fin (α := Empty) ((R.tor (R.tnt (R.tru (R.isi "tuple" (.ok x2)))) (R.tor (R.tcmp pNe (R.blt (f1 pLen) [.ok x2]) (.ok (.int 4))) (R.tnt (R.tru (R.cal (l_is_word) [.ok x1, (R.bin pIx (.ok x2) (.ok (.int 3)))]))))) >>= fun k => if k = true then R.up (.ok (.bool false) >>= fun d => .ok (.rt d)) else ((R.tor (R.tnt (R.tru (R.cal (l_is_index_of) [.ok x0, (R.bin pIx (.ok x2) (.ok (.int 0)))]))) (R.tnt (R.tru (R.cal (l_is_index_of) [.ok x0, (R.bin pIx (.ok x2) (.ok (.int 2)))])))) >>= fun k => if k = true then R.up (.ok (.bool false) >>= fun d => .ok (.rt d)) else ((R.and (R.cal (l_is_index_of) [.ok x1, (R.bin pIx (.ok x2) (.ok (.int 1)))]) (R.cmp pLe (R.blt (f1 pLen) [(R.bin pIx (.ok x2) (.ok (.int 3)))]) (.ok c_MOST_OF_A_WORD))) >>= fun d => .ok (.rt d))))
  | _ => .bad
theorem sc_is_rule : FnScope ["controls", "letters", "thing"] ["controls", "letters", "thing"] (defScope s_is_rule) := ⟨rfl, rfl, rfl, by decide +kernel, rfl, by decide +kernel, by decide +kernel⟩
theorem ok_is_rule (T : Tx P K mg a) : FnOk P w K mg base (L2.CX P w) 5 a.f_is_rule a.d_is_rule ["controls", "letters", "thing"] (spD ⟨P, w, K⟩ mg false [false, false, false] l_is_rule) :=
  fnD (ks := [false, false, false]) T.f_is_rule.F sc_is_rule rfl fun cdv A outer s H E F js ds hj hd => match js, ds, hj, hd with
    | [], [x0, x1, x2], _, _ => .mk (enc := encE) (show PuB _ _ _ _ [.no, .no, .no] _ [.pu x0, .pu x1, .pu x2] _ _ from (b_ifT (PuW.t (pw_or' (pt_not' (pt_tru (pu_isi (T := "tuple") (pu_var 2) rfl (by rfl) T.n_isinstance (by rfl) T.n_tuple (by decide +kernel)))) (pw_or' (pt_cmp (op_neP F.lv) (pu_callB c_len (by rfl) T.n_len (by decide +kernel) (pa_cons' (pu_var 2) pa_nil')) pu_int (by rfl)) (pw_one (pt_not' (pt_tru (pu_call F.tk (F.room.mono (by decide)) (ok_is_word T) T.f_is_word.m T.f_is_word.k T.f_is_word.b (pj_cons (pu_var 1) (pj_cons (pu_ix (pu_var 2) pu_int) pj_nil))))))))) (.no (.no (.no .nil))) (b_ret (mk := fun d => d) pu_bl (.no (.no (.no .nil)))) (b_ifT (PuW.t (pw_or' (pt_not' (pt_tru (pu_call F.tk (F.room.mono (by decide)) (ok_is_index_of T) T.f_is_index_of.m T.f_is_index_of.k T.f_is_index_of.b (pj_cons (pu_var 0) (pj_cons (pu_ix (pu_var 2) pu_int) pj_nil))))) (pw_one (pt_not' (pt_tru (pu_call F.tk (F.room.mono (by decide)) (ok_is_index_of T) T.f_is_index_of.m T.f_is_index_of.k T.f_is_index_of.b (pj_cons (pu_var 0) (pj_cons (pu_ix (pu_var 2) pu_int) pj_nil)))))))) (.no (.no (.no .nil))) (b_ret (mk := fun d => d) pu_bl (.no (.no (.no .nil)))) (b_ret (mk := fun d => d) (pu_and (pu_call F.tk (F.room.mono (by decide)) (ok_is_index_of T) T.f_is_index_of.m T.f_is_index_of.k T.f_is_index_of.b (pj_cons (pu_var 1) (pj_cons (pu_ix (pu_var 2) pu_int) pj_nil))) (pu_one (pu_cmp (op_leP F.lv) (pu_callB c_len (by rfl) T.n_len (by decide +kernel) (pa_cons' (pu_ix (pu_var 2) pu_int) pa_nil')) (pu_const T.c_MOST_OF_A_WORD) (by rfl)))) (.no (.no (.no .nil))))))) (fun z => nomatch z) (by first | rfl | (rw [l_is_rule]))
abbrev lb_fault_of_system_2 (t1 : (D × D × D × Unit)) (t3 : (D × D × Unit)) (s2 : (Unit)) : R (Fl (Unit) (Unit) D) := ((R.tor (R.tnt (R.tru (R.cal (l_is_rule) [.ok t1.1, .ok t1.2.1, .ok t3.2.1]))) (R.tand (R.tcmp pGt (.ok t3.1) (.ok (.int 0))) (R.tcmp pLe (.ok t3.2.1) (R.bin pIx (.ok t1.2.2.1) (R.bin pSub (.ok t3.1) (.ok (.int 1))))))) >>= fun k => if k = true then R.up (.ok t3.1 >>= fun d => .ok (.rt d)) else .ok (.nx (())))
def l_fault_of_system : List D → R D
  | [x0] => R.fin (α := Empty) ((R.tor (R.tnt (R.tru (R.isi "tuple" (.ok x0)))) (R.tor (R.tcmp pNe (R.blt (f1 pLen) [.ok x0]) (.ok (.int 3))) (R.tor (R.tnt (R.tru (R.cal (l_is_from) [.ok (.int 1), (R.bin pIx (.ok x0) (.ok (.int 0)))]))) (R.tnt (R.tru (R.cal (l_is_from) [.ok (.int 1), (R.bin pIx (.ok x0) (.ok (.int 1)))])))))) >>= fun k => if k = true then R.up ((R.un pNeg (.ok (.int 1))) >>= fun d => .ok (.rt d)) else ((R.tnt (R.tru (R.isi "tuple" (R.bin pIx (.ok x0) (.ok (.int 2)))))) >>= fun k => if k = true then R.up ((R.un pNeg (.ok (.int 1))) >>= fun d => .ok (.rt d)) else (.ok x0 >>= fun d => R.of ((decTup (decCons decN (decCons decN (decCons decN decNil)))) d) >>= fun t1 => ((R.un pEnum (.ok t1.2.2.1)) >>= fun ds => Fl.then (forR (decTup (decCons decN (decCons decN decNil))) (lb_fault_of_system_2 t1) ds (())) fun s2 => (.ok .none >>= fun d => .ok (.rt d))))))
  | _ => .bad
theorem sc_fault_of_system : FnScope ["thing", "controls", "letters", "rules", "index", "rule"] ["thing"] (defScope s_fault_of_system) := ⟨rfl, rfl, rfl, by decide +kernel, rfl, by decide +kernel, by decide +kernel⟩
theorem ok_fault_of_system (T : Tx P K mg a) : FnOk P w K mg base (L2.CX P w) 6 a.f_fault_of_system a.d_fault_of_system ["thing"] (spD ⟨P, w, K⟩ mg false [false] l_fault_of_system) :=
  fnD (ks := [false]) T.f_fault_of_system.F sc_fault_of_system rfl fun cdv A outer s H E F js ds hj hd => match js, ds, hj, hd with
    | [], [x0], _, _ => .mk (enc := encE) (show PuB _ _ _ _ [.no, .no, .no, .no, .no, .no] _ [.pu x0, .no, .no, .no, .no, .no] _ _ from (b_ifT (PuW.t (pw_or' (pt_not' (pt_tru (pu_isi (T := "tuple") (pu_var 0) rfl (by rfl) T.n_isinstance (by rfl) T.n_tuple (by decide +kernel)))) (pw_or' (pt_cmp (op_neP F.lv) (pu_callB c_len (by rfl) T.n_len (by decide +kernel) (pa_cons' (pu_var 0) pa_nil')) pu_int (by rfl)) (pw_or' (pt_not' (pt_tru (pu_call F.tk (F.room.mono (by decide)) (ok_is_from T) T.f_is_from.m T.f_is_from.k T.f_is_from.b (pj_cons pu_int (pj_cons (pu_ix (pu_var 0) pu_int) pj_nil))))) (pw_one (pt_not' (pt_tru (pu_call F.tk (F.room.mono (by decide)) (ok_is_from T) T.f_is_from.m T.f_is_from.k T.f_is_from.b (pj_cons pu_int (pj_cons (pu_ix (pu_var 0) pu_int) pj_nil)))))))))) (.no (.no (.no (.no (.no (.no .nil)))))) (b_ret (mk := fun d => d) (pu_neg pu_int) (.no (.no (.no (.no (.no (.no .nil))))))) (b_ifT (pt_not' (pt_tru (pu_isi (T := "tuple") (pu_ix (pu_var 0) pu_int) rfl (by rfl) T.n_isinstance (by rfl) T.n_tuple (by decide +kernel)))) (.no (.no (.no (.no (.no (.no .nil)))))) (b_ret (mk := fun d => d) (pu_neg pu_int) (.no (.no (.no (.no (.no (.no .nil))))))) (b_tgt (pu_var 0) (.no (.no (.no (.no (.no (.no .nil)))))) (g_tup F.calm (gs_cons (g_name 1 F.nd) (gs_cons (g_name 2 F.nd) (gs_cons (g_name 3 F.nd) gs_nil (keep_name 3)) (keep_name 2)) (keep_name 1)) (len_cons (len_cons (len_cons len_nil)))) (fun t1 => (b_for (enc0 := (fun s2 : Unit => [.pu x0, .pu t1.1, .pu t1.2.1, .pu t1.2.2.1, .no, .no])) (()) F (pi_enum' (by rfl) T.n_enumerate (pu_var 3)) (.no (.no (.no (.no (.no (.no .nil)))))) (.eq (.eq (.eq (.eq (.no (.no .nil)))))) (g_tup F.calm (gs_cons (g_name 4 F.nd) (gs_cons (g_name 5 F.nd) gs_nil (keep_name 5)) (keep_name 4)) (len_cons (len_cons len_nil))) (by simp) (fun t3 s2 => (b_ifT (PuW.t (pw_or' (pt_not' (pt_tru (pu_call F.tk (F.room.mono (by decide)) (ok_is_rule T) T.f_is_rule.m T.f_is_rule.k T.f_is_rule.b (pj_cons (pu_var 1) (pj_cons (pu_var 2) (pj_cons (pu_var 5) pj_nil)))))) (pw_one (PuW.t (pw_and' (pt_cmp (op_gtP F.lv) (pu_var 4) pu_int (by rfl)) (pw_one (pt_cmp (op_leP F.lv) (pu_var 5) (pu_ix (pu_var 3) (pu_bin op_subP (pu_var 4) pu_int)) (by rfl)))))))) (.no (.no (.no (.no (.no (.no .nil)))))) (b_ret (mk := fun d => d) (pu_var 4) (.no (.no (.no (.no (.no (.no .nil))))))) (b_nil (a := (())) (.eq (.eq (.eq (.eq (.no (.no .nil))))))))) (fun s2 => (b_ret (mk := fun d => d) pu_non (.no (.no (.no (.no (.no (.no .nil)))))))))) (by simp))))) (fun z => nomatch z) (by first | rfl | (rw [l_fault_of_system]))
def l_is_configuration_of : List D → R D
  | [x0, x1] => R.fin (α := Empty) ((R.tor (R.tnt (R.tru (R.isi "tuple" (.ok x1)))) (R.tor (R.tcmp pNe (R.blt (f1 pLen) [.ok x1]) (.ok (.int 2))) (R.tnt (R.tru (R.cal (l_is_index_of) [(R.bin pIx (.ok x0) (.ok (.int 0))), (R.bin pIx (.ok x1) (.ok (.int 0)))]))))) >>= fun k => if k = true then R.up (.ok (.bool false) >>= fun d => .ok (.rt d)) else ((R.cal (l_is_word) [(R.bin pIx (.ok x0) (.ok (.int 1))), (R.bin pIx (.ok x1) (.ok (.int 1)))]) >>= fun d => .ok (.rt d)))
  | _ => .bad
theorem sc_is_configuration_of : FnScope ["frame", "thing"] ["frame", "thing"] (defScope s_is_configuration_of) := ⟨rfl, rfl, rfl, by decide +kernel, rfl, by decide +kernel, by decide +kernel⟩
theorem ok_is_configuration_of (T : Tx P K mg a) : FnOk P w K mg base (L2.CX P w) 5 a.f_is_configuration_of a.d_is_configuration_of ["frame", "thing"] (spD ⟨P, w, K⟩ mg false [false, false] l_is_configuration_of) :=
  fnD (ks := [false, false]) T.f_is_configuration_of.F sc_is_configuration_of rfl fun cdv A outer s H E F js ds hj hd => match js, ds, hj, hd with
    | [], [x0, x1], _, _ => .mk (enc := encE) (show PuB _ _ _ _ [.no, .no] _ [.pu x0, .pu x1] _ _ from (b_ifT (PuW.t (pw_or' (pt_not' (pt_tru (pu_isi (T := "tuple") (pu_var 1) rfl (by rfl) T.n_isinstance (by rfl) T.n_tuple (by decide +kernel)))) (pw_or' (pt_cmp (op_neP F.lv) (pu_callB c_len (by rfl) T.n_len (by decide +kernel) (pa_cons' (pu_var 1) pa_nil')) pu_int (by rfl)) (pw_one (pt_not' (pt_tru (pu_call F.tk (F.room.mono (by decide)) (ok_is_index_of T) T.f_is_index_of.m T.f_is_index_of.k T.f_is_index_of.b (pj_cons (pu_ix (pu_var 0) pu_int) (pj_cons (pu_ix (pu_var 1) pu_int) pj_nil))))))))) (.no (.no .nil)) (b_ret (mk := fun d => d) pu_bl (.no (.no .nil))) (b_ret (mk := fun d => d) (pu_call F.tk (F.room.mono (by decide)) (ok_is_word T) T.f_is_word.m T.f_is_word.k T.f_is_word.b (pj_cons (pu_ix (pu_var 0) pu_int) (pj_cons (pu_ix (pu_var 1) pu_int) pj_nil))) (.no (.no .nil))))) (fun z => nomatch z) (by first | rfl | (rw [l_is_configuration_of]))
def l_check_number : List D → R D
  | [x0] => R.fin (α := Unit) ((R.tnt (R.tru (R.cal (l_is_from) [.ok (.int 0), .ok x0]))) >>= fun k => if k = true then R.up (.exc "InvalidNumber" none) else .ok (.nx ()))
  | _ => .bad
theorem sc_check_number : FnScope ["thing"] ["thing"] (defScope s_check_number) := ⟨rfl, rfl, rfl, by decide +kernel, rfl, by decide +kernel, by decide +kernel⟩
theorem ok_check_number (T : Tx P K mg a) : FnOk P w K mg base (L2.CX P w) 3 a.f_check_number a.d_check_number ["thing"] (spD ⟨P, w, K⟩ mg false [false] l_check_number) :=
  fnD (ks := [false]) T.f_check_number.F sc_check_number rfl fun cdv A outer s H E F js ds hj hd => match js, ds, hj, hd with
    | [], [x0], _, _ => .mk (enc := (fun _ => [.no])) (show PuB _ _ _ _ [.no] _ [.pu x0] _ _ from (b_ifT (pt_not' (pt_tru (pu_call F.tk (F.room.mono (by decide)) (ok_is_from T) T.f_is_from.m T.f_is_from.k T.f_is_from.b (pj_cons pu_int (pj_cons (pu_var 0) pj_nil))))) (.no .nil) (b_raiseT F T.x_InvalidNumber (.no .nil)) (b_nil (a := ()) (.no .nil)))) (fun _ => ⟨rfl, by simp⟩) (by first | rfl | (rw [l_check_number]))
def l_check_system : List D → R D
  | [x0] => R.fin (α := Unit) ((R.cal (l_fault_of_system) [.ok x0]) >>= fun v1 => ((R.tcmp pNotN (.ok v1) (.ok .none)) >>= fun k => if k = true then R.up (.ok v1 >>= fun d => .exc "InvalidSystem" (some d)) else .ok (.nx ())))
  | _ => .bad
theorem sc_check_system : FnScope ["thing", "fault"] ["thing"] (defScope s_check_system) := ⟨rfl, rfl, rfl, by decide +kernel, rfl, by decide +kernel, by decide +kernel⟩
theorem ok_check_system (T : Tx P K mg a) : FnOk P w K mg base (L2.CX P w) 7 a.f_check_system a.d_check_system ["thing"] (spD ⟨P, w, K⟩ mg false [false] l_check_system) :=
  fnD (ks := [false]) T.f_check_system.F sc_check_system rfl fun cdv A outer s H E F js ds hj hd => match js, ds, hj, hd with
    | [], [x0], _, _ => .mk (enc := (fun _ => [.no, .no])) (show PuB _ _ _ _ [.no, .no] _ [.pu x0, .no] _ _ from (b_set 1 F.nd (pu_call F.tk (F.room.mono (by decide)) (ok_fault_of_system T) T.f_fault_of_system.m T.f_fault_of_system.k T.f_fault_of_system.b (pj_cons (pu_var 0) pj_nil)) (.no (.no .nil)) (fun v1 => (b_ifT (pt_cmp op_notNP (pu_var 1) pu_non (by rfl)) (.no (.no .nil)) (b_raiseO F T.x_InvalidSystem (pu_var 1) (.no (.no .nil))) (b_nil (a := ()) (.no (.no .nil))))))) (fun _ => ⟨rfl, by simp⟩) (by first | rfl | (rw [l_check_system]))
def l_check_configuration : List D → R D
  | [x0, x1] => R.fin (α := Unit) ((R.tnt (R.tru (R.cal (l_is_configuration_of) [.ok x0, .ok x1]))) >>= fun k => if k = true then R.up (.exc "InvalidConfiguration" none) else .ok (.nx ()))
  | _ => .bad
theorem sc_check_configuration : FnScope ["frame", "thing"] ["frame", "thing"] (defScope s_check_configuration) := ⟨rfl, rfl, rfl, by decide +kernel, rfl, by decide +kernel, by decide +kernel⟩
theorem ok_check_configuration (T : Tx P K mg a) : FnOk P w K mg base (L2.CX P w) 6 a.f_check_configuration a.d_check_configuration ["frame", "thing"] (spD ⟨P, w, K⟩ mg false [false, false] l_check_configuration) :=
  fnD (ks := [false, false]) T.f_check_configuration.F sc_check_configuration rfl fun cdv A outer s H E F js ds hj hd => match js, ds, hj, hd with
    | [], [x0, x1], _, _ => .mk (enc := (fun _ => [.no, .no])) (show PuB _ _ _ _ [.no, .no] _ [.pu x0, .pu x1] _ _ from (b_ifT (pt_not' (pt_tru (pu_call F.tk (F.room.mono (by decide)) (ok_is_configuration_of T) T.f_is_configuration_of.m T.f_is_configuration_of.k T.f_is_configuration_of.b (pj_cons (pu_var 0) (pj_cons (pu_var 1) pj_nil))))) (.no (.no .nil)) (b_raiseT F T.x_InvalidConfiguration (.no (.no .nil))) (b_nil (a := ()) (.no (.no .nil))))) (fun _ => ⟨rfl, by simp⟩) (by first | rfl | (rw [l_check_configuration]))
def l_rules_at : List D → R D
  | [x0, x1] => R.fin (α := Empty) ((R.lc (decTup (decCons decN (decCons decN decNil))) (fun t1 => (R.tcmp pEq (R.slH (.ok t1.2.1) (.ok (.int 2))) (.ok x1))) (fun t1 => .ok t1.1) (R.un pEnum (R.bin pIx (.ok x0) (.ok (.int 2))))) >>= fun d => .ok (.rt d))
  | _ => .bad
theorem sc_rules_at : FnScope ["system", "head", "index", "rule"] ["system", "head"] (defScope s_rules_at) := ⟨rfl, rfl, rfl, by decide +kernel, rfl, by decide +kernel, by decide +kernel⟩
theorem ok_rules_at (T : Tx P K mg a) : FnOk P w K mg base (L2.CX P w) 1 a.f_rules_at a.d_rules_at ["system", "head"] (spD ⟨P, w, K⟩ mg false [false, false] l_rules_at) :=
  fnD (ks := [false, false]) T.f_rules_at.F sc_rules_at rfl fun cdv A outer s H E F js ds hj hd => match js, ds, hj, hd with
    | [], [x0, x1], _, _ => .mk (enc := encE) (show PuB _ _ _ _ [.no, .no, .no, .no] _ [.pu x0, .pu x1, .no, .no] _ _ from (b_ret (mk := fun d => d) (pu_lc F.lv F.nd (blkOk_by (N := ["system", "head", "index", "rule"]) (sc := defScope s_rules_at) (own := [("index", 2), ("rule", 3)]) (by first | decide +kernel | kernel_rfl)) (pi_enum' (by rfl) T.n_enumerate (pu_ix (pu_var 0) pu_int)) (fun s H C cl fp => (g_tup F.calm (gs_cons (g_name 2 F.nd) (gs_cons (g_name 3 F.nd) gs_nil (keep_name 3)) (keep_name 2)) (len_cons (len_cons len_nil)))) (by simp) (by simp) (fun t1 => fun s H C cl fp => (ts_one (pt_cmp (op_eqP (Lv.blk F.lv)) (pu_slH (pu_var 3) pu_int) (pu_var 1) (by rfl)))) (fun t1 => fun s H C cl fp => (pu_var 2)) (keep_cons (keep_name 2) (keep_cons (keep_name 3) keep_nil)) (by simp [ownOf])) (.no (.no (.no (.no .nil)))))) (fun z => nomatch z) (by first | rfl | (rw [l_rules_at]))
def l_usable_in : List D → R D
  | [x0, x1] => R.fin (α := Empty) (.ok x1 >>= fun d => R.of ((decTup (decCons decN (decCons decN decNil))) d) >>= fun t1 => ((R.ite (R.tcmp pNe (.ok t1.2.1) (R.tup [])) (R.cal (l_rules_at) [.ok x0, (R.tup [.ok t1.1, (R.bin pIx (.ok t1.2.1) (.ok (.int 0)))])]) (R.lst [])) >>= fun d => .ok (.rt d)))
  | _ => .bad
theorem sc_usable_in : FnScope ["system", "configuration", "control", "stack"] ["system", "configuration"] (defScope s_usable_in) := ⟨rfl, rfl, rfl, by decide +kernel, rfl, by decide +kernel, by decide +kernel⟩
theorem ok_usable_in (T : Tx P K mg a) : FnOk P w K mg base (L2.CX P w) 2 a.f_usable_in a.d_usable_in ["system", "configuration"] (spD ⟨P, w, K⟩ mg false [false, false] l_usable_in) :=
  fnD (ks := [false, false]) T.f_usable_in.F sc_usable_in rfl fun cdv A outer s H E F js ds hj hd => match js, ds, hj, hd with
    | [], [x0, x1], _, _ => .mk (enc := encE) (show PuB _ _ _ _ [.no, .no, .no, .no] _ [.pu x0, .pu x1, .no, .no] _ _ from (b_tgt (pu_var 1) (.no (.no (.no (.no .nil)))) (g_tup F.calm (gs_cons (g_name 2 F.nd) (gs_cons (g_name 3 F.nd) gs_nil (keep_name 3)) (keep_name 2)) (len_cons (len_cons len_nil))) (fun t1 => (b_ret (mk := fun d => d) (pu_if (pt_cmp (op_neP F.lv) (pu_var 3) (pu_tup pa_nil') (by rfl)) (pu_call F.tk (F.room.mono (by decide)) (ok_rules_at T) T.f_rules_at.m T.f_rules_at.k T.f_rules_at.b (pj_cons (pu_var 0) (pj_cons (pu_tup (pa_cons' (pu_var 2) (pa_cons' (pu_ix (pu_var 3) pu_int) pa_nil'))) pj_nil))) (pu_lst pa_nil')) (.no (.no (.no (.no .nil)))))) (by simp))) (fun z => nomatch z) (by first | rfl | (rw [l_usable_in]))
def l_are_checks_in : List D → R D
  | [x0, x1] => R.fin (α := Empty) ((R.tor (R.tnt (R.tru (R.isi "tuple" (.ok x1)))) (R.tor (R.tcmp pNe (R.blt (f1 pLen) [.ok x1]) (.ok (.int 3))) (R.tnt (R.tru (R.cal (l_is_from) [.ok (.int 1), (R.bin pIx (.ok x1) (.ok (.int 0)))]))))) >>= fun k => if k = true then R.up (.ok (.bool false) >>= fun d => .ok (.rt d)) else (.ok x1 >>= fun d => R.of ((decTup (decCons decN (decCons decN (decCons decN decNil)))) d) >>= fun t1 => ((R.tor (R.tnt (R.tru (R.isi "tuple" (.ok t1.2.1)))) (R.tor (R.tcmp pNe (R.blt (f1 pLen) [.ok t1.2.1]) (.ok t1.1)) (R.tnt (R.tru (R.isi "tuple" (.ok t1.2.2.1)))))) >>= fun k => if k = true then R.up (.ok (.bool false) >>= fun d => .ok (.rt d)) else ((R.tor (R.tnt (R.tru (R.blt (f1 pAll) [(R.lc (decN) (fun t2 => .ok true) (fun t2 => (R.and (R.cal (l_is_word) [.ok t1.1, .ok t2]) (R.cmp pEq (R.blt (f1 pLen) [.ok t2]) (R.bin pIx (.ok x0) (.ok (.int 1)))))) (R.un pSeq (.ok t1.2.1)))]))) (R.tcmp pNe (R.blt (f1 pLen) [.ok t1.2.2.1]) (R.blt (f1 pLen) [(R.bin pIx (.ok x0) (.ok (.int 2)))]))) >>= fun k => if k = true then R.up (.ok (.bool false) >>= fun d => .ok (.rt d)) else ((R.blt (f1 pAll) [(R.lc (decN) (fun t3 => .ok true) (fun t3 => (R.or (R.cmp pIsN (.ok t3) (.ok .none)) (R.cal (l_is_index_row) [.ok t1.1, .ok t3]))) (R.un pSeq (.ok t1.2.2.1)))]) >>= fun d => .ok (.rt d))))))
  | _ => .bad
theorem sc_are_checks_in : FnScope ["system", "thing", "states", "table", "allowed", "one", "row"] ["system", "thing"] (defScope s_are_checks_in) := ⟨rfl, rfl, rfl, by decide +kernel, rfl, by decide +kernel, by decide +kernel⟩
theorem ok_are_checks_in (T : Tx P K mg a) : FnOk P w K mg base (L2.CX P w) 6 a.f_are_checks_in a.d_are_checks_in ["system", "thing"] (spD ⟨P, w, K⟩ mg false [false, false] l_are_checks_in) :=
  fnD (ks := [false, false]) T.f_are_checks_in.F sc_are_checks_in rfl fun cdv A outer s H E F js ds hj hd => match js, ds, hj, hd with
    | [], [x0, x1], _, _ => .mk (enc := encE) (show PuB _ _ _ _ [.no, .no, .no, .no, .no, .no, .no] _ [.pu x0, .pu x1, .no, .no, .no, .no, .no] _ _ from (b_ifT (PuW.t (pw_or' (pt_not' (pt_tru (pu_isi (T := "tuple") (pu_var 1) rfl (by rfl) T.n_isinstance (by rfl) T.n_tuple (by decide +kernel)))) (pw_or' (pt_cmp (op_neP F.lv) (pu_callB c_len (by rfl) T.n_len (by decide +kernel) (pa_cons' (pu_var 1) pa_nil')) pu_int (by rfl)) (pw_one (pt_not' (pt_tru (pu_call F.tk (F.room.mono (by decide)) (ok_is_from T) T.f_is_from.m T.f_is_from.k T.f_is_from.b (pj_cons pu_int (pj_cons (pu_ix (pu_var 1) pu_int) pj_nil))))))))) (.no (.no (.no (.no (.no (.no (.no .nil))))))) (b_ret (mk := fun d => d) pu_bl (.no (.no (.no (.no (.no (.no (.no .nil)))))))) (b_tgt (pu_var 1) (.no (.no (.no (.no (.no (.no (.no .nil))))))) (g_tup F.calm (gs_cons (g_name 2 F.nd) (gs_cons (g_name 3 F.nd) (gs_cons (g_name 4 F.nd) gs_nil (keep_name 4)) (keep_name 3)) (keep_name 2)) (len_cons (len_cons (len_cons len_nil)))) (fun t1 => (b_ifT (PuW.t (pw_or' (pt_not' (pt_tru (pu_isi (T := "tuple") (pu_var 3) rfl (by rfl) T.n_isinstance (by rfl) T.n_tuple (by decide +kernel)))) (pw_or' (pt_cmp (op_neP F.lv) (pu_callB c_len (by rfl) T.n_len (by decide +kernel) (pa_cons' (pu_var 3) pa_nil')) (pu_var 2) (by rfl)) (pw_one (pt_not' (pt_tru (pu_isi (T := "tuple") (pu_var 4) rfl (by rfl) T.n_isinstance (by rfl) T.n_tuple (by decide +kernel)))))))) (.no (.no (.no (.no (.no (.no (.no .nil))))))) (b_ret (mk := fun d => d) pu_bl (.no (.no (.no (.no (.no (.no (.no .nil)))))))) (b_ifT (PuW.t (pw_or' (pt_not' (pt_tru (pu_callB (c_all F.lv) (by rfl) T.n_all (by decide +kernel) (pa_cons' (pu_lc F.lv F.nd (blkOk_by (N := ["system", "thing", "states", "table", "allowed", "one", "row"]) (sc := defScope s_are_checks_in) (own := [("row", 6)]) (by first | decide +kernel | kernel_rfl)) (pi_seq (pu_var 3)) (fun s H C cl fp => (g_name 6 F.nd)) (by simp) (by simp) (fun t2 => fun s H C cl fp => ts_nil) (fun t2 => fun s H C cl fp => (pu_and (pu_call takes0 (F.room.mono (by decide)) (ok_is_word T) T.f_is_word.m T.f_is_word.k T.f_is_word.b (pj_cons (pu_var 2) (pj_cons (pu_var 6) pj_nil))) (pu_one (pu_cmp (op_eqP (Lv.blk F.lv)) (pu_callB c_len (by rfl) T.n_len (by decide +kernel) (pa_cons' (pu_var 6) pa_nil')) (pu_ix (pu_var 0) pu_int) (by rfl))))) (keep_name 6) (by simp [ownOf])) pa_nil')))) (pw_one (pt_cmp (op_neP F.lv) (pu_callB c_len (by rfl) T.n_len (by decide +kernel) (pa_cons' (pu_var 4) pa_nil')) (pu_callB c_len (by rfl) T.n_len (by decide +kernel) (pa_cons' (pu_ix (pu_var 0) pu_int) pa_nil')) (by rfl))))) (.no (.no (.no (.no (.no (.no (.no .nil))))))) (b_ret (mk := fun d => d) pu_bl (.no (.no (.no (.no (.no (.no (.no .nil)))))))) (b_ret (mk := fun d => d) (pu_callB (c_all F.lv) (by rfl) T.n_all (by decide +kernel) (pa_cons' (pu_lc F.lv F.nd (blkOk_by (N := ["system", "thing", "states", "table", "allowed", "one", "row"]) (sc := defScope s_are_checks_in) (own := [("one", 5)]) (by first | decide +kernel | kernel_rfl)) (pi_seq (pu_var 4)) (fun s H C cl fp => (g_name 5 F.nd)) (by simp) (by simp) (fun t3 => fun s H C cl fp => ts_nil) (fun t3 => fun s H C cl fp => (pu_or (pu_cmp op_isNP (pu_var 5) pu_non (by rfl)) (pu_one (pu_call takes0 (F.room.mono (by decide)) (ok_is_index_row T) T.f_is_index_row.m T.f_is_index_row.k T.f_is_index_row.b (pj_cons (pu_var 2) (pj_cons (pu_var 5) pj_nil)))))) (keep_name 5) (by simp [ownOf])) pa_nil')) (.no (.no (.no (.no (.no (.no (.no .nil))))))))))) (by simp)))) (fun z => nomatch z) (by first | rfl | (rw [l_are_checks_in]))
abbrev lb_state_in_2 (x0 : D) (t3 : D) (s2 : (D × Unit)) : R (Fl (D × Unit) (D × Unit) D) := ((R.bin pIx (R.bin pIx (R.bin pIx (.ok x0) (.ok (.int 1))) (.ok s2.1)) (.ok t3)) >>= fun v4 => .ok (.nx (v4, ())))
def l_state_in : List D → R D
  | [x0, x1] => R.fin (α := Empty) (.ok (.int 0) >>= fun v1 => ((R.un pSeq (R.un pRevT (.ok x1))) >>= fun ds => Fl.then (forR decN (lb_state_in_2 x0) ds (v1, ())) fun s2 => (.ok s2.1 >>= fun d => .ok (.rt d))))
  | _ => .bad
theorem sc_state_in : FnScope ["checks", "stack", "state", "letter"] ["checks", "stack"] (defScope s_state_in) := ⟨rfl, rfl, rfl, by decide +kernel, rfl, by decide +kernel, by decide +kernel⟩
theorem ok_state_in (T : Tx P K mg a) : FnOk P w K mg base (L2.CX P w) 1 a.f_state_in a.d_state_in ["checks", "stack"] (spD ⟨P, w, K⟩ mg false [false, false] l_state_in) :=
  fnD (ks := [false, false]) T.f_state_in.F sc_state_in rfl fun cdv A outer s H E F js ds hj hd => match js, ds, hj, hd with
    | [], [x0, x1], _, _ => .mk (enc := encE) (show PuB _ _ _ _ [.no, .no, .no, .no] _ [.pu x0, .pu x1, .no, .no] _ _ from (b_set 2 F.nd pu_int (.no (.no (.no (.no .nil)))) (fun v1 => (b_for (enc0 := (fun s2 : D × Unit => [.pu x0, .pu x1, .pu s2.1, .no])) (v1, ()) F (pi_seq (pu_revT (pu_var 1))) (.no (.no (.no (.no .nil)))) (.eq (.eq (.eq (.no .nil)))) (g_name 3 F.nd) (by simp) (fun t3 s2 => (b_set 2 F.nd (pu_ix (pu_ix (pu_ix (pu_var 0) pu_int) (pu_var 2)) (pu_var 3)) (.no (.no (.no (.no .nil)))) (fun v4 => (b_nil (a := (v4, ())) (.eq (.eq (.eq (.no .nil)))))))) (fun s2 => (b_ret (mk := fun d => d) (pu_var 2) (.no (.no (.no (.no .nil)))))))))) (fun z => nomatch z) (by first | rfl | (rw [l_state_in]))
def l_is_let : List D → R D
  | [x0, x1, x2] => R.fin (α := Empty) ((R.or (R.cmp pIsN (R.bin pIx (R.bin pIx (.ok x0) (.ok (.int 2))) (.ok x1)) (.ok .none)) (R.cmp pIn (.ok x2) (R.bin pIx (R.bin pIx (.ok x0) (.ok (.int 2))) (.ok x1)))) >>= fun d => .ok (.rt d))
  | _ => .bad
theorem sc_is_let : FnScope ["checks", "index", "state"] ["checks", "index", "state"] (defScope s_is_let) := ⟨rfl, rfl, rfl, by decide +kernel, rfl, by decide +kernel, by decide +kernel⟩
theorem ok_is_let (T : Tx P K mg a) : FnOk P w K mg base (L2.CX P w) 1 a.f_is_let a.d_is_let ["checks", "index", "state"] (spD ⟨P, w, K⟩ mg false [false, false, false] l_is_let) :=
  fnD (ks := [false, false, false]) T.f_is_let.F sc_is_let rfl fun cdv A outer s H E F js ds hj hd => match js, ds, hj, hd with
    | [], [x0, x1, x2], _, _ => .mk (enc := encE) (show PuB _ _ _ _ [.no, .no, .no] _ [.pu x0, .pu x1, .pu x2] _ _ from (b_ret (mk := fun d => d) (pu_or (pu_cmp op_isNP (pu_ix (pu_ix (pu_var 0) pu_int) (pu_var 1)) pu_non (by rfl)) (pu_one (pu_cmp (op_inP F.lv) (pu_var 2) (pu_ix (pu_ix (pu_var 0) pu_int) (pu_var 1)) (by rfl)))) (.no (.no (.no .nil))))) (fun z => nomatch z) (by first | rfl | (rw [l_is_let]))
def l_usable_checked_in : List D → R D
  | [x0, x1, x2] => R.fin (α := Empty) ((R.cal (l_state_in) [.ok x1, (R.slL (R.bin pIx (.ok x2) (.ok (.int 1))) (.ok (.int 1)))]) >>= fun v1 => ((R.lc (decN) (fun t2 => (R.tru (R.cal (l_is_let) [.ok x1, .ok t2, .ok v1]))) (fun t2 => .ok t2) (R.un pSeq (R.cal (l_usable_in) [.ok x0, .ok x2]))) >>= fun d => .ok (.rt d)))
  | _ => .bad
theorem sc_usable_checked_in : FnScope ["system", "checks", "configuration", "state", "index"] ["system", "checks", "configuration"] (defScope s_usable_checked_in) := ⟨rfl, rfl, rfl, by decide +kernel, rfl, by decide +kernel, by decide +kernel⟩
theorem ok_usable_checked_in (T : Tx P K mg a) : FnOk P w K mg base (L2.CX P w) 3 a.f_usable_checked_in a.d_usable_checked_in ["system", "checks", "configuration"] (spD ⟨P, w, K⟩ mg false [false, false, false] l_usable_checked_in) :=
  fnD (ks := [false, false, false]) T.f_usable_checked_in.F sc_usable_checked_in rfl fun cdv A outer s H E F js ds hj hd => match js, ds, hj, hd with
    | [], [x0, x1, x2], _, _ => .mk (enc := encE) (show PuB _ _ _ _ [.no, .no, .no, .no, .no] _ [.pu x0, .pu x1, .pu x2, .no, .no] _ _ from (b_set 3 F.nd (pu_call F.tk (F.room.mono (by decide)) (ok_state_in T) T.f_state_in.m T.f_state_in.k T.f_state_in.b (pj_cons (pu_var 1) (pj_cons (pu_slL (pu_ix (pu_var 2) pu_int) pu_int) pj_nil))) (.no (.no (.no (.no (.no .nil))))) (fun v1 => (b_ret (mk := fun d => d) (pu_lc F.lv F.nd (blkOk_by (N := ["system", "checks", "configuration", "state", "index"]) (sc := defScope s_usable_checked_in) (own := [("index", 4)]) (by first | decide +kernel | kernel_rfl)) (pi_seq (pu_call F.tk (F.room.mono (by decide)) (ok_usable_in T) T.f_usable_in.m T.f_usable_in.k T.f_usable_in.b (pj_cons (pu_var 0) (pj_cons (pu_var 2) pj_nil)))) (fun s H C cl fp => (g_name 4 F.nd)) (by simp) (by simp) (fun t2 => fun s H C cl fp => (ts_one (pt_tru (pu_call takes0 (F.room.mono (by decide)) (ok_is_let T) T.f_is_let.m T.f_is_let.k T.f_is_let.b (pj_cons (pu_var 1) (pj_cons (pu_var 4) (pj_cons (pu_var 3) pj_nil))))))) (fun t2 => fun s H C cl fp => (pu_var 4)) (keep_name 4) (by simp [ownOf])) (.no (.no (.no (.no (.no .nil))))))))) (fun z => nomatch z) (by first | rfl | (rw [l_usable_checked_in]))
abbrev lb_marked_word_2 (x0 : D) (t3 : D) (s2 : (D × D × Unit)) : R (Fl (D × D × Unit) (D × D × Unit) D) := ((((R.bin pAdd (R.bin pMul (.ok t3) (R.bin pIx (.ok x0) (.ok (.int 0)))) (.ok s2.1)) >>= fun x => (.ok s2.2.1 >>= fun x => R.of (pSeq x) >>= fun xs => (R.ok ([] : List D)) >>= fun ys => R.ok (xs ++ ys)) >>= fun xs => R.ok (x :: xs)) >>= fun xs => R.of (mkTup xs)) >>= fun v4 => ((R.bin pIx (R.bin pIx (R.bin pIx (.ok x0) (.ok (.int 1))) (.ok s2.1)) (.ok t3)) >>= fun v5 => .ok (.nx (v5, v4, ()))))
def l_marked_word : List D → R D
  | [x0, x1, x2] => R.fin (α := Empty) ((R.tup []) >>= fun v1 => ((R.un pSeq (R.un pRevT (.ok x2))) >>= fun ds => Fl.then (forR decN (lb_marked_word_2 x0) ds (x1, v1, ())) fun s2 => (.ok s2.2.1 >>= fun d => .ok (.rt d))))
  | _ => .bad
theorem sc_marked_word : FnScope ["checks", "state", "word", "found", "letter"] ["checks", "state", "word"] (defScope s_marked_word) := ⟨rfl, rfl, rfl, by decide +kernel, rfl, by decide +kernel, by decide +kernel⟩
theorem ok_marked_word (T : Tx P K mg a) : FnOk P w K mg base (L2.CX P w) 1 a.f_marked_word a.d_marked_word ["checks", "state", "word"] (spD ⟨P, w, K⟩ mg false [false, false, false] l_marked_word) :=
  fnD (ks := [false, false, false]) T.f_marked_word.F sc_marked_word rfl fun cdv A outer s H E F js ds hj hd => match js, ds, hj, hd with
    | [], [x0, x1, x2], _, _ => .mk (enc := encE) (show PuB _ _ _ _ [.no, .no, .no, .no, .no] _ [.pu x0, .pu x1, .pu x2, .no, .no] _ _ from (b_set 3 F.nd (pu_tup pa_nil') (.no (.no (.no (.no (.no .nil))))) (fun v1 => (b_for (enc0 := (fun s2 : D × D × Unit => [.pu x0, .pu s2.1, .pu x2, .pu s2.2.1, .no])) (x1, v1, ()) F (pi_seq (pu_revT (pu_var 2))) (.no (.no (.no (.no (.no .nil))))) (.eq (.eq (.eq (.eq (.no .nil))))) (g_name 4 F.nd) (by simp) (fun t3 s2 => (b_set 3 F.nd (pu_tup (pa_cons' (pu_bin op_addP (pu_bin op_mulP (pu_var 4) (pu_ix (pu_var 0) pu_int)) (pu_var 1)) (pa_star' (pu_var 3) pa_nil'))) (.no (.no (.no (.no (.no .nil))))) (fun v4 => (b_set 1 F.nd (pu_ix (pu_ix (pu_ix (pu_var 0) pu_int) (pu_var 1)) (pu_var 4)) (.no (.no (.no (.no (.no .nil))))) (fun v5 => (b_nil (a := (v5, v4, ())) (.eq (.eq (.eq (.eq (.no .nil))))))))))) (fun s2 => (b_ret (mk := fun d => d) (pu_var 3) (.no (.no (.no (.no (.no .nil))))))))))) (fun z => nomatch z) (by first | rfl | (rw [l_marked_word]))
abbrev lb_marked_rules_6 (x1 : D) (t5 : (D × (D × D × D × D × Unit) × Unit)) (v1 : D) (t7 : D) (s6 : (List D × Unit)) : R (Fl (List D × Unit) (List D × Unit) D) := ((R.tru (R.cal (l_is_let) [.ok x1, .ok t5.1, .ok t7])) >>= fun k => if k = true then ((R.tup [(R.tup [.ok t5.2.1.1, (R.bin pAdd (R.bin pMul (.ok t5.2.1.2.1) (.ok v1)) (.ok t7)), .ok t5.2.1.2.2.1, (R.cal (l_marked_word) [.ok x1, .ok t7, .ok t5.2.1.2.2.2.1])]), .ok t5.1]) >>= fun v8 => if s6.1.length < LINE then .ok (.nx ((s6.1 ++ [v8]), ())) else .bad) else .ok (.nx (s6.1, ())))
abbrev lb_marked_rules_4 (v1 : D) (x1 : D) (t5 : (D × (D × D × D × D × Unit) × Unit)) (s4 : (List D × Unit)) : R (Fl (List D × Unit) (List D × Unit) D) := ((R.un pRng1 (.ok v1)) >>= fun ds => Fl.then (forR decN (lb_marked_rules_6 x1 t5 v1) ds (s4.1, ())) fun s6 => .ok (.nx (s6.1, ())))
def l_marked_rules : List D → R D
  | [x0, x1] => R.fin (α := Empty) ((R.bin pIx (.ok x1) (.ok (.int 0))) >>= fun d9 => ((R.lst []) >>= fun d10 => (fun ds => match ds with | [v1, .list l3] => ((R.un pEnum (R.bin pIx (.ok x0) (.ok (.int 2)))) >>= fun ds => Fl.then (forR (decTup (decCons decN (decCons (decTup (decCons decN (decCons decN (decCons decN (decCons decN decNil))))) decNil))) (lb_marked_rules_4 v1 x1) ds (l3, ())) fun s4 => ((R.blt (f1 pSorted) [.ok (.list s4.1)]) >>= fun d => .ok (.rt d))) | _ => .bad) [d9, d10]))
  | _ => .bad
theorem sc_marked_rules : FnScope ["system", "checks", "states", "found", "index", "control", "letter", "goal", "word", "state"] ["system", "checks"] (defScope s_marked_rules) := ⟨rfl, rfl, rfl, by decide +kernel, rfl, by decide +kernel, by decide +kernel⟩
theorem ok_marked_rules (T : Tx P K mg a) : FnOk P w K mg base (L2.CX P w) 2 a.f_marked_rules a.d_marked_rules ["system", "checks"] (spD ⟨P, w, K⟩ mg false [false, false] l_marked_rules) :=
  fnD (ks := [false, false]) T.f_marked_rules.F sc_marked_rules rfl fun cdv A outer s H E F js ds hj hd => match js, ds, hj, hd with
    | [], [x0, x1], _, _ => .mk (enc := encE) (show PuB _ _ _ _ [.no, .no, .no, .no, .no, .no, .no, .no, .no, .no] _ [.pu x0, .pu x1, .no, .no, .no, .no, .no, .no, .no, .no] _ _ from (b_parV 2 3 F (f := (fun ds => match ds with | [v1, .list l3] => ((R.un pEnum (R.bin pIx (.ok x0) (.ok (.int 2)))) >>= fun ds => Fl.then (forR (decTup (decCons decN (decCons (decTup (decCons decN (decCons decN (decCons decN (decCons decN decNil))))) decNil))) (lb_marked_rules_4 v1 x1) ds (l3, ())) fun s4 => ((R.blt (f1 pSorted) [.ok (.list s4.1)]) >>= fun d => .ok (.rt d))) | _ => .bad)) (v_dat (pu_ix (pu_var 1) pu_int) (.no (.no (.no (.no (.no (.no (.no (.no (.no (.no .nil)))))))))) (fun d9 => (v_own (po_lst pa_nil') (.no (.no (.no (.no (.no (.no (.no (.no (.no (.no .nil)))))))))) (fun d10 => v_nil)))) (fun _ a2 v1 c11 => (match c11 with | .list l3 => (b_for (enc0 := (fun s4 : List D × Unit => [.pu x0, .pu x1, .pu v1, .ce a2 (.list s4.1), .no, .no, .no, .no, .no, .no])) (l3, ()) F (pi_enum' (by rfl) T.n_enumerate (pu_ix (pu_var 0) pu_int)) (.no (.no (.no (.no (.no (.no (.no (.no (.no (.no .nil)))))))))) (.eq (.eq (.eq (.eq (.no (.no (.no (.no (.no (.no .nil)))))))))) (g_tup F.calm (gs_cons (g_name 4 F.nd) (gs_cons (g_tup F.calm (gs_cons (g_name 5 F.nd) (gs_cons (g_name 6 F.nd) (gs_cons (g_name 7 F.nd) (gs_cons (g_name 8 F.nd) gs_nil (keep_name 8)) (keep_name 7)) (keep_name 6)) (keep_name 5)) (len_cons (len_cons (len_cons (len_cons len_nil))))) gs_nil (keep_cons (keep_name 5) (keep_cons (keep_name 6) (keep_cons (keep_name 7) (keep_cons (keep_name 8) keep_nil))))) (keep_name 4)) (len_cons (len_cons len_nil))) (by simp) (fun t5 s4 => (b_for (enc0 := (fun s6 : List D × Unit => [.pu x0, .pu x1, .pu v1, .ce a2 (.list s6.1), .pu t5.1, .pu t5.2.1.1, .pu t5.2.1.2.1, .pu t5.2.1.2.2.1, .pu t5.2.1.2.2.2.1, .no])) (s4.1, ()) F (pi_rng1 (by rfl) T.n_range (pu_var 2)) (.no (.no (.no (.no (.no (.no (.no (.no (.no (.no .nil)))))))))) (.eq (.eq (.eq (.eq (.eq (.eq (.eq (.eq (.eq (.no .nil)))))))))) (g_name 9 F.nd) (by simp) (fun t7 s6 => (b_ifl (pt_tru (pu_call F.tk (F.room.mono (by decide)) (ok_is_let T) T.f_is_let.m T.f_is_let.k T.f_is_let.b (pj_cons (pu_var 1) (pj_cons (pu_var 4) (pj_cons (pu_var 9) pj_nil))))) (.no (.no (.no (.no (.no (.no (.no (.no (.no (.no .nil)))))))))) (b_app (a := a2) 3 (pu_tup (pa_cons' (pu_tup (pa_cons' (pu_var 5) (pa_cons' (pu_bin op_addP (pu_bin op_mulP (pu_var 6) (pu_var 2)) (pu_var 9)) (pa_cons' (pu_var 7) (pa_cons' (pu_call F.tk (F.room.mono (by decide)) (ok_marked_word T) T.f_marked_word.m T.f_marked_word.k T.f_marked_word.b (pj_cons (pu_var 1) (pj_cons (pu_var 9) (pj_cons (pu_var 8) pj_nil)))) pa_nil'))))) (pa_cons' (pu_var 4) pa_nil'))) (.no (.no (.no (.no (.no (.no (.no (.no (.no (.no .nil)))))))))) (fun v8 => (b_nil (a := ((s6.1 ++ [v8]), ())) (.eq (.eq (.eq (.eq (.eq (.eq (.eq (.eq (.eq (.no .nil))))))))))))) (b_nil (a := (s6.1, ())) (.eq (.eq (.eq (.eq (.eq (.eq (.eq (.eq (.eq (.no .nil))))))))))))) (fun s6 => (b_nil (a := (s6.1, ())) (.eq (.eq (.eq (.eq (.no (.no (.no (.no (.no (.no .nil)))))))))))))) (fun s4 => (b_frz 3 (b_ret (mk := fun d => d) (pu_callB (c_sorted F.lv) (by rfl) T.n_sorted (by decide +kernel) (pa_cons' (pu_var 3) pa_nil')) (.no (.no (.no (.no (.no (.no (.no (.no (.no (.no .nil)))))))))))))) | .none => b_bad | .bool _ => b_bad | .int _ => b_bad | .str _ => b_bad | .tuple _ => b_bad | .dict _ => b_bad)))) (fun z => nomatch z) (by first | rfl | (rw [l_marked_rules]))
def l_marked_in : List D → R D
  | [x0, x1] => R.fin (α := Empty) ((R.blt (f1 pTuple) [(R.lc (decTup (decCons decN (decCons decN decNil))) (fun t1 => .ok true) (fun t1 => .ok t1.1) (R.un pSeq (R.cal (l_marked_rules) [.ok x0, .ok x1])))]) >>= fun v2 => ((R.tup [(R.bin pIx (.ok x0) (.ok (.int 0))), (R.bin pMul (R.bin pIx (.ok x0) (.ok (.int 1))) (R.bin pIx (.ok x1) (.ok (.int 0)))), .ok v2]) >>= fun d => .ok (.rt d)))
  | _ => .bad
theorem sc_marked_in : FnScope ["system", "checks", "rules", "rule", "index"] ["system", "checks"] (defScope s_marked_in) := ⟨rfl, rfl, rfl, by decide +kernel, rfl, by decide +kernel, by decide +kernel⟩
theorem ok_marked_in (T : Tx P K mg a) : FnOk P w K mg base (L2.CX P w) 3 a.f_marked_in a.d_marked_in ["system", "checks"] (spD ⟨P, w, K⟩ mg false [false, false] l_marked_in) :=
  fnD (ks := [false, false]) T.f_marked_in.F sc_marked_in rfl fun cdv A outer s H E F js ds hj hd => match js, ds, hj, hd with
    | [], [x0, x1], _, _ => .mk (enc := encE) (show PuB _ _ _ _ [.no, .no, .no, .no, .no] _ [.pu x0, .pu x1, .no, .no, .no] _ _ from (b_set 2 F.nd (pu_callT c_tuple (by rfl) T.n_tuple (by decide +kernel) (pa_cons' (pu_lc F.lv F.nd (blkOk_by (N := ["system", "checks", "rules", "rule", "index"]) (sc := defScope s_marked_in) (own := [("rule", 3), ("index", 4)]) (by first | decide +kernel | kernel_rfl)) (pi_seq (pu_call F.tk (F.room.mono (by decide)) (ok_marked_rules T) T.f_marked_rules.m T.f_marked_rules.k T.f_marked_rules.b (pj_cons (pu_var 0) (pj_cons (pu_var 1) pj_nil)))) (fun s H C cl fp => (g_tup F.calm (gs_cons (g_name 3 F.nd) (gs_cons (g_name 4 F.nd) gs_nil (keep_name 4)) (keep_name 3)) (len_cons (len_cons len_nil)))) (by simp) (by simp) (fun t1 => fun s H C cl fp => ts_nil) (fun t1 => fun s H C cl fp => (pu_var 3)) (keep_cons (keep_name 3) (keep_cons (keep_name 4) keep_nil)) (by simp [ownOf])) pa_nil')) (.no (.no (.no (.no (.no .nil))))) (fun v2 => (b_ret (mk := fun d => d) (pu_tup (pa_cons' (pu_ix (pu_var 0) pu_int) (pa_cons' (pu_bin op_mulP (pu_ix (pu_var 0) pu_int) (pu_ix (pu_var 1) pu_int)) (pa_cons' (pu_var 2) pa_nil')))) (.no (.no (.no (.no (.no .nil))))))))) (fun z => nomatch z) (by first | rfl | (rw [l_marked_in]))
def l_marked_configuration : List D → R D
  | [x0, x1] => R.fin (α := Empty) ((R.tup [(R.bin pIx (.ok x1) (.ok (.int 0))), (R.cal (l_marked_word) [.ok x0, .ok (.int 0), (R.bin pIx (.ok x1) (.ok (.int 1)))])]) >>= fun d => .ok (.rt d))
  | _ => .bad
theorem sc_marked_configuration : FnScope ["checks", "configuration"] ["checks", "configuration"] (defScope s_marked_configuration) := ⟨rfl, rfl, rfl, by decide +kernel, rfl, by decide +kernel, by decide +kernel⟩
theorem ok_marked_configuration (T : Tx P K mg a) : FnOk P w K mg base (L2.CX P w) 2 a.f_marked_configuration a.d_marked_configuration ["checks", "configuration"] (spD ⟨P, w, K⟩ mg false [false, false] l_marked_configuration) :=
  fnD (ks := [false, false]) T.f_marked_configuration.F sc_marked_configuration rfl fun cdv A outer s H E F js ds hj hd => match js, ds, hj, hd with
    | [], [x0, x1], _, _ => .mk (enc := encE) (show PuB _ _ _ _ [.no, .no] _ [.pu x0, .pu x1] _ _ from (b_ret (mk := fun d => d) (pu_tup (pa_cons' (pu_ix (pu_var 1) pu_int) (pa_cons' (pu_call F.tk (F.room.mono (by decide)) (ok_marked_word T) T.f_marked_word.m T.f_marked_word.k T.f_marked_word.b (pj_cons (pu_var 0) (pj_cons pu_int (pj_cons (pu_ix (pu_var 1) pu_int) pj_nil)))) pa_nil'))) (.no (.no .nil)))) (fun z => nomatch z) (by first | rfl | (rw [l_marked_configuration]))
def l_check_checks : List D → R D
  | [x0, x1] => R.fin (α := Unit) ((R.tnt (R.tru (R.cal (l_are_checks_in) [.ok x0, .ok x1]))) >>= fun k => if k = true then R.up (.exc "InvalidChecks" none) else .ok (.nx ()))
  | _ => .bad
theorem sc_check_checks : FnScope ["system", "thing"] ["system", "thing"] (defScope s_check_checks) := ⟨rfl, rfl, rfl, by decide +kernel, rfl, by decide +kernel, by decide +kernel⟩
theorem ok_check_checks (T : Tx P K mg a) : FnOk P w K mg base (L2.CX P w) 7 a.f_check_checks a.d_check_checks ["system", "thing"] (spD ⟨P, w, K⟩ mg false [false, false] l_check_checks) :=
  fnD (ks := [false, false]) T.f_check_checks.F sc_check_checks rfl fun cdv A outer s H E F js ds hj hd => match js, ds, hj, hd with
    | [], [x0, x1], _, _ => .mk (enc := (fun _ => [.no, .no])) (show PuB _ _ _ _ [.no, .no] _ [.pu x0, .pu x1] _ _ from (b_ifT (pt_not' (pt_tru (pu_call F.tk (F.room.mono (by decide)) (ok_are_checks_in T) T.f_are_checks_in.m T.f_are_checks_in.k T.f_are_checks_in.b (pj_cons (pu_var 0) (pj_cons (pu_var 1) pj_nil))))) (.no (.no .nil)) (b_raiseT F T.x_InvalidChecks (.no (.no .nil))) (b_nil (a := ()) (.no (.no .nil))))) (fun _ => ⟨rfl, by simp⟩) (by first | rfl | (rw [l_check_checks]))
def l_check_checked : List D → R D
  | [x0, x1] => R.fin (α := Unit) ((R.cal (l_check_system) [.ok x0]) >>= fun _ => ((R.cal (l_check_checks) [.ok x0, .ok x1]) >>= fun _ => .ok (.nx ())))
  | _ => .bad
theorem sc_check_checked : FnScope ["system", "checks"] ["system", "checks"] (defScope s_check_checked) := ⟨rfl, rfl, rfl, by decide +kernel, rfl, by decide +kernel, by decide +kernel⟩
theorem ok_check_checked (T : Tx P K mg a) : FnOk P w K mg base (L2.CX P w) 8 a.f_check_checked a.d_check_checked ["system", "checks"] (spD ⟨P, w, K⟩ mg false [false, false] l_check_checked) :=
  fnD (ks := [false, false]) T.f_check_checked.F sc_check_checked rfl fun cdv A outer s H E F js ds hj hd => match js, ds, hj, hd with
    | [], [x0, x1], _, _ => .mk (enc := (fun _ => [.no, .no])) (show PuB _ _ _ _ [.no, .no] _ [.pu x0, .pu x1] _ _ from (b_expr (pu_call F.tk (F.room.mono (by decide)) (ok_check_system T) T.f_check_system.m T.f_check_system.k T.f_check_system.b (pj_cons (pu_var 0) pj_nil)) (.no (.no .nil)) (b_expr (pu_call F.tk (F.room.mono (by decide)) (ok_check_checks T) T.f_check_checks.m T.f_check_checks.k T.f_check_checks.b (pj_cons (pu_var 0) (pj_cons (pu_var 1) pj_nil))) (.no (.no .nil)) (b_nil (a := ()) (.no (.no .nil)))))) (fun _ => ⟨rfl, by simp⟩) (by first | rfl | (rw [l_check_checked]))
def l_are_checks : List D → R D
  | [x0, x1] => R.fin (α := Empty) ((R.cal (l_check_system) [.ok x0]) >>= fun _ => ((R.cal (l_are_checks_in) [.ok x0, .ok x1]) >>= fun d => .ok (.rt d)))
  | _ => .bad
theorem sc_are_checks : FnScope ["system", "value"] ["system", "value"] (defScope s_are_checks) := ⟨rfl, rfl, rfl, by decide +kernel, rfl, by decide +kernel, by decide +kernel⟩
theorem ok_are_checks (T : Tx P K mg a) : FnOk P w K mg base (L2.CX P w) 8 a.f_are_checks a.d_are_checks ["system", "value"] (spD ⟨P, w, K⟩ mg false [false, false] l_are_checks) :=
  fnD (ks := [false, false]) T.f_are_checks.F sc_are_checks rfl fun cdv A outer s H E F js ds hj hd => match js, ds, hj, hd with
    | [], [x0, x1], _, _ => .mk (enc := encE) (show PuB _ _ _ _ [.no, .no] _ [.pu x0, .pu x1] _ _ from (b_expr (pu_call F.tk (F.room.mono (by decide)) (ok_check_system T) T.f_check_system.m T.f_check_system.k T.f_check_system.b (pj_cons (pu_var 0) pj_nil)) (.no (.no .nil)) (b_ret (mk := fun d => d) (pu_call F.tk (F.room.mono (by decide)) (ok_are_checks_in T) T.f_are_checks_in.m T.f_are_checks_in.k T.f_are_checks_in.b (pj_cons (pu_var 0) (pj_cons (pu_var 1) pj_nil))) (.no (.no .nil))))) (fun z => nomatch z) (by first | rfl | (rw [l_are_checks]))
def l_state_below : List D → R D
  | [x0, x1, x2] => R.fin (α := Empty) ((R.cal (l_check_checked) [.ok x0, .ok x1]) >>= fun _ => ((R.tnt (R.tru (R.cal (l_is_word) [(R.bin pIx (.ok x0) (.ok (.int 1))), .ok x2]))) >>= fun k => if k = true then R.up (.exc "InvalidConfiguration" none) else ((R.cal (l_state_in) [.ok x1, .ok x2]) >>= fun d => .ok (.rt d))))
  | _ => .bad
theorem sc_state_below : FnScope ["system", "checks", "stack"] ["system", "checks", "stack"] (defScope s_state_below) := ⟨rfl, rfl, rfl, by decide +kernel, rfl, by decide +kernel, by decide +kernel⟩
theorem ok_state_below (T : Tx P K mg a) : FnOk P w K mg base (L2.CX P w) 9 a.f_state_below a.d_state_below ["system", "checks", "stack"] (spD ⟨P, w, K⟩ mg false [false, false, false] l_state_below) :=
  fnD (ks := [false, false, false]) T.f_state_below.F sc_state_below rfl fun cdv A outer s H E F js ds hj hd => match js, ds, hj, hd with
    | [], [x0, x1, x2], _, _ => .mk (enc := encE) (show PuB _ _ _ _ [.no, .no, .no] _ [.pu x0, .pu x1, .pu x2] _ _ from (b_expr (pu_call F.tk (F.room.mono (by decide)) (ok_check_checked T) T.f_check_checked.m T.f_check_checked.k T.f_check_checked.b (pj_cons (pu_var 0) (pj_cons (pu_var 1) pj_nil))) (.no (.no (.no .nil))) (b_ifT (pt_not' (pt_tru (pu_call F.tk (F.room.mono (by decide)) (ok_is_word T) T.f_is_word.m T.f_is_word.k T.f_is_word.b (pj_cons (pu_ix (pu_var 0) pu_int) (pj_cons (pu_var 2) pj_nil))))) (.no (.no (.no .nil))) (b_raiseT F T.x_InvalidConfiguration (.no (.no (.no .nil)))) (b_ret (mk := fun d => d) (pu_call F.tk (F.room.mono (by decide)) (ok_state_in T) T.f_state_in.m T.f_state_in.k T.f_state_in.b (pj_cons (pu_var 1) (pj_cons (pu_var 2) pj_nil))) (.no (.no (.no .nil))))))) (fun z => nomatch z) (by first | rfl | (rw [l_state_below]))
def l_usable_checked : List D → R D
  | [x0, x1, x2] => R.fin (α := Empty) ((R.cal (l_check_checked) [.ok x0, .ok x1]) >>= fun _ => ((R.cal (l_check_configuration) [.ok x0, .ok x2]) >>= fun _ => ((R.cal (l_usable_checked_in) [.ok x0, .ok x1, .ok x2]) >>= fun d => .ok (.rt d))))
  | _ => .bad
theorem sc_usable_checked : FnScope ["system", "checks", "configuration"] ["system", "checks", "configuration"] (defScope s_usable_checked) := ⟨rfl, rfl, rfl, by decide +kernel, rfl, by decide +kernel, by decide +kernel⟩
theorem ok_usable_checked (T : Tx P K mg a) : FnOk P w K mg base (L2.CX P w) 9 a.f_usable_checked a.d_usable_checked ["system", "checks", "configuration"] (spD ⟨P, w, K⟩ mg false [false, false, false] l_usable_checked) :=
  fnD (ks := [false, false, false]) T.f_usable_checked.F sc_usable_checked rfl fun cdv A outer s H E F js ds hj hd => match js, ds, hj, hd with
    | [], [x0, x1, x2], _, _ => .mk (enc := encE) (show PuB _ _ _ _ [.no, .no, .no] _ [.pu x0, .pu x1, .pu x2] _ _ from (b_expr (pu_call F.tk (F.room.mono (by decide)) (ok_check_checked T) T.f_check_checked.m T.f_check_checked.k T.f_check_checked.b (pj_cons (pu_var 0) (pj_cons (pu_var 1) pj_nil))) (.no (.no (.no .nil))) (b_expr (pu_call F.tk (F.room.mono (by decide)) (ok_check_configuration T) T.f_check_configuration.m T.f_check_configuration.k T.f_check_configuration.b (pj_cons (pu_var 0) (pj_cons (pu_var 2) pj_nil))) (.no (.no (.no .nil))) (b_ret (mk := fun d => d) (pu_call F.tk (F.room.mono (by decide)) (ok_usable_checked_in T) T.f_usable_checked_in.m T.f_usable_checked_in.k T.f_usable_checked_in.b (pj_cons (pu_var 0) (pj_cons (pu_var 1) (pj_cons (pu_var 2) pj_nil)))) (.no (.no (.no .nil))))))) (fun z => nomatch z) (by first | rfl | (rw [l_usable_checked]))
def l_marked_system : List D → R D
  | [x0, x1] => R.fin (α := Empty) ((R.cal (l_check_checked) [.ok x0, .ok x1]) >>= fun _ => ((R.cal (l_marked_in) [.ok x0, .ok x1]) >>= fun d => .ok (.rt d)))
  | _ => .bad
theorem sc_marked_system : FnScope ["system", "checks"] ["system", "checks"] (defScope s_marked_system) := ⟨rfl, rfl, rfl, by decide +kernel, rfl, by decide +kernel, by decide +kernel⟩
theorem ok_marked_system (T : Tx P K mg a) : FnOk P w K mg base (L2.CX P w) 9 a.f_marked_system a.d_marked_system ["system", "checks"] (spD ⟨P, w, K⟩ mg false [false, false] l_marked_system) :=
  fnD (ks := [false, false]) T.f_marked_system.F sc_marked_system rfl fun cdv A outer s H E F js ds hj hd => match js, ds, hj, hd with
    | [], [x0, x1], _, _ => .mk (enc := encE) (show PuB _ _ _ _ [.no, .no] _ [.pu x0, .pu x1] _ _ from (b_expr (pu_call F.tk (F.room.mono (by decide)) (ok_check_checked T) T.f_check_checked.m T.f_check_checked.k T.f_check_checked.b (pj_cons (pu_var 0) (pj_cons (pu_var 1) pj_nil))) (.no (.no .nil)) (b_ret (mk := fun d => d) (pu_call F.tk (F.room.mono (by decide)) (ok_marked_in T) T.f_marked_in.m T.f_marked_in.k T.f_marked_in.b (pj_cons (pu_var 0) (pj_cons (pu_var 1) pj_nil))) (.no (.no .nil))))) (fun z => nomatch z) (by first | rfl | (rw [l_marked_system]))
def l_rule_told : List D → R D
  | [x0, x1, x2] => R.fin (α := Empty) ((R.cal (l_check_checked) [.ok x0, .ok x1]) >>= fun _ => ((R.cal (l_check_number) [.ok x2]) >>= fun _ => ((R.cal (l_marked_rules) [.ok x0, .ok x1]) >>= fun v1 => ((R.tcmp pGe (.ok x2) (R.blt (f1 pLen) [.ok v1])) >>= fun k => if k = true then R.up (.exc "InvalidNumber" none) else ((R.bin pIx (R.bin pIx (.ok v1) (.ok x2)) (.ok (.int 1))) >>= fun d => .ok (.rt d))))))
  | _ => .bad
theorem sc_rule_told : FnScope ["system", "checks", "number", "rules"] ["system", "checks", "number"] (defScope s_rule_told) := ⟨rfl, rfl, rfl, by decide +kernel, rfl, by decide +kernel, by decide +kernel⟩
theorem ok_rule_told (T : Tx P K mg a) : FnOk P w K mg base (L2.CX P w) 9 a.f_rule_told a.d_rule_told ["system", "checks", "number"] (spD ⟨P, w, K⟩ mg false [false, false, false] l_rule_told) :=
  fnD (ks := [false, false, false]) T.f_rule_told.F sc_rule_told rfl fun cdv A outer s H E F js ds hj hd => match js, ds, hj, hd with
    | [], [x0, x1, x2], _, _ => .mk (enc := encE) (show PuB _ _ _ _ [.no, .no, .no, .no] _ [.pu x0, .pu x1, .pu x2, .no] _ _ from (b_expr (pu_call F.tk (F.room.mono (by decide)) (ok_check_checked T) T.f_check_checked.m T.f_check_checked.k T.f_check_checked.b (pj_cons (pu_var 0) (pj_cons (pu_var 1) pj_nil))) (.no (.no (.no (.no .nil)))) (b_expr (pu_call F.tk (F.room.mono (by decide)) (ok_check_number T) T.f_check_number.m T.f_check_number.k T.f_check_number.b (pj_cons (pu_var 2) pj_nil)) (.no (.no (.no (.no .nil)))) (b_set 3 F.nd (pu_call F.tk (F.room.mono (by decide)) (ok_marked_rules T) T.f_marked_rules.m T.f_marked_rules.k T.f_marked_rules.b (pj_cons (pu_var 0) (pj_cons (pu_var 1) pj_nil))) (.no (.no (.no (.no .nil)))) (fun v1 => (b_ifT (pt_cmp (op_geP F.lv) (pu_var 2) (pu_callB c_len (by rfl) T.n_len (by decide +kernel) (pa_cons' (pu_var 3) pa_nil')) (by rfl)) (.no (.no (.no (.no .nil)))) (b_raiseT F T.x_InvalidNumber (.no (.no (.no (.no .nil))))) (b_ret (mk := fun d => d) (pu_ix (pu_ix (pu_var 3) (pu_var 2)) pu_int) (.no (.no (.no (.no .nil))))))))))) (fun z => nomatch z) (by first | rfl | (rw [l_rule_told]))
def l_marked : List D → R D
  | [x0, x1, x2] => R.fin (α := Empty) ((R.cal (l_check_checked) [.ok x0, .ok x1]) >>= fun _ => ((R.cal (l_check_configuration) [.ok x0, .ok x2]) >>= fun _ => ((R.cal (l_marked_configuration) [.ok x1, .ok x2]) >>= fun d => .ok (.rt d))))
  | _ => .bad
theorem sc_marked : FnScope ["system", "checks", "configuration"] ["system", "checks", "configuration"] (defScope s_marked) := ⟨rfl, rfl, rfl, by decide +kernel, rfl, by decide +kernel, by decide +kernel⟩
theorem ok_marked (T : Tx P K mg a) : FnOk P w K mg base (L2.CX P w) 9 a.f_marked a.d_marked ["system", "checks", "configuration"] (spD ⟨P, w, K⟩ mg false [false, false, false] l_marked) :=
  fnD (ks := [false, false, false]) T.f_marked.F sc_marked rfl fun cdv A outer s H E F js ds hj hd => match js, ds, hj, hd with
    | [], [x0, x1, x2], _, _ => .mk (enc := encE) (show PuB _ _ _ _ [.no, .no, .no] _ [.pu x0, .pu x1, .pu x2] _ _ from (b_expr (pu_call F.tk (F.room.mono (by decide)) (ok_check_checked T) T.f_check_checked.m T.f_check_checked.k T.f_check_checked.b (pj_cons (pu_var 0) (pj_cons (pu_var 1) pj_nil))) (.no (.no (.no .nil))) (b_expr (pu_call F.tk (F.room.mono (by decide)) (ok_check_configuration T) T.f_check_configuration.m T.f_check_configuration.k T.f_check_configuration.b (pj_cons (pu_var 0) (pj_cons (pu_var 2) pj_nil))) (.no (.no (.no .nil))) (b_ret (mk := fun d => d) (pu_call F.tk (F.room.mono (by decide)) (ok_marked_configuration T) T.f_marked_configuration.m T.f_marked_configuration.k T.f_marked_configuration.b (pj_cons (pu_var 1) (pj_cons (pu_var 2) pj_nil))) (.no (.no (.no .nil))))))) (fun z => nomatch z) (by first | rfl | (rw [l_marked]))
def l_unmarked : List D → R D
  | [x0, x1, x2] => R.fin (α := Empty) ((R.cal (l_check_checked) [.ok x0, .ok x1]) >>= fun _ => ((R.tnt (R.tru (R.cal (l_is_configuration_of) [(R.tup [(R.bin pIx (.ok x0) (.ok (.int 0))), (R.bin pMul (R.bin pIx (.ok x0) (.ok (.int 1))) (R.bin pIx (.ok x1) (.ok (.int 0))))]), .ok x2]))) >>= fun k => if k = true then R.up (.exc "InvalidConfiguration" none) else ((R.tup [(R.bin pIx (.ok x2) (.ok (.int 0))), (R.blt (f1 pTuple) [(R.lc (decN) (fun t1 => .ok true) (fun t1 => (R.bin pDiv (.ok t1) (R.bin pIx (.ok x1) (.ok (.int 0))))) (R.un pSeq (R.bin pIx (.ok x2) (.ok (.int 1)))))])]) >>= fun v2 => ((R.ite (R.tcmp pEq (R.cal (l_marked_configuration) [.ok x1, .ok v2]) (.ok x2)) (.ok v2) (.ok .none)) >>= fun d => .ok (.rt d)))))
  | _ => .bad
theorem sc_unmarked : FnScope ["system", "checks", "configuration", "plain", "sign"] ["system", "checks", "configuration"] (defScope s_unmarked) := ⟨rfl, rfl, rfl, by decide +kernel, rfl, by decide +kernel, by decide +kernel⟩
theorem ok_unmarked (T : Tx P K mg a) : FnOk P w K mg base (L2.CX P w) 9 a.f_unmarked a.d_unmarked ["system", "checks", "configuration"] (spD ⟨P, w, K⟩ mg false [false, false, false] l_unmarked) :=
  fnD (ks := [false, false, false]) T.f_unmarked.F sc_unmarked rfl fun cdv A outer s H E F js ds hj hd => match js, ds, hj, hd with
    | [], [x0, x1, x2], _, _ => .mk (enc := encE) (show PuB _ _ _ _ [.no, .no, .no, .no, .no] _ [.pu x0, .pu x1, .pu x2, .no, .no] _ _ from (b_expr (pu_call F.tk (F.room.mono (by decide)) (ok_check_checked T) T.f_check_checked.m T.f_check_checked.k T.f_check_checked.b (pj_cons (pu_var 0) (pj_cons (pu_var 1) pj_nil))) (.no (.no (.no (.no (.no .nil))))) (b_ifT (pt_not' (pt_tru (pu_call F.tk (F.room.mono (by decide)) (ok_is_configuration_of T) T.f_is_configuration_of.m T.f_is_configuration_of.k T.f_is_configuration_of.b (pj_cons (pu_tup (pa_cons' (pu_ix (pu_var 0) pu_int) (pa_cons' (pu_bin op_mulP (pu_ix (pu_var 0) pu_int) (pu_ix (pu_var 1) pu_int)) pa_nil'))) (pj_cons (pu_var 2) pj_nil))))) (.no (.no (.no (.no (.no .nil))))) (b_raiseT F T.x_InvalidConfiguration (.no (.no (.no (.no (.no .nil)))))) (b_set 3 F.nd (pu_tup (pa_cons' (pu_ix (pu_var 2) pu_int) (pa_cons' (pu_callT c_tuple (by rfl) T.n_tuple (by decide +kernel) (pa_cons' (pu_lc F.lv F.nd (blkOk_by (N := ["system", "checks", "configuration", "plain", "sign"]) (sc := defScope s_unmarked) (own := [("sign", 4)]) (by first | decide +kernel | kernel_rfl)) (pi_seq (pu_ix (pu_var 2) pu_int)) (fun s H C cl fp => (g_name 4 F.nd)) (by simp) (by simp) (fun t1 => fun s H C cl fp => ts_nil) (fun t1 => fun s H C cl fp => (pu_bin op_divP (pu_var 4) (pu_ix (pu_var 1) pu_int))) (keep_name 4) (by simp [ownOf])) pa_nil')) pa_nil'))) (.no (.no (.no (.no (.no .nil))))) (fun v2 => (b_ret (mk := fun d => d) (pu_if (pt_cmp (op_eqP F.lv) (pu_call F.tk (F.room.mono (by decide)) (ok_marked_configuration T) T.f_marked_configuration.m T.f_marked_configuration.k T.f_marked_configuration.b (pj_cons (pu_var 1) (pj_cons (pu_var 3) pj_nil))) (pu_var 2) (by rfl)) (pu_var 3) pu_non) (.no (.no (.no (.no (.no .nil))))))))))) (fun z => nomatch z) (by first | rfl | (rw [l_unmarked]))
def l__law_pot : List D → R D
  | [x0, x1] => R.fin (α := Empty) ((R.ite (R.tcmp pLt (.ok x1) (R.blt (f1 pLen) [.ok x0])) (R.blt (f1 pInt) [(R.blt (f1 pAbs) [(R.bin pIx (.ok x0) (.ok x1))])]) (R.bin pAdd (R.bin pMul (.ok (.int 7)) (.ok x1)) (.ok (.int 3)))) >>= fun v1 => ((R.bin pMod (R.blt (f1 pInt) [.ok v1]) (R.bin pMul (R.bin pMul (R.bin pMul (R.bin pPow (.ok (.int 10)) (.ok (.int 60))) (R.bin pPow (.ok (.int 10)) (.ok (.int 60)))) (R.bin pPow (.ok (.int 10)) (.ok (.int 60)))) (R.bin pPow (.ok (.int 10)) (.ok (.int 60))))) >>= fun v2 => ((R.lst [(R.ite (R.tcmp pGe (.ok v2) (R.bin pPow (.ok (.int 10)) (.ok (.int 18)))) (.ok v2) (.ok (.int 0))), (R.bin pMod (R.blt (f1 pInt) [.ok v2]) (R.bin pAdd (R.bin pPow (.ok (.int 10)) (.ok (.int 18))) (.ok (.int 9)))), (R.bin pAdd (R.bin pMul (.ok (.int 11)) (.ok x1)) (.ok (.int 1)))]) >>= fun d => .ok (.rt d))))
  | _ => .bad
theorem sc__law_pot : FnScope ["script", "at", "cell"] ["script", "at"] (defScope s__law_pot) := ⟨rfl, rfl, rfl, by decide +kernel, rfl, by decide +kernel, by decide +kernel⟩
theorem ok__law_pot (T : Tx P K mg a) : FnOk P w K mg base (L2.CX P w) 1 a.f__law_pot a.d__law_pot ["script", "at"] (spD ⟨P, w, K⟩ mg true [false, false] l__law_pot) :=
  fnD (ks := [false, false]) T.f__law_pot.F sc__law_pot rfl fun cdv A outer s H E F js ds hj hd => match js, ds, hj, hd with
    | [], [x0, x1], _, _ => .mk (enc := encE) (show PuB _ _ _ _ [.no, .no, .no] _ [.pu x0, .pu x1, .no] _ _ from (b_set 2 F.nd (pu_if (pt_cmp (op_ltP F.lv) (pu_var 1) (pu_callB c_len (by rfl) T.n_len (by decide +kernel) (pa_cons' (pu_var 0) pa_nil')) (by rfl)) (pu_callT c_int (by rfl) T.n_int (by decide +kernel) (pa_cons' (pu_callB c_abs (by rfl) T.n_abs (by decide +kernel) (pa_cons' (pu_ix (pu_var 0) (pu_var 1)) pa_nil')) pa_nil')) (pu_bin op_addP (pu_bin op_mulP pu_int (pu_var 1)) pu_int)) (.no (.no (.no .nil))) (fun v1 => (b_set 2 F.nd (pu_bin op_modP (pu_callT c_int (by rfl) T.n_int (by decide +kernel) (pa_cons' (pu_var 2) pa_nil')) (pu_bin op_mulP (pu_bin op_mulP (pu_bin op_mulP (pu_bin op_powP pu_int pu_int) (pu_bin op_powP pu_int pu_int)) (pu_bin op_powP pu_int pu_int)) (pu_bin op_powP pu_int pu_int))) (.no (.no (.no .nil))) (fun v2 => (b_retE (po_lst (pa_cons' (pu_if (pt_cmp (op_geP F.lv) (pu_var 2) (pu_bin op_powP pu_int pu_int) (by rfl)) (pu_var 2) pu_int) (pa_cons' (pu_bin op_modP (pu_callT c_int (by rfl) T.n_int (by decide +kernel) (pa_cons' (pu_var 2) pa_nil')) (pu_bin op_addP (pu_bin op_powP pu_int pu_int) pu_int)) (pa_cons' (pu_bin op_addP (pu_bin op_mulP pu_int (pu_var 1)) pu_int) pa_nil')))) (.no (.no (.no .nil))))))))) (fun z => nomatch z) (by first | rfl | (rw [l__law_pot]))
def nx__law_draw (jx jy jt jn : Int) : R (Fl Empty Empty (D × D)) := ((R.tcmp pGt (do let y ← .ok (.int 0); R.of (pIx (.list [.int jx, .int jy, .int jt]) y)) (.ok (.int 0))) >>= fun k => if k = true then R.up ((R.bin pMod (R.blt (f1 pInt) [(do let y ← .ok (.int 0); R.of (pIx (.list [.int jx, .int jy, .int jt]) y))]) (.ok (.int jn))) >>= fun v1 => ((R.bin pDiv (do let y ← .ok (.int 0); R.of (pIx (.list [.int jx, .int jy, .int jt]) y)) (.ok (.int jn))) >>= fun v => .ok (.int 0) >>= fun j => R.of (setD [.int jx, .int jy, .int jt] j v) >>= fun l2 => (.ok v1 >>= fun d => .ok (.rt (d, ((.list l2) : D)))))) else ((R.bin pAdd (do let y ← .ok (.int 2); R.of (pIx (.list [.int jx, .int jy, .int jt]) y)) (.ok (.int 1))) >>= fun v => .ok (.int 2) >>= fun j => R.of (setD [.int jx, .int jy, .int jt] j v) >>= fun l3 => ((R.bin pMod (R.blt (f1 pInt) [(R.bin pAdd (R.bin pMul (R.bin pAdd (do let y ← .ok (.int 1); R.of (pIx (.list l3) y)) (R.bin pMul (.ok (.int 7001)) (do let y ← .ok (.int 2); R.of (pIx (.list l3) y)))) (.ok (.int 48271))) (.ok (.int 911)))]) (.ok (.int 2147483587))) >>= fun v4 => ((R.bin pMod (R.blt (f1 pInt) [(R.bin pAdd (R.bin pMul (.ok v4) (.ok v4)) (R.bin pMul (.ok (.int 31)) (do let y ← .ok (.int 2); R.of (pIx (.list l3) y))))]) (.ok (.int 2147483629))) >>= fun v5 => ((R.bin pMod (R.blt (f1 pInt) [(R.bin pDiv (.ok v5) (.ok (.int 17)))]) (.ok (.int jn))) >>= fun d => .ok (.rt (d, ((.list l3) : D))))))))
theorem sc__law_draw : FnScope ["pot", "many", "digit", "one"] ["pot", "many"] (defScope s__law_draw) := ⟨rfl, rfl, rfl, by decide +kernel, rfl, by decide +kernel, by decide +kernel⟩
abbrev l__law_draw : List D → R D := drawL
theorem draw__law_draw : DrawOk nx__law_draw := by
  intro x y t n hx hx' hy hy' ht ht' hn hn'
  have i0 : pIx (.list [.int x, .int y, .int t]) (.int 0) = some (.int x) := rfl
  have i2 : pIx (.list [.int x, .int y, .int t]) (.int 2) = some (.int t) := rfl
  have e2 : setD [.int x, .int y, .int t] (.int 2) (.int (t + 1)) = some [.int x, .int y, .int (t + 1)] := rfl
  have e3 : setD [.int x, .int y, .int t] (.int 0) (.int (x / n)) = some [.int (x / n), .int y, .int t] := rfl
  have j1 : pIx (.list [.int x, .int y, .int (t + 1)]) (.int 1) = some (.int y) := rfl
  have j2 : pIx (.list [.int x, .int y, .int (t + 1)]) (.int 2) = some (.int (t + 1)) := rfl
  rw [jmaxK] at ht'
  have m1 : pMul (.int 7001) (.int (t + 1)) = some (.int (7001 * (t + 1))) := mulK (by omega) (by omega)
  have m2 : pMul (.int (y + 7001 * (t + 1))) (.int 48271) = some (.int ((y + 7001 * (t + 1)) * 48271)) := mulK (by omega) (by omega)
  generalize ho : ((y + 7001 * (t + 1)) * 48271 + 911) % 2147483587 = o
  have o1 : 0 ≤ o ∧ o < 2147483587 := by omega
  have m3 : pMul (.int o) (.int o) = some (.int (o * o)) := mulK (by omega) (by omega)
  have m4 : pMul (.int 31) (.int (t + 1)) = some (.int (31 * (t + 1))) := mulK (by omega) (by omega)
  have d1 : pDiv (.int x) (.int n) = some (.int (x / n)) := divK hn hn'
  have k1 : pMod (.int x) (.int n) = some (.int (x % n)) := modK hn
  have k2 : pMod (.int ((y + 7001 * (t + 1)) * 48271 + 911)) (.int 2147483587) = some (.int o) := by rw [modK (by decide), ho]
  have k3 : pMod (.int (o * o + 31 * (t + 1))) (.int 2147483629) = some (.int ((o * o + 31 * (t + 1)) % 2147483629)) := modK (by decide)
  have d2 : pDiv (.int ((o * o + 31 * (t + 1)) % 2147483629)) (.int 17) = some (.int ((o * o + 31 * (t + 1)) % 2147483629 / 17)) := divK (by decide) (by decide)
  have k4 : pMod (.int ((o * o + 31 * (t + 1)) % 2147483629 / 17)) (.int n) = some (.int ((o * o + 31 * (t + 1)) % 2147483629 / 17 % n)) := modK hn
  have b1 : 0 ≤ x % n ∧ x % n < n := ⟨Int.emod_nonneg _ (by omega), Int.emod_lt_of_pos _ hn⟩
  have b2 : 0 ≤ x / n ∧ x / n ≤ x := ⟨Int.ediv_nonneg hx (by omega), Int.ediv_le_self _ hx⟩
  have b3 : 0 ≤ (o * o + 31 * (t + 1)) % 2147483629 / 17 % n ∧ (o * o + 31 * (t + 1)) % 2147483629 / 17 % n < n := ⟨Int.emod_nonneg _ (by omega), Int.emod_lt_of_pos _ hn⟩
  by_cases h0 : 0 < x
  · refine ⟨x % n, x / n, y, t, ?_, b1.1, b1.2, b2.1, by omega, hy, hy', by omega, by omega⟩
    unfold nx__law_draw
    simp only [R.un, R.bin, R.blt, R.sq, R.tcmp, R.tand, R.tru, R.ok_bind, R.of_some, addK, i0, i2, eqK, gtK, intK, h0, decide_true, if_true, k1, d1, e3, R.up_rt]
  · refine ⟨(o * o + 31 * (t + 1)) % 2147483629 / 17 % n, x, y, t + 1, ?_, b3.1, b3.2, hx, hx', hy, hy', by omega, by omega⟩
    unfold nx__law_draw
    simp only [R.un, R.bin, R.blt, R.sq, R.tcmp, R.tand, R.tru, R.ok_bind, R.of_some, addK, e2, i0, i2, j1, j2, eqK, gtK, intK, h0, decide_false, if_false, Bool.false_eq_true, m1, m2, m3, m4, k2, k3, d2, k4]
theorem ok__law_draw (T : Tx P K mg a) : FnOk P w K mg base (L2.CX P w) 1 a.f__law_draw a.d__law_draw ["pot", "many"] (spD ⟨P, w, K⟩ mg false [true, false] l__law_draw) :=
  fnN T.f__law_draw.F sc__law_draw rfl (fun cdv A outer s H E F b jx jy jt jn => show PuB _ _ _ _ [.no, .no, .no, .no] _ [.ce b (.list [.int jx, .int jy, .int jt]), .pu (.int jn), .no, .no] _ _ from (b_ifT (pt_cmp (op_gtP F.lv) (pu_ixC 0 pu_int) pu_int (by rfl)) (.no (.no (.no (.no .nil)))) (b_set 2 F.nd (pu_bin op_modP (pu_callT c_int (by rfl) T.n_int (by decide +kernel) (pa_cons' (pu_ixC 0 pu_int) pa_nil')) (pu_var 1)) (.no (.no (.no (.no .nil)))) (fun v1 => (b_six (a := b) 0 (pu_bin op_divP (pu_ixC 0 pu_int) (pu_var 1)) pu_int (.no (.no (.no (.no .nil)))) (fun l2 => (b_ret (mk := fun d => (d, ((.list l2) : D))) (pu_var 2) (.no (.no (.no (.no .nil)))) (hfin := by intro d p hp; simp at hp; subst hp; exact ⟨0, rfl⟩)))))) (b_six (a := b) 0 (pu_bin op_addP (pu_ixC 0 pu_int) pu_int) pu_int (.no (.no (.no (.no .nil)))) (fun l3 => (b_set 3 F.nd (pu_bin op_modP (pu_callT c_int (by rfl) T.n_int (by decide +kernel) (pa_cons' (pu_bin op_addP (pu_bin op_mulP (pu_bin op_addP (pu_ixC 0 pu_int) (pu_bin op_mulP pu_int (pu_ixC 0 pu_int))) pu_int) pu_int) pa_nil')) pu_int) (.no (.no (.no (.no .nil)))) (fun v4 => (b_set 3 F.nd (pu_bin op_modP (pu_callT c_int (by rfl) T.n_int (by decide +kernel) (pa_cons' (pu_bin op_addP (pu_bin op_mulP (pu_var 3) (pu_var 3)) (pu_bin op_mulP pu_int (pu_ixC 0 pu_int))) pa_nil')) pu_int) (.no (.no (.no (.no .nil)))) (fun v5 => (b_ret (mk := fun d => (d, ((.list l3) : D))) (pu_bin op_modP (pu_callT c_int (by rfl) T.n_int (by decide +kernel) (pa_cons' (pu_bin op_divP (pu_var 3) pu_int) pa_nil')) (pu_var 1)) (.no (.no (.no (.no .nil)))) (hfin := by intro d p hp; simp at hp; subst hp; exact ⟨0, rfl⟩)))))))))) draw__law_draw
def l__law_one : List D → R D
  | [x0] => R.fin (α := Empty) ((R.bin pIx (.ok x0) (R.cal (l__law_draw) [(R.blt (f1 pLen) [.ok x0])])) >>= fun d => .ok (.rt d))
  | _ => .bad
theorem sc__law_one : FnScope ["pot", "rows"] ["pot", "rows"] (defScope s__law_one) := ⟨rfl, rfl, rfl, by decide +kernel, rfl, by decide +kernel, by decide +kernel⟩
theorem ok__law_one (T : Tx P K mg a) : FnOk P w K mg base (L2.CX P w) 2 a.f__law_one a.d__law_one ["pot", "rows"] (spD ⟨P, w, K⟩ mg false [true, false] l__law_one) :=
  fnD (ks := [true, false]) T.f__law_one.F sc__law_one rfl fun cdv A outer s H E F js ds hj hd => match js, ds, hj, hd with
    | [j0], [x0], _, _ => .mk (enc := encE) (show PuB _ _ _ _ [.jar j0, .no] _ [.jar j0, .pu x0] _ _ from (b_ret (mk := fun d => d) (pu_ix (pu_var 1) (pu_call F.tk (F.room.mono (by decide)) (ok__law_draw T) T.f__law_draw.m T.f__law_draw.k T.f__law_draw.b (pj_jar 0 (pj_cons (pu_callB c_len (by rfl) T.n_len (by decide +kernel) (pa_cons' (pu_var 1) pa_nil')) pj_nil)))) (.eq (.no .nil)))) (fun z => nomatch z) (by first | rfl | (rw [l__law_one]))
def l__law_alike : Nat → List D → R D
  | 0, _ => .bad
  | n + 1, [x0, x1] => R.fin (α := Empty) ((R.tru (R.isi2 "tuple" "list" (.ok x1))) >>= fun k => if k = true then R.up ((R.tor (R.tcmp pNe (R.isi "tuple" (.ok x1)) (R.isi "tuple" (.ok x0))) (R.tcmp pNe (R.isi "list" (.ok x1)) (R.isi "list" (.ok x0)))) >>= fun k => if k = true then R.up (.ok (.bool false) >>= fun d => .ok (.rt d)) else ((R.and (R.cmp pEq (R.blt (f1 pLen) [.ok x0]) (R.blt (f1 pLen) [.ok x1])) (R.blt (f1 pAll) [(R.lc (decN) (fun t1 => .ok true) (fun t1 => (R.cal (l__law_alike n) [(R.bin pIx (.ok x0) (.ok t1)), (R.bin pIx (.ok x1) (.ok t1))])) (R.un pRng1 (R.blt (f1 pLen) [.ok x1])))])) >>= fun d => .ok (.rt d))) else ((R.tcmp pIsN (.ok x1) (.ok .none)) >>= fun k => if k = true then R.up ((R.cmp pIsN (.ok x0) (.ok .none)) >>= fun d => .ok (.rt d)) else ((R.tor (R.tru (R.isi "bool" (.ok x1))) (R.tru (R.isi "bool" (.ok x0)))) >>= fun k => if k = true then R.up ((R.and (R.isi "bool" (.ok x1)) (R.and (R.isi "bool" (.ok x0)) (R.cmp pEq (.ok x0) (.ok x1)))) >>= fun d => .ok (.rt d)) else ((R.and (R.cmp pEq (R.isi "str" (.ok x0)) (R.isi "str" (.ok x1))) (R.and (R.isi2 "int" "str" (.ok x0)) (R.cmp pEq (.ok x0) (.ok x1)))) >>= fun d => .ok (.rt d)))))
  | _ + 1, _ => .bad
theorem sc__law_alike : FnScope ["found", "due", "k"] ["found", "due"] (defScope s__law_alike) := ⟨rfl, rfl, rfl, by decide +kernel, rfl, by decide +kernel, by decide +kernel⟩
theorem ok__law_alike (T : Tx P K mg a) : ∀ n : Nat, FnOk P w K mg base (L2.CX P w) (0 + n) a.f__law_alike a.d__law_alike ["found", "due"] (spD ⟨P, w, K⟩ mg false [false, false] (l__law_alike n))
  | 0 => fn_bad fun _ => rfl
  | n + 1 => have ih := ok__law_alike T n
  fnD (ks := [false, false]) T.f__law_alike.F sc__law_alike rfl fun cdv A outer s H E F js ds hj hd => match js, ds, hj, hd with
    | [], [x0, x1], _, _ => .mk (enc := encE) (show PuB _ _ _ _ [.no, .no, .no] _ [.pu x0, .pu x1, .no] _ _ from (b_ifT (pt_tru (pu_isi2 (T := "tuple") (U := "list") (pu_var 1) rfl rfl (by rfl) T.n_isinstance (by rfl) T.n_tuple (by decide +kernel) (by rfl) T.n_list (by decide +kernel))) (.no (.no (.no .nil))) (b_ifT (PuW.t (pw_or' (pt_cmp (op_neP F.lv) (pu_isi (T := "tuple") (pu_var 1) rfl (by rfl) T.n_isinstance (by rfl) T.n_tuple (by decide +kernel)) (pu_isi (T := "tuple") (pu_var 0) rfl (by rfl) T.n_isinstance (by rfl) T.n_tuple (by decide +kernel)) (by rfl)) (pw_one (pt_cmp (op_neP F.lv) (pu_isi (T := "list") (pu_var 1) rfl (by rfl) T.n_isinstance (by rfl) T.n_list (by decide +kernel)) (pu_isi (T := "list") (pu_var 0) rfl (by rfl) T.n_isinstance (by rfl) T.n_list (by decide +kernel)) (by rfl))))) (.no (.no (.no .nil))) (b_ret (mk := fun d => d) pu_bl (.no (.no (.no .nil)))) (b_ret (mk := fun d => d) (pu_and (pu_cmp (op_eqP F.lv) (pu_callB c_len (by rfl) T.n_len (by decide +kernel) (pa_cons' (pu_var 0) pa_nil')) (pu_callB c_len (by rfl) T.n_len (by decide +kernel) (pa_cons' (pu_var 1) pa_nil')) (by rfl)) (pu_one (pu_callB (c_all F.lv) (by rfl) T.n_all (by decide +kernel) (pa_cons' (pu_lc F.lv F.nd (blkOk_by (N := ["found", "due", "k"]) (sc := defScope s__law_alike) (own := [("k", 2)]) (by first | decide +kernel | kernel_rfl)) (pi_rng1 (by rfl) T.n_range (pu_callB c_len (by rfl) T.n_len (by decide +kernel) (pa_cons' (pu_var 1) pa_nil'))) (fun s H C cl fp => (g_name 2 F.nd)) (by simp) (by simp) (fun t1 => fun s H C cl fp => ts_nil) (fun t1 => fun s H C cl fp => (pu_call takes0 (F.room.mono (by first | omega | exact Nat.le_refl _ | (show _ ≤ _ + _; omega))) ih T.f__law_alike.m T.f__law_alike.k T.f__law_alike.b (pj_cons (pu_ix (pu_var 0) (pu_var 2)) (pj_cons (pu_ix (pu_var 1) (pu_var 2)) pj_nil)))) (keep_name 2) (by simp [ownOf])) pa_nil')))) (.no (.no (.no .nil))))) (b_ifT (pt_cmp op_isNP (pu_var 1) pu_non (by rfl)) (.no (.no (.no .nil))) (b_ret (mk := fun d => d) (pu_cmp op_isNP (pu_var 0) pu_non (by rfl)) (.no (.no (.no .nil)))) (b_ifT (PuW.t (pw_or' (pt_tru (pu_isi (T := "bool") (pu_var 1) rfl (by rfl) T.n_isinstance (by rfl) T.n_bool (by decide +kernel))) (pw_one (pt_tru (pu_isi (T := "bool") (pu_var 0) rfl (by rfl) T.n_isinstance (by rfl) T.n_bool (by decide +kernel)))))) (.no (.no (.no .nil))) (b_ret (mk := fun d => d) (pu_and (pu_isi (T := "bool") (pu_var 1) rfl (by rfl) T.n_isinstance (by rfl) T.n_bool (by decide +kernel)) (pu_and (pu_isi (T := "bool") (pu_var 0) rfl (by rfl) T.n_isinstance (by rfl) T.n_bool (by decide +kernel)) (pu_one (pu_cmp (op_eqP F.lv) (pu_var 0) (pu_var 1) (by rfl))))) (.no (.no (.no .nil)))) (b_ret (mk := fun d => d) (pu_and (pu_cmp (op_eqP F.lv) (pu_isi (T := "str") (pu_var 0) rfl (by rfl) T.n_isinstance (by rfl) T.n_str (by decide +kernel)) (pu_isi (T := "str") (pu_var 1) rfl (by rfl) T.n_isinstance (by rfl) T.n_str (by decide +kernel)) (by rfl)) (pu_and (pu_isi2 (T := "int") (U := "str") (pu_var 0) rfl rfl (by rfl) T.n_isinstance (by rfl) T.n_int (by decide +kernel) (by rfl) T.n_str (by decide +kernel)) (pu_one (pu_cmp (op_eqP F.lv) (pu_var 0) (pu_var 1) (by rfl))))) (.no (.no (.no .nil)))))))) (fun z => nomatch z) (by first | rfl | (rw [l__law_alike]))
abbrev lb__law_system_2 (x0 : D) (x1 : D) (x3 : D) (t3 : D) (s2 : (List (D × D) × Unit)) : R (Fl (List (D × D) × Unit) (List (D × D) × Unit) D) := ((R.cal (l__law_draw) [.ok x0]) >>= fun d14 => ((R.cal (l__law_draw) [.ok x1]) >>= fun d15 => ((R.cal (l__law_draw) [.ok x0]) >>= fun d16 => (fun ds => match ds with | [v4, v5, v6] => ((R.cal (l__law_one) [.ok x3]) >>= fun d11 => ((R.cal (l__law_draw) [.ok x1]) >>= fun d12 => ((R.cal (l__law_draw) [.ok x1]) >>= fun d13 => (fun ds => match ds with | [v7, v8, v9] => (.ok (.bool true) >>= fun v => (R.tup [.ok v4, .ok v5, .ok v6, (R.slH (R.tup [.ok v8, .ok v9]) (.ok v7))]) >>= fun j => R.of (putD s2.1 j v) >>= fun l10 => .ok (.nx (l10, ()))) | _ => .bad) [d11, d12, d13]))) | _ => .bad) [d14, d15, d16])))
def l__law_system : List D → R D
  | [x0, x1, x2, x3] => R.fin (α := Empty) ((R.un pRng1 (R.bin pAdd (.ok (.int 1)) (R.cal (l__law_draw) [.ok x2]))) >>= fun ds => Fl.then (forR decN (lb__law_system_2 x0 x1 x3) ds ([], ())) fun s2 => ((R.tup [.ok x0, .ok x1, (R.blt (f1 pTuple) [(R.blt (f1 pSorted) [.ok (.dict s2.1)])])]) >>= fun d => .ok (.rt d)))
  | _ => .bad
theorem sc__law_system : FnScope ["pot", "controls", "letters", "most", "lengths", "rules", "k", "p", "g", "q", "length", "h", "i"] ["pot", "controls", "letters", "most", "lengths"] (defScope s__law_system) := ⟨rfl, rfl, rfl, by decide +kernel, rfl, by decide +kernel, by decide +kernel⟩
theorem ok__law_system (T : Tx P K mg a) : FnOk P w K mg base (L2.CX P w) 3 a.f__law_system a.d__law_system ["pot", "controls", "letters", "most", "lengths"] (spD ⟨P, w, K⟩ mg false [true, false, false, false, false] l__law_system) :=
  fnD (ks := [true, false, false, false, false]) T.f__law_system.F sc__law_system rfl fun cdv A outer s H E F js ds hj hd => match js, ds, hj, hd with
    | [j0], [x0, x1, x2, x3], _, _ => .mk (enc := encE) (show PuB _ _ _ _ [.jar j0, .no, .no, .no, .no, .no, .no, .no, .no, .no, .no, .no, .no] _ [.jar j0, .pu x0, .pu x1, .pu x2, .pu x3, .no, .no, .no, .no, .no, .no, .no, .no] _ _ from (b_setD0 5 F.nd (.eq (.no (.no (.no (.no (.no (.no (.no (.no (.no (.no (.no (.no .nil))))))))))))) (fun a1 => (b_for (enc0 := (fun s2 : List (D × D) × Unit => [.jar j0, .pu x0, .pu x1, .pu x2, .pu x3, .ce a1 (.dict s2.1), .no, .no, .no, .no, .no, .no, .no])) ([], ()) F (pi_rng1 (by rfl) T.n_range (pu_bin op_addP pu_int (pu_call F.tk (F.room.mono (by decide)) (ok__law_draw T) T.f__law_draw.m T.f__law_draw.k T.f__law_draw.b (pj_jar 0 (pj_cons (pu_var 3) pj_nil))))) (.eq (.no (.no (.no (.no (.no (.no (.no (.no (.no (.no (.no (.no .nil))))))))))))) (.eq (.eq (.eq (.eq (.eq (.eq (.no (.no (.no (.no (.no (.no (.no .nil))))))))))))) (g_name 6 F.nd) (by simp) (fun t3 s2 => (b_parV3 7 8 9 F (f := (fun ds => match ds with | [v4, v5, v6] => ((R.cal (l__law_one) [.ok x3]) >>= fun d11 => ((R.cal (l__law_draw) [.ok x1]) >>= fun d12 => ((R.cal (l__law_draw) [.ok x1]) >>= fun d13 => (fun ds => match ds with | [v7, v8, v9] => (.ok (.bool true) >>= fun v => (R.tup [.ok v4, .ok v5, .ok v6, (R.slH (R.tup [.ok v8, .ok v9]) (.ok v7))]) >>= fun j => R.of (putD s2.1 j v) >>= fun l10 => .ok (.nx (l10, ()))) | _ => .bad) [d11, d12, d13]))) | _ => .bad)) (v_dat (pu_call F.tk (F.room.mono (by decide)) (ok__law_draw T) T.f__law_draw.m T.f__law_draw.k T.f__law_draw.b (pj_jar 0 (pj_cons (pu_var 1) pj_nil))) (.eq (.no (.no (.no (.no (.no (.no (.no (.no (.no (.no (.no (.no .nil))))))))))))) (fun d14 => (v_dat (pu_call F.tk (F.room.mono (by decide)) (ok__law_draw T) T.f__law_draw.m T.f__law_draw.k T.f__law_draw.b (pj_jar 0 (pj_cons (pu_var 2) pj_nil))) (.eq (.no (.no (.no (.no (.no (.no (.no (.no (.no (.no (.no (.no .nil))))))))))))) (fun d15 => (v_dat (pu_call F.tk (F.room.mono (by decide)) (ok__law_draw T) T.f__law_draw.m T.f__law_draw.k T.f__law_draw.b (pj_jar 0 (pj_cons (pu_var 1) pj_nil))) (.eq (.no (.no (.no (.no (.no (.no (.no (.no (.no (.no (.no (.no .nil))))))))))))) (fun d16 => v_nil)))))) (fun _ _ _ v4 v5 v6 => (b_parV3 10 11 12 F (f := (fun ds => match ds with | [v7, v8, v9] => (.ok (.bool true) >>= fun v => (R.tup [.ok v4, .ok v5, .ok v6, (R.slH (R.tup [.ok v8, .ok v9]) (.ok v7))]) >>= fun j => R.of (putD s2.1 j v) >>= fun l10 => .ok (.nx (l10, ()))) | _ => .bad)) (v_dat (pu_call F.tk (F.room.mono (by decide)) (ok__law_one T) T.f__law_one.m T.f__law_one.k T.f__law_one.b (pj_jar 0 (pj_cons (pu_var 4) pj_nil))) (.eq (.no (.no (.no (.no (.no (.no (.no (.no (.no (.no (.no (.no .nil))))))))))))) (fun d11 => (v_dat (pu_call F.tk (F.room.mono (by decide)) (ok__law_draw T) T.f__law_draw.m T.f__law_draw.k T.f__law_draw.b (pj_jar 0 (pj_cons (pu_var 2) pj_nil))) (.eq (.no (.no (.no (.no (.no (.no (.no (.no (.no (.no (.no (.no .nil))))))))))))) (fun d12 => (v_dat (pu_call F.tk (F.room.mono (by decide)) (ok__law_draw T) T.f__law_draw.m T.f__law_draw.k T.f__law_draw.b (pj_jar 0 (pj_cons (pu_var 2) pj_nil))) (.eq (.no (.no (.no (.no (.no (.no (.no (.no (.no (.no (.no (.no .nil))))))))))))) (fun d13 => v_nil)))))) (fun _ _ _ v7 v8 v9 => (b_sixD (a := a1) 5 F.lv pu_bl (pu_tup (pa_cons' (pu_var 7) (pa_cons' (pu_var 8) (pa_cons' (pu_var 9) (pa_cons' (pu_slH (pu_tup (pa_cons' (pu_var 11) (pa_cons' (pu_var 12) pa_nil'))) (pu_var 10)) pa_nil'))))) (.eq (.no (.no (.no (.no (.no (.no (.no (.no (.no (.no (.no (.no .nil))))))))))))) (fun l10 => (b_nil (a := (l10, ())) (.eq (.eq (.eq (.eq (.eq (.eq (.no (.no (.no (.no (.no (.no (.no .nil))))))))))))))))))))) (fun s2 => (b_frz 5 (b_ret (mk := fun d => d) (pu_tup (pa_cons' (pu_var 1) (pa_cons' (pu_var 2) (pa_cons' (pu_callT c_tuple (by rfl) T.n_tuple (by decide +kernel) (pa_cons' (pu_callB (c_sorted F.lv) (by rfl) T.n_sorted (by decide +kernel) (pa_cons' (pu_var 5) pa_nil')) pa_nil')) pa_nil')))) (.eq (.no (.no (.no (.no (.no (.no (.no (.no (.no (.no (.no (.no .nil)))))))))))))))))))) (fun z => nomatch z) (by first | rfl | (rw [l__law_system]))
def l__law_whole : List D → R D
  | [x0] => R.fin (α := Empty) ((R.and (R.isi "int" (.ok x0)) (R.nt (R.isi "bool" (.ok x0)))) >>= fun d => .ok (.rt d))
  | _ => .bad
theorem sc__law_whole : FnScope ["thing"] ["thing"] (defScope s__law_whole) := ⟨rfl, rfl, rfl, by decide +kernel, rfl, by decide +kernel, by decide +kernel⟩
theorem ok__law_whole (T : Tx P K mg a) : FnOk P w K mg base (L2.CX P w) 1 a.f__law_whole a.d__law_whole ["thing"] (spD ⟨P, w, K⟩ mg false [false] l__law_whole) :=
  fnD (ks := [false]) T.f__law_whole.F sc__law_whole rfl fun cdv A outer s H E F js ds hj hd => match js, ds, hj, hd with
    | [], [x0], _, _ => .mk (enc := encE) (show PuB _ _ _ _ [.no] _ [.pu x0] _ _ from (b_ret (mk := fun d => d) (pu_and (pu_isi (T := "int") (pu_var 0) rfl (by rfl) T.n_isinstance (by rfl) T.n_int (by decide +kernel)) (pu_one (pu_not (pu_isi (T := "bool") (pu_var 0) rfl (by rfl) T.n_isinstance (by rfl) T.n_bool (by decide +kernel))))) (.no .nil))) (fun z => nomatch z) (by first | rfl | (rw [l__law_whole]))
abbrev lb__law_checks_6 (v1 : D) (x0 : D) (t7 : D) (s6 : (List D × Unit)) : R (Fl (List D × Unit) (List D × Unit) D) := ((R.blt (f1 pTuple) [(R.lc (decN) (fun t8 => .ok true) (fun t8 => (R.cal (l__law_draw) [.ok v1])) (R.un pRng1 (R.bin pIx (.ok x0) (.ok (.int 1)))))]) >>= fun v9 => if s6.1.length < LINE then .ok (.nx ((s6.1 ++ [v9]), ())) else .bad)
abbrev lb__law_checks_10 (v1 : D) (t11 : D) (s10 : (List D × Unit)) : R (Fl (List D × Unit) (List D × Unit) D) := ((R.blt (f1 pTuple) [(R.lc (decN) (fun t12 => (R.tcmp pEq (R.cal (l__law_draw) [.ok (.int 2)]) (.ok (.int 0)))) (fun t12 => .ok t12) (R.un pRng1 (.ok v1)))]) >>= fun v13 => ((R.cal (l__law_one) [(R.lst [.ok .none, .ok v13, .ok v13])]) >>= fun v14 => if s10.1.length < LINE then .ok (.nx ((s10.1 ++ [v14]), ())) else .bad))
def l__law_checks : List D → R D
  | [x0] => R.fin (α := Empty) ((R.bin pAdd (.ok (.int 1)) (R.cal (l__law_draw) [.ok (.int 3)])) >>= fun d15 => ((R.lst []) >>= fun d16 => ((R.lst []) >>= fun d17 => (fun ds => match ds with | [v1, .list l3, .list l5] => ((R.un pRng1 (.ok v1)) >>= fun ds => Fl.then (forR decN (lb__law_checks_6 v1 x0) ds (l3, ())) fun s6 => ((R.un pSeq (R.bin pIx (.ok x0) (.ok (.int 2)))) >>= fun ds => Fl.then (forR decN (lb__law_checks_10 v1) ds (l5, ())) fun s10 => ((R.tup [.ok v1, (R.blt (f1 pTuple) [.ok (.list s6.1)]), (R.blt (f1 pTuple) [.ok (.list s10.1)])]) >>= fun d => .ok (.rt d)))) | _ => .bad) [d15, d16, d17])))
  | _ => .bad
theorem sc__law_checks : FnScope ["pot", "frame", "states", "table", "allowed", "s", "rule", "some", "g"] ["pot", "frame"] (defScope s__law_checks) := ⟨rfl, rfl, rfl, by decide +kernel, rfl, by decide +kernel, by decide +kernel⟩
theorem ok__law_checks (T : Tx P K mg a) : FnOk P w K mg base (L2.CX P w) 3 a.f__law_checks a.d__law_checks ["pot", "frame"] (spD ⟨P, w, K⟩ mg false [true, false] l__law_checks) :=
  fnD (ks := [true, false]) T.f__law_checks.F sc__law_checks rfl fun cdv A outer s H E F js ds hj hd => match js, ds, hj, hd with
    | [j0], [x0], _, _ => .mk (enc := encE) (show PuB _ _ _ _ [.jar j0, .no, .no, .no, .no, .no, .no, .no, .no] _ [.jar j0, .pu x0, .no, .no, .no, .no, .no, .no, .no] _ _ from (b_parU3 2 3 4 F (f := (fun ds => match ds with | [v1, .list l3, .list l5] => ((R.un pRng1 (.ok v1)) >>= fun ds => Fl.then (forR decN (lb__law_checks_6 v1 x0) ds (l3, ())) fun s6 => ((R.un pSeq (R.bin pIx (.ok x0) (.ok (.int 2)))) >>= fun ds => Fl.then (forR decN (lb__law_checks_10 v1) ds (l5, ())) fun s10 => ((R.tup [.ok v1, (R.blt (f1 pTuple) [.ok (.list s6.1)]), (R.blt (f1 pTuple) [.ok (.list s10.1)])]) >>= fun d => .ok (.rt d)))) | _ => .bad)) (v_dat (pu_bin op_addP pu_int (pu_call F.tk (F.room.mono (by decide)) (ok__law_draw T) T.f__law_draw.m T.f__law_draw.k T.f__law_draw.b (pj_jar 0 (pj_cons pu_int pj_nil)))) (.eq (.no (.no (.no (.no (.no (.no (.no (.no .nil))))))))) (fun d15 => (v_own (po_lst pa_nil') (.eq (.no (.no (.no (.no (.no (.no (.no (.no .nil))))))))) (fun d16 => (v_own (po_lst pa_nil') (.eq (.no (.no (.no (.no (.no (.no (.no (.no .nil))))))))) (fun d17 => v_nil)))))) (fun _ a2 a4 v1 c18 c19 => (match c18 with | .list l3 => (match c19 with | .list l5 => (b_for (enc0 := (fun s6 : List D × Unit => [.jar j0, .pu x0, .pu v1, .ce a2 (.list s6.1), .ce a4 (.list l5), .no, .no, .no, .no])) (l3, ()) F (pi_rng1 (by rfl) T.n_range (pu_var 2)) (.eq (.no (.no (.no (.no (.no (.no (.no (.no .nil))))))))) (.eq (.eq (.eq (.eq (.eq (.no (.no (.no (.no .nil))))))))) (g_name 5 F.nd) (by simp) (fun t7 s6 => (b_app (a := a2) 3 (pu_callT c_tuple (by rfl) T.n_tuple (by decide +kernel) (pa_cons' (pu_lc F.lv F.nd (blkOk_by (N := ["pot", "frame", "states", "table", "allowed", "s", "rule", "some", "g"]) (sc := defScope s__law_checks) (own := [("g", 8)]) (by first | decide +kernel | kernel_rfl)) (pi_rng1 (by rfl) T.n_range (pu_ix (pu_var 1) pu_int)) (fun s H C cl fp => (g_name 8 F.nd)) (by simp) (by simp) (fun t8 => fun s H C cl fp => ts_nil) (fun t8 => fun s H C cl fp => (pu_call takes0 (F.room.mono (by decide)) (ok__law_draw T) T.f__law_draw.m T.f__law_draw.k T.f__law_draw.b (pj_jar 0 (pj_cons (pu_var 2) pj_nil)))) (keep_name 8) (by simp [ownOf])) pa_nil')) (.eq (.no (.no (.no (.no (.no (.no (.no (.no .nil))))))))) (fun v9 => (b_nil (a := ((s6.1 ++ [v9]), ())) (.eq (.eq (.eq (.eq (.eq (.no (.no (.no (.no .nil))))))))))))) (fun s6 => (b_for (enc0 := (fun s10 : List D × Unit => [.jar j0, .pu x0, .pu v1, .ce a2 (.list s6.1), .ce a4 (.list s10.1), .no, .no, .no, .no])) (l5, ()) F (pi_seq (pu_ix (pu_var 1) pu_int)) (.eq (.no (.no (.no (.no (.no (.no (.no (.no .nil))))))))) (.eq (.eq (.eq (.eq (.eq (.no (.no (.no (.no .nil))))))))) (g_name 6 F.nd) (by simp) (fun t11 s10 => (b_set 7 F.nd (pu_callT c_tuple (by rfl) T.n_tuple (by decide +kernel) (pa_cons' (pu_lc F.lv F.nd (blkOk_by (N := ["pot", "frame", "states", "table", "allowed", "s", "rule", "some", "g"]) (sc := defScope s__law_checks) (own := [("s", 5)]) (by first | decide +kernel | kernel_rfl)) (pi_rng1 (by rfl) T.n_range (pu_var 2)) (fun s H C cl fp => (g_name 5 F.nd)) (by simp) (by simp) (fun t12 => fun s H C cl fp => (ts_one (pt_cmp (op_eqP (Lv.blk F.lv)) (pu_call takes0 (F.room.mono (by decide)) (ok__law_draw T) T.f__law_draw.m T.f__law_draw.k T.f__law_draw.b (pj_jar 0 (pj_cons pu_int pj_nil))) pu_int (by rfl)))) (fun t12 => fun s H C cl fp => (pu_var 5)) (keep_name 5) (by simp [ownOf])) pa_nil')) (.eq (.no (.no (.no (.no (.no (.no (.no (.no .nil))))))))) (fun v13 => (b_app (a := a4) 4 (pu_call F.tk (F.room.mono (by decide)) (ok__law_one T) T.f__law_one.m T.f__law_one.k T.f__law_one.b (pj_jar 0 (pj_cons (pu_lst (pa_cons' pu_non (pa_cons' (pu_var 7) (pa_cons' (pu_var 7) pa_nil')))) pj_nil))) (.eq (.no (.no (.no (.no (.no (.no (.no (.no .nil))))))))) (fun v14 => (b_nil (a := ((s10.1 ++ [v14]), ())) (.eq (.eq (.eq (.eq (.eq (.no (.no (.no (.no .nil))))))))))))))) (fun s10 => (b_frz 3 (b_frz 4 (b_ret (mk := fun d => d) (pu_tup (pa_cons' (pu_var 2) (pa_cons' (pu_callT c_tuple (by rfl) T.n_tuple (by decide +kernel) (pa_cons' (pu_var 3) pa_nil')) (pa_cons' (pu_callT c_tuple (by rfl) T.n_tuple (by decide +kernel) (pa_cons' (pu_var 4) pa_nil')) pa_nil')))) (.eq (.no (.no (.no (.no (.no (.no (.no (.no .nil)))))))))))))))) | .none => b_bad | .bool _ => b_bad | .int _ => b_bad | .str _ => b_bad | .tuple _ => b_bad | .dict _ => b_bad) | .none => b_bad | .bool _ => b_bad | .int _ => b_bad | .str _ => b_bad | .tuple _ => b_bad | .dict _ => b_bad)))) (fun z => nomatch z) (by first | rfl | (rw [l__law_checks]))
abbrev lb__law_below_2 (x0 : D) (t3 : D) (s2 : (D × Unit)) : R (Fl (D × Unit) (D × Unit) D) := ((R.bin pIx (R.bin pIx (R.bin pIx (.ok x0) (.ok (.int 1))) (.ok s2.1)) (.ok t3)) >>= fun v4 => .ok (.nx (v4, ())))
def l__law_below : List D → R D
  | [x0, x1] => R.fin (α := Empty) (.ok (.int 0) >>= fun v1 => ((R.un pSeq (R.un pRevT (.ok x1))) >>= fun ds => Fl.then (forR decN (lb__law_below_2 x0) ds (v1, ())) fun s2 => (.ok s2.1 >>= fun d => .ok (.rt d))))
  | _ => .bad
theorem sc__law_below : FnScope ["tests", "stack", "state", "letter"] ["tests", "stack"] (defScope s__law_below) := ⟨rfl, rfl, rfl, by decide +kernel, rfl, by decide +kernel, by decide +kernel⟩
theorem ok__law_below (T : Tx P K mg a) : FnOk P w K mg base (L2.CX P w) 1 a.f__law_below a.d__law_below ["tests", "stack"] (spD ⟨P, w, K⟩ mg false [false, false] l__law_below) :=
  fnD (ks := [false, false]) T.f__law_below.F sc__law_below rfl fun cdv A outer s H E F js ds hj hd => match js, ds, hj, hd with
    | [], [x0, x1], _, _ => .mk (enc := encE) (show PuB _ _ _ _ [.no, .no, .no, .no] _ [.pu x0, .pu x1, .no, .no] _ _ from (b_set 2 F.nd pu_int (.no (.no (.no (.no .nil)))) (fun v1 => (b_for (enc0 := (fun s2 : D × Unit => [.pu x0, .pu x1, .pu s2.1, .no])) (v1, ()) F (pi_seq (pu_revT (pu_var 1))) (.no (.no (.no (.no .nil)))) (.eq (.eq (.eq (.no .nil)))) (g_name 3 F.nd) (by simp) (fun t3 s2 => (b_set 2 F.nd (pu_ix (pu_ix (pu_ix (pu_var 0) pu_int) (pu_var 2)) (pu_var 3)) (.no (.no (.no (.no .nil)))) (fun v4 => (b_nil (a := (v4, ())) (.eq (.eq (.eq (.no .nil)))))))) (fun s2 => (b_ret (mk := fun d => d) (pu_var 2) (.no (.no (.no (.no .nil)))))))))) (fun z => nomatch z) (by first | rfl | (rw [l__law_below]))
def l__law_usable : List D → R D
  | [x0, x1, x2] => R.fin (α := Empty) ((R.tcmp pEq (R.bin pIx (.ok x2) (.ok (.int 1))) (R.tup [])) >>= fun k => if k = true then R.up ((R.lst []) >>= fun d => .ok (.rt d)) else ((R.cal (l__law_below) [.ok x1, (R.slL (R.bin pIx (.ok x2) (.ok (.int 1))) (.ok (.int 1)))]) >>= fun v1 => ((R.lc (decN) (fun t2 => (R.tcmp pEq (R.slH (R.bin pIx (R.bin pIx (.ok x0) (.ok (.int 2))) (.ok t2)) (.ok (.int 2))) (R.tup [(R.bin pIx (.ok x2) (.ok (.int 0))), (R.bin pIx (R.bin pIx (.ok x2) (.ok (.int 1))) (.ok (.int 0)))]))) (fun t2 => .ok t2) (R.un pRng1 (R.blt (f1 pLen) [(R.bin pIx (.ok x0) (.ok (.int 2)))]))) >>= fun v3 => ((R.lc (decN) (fun t4 => (R.tor (R.tcmp pIsN (R.bin pIx (R.bin pIx (.ok x1) (.ok (.int 2))) (.ok t4)) (.ok .none)) (R.tcmp pIn (.ok v1) (R.bin pIx (R.bin pIx (.ok x1) (.ok (.int 2))) (.ok t4))))) (fun t4 => .ok t4) (R.un pSeq (.ok v3))) >>= fun d => .ok (.rt d)))))
  | _ => .bad
theorem sc__law_usable : FnScope ["frame", "tests", "at", "state", "some", "k"] ["frame", "tests", "at"] (defScope s__law_usable) := ⟨rfl, rfl, rfl, by decide +kernel, rfl, by decide +kernel, by decide +kernel⟩
theorem ok__law_usable (T : Tx P K mg a) : FnOk P w K mg base (L2.CX P w) 2 a.f__law_usable a.d__law_usable ["frame", "tests", "at"] (spD ⟨P, w, K⟩ mg false [false, false, false] l__law_usable) :=
  fnD (ks := [false, false, false]) T.f__law_usable.F sc__law_usable rfl fun cdv A outer s H E F js ds hj hd => match js, ds, hj, hd with
    | [], [x0, x1, x2], _, _ => .mk (enc := encE) (show PuB _ _ _ _ [.no, .no, .no, .no, .no, .no] _ [.pu x0, .pu x1, .pu x2, .no, .no, .no] _ _ from (b_ifT (pt_cmp (op_eqP F.lv) (pu_ix (pu_var 2) pu_int) (pu_tup pa_nil') (by rfl)) (.no (.no (.no (.no (.no (.no .nil)))))) (b_ret (mk := fun d => d) (pu_lst pa_nil') (.no (.no (.no (.no (.no (.no .nil))))))) (b_set 3 F.nd (pu_call F.tk (F.room.mono (by decide)) (ok__law_below T) T.f__law_below.m T.f__law_below.k T.f__law_below.b (pj_cons (pu_var 1) (pj_cons (pu_slL (pu_ix (pu_var 2) pu_int) pu_int) pj_nil))) (.no (.no (.no (.no (.no (.no .nil)))))) (fun v1 => (b_setLc 4 F.lv F.nd (blkOk_by (N := ["frame", "tests", "at", "state", "some", "k"]) (sc := defScope s__law_usable) (own := [("k", 5)]) (by first | decide +kernel | kernel_rfl)) (pi_rng1 (by rfl) T.n_range (pu_callB c_len (by rfl) T.n_len (by decide +kernel) (pa_cons' (pu_ix (pu_var 0) pu_int) pa_nil'))) (fun s H C cl fp => (g_name 5 F.nd)) (by simp) (by simp) (fun t2 => fun s H C cl fp => (ts_one (pt_cmp (op_eqP (Lv.blk F.lv)) (pu_slH (pu_ix (pu_ix (pu_var 0) pu_int) (pu_var 5)) pu_int) (pu_tup (pa_cons' (pu_ix (pu_var 2) pu_int) (pa_cons' (pu_ix (pu_ix (pu_var 2) pu_int) pu_int) pa_nil'))) (by rfl)))) (fun t2 => fun s H C cl fp => (pu_var 5)) (keep_name 5) (by simp [ownOf]) (.no (.no (.no (.no (.no (.no .nil)))))) (fun v3 => (b_ret (mk := fun d => d) (pu_lc F.lv F.nd (blkOk_by (N := ["frame", "tests", "at", "state", "some", "k"]) (sc := defScope s__law_usable) (own := [("k", 5)]) (by first | decide +kernel | kernel_rfl)) (pi_seq (pu_var 4)) (fun s H C cl fp => (g_name 5 F.nd)) (by simp) (by simp) (fun t4 => fun s H C cl fp => (ts_one (PuW.t (pw_or' (pt_cmp op_isNP (pu_ix (pu_ix (pu_var 1) pu_int) (pu_var 5)) pu_non (by rfl)) (pw_one (pt_cmp (op_inP (Lv.blk F.lv)) (pu_var 3) (pu_ix (pu_ix (pu_var 1) pu_int) (pu_var 5)) (by rfl))))))) (fun t4 => fun s H C cl fp => (pu_var 5)) (keep_name 5) (by simp [ownOf])) (.no (.no (.no (.no (.no (.no .nil))))))))))))) (fun z => nomatch z) (by first | rfl | (rw [l__law_usable]))
def l__law_marks : List D → R D
  | [x0, x1] => R.fin (α := Empty) ((R.blt (f1 pTuple) [(R.lc (decN) (fun t1 => .ok true) (fun t1 => (R.bin pAdd (R.bin pMul (R.bin pIx (.ok x1) (.ok t1)) (R.bin pIx (.ok x0) (.ok (.int 0)))) (R.cal (l__law_below) [.ok x0, (R.slL (.ok x1) (R.bin pAdd (.ok t1) (.ok (.int 1))))]))) (R.un pRng1 (R.blt (f1 pLen) [.ok x1])))]) >>= fun d => .ok (.rt d))
  | _ => .bad
theorem sc__law_marks : FnScope ["tests", "stack", "k"] ["tests", "stack"] (defScope s__law_marks) := ⟨rfl, rfl, rfl, by decide +kernel, rfl, by decide +kernel, by decide +kernel⟩
theorem ok__law_marks (T : Tx P K mg a) : FnOk P w K mg base (L2.CX P w) 2 a.f__law_marks a.d__law_marks ["tests", "stack"] (spD ⟨P, w, K⟩ mg false [false, false] l__law_marks) :=
  fnD (ks := [false, false]) T.f__law_marks.F sc__law_marks rfl fun cdv A outer s H E F js ds hj hd => match js, ds, hj, hd with
    | [], [x0, x1], _, _ => .mk (enc := encE) (show PuB _ _ _ _ [.no, .no, .no] _ [.pu x0, .pu x1, .no] _ _ from (b_ret (mk := fun d => d) (pu_callT c_tuple (by rfl) T.n_tuple (by decide +kernel) (pa_cons' (pu_lc F.lv F.nd (blkOk_by (N := ["tests", "stack", "k"]) (sc := defScope s__law_marks) (own := [("k", 2)]) (by first | decide +kernel | kernel_rfl)) (pi_rng1 (by rfl) T.n_range (pu_callB c_len (by rfl) T.n_len (by decide +kernel) (pa_cons' (pu_var 1) pa_nil'))) (fun s H C cl fp => (g_name 2 F.nd)) (by simp) (by simp) (fun t1 => fun s H C cl fp => ts_nil) (fun t1 => fun s H C cl fp => (pu_bin op_addP (pu_bin op_mulP (pu_ix (pu_var 1) (pu_var 2)) (pu_ix (pu_var 0) pu_int)) (pu_call takes0 (F.room.mono (by decide)) (ok__law_below T) T.f__law_below.m T.f__law_below.k T.f__law_below.b (pj_cons (pu_var 0) (pj_cons (pu_slL (pu_var 1) (pu_bin op_addP (pu_var 2) pu_int)) pj_nil))))) (keep_name 2) (by simp [ownOf])) pa_nil')) (.no (.no (.no .nil))))) (fun z => nomatch z) (by first | rfl | (rw [l__law_marks]))
def l__law_is_numbers : List D → R D
  | [x0, x1] => R.fin (α := Empty) ((R.and (R.isi "tuple" (.ok x1)) (R.cmp pEq (R.lc (decN) (fun t1 => (R.tor (R.tnt (R.tru (R.cal (l__law_whole) [.ok t1]))) (R.tor (R.tcmp pLt (.ok t1) (.ok (.int 0))) (R.tcmp pGe (.ok t1) (.ok x0))))) (fun t1 => .ok t1) (R.un pSeq (.ok x1))) (R.lst []))) >>= fun d => .ok (.rt d))
  | _ => .bad
theorem sc__law_is_numbers : FnScope ["many", "thing", "one"] ["many", "thing"] (defScope s__law_is_numbers) := ⟨rfl, rfl, rfl, by decide +kernel, rfl, by decide +kernel, by decide +kernel⟩
theorem ok__law_is_numbers (T : Tx P K mg a) : FnOk P w K mg base (L2.CX P w) 2 a.f__law_is_numbers a.d__law_is_numbers ["many", "thing"] (spD ⟨P, w, K⟩ mg false [false, false] l__law_is_numbers) :=
  fnD (ks := [false, false]) T.f__law_is_numbers.F sc__law_is_numbers rfl fun cdv A outer s H E F js ds hj hd => match js, ds, hj, hd with
    | [], [x0, x1], _, _ => .mk (enc := encE) (show PuB _ _ _ _ [.no, .no, .no] _ [.pu x0, .pu x1, .no] _ _ from (b_ret (mk := fun d => d) (pu_and (pu_isi (T := "tuple") (pu_var 1) rfl (by rfl) T.n_isinstance (by rfl) T.n_tuple (by decide +kernel)) (pu_one (pu_cmp (op_eqP F.lv) (pu_lc F.lv F.nd (blkOk_by (N := ["many", "thing", "one"]) (sc := defScope s__law_is_numbers) (own := [("one", 2)]) (by first | decide +kernel | kernel_rfl)) (pi_seq (pu_var 1)) (fun s H C cl fp => (g_name 2 F.nd)) (by simp) (by simp) (fun t1 => fun s H C cl fp => (ts_one (PuW.t (pw_or' (pt_not' (pt_tru (pu_call takes0 (F.room.mono (by decide)) (ok__law_whole T) T.f__law_whole.m T.f__law_whole.k T.f__law_whole.b (pj_cons (pu_var 2) pj_nil)))) (pw_or' (pt_cmp (op_ltP (Lv.blk F.lv)) (pu_var 2) pu_int (by rfl)) (pw_one (pt_cmp (op_geP (Lv.blk F.lv)) (pu_var 2) (pu_var 0) (by rfl)))))))) (fun t1 => fun s H C cl fp => (pu_var 2)) (keep_name 2) (by simp [ownOf])) (pu_lst pa_nil') (by rfl)))) (.no (.no (.no .nil))))) (fun z => nomatch z) (by first | rfl | (rw [l__law_is_numbers]))
def l__law_are_checks : List D → R D
  | [x0, x1] => R.fin (α := Empty) ((R.tor (R.tnt (R.tru (R.isi "tuple" (.ok x1)))) (R.tor (R.tcmp pNe (R.blt (f1 pLen) [.ok x1]) (.ok (.int 3))) (R.tor (R.tnt (R.tru (R.cal (l__law_whole) [(R.bin pIx (.ok x1) (.ok (.int 0)))]))) (R.tcmp pLt (R.bin pIx (.ok x1) (.ok (.int 0))) (.ok (.int 1)))))) >>= fun k => if k = true then R.up (.ok (.bool false) >>= fun d => .ok (.rt d)) else (.ok x1 >>= fun d => R.of ((decTup (decCons decN (decCons decN (decCons decN decNil)))) d) >>= fun t1 => ((R.tor (R.tnt (R.tru (R.isi "tuple" (.ok t1.2.1)))) (R.tor (R.tcmp pNe (R.blt (f1 pLen) [.ok t1.2.1]) (.ok t1.1)) (R.tor (R.tnt (R.tru (R.isi "tuple" (.ok t1.2.2.1)))) (R.tcmp pNe (R.blt (f1 pLen) [.ok t1.2.2.1]) (R.blt (f1 pLen) [(R.bin pIx (.ok x0) (.ok (.int 2)))]))))) >>= fun k => if k = true then R.up (.ok (.bool false) >>= fun d => .ok (.rt d)) else ((R.tcmp pNe (R.lc (decN) (fun t2 => (R.tor (R.tnt (R.tru (R.cal (l__law_is_numbers) [.ok t1.1, .ok t2]))) (R.tcmp pNe (R.blt (f1 pLen) [.ok t2]) (R.bin pIx (.ok x0) (.ok (.int 1)))))) (fun t2 => .ok t2) (R.un pSeq (.ok t1.2.1))) (R.lst [])) >>= fun k => if k = true then R.up (.ok (.bool false) >>= fun d => .ok (.rt d)) else ((R.cmp pEq (R.lc (decN) (fun t3 => (R.tand (R.tcmp pNotN (.ok t3) (.ok .none)) (R.tor (R.tnt (R.tru (R.cal (l__law_is_numbers) [.ok t1.1, .ok t3]))) (R.tcmp pNe (R.blt (f1 pList) [.ok t3]) (R.un pSetI (.ok t3)))))) (fun t3 => .ok t3) (R.un pSeq (.ok t1.2.2.1))) (R.lst [])) >>= fun d => .ok (.rt d))))))
  | _ => .bad
theorem sc__law_are_checks : FnScope ["frame", "value", "states", "table", "allowed", "row", "one"] ["frame", "value"] (defScope s__law_are_checks) := ⟨rfl, rfl, rfl, by decide +kernel, rfl, by decide +kernel, by decide +kernel⟩
theorem ok__law_are_checks (T : Tx P K mg a) : FnOk P w K mg base (L2.CX P w) 3 a.f__law_are_checks a.d__law_are_checks ["frame", "value"] (spD ⟨P, w, K⟩ mg false [false, false] l__law_are_checks) :=
  fnD (ks := [false, false]) T.f__law_are_checks.F sc__law_are_checks rfl fun cdv A outer s H E F js ds hj hd => match js, ds, hj, hd with
    | [], [x0, x1], _, _ => .mk (enc := encE) (show PuB _ _ _ _ [.no, .no, .no, .no, .no, .no, .no] _ [.pu x0, .pu x1, .no, .no, .no, .no, .no] _ _ from (b_ifT (PuW.t (pw_or' (pt_not' (pt_tru (pu_isi (T := "tuple") (pu_var 1) rfl (by rfl) T.n_isinstance (by rfl) T.n_tuple (by decide +kernel)))) (pw_or' (pt_cmp (op_neP F.lv) (pu_callB c_len (by rfl) T.n_len (by decide +kernel) (pa_cons' (pu_var 1) pa_nil')) pu_int (by rfl)) (pw_or' (pt_not' (pt_tru (pu_call F.tk (F.room.mono (by decide)) (ok__law_whole T) T.f__law_whole.m T.f__law_whole.k T.f__law_whole.b (pj_cons (pu_ix (pu_var 1) pu_int) pj_nil)))) (pw_one (pt_cmp (op_ltP F.lv) (pu_ix (pu_var 1) pu_int) pu_int (by rfl))))))) (.no (.no (.no (.no (.no (.no (.no .nil))))))) (b_ret (mk := fun d => d) pu_bl (.no (.no (.no (.no (.no (.no (.no .nil)))))))) (b_tgt (pu_var 1) (.no (.no (.no (.no (.no (.no (.no .nil))))))) (g_tup F.calm (gs_cons (g_name 2 F.nd) (gs_cons (g_name 3 F.nd) (gs_cons (g_name 4 F.nd) gs_nil (keep_name 4)) (keep_name 3)) (keep_name 2)) (len_cons (len_cons (len_cons len_nil)))) (fun t1 => (b_ifT (PuW.t (pw_or' (pt_not' (pt_tru (pu_isi (T := "tuple") (pu_var 3) rfl (by rfl) T.n_isinstance (by rfl) T.n_tuple (by decide +kernel)))) (pw_or' (pt_cmp (op_neP F.lv) (pu_callB c_len (by rfl) T.n_len (by decide +kernel) (pa_cons' (pu_var 3) pa_nil')) (pu_var 2) (by rfl)) (pw_or' (pt_not' (pt_tru (pu_isi (T := "tuple") (pu_var 4) rfl (by rfl) T.n_isinstance (by rfl) T.n_tuple (by decide +kernel)))) (pw_one (pt_cmp (op_neP F.lv) (pu_callB c_len (by rfl) T.n_len (by decide +kernel) (pa_cons' (pu_var 4) pa_nil')) (pu_callB c_len (by rfl) T.n_len (by decide +kernel) (pa_cons' (pu_ix (pu_var 0) pu_int) pa_nil')) (by rfl))))))) (.no (.no (.no (.no (.no (.no (.no .nil))))))) (b_ret (mk := fun d => d) pu_bl (.no (.no (.no (.no (.no (.no (.no .nil)))))))) (b_ifT (pt_cmp (op_neP F.lv) (pu_lc F.lv F.nd (blkOk_by (N := ["frame", "value", "states", "table", "allowed", "row", "one"]) (sc := defScope s__law_are_checks) (own := [("row", 5)]) (by first | decide +kernel | kernel_rfl)) (pi_seq (pu_var 3)) (fun s H C cl fp => (g_name 5 F.nd)) (by simp) (by simp) (fun t2 => fun s H C cl fp => (ts_one (PuW.t (pw_or' (pt_not' (pt_tru (pu_call takes0 (F.room.mono (by decide)) (ok__law_is_numbers T) T.f__law_is_numbers.m T.f__law_is_numbers.k T.f__law_is_numbers.b (pj_cons (pu_var 2) (pj_cons (pu_var 5) pj_nil))))) (pw_one (pt_cmp (op_neP (Lv.blk F.lv)) (pu_callB c_len (by rfl) T.n_len (by decide +kernel) (pa_cons' (pu_var 5) pa_nil')) (pu_ix (pu_var 0) pu_int) (by rfl))))))) (fun t2 => fun s H C cl fp => (pu_var 5)) (keep_name 5) (by simp [ownOf])) (pu_lst pa_nil') (by rfl)) (.no (.no (.no (.no (.no (.no (.no .nil))))))) (b_ret (mk := fun d => d) pu_bl (.no (.no (.no (.no (.no (.no (.no .nil)))))))) (b_ret (mk := fun d => d) (pu_cmp (op_eqP F.lv) (pu_lc F.lv F.nd (blkOk_by (N := ["frame", "value", "states", "table", "allowed", "row", "one"]) (sc := defScope s__law_are_checks) (own := [("one", 6)]) (by first | decide +kernel | kernel_rfl)) (pi_seq (pu_var 4)) (fun s H C cl fp => (g_name 6 F.nd)) (by simp) (by simp) (fun t3 => fun s H C cl fp => (ts_one (PuW.t (pw_and' (pt_cmp op_notNP (pu_var 6) pu_non (by rfl)) (pw_one (PuW.t (pw_or' (pt_not' (pt_tru (pu_call takes0 (F.room.mono (by decide)) (ok__law_is_numbers T) T.f__law_is_numbers.m T.f__law_is_numbers.k T.f__law_is_numbers.b (pj_cons (pu_var 2) (pj_cons (pu_var 6) pj_nil))))) (pw_one (pt_cmp (op_neP (Lv.blk F.lv)) (pu_callT c_list (by rfl) T.n_list (by decide +kernel) (pa_cons' (pu_var 6) pa_nil')) (pu_sortSetI (Lv.blk F.lv) (by rfl) T.n_sorted (by rfl) T.n_set (pu_var 6)) (by rfl)))))))))) (fun t3 => fun s H C cl fp => (pu_var 6)) (keep_name 6) (by simp [ownOf])) (pu_lst pa_nil') (by rfl)) (.no (.no (.no (.no (.no (.no (.no .nil))))))))))) (by simp)))) (fun z => nomatch z) (by first | rfl | (rw [l__law_are_checks]))
def l__law_bent : List D → R D
  | [x0, x1] => R.fin (α := Empty) (.ok x1 >>= fun d => R.of ((decTup (decCons decN (decCons decN (decCons decN decNil)))) d) >>= fun t1 => ((R.cal (l__law_draw) [.ok t1.1]) >>= fun d12 => ((R.cal (l__law_draw) [(R.blt (f1 pLen) [.ok t1.2.2.1])]) >>= fun d13 => ((R.cal (l__law_one) [(R.lst [.ok t1.1, (R.un pNeg (.ok (.int 1))), .ok (.bool true), .ok .none, .ok (.str "0"), (R.tup [.ok (.int 0)]), (R.lst [.ok (.int 0)])])]) >>= fun d14 => (fun ds => match ds with | [v2, v3, v4] => ((R.cal (l__law_draw) [(R.bin pIx (.ok x0) (.ok (.int 1)))]) >>= fun v5 => ((R.lst [(R.tup [.ok t1.1, (R.bin pAdd (R.bin pAdd (R.slH (.ok t1.2.1) (.ok v2)) (R.tup [(R.bin pAdd (R.bin pAdd (R.slH (R.bin pIx (.ok t1.2.1) (.ok v2)) (.ok v5)) (R.tup [.ok v4])) (R.slL (R.bin pIx (.ok t1.2.1) (.ok v2)) (R.bin pAdd (.ok v5) (.ok (.int 1)))))])) (R.slL (.ok t1.2.1) (R.bin pAdd (.ok v2) (.ok (.int 1))))), .ok t1.2.2.1]), (R.tup [(R.bin pAdd (.ok t1.1) (.ok (.int 1))), .ok t1.2.1, .ok t1.2.2.1])]) >>= fun v6 => ((R.bin pAdd (.ok v6) (R.lst [(R.tup [.ok t1.1, .ok t1.2.1, (R.bin pAdd (R.bin pAdd (R.slH (.ok t1.2.2.1) (.ok v3)) (R.tup [.ok v4])) (R.slL (.ok t1.2.2.1) (R.bin pAdd (.ok v3) (.ok (.int 1)))))]), (R.tup [.ok t1.1, .ok t1.2.1, (R.bin pAdd (R.bin pAdd (R.slH (.ok t1.2.2.1) (.ok v3)) (R.tup [(R.tup [.ok (.int 0), .ok v4])])) (R.slL (.ok t1.2.2.1) (R.bin pAdd (.ok v3) (.ok (.int 1)))))])])) >>= fun v7 => ((R.bin pAdd (.ok v7) (R.lst [(R.tup [.ok t1.1, .ok t1.2.1, (R.bin pAdd (R.bin pAdd (R.slH (.ok t1.2.2.1) (.ok v3)) (R.tup [(R.tup [.ok v4])])) (R.slL (.ok t1.2.2.1) (R.bin pAdd (.ok v3) (.ok (.int 1)))))]), (R.tup [.ok t1.1, (R.slL (.ok t1.2.1) (.ok (.int 1))), .ok t1.2.2.1]), (R.tup [.ok t1.1, .ok t1.2.1, (R.slL (.ok t1.2.2.1) (.ok (.int 1)))])])) >>= fun v8 => ((R.bin pAdd (.ok v8) (R.lst [(R.tup [.ok t1.1, (R.blt (f1 pList) [.ok t1.2.1]), .ok t1.2.2.1]), (R.tup [.ok t1.1, .ok t1.2.1, (R.blt (f1 pList) [.ok t1.2.2.1])]), (R.tup [.ok (.bool true), .ok t1.2.1, .ok t1.2.2.1]), (R.tup [.ok (.int 0), (R.tup []), .ok t1.2.2.1]), (R.blt (f1 pList) [.ok x1]), (R.slH (.ok x1) (.ok (.int 2)))])) >>= fun v9 => ((R.bin pAdd (.ok v9) (R.lst [(R.tup [.ok t1.1, .ok t1.2.1, (R.bin pAdd (R.bin pAdd (R.slH (.ok t1.2.2.1) (.ok v3)) (R.tup [(R.tup [.ok (.int 0), .ok (.int 0)])])) (R.slL (.ok t1.2.2.1) (R.bin pAdd (.ok v3) (.ok (.int 1)))))]), (R.tup [.ok t1.1, .ok t1.2.1, (R.bin pAdd (R.bin pAdd (R.slH (.ok t1.2.2.1) (.ok v3)) (R.tup [(R.tup [])])) (R.slL (.ok t1.2.2.1) (R.bin pAdd (.ok v3) (.ok (.int 1)))))]), (R.bin pAdd (.ok x1) (R.tup [.ok (.int 0)]))])) >>= fun v10 => ((R.bin pAdd (.ok v10) (R.lst [(R.tup [.ok t1.1, (R.bin pAdd (.ok t1.2.1) (R.slH (.ok t1.2.1) (.ok (.int 1)))), .ok t1.2.2.1]), (R.tup [.ok t1.1, (R.bin pAdd (R.bin pAdd (R.slH (.ok t1.2.1) (.ok v2)) (R.tup [(R.blt (f1 pList) [(R.bin pIx (.ok t1.2.1) (.ok v2))])])) (R.slL (.ok t1.2.1) (R.bin pAdd (.ok v2) (.ok (.int 1))))), .ok t1.2.2.1]), .ok .none, .ok (.int 0), (R.tup []), (R.tup [.ok t1.1, .ok .none, .ok t1.2.2.1])])) >>= fun v11 => ((R.cal (l__law_one) [(R.bin pAdd (.ok v11) (R.lst [(R.tup [.ok t1.1, (R.un pRevT (.ok t1.2.1)), .ok t1.2.2.1]), (R.tup [.ok t1.1, .ok t1.2.1, (R.bin pAdd (R.bin pAdd (R.slH (.ok t1.2.2.1) (.ok v3)) (R.tup [((R.un pRng1 (.ok t1.1)) >>= fun ds => R.of (mkTup ds))])) (R.slL (.ok t1.2.2.1) (R.bin pAdd (.ok v3) (.ok (.int 1)))))])]))]) >>= fun d => .ok (.rt d))))))))) | _ => .bad) [d12, d13, d14]))))
  | _ => .bad
theorem sc__law_bent : FnScope ["pot", "frame", "tests", "states", "table", "allowed", "k", "j", "odd", "g", "some"] ["pot", "frame", "tests"] (defScope s__law_bent) := ⟨rfl, rfl, rfl, by decide +kernel, rfl, by decide +kernel, by decide +kernel⟩
theorem ok__law_bent (T : Tx P K mg a) : FnOk P w K mg base (L2.CX P w) 3 a.f__law_bent a.d__law_bent ["pot", "frame", "tests"] (spD ⟨P, w, K⟩ mg false [true, false, false] l__law_bent) :=
  fnD (ks := [true, false, false]) T.f__law_bent.F sc__law_bent rfl fun cdv A outer s H E F js ds hj hd => match js, ds, hj, hd with
    | [j0], [x0, x1], _, _ => .mk (enc := encE) (show PuB _ _ _ _ [.jar j0, .no, .no, .no, .no, .no, .no, .no, .no, .no, .no] _ [.jar j0, .pu x0, .pu x1, .no, .no, .no, .no, .no, .no, .no, .no] _ _ from (b_tgt (pu_var 2) (.eq (.no (.no (.no (.no (.no (.no (.no (.no (.no (.no .nil))))))))))) (g_tup F.calm (gs_cons (g_name 3 F.nd) (gs_cons (g_name 4 F.nd) (gs_cons (g_name 5 F.nd) gs_nil (keep_name 5)) (keep_name 4)) (keep_name 3)) (len_cons (len_cons (len_cons len_nil)))) (fun t1 => (b_parV3 6 7 8 F (f := (fun ds => match ds with | [v2, v3, v4] => ((R.cal (l__law_draw) [(R.bin pIx (.ok x0) (.ok (.int 1)))]) >>= fun v5 => ((R.lst [(R.tup [.ok t1.1, (R.bin pAdd (R.bin pAdd (R.slH (.ok t1.2.1) (.ok v2)) (R.tup [(R.bin pAdd (R.bin pAdd (R.slH (R.bin pIx (.ok t1.2.1) (.ok v2)) (.ok v5)) (R.tup [.ok v4])) (R.slL (R.bin pIx (.ok t1.2.1) (.ok v2)) (R.bin pAdd (.ok v5) (.ok (.int 1)))))])) (R.slL (.ok t1.2.1) (R.bin pAdd (.ok v2) (.ok (.int 1))))), .ok t1.2.2.1]), (R.tup [(R.bin pAdd (.ok t1.1) (.ok (.int 1))), .ok t1.2.1, .ok t1.2.2.1])]) >>= fun v6 => ((R.bin pAdd (.ok v6) (R.lst [(R.tup [.ok t1.1, .ok t1.2.1, (R.bin pAdd (R.bin pAdd (R.slH (.ok t1.2.2.1) (.ok v3)) (R.tup [.ok v4])) (R.slL (.ok t1.2.2.1) (R.bin pAdd (.ok v3) (.ok (.int 1)))))]), (R.tup [.ok t1.1, .ok t1.2.1, (R.bin pAdd (R.bin pAdd (R.slH (.ok t1.2.2.1) (.ok v3)) (R.tup [(R.tup [.ok (.int 0), .ok v4])])) (R.slL (.ok t1.2.2.1) (R.bin pAdd (.ok v3) (.ok (.int 1)))))])])) >>= fun v7 => ((R.bin pAdd (.ok v7) (R.lst [(R.tup [.ok t1.1, .ok t1.2.1, (R.bin pAdd (R.bin pAdd (R.slH (.ok t1.2.2.1) (.ok v3)) (R.tup [(R.tup [.ok v4])])) (R.slL (.ok t1.2.2.1) (R.bin pAdd (.ok v3) (.ok (.int 1)))))]), (R.tup [.ok t1.1, (R.slL (.ok t1.2.1) (.ok (.int 1))), .ok t1.2.2.1]), (R.tup [.ok t1.1, .ok t1.2.1, (R.slL (.ok t1.2.2.1) (.ok (.int 1)))])])) >>= fun v8 => ((R.bin pAdd (.ok v8) (R.lst [(R.tup [.ok t1.1, (R.blt (f1 pList) [.ok t1.2.1]), .ok t1.2.2.1]), (R.tup [.ok t1.1, .ok t1.2.1, (R.blt (f1 pList) [.ok t1.2.2.1])]), (R.tup [.ok (.bool true), .ok t1.2.1, .ok t1.2.2.1]), (R.tup [.ok (.int 0), (R.tup []), .ok t1.2.2.1]), (R.blt (f1 pList) [.ok x1]), (R.slH (.ok x1) (.ok (.int 2)))])) >>= fun v9 => ((R.bin pAdd (.ok v9) (R.lst [(R.tup [.ok t1.1, .ok t1.2.1, (R.bin pAdd (R.bin pAdd (R.slH (.ok t1.2.2.1) (.ok v3)) (R.tup [(R.tup [.ok (.int 0), .ok (.int 0)])])) (R.slL (.ok t1.2.2.1) (R.bin pAdd (.ok v3) (.ok (.int 1)))))]), (R.tup [.ok t1.1, .ok t1.2.1, (R.bin pAdd (R.bin pAdd (R.slH (.ok t1.2.2.1) (.ok v3)) (R.tup [(R.tup [])])) (R.slL (.ok t1.2.2.1) (R.bin pAdd (.ok v3) (.ok (.int 1)))))]), (R.bin pAdd (.ok x1) (R.tup [.ok (.int 0)]))])) >>= fun v10 => ((R.bin pAdd (.ok v10) (R.lst [(R.tup [.ok t1.1, (R.bin pAdd (.ok t1.2.1) (R.slH (.ok t1.2.1) (.ok (.int 1)))), .ok t1.2.2.1]), (R.tup [.ok t1.1, (R.bin pAdd (R.bin pAdd (R.slH (.ok t1.2.1) (.ok v2)) (R.tup [(R.blt (f1 pList) [(R.bin pIx (.ok t1.2.1) (.ok v2))])])) (R.slL (.ok t1.2.1) (R.bin pAdd (.ok v2) (.ok (.int 1))))), .ok t1.2.2.1]), .ok .none, .ok (.int 0), (R.tup []), (R.tup [.ok t1.1, .ok .none, .ok t1.2.2.1])])) >>= fun v11 => ((R.cal (l__law_one) [(R.bin pAdd (.ok v11) (R.lst [(R.tup [.ok t1.1, (R.un pRevT (.ok t1.2.1)), .ok t1.2.2.1]), (R.tup [.ok t1.1, .ok t1.2.1, (R.bin pAdd (R.bin pAdd (R.slH (.ok t1.2.2.1) (.ok v3)) (R.tup [((R.un pRng1 (.ok t1.1)) >>= fun ds => R.of (mkTup ds))])) (R.slL (.ok t1.2.2.1) (R.bin pAdd (.ok v3) (.ok (.int 1)))))])]))]) >>= fun d => .ok (.rt d))))))))) | _ => .bad)) (v_dat (pu_call F.tk (F.room.mono (by decide)) (ok__law_draw T) T.f__law_draw.m T.f__law_draw.k T.f__law_draw.b (pj_jar 0 (pj_cons (pu_var 3) pj_nil))) (.eq (.no (.no (.no (.no (.no (.no (.no (.no (.no (.no .nil))))))))))) (fun d12 => (v_dat (pu_call F.tk (F.room.mono (by decide)) (ok__law_draw T) T.f__law_draw.m T.f__law_draw.k T.f__law_draw.b (pj_jar 0 (pj_cons (pu_callB c_len (by rfl) T.n_len (by decide +kernel) (pa_cons' (pu_var 5) pa_nil')) pj_nil))) (.eq (.no (.no (.no (.no (.no (.no (.no (.no (.no (.no .nil))))))))))) (fun d13 => (v_dat (pu_call F.tk (F.room.mono (by decide)) (ok__law_one T) T.f__law_one.m T.f__law_one.k T.f__law_one.b (pj_jar 0 (pj_cons (pu_lst (pa_cons' (pu_var 3) (pa_cons' (pu_neg pu_int) (pa_cons' pu_bl (pa_cons' pu_non (pa_cons' pu_str (pa_cons' (pu_tup (pa_cons' pu_int pa_nil')) (pa_cons' (pu_lst (pa_cons' pu_int pa_nil')) pa_nil')))))))) pj_nil))) (.eq (.no (.no (.no (.no (.no (.no (.no (.no (.no (.no .nil))))))))))) (fun d14 => v_nil)))))) (fun _ _ _ v2 v3 v4 => (b_set 9 F.nd (pu_call F.tk (F.room.mono (by decide)) (ok__law_draw T) T.f__law_draw.m T.f__law_draw.k T.f__law_draw.b (pj_jar 0 (pj_cons (pu_ix (pu_var 1) pu_int) pj_nil))) (.eq (.no (.no (.no (.no (.no (.no (.no (.no (.no (.no .nil))))))))))) (fun v5 => (b_set 10 F.nd (pu_lst (pa_cons' (pu_tup (pa_cons' (pu_var 3) (pa_cons' (pu_bin op_addP (pu_bin op_addP (pu_slH (pu_var 4) (pu_var 6)) (pu_tup (pa_cons' (pu_bin op_addP (pu_bin op_addP (pu_slH (pu_ix (pu_var 4) (pu_var 6)) (pu_var 9)) (pu_tup (pa_cons' (pu_var 8) pa_nil'))) (pu_slL (pu_ix (pu_var 4) (pu_var 6)) (pu_bin op_addP (pu_var 9) pu_int))) pa_nil'))) (pu_slL (pu_var 4) (pu_bin op_addP (pu_var 6) pu_int))) (pa_cons' (pu_var 5) pa_nil')))) (pa_cons' (pu_tup (pa_cons' (pu_bin op_addP (pu_var 3) pu_int) (pa_cons' (pu_var 4) (pa_cons' (pu_var 5) pa_nil')))) pa_nil'))) (.eq (.no (.no (.no (.no (.no (.no (.no (.no (.no (.no .nil))))))))))) (fun v6 => (b_set 10 F.nd (pu_bin op_addP (pu_var 10) (pu_lst (pa_cons' (pu_tup (pa_cons' (pu_var 3) (pa_cons' (pu_var 4) (pa_cons' (pu_bin op_addP (pu_bin op_addP (pu_slH (pu_var 5) (pu_var 7)) (pu_tup (pa_cons' (pu_var 8) pa_nil'))) (pu_slL (pu_var 5) (pu_bin op_addP (pu_var 7) pu_int))) pa_nil')))) (pa_cons' (pu_tup (pa_cons' (pu_var 3) (pa_cons' (pu_var 4) (pa_cons' (pu_bin op_addP (pu_bin op_addP (pu_slH (pu_var 5) (pu_var 7)) (pu_tup (pa_cons' (pu_tup (pa_cons' pu_int (pa_cons' (pu_var 8) pa_nil'))) pa_nil'))) (pu_slL (pu_var 5) (pu_bin op_addP (pu_var 7) pu_int))) pa_nil')))) pa_nil')))) (.eq (.no (.no (.no (.no (.no (.no (.no (.no (.no (.no .nil))))))))))) (fun v7 => (b_set 10 F.nd (pu_bin op_addP (pu_var 10) (pu_lst (pa_cons' (pu_tup (pa_cons' (pu_var 3) (pa_cons' (pu_var 4) (pa_cons' (pu_bin op_addP (pu_bin op_addP (pu_slH (pu_var 5) (pu_var 7)) (pu_tup (pa_cons' (pu_tup (pa_cons' (pu_var 8) pa_nil')) pa_nil'))) (pu_slL (pu_var 5) (pu_bin op_addP (pu_var 7) pu_int))) pa_nil')))) (pa_cons' (pu_tup (pa_cons' (pu_var 3) (pa_cons' (pu_slL (pu_var 4) pu_int) (pa_cons' (pu_var 5) pa_nil')))) (pa_cons' (pu_tup (pa_cons' (pu_var 3) (pa_cons' (pu_var 4) (pa_cons' (pu_slL (pu_var 5) pu_int) pa_nil')))) pa_nil'))))) (.eq (.no (.no (.no (.no (.no (.no (.no (.no (.no (.no .nil))))))))))) (fun v8 => (b_set 10 F.nd (pu_bin op_addP (pu_var 10) (pu_lst (pa_cons' (pu_tup (pa_cons' (pu_var 3) (pa_cons' (pu_callT c_list (by rfl) T.n_list (by decide +kernel) (pa_cons' (pu_var 4) pa_nil')) (pa_cons' (pu_var 5) pa_nil')))) (pa_cons' (pu_tup (pa_cons' (pu_var 3) (pa_cons' (pu_var 4) (pa_cons' (pu_callT c_list (by rfl) T.n_list (by decide +kernel) (pa_cons' (pu_var 5) pa_nil')) pa_nil')))) (pa_cons' (pu_tup (pa_cons' pu_bl (pa_cons' (pu_var 4) (pa_cons' (pu_var 5) pa_nil')))) (pa_cons' (pu_tup (pa_cons' pu_int (pa_cons' (pu_tup pa_nil') (pa_cons' (pu_var 5) pa_nil')))) (pa_cons' (pu_callT c_list (by rfl) T.n_list (by decide +kernel) (pa_cons' (pu_var 2) pa_nil')) (pa_cons' (pu_slH (pu_var 2) pu_int) pa_nil')))))))) (.eq (.no (.no (.no (.no (.no (.no (.no (.no (.no (.no .nil))))))))))) (fun v9 => (b_set 10 F.nd (pu_bin op_addP (pu_var 10) (pu_lst (pa_cons' (pu_tup (pa_cons' (pu_var 3) (pa_cons' (pu_var 4) (pa_cons' (pu_bin op_addP (pu_bin op_addP (pu_slH (pu_var 5) (pu_var 7)) (pu_tup (pa_cons' (pu_tup (pa_cons' pu_int (pa_cons' pu_int pa_nil'))) pa_nil'))) (pu_slL (pu_var 5) (pu_bin op_addP (pu_var 7) pu_int))) pa_nil')))) (pa_cons' (pu_tup (pa_cons' (pu_var 3) (pa_cons' (pu_var 4) (pa_cons' (pu_bin op_addP (pu_bin op_addP (pu_slH (pu_var 5) (pu_var 7)) (pu_tup (pa_cons' (pu_tup pa_nil') pa_nil'))) (pu_slL (pu_var 5) (pu_bin op_addP (pu_var 7) pu_int))) pa_nil')))) (pa_cons' (pu_bin op_addP (pu_var 2) (pu_tup (pa_cons' pu_int pa_nil'))) pa_nil'))))) (.eq (.no (.no (.no (.no (.no (.no (.no (.no (.no (.no .nil))))))))))) (fun v10 => (b_set 10 F.nd (pu_bin op_addP (pu_var 10) (pu_lst (pa_cons' (pu_tup (pa_cons' (pu_var 3) (pa_cons' (pu_bin op_addP (pu_var 4) (pu_slH (pu_var 4) pu_int)) (pa_cons' (pu_var 5) pa_nil')))) (pa_cons' (pu_tup (pa_cons' (pu_var 3) (pa_cons' (pu_bin op_addP (pu_bin op_addP (pu_slH (pu_var 4) (pu_var 6)) (pu_tup (pa_cons' (pu_callT c_list (by rfl) T.n_list (by decide +kernel) (pa_cons' (pu_ix (pu_var 4) (pu_var 6)) pa_nil')) pa_nil'))) (pu_slL (pu_var 4) (pu_bin op_addP (pu_var 6) pu_int))) (pa_cons' (pu_var 5) pa_nil')))) (pa_cons' pu_non (pa_cons' pu_int (pa_cons' (pu_tup pa_nil') (pa_cons' (pu_tup (pa_cons' (pu_var 3) (pa_cons' pu_non (pa_cons' (pu_var 5) pa_nil')))) pa_nil')))))))) (.eq (.no (.no (.no (.no (.no (.no (.no (.no (.no (.no .nil))))))))))) (fun v11 => (b_ret (mk := fun d => d) (pu_call F.tk (F.room.mono (by decide)) (ok__law_one T) T.f__law_one.m T.f__law_one.k T.f__law_one.b (pj_jar 0 (pj_cons (pu_bin op_addP (pu_var 10) (pu_lst (pa_cons' (pu_tup (pa_cons' (pu_var 3) (pa_cons' (pu_revT (pu_var 4)) (pa_cons' (pu_var 5) pa_nil')))) (pa_cons' (pu_tup (pa_cons' (pu_var 3) (pa_cons' (pu_var 4) (pa_cons' (pu_bin op_addP (pu_bin op_addP (pu_slH (pu_var 5) (pu_var 7)) (pu_tup (pa_cons' (pu_tupRg F.lv (by rfl) T.n_tuple (pr_rng1 (by rfl) T.n_range (pu_var 3))) pa_nil'))) (pu_slL (pu_var 5) (pu_bin op_addP (pu_var 7) pu_int))) pa_nil')))) pa_nil')))) pj_nil))) (.eq (.no (.no (.no (.no (.no (.no (.no (.no (.no (.no .nil))))))))))))))))))))))))))))) (by simp))) (fun z => nomatch z) (by first | rfl | (rw [l__law_bent]))
abbrev lb__law_marked_rules_6 (x1 : D) (t4 : D) (t5 : (D × D × D × D × Unit)) (t7 : D) (s6 : (List D × Unit)) : R (Fl (List D × Unit) (List D × Unit) D) := ((R.tor (R.tcmp pIsN (R.bin pIx (R.bin pIx (.ok x1) (.ok (.int 2))) (.ok t4)) (.ok .none)) (R.tcmp pIn (.ok t7) (R.bin pIx (R.bin pIx (.ok x1) (.ok (.int 2))) (.ok t4)))) >>= fun k => if k = true then ((R.tup []) >>= fun v8 => ((R.tcmp pEq (R.blt (f1 pLen) [.ok t5.2.2.2.1]) (.ok (.int 1))) >>= fun k => Fl.then (if k = true then ((R.tup [(R.bin pAdd (R.bin pMul (R.bin pIx (.ok t5.2.2.2.1) (.ok (.int 0))) (R.bin pIx (.ok x1) (.ok (.int 0)))) (.ok t7))]) >>= fun v10 => .ok (.nx (v10, ()))) else .ok (.nx (v8, ()))) fun s9 => ((R.tcmp pEq (R.blt (f1 pLen) [.ok t5.2.2.2.1]) (.ok (.int 2))) >>= fun k => Fl.then (if k = true then ((R.tup [(R.bin pAdd (R.bin pMul (R.bin pIx (.ok t5.2.2.2.1) (.ok (.int 0))) (R.bin pIx (.ok x1) (.ok (.int 0)))) (R.bin pIx (R.bin pIx (R.bin pIx (.ok x1) (.ok (.int 1))) (.ok t7)) (R.bin pIx (.ok t5.2.2.2.1) (.ok (.int 1))))), (R.bin pAdd (R.bin pMul (R.bin pIx (.ok t5.2.2.2.1) (.ok (.int 1))) (R.bin pIx (.ok x1) (.ok (.int 0)))) (.ok t7))]) >>= fun v12 => .ok (.nx (v12, ()))) else .ok (.nx (s9.1, ()))) fun s11 => ((R.tup [(R.tup [.ok t5.1, (R.bin pAdd (R.bin pMul (.ok t5.2.1) (R.bin pIx (.ok x1) (.ok (.int 0)))) (.ok t7)), .ok t5.2.2.1, .ok s11.1]), .ok t4]) >>= fun v13 => if s6.1.length < LINE then .ok (.nx ((s6.1 ++ [v13]), ())) else .bad)))) else .ok (.nx (s6.1, ())))
abbrev lb__law_marked_rules_3 (x0 : D) (x1 : D) (t4 : D) (s3 : (List D × Unit)) : R (Fl (List D × Unit) (List D × Unit) D) := ((R.bin pIx (R.bin pIx (.ok x0) (.ok (.int 2))) (.ok t4)) >>= fun d => R.of ((decTup (decCons decN (decCons decN (decCons decN (decCons decN decNil))))) d) >>= fun t5 => ((R.un pRng1 (R.bin pIx (.ok x1) (.ok (.int 0)))) >>= fun ds => Fl.then (forR decN (lb__law_marked_rules_6 x1 t4 t5) ds (s3.1, ())) fun s6 => .ok (.nx (s6.1, ()))))
def l__law_marked_rules : List D → R D
  | [x0, x1] => R.fin (α := Empty) ((R.lst []) >>= fun d => R.of (isLstD d) >>= fun v2 => ((R.un pRng1 (R.blt (f1 pLen) [(R.bin pIx (.ok x0) (.ok (.int 2)))])) >>= fun ds => Fl.then (forR decN (lb__law_marked_rules_3 x0 x1) ds (v2, ())) fun s3 => ((R.blt (f1 pSorted) [.ok (.list s3.1)]) >>= fun d => .ok (.rt d))))
  | _ => .bad
theorem sc__law_marked_rules : FnScope ["frame", "tests", "found", "k", "p", "g", "q", "word", "s", "more"] ["frame", "tests"] (defScope s__law_marked_rules) := ⟨rfl, rfl, rfl, by decide +kernel, rfl, by decide +kernel, by decide +kernel⟩
theorem ok__law_marked_rules (T : Tx P K mg a) : FnOk P w K mg base (L2.CX P w) 1 a.f__law_marked_rules a.d__law_marked_rules ["frame", "tests"] (spD ⟨P, w, K⟩ mg false [false, false] l__law_marked_rules) :=
  fnD (ks := [false, false]) T.f__law_marked_rules.F sc__law_marked_rules rfl fun cdv A outer s H E F js ds hj hd => match js, ds, hj, hd with
    | [], [x0, x1], _, _ => .mk (enc := encE) (show PuB _ _ _ _ [.no, .no, .no, .no, .no, .no, .no, .no, .no, .no] _ [.pu x0, .pu x1, .no, .no, .no, .no, .no, .no, .no, .no] _ _ from (b_setOL 2 F.nd (po_lst pa_nil') (.no (.no (.no (.no (.no (.no (.no (.no (.no (.no .nil)))))))))) (fun v2 a1 => (b_for (enc0 := (fun s3 : List D × Unit => [.pu x0, .pu x1, .ce a1 (.list s3.1), .no, .no, .no, .no, .no, .no, .no])) (v2, ()) F (pi_rng1 (by rfl) T.n_range (pu_callB c_len (by rfl) T.n_len (by decide +kernel) (pa_cons' (pu_ix (pu_var 0) pu_int) pa_nil'))) (.no (.no (.no (.no (.no (.no (.no (.no (.no (.no .nil)))))))))) (.eq (.eq (.eq (.no (.no (.no (.no (.no (.no (.no .nil)))))))))) (g_name 3 F.nd) (by simp) (fun t4 s3 => (b_tgt (pu_ix (pu_ix (pu_var 0) pu_int) (pu_var 3)) (.no (.no (.no (.no (.no (.no (.no (.no (.no (.no .nil)))))))))) (g_tup F.calm (gs_cons (g_name 4 F.nd) (gs_cons (g_name 5 F.nd) (gs_cons (g_name 6 F.nd) (gs_cons (g_name 7 F.nd) gs_nil (keep_name 7)) (keep_name 6)) (keep_name 5)) (keep_name 4)) (len_cons (len_cons (len_cons (len_cons len_nil))))) (fun t5 => (b_for (enc0 := (fun s6 : List D × Unit => [.pu x0, .pu x1, .ce a1 (.list s6.1), .pu t4, .pu t5.1, .pu t5.2.1, .pu t5.2.2.1, .pu t5.2.2.2.1, .no, .no])) (s3.1, ()) F (pi_rng1 (by rfl) T.n_range (pu_ix (pu_var 1) pu_int)) (.no (.no (.no (.no (.no (.no (.no (.no (.no (.no .nil)))))))))) (.eq (.eq (.eq (.eq (.eq (.eq (.eq (.eq (.no (.no .nil)))))))))) (g_name 8 F.nd) (by simp) (fun t7 s6 => (b_ifl (PuW.t (pw_or' (pt_cmp op_isNP (pu_ix (pu_ix (pu_var 1) pu_int) (pu_var 3)) pu_non (by rfl)) (pw_one (pt_cmp (op_inP F.lv) (pu_var 8) (pu_ix (pu_ix (pu_var 1) pu_int) (pu_var 3)) (by rfl))))) (.no (.no (.no (.no (.no (.no (.no (.no (.no (.no .nil)))))))))) (b_set 9 F.nd (pu_tup pa_nil') (.no (.no (.no (.no (.no (.no (.no (.no (.no (.no .nil)))))))))) (fun v8 => (b_if (enc1 := (fun s9 : D × Unit => [.pu x0, .pu x1, .ce a1 (.list s6.1), .pu t4, .pu t5.1, .pu t5.2.1, .pu t5.2.2.1, .pu t5.2.2.2.1, .pu t7, .pu s9.1])) (pt_cmp (op_eqP F.lv) (pu_callB c_len (by rfl) T.n_len (by decide +kernel) (pa_cons' (pu_var 7) pa_nil')) pu_int (by rfl)) (.no (.no (.no (.no (.no (.no (.no (.no (.no (.no .nil)))))))))) (b_set 9 F.nd (pu_tup (pa_cons' (pu_bin op_addP (pu_bin op_mulP (pu_ix (pu_var 7) pu_int) (pu_ix (pu_var 1) pu_int)) (pu_var 8)) pa_nil')) (.no (.no (.no (.no (.no (.no (.no (.no (.no (.no .nil)))))))))) (fun v10 => (b_nil (a := (v10, ())) (.eq (.eq (.eq (.eq (.eq (.eq (.eq (.eq (.eq (.eq .nil))))))))))))) (b_nil (a := (v8, ())) (.eq (.eq (.eq (.eq (.eq (.eq (.eq (.eq (.eq (.eq .nil))))))))))) (fun s9 => (b_if (enc1 := (fun s11 : D × Unit => [.pu x0, .pu x1, .ce a1 (.list s6.1), .pu t4, .pu t5.1, .pu t5.2.1, .pu t5.2.2.1, .pu t5.2.2.2.1, .pu t7, .pu s11.1])) (pt_cmp (op_eqP F.lv) (pu_callB c_len (by rfl) T.n_len (by decide +kernel) (pa_cons' (pu_var 7) pa_nil')) pu_int (by rfl)) (.no (.no (.no (.no (.no (.no (.no (.no (.no (.no .nil)))))))))) (b_set 9 F.nd (pu_tup (pa_cons' (pu_bin op_addP (pu_bin op_mulP (pu_ix (pu_var 7) pu_int) (pu_ix (pu_var 1) pu_int)) (pu_ix (pu_ix (pu_ix (pu_var 1) pu_int) (pu_var 8)) (pu_ix (pu_var 7) pu_int))) (pa_cons' (pu_bin op_addP (pu_bin op_mulP (pu_ix (pu_var 7) pu_int) (pu_ix (pu_var 1) pu_int)) (pu_var 8)) pa_nil'))) (.no (.no (.no (.no (.no (.no (.no (.no (.no (.no .nil)))))))))) (fun v12 => (b_nil (a := (v12, ())) (.eq (.eq (.eq (.eq (.eq (.eq (.eq (.eq (.eq (.eq .nil))))))))))))) (b_nil (a := (s9.1, ())) (.eq (.eq (.eq (.eq (.eq (.eq (.eq (.eq (.eq (.eq .nil))))))))))) (fun s11 => (b_app (a := a1) 2 (pu_tup (pa_cons' (pu_tup (pa_cons' (pu_var 4) (pa_cons' (pu_bin op_addP (pu_bin op_mulP (pu_var 5) (pu_ix (pu_var 1) pu_int)) (pu_var 8)) (pa_cons' (pu_var 6) (pa_cons' (pu_var 9) pa_nil'))))) (pa_cons' (pu_var 3) pa_nil'))) (.no (.no (.no (.no (.no (.no (.no (.no (.no (.no .nil)))))))))) (fun v13 => (b_nil (a := ((s6.1 ++ [v13]), ())) (.eq (.eq (.eq (.eq (.eq (.eq (.eq (.eq (.no (.no .nil))))))))))))))))))) (b_nil (a := (s6.1, ())) (.eq (.eq (.eq (.eq (.eq (.eq (.eq (.eq (.no (.no .nil))))))))))))) (fun s6 => (b_nil (a := (s6.1, ())) (.eq (.eq (.eq (.no (.no (.no (.no (.no (.no (.no .nil)))))))))))))) (by simp))) (fun s3 => (b_frz 2 (b_ret (mk := fun d => d) (pu_callB (c_sorted F.lv) (by rfl) T.n_sorted (by decide +kernel) (pa_cons' (pu_var 2) pa_nil')) (.no (.no (.no (.no (.no (.no (.no (.no (.no (.no .nil))))))))))))))))) (fun z => nomatch z) (by first | rfl | (rw [l__law_marked_rules]))
abbrev lb_law_11 (v4 : D) (v5 : D) (t12 : D) (s11 : (Unit)) : R (Fl (Unit) (Unit) D) := ((R.tup [(R.cal (l__law_draw) [(R.bin pIx (.ok v4) (.ok (.int 0)))]), (R.blt (f1 pTuple) [(R.lc (decN) (fun t13 => .ok true) (fun t13 => (R.cal (l__law_draw) [(R.bin pIx (.ok v4) (.ok (.int 1)))])) (R.un pRng1 (R.cal (l__law_draw) [.ok (.int 6)])))])]) >>= fun v14 => ((R.tup [(R.bin pIx (.ok v14) (.ok (.int 0))), (R.cal (l__law_marks) [.ok v5, (R.bin pIx (.ok v14) (.ok (.int 1)))])]) >>= fun v15 => ((R.lst [(R.cal (l_state_below) [.ok v4, .ok v5, (R.bin pIx (.ok v14) (.ok (.int 1)))]), (R.cal (l_usable_checked) [.ok v4, .ok v5, .ok v14]), (R.cal (l_marked) [.ok v4, .ok v5, .ok v14]), (R.cal (l_unmarked) [.ok v4, .ok v5, .ok v15])]) >>= fun v16 => ((R.tnt (R.tru (R.cal (l__law_alike 12) [.ok v16, (R.lst [(R.cal (l__law_below) [.ok v5, (R.bin pIx (.ok v14) (.ok (.int 1)))]), (R.cal (l__law_usable) [.ok v4, .ok v5, .ok v14]), .ok v15, .ok v14])]))) >>= fun k => if k = true then R.up (.ok (.bool false) >>= fun d => .ok (.rt d)) else ((R.tup [(R.bin pIx (.ok v14) (.ok (.int 0))), (R.blt (f1 pTuple) [(R.lc (decN) (fun t17 => .ok true) (fun t17 => (R.bin pAdd (R.bin pMul (R.bin pDiv (.ok t17) (R.bin pIx (.ok v5) (.ok (.int 0)))) (R.bin pIx (.ok v5) (.ok (.int 0)))) (R.cal (l__law_draw) [(R.bin pIx (.ok v5) (.ok (.int 0)))]))) (R.un pSeq (R.bin pIx (.ok v15) (.ok (.int 1)))))])]) >>= fun v18 => ((R.tnt (R.tru (R.cal (l__law_alike 12) [(R.cal (l_unmarked) [.ok v4, .ok v5, .ok v18]), (R.ite (R.tcmp pEq (.ok v18) (.ok v15)) (.ok v14) (.ok .none))]))) >>= fun k => if k = true then R.up (.ok (.bool false) >>= fun d => .ok (.rt d)) else .ok (.nx (()))))))))
abbrev lb_law_19 (v5 : D) (v4 : D) (t20 : D) (s19 : (Unit)) : R (Fl (Unit) (Unit) D) := ((R.ite (R.tcmp pEq (.ok t20) (.ok (.int 0))) (.ok v5) (R.cal (l__law_bent) [.ok v4, .ok v5])) >>= fun v21 => ((R.tnt (R.tru (R.cal (l__law_alike 12) [(R.cal (l_are_checks) [.ok v4, .ok v21]), (R.cal (l__law_are_checks) [.ok v4, .ok v21])]))) >>= fun k => if k = true then R.up (.ok (.bool false) >>= fun d => .ok (.rt d)) else .ok (.nx (()))))
abbrev lb_law_1 (x0 : D) (t2 : D) (s1 : (Unit)) : R (Fl (Unit) (Unit) D) := ((R.cal (l__law_pot) [.ok x0, .ok t2]) >>= fun d => if jarD d = true then ((R.cal (l__law_system) [(R.bin pAdd (.ok (.int 1)) (R.cal (l__law_draw) [.ok (.int 3)])), (R.bin pAdd (.ok (.int 1)) (R.cal (l__law_draw) [.ok (.int 3)])), .ok (.int 6), (R.lst [.ok (.int 0), .ok (.int 1), .ok (.int 2)])]) >>= fun v4 => ((R.cal (l__law_checks) [.ok v4]) >>= fun v5 => ((R.cal (l__law_marked_rules) [.ok v4, .ok v5]) >>= fun v6 => ((R.tup [(R.bin pIx (.ok v4) (.ok (.int 0))), (R.bin pMul (R.bin pIx (.ok v4) (.ok (.int 1))) (R.bin pIx (.ok v5) (.ok (.int 0)))), (R.blt (f1 pTuple) [(R.lc (decN) (fun t7 => .ok true) (fun t7 => (R.bin pIx (.ok t7) (.ok (.int 0)))) (R.un pSeq (.ok v6)))])]) >>= fun v8 => ((R.tnt (R.tru (R.cal (l__law_alike 12) [(R.cal (l_marked_system) [.ok v4, .ok v5]), .ok v8]))) >>= fun k => if k = true then R.up (.ok (.bool false) >>= fun d => .ok (.rt d)) else ((R.tnt (R.tru (R.cal (l__law_alike 12) [(R.lc (decN) (fun t10 => .ok true) (fun t10 => (R.cal (l_rule_told) [.ok v4, .ok v5, .ok t10])) (R.un pRng1 (R.blt (f1 pLen) [.ok v6]))), (R.lc (decN) (fun t9 => .ok true) (fun t9 => (R.bin pIx (.ok t9) (.ok (.int 1)))) (R.un pSeq (.ok v6)))]))) >>= fun k => if k = true then R.up (.ok (.bool false) >>= fun d => .ok (.rt d)) else ((R.un pRng1 (.ok (.int 4))) >>= fun ds => Fl.then (forR decN (lb_law_11 v4 v5) ds (())) fun s11 => ((R.un pRng1 (.ok (.int 5))) >>= fun ds => Fl.then (forR decN (lb_law_19 v5 v4) ds (())) fun s19 => ((R.tnt (R.tru (R.cal (l__law_alike 12) [(R.cal (l_marked_system) [.ok v4, .ok v5]), .ok v8]))) >>= fun k => if k = true then R.up (.ok (.bool false) >>= fun d => .ok (.rt d)) else .ok (.nx (()))))))))))) else .bad)
def l_law : List D → R D
  | [x0] => R.fin (α := Empty) ((R.un pRng1 (R.blt (f2 pMax2) [.ok (.int 1), (R.blt (f2 pMin2) [.ok (.int 4), (R.blt (f1 pLen) [.ok x0])])])) >>= fun ds => Fl.then (forR decN (lb_law_1 x0) ds (())) fun s1 => (.ok (.bool true) >>= fun d => .ok (.rt d)))
  | _ => .bad
theorem sc_law : FnScope ["script", "cell_at", "pot", "frame", "tests", "rows", "due", "turn", "at", "signs", "told", "far", "k", "thing", "row", "sign"] ["script"] (defScope s_law) := ⟨rfl, rfl, rfl, by decide +kernel, rfl, by decide +kernel, by decide +kernel⟩
theorem ok_law (T : Tx P K mg a) : FnOk P w K mg base (L2.CX P w) 13 a.f_law a.d_law ["script"] (spD ⟨P, w, K⟩ mg false [false] l_law) :=
  fnD (ks := [false]) T.f_law.F sc_law rfl fun cdv A outer s H E F js ds hj hd => match js, ds, hj, hd with
    | [], [x0], _, _ => .mk (enc := encE) (show PuB _ _ _ _ [.no, .no, .no, .no, .no, .no, .no, .no, .no, .no, .no, .no, .no, .no, .no, .no] _ [.pu x0, .no, .no, .no, .no, .no, .no, .no, .no, .no, .no, .no, .no, .no, .no, .no] _ _ from (b_for (enc0 := (fun s1 : Unit => [.pu x0, .no, .no, .no, .no, .no, .no, .no, .no, .no, .no, .no, .no, .no, .no, .no])) (()) F (pi_rng1 (by rfl) T.n_range (pu_callB (c_max2 F.lv) (by rfl) T.n_max (by decide +kernel) (pa_cons' pu_int (pa_cons' (pu_callB (c_min2 F.lv) (by rfl) T.n_min (by decide +kernel) (pa_cons' pu_int (pa_cons' (pu_callB c_len (by rfl) T.n_len (by decide +kernel) (pa_cons' (pu_var 0) pa_nil')) pa_nil'))) pa_nil')))) (.no (.no (.no (.no (.no (.no (.no (.no (.no (.no (.no (.no (.no (.no (.no (.no .nil)))))))))))))))) (.eq (.no (.no (.no (.no (.no (.no (.no (.no (.no (.no (.no (.no (.no (.no (.no .nil)))))))))))))))) (g_name 1 F.nd) (by simp) (fun t2 s1 => (b_setJ 2 F.nd (po_call F.tk (F.room.mono (by decide)) (ok__law_pot T) T.f__law_pot.m T.f__law_pot.k T.f__law_pot.b (pj_cons (pu_var 0) (pj_cons (pu_var 1) pj_nil))) (.no (.no (.no (.no (.no (.no (.no (.no (.no (.no (.no (.no (.no (.no (.no (.no .nil)))))))))))))))) (fun a3 => (b_set 3 F.nd (pu_call F.tk (F.room.mono (by decide)) (ok__law_system T) T.f__law_system.m T.f__law_system.k T.f__law_system.b (pj_jar 2 (pj_cons (pu_bin op_addP pu_int (pu_call F.tk (F.room.mono (by decide)) (ok__law_draw T) T.f__law_draw.m T.f__law_draw.k T.f__law_draw.b (pj_jar 2 (pj_cons pu_int pj_nil)))) (pj_cons (pu_bin op_addP pu_int (pu_call F.tk (F.room.mono (by decide)) (ok__law_draw T) T.f__law_draw.m T.f__law_draw.k T.f__law_draw.b (pj_jar 2 (pj_cons pu_int pj_nil)))) (pj_cons pu_int (pj_cons (pu_lst (pa_cons' pu_int (pa_cons' pu_int (pa_cons' pu_int pa_nil')))) pj_nil)))))) (.no (.no (.no (.no (.no (.no (.no (.no (.no (.no (.no (.no (.no (.no (.no (.no .nil)))))))))))))))) (fun v4 => (b_set 4 F.nd (pu_call F.tk (F.room.mono (by decide)) (ok__law_checks T) T.f__law_checks.m T.f__law_checks.k T.f__law_checks.b (pj_jar 2 (pj_cons (pu_var 3) pj_nil))) (.no (.no (.no (.no (.no (.no (.no (.no (.no (.no (.no (.no (.no (.no (.no (.no .nil)))))))))))))))) (fun v5 => (b_set 5 F.nd (pu_call F.tk (F.room.mono (by decide)) (ok__law_marked_rules T) T.f__law_marked_rules.m T.f__law_marked_rules.k T.f__law_marked_rules.b (pj_cons (pu_var 3) (pj_cons (pu_var 4) pj_nil))) (.no (.no (.no (.no (.no (.no (.no (.no (.no (.no (.no (.no (.no (.no (.no (.no .nil)))))))))))))))) (fun v6 => (b_set 6 F.nd (pu_tup (pa_cons' (pu_ix (pu_var 3) pu_int) (pa_cons' (pu_bin op_mulP (pu_ix (pu_var 3) pu_int) (pu_ix (pu_var 4) pu_int)) (pa_cons' (pu_callT c_tuple (by rfl) T.n_tuple (by decide +kernel) (pa_cons' (pu_lc F.lv F.nd (blkOk_by (N := ["script", "cell_at", "pot", "frame", "tests", "rows", "due", "turn", "at", "signs", "told", "far", "k", "thing", "row", "sign"]) (sc := defScope s_law) (own := [("row", 14)]) (by first | decide +kernel | kernel_rfl)) (pi_seq (pu_var 5)) (fun s H C cl fp => (g_name 14 F.nd)) (by simp) (by simp) (fun t7 => fun s H C cl fp => ts_nil) (fun t7 => fun s H C cl fp => (pu_ix (pu_var 14) pu_int)) (keep_name 14) (by simp [ownOf])) pa_nil')) pa_nil')))) (.no (.no (.no (.no (.no (.no (.no (.no (.no (.no (.no (.no (.no (.no (.no (.no .nil)))))))))))))))) (fun v8 => (b_ifT (pt_not' (pt_tru (pu_call F.tk (F.room.mono (by decide)) (ok__law_alike T 12) T.f__law_alike.m T.f__law_alike.k T.f__law_alike.b (pj_cons (pu_call F.tk (F.room.mono (by decide)) (ok_marked_system T) T.f_marked_system.m T.f_marked_system.k T.f_marked_system.b (pj_cons (pu_var 3) (pj_cons (pu_var 4) pj_nil))) (pj_cons (pu_var 6) pj_nil))))) (.no (.no (.no (.no (.no (.no (.no (.no (.no (.no (.no (.no (.no (.no (.no (.no .nil)))))))))))))))) (b_ret (mk := fun d => d) pu_bl (.no (.no (.no (.no (.no (.no (.no (.no (.no (.no (.no (.no (.no (.no (.no (.no .nil))))))))))))))))) (b_ifT (pt_not' (pt_tru (pu_call F.tk (F.room.mono (by decide)) (ok__law_alike T 12) T.f__law_alike.m T.f__law_alike.k T.f__law_alike.b (pj_cons (pu_lc F.lv F.nd (blkOk_by (N := ["script", "cell_at", "pot", "frame", "tests", "rows", "due", "turn", "at", "signs", "told", "far", "k", "thing", "row", "sign"]) (sc := defScope s_law) (own := [("k", 12)]) (by first | decide +kernel | kernel_rfl)) (pi_rng1 (by rfl) T.n_range (pu_callB c_len (by rfl) T.n_len (by decide +kernel) (pa_cons' (pu_var 5) pa_nil'))) (fun s H C cl fp => (g_name 12 F.nd)) (by simp) (by simp) (fun t10 => fun s H C cl fp => ts_nil) (fun t10 => fun s H C cl fp => (pu_call takes0 (F.room.mono (by decide)) (ok_rule_told T) T.f_rule_told.m T.f_rule_told.k T.f_rule_told.b (pj_cons (pu_var 3) (pj_cons (pu_var 4) (pj_cons (pu_var 12) pj_nil))))) (keep_name 12) (by simp [ownOf])) (pj_cons (pu_lc F.lv F.nd (blkOk_by (N := ["script", "cell_at", "pot", "frame", "tests", "rows", "due", "turn", "at", "signs", "told", "far", "k", "thing", "row", "sign"]) (sc := defScope s_law) (own := [("row", 14)]) (by first | decide +kernel | kernel_rfl)) (pi_seq (pu_var 5)) (fun s H C cl fp => (g_name 14 F.nd)) (by simp) (by simp) (fun t9 => fun s H C cl fp => ts_nil) (fun t9 => fun s H C cl fp => (pu_ix (pu_var 14) pu_int)) (keep_name 14) (by simp [ownOf])) pj_nil))))) (.no (.no (.no (.no (.no (.no (.no (.no (.no (.no (.no (.no (.no (.no (.no (.no .nil)))))))))))))))) (b_ret (mk := fun d => d) pu_bl (.no (.no (.no (.no (.no (.no (.no (.no (.no (.no (.no (.no (.no (.no (.no (.no .nil))))))))))))))))) (b_for (enc0 := (fun s11 : Unit => [.pu x0, .pu t2, .jar a3, .pu v4, .pu v5, .pu v6, .pu v8, .no, .no, .no, .no, .no, .no, .no, .no, .no])) (()) F (pi_rng1 (by rfl) T.n_range pu_int) (.no (.no (.no (.no (.no (.no (.no (.no (.no (.no (.no (.no (.no (.no (.no (.no .nil)))))))))))))))) (.eq (.eq (.eq (.eq (.eq (.eq (.eq (.no (.no (.no (.no (.no (.no (.no (.no (.no .nil)))))))))))))))) (g_name 7 F.nd) (by simp) (fun t12 s11 => (b_set 8 F.nd (pu_tup (pa_cons' (pu_call F.tk (F.room.mono (by decide)) (ok__law_draw T) T.f__law_draw.m T.f__law_draw.k T.f__law_draw.b (pj_jar 2 (pj_cons (pu_ix (pu_var 3) pu_int) pj_nil))) (pa_cons' (pu_callT c_tuple (by rfl) T.n_tuple (by decide +kernel) (pa_cons' (pu_lc F.lv F.nd (blkOk_by (N := ["script", "cell_at", "pot", "frame", "tests", "rows", "due", "turn", "at", "signs", "told", "far", "k", "thing", "row", "sign"]) (sc := defScope s_law) (own := [("k", 12)]) (by first | decide +kernel | kernel_rfl)) (pi_rng1 (by rfl) T.n_range (pu_call F.tk (F.room.mono (by decide)) (ok__law_draw T) T.f__law_draw.m T.f__law_draw.k T.f__law_draw.b (pj_jar 2 (pj_cons pu_int pj_nil)))) (fun s H C cl fp => (g_name 12 F.nd)) (by simp) (by simp) (fun t13 => fun s H C cl fp => ts_nil) (fun t13 => fun s H C cl fp => (pu_call takes0 (F.room.mono (by decide)) (ok__law_draw T) T.f__law_draw.m T.f__law_draw.k T.f__law_draw.b (pj_jar 2 (pj_cons (pu_ix (pu_var 3) pu_int) pj_nil)))) (keep_name 12) (by simp [ownOf])) pa_nil')) pa_nil'))) (.no (.no (.no (.no (.no (.no (.no (.no (.no (.no (.no (.no (.no (.no (.no (.no .nil)))))))))))))))) (fun v14 => (b_set 9 F.nd (pu_tup (pa_cons' (pu_ix (pu_var 8) pu_int) (pa_cons' (pu_call F.tk (F.room.mono (by decide)) (ok__law_marks T) T.f__law_marks.m T.f__law_marks.k T.f__law_marks.b (pj_cons (pu_var 4) (pj_cons (pu_ix (pu_var 8) pu_int) pj_nil))) pa_nil'))) (.no (.no (.no (.no (.no (.no (.no (.no (.no (.no (.no (.no (.no (.no (.no (.no .nil)))))))))))))))) (fun v15 => (b_set 10 F.nd (pu_lst (pa_cons' (pu_call F.tk (F.room.mono (by decide)) (ok_state_below T) T.f_state_below.m T.f_state_below.k T.f_state_below.b (pj_cons (pu_var 3) (pj_cons (pu_var 4) (pj_cons (pu_ix (pu_var 8) pu_int) pj_nil)))) (pa_cons' (pu_call F.tk (F.room.mono (by decide)) (ok_usable_checked T) T.f_usable_checked.m T.f_usable_checked.k T.f_usable_checked.b (pj_cons (pu_var 3) (pj_cons (pu_var 4) (pj_cons (pu_var 8) pj_nil)))) (pa_cons' (pu_call F.tk (F.room.mono (by decide)) (ok_marked T) T.f_marked.m T.f_marked.k T.f_marked.b (pj_cons (pu_var 3) (pj_cons (pu_var 4) (pj_cons (pu_var 8) pj_nil)))) (pa_cons' (pu_call F.tk (F.room.mono (by decide)) (ok_unmarked T) T.f_unmarked.m T.f_unmarked.k T.f_unmarked.b (pj_cons (pu_var 3) (pj_cons (pu_var 4) (pj_cons (pu_var 9) pj_nil)))) pa_nil'))))) (.no (.no (.no (.no (.no (.no (.no (.no (.no (.no (.no (.no (.no (.no (.no (.no .nil)))))))))))))))) (fun v16 => (b_ifT (pt_not' (pt_tru (pu_call F.tk (F.room.mono (by decide)) (ok__law_alike T 12) T.f__law_alike.m T.f__law_alike.k T.f__law_alike.b (pj_cons (pu_var 10) (pj_cons (pu_lst (pa_cons' (pu_call F.tk (F.room.mono (by decide)) (ok__law_below T) T.f__law_below.m T.f__law_below.k T.f__law_below.b (pj_cons (pu_var 4) (pj_cons (pu_ix (pu_var 8) pu_int) pj_nil))) (pa_cons' (pu_call F.tk (F.room.mono (by decide)) (ok__law_usable T) T.f__law_usable.m T.f__law_usable.k T.f__law_usable.b (pj_cons (pu_var 3) (pj_cons (pu_var 4) (pj_cons (pu_var 8) pj_nil)))) (pa_cons' (pu_var 9) (pa_cons' (pu_var 8) pa_nil'))))) pj_nil))))) (.no (.no (.no (.no (.no (.no (.no (.no (.no (.no (.no (.no (.no (.no (.no (.no .nil)))))))))))))))) (b_ret (mk := fun d => d) pu_bl (.no (.no (.no (.no (.no (.no (.no (.no (.no (.no (.no (.no (.no (.no (.no (.no .nil))))))))))))))))) (b_set 11 F.nd (pu_tup (pa_cons' (pu_ix (pu_var 8) pu_int) (pa_cons' (pu_callT c_tuple (by rfl) T.n_tuple (by decide +kernel) (pa_cons' (pu_lc F.lv F.nd (blkOk_by (N := ["script", "cell_at", "pot", "frame", "tests", "rows", "due", "turn", "at", "signs", "told", "far", "k", "thing", "row", "sign"]) (sc := defScope s_law) (own := [("sign", 15)]) (by first | decide +kernel | kernel_rfl)) (pi_seq (pu_ix (pu_var 9) pu_int)) (fun s H C cl fp => (g_name 15 F.nd)) (by simp) (by simp) (fun t17 => fun s H C cl fp => ts_nil) (fun t17 => fun s H C cl fp => (pu_bin op_addP (pu_bin op_mulP (pu_bin op_divP (pu_var 15) (pu_ix (pu_var 4) pu_int)) (pu_ix (pu_var 4) pu_int)) (pu_call takes0 (F.room.mono (by decide)) (ok__law_draw T) T.f__law_draw.m T.f__law_draw.k T.f__law_draw.b (pj_jar 2 (pj_cons (pu_ix (pu_var 4) pu_int) pj_nil))))) (keep_name 15) (by simp [ownOf])) pa_nil')) pa_nil'))) (.no (.no (.no (.no (.no (.no (.no (.no (.no (.no (.no (.no (.no (.no (.no (.no .nil)))))))))))))))) (fun v18 => (b_ifT (pt_not' (pt_tru (pu_call F.tk (F.room.mono (by decide)) (ok__law_alike T 12) T.f__law_alike.m T.f__law_alike.k T.f__law_alike.b (pj_cons (pu_call F.tk (F.room.mono (by decide)) (ok_unmarked T) T.f_unmarked.m T.f_unmarked.k T.f_unmarked.b (pj_cons (pu_var 3) (pj_cons (pu_var 4) (pj_cons (pu_var 11) pj_nil)))) (pj_cons (pu_if (pt_cmp (op_eqP F.lv) (pu_var 11) (pu_var 9) (by rfl)) (pu_var 8) pu_non) pj_nil))))) (.no (.no (.no (.no (.no (.no (.no (.no (.no (.no (.no (.no (.no (.no (.no (.no .nil)))))))))))))))) (b_ret (mk := fun d => d) pu_bl (.no (.no (.no (.no (.no (.no (.no (.no (.no (.no (.no (.no (.no (.no (.no (.no .nil))))))))))))))))) (b_nil (a := (())) (.eq (.eq (.eq (.eq (.eq (.eq (.eq (.no (.no (.no (.no (.no (.no (.no (.no (.no .nil)))))))))))))))))))))))))))) (fun s11 => (b_for (enc0 := (fun s19 : Unit => [.pu x0, .pu t2, .jar a3, .pu v4, .pu v5, .pu v6, .pu v8, .no, .no, .no, .no, .no, .no, .no, .no, .no])) (()) F (pi_rng1 (by rfl) T.n_range pu_int) (.no (.no (.no (.no (.no (.no (.no (.no (.no (.no (.no (.no (.no (.no (.no (.no .nil)))))))))))))))) (.eq (.eq (.eq (.eq (.eq (.eq (.eq (.no (.no (.no (.no (.no (.no (.no (.no (.no .nil)))))))))))))))) (g_name 12 F.nd) (by simp) (fun t20 s19 => (b_set 13 F.nd (pu_if (pt_cmp (op_eqP F.lv) (pu_var 12) pu_int (by rfl)) (pu_var 4) (pu_call F.tk (F.room.mono (by decide)) (ok__law_bent T) T.f__law_bent.m T.f__law_bent.k T.f__law_bent.b (pj_jar 2 (pj_cons (pu_var 3) (pj_cons (pu_var 4) pj_nil))))) (.no (.no (.no (.no (.no (.no (.no (.no (.no (.no (.no (.no (.no (.no (.no (.no .nil)))))))))))))))) (fun v21 => (b_ifT (pt_not' (pt_tru (pu_call F.tk (F.room.mono (by decide)) (ok__law_alike T 12) T.f__law_alike.m T.f__law_alike.k T.f__law_alike.b (pj_cons (pu_call F.tk (F.room.mono (by decide)) (ok_are_checks T) T.f_are_checks.m T.f_are_checks.k T.f_are_checks.b (pj_cons (pu_var 3) (pj_cons (pu_var 13) pj_nil))) (pj_cons (pu_call F.tk (F.room.mono (by decide)) (ok__law_are_checks T) T.f__law_are_checks.m T.f__law_are_checks.k T.f__law_are_checks.b (pj_cons (pu_var 3) (pj_cons (pu_var 13) pj_nil))) pj_nil))))) (.no (.no (.no (.no (.no (.no (.no (.no (.no (.no (.no (.no (.no (.no (.no (.no .nil)))))))))))))))) (b_ret (mk := fun d => d) pu_bl (.no (.no (.no (.no (.no (.no (.no (.no (.no (.no (.no (.no (.no (.no (.no (.no .nil))))))))))))))))) (b_nil (a := (())) (.eq (.eq (.eq (.eq (.eq (.eq (.eq (.no (.no (.no (.no (.no (.no (.no (.no (.no .nil))))))))))))))))))))) (fun s19 => (b_ifT (pt_not' (pt_tru (pu_call F.tk (F.room.mono (by decide)) (ok__law_alike T 12) T.f__law_alike.m T.f__law_alike.k T.f__law_alike.b (pj_cons (pu_call F.tk (F.room.mono (by decide)) (ok_marked_system T) T.f_marked_system.m T.f_marked_system.k T.f_marked_system.b (pj_cons (pu_var 3) (pj_cons (pu_var 4) pj_nil))) (pj_cons (pu_var 6) pj_nil))))) (.no (.no (.no (.no (.no (.no (.no (.no (.no (.no (.no (.no (.no (.no (.no (.no .nil)))))))))))))))) (b_ret (mk := fun d => d) pu_bl (.no (.no (.no (.no (.no (.no (.no (.no (.no (.no (.no (.no (.no (.no (.no (.no .nil))))))))))))))))) (b_nil (a := (())) (.eq (.no (.no (.no (.no (.no (.no (.no (.no (.no (.no (.no (.no (.no (.no (.no .nil))))))))))))))))))))))))))))))))))) (fun s1 => (b_ret (mk := fun d => d) pu_bl (.no (.no (.no (.no (.no (.no (.no (.no (.no (.no (.no (.no (.no (.no (.no (.no .nil)))))))))))))))))))) (fun z => nomatch z) (by first | rfl | (rw [l_law]))
end
end
end K
end Pu

set_option maxHeartbeats 2000000
namespace Pu
open PySem PySem.Spec L2
namespace K
def isIdx (n : Int) : D → Bool
  | .int i => decide (0 ≤ i) && decide (i < n)
  | _ => false
def isWord (n : Int) : D → Bool
  | .tuple xs => xs.all (isIdx n)
  | _ => false
def isRule (c l : Int) : D → Bool
  | .tuple [p, g, q, w] => isWord l w && (match w with | .tuple ws => decide (ws.length ≤ 2) | _ => false) && isIdx c p && isIdx l g && isIdx c q
  | _ => false
theorem index_p (n : Int) (d : D) : l_is_index_of [.int n, d] = .ok (.bool (isIdx n d)) := by
  cases d <;> simp [l_is_index_of, l_is_between, l_is_integer, isI, isIdx]
  rename_i i
  by_cases h : 0 ≤ i <;> simp [h]
  omega
/-- a row that is not too long -/
def szW : D → Prop
  | .tuple xs => xs.length ≤ 1000
  | _ => True
theorem word_p (n : Int) (d : D) (h : szW d) : l_is_word [.int n, d] = .ok (.bool (isWord n d)) := by
  cases d with
  | tuple xs =>
    have e := lcD_map (dec := decN) (me := fun t1 => R.cal l_is_index_of [.ok (.int n), .ok t1]) (g := fun d => .bool (isIdx n d)) xs (LINE_big (Nat.le_trans h (by decide))) fun d _ => ⟨d, rfl, by simp [index_p]⟩
    simp only [l_is_word, R.and, R.isi, R.blt, R.sq, R.lc, R.un, pSeq, R.of_some, R.ok_bind, e]
    simp [isI, f1, pAll_map, isWord]
  | _ => simp [l_is_word, isI, isWord]
def szR : D → Prop
  | .tuple xs => xs.length ≤ 1000 ∧ ∀ x ∈ xs, szW x
  | _ => True
theorem rule_p (c l : Int) (d : D) (h : szR d) : l_is_rule [.int c, .int l, d] = .ok (.bool (isRule c l d)) := by
  cases d with
  | tuple xs =>
    match xs, h with
    | [], _ => simp [l_is_rule, isI, isRule]
    | [_], _ => simp [l_is_rule, isI, isRule]
    | [_, _], _ => simp [l_is_rule, isI, isRule]
    | [_, _, _], _ => simp [l_is_rule, isI, isRule]
    | [p, g, q, w], h =>
      have hw : szW w := h.2 w (by simp)
      simp [l_is_rule, isI, isRule, word_p _ _ hw, index_p, c_MOST_OF_A_WORD]
      cases hb : isWord l w with
      | false => simp
      | true =>
        cases w with
        | tuple ws =>
          simp
          cases isIdx c p <;> cases isIdx c q <;> cases isIdx l g <;> simp <;> omega
        | _ => simp [isWord] at hb
    | _ :: _ :: _ :: _ :: _ :: r, _ =>
      have ne : ¬ ((r.length : Int) + 1 + 1 + 1 + 1 + 1 = 4) := by omega
      simp [l_is_rule, isI, isRule, ne]
  | _ => simp [l_is_rule, isI, isRule]
/-- what is told of the rule at a place -/
def gF (c l : Int) (rs : List D) (k : Nat) : Option D := match rs[k]? with
  | some x => if isRule c l x = true then (if k = 0 then none else match rs[k - 1]? with
    | some p => if PySem.W.dataLt p x = true then none else some (.int k)
    | none => none) else some (.int k)
  | none => none
def fault : D → D
  | .tuple [.int c, .int l, .tuple rs] => if 1 ≤ c ∧ 1 ≤ l then (findFrom (gF c l rs) 0 rs.length).getD .none else .int (-1)
  | _ => .int (-1)
def szS : D → Prop
  | .tuple xs => ∀ x ∈ xs, (match x with | .tuple rs => rs.length ≤ 1000 ∧ ∀ r ∈ rs, szR r | _ => True)
  | _ => True
theorem isIdx_int {n : Int} {d : D} (h : isIdx n d = true) : ∃ i : Int, d = .int i ∧ 0 ≤ i ∧ i < n := by
  cases d <;> simp [isIdx] at h
  exact ⟨_, rfl, h⟩
theorem isWord_ints {n : Int} : ∀ {ws : List D}, ws.all (isIdx n) = true → pureAll ws = true ∧ ∀ vs : List D, vs.all (isIdx n) = true → PySem.W.alikeAll ws vs = true
  | [], _ => ⟨rfl, fun vs _ => by cases vs <;> rfl⟩
  | w :: ws, h => by
    simp only [List.all_cons, Bool.and_eq_true] at h
    obtain ⟨i, rfl, _⟩ := isIdx_int h.1
    obtain ⟨q1, q2⟩ := isWord_ints h.2
    refine ⟨by simp [pureAll, pureD, q1], fun vs hv => ?_⟩
    cases vs with
    | nil => rfl
    | cons v vs =>
      simp only [List.all_cons, Bool.and_eq_true] at hv
      obtain ⟨j, rfl, _⟩ := isIdx_int hv.1
      simp [PySem.W.alikeAll, PySem.W.alike, q2 vs hv.2]
theorem isRule_form {c l : Int} {d : D} (h : isRule c l d = true) : ∃ (p g q : Int) (ws : List D), d = .tuple [.int p, .int g, .int q, .tuple ws] ∧ ws.all (isIdx l) = true ∧ ws.length ≤ 2 ∧ 0 ≤ p ∧ p < c ∧ 0 ≤ g ∧ g < l ∧ 0 ≤ q ∧ q < c := by
  unfold isRule at h
  split at h
  · rename_i p g q w
    simp only [Bool.and_eq_true] at h
    obtain ⟨⟨⟨⟨h1, h2⟩, h3⟩, h4⟩, h5⟩ := h
    obtain ⟨p, rfl, a1, a2⟩ := isIdx_int h3
    obtain ⟨g, rfl, b1, b2⟩ := isIdx_int h4
    obtain ⟨q, rfl, c1, c2⟩ := isIdx_int h5
    cases w with
    | tuple ws => exact ⟨p, g, q, ws, rfl, by simpa [isWord] using h1, by simpa using h2, a1, a2, b1, b2, c1, c2⟩
    | _ => simp [isWord] at h1
  · cases h
theorem word_depth {n : Int} : ∀ {ws : List D}, ws.all (isIdx n) = true → PyData.depthAll ws = 0
  | [], _ => rfl
  | w :: ws, h => by
    simp only [List.all_cons, Bool.and_eq_true] at h
    obtain ⟨i, rfl, _⟩ := isIdx_int h.1
    simp [PyData.depthAll, PyData.depth, word_depth h.2]
theorem rule_pure {c l : Int} {d : D} (h : isRule c l d = true) : pureD d = true ∧ d.depth ≤ 64 := by
  obtain ⟨p, g, q, ws, rfl, hw, _⟩ := isRule_form h
  exact ⟨by simp [pureD, pureAll, (isWord_ints hw).1], by simp [PyData.depth, PyData.depthAll, word_depth hw]⟩
theorem rule_alike {c l : Int} {d e : D} (h : isRule c l d = true) (h' : isRule c l e = true) : PySem.W.alike d e = true := by
  obtain ⟨p, g, q, ws, rfl, hw, _⟩ := isRule_form h
  obtain ⟨p', g', q', ws', rfl, hw', _⟩ := isRule_form h'
  simp [PySem.W.alike, PySem.W.alikeAll, (isWord_ints hw).2 _ hw']
theorem rule_like {c l : Int} {d e : D} (h : isRule c l d = true) (h' : isRule c l e = true) : pLt d e = some (PySem.W.dataLt d e) ∧ pLe e d = some (!PySem.W.dataLt d e) := by
  have a := rule_alike h h'
  have a' := rule_alike h' h
  have s1 : shp d = true := by
    unfold shp SeqAt.shaped
    rw [pure_lay (rule_pure h).1]
    simpa using (rule_pure h).2
  have s2 : shp e = true := by
    unfold shp SeqAt.shaped
    rw [pure_lay (rule_pure h').1]
    simpa using (rule_pure h').2
  obtain ⟨p, g, q, ws, rfl, _⟩ := isRule_form h
  obtain ⟨p', g', q', ws', rfl, _⟩ := isRule_form h'
  constructor
  · show (if likeD _ _ = true then some _ else none) = _
    rw [if_pos (by unfold likeD; rw [a, s1, s2]; rfl)]
  · show (if likeD _ _ = true then some _ else none) = _
    rw [if_pos (by unfold likeD; rw [a', s1, s2]; rfl)]
theorem gF_none {c l : Int} {rs : List D} {k : Nat} {x : D} (h : gF c l rs k = none) (hx : rs[k]? = some x) : isRule c l x = true := by
  unfold gF at h
  rw [hx] at h
  simp only at h
  split at h
  · assumption
  · cases h
theorem from_p (n : Int) (d : D) : l_is_from [.int n, d] = .ok (.bool (match d with | .int i => decide (n ≤ i) | _ => false)) := by
  cases d <;> simp [l_is_from, l_is_integer, isI]
theorem fault_p (d : D) (h : szS d) : l_fault_of_system [d] = .ok (fault d) := by
  cases d with
  | tuple xs =>
    match xs, h with
    | [], _ => simp [l_fault_of_system, isI, fault]
    | [_], _ => simp [l_fault_of_system, isI, fault]
    | [_, _], _ => simp [l_fault_of_system, isI, fault]
    | _ :: _ :: _ :: _ :: r, _ =>
      have ne : ¬ ((r.length : Int) + 1 + 1 + 1 + 1 = 3) := by omega
      simp [l_fault_of_system, isI, fault, ne]
    | [a, b, t], h =>
      have ht := h t (by simp)
      simp [l_fault_of_system, isI, from_p]
      cases a with
      | int c =>
        cases b with
        | int l =>
          cases t with
          | tuple rs =>
            by_cases hc : 1 ≤ c
            · by_cases hl : 1 ≤ l
              · simp [hc, hl, fault, decTup, decCons, decN, decNil, pEnum, enumD_eq]
                rw [forR_idx (gF c l rs) rs.length 0 (enumF 0 rs) (enumF_length 0 rs) ?_ (by simp)]
                · cases findFrom (gF c l rs) 0 rs.length <;> simp [flOf]
                · intro i hi hj
                  have hx : rs[i]? = some rs[i] := by simp [hi]
                  refine ⟨_, _, enumF_get hx, rfl, ?_⟩
                  simp only [Nat.zero_add]
                  have hz : szR rs[i] := ht.2 _ (by simp)
                  simp [lb_fault_of_system_2, rule_p _ _ _ hz]
                  unfold gF
                  rw [hx]
                  simp only
                  cases hr : isRule c l rs[i] with
                  | false => simp [flOf]
                  | true =>
                    simp
                    cases i with
                    | zero => simp [flOf]
                    | succ i =>
                      have hy : rs[i]? = some rs[i] := by simp [Nat.lt_of_succ_lt hi]
                      have hp := gF_none (hj i (by omega)) hy
                      have e3 : (0 : Int) < (i : Int) + 1 := by omega
                      simp [ixT hy, hy, (rule_like hp hr).2, e3]
                      cases PySem.W.dataLt rs[i] rs[i + 1] <;> simp [flOf]
              · simp [hc, hl, fault]
            · simp [hc, fault]
          | _ => simp [fault]
        | _ => simp [fault]
      | _ => simp [fault]
  | _ => simp [l_fault_of_system, isI, fault]
theorem findFrom_int {c l : Int} {rs : List D} : ∀ (n k : Nat), ∃ o : Option Nat, findFrom (gF c l rs) k n = o.map fun i : Nat => PyData.int i
  | 0, k => ⟨none, rfl⟩
  | n + 1, k => by
    unfold findFrom
    have : gF c l rs k = none ∨ gF c l rs k = some (.int k) := by
      unfold gF
      split
      · split
        · split
          · exact .inl rfl
          · split
            · split
              · exact .inl rfl
              · exact .inr rfl
            · exact .inl rfl
        · exact .inr rfl
      · exact .inl rfl
    rcases this with h | h
    · rw [h]; exact findFrom_int n (k + 1)
    · rw [h]; exact ⟨some k, rfl⟩
/-- None or a number -/
theorem fault_cases (d : D) : fault d = .none ∨ ∃ i : Int, fault d = .int i := by
  unfold fault
  split
  · split
    · rename_i c l rs _
      obtain ⟨o, e⟩ := findFrom_int (c := c) (l := l) (rs := rs) rs.length 0
      rw [e]
      cases o with
      | none => exact .inl rfl
      | some i => exact .inr ⟨_, rfl⟩
    · exact .inr ⟨_, rfl⟩
  · exact .inr ⟨_, rfl⟩
theorem check_p (d : D) (h : szS d) : l_check_system [d] = if isN (fault d) = true then .ok .none else .exc "InvalidSystem" (some (fault d)) := by
  rcases fault_cases d with e | ⟨i, e⟩ <;> simp [l_check_system, fault_p d h, e, pNotN, isN]
theorem findFrom_none {g : Nat → Option D} : ∀ {n k : Nat}, findFrom g k n = none ↔ ∀ i, i < n → g (k + i) = none
  | 0, k => by simp [findFrom]
  | n + 1, k => by
    unfold findFrom
    constructor
    · intro h i hi
      split at h
      · cases h
      · rename_i hg
        cases i with
        | zero => exact hg
        | succ i =>
          have := findFrom_none.mp h i (by omega)
          rw [show k + (i + 1) = k + 1 + i by omega]
          exact this
    · intro h
      have h0 := h 0 (by omega)
      rw [Nat.add_zero] at h0
      rw [h0]
      exact findFrom_none.mpr fun i hi => by rw [show k + 1 + i = k + (i + 1) by omega]; exact h (i + 1) (by omega)
theorem fault_none {d : D} (h : fault d = .none) : ∃ (c l : Int) (rs : List D), d = .tuple [.int c, .int l, .tuple rs] ∧ 1 ≤ c ∧ 1 ≤ l ∧ ∀ r ∈ rs, isRule c l r = true := by
  unfold fault at h
  split at h
  · rename_i c l rs
    split at h
    · rename_i hc
      refine ⟨c, l, rs, rfl, hc.1, hc.2, fun r hr => ?_⟩
      cases e : findFrom (gF c l rs) 0 rs.length with
      | some x =>
        obtain ⟨o, e2⟩ := findFrom_int (c := c) (l := l) (rs := rs) rs.length 0
        rw [e] at e2 h
        cases o with
        | none => cases e2
        | some i => cases e2; cases h
      | none =>
        obtain ⟨i, hi, e3⟩ := List.getElem_of_mem hr
        have := findFrom_none.mp e i hi
        rw [Nat.zero_add] at this
        exact gF_none this (by rw [List.getElem?_eq_getElem hi, e3])
    · cases h
  · cases h
end K
end Pu

set_option maxHeartbeats 1000000
namespace Pu
open PySem PySem.Spec L2
@[simp] theorem tup0 : mkTup [] = some (.tuple []) := tup_ok (by simp)
@[simp] theorem tup1 (a : D) : mkTup [a] = some (.tuple [a]) := tup_ok (by simp)
@[simp] theorem tup2 (a b : D) : mkTup [a, b] = some (.tuple [a, b]) := tup_ok (by simp)
@[simp] theorem tup3 (a b c : D) : mkTup [a, b, c] = some (.tuple [a, b, c]) := tup_ok (by simp)
@[simp] theorem tup4 (a b c d : D) : mkTup [a, b, c, d] = some (.tuple [a, b, c, d]) := tup_ok (by simp)
@[simp] theorem lst0 : mkLst [] = some (.list []) := lst_ok (by simp)
@[simp] theorem pTupleL (xs : List D) : f1 pTuple [.list xs] = some (.tuple xs) := rfl
@[simp] theorem pTupleT (xs : List D) : f1 pTuple [.tuple xs] = some (.tuple xs) := rfl
@[simp] theorem pListT (xs : List D) : f1 pList [.tuple xs] = some (.list xs) := rfl
@[simp] theorem pSeqL (xs : List D) : pSeq (.list xs) = some xs := rfl
@[simp] theorem pSeqT (xs : List D) : pSeq (.tuple xs) = some xs := rfl
@[simp] theorem pRevT' (xs : List D) : pRevT (.tuple xs) = some (.tuple xs.reverse) := rfl
@[simp] theorem pRevL' (xs : List D) : pRevT (.list xs) = some (.list xs.reverse) := rfl
theorem slDT {rs : List D} {k : Nat} : pSl (.tuple rs) (some (k : Int)) none = some (.tuple (rs.drop k)) := by
  have n : ¬ ((k : Int) < 0) := by omega
  simp only [pSl, cutD, HT.sIx, n, if_false, Int.toNat_natCast]
  simp
  rcases Nat.le_total k rs.length with h | h
  · rw [Nat.min_eq_left h]
    exact List.take_of_length_le (by simp)
  · rw [Nat.min_eq_right h, List.drop_length, List.drop_of_length_le h]
    simp
theorem slTT {rs : List D} {k : Nat} : pSl (.tuple rs) none (some (k : Int)) = some (.tuple (rs.take k)) := by
  have n : ¬ ((k : Int) < 0) := by omega
  simp only [pSl, cutD, HT.sIx, n, if_false, Int.toNat_natCast]
  simp
theorem mulN {a b : Nat} (ha : a < 1000) (hb : b < 1000) : pMul (.int (a : Int)) (.int (b : Int)) = some (.int ((a : Int) * b)) := by
  have : (1000 : Nat) < 2 ^ 2000 := by decide +kernel
  exact mulK (by omega) (by omega)
/-- numbers as data -/
abbrev iw (ws : List Nat) : List D := ws.map fun (w : Nat) => PyData.int (w : Int)
theorem iw_mem {d : D} {ws : List Nat} (h : d ∈ iw ws) : ∃ w ∈ ws, d = .int (w : Int) := by
  obtain ⟨w, h1, h2⟩ := List.mem_map.mp h
  exact ⟨w, h1, h2.symm⟩
theorem iw_get {ws : List Nat} {i : Nat} {w : Nat} (h : ws[i]? = some w) : (iw ws)[i]? = some (.int (w : Int)) := by
  rw [List.getElem?_map, h]
  rfl
theorem iw_pure (ws : List Nat) : pureAll (iw ws) = true := pureAll_mem.mpr fun d hd => by
  obtain ⟨w, _, rfl⟩ := iw_mem hd
  rfl
theorem iw_depth : ∀ ws : List Nat, PyData.depthAll (iw ws) = 0
  | [] => rfl
  | w :: ws => by
    have := iw_depth ws
    simp only [iw] at this
    simp [iw, PyData.depthAll, PyData.depth, this]
theorem shp_pure {d : D} (h : pureD d = true) (hd : d.depth ≤ 64) : shp d = true := by
  unfold shp SeqAt.shaped
  rw [pure_lay h]
  simp [hd]
theorem eqP {x y : D} (h : pureD x = true ∧ x.depth ≤ 64) (h' : pureD y = true ∧ y.depth ≤ 64) : pEq x y = some (PyData.eqv x y) ∧ pNe x y = some (!PyData.eqv x y) := by
  unfold pEq pNe
  rw [shp_pure h.1 h.2, shp_pure h'.1 h'.2]
  exact ⟨rfl, rfl⟩
mutual
theorem eqv_pure_refl : ∀ {x : D}, pureD x = true → PyData.eqv x x = true
  | .int i, _ => by simp [PyData.eqv]
  | .tuple xs, h => by simpa [PyData.eqv] using eqvAll_pure_refl (xs := xs) (by simpa [pureD] using h)
theorem eqvAll_pure_refl : ∀ {xs : List D}, pureAll xs = true → PyData.eqvAll xs xs = true
  | [], _ => rfl
  | x :: xs, h => by
    simp only [pureAll, Bool.and_eq_true] at h
    simp [PyData.eqvAll, eqv_pure_refl h.1, eqvAll_pure_refl h.2]
end
/-- pure data: == is = -/
theorem eqPd {x y : D} (h : pureD x = true ∧ x.depth ≤ 64) (h' : pureD y = true ∧ y.depth ≤ 64) [Decidable (x = y)] : pEq x y = some (decide (x = y)) ∧ pNe x y = some (!decide (x = y)) := by
  have e : PyData.eqv x y = decide (x = y) := by
    by_cases z : x = y
    · subst z
      simp [eqv_pure_refl h.1]
    · have : PyData.eqv x y = false := by
        cases hq : PyData.eqv x y with
        | false => rfl
        | true => exact absurd (pure_eqv h.1 h'.1 hq) z
      simp [z, this]
  rw [(eqP h h').1, (eqP h h').2, e]
  exact ⟨rfl, rfl⟩
/-- a loop that carries a value on -/
theorem forR_foldl {T S γ' β : Type} {dec : D → Option T} {step : T → S → R (Fl S S β)} {f : S → D → S} {I : S → Prop} : ∀ (ds : List D) (s : S), (∀ d ∈ ds, ∀ s, I s → ∃ t, dec d = some t ∧ step t s = .ok (.nx (f s d)) ∧ I (f s d)) → I s → (forR dec step ds s : R (Fl S γ' β)) = .ok (.nx (ds.foldl f s)) ∧ I (ds.foldl f s)
  | [], s, _, i => ⟨rfl, i⟩
  | d :: ds, s, h, i => by
    obtain ⟨t, e, e1, i1⟩ := h d (List.mem_cons_self ..) s i
    unfold forR
    rw [e, R.of_some, R.ok_bind, e1, R.ok_bind]
    exact forR_foldl ds _ (fun d hd => h d (List.mem_cons_of_mem _ hd)) i1
/-- a loop that appends to a list -/
theorem forR_app {T γ' β : Type} {dec : D → Option T} {step : T → List D × Unit → R (Fl (List D × Unit) (List D × Unit) β)} (g : D → List D) {n : Nat} (hn : n ≤ 100000) : ∀ (ds : List D) (s : List D), (∀ d ∈ ds, ∀ s : List D, s.length + (g d).length ≤ n → ∃ t, dec d = some t ∧ step t (s, ()) = .ok (.nx (s ++ g d, ()))) → s.length + (ds.flatMap g).length ≤ n → (forR dec step ds (s, ()) : R (Fl (List D × Unit) γ' β)) = .ok (.nx (s ++ ds.flatMap g, ()))
  | [], s, _, _ => by simp [forR]
  | d :: ds, s, h, hl => by
    rw [List.flatMap_cons, List.length_append] at hl
    obtain ⟨t, e, e1⟩ := h d (List.mem_cons_self ..) s (by omega)
    unfold forR
    rw [e, R.of_some, R.ok_bind, e1, R.ok_bind]
    show forR dec step ds (s ++ g d, ()) = _
    rw [forR_app g hn ds (s ++ g d) (fun d hd => h d (List.mem_cons_of_mem _ hd)) (by rw [List.length_append]; omega), List.flatMap_cons, List.append_assoc]
theorem LINE_lt {n : Nat} (h : n ≤ 100000) : n < LINE := Nat.lt_of_le_of_lt h (by decide)
/-- data that are told alike -/
def nice : Nat → D → Prop
  | _, .none => True
  | _, .bool _ => True
  | _, .int _ => True
  | n + 1, .tuple xs => xs.length ≤ 1000 ∧ ∀ x ∈ xs, nice n x
  | n + 1, .list xs => xs.length ≤ 1000 ∧ ∀ x ∈ xs, nice n x
  | _, _ => False
namespace K
theorem alike_refl : ∀ (n : Nat) (d : D), nice n d → l__law_alike (n + 1) [d, d] = .ok (.bool true)
  | n, .none, _ => by simp [l__law_alike, isI, pIsN, isN]
  | n, .bool b, _ => by
    have e : pEq (.bool b) (.bool b) = some true := by cases b <;> rfl
    simp [l__law_alike, isI, pIsN, isN, e]
  | n, .int i, _ => by
    have e : pEq (.bool false) (.bool false) = some true := rfl
    simp [l__law_alike, isI, pIsN, isN, e]
  | n + 1, .tuple xs, h => by
    have e := lcD_map (dec := decN) (me := fun t1 => (R.cal (l__law_alike (n + 1)) [(R.bin pIx (.ok (.tuple xs)) (.ok t1)), (R.bin pIx (.ok (.tuple xs)) (.ok t1))])) (g := fun _ => .bool ((fun _ => true) PyData.none)) (rangeF 0 xs.length) (by rw [rangeF_length]; exact LINE_big (by have := h.1; omega)) fun d hd => by
      obtain ⟨i, _, hi, rfl⟩ := rangeF_mem hd
      have hx : xs[i]? = some xs[i] := by simp [by omega]
      exact ⟨_, rfl, by simp [ixT hx, alike_refl n _ (h.2 _ (List.getElem_mem _))]⟩
    have e2 : pAll (.list ((rangeF 0 xs.length).map fun _ => .bool true)) = some (.bool true) := by
      rw [pAll_map (fun _ => true) (rangeF 0 xs.length)]
      simp
    simp only [l__law_alike, R.isi2, R.tor, R.tru, R.isi, R.and, R.blt, R.lc, R.un, R.sq, R.ok_bind, lenT, R.of_some, rngK (show xs.length ≤ 100000 by have := h.1; omega), e]
    simp at e
    simp [isI, f1, e, neB]
    rw [e2]
    simp
  | n + 1, .list xs, h => by
    have e := lcD_map (dec := decN) (me := fun t1 => (R.cal (l__law_alike (n + 1)) [(R.bin pIx (.ok (.list xs)) (.ok t1)), (R.bin pIx (.ok (.list xs)) (.ok t1))])) (g := fun _ => .bool ((fun _ => true) PyData.none)) (rangeF 0 xs.length) (by rw [rangeF_length]; exact LINE_big (by have := h.1; omega)) fun d hd => by
      obtain ⟨i, _, hi, rfl⟩ := rangeF_mem hd
      have hx : xs[i]? = some xs[i] := by simp [by omega]
      exact ⟨_, rfl, by simp [ixL hx, alike_refl n _ (h.2 _ (List.getElem_mem _))]⟩
    have e2 : pAll (.list ((rangeF 0 xs.length).map fun _ => .bool true)) = some (.bool true) := by
      rw [pAll_map (fun _ => true) (rangeF 0 xs.length)]
      simp
    simp only [l__law_alike, R.isi2, R.tor, R.tru, R.isi, R.and, R.blt, R.lc, R.un, R.sq, R.ok_bind, lenL, R.of_some, rngK (show xs.length ≤ 100000 by have := h.1; omega), e]
    simp at e
    simp [isI, f1, e, neB]
    rw [e2]
    simp
  | 0, .tuple _, h => h.elim
  | 0, .list _, h => h.elim
  | 0, .str _, h => h.elim
  | 0, .dict _, h => h.elim
  | _ + 1, .str _, h => h.elim
  | _ + 1, .dict _, h => h.elim
/-! ### checks -/
def nxt (tab : List D) (s g : Nat) : Nat := match tab[s]? with
  | some (.tuple row) => (match row[g]? with | some (.int v) => v.toNat | _ => 0)
  | _ => 0
structure Ck (S L : Nat) (tab al : List D) (nr : Nat) : Prop where
  s1 : 1 ≤ S
  s3 : S ≤ 3
  l1 : 1 ≤ L
  l3 : L ≤ 3
  r9 : nr ≤ 8
  tl : tab.length = S
  row : ∀ s, s < S → ∃ row : List D, tab[s]? = some (.tuple row) ∧ row.length = L ∧ ∀ g, g < L → ∃ v : Nat, row[g]? = some (.int (v : Int)) ∧ v < S
  ale : al.length = nr
  ok : ∀ x ∈ al, x = PyData.none ∨ ∃ ns : List Nat, x = PyData.tuple (iw ns) ∧ ns.length ≤ 3 ∧ ns.Pairwise (· < ·) ∧ ∀ n ∈ ns, n < S
abbrev ckD (S : Nat) (tab al : List D) : D := .tuple [.int (S : Int), .tuple tab, .tuple al]
section
variable {S L nr : Nat} {tab al : List D}
theorem nxt_ok (C : Ck S L tab al nr) {s g : Nat} (hs : s < S) (hg : g < L) : nxt tab s g < S ∧ ∃ row, pIx (.tuple tab) (.int (s : Int)) = some row ∧ pIx row (.int (g : Int)) = some (.int (nxt tab s g : Int)) := by
  obtain ⟨row, e1, e2, e3⟩ := C.row s hs
  obtain ⟨v, e4, e5⟩ := e3 g hg
  have : nxt tab s g = v := by simp [nxt, e1, e4]
  rw [this]
  exact ⟨e5, _, ixT e1, ixT e4⟩
def stf (tab : List D) (s : Nat) (ws : List Nat) : Nat := ws.reverse.foldl (nxt tab) s
theorem stf_cons {s g : Nat} {ws : List Nat} : stf tab s (g :: ws) = nxt tab (stf tab s ws) g := by simp [stf]
theorem stf_lt (C : Ck S L tab al nr) {s : Nat} (hs : s < S) : ∀ {ws : List Nat}, (∀ w ∈ ws, w < L) → stf tab s ws < S
  | [], _ => hs
  | g :: ws, h => by
    rw [stf_cons]
    exact (nxt_ok C (stf_lt C hs fun w hw => h w (List.mem_cons_of_mem _ hw)) (h g (List.mem_cons_self ..))).1
theorem st_loop (C : Ck S L tab al nr) : ∀ (us : List Nat) (s : Nat), s < S → (∀ g ∈ us, g < L) → (forR decN (lb_state_in_2 (ckD S tab al)) (iw us) (.int (s : Int), ()) : R (Fl (D × Unit) Empty D)) = .ok (.nx (.int ((us.foldl (nxt tab) s : Nat) : Int), ()))
  | [], s, _, _ => rfl
  | g :: us, s, hs, hg => by
    obtain ⟨h1, row, h2, h3⟩ := nxt_ok C hs (hg g (List.mem_cons_self ..))
    have ih := st_loop C us _ h1 fun g h => hg g (List.mem_cons_of_mem _ h)
    simp only [iw, List.map_cons, forR, decN, R.of_some, R.ok_bind, lb_state_in_2, R.bin, ix1, h2, h3, List.foldl_cons]
    exact ih
theorem state_p (C : Ck S L tab al nr) {ws : List Nat} (hw : ∀ w ∈ ws, w < L) : l_state_in [ckD S tab al, .tuple (iw ws)] = .ok (.int (stf tab 0 ws : Int)) := by
  have h := st_loop C ws.reverse 0 (by have := C.s1; omega) fun g hg => hw g (List.mem_reverse.mp hg)
  have e : (iw ws).reverse = iw ws.reverse := by simp [iw]
  simp only [l_state_in, R.ok_bind, R.un, pRevT', R.of_some, pSeqT, e]
  rw [show (PyData.int 0) = .int ((0 : Nat) : Int) from rfl, h]
  rw [Fl.then_nx]
  simp only [R.ok_bind, R.fin_rt]
  rfl
theorem below_p (C : Ck S L tab al nr) {ws : List Nat} (hw : ∀ w ∈ ws, w < L) : l__law_below [ckD S tab al, .tuple (iw ws)] = .ok (.int (stf tab 0 ws : Int)) := state_p C hw
def mwl (tab : List D) (S : Nat) : List Nat → Nat → List Nat → List Nat
  | [], _, acc => acc
  | g :: us, s, acc => mwl tab S us (nxt tab s g) ((g * S + s) :: acc)
def mks (tab : List D) (S s : Nat) (ws : List Nat) : List Nat := mwl tab S ws.reverse s []
theorem mwl_snoc : ∀ (us : List Nat) (g s : Nat) (acc : List Nat), mwl tab S (us ++ [g]) s acc = (g * S + us.foldl (nxt tab) s) :: mwl tab S us s acc
  | [], g, s, acc => rfl
  | u :: us, g, s, acc => by
    show mwl tab S (us ++ [g]) _ _ = _
    rw [mwl_snoc us]
    rfl
theorem mks_cons {s g : Nat} {ws : List Nat} : mks tab S s (g :: ws) = (g * S + stf tab s ws) :: mks tab S s ws := by
  unfold mks
  rw [List.reverse_cons, mwl_snoc]
  rfl
theorem mks_length {s : Nat} : ∀ {ws : List Nat}, (mks tab S s ws).length = ws.length
  | [] => rfl
  | g :: ws => by rw [mks_cons, List.length_cons, mks_length, List.length_cons]
theorem mw_loop (C : Ck S L tab al nr) : ∀ (us : List Nat) (s : Nat) (acc : List Nat), s < S → (∀ g ∈ us, g < L) → acc.length + us.length ≤ 1000 → ∃ s' : D, (forR decN (lb_marked_word_2 (ckD S tab al)) (iw us) (.int (s : Int), .tuple (iw acc), ()) : R (Fl (D × D × Unit) Empty D)) = .ok (.nx (s', .tuple (iw (mwl tab S us s acc)), ()))
  | [], s, acc, _, _, _ => ⟨_, rfl⟩
  | g :: us, s, acc, hs, hg, hl => by
    obtain ⟨h1, row, h2, h3⟩ := nxt_ok C hs (hg g (List.mem_cons_self ..))
    have hg0 := hg g (List.mem_cons_self ..)
    rw [List.length_cons] at hl
    obtain ⟨s', ih⟩ := mw_loop C us _ ((g * S + s) :: acc) h1 (fun g h => hg g (List.mem_cons_of_mem _ h)) (by rw [List.length_cons]; omega)
    refine ⟨s', ?_⟩
    have m : pMul (.int (g : Int)) (.int (S : Int)) = some (.int ((g : Int) * S)) := mulN (by have := C.l3; omega) (by have := C.s3; omega)
    have e : ((g : Int) * S + s) = ((g * S + s : Nat) : Int) := by simp
    have t := tup_ok (xs := PyData.int ((g * S + s : Nat) : Int) :: iw acc) (by rw [List.length_cons, List.length_map]; omega)
    simp only [iw, List.map_cons, forR, decN, R.of_some, R.ok_bind, lb_marked_word_2, R.bin, ix0, ix1, m, addK, e, pSeqT, List.append_nil] at t ⊢
    rw [t]
    simp only [R.of_some, R.ok_bind, h2, h3]
    exact ih
theorem mword_p (C : Ck S L tab al nr) {s : Nat} (hs : s < S) {ws : List Nat} (hw : ∀ w ∈ ws, w < L) (hl : ws.length ≤ 100) : l_marked_word [ckD S tab al, .int (s : Int), .tuple (iw ws)] = .ok (.tuple (iw (mks tab S s ws))) := by
  obtain ⟨s', h⟩ := mw_loop C ws.reverse s [] hs (fun g hg => hw g (List.mem_reverse.mp hg)) (by rw [List.length_reverse, List.length_nil]; omega)
  have e : (iw ws).reverse = iw ws.reverse := by simp [iw]
  simp only [l_marked_word, R.ok_bind, R.un, R.tup, R.sq, tup0, pRevT', R.of_some, pSeqT, e]
  rw [show (PyData.tuple []) = .tuple (iw []) from rfl, h]
  rw [Fl.then_nx]
  simp only [R.ok_bind, R.fin_rt]
  rfl
theorem mks_get {s : Nat} : ∀ {ws : List Nat} {k : Nat} {w : Nat}, ws[k]? = some w → (mks tab S s ws)[k]? = some (w * S + stf tab s (ws.drop (k + 1)))
  | g :: ws, 0, w, h => by
    simp at h
    subst h
    rw [mks_cons]
    rfl
  | g :: ws, k + 1, w, h => by
    rw [mks_cons, List.getElem?_cons_succ]
    exact mks_get (by simpa using h)
theorem marks_p (C : Ck S L tab al nr) {ws : List Nat} (hw : ∀ w ∈ ws, w < L) (hl : ws.length ≤ 100) : l__law_marks [ckD S tab al, .tuple (iw ws)] = .ok (.tuple (iw (mks tab S 0 ws))) := by
  have hS := C.s3
  have hL := C.l3
  have e := lcD_map (dec := decN) (me := fun t1 => (R.bin pAdd (R.bin pMul (R.bin pIx (.ok (.tuple (iw ws))) (.ok t1)) (R.bin pIx (.ok (ckD S tab al)) (.ok (.int 0)))) (R.cal (l__law_below) [.ok (ckD S tab al), (R.slL (.ok (.tuple (iw ws))) (R.bin pAdd (.ok t1) (.ok (.int 1))))])))
    (g := fun d => match d with | .int k => ((iw (mks tab S 0 ws))[k.toNat]?).getD .none | _ => .none) (rangeF 0 ws.length) (by rw [rangeF_length]; exact LINE_big (by omega)) fun d hd => by
      obtain ⟨k, _, hk, rfl⟩ := rangeF_mem hd
      have hx : ws[k]? = some ws[k] := by simp [by omega]
      have b := below_p C (ws := ws.drop (k + 1)) fun w h => hw w (List.mem_of_mem_drop h)
      have hk' := hw _ (List.getElem_mem (show k < ws.length by omega))
      have m : pMul (.int (ws[k] : Int)) (.int (S : Int)) = some (.int ((ws[k] : Int) * S)) := mulN (by omega) (by omega)
      refine ⟨_, rfl, ?_⟩
      have ed : (iw ws).drop (k + 1) = iw (ws.drop (k + 1)) := by simp [iw]
      simp only [R.bin, R.cal, R.slL, R.sq, R.ok_bind, ixT (iw_get hx), R.of_some, ix0, m, addK, oI, show (k : Int) + 1 = ((k + 1 : Nat) : Int) by omega, slDT, ed, b, Int.toNat_natCast, iw_get (mks_get hx), Option.getD_some]
      simp
  simp only [l__law_marks, R.blt, R.lc, R.un, R.sq, R.ok_bind, lenT, R.of_some, List.length_map, rngK (show ws.length ≤ 100000 by omega)]
  simp only [R.bin, R.cal, R.slL, R.sq, R.ok_bind, R.of_some] at e ⊢
  rw [e]
  simp only [R.ok_bind, pTupleL, R.of_some, R.fin_rt]
  congr 2
  refine List.ext_getElem? fun k => ?_
  by_cases hk : k < ws.length
  · rw [List.getElem?_map, rangeF_get hk]
    simp only [Option.map_some, Nat.zero_add, Int.toNat_natCast]
    have hx : ws[k]? = some ws[k] := by simp [hk]
    rw [iw_get (mks_get hx)]
    rfl
  · rw [List.getElem?_eq_none (by rw [List.length_map, rangeF_length]; omega), List.getElem?_eq_none (by rw [List.length_map, mks_length]; omega)]
end
end K
end Pu

set_option maxHeartbeats 1000000
namespace Pu
open PySem PySem.Spec L2
theorem slD1T {rs : List D} : pSl (.tuple rs) (some 1) none = some (.tuple (rs.drop 1)) := slDT (k := 1)
theorem enum_filter {p p' : D → Bool} {g : D → D} : ∀ (rs : List D) (k : Nat), (∀ i x, rs[i]? = some x → p (.tuple [.int ((k + i : Nat) : Int), x]) = p' (.int ((k + i : Nat) : Int)) ∧ g (.tuple [.int ((k + i : Nat) : Int), x]) = .int ((k + i : Nat) : Int)) → ((enumF k rs).filter p).map g = (rangeF k rs.length).filter p'
  | [], _, _ => rfl
  | r :: rs, k, h => by
    have h0 := h 0 r rfl
    rw [Nat.add_zero] at h0
    have ih := enum_filter rs (k + 1) fun i x hx => by
      have := h (i + 1) x (by simpa using hx)
      rw [show k + (i + 1) = k + 1 + i by omega] at this
      exact this
    show (List.filter p (.tuple [.int (k : Int), r] :: enumF (k + 1) rs)).map g = List.filter p' (.int (k : Int) :: rangeF (k + 1) rs.length)
    rw [List.filter_cons, List.filter_cons, h0.1]
    split
    · rw [List.map_cons, h0.2, ih]
    · exact ih
theorem enum_flatMap {G G' : D → List D} : ∀ (rs : List D) (k : Nat), (∀ i x, rs[i]? = some x → G (.tuple [.int ((k + i : Nat) : Int), x]) = G' (.int ((k + i : Nat) : Int))) → (enumF k rs).flatMap G = (rangeF k rs.length).flatMap G'
  | [], _, _ => rfl
  | r :: rs, k, h => by
    have h0 := h 0 r rfl
    rw [Nat.add_zero] at h0
    have ih := enum_flatMap rs (k + 1) fun i x hx => by
      have := h (i + 1) x (by simpa using hx)
      rw [show k + (i + 1) = k + 1 + i by omega] at this
      exact this
    show (PyData.tuple [.int (k : Int), r] :: enumF (k + 1) rs).flatMap G = (PyData.int (k : Int) :: rangeF (k + 1) rs.length).flatMap G'
    rw [List.flatMap_cons, List.flatMap_cons, h0, ih]
theorem enumF_mem {d : D} : ∀ {rs : List D} {k : Nat}, d ∈ enumF k rs → ∃ i x, rs[i]? = some x ∧ d = .tuple [.int ((k + i : Nat) : Int), x]
  | r :: rs, k, h => by
    simp only [enumF, List.mem_cons] at h
    rcases h with rfl | h
    · exact ⟨0, r, rfl, rfl⟩
    · obtain ⟨i, x, h1, rfl⟩ := enumF_mem h
      exact ⟨i + 1, x, by simpa using h1, by rw [show k + 1 + i = k + (i + 1) by omega]⟩
  | [], k, h => by simp [enumF] at h
theorem flatMap_le {G : D → List D} {n : Nat} : ∀ {ds : List D}, (∀ d ∈ ds, (G d).length ≤ n) → (ds.flatMap G).length ≤ ds.length * n
  | [], _ => by simp
  | d :: ds, h => by
    rw [List.flatMap_cons, List.length_append, List.length_cons, Nat.succ_mul]
    have := h d (List.mem_cons_self ..)
    have := flatMap_le (ds := ds) fun d hd => h d (List.mem_cons_of_mem _ hd)
    omega
def unN (ds : List D) : List Nat := ds.map fun d => match d with | .int i => i.toNat | _ => 0
theorem unN_iw (ws : List Nat) : unN (iw ws) = ws := by
  unfold unN iw
  rw [List.map_map]
  conv => rhs; rw [← List.map_id ws]
  exact List.map_congr_left fun w _ => by simp
theorem inN {s : Nat} {ns : List Nat} : pIn (.int (s : Int)) (.tuple (iw ns)) = some (decide (s ∈ ns)) := by
  have s1 : shp (.int (s : Int)) = true := rfl
  have s2 : shp (.tuple (iw ns)) = true := shp_pure (by simpa [pureD] using iw_pure ns) (by simp [PyData.depth, iw_depth])
  show (if _ then _ else _) = _
  rw [s1, s2]
  show some (List.any (iw ns) _) = _
  congr 1
  induction ns with
  | nil => simp
  | cons n ns ih =>
    rw [show iw (n :: ns) = .int (n : Int) :: iw ns from rfl, List.any_cons, ih (shp_pure (by simpa [pureD] using iw_pure ns) (by simp [PyData.depth, iw_depth]))]
    by_cases h : n = s
    · subst h
      simp [PyData.eqv]
    · have h' : ¬ s = n := fun z => h z.symm
      have : PyData.eqv (.int (n : Int)) (.int (s : Int)) = false := by simp [PyData.eqv]; omega
      simp [this, h']
theorem eqT2N (a b c d : Nat) : pEq (.tuple [.int (a : Int), .int (b : Int)]) (.tuple [.int (c : Int), .int (d : Int)]) = some (decide (a = c ∧ b = d)) := by
  have p : ∀ a b : Nat, pureD (.tuple [.int (a : Int), .int (b : Int)]) = true ∧ (PyData.tuple [.int (a : Int), .int (b : Int)]).depth ≤ 64 := fun a b => ⟨rfl, by simp [PyData.depth, PyData.depthAll]⟩
  rw [(eqP (p a b) (p c d)).1]
  simp [PyData.eqv, PyData.eqvAll]
  by_cases h : a = c <;> by_cases h' : b = d <;> simp [h, h'] <;> omega
namespace K
/-- a rule of numbers -/
structure Ru (C L : Nat) (r : D) : Prop where
  ex : ∃ (p g q : Nat) (ws : List Nat), r = .tuple [.int (p : Int), .int (g : Int), .int (q : Int), .tuple (iw ws)] ∧ p < C ∧ g < L ∧ q < C ∧ ws.length ≤ 2 ∧ ∀ w ∈ ws, w < L
theorem ints_nat {n : Int} : ∀ {wd : List D}, wd.all (isIdx n) = true → ∃ ws : List Nat, wd = iw ws ∧ ∀ w ∈ ws, (w : Int) < n
  | [], _ => ⟨[], rfl, by simp⟩
  | d :: ds, h => by
    simp only [List.all_cons, Bool.and_eq_true] at h
    obtain ⟨i, rfl, i0, i1⟩ := isIdx_int h.1
    obtain ⟨ws, rfl, e2⟩ := ints_nat h.2
    refine ⟨i.toNat :: ws, by simp [iw, Int.toNat_of_nonneg i0], fun w hw => ?_⟩
    rcases List.mem_cons.mp hw with rfl | hw
    · omega
    · exact e2 w hw
theorem ru_of {C L : Nat} {r : D} (h : isRule (C : Int) (L : Int) r = true) : Ru C L r := by
  obtain ⟨p, g, q, ws, rfl, h1, h2, h3, h4, h5, h6, h7, h8⟩ := isRule_form h
  obtain ⟨ws, rfl, e⟩ := ints_nat h1
  refine ⟨p.toNat, g.toNat, q.toNat, ws, ?_, by omega, by omega, by omega, by simpa using h2, fun w hw => by have := e w hw; omega⟩
  rw [Int.toNat_of_nonneg (by omega), Int.toNat_of_nonneg (by omega), Int.toNat_of_nonneg (by omega)]
def hd2 : D → Option (Nat × Nat)
  | .tuple (.int p :: .int g :: _) => some (p.toNat, g.toNat)
  | _ => none
def uP (rs : List D) (a g : Nat) : D → Bool
  | .int k => decide (((rs[k.toNat]?).bind hd2) = some (a, g))
  | _ => false
abbrev sysD (C L : Nat) (rs : List D) : D := .tuple [.int (C : Int), .int (L : Int), .tuple rs]
abbrev atD (a : Nat) (ws : List Nat) : D := .tuple [.int (a : Int), .tuple (iw ws)]
def usl (rs : List D) (a : Nat) : List Nat → List D
  | [] => []
  | g :: _ => (rangeF 0 rs.length).filter (uP rs a g)
section
variable {C L S : Nat} {rs tab al : List D}
theorem hd_sl {p g : Nat} {r : List D} : pSl (.tuple (.int (p : Int) :: .int (g : Int) :: r)) none (some 2) = some (.tuple [.int (p : Int), .int (g : Int)]) := by
  have := slTT (rs := .int (p : Int) :: .int (g : Int) :: r) (k := 2)
  simpa using this
theorem rules_at_p (hr : ∀ r ∈ rs, Ru C L r) (hl : rs.length ≤ 1000) (a g : Nat) : l_rules_at [sysD C L rs, .tuple [.int (a : Int), .int (g : Int)]] = .ok (.list ((rangeF 0 rs.length).filter (uP rs a g))) := by
  have e := lcD_ok (dec := decTup (decCons decN (decCons decN decNil))) (mt := fun t1 => (R.tcmp pEq (R.slH (.ok t1.2.1) (.ok (.int 2))) (.ok (.tuple [.int (a : Int), .int (g : Int)])))) (me := fun t1 => .ok t1.1)
    (p := fun d => match d with | .tuple [_, r] => decide (hd2 r = some (a, g)) | _ => false) (g := fun d => match d with | .tuple [k, _] => k | _ => .none) (enumF 0 rs) (LINE_big (by rw [enumF_length]; omega)) fun d hd => by
      obtain ⟨i, x, hx, rfl⟩ := enumF_mem hd
      obtain ⟨p, g', q, ws, rfl, _⟩ := (hr x (List.mem_of_getElem? hx)).ex
      refine ⟨(_, _, ()), rfl, ?_, fun _ => rfl⟩
      simp only [R.tcmp, R.slH, R.ok_bind, oI, R.of_some, hd_sl, eqT2N, hd2, Int.toNat_natCast]
      by_cases h : p = a <;> by_cases h' : g' = g <;> simp [h, h']
  rw [enum_filter (p' := uP rs a g) rs 0 fun i x hx => by
    refine ⟨?_, rfl⟩
    simp only [uP, Nat.zero_add, Int.toNat_natCast, hx, Option.bind_some]] at e
  simp only [l_rules_at, R.lc, R.un, R.bin, R.ok_bind, ix2, R.of_some, pEnum, enumD_eq]
  simp only [R.tcmp, R.slH, R.ok_bind] at e ⊢
  rw [e]
  simp only [R.ok_bind, R.fin_rt]
theorem neNilT (xs : List Nat) : pNe (.tuple (iw xs)) (.tuple []) = some (!xs.isEmpty) ∧ pEq (.tuple (iw xs)) (.tuple []) = some xs.isEmpty := by
  have p : ∀ xs : List Nat, pureD (.tuple (iw xs)) = true ∧ (PyData.tuple (iw xs)).depth ≤ 64 := fun xs => ⟨by simpa [pureD] using iw_pure xs, by simp [PyData.depth, iw_depth]⟩
  have := eqP (p xs) (p [])
  rw [show (PyData.tuple (iw [])) = .tuple [] from rfl] at this
  rw [this.1, this.2]
  cases xs <;> simp [PyData.eqv, PyData.eqvAll]
theorem usable_in_p (hr : ∀ r ∈ rs, Ru C L r) (hl : rs.length ≤ 1000) (a : Nat) (ws : List Nat) : l_usable_in [sysD C L rs, atD a ws] = .ok (.list (usl rs a ws)) := by
  have k6 : decTup (decCons decN (decCons decN decNil)) (atD a ws) = some (.int (a : Int), .tuple (iw ws), ()) := rfl
  simp only [l_usable_in, R.ok_bind, k6, R.of_some, R.ite, R.tcmp, R.tup, R.sq, tup0, neNilT]
  cases ws with
  | nil =>
    simp only [List.isEmpty_nil, Bool.not_true, Bool.false_eq_true, if_false, R.lst, R.sq, R.ok_bind, lst0, R.of_some, R.fin_rt, usl]
  | cons g ws =>
    simp only [List.isEmpty_cons, Bool.not_false, if_true, R.cal, R.bin, R.sq, R.ok_bind, iw, List.map_cons, ix0, R.of_some, tup2, rules_at_p hr hl, R.fin_rt, usl]
def letB (al : List D) (s : Nat) : D → Bool
  | .int k => (match al[k.toNat]? with
    | some .none => true
    | some (.tuple ns) => decide (s ∈ unN ns)
    | _ => false)
  | _ => false
theorem let_p (K : Ck S L tab al rs.length) {k s : Nat} (hk : k < rs.length) :
    R.or (R.cmp pIsN (R.bin pIx (R.bin pIx (.ok (ckD S tab al)) (.ok (.int 2))) (.ok (.int (k : Int)))) (.ok .none)) (R.cmp pIn (.ok (.int (s : Int))) (R.bin pIx (R.bin pIx (.ok (ckD S tab al)) (.ok (.int 2))) (.ok (.int (k : Int))))) = .ok (.bool (letB al s (.int (k : Int)))) ∧
    R.tor (R.tcmp pIsN (R.bin pIx (R.bin pIx (.ok (ckD S tab al)) (.ok (.int 2))) (.ok (.int (k : Int)))) (.ok .none)) (R.tcmp pIn (.ok (.int (s : Int))) (R.bin pIx (R.bin pIx (.ok (ckD S tab al)) (.ok (.int 2))) (.ok (.int (k : Int))))) = .ok (letB al s (.int (k : Int))) := by
  have hka : k < al.length := by rw [K.ale]; exact hk
  have hx : al[k]? = some al[k] := by simp [hka]
  have hy := K.ok _ (List.mem_of_getElem? hx)
  rcases hy with hy | ⟨ns, hy, _⟩
  · rw [hy] at hx
    simp [ixT hx, pIsN, isN, letB, hx]
  · rw [hy] at hx
    simp [ixT hx, pIsN, isN, letB, hx, inN, unN_iw]
theorem is_let_p (K : Ck S L tab al rs.length) {k s : Nat} (hk : k < rs.length) : l_is_let [ckD S tab al, .int (k : Int), .int (s : Int)] = .ok (.bool (letB al s (.int (k : Int)))) := by
  simp only [l_is_let]
  rw [(let_p K hk).1, R.ok_bind, R.fin_rt]
theorem usl_mem {a : Nat} {ws : List Nat} {d : D} (h : d ∈ usl rs a ws) : ∃ k : Nat, k < rs.length ∧ d = .int (k : Int) := by
  cases ws with
  | nil => simp [usl] at h
  | cons g ws =>
    simp only [usl, List.mem_filter] at h
    obtain ⟨k, _, hk, rfl⟩ := rangeF_mem h.1
    exact ⟨k, by omega, rfl⟩
theorem usl_len {a : Nat} {ws : List Nat} : (usl rs a ws).length ≤ rs.length := by
  cases ws with
  | nil => simp [usl]
  | cons g ws => exact Nat.le_trans (List.length_filter_le _ _) (by rw [rangeF_length]; exact Nat.le_refl _)
/-- the rules that checks let -/
def uck (rs al tab : List D) (a : Nat) (ws : List Nat) : List D := (usl rs a ws).filter (letB al (stf tab 0 (ws.drop 1)))
theorem checked_in_p (K : Ck S L tab al rs.length) (hr : ∀ r ∈ rs, Ru C L r) (a : Nat) {ws : List Nat} (hw : ∀ w ∈ ws, w < L) : l_usable_checked_in [sysD C L rs, ckD S tab al, atD a ws] = .ok (.list (uck rs al tab a ws)) := by
  have hl := K.r9
  have ed : (iw ws).drop 1 = iw (ws.drop 1) := by simp [iw]
  have st := state_p K (ws := ws.drop 1) fun w h => hw w (List.mem_of_mem_drop h)
  have e := lcD_ok (dec := decN) (mt := fun t2 => (R.tru (R.cal (l_is_let) [.ok (ckD S tab al), .ok t2, .ok (.int (stf tab 0 (ws.drop 1) : Int))]))) (me := fun t2 => .ok t2) (p := letB al (stf tab 0 (ws.drop 1))) (g := fun d => d) (usl rs a ws) (LINE_big (by have := usl_len (rs := rs) (a := a) (ws := ws); omega)) fun d hd => by
    obtain ⟨k, hk, rfl⟩ := usl_mem hd
    refine ⟨_, rfl, ?_, fun _ => rfl⟩
    simp only [R.tru, R.cal, R.sq, R.ok_bind, is_let_p K hk, truB, R.of_some]
  simp only [l_usable_checked_in, R.cal, R.slL, R.bin, R.un, R.lc, R.sq, R.ok_bind, ix1, oI, R.of_some, slD1T, ed, st, usable_in_p hr (show rs.length ≤ 1000 by omega), pSeqL]
  simp only [R.tru, R.cal, R.sq, R.ok_bind] at e ⊢
  rw [e]
  simp only [R.ok_bind, R.fin_rt, List.map_id']
  rfl
theorem law_usable_p (K : Ck S L tab al rs.length) (hr : ∀ r ∈ rs, Ru C L r) (a : Nat) {ws : List Nat} (hw : ∀ w ∈ ws, w < L) : l__law_usable [sysD C L rs, ckD S tab al, atD a ws] = .ok (.list (uck rs al tab a ws)) := by
  have hl := K.r9
  simp only [l__law_usable, R.tcmp, R.bin, R.tup, R.sq, R.ok_bind, ix1, tup0, R.of_some, neNilT]
  cases ws with
  | nil =>
    simp only [List.isEmpty_nil, if_true, R.lst, R.sq, R.ok_bind, lst0, R.of_some, R.up_rt, R.fin_rt, uck, usl, List.filter_nil]
  | cons g ws =>
    have ed : (iw (g :: ws)).drop 1 = iw ws := rfl
    have st := below_p K (ws := ws) fun w h => hw w (List.mem_cons_of_mem _ h)
    have e1 := lcD_ok (dec := decN) (mt := fun t2 => (R.tcmp pEq (R.slH (R.bin pIx (R.bin pIx (.ok (sysD C L rs)) (.ok (.int 2))) (.ok t2)) (.ok (.int 2))) (R.tup [(R.bin pIx (.ok (atD a (g :: ws))) (.ok (.int 0))), (R.bin pIx (R.bin pIx (.ok (atD a (g :: ws))) (.ok (.int 1))) (.ok (.int 0)))]))) (me := fun t2 => .ok t2) (p := uP rs a g) (g := fun d => d) (rangeF 0 rs.length) (LINE_big (by rw [rangeF_length]; omega)) fun d hd => by
      obtain ⟨k, _, hk, rfl⟩ := rangeF_mem hd
      have hx : rs[k]? = some rs[k] := by simp [by omega]
      obtain ⟨p, g', q, us, er, _⟩ := (hr _ (List.mem_of_getElem? hx)).ex
      rw [er] at hx
      refine ⟨_, rfl, ?_, fun _ => rfl⟩
      simp only [R.tcmp, R.slH, R.bin, R.tup, R.sq, R.ok_bind, ix0, ix1, ix2, ixT hx, oI, R.of_some, hd_sl, tup2, iw, List.map_cons, eqT2N, uP, Int.toNat_natCast, hx, Option.bind_some, hd2]
      by_cases h : p = a <;> by_cases h' : g' = g <;> simp [h, h']
    have e2 := lcD_ok (dec := decN) (mt := fun t4 => (R.tor (R.tcmp pIsN (R.bin pIx (R.bin pIx (.ok (ckD S tab al)) (.ok (.int 2))) (.ok t4)) (.ok .none)) (R.tcmp pIn (.ok (.int (stf tab 0 ws : Int))) (R.bin pIx (R.bin pIx (.ok (ckD S tab al)) (.ok (.int 2))) (.ok t4))))) (me := fun t2 => .ok t2) (p := letB al (stf tab 0 ws)) (g := fun d => d) (usl rs a (g :: ws)) (LINE_big (by have := usl_len (rs := rs) (a := a) (ws := g :: ws); omega)) fun d hd => by
      obtain ⟨k, hk, rfl⟩ := usl_mem hd
      exact ⟨_, rfl, (let_p K hk).2, fun _ => rfl⟩
    simp only [List.isEmpty_cons, Bool.false_eq_true, if_false, R.cal, R.slL, R.bin, R.un, R.lc, R.blt, R.sq, R.ok_bind, ix1, ix2, oI, R.of_some, slD1T, ed, st, lenT, rngK (show rs.length ≤ 100000 by omega)]
    simp only [List.map_id', R.tcmp, R.slH, R.bin, R.tup, R.sq, R.ok_bind, ix0, ix1, ix2, R.of_some] at e1 ⊢
    rw [e1]
    simp only [R.ok_bind, pSeqL, R.of_some]
    simp only [List.map_id', R.tor, R.tcmp, R.bin, R.ok_bind, ix2, R.of_some] at e2 ⊢
    rw [show (usl rs a (g :: ws)) = (rangeF 0 rs.length).filter (uP rs a g) from rfl] at e2
    rw [e2]
    simp only [R.ok_bind, R.fin_rt]
    rfl
end
end K
end Pu

set_option maxHeartbeats 1000000
namespace Pu
open PySem PySem.Spec L2
namespace K
section
variable {C L S : Nat} {rs tab al : List D}
/-- a rule of the marked system, with its number -/
def ent (tab : List D) (S k s : Nat) : D → D
  | .tuple [p, .int g, q, .tuple wd] => .tuple [.tuple [p, .int ((g.toNat * S + s : Nat) : Int), q, .tuple (iw (mks tab S s (unN wd)))], .int (k : Int)]
  | _ => .none
def entG (rs tab al : List D) (S : Nat) (k : Nat) : D → List D
  | .int s => if letB al s.toNat (.int (k : Int)) = true then [ent tab S k s.toNat ((rs[k]?).getD .none)] else []
  | _ => []
def entsG (rs tab al : List D) (S : Nat) : D → List D
  | .int k => (rangeF 0 S).flatMap (entG rs tab al S k.toNat)
  | _ => []
def ents (rs tab al : List D) (S : Nat) : List D := (rangeF 0 rs.length).flatMap (entsG rs tab al S)
theorem entG_len {k : Nat} (d : D) : (entG rs tab al S k d).length ≤ 1 := by
  unfold entG
  split
  · split <;> simp
  · simp
theorem entsG_len (d : D) : (entsG rs tab al S d).length ≤ S := by
  unfold entsG
  split
  · have := flatMap_le (G := entG rs tab al S (by assumption : Int).toNat) (n := 1) (ds := rangeF 0 S) fun d _ => entG_len d
    rw [rangeF_length] at this
    omega
  · simp
theorem ents_len (K : Ck S L tab al rs.length) : (ents rs tab al S).length ≤ 24 := by
  have := flatMap_le (G := entsG rs tab al S) (n := S) (ds := rangeF 0 rs.length) fun d _ => entsG_len d
  rw [rangeF_length] at this
  have h1 := K.r9
  have h2 := K.s3
  have : rs.length * S ≤ 8 * 3 := Nat.mul_le_mul h1 h2
  unfold ents
  omega
theorem mul_small (K : Ck S L tab al rs.length) {g : Nat} (hg : g < L) : pMul (.int (g : Int)) (.int (S : Int)) = some (.int ((g : Int) * S)) := mulN (by have := K.l3; omega) (by have := K.s3; omega)
theorem inner_p (K : Ck S L tab al rs.length) (hr : ∀ r ∈ rs, Ru C L r) {k : Nat} (hk : k < rs.length) (acc : List D) (ha : acc.length ≤ 1000) {p g q : Nat} {ws : List Nat} (e : rs[k]? = some (.tuple [.int (p : Int), .int (g : Int), .int (q : Int), .tuple (iw ws)])) :
    (forR decN (lb_marked_rules_6 (ckD S tab al) (.int (k : Int), (.int (p : Int), .int (g : Int), .int (q : Int), .tuple (iw ws), ()), ()) (.int (S : Int))) (rangeF 0 S) (acc, ()) : R (Fl (List D × Unit) (List D × Unit) D)) = .ok (.nx (acc ++ (rangeF 0 S).flatMap (entG rs tab al S k), ())) := by
  obtain ⟨p', g', q', ws', e', hp, hg, hq, hw2, hw⟩ := (hr _ (List.mem_of_getElem? e)).ex
  simp only [PyData.tuple.injEq, List.cons.injEq, PyData.int.injEq, Int.natCast_inj, and_true] at e'
  obtain ⟨rfl, rfl, rfl, e4⟩ := e'
  have ew : ws = ws' := by have := congrArg unN e4; rwa [unN_iw, unN_iw] at this
  subst ew
  have hS := K.s3
  have fl := flatMap_le (G := entG rs tab al S k) (n := 1) (ds := rangeF 0 S) fun d _ => entG_len d
  rw [rangeF_length] at fl
  refine forR_app (entG rs tab al S k) (n := 2000) (by decide) (rangeF 0 S) acc (fun d hd s hs => ?_) (by omega)
  obtain ⟨z, _, hz, rfl⟩ := rangeF_mem hd
  refine ⟨_, rfl, ?_⟩
  have hz' : z < S := by omega
  simp only [lb_marked_rules_6, R.tru, R.cal, R.sq, R.ok_bind, is_let_p K hk, truB, R.of_some]
  cases hb : letB al z (.int (k : Int)) with
  | false =>
    simp only [Bool.false_eq_true, if_false, entG, Int.toNat_natCast, hb, List.append_nil]
  | true =>
    have eg : entG rs tab al S k (.int (z : Int)) = [.tuple [.tuple [.int (p : Int), .int ((g * S + z : Nat) : Int), .int (q : Int), .tuple (iw (mks tab S z ws))], .int (k : Int)]] := by
      simp [entG, hb, e, ent, unN_iw]
    rw [eg, List.length_singleton] at hs
    have e5 : ((g : Int) * S + z) = ((g * S + z : Nat) : Int) := by simp
    simp only [if_true, R.tup, R.bin, R.sq, R.ok_bind, mul_small K hg, R.of_some, addK, e5, mword_p K hz' hw (show ws.length ≤ 100 by omega), tup4, tup2, eg]
    rw [if_pos (LINE_lt (by omega))]
theorem marked_rules_p (K : Ck S L tab al rs.length) (hr : ∀ r ∈ rs, Ru C L r) : l_marked_rules [sysD C L rs, ckD S tab al] = R.of (pSorted (.list (ents rs tab al S))) := by
  have hS := K.s3
  have h8 := K.r9
  have hln := ents_len K
  have fl := flatMap_le (G := entsG rs tab al S) (n := S) (ds := rangeF 0 rs.length) fun d _ => entsG_len d
  have outer := forR_app (γ' := Empty) (β := D) (dec := decTup (decCons decN (decCons (decTup (decCons decN (decCons decN (decCons decN (decCons decN decNil))))) decNil))) (step := lb_marked_rules_4 (.int (S : Int)) (ckD S tab al))
    (fun d => match d with | .tuple [k, _] => entsG rs tab al S k | _ => []) (n := 1000) (by decide) (enumF 0 rs) [] (fun d hd s hs => by
      obtain ⟨k, x, hx, rfl⟩ := enumF_mem hd
      obtain ⟨p, g, q, ws, rfl, _⟩ := (hr x (List.mem_of_getElem? hx)).ex
      refine ⟨_, rfl, ?_⟩
      rw [Nat.zero_add]
      have hk : k < rs.length := (List.getElem?_eq_some_iff.mp hx).1
      simp only [lb_marked_rules_4, R.un, R.ok_bind, rngK (show S ≤ 100000 by omega), R.of_some]
      rw [inner_p K hr hk s (by omega) hx, Fl.then_nx]
      rfl) (by
      rw [enum_flatMap (G' := entsG rs tab al S) rs 0 fun i x hx => rfl]
      simp only [List.length_nil, Nat.zero_add]
      exact Nat.le_trans hln (by decide))
  rw [enum_flatMap (G' := entsG rs tab al S) rs 0 fun i x hx => rfl, List.nil_append] at outer
  simp only [l_marked_rules, R.bin, R.lst, R.un, R.blt, R.sq, R.ok_bind, ix0, ix2, R.of_some, lst0, pEnum, enumD_eq]
  rw [outer, Fl.then_nx]
  show R.fin (α := Empty) (R.of (pSorted (.list (ents rs tab al S))) >>= fun d => .ok (.rt d)) = _
  cases pSorted (.list (ents rs tab al S)) <;> rfl
theorem law_inner_p (K : Ck S L tab al rs.length) (hr : ∀ r ∈ rs, Ru C L r) {k : Nat} (hk : k < rs.length) (acc : List D) (ha : acc.length ≤ 1000) {p g q : Nat} {ws : List Nat} (e : rs[k]? = some (.tuple [.int (p : Int), .int (g : Int), .int (q : Int), .tuple (iw ws)])) :
    (forR decN (lb__law_marked_rules_6 (ckD S tab al) (.int (k : Int)) (.int (p : Int), .int (g : Int), .int (q : Int), .tuple (iw ws), ())) (rangeF 0 S) (acc, ()) : R (Fl (List D × Unit) (List D × Unit) D)) = .ok (.nx (acc ++ (rangeF 0 S).flatMap (entG rs tab al S k), ())) := by
  obtain ⟨p', g', q', ws', e', hp, hg, hq, hw2, hw⟩ := (hr _ (List.mem_of_getElem? e)).ex
  simp only [PyData.tuple.injEq, List.cons.injEq, PyData.int.injEq, Int.natCast_inj, and_true] at e'
  obtain ⟨rfl, rfl, rfl, e4⟩ := e'
  have ew : ws = ws' := by have := congrArg unN e4; rwa [unN_iw, unN_iw] at this
  subst ew
  have hS := K.s3
  have fl := flatMap_le (G := entG rs tab al S k) (n := 1) (ds := rangeF 0 S) fun d _ => entG_len d
  rw [rangeF_length] at fl
  refine forR_app (entG rs tab al S k) (n := 2000) (by decide) (rangeF 0 S) acc (fun d hd s hs => ?_) (by omega)
  obtain ⟨z, _, hz, rfl⟩ := rangeF_mem hd
  refine ⟨_, rfl, ?_⟩
  have hz' : z < S := by omega
  have hb := (let_p K (s := z) hk).2
  simp only [lb__law_marked_rules_6]
  rw [hb]
  simp only [R.ok_bind]
  cases hb : letB al z (.int (k : Int)) with
  | false =>
    simp only [Bool.false_eq_true, if_false, entG, Int.toNat_natCast, hb, List.append_nil]
  | true =>
    have eg : entG rs tab al S k (.int (z : Int)) = [.tuple [.tuple [.int (p : Int), .int ((g * S + z : Nat) : Int), .int (q : Int), .tuple (iw (mks tab S z ws))], .int (k : Int)]] := by
      simp [entG, hb, e, ent, unN_iw]
    rw [eg, List.length_singleton] at hs
    have e5 : ((g : Int) * S + z) = ((g * S + z : Nat) : Int) := by simp
    rw [eg]
    match ws, hw2, hw with
    | [], _, _ =>
      simp only [R.tup, R.bin, R.tcmp, R.blt, R.sq, R.ok_bind, R.of_some, tup0, tup1, tup2, tup4, lenT, List.length_nil, List.length_cons, eqK, Fl.then_nx, if_true, if_false, Bool.false_eq_true, decide_true, decide_false, ix0, ix1, addK, iw, List.map_nil, List.map_cons, e5, mks, mwl, List.reverse_cons, List.reverse_nil, List.nil_append, List.cons_append, mul_small K hg, show ¬ (((0 : Nat) : Int) = 1) by omega, show ¬ (((0 : Nat) : Int) = 2) by omega]
      rw [if_pos (LINE_lt (by omega))]
    | [w0], _, hw =>
      have h0 := hw w0 (by simp)
      have e6 : ((w0 : Int) * S + z) = ((w0 * S + z : Nat) : Int) := by simp
      simp only [R.tup, R.bin, R.tcmp, R.blt, R.sq, R.ok_bind, R.of_some, tup0, tup1, tup2, tup4, lenT, List.length_nil, List.length_cons, eqK, Fl.then_nx, if_true, if_false, Bool.false_eq_true, decide_true, decide_false, ix0, ix1, addK, iw, List.map_nil, List.map_cons, e5, mks, mwl, List.reverse_cons, List.reverse_nil, List.nil_append, List.cons_append, mul_small K hg, mul_small K h0, e6, show (((0 + 1 : Nat) : Int) = 1) by omega, show ¬ (((0 + 1 : Nat) : Int) = 2) by omega, show ¬ ((1 : Int) = 2) by omega]
      rw [if_pos (LINE_lt (by omega))]
    | [w0, w1], _, hw =>
      have h0 := hw w0 (by simp)
      have h1 := hw w1 (by simp)
      obtain ⟨n1, row, n2, n3⟩ := nxt_ok K hz' h1
      have e6 : ((w0 : Int) * S + nxt tab z w1) = ((w0 * S + nxt tab z w1 : Nat) : Int) := by simp
      have e7 : ((w1 : Int) * S + z) = ((w1 * S + z : Nat) : Int) := by simp
      simp only [R.tup, R.bin, R.tcmp, R.blt, R.sq, R.ok_bind, R.of_some, tup0, tup1, tup2, tup4, lenT, List.length_nil, List.length_cons, eqK, Fl.then_nx, if_true, if_false, Bool.false_eq_true, decide_true, decide_false, ix0, ix1, addK, iw, List.map_nil, List.map_cons, e5, mks, mwl, List.reverse_cons, List.reverse_nil, List.nil_append, List.cons_append, mul_small K hg, mul_small K h0, mul_small K h1, e6, e7, n2, n3, show (((0 + 1 + 1 : Nat) : Int) = 2) by omega, show ¬ (((0 + 1 + 1 : Nat) : Int) = 1) by omega, show ¬ ((2 : Int) = 1) by omega]
      rw [if_pos (LINE_lt (by omega))]
    | _ :: _ :: _ :: _, hw2, _ => simp at hw2
theorem law_rules_p (K : Ck S L tab al rs.length) (hr : ∀ r ∈ rs, Ru C L r) : l__law_marked_rules [sysD C L rs, ckD S tab al] = R.of (pSorted (.list (ents rs tab al S))) := by
  have hS := K.s3
  have h8 := K.r9
  have hln := ents_len K
  have outer := forR_app (γ' := Empty) (β := D) (dec := decN) (step := lb__law_marked_rules_3 (sysD C L rs) (ckD S tab al)) (entsG rs tab al S) (n := 1000) (by decide) (rangeF 0 rs.length) [] (fun d hd s hs => by
      obtain ⟨k, _, hk, rfl⟩ := rangeF_mem hd
      have hk : k < rs.length := by omega
      have hx : rs[k]? = some rs[k] := by simp [hk]
      obtain ⟨p, g, q, ws, er, _⟩ := (hr _ (List.mem_of_getElem? hx)).ex
      rw [er] at hx
      refine ⟨_, rfl, ?_⟩
      have k6 : decTup (decCons decN (decCons decN (decCons decN (decCons decN decNil)))) (.tuple [.int (p : Int), .int (g : Int), .int (q : Int), .tuple (iw ws)]) = some (.int (p : Int), .int (g : Int), .int (q : Int), .tuple (iw ws), ()) := rfl
      simp only [lb__law_marked_rules_3, R.bin, R.un, R.ok_bind, ix0, ix2, ixT hx, R.of_some, k6, rngK (show S ≤ 100000 by omega)]
      rw [law_inner_p K hr hk s (by omega) hx, Fl.then_nx]
      simp [entsG]) (by
      simp only [List.length_nil, Nat.zero_add]
      exact Nat.le_trans hln (by decide))
  rw [List.nil_append] at outer
  simp only [l__law_marked_rules, R.bin, R.lst, R.un, R.blt, R.sq, R.ok_bind, ix2, lenT, R.of_some, lst0, rngK (show rs.length ≤ 100000 by omega)]
  rw [show isLstD (.list []) = some [] from rfl, R.of_some, R.ok_bind, outer, Fl.then_nx]
  show R.fin (α := Empty) (R.of (pSorted (.list (ents rs tab al S))) >>= fun d => .ok (.rt d)) = _
  cases pSorted (.list (ents rs tab al S)) <;> rfl
/-- what an entry is -/
structure En (C M n : Nat) (d : D) : Prop where
  ex : ∃ (p g q k : Nat) (ws : List Nat), d = .tuple [.tuple [.int (p : Int), .int (g : Int), .int (q : Int), .tuple (iw ws)], .int (k : Int)] ∧ k < n ∧ ws.length ≤ 2
theorem ents_en (K : Ck S L tab al rs.length) (hr : ∀ r ∈ rs, Ru C L r) : ∀ d ∈ ents rs tab al S, En C (L * S) rs.length d := by
  intro d hd
  unfold ents at hd
  rw [List.mem_flatMap] at hd
  obtain ⟨x, hx, hd⟩ := hd
  obtain ⟨k, _, hk, rfl⟩ := rangeF_mem hx
  simp only [entsG, Int.toNat_natCast, List.mem_flatMap] at hd
  obtain ⟨y, hy, hd⟩ := hd
  obtain ⟨z, _, hz, rfl⟩ := rangeF_mem hy
  have hk : k < rs.length := by omega
  have hx : rs[k]? = some rs[k] := by simp [hk]
  obtain ⟨p, g, q, ws, er, _, _, _, hw, _⟩ := (hr _ (List.mem_of_getElem? hx)).ex
  rw [er] at hx
  simp only [entG, Int.toNat_natCast, hx, Option.getD_some, ent, unN_iw] at hd
  split at hd
  · simp only [List.mem_singleton] at hd
    subst hd
    exact ⟨p, g * S + z, q, k, mks tab S z ws, rfl, hk, by rw [mks_length]; exact hw⟩
  · simp at hd
theorem alike_ints : ∀ ws vs : List Nat, PySem.W.alikeAll (iw ws) (iw vs) = true
  | [], [] => rfl
  | [], _ :: _ => rfl
  | _ :: _, [] => rfl
  | w :: ws, v :: vs => by
    have := alike_ints ws vs
    simp only [iw] at this
    simp [iw, PySem.W.alikeAll, PySem.W.alike, this]
theorem ents_sorted (K : Ck S L tab al rs.length) (hr : ∀ r ∈ rs, Ru C L r) : ∃ es : List D, pSorted (.list (ents rs tab al S)) = some (.list es) ∧ es.length ≤ 24 ∧ ∀ d ∈ es, En C (L * S) rs.length d := by
  have he := ents_en K hr
  refine ⟨sortD (ents rs tab al S), sorted_pure rfl (fun x hx => ?_) (fun x hx y hy => ?_) (fun x hx => ?_), ?_, fun d hd => ?_⟩
  · obtain ⟨p, g, q, k, ws, rfl, _⟩ := (he x hx).ex
    exact ⟨by simp [pureD, pureAll, iw_pure], by simp [PyData.depth, PyData.depthAll, iw_depth]⟩
  · obtain ⟨p, g, q, k, ws, rfl, _⟩ := (he x hx).ex
    obtain ⟨p', g', q', k', ws', rfl, _⟩ := (he y hy).ex
    simp [PySem.W.alike, PySem.W.alikeAll, alike_ints]
  · obtain ⟨p, g, q, k, ws, rfl, _⟩ := (he x hx).ex
    exact ⟨_, _, rfl⟩
  · unfold sortD
    rw [(List.mergeSort_perm _ _).length_eq]
    exact ents_len K
  · unfold sortD at hd
    exact he d ((List.mergeSort_perm _ _).mem_iff.mp hd)
end
end K
end Pu

set_option maxHeartbeats 1000000
namespace Pu
open PySem PySem.Spec L2
mutual
/-- no row longer than n anywhere in it, no deeper than m, texts that can be told -/
def okB (n : Nat) : Nat → D → Bool
  | 0, _ => false
  | m + 1, .tuple xs => decide (xs.length ≤ n) && okAll n m xs
  | m + 1, .list xs => decide (xs.length ≤ n) && okAll n m xs
  | _ + 1, .str x => decide (x.length ≤ n) && PyData.canLay0 (.str x)
  | _ + 1, .dict _ => false
  | _ + 1, _ => true
def okAll (n : Nat) : Nat → List D → Bool
  | _, [] => true
  | m, x :: xs => okB n m x && okAll n m xs
end
theorem okAll_mem {n m : Nat} : ∀ {xs : List D}, okAll n m xs = true ↔ ∀ x ∈ xs, okB n m x = true
  | [] => by simp [okAll]
  | x :: xs => by simp [okAll, okAll_mem (xs := xs)]
theorem okB_tup {n m : Nat} {xs : List D} : okB n (m + 1) (.tuple xs) = true ↔ xs.length ≤ n ∧ ∀ x ∈ xs, okB n m x = true := by simp [okB, okAll_mem]
theorem okB_lst {n m : Nat} {xs : List D} : okB n (m + 1) (.list xs) = true ↔ xs.length ≤ n ∧ ∀ x ∈ xs, okB n m x = true := by simp [okB, okAll_mem]
mutual
theorem szB_lay {n : Nat} : ∀ {m : Nat} {d : D}, okB n m d = true → d.canLay0 = true ∧ d.depth ≤ m
  | 0, _, h => by simp [okB] at h
  | m + 1, .tuple xs, h => by
    simp only [okB, Bool.and_eq_true] at h
    have := szAll_lay h.2
    exact ⟨by simpa [PyData.canLay0] using this.1, by simp only [PyData.depth]; omega⟩
  | m + 1, .list xs, h => by
    simp only [okB, Bool.and_eq_true] at h
    have := szAll_lay h.2
    exact ⟨by simpa [PyData.canLay0] using this.1, by simp only [PyData.depth]; omega⟩
  | m + 1, .str x, h => by
    simp only [okB, Bool.and_eq_true] at h
    exact ⟨h.2, by simp [PyData.depth]⟩
  | m + 1, .dict _, h => by simp [okB] at h
  | m + 1, .none, _ => ⟨rfl, by simp [PyData.depth]⟩
  | m + 1, .bool _, _ => ⟨rfl, by simp [PyData.depth]⟩
  | m + 1, .int _, _ => ⟨rfl, by simp [PyData.depth]⟩
theorem szAll_lay {n : Nat} : ∀ {m : Nat} {ds : List D}, okAll n m ds = true → PyData.canLayAll0 ds = true ∧ PyData.depthAll ds ≤ m
  | m, [], _ => ⟨rfl, by simp [PyData.depthAll]⟩
  | m, x :: xs, h => by
    simp only [okAll, Bool.and_eq_true] at h
    have h1 := szB_lay h.1
    have h2 := szAll_lay h.2
    exact ⟨by simp [PyData.canLayAll0, h1.1, h2.1], by simp only [PyData.depthAll]; omega⟩
end
theorem szB_shp {n m : Nat} {d : D} (h : okB n m d = true) (hm : m ≤ 60) : shp d = true := by
  obtain ⟨h1, h2⟩ := szB_lay h
  unfold shp SeqAt.shaped
  rw [h1]
  simp
  omega
mutual
theorem szB_up {n : Nat} : ∀ {m : Nat} {d : D}, okB n m d = true → okB n (m + 1) d = true
  | 0, _, h => by simp [okB] at h
  | m + 1, .tuple xs, h => by
    simp only [okB, Bool.and_eq_true] at h ⊢
    exact ⟨h.1, szAll_up h.2⟩
  | m + 1, .list xs, h => by
    simp only [okB, Bool.and_eq_true] at h ⊢
    exact ⟨h.1, szAll_up h.2⟩
  | m + 1, .str x, h => h
  | m + 1, .dict _, h => by simp [okB] at h
  | m + 1, .none, _ => rfl
  | m + 1, .bool _, _ => rfl
  | m + 1, .int _, _ => rfl
theorem szAll_up {n : Nat} : ∀ {m : Nat} {ds : List D}, okAll n m ds = true → okAll n (m + 1) ds = true
  | m, [], _ => rfl
  | m, x :: xs, h => by
    simp only [okAll, Bool.and_eq_true] at h ⊢
    exact ⟨szB_up h.1, szAll_up h.2⟩
end
theorem szB_to {n m : Nat} {d : D} (k : Nat) (h : okB n m d = true) : okB n (m + k) d = true := by
  induction k with
  | zero => exact h
  | succ k ih => exact szB_up ih
theorem shp_lst {xs : List D} {n m : Nat} (h : ∀ x ∈ xs, okB n m x = true) (hm : m < 60) : shp (.list xs) = true := by
  obtain ⟨h1, h2⟩ := szAll_lay (okAll_mem.mpr h)
  unfold shp SeqAt.shaped
  simp [PyData.canLay0, h1, PyData.depth]
  omega
theorem eqLN {xs : List D} {n m : Nat} (h : ∀ x ∈ xs, okB n m x = true) (hm : m < 60) : pEq (.list xs) (.list []) = some xs.isEmpty ∧ pNe (.list xs) (.list []) = some (!xs.isEmpty) := by
  unfold pEq pNe
  rw [shp_lst h hm, shp_lst (xs := []) (n := n) (m := 0) (by simp) (by decide)]
  cases xs <;> simp [PyData.eqv, PyData.eqvAll]
theorem filter_empty {p : D → Bool} : ∀ {xs : List D}, (xs.filter p).isEmpty = xs.all fun x => !p x
  | [] => rfl
  | x :: xs => by
    rw [List.filter_cons, List.all_cons]
    cases p x <;> simp [filter_empty (xs := xs)]
/-- ascending -/
def ascB : List Int → Bool
  | [] => true
  | [_] => true
  | x :: y :: xs => decide (x < y) && ascB (y :: xs)
theorem ascB_iff : ∀ {xs : List Int}, ascB xs = true ↔ xs.Pairwise (· < ·)
  | [] => by simp [ascB]
  | [x] => by simp [ascB]
  | x :: y :: xs => by
    simp only [ascB, Bool.and_eq_true, decide_eq_true_eq, ascB_iff (xs := y :: xs)]
    constructor
    · rintro ⟨h1, h2⟩
      refine List.pairwise_cons.mpr ⟨fun z hz => ?_, h2⟩
      rcases List.mem_cons.mp hz with rfl | hz
      · exact h1
      · exact Int.lt_trans h1 ((List.pairwise_cons.mp h2).1 z hz)
    · intro h
      exact ⟨(List.pairwise_cons.mp h).1 y (List.mem_cons_self ..), (List.pairwise_cons.mp h).2⟩
theorem sortU_id {xs : List Int} (h : xs.Pairwise (· < ·)) : sortU xs = xs := asc_ext sortU_asc h fun _ => sortU_mem
theorem asc_sort {xs : List Int} : ascB xs = decide (xs = sortU xs) := by
  by_cases h : xs.Pairwise (· < ·)
  · rw [ascB_iff.mpr h, sortU_id h]
    simp
  · have h1 : ascB xs = false := by
      cases e : ascB xs with
      | false => rfl
      | true => exact absurd (ascB_iff.mp e) h
    have h2 : ¬ xs = sortU xs := fun z => h (z ▸ sortU_asc)
    rw [h1]
    simp [h2]
abbrev il (ns : List Int) : List D := ns.map PyData.int
theorem il_inj {xs ys : List Int} (h : il xs = il ys) : xs = ys := by
  have : (il xs).map (fun d => match d with | .int i => i | _ => 0) = (il ys).map (fun d => match d with | .int i => i | _ => 0) := by rw [h]
  simpa [il, List.map_map, Function.comp_def] using this
theorem il_intsD : ∀ ns : List Int, intsD (il ns) = some ns
  | [] => rfl
  | n :: ns => by
    have := il_intsD ns
    simp only [il] at this
    simp [il, intsD, this]
theorem il_eqv : ∀ xs ys : List Int, PyData.eqvAll (il xs) (il ys) = decide (xs = ys)
  | [], [] => rfl
  | [], _ :: _ => rfl
  | _ :: _, [] => rfl
  | x :: xs, y :: ys => by
    have := il_eqv xs ys
    simp only [il] at this
    simp only [il, List.map_cons, PyData.eqvAll, this, PyData.eqv]
    by_cases h : x = y <;> by_cases h' : xs = ys <;> simp [h, h']
theorem il_lay : ∀ xs : List Int, PyData.canLayAll0 (il xs) = true ∧ PyData.depthAll (il xs) = 0
  | [] => ⟨rfl, rfl⟩
  | x :: xs => by
    have := il_lay xs
    simp only [il] at this
    simp [il, PyData.canLayAll0, PyData.canLay0, PyData.depthAll, PyData.depth, this]
theorem neL {xs ys : List Int} : pNe (.list (il xs)) (.list (il ys)) = some (!decide (xs = ys)) := by
  have s : ∀ xs : List Int, shp (.list (il xs)) = true := fun xs => by
    unfold shp SeqAt.shaped
    simp [PyData.canLay0, PyData.depth, il_lay xs]
  unfold pNe
  rw [s xs, s ys]
  simp [PyData.eqv, il_eqv]
namespace K
theorem idx_il {n : Int} : ∀ {ds : List D}, ds.all (isIdx n) = true → ∃ ns : List Int, ds = il ns
  | [], _ => ⟨[], rfl⟩
  | d :: ds, h => by
    simp only [List.all_cons, Bool.and_eq_true] at h
    obtain ⟨i, rfl, _⟩ := isIdx_int h.1
    obtain ⟨ns, rfl⟩ := idx_il h.2
    exact ⟨i :: ns, rfl⟩
def unI (ds : List D) : List Int := ds.map fun d => match d with | .int i => i | _ => 0
theorem unI_il (ns : List Int) : unI (il ns) = ns := by simp [unI, il, List.map_map, Function.comp_def]
/-- a row of numbers below s, ascending -/
def isRow (s : Int) : D → Bool
  | .tuple ds => ds.all (isIdx s) && ascB (unI ds)
  | _ => false
theorem zip_asc : ∀ ns : List Int, (zipD (il ns) ((il ns).drop 1)).all (fun d => match d with | .tuple [.int a, .int b] => decide (a < b) | _ => false) = ascB ns
  | [] => rfl
  | [_] => rfl
  | x :: y :: xs => by
    have := zip_asc (y :: xs)
    simp only [il, List.map_cons, List.drop_succ_cons, List.drop_zero, zipD, List.zipWith_cons_cons, List.all_cons, ascB] at this ⊢
    rw [this]
theorem zip_memI {d : D} {ns : List Int} (h : d ∈ zipD (il ns) ((il ns).drop 1)) : ∃ a b : Int, d = .tuple [.int a, .int b] := by
  obtain ⟨i, hi, e⟩ := List.getElem_of_mem h
  have := List.getElem?_eq_getElem hi
  rw [e] at this
  obtain ⟨x, y, h1, h2, rfl⟩ := zipD_get this
  obtain ⟨a, _, rfl⟩ := List.mem_map.mp (List.mem_of_getElem? h1)
  obtain ⟨b, _, rfl⟩ := List.mem_map.mp (List.mem_of_mem_drop (List.mem_of_getElem? h2))
  exact ⟨a, b, rfl⟩
theorem ascending_p {ns : List Int} (hl : ns.length ≤ 1000) : l_is_ascending [.tuple (il ns)] = .ok (.bool (ascB ns)) := by
  have zl : (zipD (il ns) ((il ns).drop 1)).length ≤ 1000 := by
    unfold zipD
    rw [List.length_zipWith, List.length_map]
    omega
  have e := lcD_map (dec := decTup (decCons decN (decCons decN decNil))) (me := fun t1 => (R.cmp pLt (.ok t1.1) (.ok t1.2.1))) (g := fun d => .bool ((fun d => match d with | .tuple [.int a, .int b] => decide (a < b) | _ => false) d)) (zipD (il ns) ((il ns).drop 1)) (LINE_big (by omega)) fun d hd => by
    obtain ⟨a, b, rfl⟩ := zip_memI hd
    exact ⟨(_, _, ()), rfl, by simp only [R.cmp, R.ok_bind, ltK, R.of_some]⟩
  simp only [l_is_ascending, R.blt, R.lc, R.bin, R.slL, R.sq, R.ok_bind, oI, R.of_some, slD1T, pZip]
  simp only [R.cmp, R.ok_bind] at e ⊢
  rw [e]
  simp only [R.ok_bind, f1]
  rw [pAll_map, zip_asc]
  simp only [R.of_some, R.ok_bind, R.fin_rt]
theorem row_p {s : Int} (d : D) (h : szW d) : l_is_index_row [.int s, d] = .ok (.bool (isRow s d)) := by
  simp only [l_is_index_row, R.and, R.cal, R.sq, R.ok_bind, word_p s d h, truB, R.of_some]
  cases d with
  | tuple ds =>
    cases hb : ds.all (isIdx s) with
    | false => simp [isWord, isRow, hb]
    | true =>
      obtain ⟨ns, rfl⟩ := idx_il hb
      have hl : ns.length ≤ 1000 := by simpa [szW] using h
      simp [isWord, isRow, hb, ascending_p hl, unI_il]
  | _ => simp [isWord, isRow]
theorem whole_p (d : D) : l__law_whole [d] = .ok (.bool (match d with | .int _ => true | _ => false)) := by
  cases d <;> simp [l__law_whole, isI]
def lenD : D → Int
  | .tuple ds => ds.length
  | _ => 0
def rowOk (s l : Int) (r : D) : Bool := isWord s r && decide (lenD r = l)
def alOk (s : Int) (x : D) : Bool := isN x || isRow s x
/-- whether a value is checks of a system of so many letters and rules -/
def isCk (l n : Int) : D → Bool
  | .tuple [.int s, .tuple tab, .tuple al] => decide (1 ≤ s) && decide ((tab.length : Int) = s) && decide ((al.length : Int) = n) && tab.all (rowOk s l) && al.all (alOk s)
  | _ => false
theorem numbers_p {s : Int} {m : Nat} (d : D) (h : okB 1000 m d = true) (hm : m ≤ 50) : l__law_is_numbers [.int s, d] = .ok (.bool (isWord s d)) := by
  cases d with
  | tuple ds =>
    cases m with
    | zero => simp [okB] at h
    | succ m =>
      have hz := (okB_tup.mp h)
      have e := lcD_ok (dec := decN) (mt := fun t1 => (R.tor (R.tnt (R.tru (R.cal (l__law_whole) [.ok t1]))) (R.tor (R.tcmp pLt (.ok t1) (.ok (.int 0))) (R.tcmp pGe (.ok t1) (.ok (.int s)))))) (me := fun t1 => .ok t1) (p := fun d => !isIdx s d) (g := fun d => d) ds (LINE_big (by omega)) fun d hd => by
        refine ⟨d, rfl, ?_, fun _ => rfl⟩
        simp only [R.tor, R.tnt, R.tru, R.cal, R.sq, R.ok_bind, whole_p]
        cases d with
        | int i =>
          by_cases h0 : i < 0
          · have : ¬ 0 ≤ i := by omega
            simp [isIdx, h0, this]
          · by_cases h1 : s ≤ i
            · have : ¬ i < s := by omega
              simp [isIdx, h0, h1, this]
            · have h2 : i < s := by omega
              have h3 : 0 ≤ i := by omega
              simp [isIdx, h0, h1, h2, h3]
        | _ => simp [isIdx]
      have hs : ∀ x ∈ ds.filter (fun d => !isIdx s d), okB 1000 m x = true := fun x hx => hz.2 x (List.mem_filter.mp hx).1
      have en := (eqLN hs (by omega)).1
      simp only [List.map_id'] at e
      simp only [l__law_is_numbers, R.and, R.isi, R.cmp, R.lc, R.un, R.lst, R.sq, R.ok_bind, show isI "tuple" (.tuple ds) = true from rfl, truB, R.of_some, if_true, pSeqT, lst0]
      simp only [R.tor, R.tnt, R.tru, R.cal, R.tcmp, R.sq, R.ok_bind] at e ⊢
      rw [e]
      simp only [R.ok_bind, en, R.of_some, R.fin_rt, filter_empty, Bool.not_not, isWord]
  | _ => simp [l__law_is_numbers, isI, isWord]
theorem are_p {c l : Int} {rs : List D} {m : Nat} (d : D) (h : okB 63 m d = true) (hm : m ≤ 50) : l_are_checks_in [.tuple [.int c, .int l, .tuple rs], d] = .ok (.bool (isCk l rs.length d)) := by
  cases d with
  | tuple xs =>
    match xs, h with
    | [], _ => simp [l_are_checks_in, isI, isCk]
    | [_], _ => simp [l_are_checks_in, isI, isCk]
    | [_, _], _ => simp [l_are_checks_in, isI, isCk]
    | _ :: _ :: _ :: _ :: r, _ =>
      have ne : ¬ ((r.length : Int) + 1 + 1 + 1 + 1 = 3) := by omega
      simp [l_are_checks_in, isI, isCk, ne]
    | [a, b, t], h =>
      cases m with
      | zero => simp [okB] at h
      | succ m =>
      obtain ⟨_, hz⟩ := okB_tup.mp h
      have hb := hz b (by simp)
      have ht := hz t (by simp)
      simp [l_are_checks_in, isI, from_p]
      cases a with
      | int s =>
        by_cases h1 : 1 ≤ s
        · simp [h1, decTup, decCons, decN, decNil]
          cases b with
          | tuple tab =>
            cases m with
            | zero => simp [okB] at hb
            | succ m =>
            obtain ⟨hb1, hb2⟩ := okB_tup.mp hb
            by_cases h2 : (tab.length : Int) = s
            · simp [h2]
              cases t with
              | tuple al =>
                obtain ⟨ht1, ht2⟩ := okB_tup.mp ht
                have szw : ∀ x : D, okB 63 m x = true → szW x := fun x hx => by
                  cases x with
                  | tuple ds =>
                    cases m with
                    | zero => simp [okB] at hx
                    | succ m => exact Nat.le_trans (okB_tup.mp hx).1 (by decide)
                  | _ => trivial
                have e1 := lcD_map (dec := decN) (me := fun t2 => (R.and (R.cal (l_is_word) [.ok (.int s), .ok t2]) (R.cmp pEq (R.blt (f1 pLen) [.ok t2]) (R.bin pIx (.ok (.tuple [.int c, .int l, .tuple rs])) (.ok (.int 1)))))) (g := fun d => .bool (rowOk s l d)) tab (LINE_big (by omega)) fun d hd => by
                  refine ⟨d, rfl, ?_⟩
                  simp only [R.and, R.cal, R.sq, R.ok_bind, word_p s d (szw d (hb2 d hd)), truB, R.of_some]
                  cases d with
                  | tuple ds => cases hw : isWord s (.tuple ds) <;> simp [rowOk, hw, lenD] <;> congr
                  | _ => simp [isWord, rowOk]
                have e2 := lcD_map (dec := decN) (me := fun t3 => (R.or (R.cmp pIsN (.ok t3) (.ok .none)) (R.cal (l_is_index_row) [.ok (.int s), .ok t3]))) (g := fun d => .bool (alOk s d)) al (LINE_big (by omega)) fun d hd => by
                  refine ⟨d, rfl, ?_⟩
                  simp only [R.or, R.cmp, R.cal, R.sq, R.ok_bind, pIsN, row_p d (szw d (ht2 d hd)), truB, R.of_some]
                  cases hn : isN d <;> simp [alOk, hn]
                simp only [R.and, R.or, R.cmp, R.cal, R.blt, R.bin, R.sq, R.ok_bind] at e1 e2
                simp at e1 e2
                simp only [e1, R.ok_bind]
                have a1 : f1 pAll [.list (tab.map fun d => .bool (rowOk s l d))] = _ := pAll_map (rowOk s l) tab
                rw [a1]
                have a2 : f1 pAll [.list (al.map fun x => .bool (alOk s x))] = _ := pAll_map (alOk s) al
                have ek : isCk l rs.length (.tuple [.int s, .tuple tab, .tuple al]) = (decide (1 ≤ s) && decide ((tab.length : Int) = s) && decide ((al.length : Int) = rs.length) && tab.all (rowOk s l) && al.all (alOk s)) := rfl
                rw [ek]
                generalize tab.all (rowOk s l) = A at *
                generalize al.all (alOk s) = Z at *
                cases A with
                | false => simp [h1, h2]
                | true =>
                  by_cases h3 : (al.length : Int) = rs.length
                  · simp [e2, h3, a2, h1, h2]
                  · simp [h3, h1, h2]
              | _ => simp [isCk]
            · simp [h2]
              cases t <;> simp [isCk, h2]
          | _ => simp [isCk]
        · simp [h1, isCk]
          cases b <;> cases t <;> simp [isCk, h1]
      | _ => simp [isCk]
  | _ => simp [l_are_checks_in, isI, isCk]
end K
end Pu

set_option maxHeartbeats 1000000
namespace Pu
open PySem PySem.Spec L2
theorem not_empty {p : D → Bool} {xs : List D} : (!(xs.filter fun x => !p x).isEmpty) = !xs.all p := by
  rw [filter_empty]
  simp
mutual
theorem okB_wide : ∀ {m : Nat} {d : D}, okB 63 m d = true → okB 1000 m d = true
  | 0, _, h => by simp [okB] at h
  | m + 1, .tuple xs, h => by
    simp only [okB, Bool.and_eq_true, decide_eq_true_eq] at h ⊢
    exact ⟨by omega, okAll_wide h.2⟩
  | m + 1, .list xs, h => by
    simp only [okB, Bool.and_eq_true, decide_eq_true_eq] at h ⊢
    exact ⟨by omega, okAll_wide h.2⟩
  | m + 1, .str x, h => by
    simp only [okB, Bool.and_eq_true, decide_eq_true_eq] at h ⊢
    exact ⟨by omega, h.2⟩
  | m + 1, .dict _, h => by simp [okB] at h
  | m + 1, .none, _ => by simp [okB]
  | m + 1, .bool _, _ => by simp [okB]
  | m + 1, .int _, _ => by simp [okB]
theorem okAll_wide : ∀ {m : Nat} {ds : List D}, okAll 63 m ds = true → okAll 1000 m ds = true
  | m, [], _ => by simp [okAll]
  | m, x :: xs, h => by
    simp only [okAll, Bool.and_eq_true] at h ⊢
    exact ⟨okB_wide h.1, okAll_wide h.2⟩
end
namespace K
theorem lrow_p {s : Int} {m : Nat} (d : D) (h : okB 63 m d = true) (hm : m ≤ 50) :
    R.tand (R.tcmp pNotN (.ok d) (.ok .none)) (R.tor (R.tnt (R.tru (R.cal (l__law_is_numbers) [.ok (.int s), .ok d]))) (R.tcmp pNe (R.blt (f1 pList) [.ok d]) (R.un pSetI (.ok d)))) = .ok (!alOk s d) := by
  have up : okB 1000 m d = true := okB_wide h
  simp only [R.tand, R.tcmp, R.ok_bind, pNotN, R.of_some, alOk]
  cases hn : isN d with
  | true => simp
  | false =>
    simp only [R.tor, R.tnt, R.tru, R.cal, R.sq, R.ok_bind, numbers_p d up hm, truB, R.of_some]
    cases d with
    | tuple ds =>
      cases hw : ds.all (isIdx s) with
      | false => simp [isWord, isRow, hw]
      | true =>
        obtain ⟨ns, rfl⟩ := idx_il hw
        have hl : ns.length ≤ 63 := by
          cases m with
          | zero => simp [okB] at h
          | succ m => simpa using (okB_tup.mp h).1
        have e : pSetI (.tuple (il ns)) = some (.list (il (sortU ns))) := by
          unfold pSetI
          simp only [il_intsD]
          rw [if_pos (by omega)]
        simp only [isWord, hw, Bool.not_true, Bool.false_eq_true, if_false, R.blt, R.un, R.sq, R.ok_bind, pListT, e, R.of_some, neL, isRow, unI_il, asc_sort, Bool.true_and, Bool.false_or, Bool.not_false, if_true]
    | _ => simp [isWord, isRow]
theorem law_are_p {c l : Int} {rs : List D} {m : Nat} (d : D) (h : okB 63 m d = true) (hm : m ≤ 50) : l__law_are_checks [.tuple [.int c, .int l, .tuple rs], d] = .ok (.bool (isCk l rs.length d)) := by
  cases d with
  | tuple xs =>
    match xs, h with
    | [], _ => simp [l__law_are_checks, isI, isCk]
    | [_], _ => simp [l__law_are_checks, isI, isCk]
    | [_, _], _ => simp [l__law_are_checks, isI, isCk]
    | _ :: _ :: _ :: _ :: r, _ =>
      have ne : ¬ ((r.length : Int) + 1 + 1 + 1 + 1 = 3) := by omega
      simp [l__law_are_checks, isI, isCk, ne]
    | [a, b, t], h =>
      cases m with
      | zero => simp [okB] at h
      | succ m =>
      obtain ⟨_, hz⟩ := okB_tup.mp h
      have hb := hz b (by simp)
      have ht := hz t (by simp)
      simp [l__law_are_checks, isI, whole_p]
      cases a with
      | int s =>
        by_cases h1 : 1 ≤ s
        · have h1' : ¬ s < 1 := by omega
          simp [h1', decTup, decCons, decN, decNil]
          cases b with
          | tuple tab =>
            cases m with
            | zero => simp [okB] at hb
            | succ m =>
            obtain ⟨hb1, hb2⟩ := okB_tup.mp hb
            by_cases h2 : (tab.length : Int) = s
            · simp [h2]
              cases t with
              | tuple al =>
                obtain ⟨ht1, ht2⟩ := okB_tup.mp ht
                by_cases h3 : (al.length : Int) = rs.length
                · simp [h3]
                  have e1 := lcD_ok (dec := decN) (mt := fun t2 => (R.tor (R.tnt (R.tru (R.cal (l__law_is_numbers) [.ok (.int s), .ok t2]))) (R.tcmp pNe (R.blt (f1 pLen) [.ok t2]) (R.bin pIx (.ok (.tuple [.int c, .int l, .tuple rs])) (.ok (.int 1)))))) (me := fun t2 => .ok t2) (p := fun d => !rowOk s l d) (g := fun d => d) tab (LINE_big (by omega)) fun d hd => by
                    refine ⟨d, rfl, ?_, fun _ => rfl⟩
                    simp only [R.tor, R.tnt, R.tru, R.cal, R.sq, R.ok_bind, numbers_p d (okB_wide (hb2 d hd)) (show m ≤ 50 by omega), truB, R.of_some]
                    cases d with
                    | tuple ds => cases hw : isWord s (.tuple ds) <;> simp [rowOk, hw, lenD] <;> congr
                    | _ => simp [isWord, rowOk]
                  have e2 := lcD_ok (dec := decN) (mt := fun t3 => (R.tand (R.tcmp pNotN (.ok t3) (.ok .none)) (R.tor (R.tnt (R.tru (R.cal (l__law_is_numbers) [.ok (.int s), .ok t3]))) (R.tcmp pNe (R.blt (f1 pList) [.ok t3]) (R.un pSetI (.ok t3)))))) (me := fun t2 => .ok t2) (p := fun d => !alOk s d) (g := fun d => d) al (LINE_big (by omega)) fun d hd => by
                    exact ⟨d, rfl, lrow_p d (ht2 d hd) (by omega), fun _ => rfl⟩
                  have n1 := (eqLN (xs := tab.filter fun d => !rowOk s l d) (fun x hx => hb2 x (List.mem_filter.mp hx).1) (by omega)).2
                  have n2 := (eqLN (xs := al.filter fun d => !alOk s d) (fun x hx => ht2 x (List.mem_filter.mp hx).1) (by omega)).1
                  rw [not_empty] at n1
                  rw [filter_empty] at n2
                  simp only [Bool.not_not] at n2
                  have ek : isCk l rs.length (.tuple [.int s, .tuple tab, .tuple al]) = (decide (1 ≤ s) && decide ((tab.length : Int) = s) && decide ((al.length : Int) = rs.length) && tab.all (rowOk s l) && al.all (alOk s)) := rfl
                  rw [ek]
                  simp only [List.map_id'] at e1 e2
                  generalize tab.filter (fun d => !rowOk s l d) = F1 at *
                  generalize al.filter (fun d => !alOk s d) = F2 at *
                  generalize tab.all (rowOk s l) = A at *
                  have n2' : pEq (.list F2) (.list []) = some (al.all (alOk s)) := n2
                  generalize al.all (alOk s) = Z at *
                  simp at e1 e2
                  simp only [e1, R.ok_bind, n1, R.of_some]
                  cases A with
                  | false => simp [h1, h2, h3]
                  | true =>
                    simp only [Bool.not_true, Bool.false_eq_true, if_false, pSeqT, R.of_some, R.ok_bind, e2, n2', h1, h2, h3, decide_true, Bool.true_and]
                · simp [h3, isCk]
              | _ => simp [isCk]
            · simp [h2]
              cases t <;> simp [isCk, h2]
          | _ => simp [isCk]
        · have h1' : s < 1 := by omega
          simp [h1', isCk]
          cases b <;> cases t <;> simp [isCk, h1]
      | _ => simp [isCk]
  | _ => simp [l__law_are_checks, isI, isCk]
end K
end Pu

set_option maxHeartbeats 1000000
namespace Pu
open PySem PySem.Spec L2
theorem fin_ok {m : R D} : R.fin (α := Empty) (m >>= fun d => .ok (.rt d)) = m := by
  rw [fin_bind]
  simp
namespace K
/-- a frame that is drawn -/
structure Fr (C L : Nat) (rs : List D) : Prop where
  c1 : 1 ≤ C
  c3 : C ≤ 3
  l1 : 1 ≤ L
  l3 : L ≤ 3
  r0 : rs ≠ []
  r8 : rs.length ≤ 8
  ru : ∀ r ∈ rs, Ru C L r
  fa : fault (sysD C L rs) = .none
  sz : szS (sysD C L rs)
def fst1 : D → D
  | .tuple [r, _] => r
  | _ => .none
def snd1 : D → D
  | .tuple [_, k] => k
  | _ => .none
section
variable {C L S : Nat} {rs tab al : List D}
theorem okB_iw {n m : Nat} {ws : List Nat} (h : ws.length ≤ n) (hm : 2 ≤ m) : okB n m (.tuple (iw ws)) = true := by
  obtain ⟨m, rfl⟩ : ∃ k, m = k + 2 := ⟨m - 2, by omega⟩
  refine okB_tup.mpr ⟨by rw [List.length_map]; exact h, fun x hx => ?_⟩
  obtain ⟨w, _, rfl⟩ := iw_mem hx
  rfl
theorem ck_row (K : Ck S L tab al rs.length) : ∀ x ∈ tab, ∃ ws : List Nat, x = .tuple (iw ws) ∧ ws.length = L ∧ ∀ w ∈ ws, w < S := by
  intro x hx
  obtain ⟨s, hs, rfl⟩ := List.getElem_of_mem hx
  obtain ⟨row, e1, e2, e3⟩ := K.row s (by rw [← K.tl]; exact hs)
  rw [List.getElem?_eq_getElem hs] at e1
  have e1 := Option.some.inj e1
  refine ⟨unN row, ?_, by simp [unN, e2], ?_⟩
  · rw [e1]
    congr 1
    refine List.ext_getElem? fun g => ?_
    by_cases hg : g < L
    · obtain ⟨v, e4, _⟩ := e3 g hg
      rw [e4, List.getElem?_map, unN, List.getElem?_map, e4]
      simp
    · rw [List.getElem?_eq_none (by omega), List.getElem?_eq_none (by simp [unN]; omega)]
  · intro w hw
    obtain ⟨d, hd, rfl⟩ := List.mem_map.mp hw
    obtain ⟨g, hg, rfl⟩ := List.getElem_of_mem hd
    obtain ⟨v, e4, e5⟩ := e3 g (by omega)
    rw [List.getElem?_eq_getElem hg] at e4
    rw [Option.some.inj e4]
    simpa using e5
theorem ck_ok (K : Ck S L tab al rs.length) : okB 63 4 (ckD S tab al) = true := by
  refine okB_tup.mpr ⟨by simp, fun x hx => ?_⟩
  simp only [List.mem_cons, List.not_mem_nil, or_false] at hx
  rcases hx with rfl | rfl | rfl
  · rfl
  · refine okB_tup.mpr ⟨by have := K.tl; have := K.s3; omega, fun x hx => ?_⟩
    obtain ⟨ws, rfl, e, _⟩ := ck_row K x hx
    exact okB_iw (by have := K.l3; omega) (by decide)
  · refine okB_tup.mpr ⟨by have := K.ale; have := K.r9; omega, fun x hx => ?_⟩
    rcases K.ok x hx with rfl | ⟨ns, rfl, e, _⟩
    · rfl
    · exact okB_iw (by omega) (by decide)
theorem iw_idx {n : Nat} {ws : List Nat} (h : ∀ w ∈ ws, w < n) : (iw ws).all (isIdx (n : Int)) = true := List.all_eq_true.mpr fun d hd => by
  obtain ⟨w, hw, rfl⟩ := iw_mem hd
  have := h w hw
  simp [isIdx]
  omega
theorem iw_il (ws : List Nat) : iw ws = il (ws.map fun (w : Nat) => (w : Int)) := by simp [iw, il]
theorem ck_is (K : Ck S L tab al rs.length) : isCk (L : Int) rs.length (ckD S tab al) = true := by
  have h1 : tab.all (rowOk (S : Int) (L : Int)) = true := List.all_eq_true.mpr fun x hx => by
    obtain ⟨ws, rfl, e, hw⟩ := ck_row K x hx
    simp only [rowOk, isWord, iw_idx hw, lenD, List.length_map, e, decide_true, Bool.and_self]
  have h2 : al.all (alOk (S : Int)) = true := List.all_eq_true.mpr fun x hx => by
    rcases K.ok x hx with rfl | ⟨ns, rfl, e, hp, hs⟩
    · rfl
    · have e2 : unI (iw ns) = ns.map fun (w : Nat) => (w : Int) := by rw [iw_il, unI_il]
      have e3 : ascB (ns.map fun (w : Nat) => (w : Int)) = true := ascB_iff.mpr (List.pairwise_map.mpr (hp.imp fun h => by omega))
      simp only [alOk, isRow, iw_idx hs, e2, e3, isN, Bool.and_self, Bool.or_true]
  have := K.s1
  simp only [isCk, h1, h2, K.tl, K.ale, decide_true, Bool.and_true, decide_eq_true_eq]
  omega
theorem checked_p (F : Fr C L rs) (K : Ck S L tab al rs.length) : l_check_checked [sysD C L rs, ckD S tab al] = .ok .none := by
  have h1 := check_p _ F.sz
  rw [F.fa] at h1
  simp [isN] at h1
  have h2 := are_p (c := (C : Int)) (l := (L : Int)) (rs := rs) _ (ck_ok K) (by decide)
  rw [ck_is K] at h2
  have h3 : l_check_checks [sysD C L rs, ckD S tab al] = .ok .none := by
    simp [l_check_checks, h2]
  simp [l_check_checked, h1, h3]
theorem conf_is (F : Fr C L rs) {a M : Nat} {x : D} (ha : a < C) {ws : List Nat} (hw : ∀ w ∈ ws, w < M) (hl : ws.length ≤ 1000) {r : List D} : l_is_configuration_of [.tuple (.int (C : Int) :: .int (M : Int) :: r), atD a ws] = .ok (.bool true) := by
  have h1 : isIdx (C : Int) (.int (a : Int)) = true := by simp [isIdx]; omega
  have h2 : isWord (M : Int) (.tuple (iw ws)) = true := iw_idx hw
  have i1 : isI "tuple" (atD a ws) = true := rfl
  have d1 : (([PyData.int (a : Int), .tuple (iw ws)].length : Nat) : Int) = 2 := rfl
  have hz : szW (.tuple (iw ws)) := by
    show (iw ws).length ≤ 1000
    rw [List.length_map]; exact hl
  simp only [l_is_configuration_of, R.tor, R.tnt, R.tru, R.isi, R.tcmp, R.blt, R.cal, R.bin, R.sq, R.ok_bind, i1, truB, R.of_some, Bool.not_true, Bool.false_eq_true, if_false, lenT, d1, neK, decide_true, ix0, ix1, index_p, h1, word_p _ _ hz, h2, R.fin_rt]
theorem conf_ok (F : Fr C L rs) {a : Nat} (ha : a < C) {ws : List Nat} (hw : ∀ w ∈ ws, w < L) (hl : ws.length ≤ 1000) : l_check_configuration [sysD C L rs, atD a ws] = .ok .none := by
  simp [l_check_configuration, conf_is F (x := .none) ha hw hl]
theorem state_below_p (F : Fr C L rs) (K : Ck S L tab al rs.length) {ws : List Nat} (hw : ∀ w ∈ ws, w < L) (hl : ws.length ≤ 100) : l_state_below [sysD C L rs, ckD S tab al, .tuple (iw ws)] = .ok (.int (stf tab 0 ws : Int)) := by
  have hz : szW (.tuple (iw ws)) := by
    show (iw ws).length ≤ 1000
    rw [List.length_map]; omega
  have h2 : isWord (L : Int) (.tuple (iw ws)) = true := iw_idx hw
  simp [l_state_below, checked_p F K, word_p _ _ hz, h2, state_p K hw]
theorem usable_checked_p (F : Fr C L rs) (K : Ck S L tab al rs.length) {a : Nat} (ha : a < C) {ws : List Nat} (hw : ∀ w ∈ ws, w < L) (hl : ws.length ≤ 100) : l_usable_checked [sysD C L rs, ckD S tab al, atD a ws] = .ok (.list (uck rs al tab a ws)) := by
  simp [l_usable_checked, checked_p F K, conf_ok F ha hw (show ws.length ≤ 1000 by omega), checked_in_p K F.ru a hw]
theorem mconf_p (K : Ck S L tab al rs.length) {a : Nat} {ws : List Nat} (hw : ∀ w ∈ ws, w < L) (hl : ws.length ≤ 100) : l_marked_configuration [ckD S tab al, atD a ws] = .ok (atD a (mks tab S 0 ws)) := by
  have h := mword_p K (s := 0) (by have := K.s1; omega) hw hl
  simp only [l_marked_configuration, R.tup, R.bin, R.cal, R.sq, R.ok_bind, ix0, ix1, R.of_some, show (PyData.int 0) = .int ((0 : Nat) : Int) from rfl] at h ⊢
  rw [show pIx (atD a ws) (.int ((0 : Nat) : Int)) = some (.int (a : Int)) from ix0]
  simp only [R.of_some, R.ok_bind, h, tup2, R.fin_rt]
theorem marked_p (F : Fr C L rs) (K : Ck S L tab al rs.length) {a : Nat} (ha : a < C) {ws : List Nat} (hw : ∀ w ∈ ws, w < L) (hl : ws.length ≤ 100) : l_marked [sysD C L rs, ckD S tab al, atD a ws] = .ok (atD a (mks tab S 0 ws)) := by
  simp [l_marked, checked_p F K, conf_ok F ha hw (show ws.length ≤ 1000 by omega), mconf_p K hw hl]
theorem marked_system_p (F : Fr C L rs) (K : Ck S L tab al rs.length) {es : List D} (he : pSorted (.list (ents rs tab al S)) = some (.list es)) (hl : es.length ≤ 24) (hE : ∀ d ∈ es, En C (L * S) rs.length d) : l_marked_system [sysD C L rs, ckD S tab al] = .ok (.tuple [.int (C : Int), .int ((L * S : Nat) : Int), .tuple (es.map fst1)]) := by
  have hr := marked_rules_p K F.ru
  rw [he, R.of_some] at hr
  have e := lcD_map (dec := decTup (decCons decN (decCons decN decNil))) (me := fun t1 => .ok t1.1) (g := fst1) es (LINE_big (by omega)) fun d hd => by
    obtain ⟨p, g, q, k, ws, rfl, _⟩ := (hE d hd).ex
    exact ⟨(_, _, ()), rfl, rfl⟩
  have hm := mulN (a := L) (b := S) (by have := F.l3; omega) (by have := K.s3; omega)
  have e5 : ((L : Int) * S) = ((L * S : Nat) : Int) := by simp
  simp only [l_marked_system, l_marked_in, R.cal, R.sq, R.ok_bind, checked_p F K, hr, R.blt, R.lc, R.un, pSeqL, R.of_some, e, pTupleL, R.tup, R.bin, ix0, ix1, hm, e5, tup3, R.fin_rt]
theorem rule_told_p (F : Fr C L rs) (K : Ck S L tab al rs.length) {es : List D} (he : pSorted (.list (ents rs tab al S)) = some (.list es)) (hE : ∀ d ∈ es, En C (L * S) rs.length d) {k : Nat} (hk : k < es.length) : l_rule_told [sysD C L rs, ckD S tab al, .int (k : Int)] = .ok (snd1 es[k]) := by
  have hr := marked_rules_p K F.ru
  rw [he, R.of_some] at hr
  have hx : es[k]? = some es[k] := by simp [hk]
  obtain ⟨p, g, q, j, ws, er, _⟩ := (hE _ (List.mem_of_getElem? hx)).ex
  have hn : l_check_number [.int (k : Int)] = .ok .none := by
    have : (0 : Int) ≤ (k : Int) := by omega
    simp [l_check_number, from_p, this]
  have hkl : ¬ ((es.length : Int) ≤ (k : Int)) := by omega
  rw [er] at hx ⊢
  simp only [l_rule_told, R.cal, R.sq, R.ok_bind, checked_p F K, hn, hr, R.tcmp, R.blt, lenL, R.of_some, geK, hkl, decide_false, Bool.false_eq_true, if_false, R.bin, ixL hx, ix1, R.fin_rt]
  rfl
theorem divN {a b : Nat} (hb : 0 < b) (hb2 : b < 1000) : pDiv (.int (a : Int)) (.int (b : Int)) = some (.int ((a / b : Nat) : Int)) := by
  rw [divK (by omega) (small (by omega) |> fun h => h)]
  simp
/-- letters off their marks -/
theorem unmark_lc (K : Ck S L tab al rs.length) (vs : List Nat) (hl : vs.length ≤ 1000) : lcD decN (fun _ => .ok true) (fun t1 => (R.bin pDiv (.ok t1) (R.bin pIx (.ok (ckD S tab al)) (.ok (.int 0))))) (iw vs) = .ok (iw (vs.map (· / S))) := by
  have e := lcD_map (dec := decN) (me := fun t1 => (R.bin pDiv (.ok t1) (R.bin pIx (.ok (ckD S tab al)) (.ok (.int 0))))) (g := fun d => match d with | .int i => .int ((i.toNat / S : Nat) : Int) | _ => .none) (iw vs) (LINE_big (by rw [List.length_map]; omega)) fun d hd => by
    obtain ⟨v, _, rfl⟩ := iw_mem hd
    exact ⟨_, rfl, by simp only [R.bin, R.ok_bind, ix0, R.of_some, divN (show 0 < S by have := K.s1; omega) (show S < 1000 by have := K.s3; omega), Int.toNat_natCast]⟩
  rw [e]
  congr 1
  simp [iw, List.map_map, Function.comp_def]
theorem at_pure (a : Nat) (ws : List Nat) : pureD (atD a ws) = true ∧ (atD a ws).depth ≤ 64 := ⟨by simp [pureD, pureAll, iw_pure], by simp [PyData.depth, PyData.depthAll, iw_depth]⟩
theorem at_inj {a b : Nat} {ws vs : List Nat} (h : atD a ws = atD b vs) : ws = vs := by
  simp only [PyData.tuple.injEq, List.cons.injEq, and_true] at h
  have := congrArg unN h.2
  rwa [unN_iw, unN_iw] at this
theorem unmarked_p (F : Fr C L rs) (K : Ck S L tab al rs.length) {a : Nat} (ha : a < C) {vs : List Nat} (hv : ∀ v ∈ vs, v < L * S) (hl : vs.length ≤ 100) : l_unmarked [sysD C L rs, ckD S tab al, atD a vs] = .ok (if mks tab S 0 (vs.map (· / S)) = vs then atD a (vs.map (· / S)) else .none) := by
  have hS := K.s1
  have hm := mulN (a := L) (b := S) (by have := F.l3; omega) (by have := K.s3; omega)
  have e5 : ((L : Int) * S) = ((L * S : Nat) : Int) := by simp
  have hc := conf_is F (x := .none) (M := L * S) ha hv (show vs.length ≤ 1000 by omega) (r := [])
  have hw : ∀ w ∈ vs.map (· / S), w < L := fun w hw => by
    obtain ⟨v, h1, rfl⟩ := List.mem_map.mp hw
    exact Nat.div_lt_of_lt_mul (by rw [Nat.mul_comm]; exact hv v h1)
  have mc := mconf_p K (a := a) hw (by rw [List.length_map]; exact hl)
  haveI := Classical.propDecidable (atD a (mks tab S 0 (vs.map (· / S))) = atD a vs)
  have eq := (eqPd (at_pure a (mks tab S 0 (vs.map (· / S)))) (at_pure a vs)).1
  have ei : decide (atD a (mks tab S 0 (vs.map (· / S))) = atD a vs) = decide (mks tab S 0 (vs.map (· / S)) = vs) := by
    by_cases h : mks tab S 0 (vs.map (· / S)) = vs
    · simp [h]
    · have : ¬ atD a (mks tab S 0 (vs.map (· / S))) = atD a vs := fun z => h (at_inj z)
      simp only [h, this, decide_false]
  have ul := unmark_lc K vs (by omega)
  simp only [R.bin, R.ok_bind, ix0, R.of_some] at ul
  simp only [l_unmarked, R.cal, R.sq, R.ok_bind, checked_p F K, R.tnt, R.tru, R.tup, R.bin, ix0, ix1, R.of_some, hm, e5, tup2, hc, truB, Bool.not_true, Bool.false_eq_true, if_false, R.blt, R.lc, R.un, pSeqT, ul, pTupleL, R.ite, R.tcmp, mc, eq, ei]
  by_cases h : mks tab S 0 (vs.map (· / S)) = vs
  · simp [h]
  · simp [h]
theorem mks_div (K : Ck S L tab al rs.length) : ∀ {ws : List Nat}, (∀ w ∈ ws, w < L) → (mks tab S 0 ws).map (· / S) = ws ∧ ∀ v ∈ mks tab S 0 ws, v < L * S
  | [], _ => ⟨rfl, by simp [mks, mwl]⟩
  | g :: ws, h => by
    have hs := stf_lt K (s := 0) (by have := K.s1; omega) (ws := ws) fun w hw => h w (List.mem_cons_of_mem _ hw)
    obtain ⟨h1, h2⟩ := mks_div K (ws := ws) fun w hw => h w (List.mem_cons_of_mem _ hw)
    have hg := h g (List.mem_cons_self ..)
    rw [mks_cons, List.map_cons, h1]
    refine ⟨?_, fun v hv => ?_⟩
    · congr 1
      rw [Nat.mul_comm, Nat.mul_add_div (by omega), Nat.div_eq_of_lt hs, Nat.add_zero]
    · rcases List.mem_cons.mp hv with rfl | hv
      · have : g * S + S ≤ L * S := by rw [← Nat.succ_mul]; exact Nat.mul_le_mul_right S hg
        omega
      · exact h2 v hv
end
end K
end Pu

set_option maxHeartbeats 1000000
namespace Pu
open PySem PySem.Spec L2
theorem powK' {i : Int} {n : Nat} (hi : i.natAbs < 1000) (hn : n ≤ 1000) : pPow (.int i) (.int (n : Int)) = some (.int (i ^ n)) := by
  show (pPowI i n).map PyData.int = _
  unfold pPowI
  rw [if_pos ⟨by omega, by omega, by have : (1000 : Nat) < 2 ^ 64 := by decide
                                     omega⟩]
  simp
theorem Al.eqb {α β : Type} {K : Nat} {m : R α} {a : α} {f : α → R β} {S : β → Prop} (e : m = .ok a) (h : Al K (f a) S) : Al K (m >>= f) S := by
  rw [e]
  exact h
theorem Al.assoc {α β γ : Type} {K : Nat} {m : R α} {f : α → R β} {g : β → R γ} {S : γ → Prop} (h : Al K (m >>= fun x => f x >>= g) S) : Al K ((m >>= f) >>= g) S := by
  rw [R.bind_assoc]
  exact h
theorem Al.le {α : Type} {N M : Nat} {m : R α} {P : α → Prop} (h : Al N m P) (e : N ≤ M) : Al M m P := h.more (fun _ q => q) e
namespace K
def ruleOf (c l : Int) (d : D) : Prop := isRule c l d = true
theorem rule_key {c l : Int} {d : D} (h : ruleOf c l d) : pureD d = true ∧ isTupD d = true := by
  refine ⟨(rule_pure h).1, ?_⟩
  obtain ⟨p, g, q, ws, rfl, _⟩ := isRule_form h
  rfl
theorem keys_ints {n : Int} : ∀ {ws : List D}, ws.all (isIdx n) = true → ∃ ks, keysOf ws = some ks ∧ PySem.NestedKey.depthAll ks = 0
  | [], _ => ⟨[], rfl, rfl⟩
  | w :: ws, h => by
    simp only [List.all_cons, Bool.and_eq_true] at h
    obtain ⟨i, rfl, _⟩ := isIdx_int h.1
    obtain ⟨ks, e, z⟩ := keys_ints h.2
    exact ⟨.num i :: ks, by simp [keysOf, keyOf, e], by simp [PySem.NestedKey.depthAll, PySem.NestedKey.depth, z]⟩
theorem rule_kd {c l : Int} {d : D} (h : ruleOf c l d) {nk : PySem.NestedKey} (e : keyOf d = some nk) : nk.depth ≤ 8 := by
  obtain ⟨p, g, q, ws, rfl, hw, _⟩ := isRule_form h
  obtain ⟨ks, e2, z⟩ := keys_ints hw
  simp [keyOf, keysOf, e2] at e
  subst e
  simp [PySem.NestedKey.depth, PySem.NestedKey.depthAll, z]
theorem rule_szR {c l : Int} {d : D} (h : ruleOf c l d) : szR d := by
  obtain ⟨p, g, q, ws, rfl, hw, hl, _⟩ := isRule_form h
  refine ⟨by simp, fun x hx => ?_⟩
  simp at hx
  rcases hx with rfl | rfl | rfl | rfl
  · trivial
  · trivial
  · trivial
  · show ws.length ≤ 1000
    omega
theorem idx_nat {n : Int} {i : Nat} (h : (i : Int) < n) : isIdx n (.int i) = true := by simp [isIdx, h]
theorem sorted_fault {c l : Int} {rs : List D} (hc : 1 ≤ c) (hl : 1 ≤ l) (h : ∀ r ∈ rs, isRule c l r = true) (hs : rs.Pairwise fun x y => PySem.W.dataLt x y = true) : fault (.tuple [.int c, .int l, .tuple rs]) = .none := by
  have : findFrom (gF c l rs) 0 rs.length = none := by
    refine findFrom_none.mpr fun i hi => ?_
    rw [Nat.zero_add]
    unfold gF
    have hx : rs[i]? = some rs[i] := by simp [hi]
    rw [hx]
    simp only
    rw [if_pos (h _ (List.getElem_mem hi))]
    cases i with
    | zero => rfl
    | succ i =>
      have hy : rs[i]? = some rs[i] := by simp [Nat.lt_of_succ_lt hi]
      simp [hy]
      exact List.pairwise_iff_getElem.mp hs i (i + 1) (by omega) hi (by omega)
  simp [fault, hc, hl, this]
structure Sys (c l : Int) (d : D) : Prop where
  ex : ∃ rs : List D, d = .tuple [.int c, .int l, .tuple rs] ∧ rs ≠ [] ∧ rs.length ≤ 8 ∧ (∀ r ∈ rs, isRule c l r = true) ∧ rs.Pairwise fun x y => PySem.W.dataLt x y = true
theorem Sys.fault {c l : Int} {d : D} (hc : 1 ≤ c) (hl : 1 ≤ l) (h : Sys c l d) : fault d = .none := by
  obtain ⟨rs, rfl, h1, h2, h3, h4⟩ := h.ex
  exact sorted_fault hc hl h3 h4
theorem Sys.sz {c l : Int} {d : D} (h : Sys c l d) : szS d := by
  obtain ⟨rs, rfl, h1, h2, h3, h4⟩ := h.ex
  intro x hx
  simp at hx
  rcases hx with rfl | rfl | rfl
  · trivial
  · trivial
  · exact ⟨by omega, fun r hr => rule_szR (h3 r hr)⟩

theorem draw_al {n : Int} (h : 0 < n) (h2 : n < 1000000) : Al 1 (l__law_draw [.int n]) fun d => ∃ i : Nat, (i : Int) < n ∧ d = .int (i : Int) := Al.draw h (small h2)
theorem one_al {rows : List D} (h : rows ≠ []) (h2 : rows.length ≤ 100000) : Al 1 (l__law_one [.list rows]) fun d => d ∈ rows := by
  have hp : 0 < rows.length := List.length_pos_iff.mpr h
  simp only [l__law_one, R.bin, R.cal, R.blt, R.sq, R.ok_bind, lenL, R.of_some, fin_bind, R.bind_assoc]
  refine Al.seq (N := 1) (draw_al (by omega) (by omega)) fun a ha => ?_
  obtain ⟨i, hi, rfl⟩ := ha
  have hi' : i < rows.length := by omega
  have hx : rows[i]? = some rows[i] := by simp [hi']
  rw [ixL hx]
  exact Al.ok (List.getElem_mem hi')
theorem pot_p (ns : List Int) (at_ : Nat) (h : at_ < 1000) : ∃ x y : Int, l__law_pot [.list (ns.map .int), .int (at_ : Int)] = .ok (.list [.int x, .int y, .int (11 * at_ + 1)]) ∧ 0 ≤ x ∧ x < 10 ^ 240 ∧ 0 ≤ y ∧ y < 10 ^ 240 := by
  have b : (1000 : Nat) < 2 ^ 2000 := by decide +kernel
  have e0 : ∃ v : Int, R.ite (R.tcmp pLt (.ok (.int (at_ : Int))) (R.blt (f1 pLen) [.ok (.list (ns.map .int))])) (R.blt (f1 pInt) [(R.blt (f1 pAbs) [(R.bin pIx (.ok (.list (ns.map .int))) (.ok (.int (at_ : Int))))])]) (R.bin pAdd (R.bin pMul (.ok (.int 7)) (.ok (.int (at_ : Int)))) (.ok (.int 3))) = .ok (.int v) := by
    by_cases hl : at_ < ns.length
    · have hx : (ns.map PyData.int)[at_]? = some (.int ns[at_]) := by simp [hl]
      refine ⟨if ns[at_] < 0 then -ns[at_] else ns[at_], ?_⟩
      have c : (at_ : Int) < (ns.length : Int) := by omega
      simp only [R.ite, R.tcmp, R.blt, R.sq, R.bin, R.ok_bind, lenL, R.of_some, ltK, List.length_map, c, decide_true, if_true, ixL hx, show ∀ z : Int, f1 pAbs [PyData.int z] = some (.int (if z < 0 then -z else z)) from fun _ => rfl, intK]
    · have c : ¬ (at_ : Int) < (ns.length : Int) := by omega
      refine ⟨7 * at_ + 3, ?_⟩
      simp only [R.ite, R.tcmp, R.blt, R.sq, R.bin, R.ok_bind, lenL, R.of_some, ltK, List.length_map, c, decide_false, Bool.false_eq_true, if_false, mulK (i := 7) (j := at_) (by omega) (by omega), addK]
  obtain ⟨v, e⟩ := e0
  have p60 : pPow (.int 10) (.int 60) = some (.int (10 ^ 60)) := powK' (n := 60) (by decide) (by decide)
  have p18 : pPow (.int 10) (.int 18) = some (.int (10 ^ 18)) := powK' (n := 18) (by decide) (by decide)
  have q1 : (10 ^ 60 : Int).natAbs < 2 ^ 2000 := by decide +kernel
  have q2 : (10 ^ 60 * 10 ^ 60 : Int).natAbs < 2 ^ 2000 := by decide +kernel
  have q3 : (10 ^ 60 * 10 ^ 60 * 10 ^ 60 : Int).natAbs < 2 ^ 2000 := by decide +kernel
  have m1 := mulK q1 q1
  have m2 := mulK q2 q1
  have m3 := mulK q3 q1
  have q4 : (10 ^ 60 * 10 ^ 60 * 10 ^ 60 * 10 ^ 60 : Int) = 10 ^ 240 := by decide +kernel
  have q5 : (0 : Int) < 10 ^ 240 := by decide +kernel
  have q6 : (0 : Int) < 10 ^ 18 + 9 := by decide +kernel
  have q7 : (10 ^ 18 + 9 : Int) < 10 ^ 240 := by decide +kernel
  have m4 : pMul (.int 11) (.int (at_ : Int)) = some (.int (11 * at_)) := mulK (by omega) (by omega)
  have r1 := Int.emod_nonneg (v % 10 ^ 240) (show (10 ^ 18 + 9 : Int) ≠ 0 by omega)
  have r2 := Int.emod_lt_of_pos (v % 10 ^ 240) q6
  have r3 := Int.emod_nonneg v (show (10 ^ 240 : Int) ≠ 0 by omega)
  have r4 := Int.emod_lt_of_pos v q5
  refine ⟨if (10 ^ 18 : Int) ≤ v % 10 ^ 240 then v % 10 ^ 240 else 0, v % 10 ^ 240 % (10 ^ 18 + 9), ?_, by split <;> omega, by split <;> omega, r1, by omega⟩
  simp only [l__law_pot]
  rw [e]
  simp only [R.ok_bind, R.blt, R.sq, R.bin, R.lst, R.ite, R.tcmp, intK, R.of_some, p60, p18, m1, m2, m3, q4, modK q5, modK q6, geK, m4, addK]
  have ei : ∀ (p : Prop) [Decidable p] (x y : D), (if decide p = true then (R.ok x : R D) else R.ok y) = R.ok (if p then x else y) := fun p _ x y => by by_cases h : p <;> simp [h]
  rw [ei, R.ok_bind]
  simp only [R.ok_bind]
  rw [lst_ok (by simp), R.of_some, R.ok_bind, R.fin_rt]
  have ej : ∀ (p : Prop) [Decidable p] (x y : Int), (if p then PyData.int x else PyData.int y) = PyData.int (if p then x else y) := fun p _ x y => by split <;> rfl
  rw [ej]
theorem frame_al {C L : Nat} (hc : 1 ≤ C) (hl : 1 ≤ L) (hc2 : C ≤ 3) (hl2 : L ≤ 3) {n : Nat} (hn : 1 ≤ n) (hn2 : n ≤ 8) {ls : List Nat} (h0 : ls ≠ []) (h1 : ls.length ≤ 10) (h2 : ∀ x ∈ ls, x ≤ 2) : Al 60 (l__law_system [.int (C : Int), .int (L : Int), .int (n : Int), .list (iw ls)]) fun d => ∃ rs, d = sysD C L rs ∧ Fr C L rs ∧ rs.length ≤ n := by
  simp only [l__law_system, R.cal, R.sq, R.bin, R.un, R.ok_bind, fin_bind, then_bind, R.bind_assoc]
  refine Al.seq (N := 1) (draw_al (by omega) (by omega)) fun a ha => ?_
  obtain ⟨i, hi, rfl⟩ := ha
  simp only [addK, R.of_some, R.ok_bind]
  rw [show (1 : Int) + (i : Int) = ((i + 1 : Nat) : Int) by omega, rngK (by omega), R.of_some, R.ok_bind]
  refine Al.thenF (N := (rangeF 0 (i + 1)).length * 6) (M := 0) (I := fun s => (∀ p ∈ s.1, ruleOf C L p.1) ∧ (s.1.map (·.1)).Nodup ∧ s.1.length ≤ i + 1 ∧ s.1 ≠ []) ((forR_ali (I := fun k s => (∀ p ∈ s.1, ruleOf C L p.1) ∧ (s.1.map (·.1)).Nodup ∧ s.1.length ≤ k ∧ (0 < k → s.1 ≠ [])) (N := 6) (rangeF 0 (i + 1)) 0 _ (fun d hd => ⟨d, rfl, fun j s hj hI => ?_⟩) ⟨by simp, by simp, by simp, by simp⟩).more (fun fl hf => ?_) (Nat.le_refl _)) (fun s' hf => ?_) (by rw [rangeF_length]; omega)
  · rw [rangeF_length] at hj
    obtain ⟨q1, q2, q3, q4⟩ := hI
    simp only [lb__law_system_2, R.cal, R.sq, R.ok_bind]
    refine Al.seq (N := 1) (draw_al (by omega) (by omega)) fun a ha => ?_
    obtain ⟨p, hp, rfl⟩ := ha
    refine Al.seq (N := 1) (draw_al (by omega) (by omega)) fun a ha => ?_
    obtain ⟨g, hg, rfl⟩ := ha
    refine Al.seq (N := 1) (draw_al (by omega) (by omega)) fun a ha => ?_
    obtain ⟨q, hq, rfl⟩ := ha
    refine Al.seq (N := 1) (one_al (by simpa [iw] using h0) (by rw [List.length_map]; omega)) fun a ha => ?_
    obtain ⟨z, hz, rfl⟩ := iw_mem ha
    refine Al.seq (N := 1) (draw_al (by omega) (by omega)) fun a ha => ?_
    obtain ⟨x, hx, rfl⟩ := ha
    refine Al.seq (N := 1) (draw_al (by omega) (by omega)) fun a ha => ?_
    obtain ⟨y, hy, rfl⟩ := ha
    have hz2 := h2 z hz
    simp only [R.tup, R.slH, R.sq, R.ok_bind, tup2, R.of_some, oI, slTT, tup4]
    have hr : ruleOf C L (.tuple [.int (p : Int), .int (g : Int), .int (q : Int), .tuple ([PyData.int (x : Int), .int (y : Int)].take z)]) := by
      have w : ([PyData.int (x : Int), .int (y : Int)].take z).all (isIdx (L : Int)) = true := List.all_eq_true.mpr fun d hd => by
        have := List.mem_of_mem_take hd
        simp at this
        rcases this with rfl | rfl <;> simp [isIdx] <;> omega
      have l : ([PyData.int (x : Int), .int (y : Int)].take z).length ≤ 2 := by simp; omega
      unfold ruleOf isRule
      simp only [isWord, w, l, decide_true, isIdx, Bool.true_and, Bool.and_eq_true, decide_eq_true_eq, true_and, Bool.and_self]
      try omega
    obtain ⟨kvs, e1, e2, e3, e4, _, e5⟩ := putD_keys (k := .tuple [.int (p : Int), .int (g : Int), .int (q : Int), .tuple ([PyData.int (x : Int), .int (y : Int)].take z)]) (v := .bool true) (P := ruleOf C L) q1 (fun _ => rule_key) hr (fun nk e => rule_kd hr e) q2 (LINE_lt (by omega))
    rw [e1, R.of_some, R.ok_bind]
    refine Al.ok ⟨_, rfl, e2, e3, by simp; omega, fun _ z => ?_⟩
    simp at z
    subst z
    simp at e5
  · obtain ⟨s', rfl, q1, q2, q3, q4⟩ := hf
    rw [rangeF_length] at q3 q4
    exact ⟨s', rfl, q1, q2, by omega, q4 (by omega)⟩
  · obtain ⟨q1, q2, q3, q4⟩ := hf
    have hp := sorted_pure (d := .dict s'.1) (ds := s'.1.map (·.1)) rfl (fun x hx => by
      obtain ⟨p, hp, rfl⟩ := List.mem_map.mp hx
      exact rule_pure (q1 p hp))
      (fun x hx y hy => by
        obtain ⟨p, hp, rfl⟩ := List.mem_map.mp hx
        obtain ⟨p', hp', rfl⟩ := List.mem_map.mp hy
        exact rule_alike (q1 p hp) (q1 p' hp'))
      (fun x hx => by
        obtain ⟨p, hp, rfl⟩ := List.mem_map.mp hx
        obtain ⟨p', g, q, ws, e, _⟩ := isRule_form (q1 p hp)
        exact ⟨_, _, e⟩)
    simp only [R.tup, R.blt, R.sq, R.ok_bind, show f1 pSorted [PyData.dict s'.1] = pSorted (.dict s'.1) from rfl, hp, R.of_some, pTupleL, tup3, R.fin_rt]
    have hr : ∀ r ∈ sortD (s'.1.map (·.1)), isRule (C : Int) (L : Int) r = true := fun r hr => by
      unfold sortD at hr
      obtain ⟨p, hp, rfl⟩ := List.mem_map.mp ((List.mergeSort_perm _ _).mem_iff.mp hr)
      exact q1 p hp
    have hlen : (sortD (s'.1.map (·.1))).length = s'.1.length := by
      unfold sortD
      rw [List.length_mergeSort, List.length_map]
    have hs : (sortD (s'.1.map (·.1))).Pairwise fun x y => PySem.W.dataLt x y = true := sortD_lt (fun x hx => by
        obtain ⟨p, hp, rfl⟩ := List.mem_map.mp hx
        exact (rule_pure (q1 p hp)).1) (fun x hx y hy => by
        obtain ⟨p, hp, rfl⟩ := List.mem_map.mp hx
        obtain ⟨p', hp', rfl⟩ := List.mem_map.mp hy
        exact rule_alike (q1 p hp) (q1 p' hp')) q2
    have hne : sortD (s'.1.map (·.1)) ≠ [] := fun z => by
      have := congrArg List.length z
      rw [hlen] at this
      exact q4 (List.eq_nil_of_length_eq_zero this)
    have sy : Sys (C : Int) (L : Int) (sysD C L (sortD (s'.1.map (·.1)))) := ⟨_, rfl, hne, by omega, hr, hs⟩
    exact Al.ok ⟨_, rfl, ⟨hc, hc2, hl, hl2, hne, by omega, fun r h => ru_of (hr r h), sy.fault (by omega) (by omega), sy.sz⟩, by omega⟩
end K
end Pu

set_option maxHeartbeats 1000000
namespace Pu
open PySem PySem.Spec L2
/-- a comprehension whose tests draw -/
theorem lcM_sub {T : Type} {dec : D → Option T} {mt : T → R Bool} {me : T → R D} {N : Nat} : ∀ (ds : List D), (∀ d ∈ ds, ∃ t, dec d = some t ∧ Al N (R.nx (mt t)) (fun _ => True) ∧ me t = .ok d) → Al (ds.length * N) (lcM dec mt me ds) fun ys => ys.Sublist ds
  | [], _ => Al.ok (List.Sublist.refl _)
  | d :: ds, h => by
    obtain ⟨t, e, q, e2⟩ := h d (List.mem_cons_self ..)
    unfold lcM
    rw [e, R.of_some]
    simp only [R.ok_bind]
    refine q.bind (M := ds.length * N) (fun k _ => ?_) (by rw [List.length_cons, Nat.succ_mul]; omega)
    have ih := lcM_sub ds fun d hd => h d (List.mem_cons_of_mem _ hd)
    cases k with
    | true =>
      simp only [if_true, e2, R.nx_ok, R.ok_bind]
      exact ih.bind (M := 0) (fun ys hys => Al.ok (hys.cons₂ d)) (by omega)
    | false =>
      simp only [Bool.false_eq_true, if_false]
      exact ih.more (fun ys hys => hys.cons d) (Nat.le_refl _)
theorem Al.nx {α : Type} {N : Nat} {m : R α} {P : α → Prop} (h : Al N m P) : Al N (R.nx m) P := by
  induction m generalizing N with
  | ok a => exact h
  | exc x d => exact (by have := h.po; rwa [Po.exc_] at this : False).elim
  | bad => exact (by have := h.po; rwa [Po.bad_] at this : False).elim
  | ch n k ih =>
    cases N with
    | zero => exact False.elim h.po
    | succ N => rw [R.nx_ch]; exact Al.chI fun i hi => ih i ⟨h.po i hi⟩
theorem Al.flx {α : Type} {N : Nat} {m : R α} {P : α → Prop} (h : Al N m P) : Al N (R.flx m) P := by
  induction m generalizing N with
  | ok a => rw [R.flx_ok]; exact h
  | exc x d => exact (by have := h.po; rwa [Po.exc_] at this : False).elim
  | bad => exact (by have := h.po; rwa [Po.bad_] at this : False).elim
  | ch n k ih =>
    cases N with
    | zero => exact False.elim h.po
    | succ N => rw [R.flx_ch]; exact Al.chI fun i hi => ih i ⟨h.po i hi⟩
theorem Al.seq2 {α β γ : Type} {N K : Nat} {m : R α} {f : α → R β} {g : β → R γ} {P : α → Prop} {S : γ → Prop} (h : Al N m P) (k : ∀ a, P a → Al (K - N) (f a >>= g) S) (e : N ≤ K := by decide) : Al K ((m >>= f) >>= g) S := by
  rw [R.bind_assoc]
  exact h.bind k (by omega)
theorem rangeF_lt : ∀ (k n : Nat), (rangeF k n).Pairwise fun x y => PySem.W.dataLt x y = true
  | _, 0 => .nil
  | k, n + 1 => .cons (fun y hy => by
      obtain ⟨i, h1, h2, rfl⟩ := rangeF_mem hy
      rw [PySem.W.dataLt_int]
      exact decide_eq_true (by omega)) (rangeF_lt (k + 1) n)
theorem lcD_sub {T : Type} {dec : D → Option T} {mt : T → R Bool} {me : T → R D} {N : Nat} (ds : List D) (hl : ds.length ≤ LINE) (h : ∀ d ∈ ds, ∃ t, dec d = some t ∧ Al N (R.nx (mt t)) (fun _ => True) ∧ me t = .ok d) : Al (ds.length * N) (lcD dec mt me ds) fun ys => ys.Sublist ds := by
  unfold lcD
  rw [if_pos hl]
  exact lcM_sub ds h
theorem sub_range {ys : List D} : ∀ {k n : Nat}, ys.Sublist (rangeF k n) → ∃ ns : List Nat, ys = iw ns ∧ ns.Pairwise (· < ·) ∧ ∀ x ∈ ns, k ≤ x ∧ x < k + n := by
  intro k n
  induction n generalizing k ys with
  | zero =>
    intro h
    have : ys = [] := List.eq_nil_of_sublist_nil h
    subst this
    exact ⟨[], rfl, List.Pairwise.nil, by simp⟩
  | succ n ih =>
    intro h
    have h : ys.Sublist (.int (k : Int) :: rangeF (k + 1) n) := h
    cases h with
    | cons _ h =>
      obtain ⟨ns, e1, e2, e3⟩ := ih h
      exact ⟨ns, e1, e2, fun x hx => by have := e3 x hx; omega⟩
    | cons_cons _ h =>
      obtain ⟨ns, e1, e2, e3⟩ := ih h
      refine ⟨k :: ns, by rw [e1]; rfl, List.pairwise_cons.mpr ⟨fun x hx => by have := e3 x hx; omega, e2⟩, fun x hx => ?_⟩
      rcases List.mem_cons.mp hx with rfl | hx
      · omega
      · have := e3 x hx
        omega
namespace K
theorem checks_al {C L : Nat} {rs : List D} (F : Fr C L rs) : Al 60 (l__law_checks [sysD C L rs]) fun d => ∃ (S : Nat) (tab al : List D), d = ckD S tab al ∧ Ck S L tab al rs.length := by
  have h8 := F.r8
  have hL := F.l3
  simp only [l__law_checks, R.cal, R.bin, R.lst, R.sq, R.ok_bind, lst0, R.of_some, fin_bind, R.bind_assoc]
  refine Al.seq (N := 1) (draw_al (by decide) (by decide)) fun a ha => ?_
  obtain ⟨i, hi, rfl⟩ := ha
  simp only [addK, R.of_some, R.ok_bind]
  rw [show (1 : Int) + (i : Int) = ((i + 1 : Nat) : Int) by omega]
  generalize hS : i + 1 = S at *
  have hS1 : 1 ≤ S := by omega
  have hS3 : S ≤ 3 := by omega
  simp only [R.un, R.ok_bind, rngK (show S ≤ 100000 by omega), R.of_some]
  let I1 : Nat → List D × Unit → Prop := fun k s => s.1.length = k ∧ ∀ x ∈ s.1, ∃ row : List D, x = .tuple row ∧ row.length = L ∧ ∀ y ∈ row, ∃ v : Nat, y = .int (v : Int) ∧ v < S
  refine Al.thenF (N := (rangeF 0 S).length * 3) (M := 40) (I := I1 S) ((forR_ali (I := I1) (N := 3) (rangeF 0 S) 0 _ (fun d hd => ⟨d, rfl, fun j s hj hI => ?_⟩) ⟨rfl, by simp⟩).more (fun fl hf => ?_) (Nat.le_refl _)) (fun s6 h6 => ?_) (by rw [rangeF_length]; omega)
  · rw [rangeF_length] at hj
    obtain ⟨q1, q2⟩ := hI
    have lc := lcD_al (dec := decN) (me := fun t8 => (R.cal (l__law_draw) [.ok (.int (S : Int))])) (P := fun y => ∃ v : Nat, y = .int (v : Int) ∧ v < S) (N := 1) (rangeF 0 L) (LINE_big (by rw [rangeF_length]; omega)) fun d hd => ⟨d, rfl, by
      simp only [R.cal, R.sq, R.ok_bind]
      refine (draw_al (by omega) (by omega)).nx.more (fun y hy => ?_) (Nat.le_refl _)
      obtain ⟨v, hv, rfl⟩ := hy
      exact ⟨v, rfl, by omega⟩⟩
    simp only [lb__law_checks_6, R.blt, R.lc, R.un, R.bin, R.sq, R.ok_bind, ix1, R.of_some, rngK (show L ≤ 100000 by omega), R.bind_assoc]
    rw [rangeF_length] at lc
    refine lc.bind (M := 0) (fun ys hy => ?_) (by omega)
    simp only [R.ok_bind, pTupleL, R.of_some]
    rw [if_pos (LINE_lt (by omega))]
    refine Al.ok ⟨_, rfl, by simp [q1], fun x hx => ?_⟩
    rcases List.mem_append.mp hx with hx | hx
    · exact q2 x hx
    · simp at hx
      subst hx
      exact ⟨ys, rfl, hy.1, hy.2⟩
  · obtain ⟨s', rfl, h⟩ := hf
    rw [rangeF_length, Nat.zero_add] at h
    exact ⟨s', rfl, h⟩
  · simp only [R.bin, R.ok_bind, ix2, R.of_some, pSeqT]
    let I2 : Nat → List D × Unit → Prop := fun k s => s.1.length = k ∧ ∀ x ∈ s.1, x = .none ∨ ∃ ns : List Nat, x = .tuple (iw ns) ∧ ns.length ≤ 3 ∧ ns.Pairwise (· < ·) ∧ ∀ n ∈ ns, n < S
    refine Al.thenF (N := rs.length * 5) (M := 0) (I := I2 rs.length) ((forR_ali (I := I2) (N := 5) rs 0 _ (fun d hd => ⟨d, rfl, fun j s hj hI => ?_⟩) ⟨rfl, by simp⟩).more (fun fl hf => ?_) (Nat.le_refl _)) (fun s10 h10 => ?_) (by omega)
    · obtain ⟨q1, q2⟩ := hI
      have lc := lcD_sub (dec := decN) (mt := fun t12 => (R.tcmp pEq (R.cal (l__law_draw) [.ok (.int 2)]) (.ok (.int 0)))) (me := fun t12 => .ok t12) (N := 1) (rangeF 0 S) (LINE_big (by rw [rangeF_length]; omega)) fun d hd => ⟨d, rfl, by
        simp only [R.tcmp, R.cal, R.sq, R.ok_bind, R.nx_bind]
        refine Al.seq (N := 1) (draw_al (by decide) (by decide)).nx fun y hy => ?_
        obtain ⟨v, hv, rfl⟩ := hy
        simp only [eqK, R.of_some, R.nx_ok, R.ok_bind]
        exact Al.ok trivial, rfl⟩
      simp only [lb__law_checks_10, R.blt, R.lc, R.un, R.cal, R.lst, R.sq, R.ok_bind, rngK (show S ≤ 100000 by omega), R.of_some, R.bind_assoc]
      simp only [R.tcmp, R.cal, R.sq, R.ok_bind] at lc
      rw [rangeF_length] at lc
      refine lc.bind (M := 1) (fun ys hy => ?_) (by omega)
      obtain ⟨ns, rfl, n1, n2⟩ := sub_range hy
      have n3 : ns.length ≤ 3 := by
        have := hy.length_le
        rw [rangeF_length, List.length_map] at this
        omega
      simp only [R.ok_bind, pTupleL, R.of_some, lst_ok (show [PyData.none, .tuple (iw ns), .tuple (iw ns)].length ≤ 100000 by simp)]
      refine Al.seq (N := 1) (one_al (by simp) (by simp)) fun v hv => ?_
      rw [if_pos (LINE_lt (by omega))]
      refine Al.ok ⟨_, rfl, by simp [q1], fun x hx => ?_⟩
      rcases List.mem_append.mp hx with hx | hx
      · exact q2 x hx
      · simp at hx
        subst hx
        simp at hv
        rcases hv with rfl | rfl
        · exact .inl rfl
        · exact .inr ⟨ns, rfl, n3, n1, fun n hn => by have := n2 n hn; omega⟩
    · obtain ⟨s', rfl, h⟩ := hf
      rw [Nat.zero_add] at h
      exact ⟨s', rfl, h⟩
    · simp only [R.tup, R.blt, R.sq, R.ok_bind, pTupleL, R.of_some, tup3, R.fin_rt]
      refine Al.ok ⟨S, s6.1, s10.1, rfl, hS1, hS3, F.l1, F.l3, h8, h6.1, fun s hs => ?_, h10.1, h10.2⟩
      have hx : s6.1[s]? = some s6.1[s] := by simp [h6.1, hs]
      obtain ⟨row, e, e2, e3⟩ := h6.2 _ (List.mem_of_getElem? hx)
      refine ⟨row, by rw [hx, e], e2, fun g hg => ?_⟩
      have hy : row[g]? = some row[g] := by simp [e2, hg]
      obtain ⟨v, e4, e5⟩ := e3 _ (List.mem_of_getElem? hy)
      exact ⟨v, by rw [hy, e4], e5⟩
theorem bent_al {C L S : Nat} {rs tab al : List D} (F : Fr C L rs) (K : Ck S L tab al rs.length) : Al 10 (l__law_bent [sysD C L rs, ckD S tab al]) fun d => okB 63 7 d = true := by
  have hS1 := K.s1
  have hS3 := K.s3
  have hL1 := K.l1
  have hL3 := K.l3
  have htl := K.tl
  have hal := K.ale
  have hr8 := K.r9
  have hr0 : 0 < rs.length := List.length_pos_iff.mpr F.r0
  have k6 : decTup (decCons decN (decCons decN (decCons decN decNil))) (ckD S tab al) = some (.int (S : Int), .tuple tab, .tuple al, ()) := rfl
  have okT : ∀ x ∈ tab, okB 63 3 x = true := fun x hx => by
    obtain ⟨ws, rfl, e, _⟩ := ck_row K x hx
    exact okB_iw (by omega) (by decide)
  have okA : ∀ x ∈ al, okB 63 3 x = true := fun x hx => by
    rcases K.ok x hx with rfl | ⟨ns, rfl, e, _⟩
    · rfl
    · exact okB_iw (by omega) (by decide)
  simp only [l__law_bent, R.ok_bind, k6, R.of_some, R.cal, R.blt, R.un, R.tup, R.lst, R.sq, lenT, negK, tup1, lst_ok, List.length_nil, List.length_cons, Nat.reduceAdd, Nat.reduceLeDiff, fin_bind]
  refine Al.seq (N := 1) (draw_al (by omega) (by omega)) fun a ha => ?_
  obtain ⟨k, hk, rfl⟩ := ha
  refine Al.seq (N := 1) (draw_al (by omega) (by omega)) fun a ha => ?_
  obtain ⟨j, hj, rfl⟩ := ha
  refine Al.seq (N := 1) (one_al (by simp) (by simp)) fun odd ho => ?_
  have hodd : okB 63 2 odd = true := by
    simp only [List.mem_cons, List.not_mem_nil, or_false] at ho
    rcases ho with rfl | rfl | rfl | rfl | rfl | rfl | rfl
    · rfl
    · rfl
    · rfl
    · rfl
    · decide +kernel
    · rfl
    · rfl
  simp only [R.bin, R.ok_bind, ix1, R.of_some]
  repeat with_reducible refine Al.assoc ?_
  refine Al.seq (N := 1) (draw_al (by omega) (by omega)) fun a ha => ?_
  obtain ⟨g, hg, rfl⟩ := ha
  have hkt : k < tab.length := by omega
  have hx : tab[k]? = some tab[k] := by simp [hkt]
  obtain ⟨ws, er, wl, _⟩ := ck_row K _ (List.mem_of_getElem? hx)
  rw [er] at hx
  have ek : (k : Int) + 1 = ((k + 1 : Nat) : Int) := by omega
  have ej : (j : Int) + 1 = ((j + 1 : Nat) : Int) := by omega
  have eg : (g : Int) + 1 = ((g + 1 : Nat) : Int) := by omega
  have lk : ∀ (xs : List D) (n : Nat), (xs.take n).length ≤ xs.length := fun xs n => by rw [List.length_take]; omega
  have ld : ∀ (xs : List D) (n : Nat), (xs.drop n).length ≤ xs.length := fun xs n => by rw [List.length_drop]; omega
  have wl' : (iw ws).length = L := by rw [List.length_map]; exact wl
  have cat1 : ∀ (xs : List D) (n : Nat) (x : D), xs.length ≤ 10 → pAdd (.tuple (xs.take n)) (.tuple [x]) = some (.tuple (xs.take n ++ [x])) := fun xs n x h => catT_ok (by have := lk xs n; simp only [List.length_cons, List.length_nil]; omega)
  have cat2 : ∀ (xs : List D) (n : Nat) (x : D), xs.length ≤ 10 → pAdd (.tuple (xs.take n ++ [x])) (.tuple (xs.drop (n + 1))) = some (.tuple (xs.take n ++ [x] ++ xs.drop (n + 1))) := fun xs n x h => catT_ok (by have := lk xs n; have := ld xs (n + 1); simp only [List.length_append, List.length_cons, List.length_nil]; omega)
  have a1 : ∀ x, _ := fun x => cat1 al j x (by omega)
  have a2 : ∀ x, _ := fun x => cat2 al j x (by omega)
  have t1 : ∀ x, _ := fun x => cat1 tab k x (by omega)
  have t2 : ∀ x, _ := fun x => cat2 tab k x (by omega)
  have w1 : ∀ x, _ := fun x => cat1 (iw ws) g x (by omega)
  have w2 : ∀ x, _ := fun x => cat2 (iw ws) g x (by omega)
  have t3 : pAdd (.tuple tab) (.tuple (tab.take 1)) = some (.tuple (tab ++ tab.take 1)) := catT_ok (by have := lk tab 1; omega)
  have c3 : pAdd (ckD S tab al) (.tuple [.int 0]) = some (.tuple [.int (S : Int), .tuple tab, .tuple al, .int 0]) := catT_ok (by simp)
  have sl1 : ∀ xs : List D, pSl (.tuple xs) none (some 1) = some (.tuple (xs.take 1)) := fun xs => slTT (k := 1)
  have sl2 : pSl (ckD S tab al) none (some 2) = some (.tuple [.int (S : Int), .tuple tab]) := slTT (k := 2)
  have lC : ∀ xs ys : List D, xs.length ≤ 100 → ys.length ≤ 100 → pAdd (.list xs) (.list ys) = some (.list (xs ++ ys)) := fun xs ys h1 h2 => catL_ok (by omega)
  simp only [R.slH, R.slL, oI, slTT, slDT, slD1T, sl1, sl2, ixT hx, addK, ek, ej, eg, a1, a2, t1, t2, w1, w2, t3, c3, R.ok_bind, R.of_some, tup0, tup1, tup2, tup3, pListT, pRevT', rngK (show S ≤ 100000 by omega), tup_ok (show (rangeF 0 S).length ≤ 100000 by rw [rangeF_length]; omega), lst_ok, catL_ok, List.length_nil, List.length_cons, List.length_append, Nat.reduceAdd, Nat.reduceLeDiff, List.cons_append, List.nil_append]
  repeat with_reducible refine Al.assoc ?_
  refine Al.seq (N := 1) (one_al (by simp) (by simp)) fun w hw => ?_
  rw [R.fin_rt]
  refine Al.ok ?_
  have up : ∀ {m : Nat} {x : D}, okB 63 m x = true → ∀ n, m ≤ n → okB 63 n x = true := fun {m x} h n hn => by
    obtain ⟨q, rfl⟩ := Nat.exists_eq_add_of_le hn
    exact szB_to q h
  have P3 : ∀ a b c : D, okB 63 6 a = true → okB 63 6 b = true → okB 63 6 c = true → okB 63 7 (.tuple [a, b, c]) = true := fun a b c h1 h2 h3 => okB_tup.mpr ⟨by simp, fun x hx => by
    simp at hx
    rcases hx with rfl | rfl | rfl <;> assumption⟩
  have mem3 : ∀ {xs : List D} {n : Nat} {x y : D}, y ∈ xs.take n ++ [x] ++ xs.drop (n + 1) → y ∈ xs ∨ y = x := fun {xs n x y} h => by
    simp only [List.mem_append, List.mem_singleton] at h
    rcases h with (h | h) | h
    · exact .inl (List.mem_of_mem_take h)
    · exact .inr h
    · exact .inl (List.mem_of_mem_drop h)
  have row3 : ∀ {xs : List D} {n m : Nat} {x : D}, xs.length ≤ 10 → (∀ y ∈ xs, okB 63 m y = true) → okB 63 m x = true → okB 63 (m + 1) (.tuple (xs.take n ++ [x] ++ xs.drop (n + 1))) = true := fun {xs n m x} hl h hx => okB_tup.mpr ⟨by have := lk xs n; have := ld xs (n + 1); simp only [List.length_append, List.length_cons, List.length_nil]; omega, fun y hy => by
    rcases mem3 hy with z | rfl
    · exact h y z
    · exact hx⟩
  have s0 : okB 63 6 (.int (S : Int)) = true := rfl
  have tT : okB 63 6 (.tuple tab) = true := up (okB_tup.mpr ⟨by omega, okT⟩) 6 (by decide)
  have tA : okB 63 6 (.tuple al) = true := up (okB_tup.mpr ⟨by omega, okA⟩) 6 (by decide)
  have lT : okB 63 6 (.list tab) = true := up (okB_lst.mpr ⟨by omega, okT⟩) 6 (by decide)
  have lA : okB 63 6 (.list al) = true := up (okB_lst.mpr ⟨by omega, okA⟩) 6 (by decide)
  have tAx : ∀ x, okB 63 3 x = true → okB 63 6 (.tuple (al.take j ++ [x] ++ al.drop (j + 1))) = true := fun x hx => up (row3 (by omega) okA hx) 6 (by decide)
  have tTx : ∀ x, okB 63 3 x = true → okB 63 6 (.tuple (tab.take k ++ [x] ++ tab.drop (k + 1))) = true := fun x hx => up (row3 (by omega) okT hx) 6 (by decide)
  have rW : okB 63 3 (.tuple ((iw ws).take g ++ [odd] ++ (iw ws).drop (g + 1))) = true := row3 (by omega) (fun y hy => by
    obtain ⟨v, _, rfl⟩ := iw_mem hy
    rfl) hodd
  have o1 : okB 63 3 (.tuple [odd]) = true := okB_tup.mpr ⟨by simp, fun x hx => by
    simp at hx
    subst hx
    exact hodd⟩
  have o2 : okB 63 3 (.tuple [.int 0, odd]) = true := okB_tup.mpr ⟨by simp, fun x hx => by
    simp at hx
    rcases hx with rfl | rfl
    · rfl
    · exact hodd⟩
  have tT1 : okB 63 6 (.tuple (tab.drop 1)) = true := up (okB_tup.mpr ⟨by have := ld tab 1; omega, fun x hx => okT x (List.mem_of_mem_drop hx)⟩) 6 (by decide)
  have tA1 : okB 63 6 (.tuple (al.drop 1)) = true := up (okB_tup.mpr ⟨by have := ld al 1; omega, fun x hx => okA x (List.mem_of_mem_drop hx)⟩) 6 (by decide)
  have tTT : okB 63 6 (.tuple (tab ++ tab.take 1)) = true := up (okB_tup.mpr ⟨by have := lk tab 1; rw [List.length_append]; omega, fun x hx => by
    rcases List.mem_append.mp hx with z | z
    · exact okT x z
    · exact okT x (List.mem_of_mem_take z)⟩) 6 (by decide)
  have tTr : okB 63 6 (.tuple tab.reverse) = true := up (okB_tup.mpr ⟨by rw [List.length_reverse]; omega, fun x hx => okT x (List.mem_reverse.mp hx)⟩) 6 (by decide)
  have lW : okB 63 3 (.list (iw ws)) = true := okB_lst.mpr ⟨by omega, fun y hy => by
    obtain ⟨v, _, rfl⟩ := iw_mem hy
    rfl⟩
  have rg : okB 63 3 (.tuple (rangeF 0 S)) = true := okB_tup.mpr ⟨by rw [rangeF_length]; omega, fun y hy => by
    obtain ⟨v, _, _, rfl⟩ := rangeF_mem hy
    rfl⟩
  simp only [List.mem_cons, List.not_mem_nil, or_false, List.append_assoc, List.cons_append, List.nil_append] at hw tAx tTx rW
  have o3 : okB 63 3 odd = true := up hodd 3 (by decide)
  have z2 : okB 63 3 (.tuple [.int 0, .int 0]) = true := by decide
  have z0 : okB 63 3 (.tuple []) = true := by decide
  rcases hw with rfl | rfl | rfl | rfl | rfl | rfl | rfl | rfl | rfl | rfl | rfl | rfl | rfl | rfl | rfl | rfl | rfl | rfl | rfl | rfl | rfl | rfl | rfl | rfl
  all_goals first
    | (refine P3 _ _ _ ?_ ?_ ?_ <;> first | exact s0 | exact tT | exact tA | exact lT | exact lA | exact tT1 | exact tA1 | exact tTT | exact tTr | exact tTx _ rW | exact tTx _ lW | exact tAx _ o3 | exact tAx _ o1 | exact tAx _ o2 | exact tAx _ rg | exact tAx _ z2 | exact tAx _ z0 | rfl)
    | (refine okB_lst.mpr ⟨by simp, fun x hx => ?_⟩
       simp at hx
       rcases hx with rfl | rfl | rfl <;> assumption)
    | (refine okB_tup.mpr ⟨by simp, fun x hx => ?_⟩
       simp at hx
       rcases hx with rfl | rfl <;> assumption)
    | (refine okB_tup.mpr ⟨by simp, fun x hx => ?_⟩
       simp at hx
       rcases hx with rfl | rfl | rfl | rfl <;> first | assumption | rfl)
    | rfl
end K
end Pu

set_option maxHeartbeats 1000000
namespace Pu
open PySem PySem.Spec L2
/-- a comprehension that draws, item by item -/
theorem lcM_rel {T : Type} {dec : D → Option T} {me : T → R D} {P : D → D → Prop} {N : Nat} :
    ∀ (ds : List D), (∀ d ∈ ds, ∃ t, dec d = some t ∧ Al N (R.nx (me t)) (P d)) → Al (ds.length * N) (lcM dec (fun _ => .ok true) me ds) fun ys => ys.length = ds.length ∧ ∀ (i : Nat) (d y : D), ds[i]? = some d → ys[i]? = some y → P d y
  | [], h => Al.ok ⟨rfl, by simp⟩
  | d :: ds, h => by
    obtain ⟨t, e, q⟩ := h d (List.mem_cons_self ..)
    unfold lcM
    rw [e, R.of_some]
    simp only [R.ok_bind, R.nx_ok, if_true]
    refine q.bind (M := ds.length * N) (fun y hy => ?_) (by rw [List.length_cons, Nat.succ_mul]; omega)
    refine (lcM_rel ds fun d hd => h d (List.mem_cons_of_mem _ hd)).bind (M := 0) (fun ys hys => Al.ok ⟨by simp [hys.1], ?_⟩) (by omega)
    intro i d' y' h1 h2
    cases i with
    | zero =>
      simp at h1 h2
      subst h1 h2
      exact hy
    | succ i => exact hys.2 i d' y' (by simpa using h1) (by simpa using h2)
theorem lcD_rel {T : Type} {dec : D → Option T} {me : T → R D} {P : D → D → Prop} {N : Nat} (ds : List D) (hl : ds.length ≤ LINE) (h : ∀ d ∈ ds, ∃ t, dec d = some t ∧ Al N (R.nx (me t)) (P d)) : Al (ds.length * N) (lcD dec (fun _ => .ok true) me ds) fun ys => ys.length = ds.length ∧ ∀ (i : Nat) (d y : D), ds[i]? = some d → ys[i]? = some y → P d y := by
  unfold lcD
  rw [if_pos hl]
  exact lcM_rel ds h
theorem cells1 (xs : List D) (lo hi : Nat) (h : lo ≤ 100) (h' : hi ≤ 100) : ∃ n : Nat, n ≤ max lo hi ∧ R.un pRng1 (R.blt (f2 pMax2) [.ok (.int (lo : Int)), (R.blt (f2 pMin2) [.ok (.int (hi : Int)), (R.blt (f1 pLen) [.ok (.list xs)])])]) = .ok (rangeF 0 n) := by
  refine ⟨max lo (min hi xs.length), by omega, ?_⟩
  have e1 : f2 pMin2 [PyData.int (hi : Int), .int (xs.length : Int)] = some (.int ((min hi xs.length : Nat) : Int)) := by
    show some (PyData.int (if (xs.length : Int) < hi then (xs.length : Int) else hi)) = _
    congr 2
    split <;> omega
  have e2 : f2 pMax2 [PyData.int (lo : Int), .int ((min hi xs.length : Nat) : Int)] = some (.int ((max lo (min hi xs.length) : Nat) : Int)) := by
    show some (PyData.int (if ((min hi xs.length : Nat) : Int) > lo then ((min hi xs.length : Nat) : Int) else lo)) = _
    congr 2
    split <;> omega
  simp only [R.un, R.blt, R.sq, R.ok_bind, lenL, R.of_some, e1, e2]
  rw [rngK (by omega), R.of_some]
/-- a law's loop over cells -/
theorem Al.thenF' {mi : R (List D)} {n N K : Nat} {step : D → Unit → R (Fl Unit Unit D)} (e : mi = .ok (rangeF 0 n)) (h : ∀ d ∈ rangeF 0 n, Al N (step d ()) fun fl => ∃ s', fl = .nx s' ∧ True) (hK : n * N ≤ K) : Al K (R.fin (α := Empty) (mi >>= fun ds => Fl.then (forR decN step ds ()) fun s1 => (R.ok (.bool true) >>= fun d => .ok (.rt d)))) fun d => d = .bool true := by
  rw [e, R.ok_bind]
  refine Al.thenF (K := K) (N := (rangeF 0 n).length * N) (M := 0) (I := fun _ => True) (forR_al (I := fun _ => True) (N := N) _ () (fun d hd => ⟨d, rfl, fun _ _ => h d hd⟩) trivial) (fun s _ => Al.ok rfl) (by rw [rangeF_length]; omega)
namespace K
section
variable {C L S : Nat} {rs tab al : List D}
theorem nice_iw {n : Nat} {ws : List Nat} (h : ws.length ≤ 1000) : nice (n + 1) (.tuple (iw ws)) := ⟨by rw [List.length_map]; exact h, fun x hx => by
  obtain ⟨w, _, rfl⟩ := iw_mem hx
  cases n <;> trivial⟩
theorem nice_at {n a : Nat} {ws : List Nat} (h : ws.length ≤ 1000) : nice (n + 2) (atD a ws) := ⟨by simp, fun x hx => by
  simp at hx
  rcases hx with rfl | rfl
  · trivial
  · exact nice_iw h⟩
theorem step11_al (F : Fr C L rs) (K : Ck S L tab al rs.length) (t : D) : Al 14 (lb_law_11 (sysD C L rs) (ckD S tab al) t ()) fun fl => ∃ s', fl = .nx s' ∧ True := by
  have hC1 := F.c1
  have hC3 := F.c3
  have hL1 := F.l1
  have hL3 := F.l3
  have hS1 := K.s1
  have hS3 := K.s3
  refine Al.seq (N := 7) (P := fun d => ∃ (a : Nat) (ws : List Nat), d = atD a ws ∧ a < C ∧ ws.length ≤ 5 ∧ ∀ w ∈ ws, w < L) (by
    simp only [R.tup, R.cal, R.bin, R.blt, R.lc, R.un, R.sq, R.ok_bind, ix0, ix1, R.of_some, R.bind_assoc]
    refine Al.seq (N := 1) (draw_al (by omega) (by omega)) fun a ha => ?_
    obtain ⟨a, ha, rfl⟩ := ha
    refine Al.seq (N := 1) (draw_al (by decide) (by decide)) fun n hn => ?_
    obtain ⟨n, hn, rfl⟩ := hn
    simp only [rngK (show n ≤ 100000 by omega), R.of_some, R.ok_bind]
    have lc := lcD_al (dec := decN) (me := fun t13 => l__law_draw [.int (L : Int)]) (P := fun y => ∃ v : Nat, y = .int (v : Int) ∧ v < L) (N := 1) (rangeF 0 n) (LINE_big (by rw [rangeF_length]; omega)) fun d hd => ⟨d, rfl, (draw_al (by omega) (by omega)).nx.more (fun y hy => by
      obtain ⟨v, hv, rfl⟩ := hy
      exact ⟨v, rfl, by omega⟩) (Nat.le_refl _)⟩
    rw [rangeF_length] at lc
    refine lc.bind (M := 0) (fun ys hy => ?_) (by omega)
    have ey : ys = iw (unN ys) := by
      unfold iw unN
      rw [List.map_map]
      conv => lhs; rw [← List.map_id ys]
      refine List.map_congr_left fun y hy' => ?_
      obtain ⟨v, rfl, _⟩ := hy.2 y hy'
      simp
    simp only [R.ok_bind, pTupleL, R.of_some, tup2]
    refine Al.ok ⟨a, unN ys, congrArg (fun z => PyData.tuple [.int (a : Int), .tuple z]) ey, by omega, by simp [unN, hy.1]; omega, fun w hw => ?_⟩
    obtain ⟨d, hd, rfl⟩ := List.mem_map.mp hw
    obtain ⟨v, rfl, hv⟩ := hy.2 d hd
    simpa using hv) fun v14 h14 => ?_
  obtain ⟨a, ws, rfl, ha, hw5, hw⟩ := h14
  have mk := marks_p K hw (by omega)
  obtain ⟨md1, md2⟩ := mks_div K hw
  have ml : (mks tab S 0 ws).length = ws.length := mks_length
  refine Al.eqb (a := atD a (mks tab S 0 ws)) (by simp only [R.tup, R.bin, R.cal, R.sq, R.ok_bind, ix0, ix1, R.of_some, mk, tup2]) ?_
  have l4 : ∀ a b c d : D, mkLst [a, b, c, d] = some (.list [a, b, c, d]) := fun _ _ _ _ => lst_ok (by simp)
  have u1 := unmarked_p F K ha md2 (show (mks tab S 0 ws).length ≤ 100 by omega)
  rw [md1, if_pos rfl] at u1
  let row : List D := [.int (stf tab 0 ws : Int), .list (uck rs al tab a ws), atD a (mks tab S 0 ws), atD a ws]
  refine Al.eqb (a := .list row) (by simp only [R.lst, R.cal, R.bin, R.sq, R.ok_bind, ix1, R.of_some, state_below_p F K hw (show ws.length ≤ 100 by omega), usable_checked_p F K ha hw (show ws.length ≤ 100 by omega), marked_p F K ha hw (show ws.length ≤ 100 by omega), u1, l4, row]) ?_
  have nr : nice 11 (.list row) := ⟨by simp [row], fun x hx => by
    simp only [row, List.mem_cons, List.not_mem_nil, or_false] at hx
    rcases hx with rfl | rfl | rfl | rfl
    · trivial
    · refine ⟨?_, fun y hy => ?_⟩
      · have := F.r8
        have := usl_len (rs := rs) (a := a) (ws := ws)
        have := List.length_filter_le (letB al (stf tab 0 (ws.drop 1))) (usl rs a ws)
        unfold uck
        omega
      · unfold uck at hy
        obtain ⟨k, _, rfl⟩ := usl_mem (List.mem_filter.mp hy).1
        trivial
    · exact nice_at (by omega)
    · exact nice_at (by omega)⟩
  refine Al.eqb (a := false) (by
    have e := alike_refl 11 _ nr
    simp only [R.tnt, R.tru, R.lst, R.cal, R.bin, R.sq, R.ok_bind, ix1, R.of_some, below_p K hw, law_usable_p K F.ru a hw, l4]
    simp only [row] at e ⊢
    rw [e]
    simp) ?_
  rw [if_neg Bool.false_ne_true]
  refine Al.seq (N := 5) (P := fun d => ∃ vs : List Nat, d = atD a vs ∧ vs.map (· / S) = ws ∧ ∀ v ∈ vs, v < L * S) (by
    have lc := lcD_rel (dec := decN) (me := fun t17 => (R.bin pAdd (R.bin pMul (R.bin pDiv (.ok t17) (R.bin pIx (.ok (ckD S tab al)) (.ok (.int 0)))) (R.bin pIx (.ok (ckD S tab al)) (.ok (.int 0)))) (R.cal (l__law_draw) [(R.bin pIx (.ok (ckD S tab al)) (.ok (.int 0)))]))) (P := fun d y => ∃ s v : Nat, d = .int (s : Int) ∧ y = .int (v : Int) ∧ v / S = s / S ∧ v < L * S) (N := 1) (iw (mks tab S 0 ws)) (LINE_big (by rw [List.length_map]; omega)) fun d hd => by
      obtain ⟨s, hs, rfl⟩ := iw_mem hd
      refine ⟨_, rfl, ?_⟩
      have hs2 := md2 s hs
      have hq : s / S < L := Nat.div_lt_of_lt_mul (by rw [Nat.mul_comm]; exact hs2)
      have m := mulN (a := s / S) (b := S) (by omega) (by omega)
      simp only [R.bin, R.cal, R.sq, R.ok_bind, ix0, R.of_some, divN (show 0 < S by omega) (show S < 1000 by omega), m, R.nx_bind]
      refine Al.seq (N := 1) (draw_al (by omega) (by omega)).nx fun y hy => ?_
      obtain ⟨i, hi, rfl⟩ := hy
      simp only [addK, R.of_some, R.nx_ok]
      have hi : i < S := by omega
      refine Al.ok ⟨s, s / S * S + i, rfl, by simp, ?_, ?_⟩
      · rw [Nat.mul_comm, Nat.mul_add_div (by omega), Nat.div_eq_of_lt hi, Nat.add_zero]
      · have : s / S * S + S ≤ L * S := by rw [← Nat.succ_mul]; exact Nat.mul_le_mul_right S hq
        omega
    simp only [R.tup, R.blt, R.lc, R.un, R.bin, R.cal, R.sq, R.ok_bind, ix0, ix1, R.of_some, pSeqT, R.bind_assoc] at lc ⊢
    refine lc.bind (M := 0) (fun ys hy => ?_) (by rw [List.length_map]; omega)
    simp only [R.ok_bind, pTupleL, R.of_some, tup2]
    have pt : ∀ i (h : i < ys.length), ∃ v : Nat, ys[i] = .int (v : Int) ∧ v < L * S ∧ ∃ s, (mks tab S 0 ws)[i]? = some s ∧ v / S = s / S := fun i h => by
      have hl : i < (mks tab S 0 ws).length := by have := hy.1; rw [List.length_map] at this; omega
      have hx : (mks tab S 0 ws)[i]? = some (mks tab S 0 ws)[i] := by simp [hl]
      obtain ⟨s, v, e1, e2, e3, e4⟩ := hy.2 i _ _ (iw_get hx) (List.getElem?_eq_getElem h)
      simp only [PyData.int.injEq, Int.natCast_inj] at e1
      exact ⟨v, e2, e4, s, by rw [hx, e1], e3⟩
    have ey : ys = iw (unN ys) := by
      unfold iw unN
      rw [List.map_map]
      conv => lhs; rw [← List.map_id ys]
      refine List.map_congr_left fun y hy' => ?_
      obtain ⟨i, hi, rfl⟩ := List.getElem_of_mem hy'
      obtain ⟨v, e, _⟩ := pt i hi
      simp [e]
    refine Al.ok ⟨unN ys, congrArg (fun z => PyData.tuple [.int (a : Int), .tuple z]) ey, ?_, fun w hw => ?_⟩
    · conv => rhs; rw [← md1]
      refine List.ext_getElem? fun i => ?_
      by_cases h : i < ys.length
      · obtain ⟨v, e1, _, s, e3, e4⟩ := pt i h
        simp [unN, h, e1, e3, e4]
      · have hl := hy.1
        rw [List.length_map] at hl
        rw [List.getElem?_eq_none (by simp [unN]; omega), List.getElem?_eq_none (by rw [List.length_map]; omega)]
    · obtain ⟨d, hd, rfl⟩ := List.mem_map.mp hw
      obtain ⟨i, hi, rfl⟩ := List.getElem_of_mem hd
      obtain ⟨v, e1, e2, _⟩ := pt i hi
      rw [e1]
      simpa using e2) fun v18 h18 => ?_
  obtain ⟨vs, rfl, v1, v2⟩ := h18
  have vl : vs.length = ws.length := by rw [← v1, List.length_map]
  have u2 := unmarked_p F K ha v2 (show vs.length ≤ 100 by omega)
  rw [v1] at u2
  haveI := Classical.propDecidable (atD a vs = atD a (mks tab S 0 ws))
  have eq := (eqPd (at_pure a vs) (at_pure a (mks tab S 0 ws))).1
  have ei : decide (atD a vs = atD a (mks tab S 0 ws)) = decide (mks tab S 0 ws = vs) := by
    by_cases h : mks tab S 0 ws = vs
    · simp [h]
    · have : ¬ atD a vs = atD a (mks tab S 0 ws) := fun z => h (at_inj z).symm
      simp only [h, this, decide_false]
  have e12 : l__law_alike 12 [(if mks tab S 0 ws = vs then atD a ws else .none), (if mks tab S 0 ws = vs then atD a ws else .none)] = .ok (.bool true) := by
    refine alike_refl 11 _ ?_
    split
    · exact nice_at (by omega)
    · trivial
  have eit : ∀ (x y : D), (if decide (mks tab S 0 ws = vs) = true then (R.ok x : R D) else R.ok y) = R.ok (if mks tab S 0 ws = vs then x else y) := fun x y => by by_cases h : mks tab S 0 ws = vs <;> simp [h]
  simp only [R.tnt, R.tru, R.cal, R.ite, R.tcmp, R.sq, R.ok_bind, u2, eq, ei, R.of_some, eit, e12, truB, Bool.not_true, Bool.false_eq_true, if_false]
  exact Al.ok ⟨_, rfl, trivial⟩
theorem step19_al (F : Fr C L rs) (K : Ck S L tab al rs.length) (i : Nat) : Al 10 (lb_law_19 (ckD S tab al) (sysD C L rs) (.int (i : Int)) ()) fun fl => ∃ s', fl = .nx s' ∧ True := by
  refine Al.seq (N := 10) (P := fun d => okB 63 7 d = true) (by
    simp only [R.ite, R.tcmp, R.cal, R.sq, R.ok_bind, eqK, R.of_some]
    by_cases h : (i : Int) = 0
    · rw [if_pos (decide_eq_true h)]
      exact Al.ok (szB_to 3 (ck_ok K))
    · rw [if_neg (by simp; omega)]
      exact bent_al F K) fun d hd => ?_
  have h1 := check_p _ F.sz
  rw [F.fa] at h1
  simp [isN] at h1
  have e1 := are_p (c := (C : Int)) (l := (L : Int)) (rs := rs) d hd (by decide)
  have e2 := law_are_p (c := (C : Int)) (l := (L : Int)) (rs := rs) d hd (by decide)
  have e3 : l_are_checks [sysD C L rs, d] = .ok (.bool (isCk (L : Int) rs.length d)) := by
    simp only [l_are_checks, R.cal, R.sq, R.ok_bind, h1, e1, R.fin_rt]
  have e4 := alike_refl 11 (.bool (isCk (L : Int) rs.length d)) trivial
  simp only [R.tnt, R.tru, R.cal, R.sq, R.ok_bind, e2, e3, e4, truB, R.of_some, Bool.not_true, Bool.false_eq_true, if_false]
  exact Al.ok ⟨_, rfl, trivial⟩
end
theorem law_true (ns : List Int) (hn : ns.length ≤ 63) : Al CMAX (l_law [.list (ns.map .int)]) fun d => d = .bool true := by
  obtain ⟨n, hn4, em⟩ := cells1 (ns.map .int) 1 4 (by decide) (by decide)
  simp only [l_law]
  refine Al.thenF' em (N := 300) (fun d hd => ?_) (by
    have : 4 * 300 ≤ CMAX := by decide +kernel
    have : n * 300 ≤ 4 * 300 := Nat.mul_le_mul_right _ hn4
    omega)
  obtain ⟨at_, _, hat, rfl⟩ := rangeF_mem hd
  obtain ⟨x, y, e1, x1, x2, y1, y2⟩ := pot_p ns at_ (by omega)
  have hj : jarD (.list [.int x, .int y, .int (11 * at_ + 1)]) = true := by
    have z1 : (10 ^ 240 : Int) < 2 ^ 1000 := by decide +kernel
    have z2 : (1000 : Int) < 2 ^ 1000 := by decide +kernel
    have z3 : 1000 ≤ CMAX := by decide +kernel
    exact cIf_pos ⟨x1, by omega, y1, by omega, by omega, by omega⟩
  refine Al.eqb (a := .list [.int x, .int y, .int (11 * at_ + 1)]) (by simp only [R.cal, R.sq, R.ok_bind, e1]) ?_
  rw [if_pos hj]
  refine Al.seq (N := 62) (P := fun d => ∃ (C L : Nat) (rs : List D), d = sysD C L rs ∧ Fr C L rs) (by
    simp only [R.cal, R.bin, R.lst, R.sq, R.ok_bind, R.bind_assoc]
    refine Al.seq (N := 1) (draw_al (by decide) (by decide)) fun a ha => ?_
    obtain ⟨c, hc, rfl⟩ := ha
    simp only [addK, R.of_some, R.ok_bind]
    refine Al.seq (N := 1) (draw_al (by decide) (by decide)) fun a ha => ?_
    obtain ⟨l, hl, rfl⟩ := ha
    simp only [addK, R.of_some, R.ok_bind, lst_ok, List.length_nil, List.length_cons, Nat.reduceAdd, Nat.reduceLeDiff]
    rw [show (1 : Int) + (c : Int) = ((c + 1 : Nat) : Int) by omega, show (1 : Int) + (l : Int) = ((l + 1 : Nat) : Int) by omega]
    refine (frame_al (C := c + 1) (L := l + 1) (n := 6) (ls := [0, 1, 2]) (by omega) (by omega) (by omega) (by omega) (by decide) (by decide) (by decide) (by decide) (by decide)).more (fun d hd => ?_) (by decide)
    obtain ⟨rs, e, F, _⟩ := hd
    exact ⟨_, _, rs, e, F⟩) fun v4 h4 => ?_
  obtain ⟨C, L, rs, rfl, F⟩ := h4
  refine Al.seq (N := 60) (P := fun d => ∃ (S : Nat) (tab al : List D), d = ckD S tab al ∧ Ck S L tab al rs.length) (by
    simp only [R.cal, R.sq, R.ok_bind]
    exact checks_al F) fun v5 h5 => ?_
  obtain ⟨S, tab, al, rfl, K⟩ := h5
  obtain ⟨es, he, hel, hE⟩ := ents_sorted K F.ru
  have lr := law_rules_p K F.ru
  rw [he, R.of_some] at lr
  refine Al.eqb (a := .list es) (by simp only [R.cal, R.sq, R.ok_bind, lr]) ?_
  have hm := mulN (a := L) (b := S) (by have := F.l3; omega) (by have := K.s3; omega)
  have e5 : ((L : Int) * S) = ((L * S : Nat) : Int) := by simp
  have lf := lcD_map (dec := decN) (me := fun t7 => (R.bin pIx (.ok t7) (.ok (.int 0)))) (g := fst1) es (LINE_big (by omega)) fun d hd => by
    obtain ⟨p, g, q, k, ws, rfl, _⟩ := (hE d hd).ex
    exact ⟨_, rfl, by simp only [R.bin, R.ok_bind, ix0, R.of_some]; rfl⟩
  simp only [R.bin, R.ok_bind] at lf
  let due : D := .tuple [.int (C : Int), .int ((L * S : Nat) : Int), .tuple (es.map fst1)]
  refine Al.eqb (a := due) (by simp only [R.tup, R.blt, R.lc, R.un, R.bin, R.sq, R.ok_bind, ix0, ix1, R.of_some, hm, e5, pSeqL, lf, pTupleL, tup3, due]) ?_
  have nd : nice 11 due := ⟨by simp, fun x hx => by
    simp only [List.mem_cons, List.not_mem_nil, or_false] at hx
    rcases hx with rfl | rfl | rfl
    · trivial
    · trivial
    · refine ⟨by rw [List.length_map]; omega, fun y hy => ?_⟩
      obtain ⟨d, hd, rfl⟩ := List.mem_map.mp hy
      obtain ⟨p, g, q, k, ws, rfl, _, hw⟩ := (hE d hd).ex
      refine ⟨by simp, fun z hz => ?_⟩
      simp only [List.mem_cons, List.not_mem_nil, or_false] at hz
      rcases hz with rfl | rfl | rfl | rfl
      · trivial
      · trivial
      · trivial
      · exact nice_iw (by omega)⟩
  have ed := alike_refl 11 due nd
  have em := marked_system_p F K he hel hE
  have em' : R.tnt (R.tru (R.cal (l__law_alike 12) [(R.cal (l_marked_system) [.ok (sysD C L rs), .ok (ckD S tab al)]), .ok due])) = .ok false := by
    simp only [R.tnt, R.tru, R.cal, R.sq, R.ok_bind, em]
    rw [show (PyData.tuple [.int (C : Int), .int ((L * S : Nat) : Int), .tuple (es.map fst1)]) = due from rfl, ed]
    simp
  refine Al.eqb em' ?_
  rw [if_neg Bool.false_ne_true]
  refine Al.eqb (a := false) (by
    have l1 := lcD_map (dec := decN) (me := fun t10 => (R.cal (l_rule_told) [.ok (sysD C L rs), .ok (ckD S tab al), .ok t10])) (g := fun d => match d with | .int k => snd1 ((es[k.toNat]?).getD .none) | _ => .none) (rangeF 0 es.length) (LINE_big (by rw [rangeF_length]; omega)) fun d hd => by
      obtain ⟨k, _, hk, rfl⟩ := rangeF_mem hd
      have hk : k < es.length := by omega
      refine ⟨_, rfl, ?_⟩
      simp only [R.cal, R.sq, R.ok_bind, rule_told_p F K he hE hk, Int.toNat_natCast]
      simp [hk]
    have l2 := lcD_map (dec := decN) (me := fun t9 => (R.bin pIx (.ok t9) (.ok (.int 1)))) (g := snd1) es (LINE_big (by omega)) fun d hd => by
      obtain ⟨p, g, q, k, ws, rfl, _⟩ := (hE d hd).ex
      exact ⟨_, rfl, by simp only [R.bin, R.ok_bind, ix1, R.of_some]; rfl⟩
    have l3 : (rangeF 0 es.length).map (fun d => match d with | .int k => snd1 ((es[k.toNat]?).getD .none) | _ => .none) = es.map snd1 := by
      refine List.ext_getElem? fun k => ?_
      by_cases hk : k < es.length
      · rw [List.getElem?_map, rangeF_get hk]
        simp [hk]
      · rw [List.getElem?_eq_none (by rw [List.length_map, rangeF_length]; omega), List.getElem?_eq_none (by rw [List.length_map]; omega)]
    rw [l3] at l1
    have ns : nice 11 (.list (es.map snd1)) := ⟨by rw [List.length_map]; omega, fun y hy => by
      obtain ⟨d, hd, rfl⟩ := List.mem_map.mp hy
      obtain ⟨p, g, q, k, ws, rfl, _⟩ := (hE d hd).ex
      trivial⟩
    have e6 := alike_refl 11 _ ns
    simp only [R.cal, R.bin, R.sq, R.ok_bind] at l1 l2
    simp only [R.tnt, R.tru, R.cal, R.lc, R.un, R.bin, R.blt, R.sq, R.ok_bind, lenL, R.of_some, rngK (show es.length ≤ 100000 by omega), l1, pSeqL, l2, e6, truB, Bool.not_true]) ?_
  rw [if_neg Bool.false_ne_true]
  refine Al.eqb (a := rangeF 0 4) (by simp only [R.un, R.ok_bind, show (PyData.int 4) = .int ((4 : Nat) : Int) from rfl, rngK (show 4 ≤ 100000 by decide), R.of_some]) ?_
  refine Al.thenT (N := (rangeF 0 4).length * 14) (M := 60) (I := fun _ => True) (forR_al (I := fun _ => True) (N := 14) _ () (fun d hd => ⟨d, rfl, fun _ _ => step11_al F K d⟩) trivial) (fun _ _ => ?_) (by rw [rangeF_length]; decide)
  refine Al.eqb (a := rangeF 0 5) (by simp only [R.un, R.ok_bind, show (PyData.int 5) = .int ((5 : Nat) : Int) from rfl, rngK (show 5 ≤ 100000 by decide), R.of_some]) ?_
  refine Al.thenT (N := (rangeF 0 5).length * 10) (M := 0) (I := fun _ => True) (forR_al (I := fun _ => True) (N := 10) _ () (fun d hd => by
    obtain ⟨i, _, _, rfl⟩ := rangeF_mem hd
    exact ⟨_, rfl, fun _ _ => step19_al F K i⟩) trivial) (fun _ _ => ?_) (by rw [rangeF_length]; decide)
  refine Al.eqb em' ?_
  rw [if_neg Bool.false_ne_true]
  exact Al.ok ⟨_, rfl, trivial⟩
end K
end Pu

set_option maxHeartbeats 2000000
namespace Pu
namespace K
open PySem PySem.Spec L2 PySem.W PySem.HandSPX PySem.Calls PyProof.Rows
theorem all_mk {K : PySem.W.Frag} {h : Heap} {mg : Str → Option Value} {fa : Addr} (X : K.In h) (G : h.Ns mainGlobals mg) (hfa : mg "law" = some (.ref fa))
    {f_is_integer : Addr} {od_is_integer an_is_integer : Option Addr} {sl_is_integer : Array (Option Value)} {oc_is_integer kV_is_integer dc_is_integer pm_is_integer cd_is_integer ct_is_integer : Value}
    {f_is_from : Addr} {od_is_from an_is_from : Option Addr} {sl_is_from : Array (Option Value)} {oc_is_from kV_is_from dc_is_from pm_is_from cd_is_from ct_is_from : Value}
    {f_is_between : Addr} {od_is_between an_is_between : Option Addr} {sl_is_between : Array (Option Value)} {oc_is_between kV_is_between dc_is_between pm_is_between cd_is_between ct_is_between : Value}
    {f_is_index_of : Addr} {od_is_index_of an_is_index_of : Option Addr} {sl_is_index_of : Array (Option Value)} {oc_is_index_of kV_is_index_of dc_is_index_of pm_is_index_of cd_is_index_of ct_is_index_of : Value}
    {f_is_ascending : Addr} {od_is_ascending an_is_ascending : Option Addr} {sl_is_ascending : Array (Option Value)} {oc_is_ascending kV_is_ascending dc_is_ascending pm_is_ascending cd_is_ascending ct_is_ascending : Value}
    {f_is_word : Addr} {od_is_word an_is_word : Option Addr} {sl_is_word : Array (Option Value)} {oc_is_word kV_is_word dc_is_word pm_is_word cd_is_word ct_is_word : Value}
    {f_is_index_row : Addr} {od_is_index_row an_is_index_row : Option Addr} {sl_is_index_row : Array (Option Value)} {oc_is_index_row kV_is_index_row dc_is_index_row pm_is_index_row cd_is_index_row ct_is_index_row : Value}
    {f_is_rule : Addr} {od_is_rule an_is_rule : Option Addr} {sl_is_rule : Array (Option Value)} {oc_is_rule kV_is_rule dc_is_rule pm_is_rule cd_is_rule ct_is_rule : Value}
    {f_fault_of_system : Addr} {od_fault_of_system an_fault_of_system : Option Addr} {sl_fault_of_system : Array (Option Value)} {oc_fault_of_system kV_fault_of_system dc_fault_of_system pm_fault_of_system cd_fault_of_system ct_fault_of_system : Value}
    {f_is_configuration_of : Addr} {od_is_configuration_of an_is_configuration_of : Option Addr} {sl_is_configuration_of : Array (Option Value)} {oc_is_configuration_of kV_is_configuration_of dc_is_configuration_of pm_is_configuration_of cd_is_configuration_of ct_is_configuration_of : Value}
    {f_check_number : Addr} {od_check_number an_check_number : Option Addr} {sl_check_number : Array (Option Value)} {oc_check_number kV_check_number dc_check_number pm_check_number cd_check_number ct_check_number : Value}
    {f_check_system : Addr} {od_check_system an_check_system : Option Addr} {sl_check_system : Array (Option Value)} {oc_check_system kV_check_system dc_check_system pm_check_system cd_check_system ct_check_system : Value}
    {f_check_configuration : Addr} {od_check_configuration an_check_configuration : Option Addr} {sl_check_configuration : Array (Option Value)} {oc_check_configuration kV_check_configuration dc_check_configuration pm_check_configuration cd_check_configuration ct_check_configuration : Value}
    {f_rules_at : Addr} {od_rules_at an_rules_at : Option Addr} {sl_rules_at : Array (Option Value)} {oc_rules_at kV_rules_at dc_rules_at pm_rules_at cd_rules_at ct_rules_at : Value}
    {f_usable_in : Addr} {od_usable_in an_usable_in : Option Addr} {sl_usable_in : Array (Option Value)} {oc_usable_in kV_usable_in dc_usable_in pm_usable_in cd_usable_in ct_usable_in : Value}
    {f_are_checks_in : Addr} {od_are_checks_in an_are_checks_in : Option Addr} {sl_are_checks_in : Array (Option Value)} {oc_are_checks_in kV_are_checks_in dc_are_checks_in pm_are_checks_in cd_are_checks_in ct_are_checks_in : Value}
    {f_state_in : Addr} {od_state_in an_state_in : Option Addr} {sl_state_in : Array (Option Value)} {oc_state_in kV_state_in dc_state_in pm_state_in cd_state_in ct_state_in : Value}
    {f_is_let : Addr} {od_is_let an_is_let : Option Addr} {sl_is_let : Array (Option Value)} {oc_is_let kV_is_let dc_is_let pm_is_let cd_is_let ct_is_let : Value}
    {f_usable_checked_in : Addr} {od_usable_checked_in an_usable_checked_in : Option Addr} {sl_usable_checked_in : Array (Option Value)} {oc_usable_checked_in kV_usable_checked_in dc_usable_checked_in pm_usable_checked_in cd_usable_checked_in ct_usable_checked_in : Value}
    {f_marked_word : Addr} {od_marked_word an_marked_word : Option Addr} {sl_marked_word : Array (Option Value)} {oc_marked_word kV_marked_word dc_marked_word pm_marked_word cd_marked_word ct_marked_word : Value}
    {f_marked_rules : Addr} {od_marked_rules an_marked_rules : Option Addr} {sl_marked_rules : Array (Option Value)} {oc_marked_rules kV_marked_rules dc_marked_rules pm_marked_rules cd_marked_rules ct_marked_rules : Value}
    {f_marked_in : Addr} {od_marked_in an_marked_in : Option Addr} {sl_marked_in : Array (Option Value)} {oc_marked_in kV_marked_in dc_marked_in pm_marked_in cd_marked_in ct_marked_in : Value}
    {f_marked_configuration : Addr} {od_marked_configuration an_marked_configuration : Option Addr} {sl_marked_configuration : Array (Option Value)} {oc_marked_configuration kV_marked_configuration dc_marked_configuration pm_marked_configuration cd_marked_configuration ct_marked_configuration : Value}
    {f_check_checks : Addr} {od_check_checks an_check_checks : Option Addr} {sl_check_checks : Array (Option Value)} {oc_check_checks kV_check_checks dc_check_checks pm_check_checks cd_check_checks ct_check_checks : Value}
    {f_check_checked : Addr} {od_check_checked an_check_checked : Option Addr} {sl_check_checked : Array (Option Value)} {oc_check_checked kV_check_checked dc_check_checked pm_check_checked cd_check_checked ct_check_checked : Value}
    {f_are_checks : Addr} {od_are_checks an_are_checks : Option Addr} {sl_are_checks : Array (Option Value)} {oc_are_checks kV_are_checks dc_are_checks pm_are_checks cd_are_checks ct_are_checks : Value}
    {f_state_below : Addr} {od_state_below an_state_below : Option Addr} {sl_state_below : Array (Option Value)} {oc_state_below kV_state_below dc_state_below pm_state_below cd_state_below ct_state_below : Value}
    {f_usable_checked : Addr} {od_usable_checked an_usable_checked : Option Addr} {sl_usable_checked : Array (Option Value)} {oc_usable_checked kV_usable_checked dc_usable_checked pm_usable_checked cd_usable_checked ct_usable_checked : Value}
    {f_marked_system : Addr} {od_marked_system an_marked_system : Option Addr} {sl_marked_system : Array (Option Value)} {oc_marked_system kV_marked_system dc_marked_system pm_marked_system cd_marked_system ct_marked_system : Value}
    {f_rule_told : Addr} {od_rule_told an_rule_told : Option Addr} {sl_rule_told : Array (Option Value)} {oc_rule_told kV_rule_told dc_rule_told pm_rule_told cd_rule_told ct_rule_told : Value}
    {f_marked : Addr} {od_marked an_marked : Option Addr} {sl_marked : Array (Option Value)} {oc_marked kV_marked dc_marked pm_marked cd_marked ct_marked : Value}
    {f_unmarked : Addr} {od_unmarked an_unmarked : Option Addr} {sl_unmarked : Array (Option Value)} {oc_unmarked kV_unmarked dc_unmarked pm_unmarked cd_unmarked ct_unmarked : Value}
    {f__law_pot : Addr} {od__law_pot an__law_pot : Option Addr} {sl__law_pot : Array (Option Value)} {oc__law_pot kV__law_pot dc__law_pot pm__law_pot cd__law_pot ct__law_pot : Value}
    {f__law_draw : Addr} {od__law_draw an__law_draw : Option Addr} {sl__law_draw : Array (Option Value)} {oc__law_draw kV__law_draw dc__law_draw pm__law_draw cd__law_draw ct__law_draw : Value}
    {f__law_one : Addr} {od__law_one an__law_one : Option Addr} {sl__law_one : Array (Option Value)} {oc__law_one kV__law_one dc__law_one pm__law_one cd__law_one ct__law_one : Value}
    {f__law_alike : Addr} {od__law_alike an__law_alike : Option Addr} {sl__law_alike : Array (Option Value)} {oc__law_alike kV__law_alike dc__law_alike pm__law_alike cd__law_alike ct__law_alike : Value}
    {f__law_system : Addr} {od__law_system an__law_system : Option Addr} {sl__law_system : Array (Option Value)} {oc__law_system kV__law_system dc__law_system pm__law_system cd__law_system ct__law_system : Value}
    {f__law_whole : Addr} {od__law_whole an__law_whole : Option Addr} {sl__law_whole : Array (Option Value)} {oc__law_whole kV__law_whole dc__law_whole pm__law_whole cd__law_whole ct__law_whole : Value}
    {f__law_checks : Addr} {od__law_checks an__law_checks : Option Addr} {sl__law_checks : Array (Option Value)} {oc__law_checks kV__law_checks dc__law_checks pm__law_checks cd__law_checks ct__law_checks : Value}
    {f__law_below : Addr} {od__law_below an__law_below : Option Addr} {sl__law_below : Array (Option Value)} {oc__law_below kV__law_below dc__law_below pm__law_below cd__law_below ct__law_below : Value}
    {f__law_usable : Addr} {od__law_usable an__law_usable : Option Addr} {sl__law_usable : Array (Option Value)} {oc__law_usable kV__law_usable dc__law_usable pm__law_usable cd__law_usable ct__law_usable : Value}
    {f__law_marks : Addr} {od__law_marks an__law_marks : Option Addr} {sl__law_marks : Array (Option Value)} {oc__law_marks kV__law_marks dc__law_marks pm__law_marks cd__law_marks ct__law_marks : Value}
    {f__law_is_numbers : Addr} {od__law_is_numbers an__law_is_numbers : Option Addr} {sl__law_is_numbers : Array (Option Value)} {oc__law_is_numbers kV__law_is_numbers dc__law_is_numbers pm__law_is_numbers cd__law_is_numbers ct__law_is_numbers : Value}
    {f__law_are_checks : Addr} {od__law_are_checks an__law_are_checks : Option Addr} {sl__law_are_checks : Array (Option Value)} {oc__law_are_checks kV__law_are_checks dc__law_are_checks pm__law_are_checks cd__law_are_checks ct__law_are_checks : Value}
    {f__law_bent : Addr} {od__law_bent an__law_bent : Option Addr} {sl__law_bent : Array (Option Value)} {oc__law_bent kV__law_bent dc__law_bent pm__law_bent cd__law_bent ct__law_bent : Value}
    {f__law_marked_rules : Addr} {od__law_marked_rules an__law_marked_rules : Option Addr} {sl__law_marked_rules : Array (Option Value)} {oc__law_marked_rules kV__law_marked_rules dc__law_marked_rules pm__law_marked_rules cd__law_marked_rules ct__law_marked_rules : Value}
    {f_law : Addr} {od_law an_law : Option Addr} {sl_law : Array (Option Value)} {oc_law kV_law dc_law pm_law cd_law ct_law : Value}
    {tk_MOST_OF_A_WORD : Tok}
    {C_InvalidNumber : Addr}
    {nm_InvalidNumber q_InvalidNumber : Str} {N_InvalidNumber : Addr} {bs_InvalidNumber sub_InvalidNumber : List Value} {sn_InvalidNumber : List Str} {ab_InvalidNumber hd_InvalidNumber : Bool} {col_InvalidNumber : Option Bool} {dd_InvalidNumber : Option Addr} {z0_InvalidNumber z1_InvalidNumber z2_InvalidNumber z3_InvalidNumber z5_InvalidNumber : Option Value}
    {S_InvalidNumber NS_InvalidNumber : Addr} {nmS_InvalidNumber qS_InvalidNumber : Str} {bsS_InvalidNumber bmS_InvalidNumber subS_InvalidNumber : List Value} {snS_InvalidNumber : List Str} {abS_InvalidNumber hdS_InvalidNumber : Bool} {colS_InvalidNumber : Option Bool} {ddS_InvalidNumber : Option Addr} {y0_InvalidNumber y1_InvalidNumber y2_InvalidNumber y3_InvalidNumber y5_InvalidNumber : Option Value}
    {ec_InvalidNumber fc_InvalidNumber : Value} {ed_InvalidNumber fd_InvalidNumber : Option Addr} {ees_InvalidNumber fes_InvalidNumber : Array DictEntry} {en_InvalidNumber fn_InvalidNumber : Nat} {esl_InvalidNumber fsl_InvalidNumber : Array (Option Value)}
    {C_InvalidConfiguration : Addr}
    {nm_InvalidConfiguration q_InvalidConfiguration : Str} {N_InvalidConfiguration : Addr} {bs_InvalidConfiguration sub_InvalidConfiguration : List Value} {sn_InvalidConfiguration : List Str} {ab_InvalidConfiguration hd_InvalidConfiguration : Bool} {col_InvalidConfiguration : Option Bool} {dd_InvalidConfiguration : Option Addr} {z0_InvalidConfiguration z1_InvalidConfiguration z2_InvalidConfiguration z3_InvalidConfiguration z5_InvalidConfiguration : Option Value}
    {S_InvalidConfiguration NS_InvalidConfiguration : Addr} {nmS_InvalidConfiguration qS_InvalidConfiguration : Str} {bsS_InvalidConfiguration bmS_InvalidConfiguration subS_InvalidConfiguration : List Value} {snS_InvalidConfiguration : List Str} {abS_InvalidConfiguration hdS_InvalidConfiguration : Bool} {colS_InvalidConfiguration : Option Bool} {ddS_InvalidConfiguration : Option Addr} {y0_InvalidConfiguration y1_InvalidConfiguration y2_InvalidConfiguration y3_InvalidConfiguration y5_InvalidConfiguration : Option Value}
    {ec_InvalidConfiguration fc_InvalidConfiguration : Value} {ed_InvalidConfiguration fd_InvalidConfiguration : Option Addr} {ees_InvalidConfiguration fes_InvalidConfiguration : Array DictEntry} {en_InvalidConfiguration fn_InvalidConfiguration : Nat} {esl_InvalidConfiguration fsl_InvalidConfiguration : Array (Option Value)}
    {C_InvalidChecks : Addr}
    {nm_InvalidChecks q_InvalidChecks : Str} {N_InvalidChecks : Addr} {bs_InvalidChecks sub_InvalidChecks : List Value} {sn_InvalidChecks : List Str} {ab_InvalidChecks hd_InvalidChecks : Bool} {col_InvalidChecks : Option Bool} {dd_InvalidChecks : Option Addr} {z0_InvalidChecks z1_InvalidChecks z2_InvalidChecks z3_InvalidChecks z5_InvalidChecks : Option Value}
    {S_InvalidChecks NS_InvalidChecks : Addr} {nmS_InvalidChecks qS_InvalidChecks : Str} {bsS_InvalidChecks bmS_InvalidChecks subS_InvalidChecks : List Value} {snS_InvalidChecks : List Str} {abS_InvalidChecks hdS_InvalidChecks : Bool} {colS_InvalidChecks : Option Bool} {ddS_InvalidChecks : Option Addr} {y0_InvalidChecks y1_InvalidChecks y2_InvalidChecks y3_InvalidChecks y5_InvalidChecks : Option Value}
    {ec_InvalidChecks fc_InvalidChecks : Value} {ed_InvalidChecks fd_InvalidChecks : Option Addr} {ees_InvalidChecks fes_InvalidChecks : Array DictEntry} {en_InvalidChecks fn_InvalidChecks : Nat} {esl_InvalidChecks fsl_InvalidChecks : Array (Option Value)}
    {C_InvalidSystem : Addr}
    {i_InvalidSystem a_InvalidSystem e_InvalidSystem : Addr} {nm_InvalidSystem q_InvalidSystem : Str} {N_InvalidSystem : Addr} {bs_InvalidSystem sub_InvalidSystem : List Value} {sn_InvalidSystem : List Str} {ab_InvalidSystem : Bool} {col_InvalidSystem : Option Bool} {dd_InvalidSystem : Option Addr} {z0_InvalidSystem z1_InvalidSystem z2_InvalidSystem z3_InvalidSystem z5_InvalidSystem : Option Value}
    {S_InvalidSystem NS_InvalidSystem : Addr} {nmS_InvalidSystem qS_InvalidSystem : Str} {bsS_InvalidSystem bmS_InvalidSystem subS_InvalidSystem : List Value} {snS_InvalidSystem : List Str} {abS_InvalidSystem hdS_InvalidSystem : Bool} {colS_InvalidSystem : Option Bool} {ddS_InvalidSystem : Option Addr} {y0_InvalidSystem y1_InvalidSystem y2_InvalidSystem y3_InvalidSystem y5_InvalidSystem : Option Value}
    {foc_InvalidSystem fdoc_InvalidSystem fpm_InvalidSystem fct_InvalidSystem fkV_InvalidSystem : Value} {fod_InvalidSystem fan_InvalidSystem : Option Addr} {fosl_InvalidSystem : Array (Option Value)} {p1_InvalidSystem p2_InvalidSystem a0_InvalidSystem a1_InvalidSystem a2_InvalidSystem a3_InvalidSystem a4_InvalidSystem a5_InvalidSystem b1_InvalidSystem b2_InvalidSystem b3_InvalidSystem b4_InvalidSystem : Pos}
    {ecl_InvalidSystem : Value} {ecld_InvalidSystem : Option Addr} {ecsl_InvalidSystem : Array (Option Value)} {dcl_InvalidSystem : Value} {dcld_InvalidSystem : Option Addr} {dcsl_InvalidSystem : Array (Option Value)} {vs_InvalidSystem : Array Value} {file_InvalidSystem : Str} {tf_InvalidSystem : Tok}
    (m_is_integer : PySem.W.nsIn K mainGlobals "is_integer" = some (some (.ref f_is_integer)))
    (l_is_integer : K.lookup f_is_integer = some ⟨oc_is_integer, od_is_integer, .func (PySem.W.fnOf "is_integer" "is_integer" (defArgs s_is_integer) (defBody s_is_integer) (defScope s_is_integer) .none kV_is_integer dc_is_integer pm_is_integer an_is_integer cd_is_integer ct_is_integer), sl_is_integer⟩)
    (c_is_integer : PySem.W.codeIn K cd_is_integer "is_integer" = true)
    (k_is_integer : PySem.W.keepIn K (.ref f_is_integer) = true)
    (m_is_from : PySem.W.nsIn K mainGlobals "is_from" = some (some (.ref f_is_from)))
    (l_is_from : K.lookup f_is_from = some ⟨oc_is_from, od_is_from, .func (PySem.W.fnOf "is_from" "is_from" (defArgs s_is_from) (defBody s_is_from) (defScope s_is_from) .none kV_is_from dc_is_from pm_is_from an_is_from cd_is_from ct_is_from), sl_is_from⟩)
    (c_is_from : PySem.W.codeIn K cd_is_from "is_from" = true)
    (k_is_from : PySem.W.keepIn K (.ref f_is_from) = true)
    (m_is_between : PySem.W.nsIn K mainGlobals "is_between" = some (some (.ref f_is_between)))
    (l_is_between : K.lookup f_is_between = some ⟨oc_is_between, od_is_between, .func (PySem.W.fnOf "is_between" "is_between" (defArgs s_is_between) (defBody s_is_between) (defScope s_is_between) .none kV_is_between dc_is_between pm_is_between an_is_between cd_is_between ct_is_between), sl_is_between⟩)
    (c_is_between : PySem.W.codeIn K cd_is_between "is_between" = true)
    (k_is_between : PySem.W.keepIn K (.ref f_is_between) = true)
    (m_is_index_of : PySem.W.nsIn K mainGlobals "is_index_of" = some (some (.ref f_is_index_of)))
    (l_is_index_of : K.lookup f_is_index_of = some ⟨oc_is_index_of, od_is_index_of, .func (PySem.W.fnOf "is_index_of" "is_index_of" (defArgs s_is_index_of) (defBody s_is_index_of) (defScope s_is_index_of) .none kV_is_index_of dc_is_index_of pm_is_index_of an_is_index_of cd_is_index_of ct_is_index_of), sl_is_index_of⟩)
    (c_is_index_of : PySem.W.codeIn K cd_is_index_of "is_index_of" = true)
    (k_is_index_of : PySem.W.keepIn K (.ref f_is_index_of) = true)
    (m_is_ascending : PySem.W.nsIn K mainGlobals "is_ascending" = some (some (.ref f_is_ascending)))
    (l_is_ascending : K.lookup f_is_ascending = some ⟨oc_is_ascending, od_is_ascending, .func (PySem.W.fnOf "is_ascending" "is_ascending" (defArgs s_is_ascending) (defBody s_is_ascending) (defScope s_is_ascending) .none kV_is_ascending dc_is_ascending pm_is_ascending an_is_ascending cd_is_ascending ct_is_ascending), sl_is_ascending⟩)
    (c_is_ascending : PySem.W.codeIn K cd_is_ascending "is_ascending" = true)
    (k_is_ascending : PySem.W.keepIn K (.ref f_is_ascending) = true)
    (m_is_word : PySem.W.nsIn K mainGlobals "is_word" = some (some (.ref f_is_word)))
    (l_is_word : K.lookup f_is_word = some ⟨oc_is_word, od_is_word, .func (PySem.W.fnOf "is_word" "is_word" (defArgs s_is_word) (defBody s_is_word) (defScope s_is_word) .none kV_is_word dc_is_word pm_is_word an_is_word cd_is_word ct_is_word), sl_is_word⟩)
    (c_is_word : PySem.W.codeIn K cd_is_word "is_word" = true)
    (k_is_word : PySem.W.keepIn K (.ref f_is_word) = true)
    (m_is_index_row : PySem.W.nsIn K mainGlobals "is_index_row" = some (some (.ref f_is_index_row)))
    (l_is_index_row : K.lookup f_is_index_row = some ⟨oc_is_index_row, od_is_index_row, .func (PySem.W.fnOf "is_index_row" "is_index_row" (defArgs s_is_index_row) (defBody s_is_index_row) (defScope s_is_index_row) .none kV_is_index_row dc_is_index_row pm_is_index_row an_is_index_row cd_is_index_row ct_is_index_row), sl_is_index_row⟩)
    (c_is_index_row : PySem.W.codeIn K cd_is_index_row "is_index_row" = true)
    (k_is_index_row : PySem.W.keepIn K (.ref f_is_index_row) = true)
    (m_is_rule : PySem.W.nsIn K mainGlobals "is_rule" = some (some (.ref f_is_rule)))
    (l_is_rule : K.lookup f_is_rule = some ⟨oc_is_rule, od_is_rule, .func (PySem.W.fnOf "is_rule" "is_rule" (defArgs s_is_rule) (defBody s_is_rule) (defScope s_is_rule) .none kV_is_rule dc_is_rule pm_is_rule an_is_rule cd_is_rule ct_is_rule), sl_is_rule⟩)
    (c_is_rule : PySem.W.codeIn K cd_is_rule "is_rule" = true)
    (k_is_rule : PySem.W.keepIn K (.ref f_is_rule) = true)
    (m_fault_of_system : PySem.W.nsIn K mainGlobals "fault_of_system" = some (some (.ref f_fault_of_system)))
    (l_fault_of_system : K.lookup f_fault_of_system = some ⟨oc_fault_of_system, od_fault_of_system, .func (PySem.W.fnOf "fault_of_system" "fault_of_system" (defArgs s_fault_of_system) (defBody s_fault_of_system) (defScope s_fault_of_system) .none kV_fault_of_system dc_fault_of_system pm_fault_of_system an_fault_of_system cd_fault_of_system ct_fault_of_system), sl_fault_of_system⟩)
    (c_fault_of_system : PySem.W.codeIn K cd_fault_of_system "fault_of_system" = true)
    (k_fault_of_system : PySem.W.keepIn K (.ref f_fault_of_system) = true)
    (m_is_configuration_of : PySem.W.nsIn K mainGlobals "is_configuration_of" = some (some (.ref f_is_configuration_of)))
    (l_is_configuration_of : K.lookup f_is_configuration_of = some ⟨oc_is_configuration_of, od_is_configuration_of, .func (PySem.W.fnOf "is_configuration_of" "is_configuration_of" (defArgs s_is_configuration_of) (defBody s_is_configuration_of) (defScope s_is_configuration_of) .none kV_is_configuration_of dc_is_configuration_of pm_is_configuration_of an_is_configuration_of cd_is_configuration_of ct_is_configuration_of), sl_is_configuration_of⟩)
    (c_is_configuration_of : PySem.W.codeIn K cd_is_configuration_of "is_configuration_of" = true)
    (k_is_configuration_of : PySem.W.keepIn K (.ref f_is_configuration_of) = true)
    (m_check_number : PySem.W.nsIn K mainGlobals "check_number" = some (some (.ref f_check_number)))
    (l_check_number : K.lookup f_check_number = some ⟨oc_check_number, od_check_number, .func (PySem.W.fnOf "check_number" "check_number" (defArgs s_check_number) (defBody s_check_number) (defScope s_check_number) .none kV_check_number dc_check_number pm_check_number an_check_number cd_check_number ct_check_number), sl_check_number⟩)
    (c_check_number : PySem.W.codeIn K cd_check_number "check_number" = true)
    (k_check_number : PySem.W.keepIn K (.ref f_check_number) = true)
    (m_check_system : PySem.W.nsIn K mainGlobals "check_system" = some (some (.ref f_check_system)))
    (l_check_system : K.lookup f_check_system = some ⟨oc_check_system, od_check_system, .func (PySem.W.fnOf "check_system" "check_system" (defArgs s_check_system) (defBody s_check_system) (defScope s_check_system) .none kV_check_system dc_check_system pm_check_system an_check_system cd_check_system ct_check_system), sl_check_system⟩)
    (c_check_system : PySem.W.codeIn K cd_check_system "check_system" = true)
    (k_check_system : PySem.W.keepIn K (.ref f_check_system) = true)
    (m_check_configuration : PySem.W.nsIn K mainGlobals "check_configuration" = some (some (.ref f_check_configuration)))
    (l_check_configuration : K.lookup f_check_configuration = some ⟨oc_check_configuration, od_check_configuration, .func (PySem.W.fnOf "check_configuration" "check_configuration" (defArgs s_check_configuration) (defBody s_check_configuration) (defScope s_check_configuration) .none kV_check_configuration dc_check_configuration pm_check_configuration an_check_configuration cd_check_configuration ct_check_configuration), sl_check_configuration⟩)
    (c_check_configuration : PySem.W.codeIn K cd_check_configuration "check_configuration" = true)
    (k_check_configuration : PySem.W.keepIn K (.ref f_check_configuration) = true)
    (m_rules_at : PySem.W.nsIn K mainGlobals "rules_at" = some (some (.ref f_rules_at)))
    (l_rules_at : K.lookup f_rules_at = some ⟨oc_rules_at, od_rules_at, .func (PySem.W.fnOf "rules_at" "rules_at" (defArgs s_rules_at) (defBody s_rules_at) (defScope s_rules_at) .none kV_rules_at dc_rules_at pm_rules_at an_rules_at cd_rules_at ct_rules_at), sl_rules_at⟩)
    (c_rules_at : PySem.W.codeIn K cd_rules_at "rules_at" = true)
    (k_rules_at : PySem.W.keepIn K (.ref f_rules_at) = true)
    (m_usable_in : PySem.W.nsIn K mainGlobals "usable_in" = some (some (.ref f_usable_in)))
    (l_usable_in : K.lookup f_usable_in = some ⟨oc_usable_in, od_usable_in, .func (PySem.W.fnOf "usable_in" "usable_in" (defArgs s_usable_in) (defBody s_usable_in) (defScope s_usable_in) .none kV_usable_in dc_usable_in pm_usable_in an_usable_in cd_usable_in ct_usable_in), sl_usable_in⟩)
    (c_usable_in : PySem.W.codeIn K cd_usable_in "usable_in" = true)
    (k_usable_in : PySem.W.keepIn K (.ref f_usable_in) = true)
    (m_are_checks_in : PySem.W.nsIn K mainGlobals "are_checks_in" = some (some (.ref f_are_checks_in)))
    (l_are_checks_in : K.lookup f_are_checks_in = some ⟨oc_are_checks_in, od_are_checks_in, .func (PySem.W.fnOf "are_checks_in" "are_checks_in" (defArgs s_are_checks_in) (defBody s_are_checks_in) (defScope s_are_checks_in) .none kV_are_checks_in dc_are_checks_in pm_are_checks_in an_are_checks_in cd_are_checks_in ct_are_checks_in), sl_are_checks_in⟩)
    (c_are_checks_in : PySem.W.codeIn K cd_are_checks_in "are_checks_in" = true)
    (k_are_checks_in : PySem.W.keepIn K (.ref f_are_checks_in) = true)
    (m_state_in : PySem.W.nsIn K mainGlobals "state_in" = some (some (.ref f_state_in)))
    (l_state_in : K.lookup f_state_in = some ⟨oc_state_in, od_state_in, .func (PySem.W.fnOf "state_in" "state_in" (defArgs s_state_in) (defBody s_state_in) (defScope s_state_in) .none kV_state_in dc_state_in pm_state_in an_state_in cd_state_in ct_state_in), sl_state_in⟩)
    (c_state_in : PySem.W.codeIn K cd_state_in "state_in" = true)
    (k_state_in : PySem.W.keepIn K (.ref f_state_in) = true)
    (m_is_let : PySem.W.nsIn K mainGlobals "is_let" = some (some (.ref f_is_let)))
    (l_is_let : K.lookup f_is_let = some ⟨oc_is_let, od_is_let, .func (PySem.W.fnOf "is_let" "is_let" (defArgs s_is_let) (defBody s_is_let) (defScope s_is_let) .none kV_is_let dc_is_let pm_is_let an_is_let cd_is_let ct_is_let), sl_is_let⟩)
    (c_is_let : PySem.W.codeIn K cd_is_let "is_let" = true)
    (k_is_let : PySem.W.keepIn K (.ref f_is_let) = true)
    (m_usable_checked_in : PySem.W.nsIn K mainGlobals "usable_checked_in" = some (some (.ref f_usable_checked_in)))
    (l_usable_checked_in : K.lookup f_usable_checked_in = some ⟨oc_usable_checked_in, od_usable_checked_in, .func (PySem.W.fnOf "usable_checked_in" "usable_checked_in" (defArgs s_usable_checked_in) (defBody s_usable_checked_in) (defScope s_usable_checked_in) .none kV_usable_checked_in dc_usable_checked_in pm_usable_checked_in an_usable_checked_in cd_usable_checked_in ct_usable_checked_in), sl_usable_checked_in⟩)
    (c_usable_checked_in : PySem.W.codeIn K cd_usable_checked_in "usable_checked_in" = true)
    (k_usable_checked_in : PySem.W.keepIn K (.ref f_usable_checked_in) = true)
    (m_marked_word : PySem.W.nsIn K mainGlobals "marked_word" = some (some (.ref f_marked_word)))
    (l_marked_word : K.lookup f_marked_word = some ⟨oc_marked_word, od_marked_word, .func (PySem.W.fnOf "marked_word" "marked_word" (defArgs s_marked_word) (defBody s_marked_word) (defScope s_marked_word) .none kV_marked_word dc_marked_word pm_marked_word an_marked_word cd_marked_word ct_marked_word), sl_marked_word⟩)
    (c_marked_word : PySem.W.codeIn K cd_marked_word "marked_word" = true)
    (k_marked_word : PySem.W.keepIn K (.ref f_marked_word) = true)
    (m_marked_rules : PySem.W.nsIn K mainGlobals "marked_rules" = some (some (.ref f_marked_rules)))
    (l_marked_rules : K.lookup f_marked_rules = some ⟨oc_marked_rules, od_marked_rules, .func (PySem.W.fnOf "marked_rules" "marked_rules" (defArgs s_marked_rules) (defBody s_marked_rules) (defScope s_marked_rules) .none kV_marked_rules dc_marked_rules pm_marked_rules an_marked_rules cd_marked_rules ct_marked_rules), sl_marked_rules⟩)
    (c_marked_rules : PySem.W.codeIn K cd_marked_rules "marked_rules" = true)
    (k_marked_rules : PySem.W.keepIn K (.ref f_marked_rules) = true)
    (m_marked_in : PySem.W.nsIn K mainGlobals "marked_in" = some (some (.ref f_marked_in)))
    (l_marked_in : K.lookup f_marked_in = some ⟨oc_marked_in, od_marked_in, .func (PySem.W.fnOf "marked_in" "marked_in" (defArgs s_marked_in) (defBody s_marked_in) (defScope s_marked_in) .none kV_marked_in dc_marked_in pm_marked_in an_marked_in cd_marked_in ct_marked_in), sl_marked_in⟩)
    (c_marked_in : PySem.W.codeIn K cd_marked_in "marked_in" = true)
    (k_marked_in : PySem.W.keepIn K (.ref f_marked_in) = true)
    (m_marked_configuration : PySem.W.nsIn K mainGlobals "marked_configuration" = some (some (.ref f_marked_configuration)))
    (l_marked_configuration : K.lookup f_marked_configuration = some ⟨oc_marked_configuration, od_marked_configuration, .func (PySem.W.fnOf "marked_configuration" "marked_configuration" (defArgs s_marked_configuration) (defBody s_marked_configuration) (defScope s_marked_configuration) .none kV_marked_configuration dc_marked_configuration pm_marked_configuration an_marked_configuration cd_marked_configuration ct_marked_configuration), sl_marked_configuration⟩)
    (c_marked_configuration : PySem.W.codeIn K cd_marked_configuration "marked_configuration" = true)
    (k_marked_configuration : PySem.W.keepIn K (.ref f_marked_configuration) = true)
    (m_check_checks : PySem.W.nsIn K mainGlobals "check_checks" = some (some (.ref f_check_checks)))
    (l_check_checks : K.lookup f_check_checks = some ⟨oc_check_checks, od_check_checks, .func (PySem.W.fnOf "check_checks" "check_checks" (defArgs s_check_checks) (defBody s_check_checks) (defScope s_check_checks) .none kV_check_checks dc_check_checks pm_check_checks an_check_checks cd_check_checks ct_check_checks), sl_check_checks⟩)
    (c_check_checks : PySem.W.codeIn K cd_check_checks "check_checks" = true)
    (k_check_checks : PySem.W.keepIn K (.ref f_check_checks) = true)
    (m_check_checked : PySem.W.nsIn K mainGlobals "check_checked" = some (some (.ref f_check_checked)))
    (l_check_checked : K.lookup f_check_checked = some ⟨oc_check_checked, od_check_checked, .func (PySem.W.fnOf "check_checked" "check_checked" (defArgs s_check_checked) (defBody s_check_checked) (defScope s_check_checked) .none kV_check_checked dc_check_checked pm_check_checked an_check_checked cd_check_checked ct_check_checked), sl_check_checked⟩)
    (c_check_checked : PySem.W.codeIn K cd_check_checked "check_checked" = true)
    (k_check_checked : PySem.W.keepIn K (.ref f_check_checked) = true)
    (m_are_checks : PySem.W.nsIn K mainGlobals "are_checks" = some (some (.ref f_are_checks)))
    (l_are_checks : K.lookup f_are_checks = some ⟨oc_are_checks, od_are_checks, .func (PySem.W.fnOf "are_checks" "are_checks" (defArgs s_are_checks) (defBody s_are_checks) (defScope s_are_checks) .none kV_are_checks dc_are_checks pm_are_checks an_are_checks cd_are_checks ct_are_checks), sl_are_checks⟩)
    (c_are_checks : PySem.W.codeIn K cd_are_checks "are_checks" = true)
    (k_are_checks : PySem.W.keepIn K (.ref f_are_checks) = true)
    (m_state_below : PySem.W.nsIn K mainGlobals "state_below" = some (some (.ref f_state_below)))
    (l_state_below : K.lookup f_state_below = some ⟨oc_state_below, od_state_below, .func (PySem.W.fnOf "state_below" "state_below" (defArgs s_state_below) (defBody s_state_below) (defScope s_state_below) .none kV_state_below dc_state_below pm_state_below an_state_below cd_state_below ct_state_below), sl_state_below⟩)
    (c_state_below : PySem.W.codeIn K cd_state_below "state_below" = true)
    (k_state_below : PySem.W.keepIn K (.ref f_state_below) = true)
    (m_usable_checked : PySem.W.nsIn K mainGlobals "usable_checked" = some (some (.ref f_usable_checked)))
    (l_usable_checked : K.lookup f_usable_checked = some ⟨oc_usable_checked, od_usable_checked, .func (PySem.W.fnOf "usable_checked" "usable_checked" (defArgs s_usable_checked) (defBody s_usable_checked) (defScope s_usable_checked) .none kV_usable_checked dc_usable_checked pm_usable_checked an_usable_checked cd_usable_checked ct_usable_checked), sl_usable_checked⟩)
    (c_usable_checked : PySem.W.codeIn K cd_usable_checked "usable_checked" = true)
    (k_usable_checked : PySem.W.keepIn K (.ref f_usable_checked) = true)
    (m_marked_system : PySem.W.nsIn K mainGlobals "marked_system" = some (some (.ref f_marked_system)))
    (l_marked_system : K.lookup f_marked_system = some ⟨oc_marked_system, od_marked_system, .func (PySem.W.fnOf "marked_system" "marked_system" (defArgs s_marked_system) (defBody s_marked_system) (defScope s_marked_system) .none kV_marked_system dc_marked_system pm_marked_system an_marked_system cd_marked_system ct_marked_system), sl_marked_system⟩)
    (c_marked_system : PySem.W.codeIn K cd_marked_system "marked_system" = true)
    (k_marked_system : PySem.W.keepIn K (.ref f_marked_system) = true)
    (m_rule_told : PySem.W.nsIn K mainGlobals "rule_told" = some (some (.ref f_rule_told)))
    (l_rule_told : K.lookup f_rule_told = some ⟨oc_rule_told, od_rule_told, .func (PySem.W.fnOf "rule_told" "rule_told" (defArgs s_rule_told) (defBody s_rule_told) (defScope s_rule_told) .none kV_rule_told dc_rule_told pm_rule_told an_rule_told cd_rule_told ct_rule_told), sl_rule_told⟩)
    (c_rule_told : PySem.W.codeIn K cd_rule_told "rule_told" = true)
    (k_rule_told : PySem.W.keepIn K (.ref f_rule_told) = true)
    (m_marked : PySem.W.nsIn K mainGlobals "marked" = some (some (.ref f_marked)))
    (l_marked : K.lookup f_marked = some ⟨oc_marked, od_marked, .func (PySem.W.fnOf "marked" "marked" (defArgs s_marked) (defBody s_marked) (defScope s_marked) .none kV_marked dc_marked pm_marked an_marked cd_marked ct_marked), sl_marked⟩)
    (c_marked : PySem.W.codeIn K cd_marked "marked" = true)
    (k_marked : PySem.W.keepIn K (.ref f_marked) = true)
    (m_unmarked : PySem.W.nsIn K mainGlobals "unmarked" = some (some (.ref f_unmarked)))
    (l_unmarked : K.lookup f_unmarked = some ⟨oc_unmarked, od_unmarked, .func (PySem.W.fnOf "unmarked" "unmarked" (defArgs s_unmarked) (defBody s_unmarked) (defScope s_unmarked) .none kV_unmarked dc_unmarked pm_unmarked an_unmarked cd_unmarked ct_unmarked), sl_unmarked⟩)
    (c_unmarked : PySem.W.codeIn K cd_unmarked "unmarked" = true)
    (k_unmarked : PySem.W.keepIn K (.ref f_unmarked) = true)
    (m__law_pot : PySem.W.nsIn K mainGlobals "_law_pot" = some (some (.ref f__law_pot)))
    (l__law_pot : K.lookup f__law_pot = some ⟨oc__law_pot, od__law_pot, .func (PySem.W.fnOf "_law_pot" "_law_pot" (defArgs s__law_pot) (defBody s__law_pot) (defScope s__law_pot) .none kV__law_pot dc__law_pot pm__law_pot an__law_pot cd__law_pot ct__law_pot), sl__law_pot⟩)
    (c__law_pot : PySem.W.codeIn K cd__law_pot "_law_pot" = true)
    (k__law_pot : PySem.W.keepIn K (.ref f__law_pot) = true)
    (m__law_draw : PySem.W.nsIn K mainGlobals "_law_draw" = some (some (.ref f__law_draw)))
    (l__law_draw : K.lookup f__law_draw = some ⟨oc__law_draw, od__law_draw, .func (PySem.W.fnOf "_law_draw" "_law_draw" (defArgs s__law_draw) (defBody s__law_draw) (defScope s__law_draw) .none kV__law_draw dc__law_draw pm__law_draw an__law_draw cd__law_draw ct__law_draw), sl__law_draw⟩)
    (c__law_draw : PySem.W.codeIn K cd__law_draw "_law_draw" = true)
    (k__law_draw : PySem.W.keepIn K (.ref f__law_draw) = true)
    (m__law_one : PySem.W.nsIn K mainGlobals "_law_one" = some (some (.ref f__law_one)))
    (l__law_one : K.lookup f__law_one = some ⟨oc__law_one, od__law_one, .func (PySem.W.fnOf "_law_one" "_law_one" (defArgs s__law_one) (defBody s__law_one) (defScope s__law_one) .none kV__law_one dc__law_one pm__law_one an__law_one cd__law_one ct__law_one), sl__law_one⟩)
    (c__law_one : PySem.W.codeIn K cd__law_one "_law_one" = true)
    (k__law_one : PySem.W.keepIn K (.ref f__law_one) = true)
    (m__law_alike : PySem.W.nsIn K mainGlobals "_law_alike" = some (some (.ref f__law_alike)))
    (l__law_alike : K.lookup f__law_alike = some ⟨oc__law_alike, od__law_alike, .func (PySem.W.fnOf "_law_alike" "_law_alike" (defArgs s__law_alike) (defBody s__law_alike) (defScope s__law_alike) .none kV__law_alike dc__law_alike pm__law_alike an__law_alike cd__law_alike ct__law_alike), sl__law_alike⟩)
    (c__law_alike : PySem.W.codeIn K cd__law_alike "_law_alike" = true)
    (k__law_alike : PySem.W.keepIn K (.ref f__law_alike) = true)
    (m__law_system : PySem.W.nsIn K mainGlobals "_law_system" = some (some (.ref f__law_system)))
    (l__law_system : K.lookup f__law_system = some ⟨oc__law_system, od__law_system, .func (PySem.W.fnOf "_law_system" "_law_system" (defArgs s__law_system) (defBody s__law_system) (defScope s__law_system) .none kV__law_system dc__law_system pm__law_system an__law_system cd__law_system ct__law_system), sl__law_system⟩)
    (c__law_system : PySem.W.codeIn K cd__law_system "_law_system" = true)
    (k__law_system : PySem.W.keepIn K (.ref f__law_system) = true)
    (m__law_whole : PySem.W.nsIn K mainGlobals "_law_whole" = some (some (.ref f__law_whole)))
    (l__law_whole : K.lookup f__law_whole = some ⟨oc__law_whole, od__law_whole, .func (PySem.W.fnOf "_law_whole" "_law_whole" (defArgs s__law_whole) (defBody s__law_whole) (defScope s__law_whole) .none kV__law_whole dc__law_whole pm__law_whole an__law_whole cd__law_whole ct__law_whole), sl__law_whole⟩)
    (c__law_whole : PySem.W.codeIn K cd__law_whole "_law_whole" = true)
    (k__law_whole : PySem.W.keepIn K (.ref f__law_whole) = true)
    (m__law_checks : PySem.W.nsIn K mainGlobals "_law_checks" = some (some (.ref f__law_checks)))
    (l__law_checks : K.lookup f__law_checks = some ⟨oc__law_checks, od__law_checks, .func (PySem.W.fnOf "_law_checks" "_law_checks" (defArgs s__law_checks) (defBody s__law_checks) (defScope s__law_checks) .none kV__law_checks dc__law_checks pm__law_checks an__law_checks cd__law_checks ct__law_checks), sl__law_checks⟩)
    (c__law_checks : PySem.W.codeIn K cd__law_checks "_law_checks" = true)
    (k__law_checks : PySem.W.keepIn K (.ref f__law_checks) = true)
    (m__law_below : PySem.W.nsIn K mainGlobals "_law_below" = some (some (.ref f__law_below)))
    (l__law_below : K.lookup f__law_below = some ⟨oc__law_below, od__law_below, .func (PySem.W.fnOf "_law_below" "_law_below" (defArgs s__law_below) (defBody s__law_below) (defScope s__law_below) .none kV__law_below dc__law_below pm__law_below an__law_below cd__law_below ct__law_below), sl__law_below⟩)
    (c__law_below : PySem.W.codeIn K cd__law_below "_law_below" = true)
    (k__law_below : PySem.W.keepIn K (.ref f__law_below) = true)
    (m__law_usable : PySem.W.nsIn K mainGlobals "_law_usable" = some (some (.ref f__law_usable)))
    (l__law_usable : K.lookup f__law_usable = some ⟨oc__law_usable, od__law_usable, .func (PySem.W.fnOf "_law_usable" "_law_usable" (defArgs s__law_usable) (defBody s__law_usable) (defScope s__law_usable) .none kV__law_usable dc__law_usable pm__law_usable an__law_usable cd__law_usable ct__law_usable), sl__law_usable⟩)
    (c__law_usable : PySem.W.codeIn K cd__law_usable "_law_usable" = true)
    (k__law_usable : PySem.W.keepIn K (.ref f__law_usable) = true)
    (m__law_marks : PySem.W.nsIn K mainGlobals "_law_marks" = some (some (.ref f__law_marks)))
    (l__law_marks : K.lookup f__law_marks = some ⟨oc__law_marks, od__law_marks, .func (PySem.W.fnOf "_law_marks" "_law_marks" (defArgs s__law_marks) (defBody s__law_marks) (defScope s__law_marks) .none kV__law_marks dc__law_marks pm__law_marks an__law_marks cd__law_marks ct__law_marks), sl__law_marks⟩)
    (c__law_marks : PySem.W.codeIn K cd__law_marks "_law_marks" = true)
    (k__law_marks : PySem.W.keepIn K (.ref f__law_marks) = true)
    (m__law_is_numbers : PySem.W.nsIn K mainGlobals "_law_is_numbers" = some (some (.ref f__law_is_numbers)))
    (l__law_is_numbers : K.lookup f__law_is_numbers = some ⟨oc__law_is_numbers, od__law_is_numbers, .func (PySem.W.fnOf "_law_is_numbers" "_law_is_numbers" (defArgs s__law_is_numbers) (defBody s__law_is_numbers) (defScope s__law_is_numbers) .none kV__law_is_numbers dc__law_is_numbers pm__law_is_numbers an__law_is_numbers cd__law_is_numbers ct__law_is_numbers), sl__law_is_numbers⟩)
    (c__law_is_numbers : PySem.W.codeIn K cd__law_is_numbers "_law_is_numbers" = true)
    (k__law_is_numbers : PySem.W.keepIn K (.ref f__law_is_numbers) = true)
    (m__law_are_checks : PySem.W.nsIn K mainGlobals "_law_are_checks" = some (some (.ref f__law_are_checks)))
    (l__law_are_checks : K.lookup f__law_are_checks = some ⟨oc__law_are_checks, od__law_are_checks, .func (PySem.W.fnOf "_law_are_checks" "_law_are_checks" (defArgs s__law_are_checks) (defBody s__law_are_checks) (defScope s__law_are_checks) .none kV__law_are_checks dc__law_are_checks pm__law_are_checks an__law_are_checks cd__law_are_checks ct__law_are_checks), sl__law_are_checks⟩)
    (c__law_are_checks : PySem.W.codeIn K cd__law_are_checks "_law_are_checks" = true)
    (k__law_are_checks : PySem.W.keepIn K (.ref f__law_are_checks) = true)
    (m__law_bent : PySem.W.nsIn K mainGlobals "_law_bent" = some (some (.ref f__law_bent)))
    (l__law_bent : K.lookup f__law_bent = some ⟨oc__law_bent, od__law_bent, .func (PySem.W.fnOf "_law_bent" "_law_bent" (defArgs s__law_bent) (defBody s__law_bent) (defScope s__law_bent) .none kV__law_bent dc__law_bent pm__law_bent an__law_bent cd__law_bent ct__law_bent), sl__law_bent⟩)
    (c__law_bent : PySem.W.codeIn K cd__law_bent "_law_bent" = true)
    (k__law_bent : PySem.W.keepIn K (.ref f__law_bent) = true)
    (m__law_marked_rules : PySem.W.nsIn K mainGlobals "_law_marked_rules" = some (some (.ref f__law_marked_rules)))
    (l__law_marked_rules : K.lookup f__law_marked_rules = some ⟨oc__law_marked_rules, od__law_marked_rules, .func (PySem.W.fnOf "_law_marked_rules" "_law_marked_rules" (defArgs s__law_marked_rules) (defBody s__law_marked_rules) (defScope s__law_marked_rules) .none kV__law_marked_rules dc__law_marked_rules pm__law_marked_rules an__law_marked_rules cd__law_marked_rules ct__law_marked_rules), sl__law_marked_rules⟩)
    (c__law_marked_rules : PySem.W.codeIn K cd__law_marked_rules "_law_marked_rules" = true)
    (k__law_marked_rules : PySem.W.keepIn K (.ref f__law_marked_rules) = true)
    (m_law : PySem.W.nsIn K mainGlobals "law" = some (some (.ref f_law)))
    (l_law : K.lookup f_law = some ⟨oc_law, od_law, .func (PySem.W.fnOf "law" "law" (defArgs s_law) (defBody s_law) (defScope s_law) .none kV_law dc_law pm_law an_law cd_law ct_law), sl_law⟩)
    (c_law : PySem.W.codeIn K cd_law "law" = true)
    (k_law : PySem.W.keepIn K (.ref f_law) = true)
    (n_abs : PySem.W.nsIn K mainGlobals "abs" = some none)
    (n_all : PySem.W.nsIn K mainGlobals "all" = some none)
    (n_bool : PySem.W.nsIn K mainGlobals "bool" = some none)
    (n_enumerate : PySem.W.nsIn K mainGlobals "enumerate" = some none)
    (n_int : PySem.W.nsIn K mainGlobals "int" = some none)
    (n_isinstance : PySem.W.nsIn K mainGlobals "isinstance" = some none)
    (n_len : PySem.W.nsIn K mainGlobals "len" = some none)
    (n_list : PySem.W.nsIn K mainGlobals "list" = some none)
    (n_max : PySem.W.nsIn K mainGlobals "max" = some none)
    (n_min : PySem.W.nsIn K mainGlobals "min" = some none)
    (n_range : PySem.W.nsIn K mainGlobals "range" = some none)
    (n_set : PySem.W.nsIn K mainGlobals "set" = some none)
    (n_sorted : PySem.W.nsIn K mainGlobals "sorted" = some none)
    (n_str : PySem.W.nsIn K mainGlobals "str" = some none)
    (n_tuple : PySem.W.nsIn K mainGlobals "tuple" = some none)
    (n_zip : PySem.W.nsIn K mainGlobals "zip" = some none)
    (m_MOST_OF_A_WORD : PySem.W.nsIn K mainGlobals "MOST_OF_A_WORD" = some (some (.int 2 tk_MOST_OF_A_WORD)))
    (g_InvalidNumber : PySem.W.nsIn K mainGlobals "InvalidNumber" = some (some (.ref C_InvalidNumber)))
    (kC_InvalidNumber : PySem.W.keepIn K (.ref C_InvalidNumber) = true)
    (exC_InvalidNumber : PySem.W.subIn K (.ref C_InvalidNumber) (.type "BaseException") = some true)
    (tyC_InvalidNumber : PySem.W.typeIn K (.ref C_InvalidNumber) = some (.type "type"))
    (L_InvalidNumber : K.lookup C_InvalidNumber = some (excClassObj nm_InvalidNumber q_InvalidNumber C_InvalidNumber N_InvalidNumber bs_InvalidNumber (.ref S_InvalidNumber :: veTail) hd_InvalidNumber sn_InvalidNumber sub_InvalidNumber ab_InvalidNumber col_InvalidNumber dd_InvalidNumber z0_InvalidNumber z1_InvalidNumber z2_InvalidNumber z3_InvalidNumber z5_InvalidNumber "ValueError.__new__"))
    (LS_InvalidNumber : K.lookup S_InvalidNumber = some (excClassObj nmS_InvalidNumber qS_InvalidNumber S_InvalidNumber NS_InvalidNumber bsS_InvalidNumber bmS_InvalidNumber hdS_InvalidNumber snS_InvalidNumber subS_InvalidNumber abS_InvalidNumber colS_InvalidNumber ddS_InvalidNumber y0_InvalidNumber y1_InvalidNumber y2_InvalidNumber y3_InvalidNumber y5_InvalidNumber "ValueError.__new__"))
    (LN_InvalidNumber : K.lookup N_InvalidNumber = some ⟨ec_InvalidNumber, ed_InvalidNumber, .dict ees_InvalidNumber en_InvalidNumber, esl_InvalidNumber⟩)
    (LM_InvalidNumber : K.lookup NS_InvalidNumber = some ⟨fc_InvalidNumber, fd_InvalidNumber, .dict fes_InvalidNumber fn_InvalidNumber, fsl_InvalidNumber⟩)
    (oN_InvalidNumber : (ees_InvalidNumber.toList.all fun e => match e.key with | .str _ _ => true | _ => false) = true)
    (oM_InvalidNumber : (fes_InvalidNumber.toList.all fun e => match e.key with | .str _ _ => true | _ => false) = true)
    (iN_InvalidNumber : PySem.W.nsIn K N_InvalidNumber "__init__" = some none)
    (iM_InvalidNumber : PySem.W.nsIn K NS_InvalidNumber "__init__" = some none)
    (g_InvalidConfiguration : PySem.W.nsIn K mainGlobals "InvalidConfiguration" = some (some (.ref C_InvalidConfiguration)))
    (kC_InvalidConfiguration : PySem.W.keepIn K (.ref C_InvalidConfiguration) = true)
    (exC_InvalidConfiguration : PySem.W.subIn K (.ref C_InvalidConfiguration) (.type "BaseException") = some true)
    (tyC_InvalidConfiguration : PySem.W.typeIn K (.ref C_InvalidConfiguration) = some (.type "type"))
    (L_InvalidConfiguration : K.lookup C_InvalidConfiguration = some (excClassObj nm_InvalidConfiguration q_InvalidConfiguration C_InvalidConfiguration N_InvalidConfiguration bs_InvalidConfiguration (.ref S_InvalidConfiguration :: veTail) hd_InvalidConfiguration sn_InvalidConfiguration sub_InvalidConfiguration ab_InvalidConfiguration col_InvalidConfiguration dd_InvalidConfiguration z0_InvalidConfiguration z1_InvalidConfiguration z2_InvalidConfiguration z3_InvalidConfiguration z5_InvalidConfiguration "ValueError.__new__"))
    (LS_InvalidConfiguration : K.lookup S_InvalidConfiguration = some (excClassObj nmS_InvalidConfiguration qS_InvalidConfiguration S_InvalidConfiguration NS_InvalidConfiguration bsS_InvalidConfiguration bmS_InvalidConfiguration hdS_InvalidConfiguration snS_InvalidConfiguration subS_InvalidConfiguration abS_InvalidConfiguration colS_InvalidConfiguration ddS_InvalidConfiguration y0_InvalidConfiguration y1_InvalidConfiguration y2_InvalidConfiguration y3_InvalidConfiguration y5_InvalidConfiguration "ValueError.__new__"))
    (LN_InvalidConfiguration : K.lookup N_InvalidConfiguration = some ⟨ec_InvalidConfiguration, ed_InvalidConfiguration, .dict ees_InvalidConfiguration en_InvalidConfiguration, esl_InvalidConfiguration⟩)
    (LM_InvalidConfiguration : K.lookup NS_InvalidConfiguration = some ⟨fc_InvalidConfiguration, fd_InvalidConfiguration, .dict fes_InvalidConfiguration fn_InvalidConfiguration, fsl_InvalidConfiguration⟩)
    (oN_InvalidConfiguration : (ees_InvalidConfiguration.toList.all fun e => match e.key with | .str _ _ => true | _ => false) = true)
    (oM_InvalidConfiguration : (fes_InvalidConfiguration.toList.all fun e => match e.key with | .str _ _ => true | _ => false) = true)
    (iN_InvalidConfiguration : PySem.W.nsIn K N_InvalidConfiguration "__init__" = some none)
    (iM_InvalidConfiguration : PySem.W.nsIn K NS_InvalidConfiguration "__init__" = some none)
    (g_InvalidChecks : PySem.W.nsIn K mainGlobals "InvalidChecks" = some (some (.ref C_InvalidChecks)))
    (kC_InvalidChecks : PySem.W.keepIn K (.ref C_InvalidChecks) = true)
    (exC_InvalidChecks : PySem.W.subIn K (.ref C_InvalidChecks) (.type "BaseException") = some true)
    (tyC_InvalidChecks : PySem.W.typeIn K (.ref C_InvalidChecks) = some (.type "type"))
    (L_InvalidChecks : K.lookup C_InvalidChecks = some (excClassObj nm_InvalidChecks q_InvalidChecks C_InvalidChecks N_InvalidChecks bs_InvalidChecks (.ref S_InvalidChecks :: veTail) hd_InvalidChecks sn_InvalidChecks sub_InvalidChecks ab_InvalidChecks col_InvalidChecks dd_InvalidChecks z0_InvalidChecks z1_InvalidChecks z2_InvalidChecks z3_InvalidChecks z5_InvalidChecks "ValueError.__new__"))
    (LS_InvalidChecks : K.lookup S_InvalidChecks = some (excClassObj nmS_InvalidChecks qS_InvalidChecks S_InvalidChecks NS_InvalidChecks bsS_InvalidChecks bmS_InvalidChecks hdS_InvalidChecks snS_InvalidChecks subS_InvalidChecks abS_InvalidChecks colS_InvalidChecks ddS_InvalidChecks y0_InvalidChecks y1_InvalidChecks y2_InvalidChecks y3_InvalidChecks y5_InvalidChecks "ValueError.__new__"))
    (LN_InvalidChecks : K.lookup N_InvalidChecks = some ⟨ec_InvalidChecks, ed_InvalidChecks, .dict ees_InvalidChecks en_InvalidChecks, esl_InvalidChecks⟩)
    (LM_InvalidChecks : K.lookup NS_InvalidChecks = some ⟨fc_InvalidChecks, fd_InvalidChecks, .dict fes_InvalidChecks fn_InvalidChecks, fsl_InvalidChecks⟩)
    (oN_InvalidChecks : (ees_InvalidChecks.toList.all fun e => match e.key with | .str _ _ => true | _ => false) = true)
    (oM_InvalidChecks : (fes_InvalidChecks.toList.all fun e => match e.key with | .str _ _ => true | _ => false) = true)
    (iN_InvalidChecks : PySem.W.nsIn K N_InvalidChecks "__init__" = some none)
    (iM_InvalidChecks : PySem.W.nsIn K NS_InvalidChecks "__init__" = some none)
    (g_InvalidSystem : PySem.W.nsIn K mainGlobals "InvalidSystem" = some (some (.ref C_InvalidSystem)))
    (kC_InvalidSystem : PySem.W.keepIn K (.ref C_InvalidSystem) = true)
    (exC_InvalidSystem : PySem.W.subIn K (.ref C_InvalidSystem) (.type "BaseException") = some true)
    (tyC_InvalidSystem : PySem.W.typeIn K (.ref C_InvalidSystem) = some (.type "type"))
    (L_InvalidSystem : K.lookup C_InvalidSystem = some (excClassObj nm_InvalidSystem q_InvalidSystem C_InvalidSystem N_InvalidSystem bs_InvalidSystem (.ref S_InvalidSystem :: veTail) true sn_InvalidSystem sub_InvalidSystem ab_InvalidSystem col_InvalidSystem dd_InvalidSystem z0_InvalidSystem z1_InvalidSystem z2_InvalidSystem z3_InvalidSystem z5_InvalidSystem "ValueError.__new__"))
    (LS_InvalidSystem : K.lookup S_InvalidSystem = some (excClassObj nmS_InvalidSystem qS_InvalidSystem S_InvalidSystem NS_InvalidSystem bsS_InvalidSystem bmS_InvalidSystem hdS_InvalidSystem snS_InvalidSystem subS_InvalidSystem abS_InvalidSystem colS_InvalidSystem ddS_InvalidSystem y0_InvalidSystem y1_InvalidSystem y2_InvalidSystem y3_InvalidSystem y5_InvalidSystem "ValueError.__new__"))
    (nS_InvalidSystem : PySem.W.nsIn K NS_InvalidSystem "__init__" = some none)
    (sa_InvalidSystem : PySem.W.findIn K (.ref C_InvalidSystem) "__setattr__" = some (some (.builtin "object.__setattr__")))
    (noN_InvalidSystem : PySem.W.findIn K (.ref C_InvalidSystem) "index" = some none)
    (iC_InvalidSystem : PySem.W.findIn K (.ref C_InvalidSystem) "__init__" = some (some (.ref i_InvalidSystem)))
    (tC_InvalidSystem : PySem.W.typeIn K (.ref i_InvalidSystem) = some (.type "function"))
    (subV_InvalidSystem : PySem.W.subIn K (.ref C_InvalidSystem) (.type "ValueError") = some true)
    (self_InvalidSystem : PySem.W.mroIn K C_InvalidSystem (.ref C_InvalidSystem) = some true)
    (noSup : PySem.W.nsIn K mainGlobals "super" = some none)
    (opq : PySem.W.nsIn K cStatics "thirdparty.any" = some none)
    (F_InvalidSystem : K.lookup i_InvalidSystem = some ⟨foc_InvalidSystem, fod_InvalidSystem, .func (PySem.W.ksFn "__init__" "InvalidSystem.__init__" (Sup.iA p1_InvalidSystem p2_InvalidSystem) (Sup.iB a0_InvalidSystem a1_InvalidSystem a2_InvalidSystem a3_InvalidSystem a4_InvalidSystem a5_InvalidSystem b1_InvalidSystem b2_InvalidSystem b3_InvalidSystem b4_InvalidSystem) Sup.iS .none fkV_InvalidSystem fdoc_InvalidSystem fpm_InvalidSystem fan_InvalidSystem (.ref a_InvalidSystem) fct_InvalidSystem e_InvalidSystem), fosl_InvalidSystem⟩)
    (lin_InvalidSystem : (a2_InvalidSystem.endLine == a4_InvalidSystem.line) = true)
    (cd_InvalidSystem : PySem.W.codeIn K (.ref a_InvalidSystem) "InvalidSystem.__init__" = true)
    (ce_InvalidSystem : K.lookup e_InvalidSystem = some ⟨ecl_InvalidSystem, ecld_InvalidSystem, .cell (some (.ref C_InvalidSystem)), ecsl_InvalidSystem⟩)
    (co_InvalidSystem : K.lookup a_InvalidSystem = some ⟨dcl_InvalidSystem, dcld_InvalidSystem, .fields vs_InvalidSystem, dcsl_InvalidSystem⟩)
    (v2_InvalidSystem : vs_InvalidSystem[2]? = some (.str file_InvalidSystem tf_InvalidSystem))
    (fi_InvalidSystem : ((PySem.Challenge.pw_everystack_k55_checks_judged_and_marked.main.file : Str) == file_InvalidSystem) = true) :
    ∃ a : Ad, Tx PySem.Challenge.pw_everystack_k55_checks_judged_and_marked K mg a ∧ a.f_law = fa := by
  have e := (PySem.W.mg_of X G m_law).symm.trans hfa
  cases e
  exact ⟨{ f_is_integer := f_is_integer, d_is_integer := (PySem.W.fnOf "is_integer" "is_integer" (defArgs s_is_integer) (defBody s_is_integer) (defScope s_is_integer) .none kV_is_integer dc_is_integer pm_is_integer an_is_integer cd_is_integer ct_is_integer), f_is_from := f_is_from, d_is_from := (PySem.W.fnOf "is_from" "is_from" (defArgs s_is_from) (defBody s_is_from) (defScope s_is_from) .none kV_is_from dc_is_from pm_is_from an_is_from cd_is_from ct_is_from), f_is_between := f_is_between, d_is_between := (PySem.W.fnOf "is_between" "is_between" (defArgs s_is_between) (defBody s_is_between) (defScope s_is_between) .none kV_is_between dc_is_between pm_is_between an_is_between cd_is_between ct_is_between), f_is_index_of := f_is_index_of, d_is_index_of := (PySem.W.fnOf "is_index_of" "is_index_of" (defArgs s_is_index_of) (defBody s_is_index_of) (defScope s_is_index_of) .none kV_is_index_of dc_is_index_of pm_is_index_of an_is_index_of cd_is_index_of ct_is_index_of), f_is_ascending := f_is_ascending, d_is_ascending := (PySem.W.fnOf "is_ascending" "is_ascending" (defArgs s_is_ascending) (defBody s_is_ascending) (defScope s_is_ascending) .none kV_is_ascending dc_is_ascending pm_is_ascending an_is_ascending cd_is_ascending ct_is_ascending), f_is_word := f_is_word, d_is_word := (PySem.W.fnOf "is_word" "is_word" (defArgs s_is_word) (defBody s_is_word) (defScope s_is_word) .none kV_is_word dc_is_word pm_is_word an_is_word cd_is_word ct_is_word), f_is_index_row := f_is_index_row, d_is_index_row := (PySem.W.fnOf "is_index_row" "is_index_row" (defArgs s_is_index_row) (defBody s_is_index_row) (defScope s_is_index_row) .none kV_is_index_row dc_is_index_row pm_is_index_row an_is_index_row cd_is_index_row ct_is_index_row), f_is_rule := f_is_rule, d_is_rule := (PySem.W.fnOf "is_rule" "is_rule" (defArgs s_is_rule) (defBody s_is_rule) (defScope s_is_rule) .none kV_is_rule dc_is_rule pm_is_rule an_is_rule cd_is_rule ct_is_rule), f_fault_of_system := f_fault_of_system, d_fault_of_system := (PySem.W.fnOf "fault_of_system" "fault_of_system" (defArgs s_fault_of_system) (defBody s_fault_of_system) (defScope s_fault_of_system) .none kV_fault_of_system dc_fault_of_system pm_fault_of_system an_fault_of_system cd_fault_of_system ct_fault_of_system), f_is_configuration_of := f_is_configuration_of, d_is_configuration_of := (PySem.W.fnOf "is_configuration_of" "is_configuration_of" (defArgs s_is_configuration_of) (defBody s_is_configuration_of) (defScope s_is_configuration_of) .none kV_is_configuration_of dc_is_configuration_of pm_is_configuration_of an_is_configuration_of cd_is_configuration_of ct_is_configuration_of), f_check_number := f_check_number, d_check_number := (PySem.W.fnOf "check_number" "check_number" (defArgs s_check_number) (defBody s_check_number) (defScope s_check_number) .none kV_check_number dc_check_number pm_check_number an_check_number cd_check_number ct_check_number), f_check_system := f_check_system, d_check_system := (PySem.W.fnOf "check_system" "check_system" (defArgs s_check_system) (defBody s_check_system) (defScope s_check_system) .none kV_check_system dc_check_system pm_check_system an_check_system cd_check_system ct_check_system), f_check_configuration := f_check_configuration, d_check_configuration := (PySem.W.fnOf "check_configuration" "check_configuration" (defArgs s_check_configuration) (defBody s_check_configuration) (defScope s_check_configuration) .none kV_check_configuration dc_check_configuration pm_check_configuration an_check_configuration cd_check_configuration ct_check_configuration), f_rules_at := f_rules_at, d_rules_at := (PySem.W.fnOf "rules_at" "rules_at" (defArgs s_rules_at) (defBody s_rules_at) (defScope s_rules_at) .none kV_rules_at dc_rules_at pm_rules_at an_rules_at cd_rules_at ct_rules_at), f_usable_in := f_usable_in, d_usable_in := (PySem.W.fnOf "usable_in" "usable_in" (defArgs s_usable_in) (defBody s_usable_in) (defScope s_usable_in) .none kV_usable_in dc_usable_in pm_usable_in an_usable_in cd_usable_in ct_usable_in), f_are_checks_in := f_are_checks_in, d_are_checks_in := (PySem.W.fnOf "are_checks_in" "are_checks_in" (defArgs s_are_checks_in) (defBody s_are_checks_in) (defScope s_are_checks_in) .none kV_are_checks_in dc_are_checks_in pm_are_checks_in an_are_checks_in cd_are_checks_in ct_are_checks_in), f_state_in := f_state_in, d_state_in := (PySem.W.fnOf "state_in" "state_in" (defArgs s_state_in) (defBody s_state_in) (defScope s_state_in) .none kV_state_in dc_state_in pm_state_in an_state_in cd_state_in ct_state_in), f_is_let := f_is_let, d_is_let := (PySem.W.fnOf "is_let" "is_let" (defArgs s_is_let) (defBody s_is_let) (defScope s_is_let) .none kV_is_let dc_is_let pm_is_let an_is_let cd_is_let ct_is_let), f_usable_checked_in := f_usable_checked_in, d_usable_checked_in := (PySem.W.fnOf "usable_checked_in" "usable_checked_in" (defArgs s_usable_checked_in) (defBody s_usable_checked_in) (defScope s_usable_checked_in) .none kV_usable_checked_in dc_usable_checked_in pm_usable_checked_in an_usable_checked_in cd_usable_checked_in ct_usable_checked_in), f_marked_word := f_marked_word, d_marked_word := (PySem.W.fnOf "marked_word" "marked_word" (defArgs s_marked_word) (defBody s_marked_word) (defScope s_marked_word) .none kV_marked_word dc_marked_word pm_marked_word an_marked_word cd_marked_word ct_marked_word), f_marked_rules := f_marked_rules, d_marked_rules := (PySem.W.fnOf "marked_rules" "marked_rules" (defArgs s_marked_rules) (defBody s_marked_rules) (defScope s_marked_rules) .none kV_marked_rules dc_marked_rules pm_marked_rules an_marked_rules cd_marked_rules ct_marked_rules), f_marked_in := f_marked_in, d_marked_in := (PySem.W.fnOf "marked_in" "marked_in" (defArgs s_marked_in) (defBody s_marked_in) (defScope s_marked_in) .none kV_marked_in dc_marked_in pm_marked_in an_marked_in cd_marked_in ct_marked_in), f_marked_configuration := f_marked_configuration, d_marked_configuration := (PySem.W.fnOf "marked_configuration" "marked_configuration" (defArgs s_marked_configuration) (defBody s_marked_configuration) (defScope s_marked_configuration) .none kV_marked_configuration dc_marked_configuration pm_marked_configuration an_marked_configuration cd_marked_configuration ct_marked_configuration), f_check_checks := f_check_checks, d_check_checks := (PySem.W.fnOf "check_checks" "check_checks" (defArgs s_check_checks) (defBody s_check_checks) (defScope s_check_checks) .none kV_check_checks dc_check_checks pm_check_checks an_check_checks cd_check_checks ct_check_checks), f_check_checked := f_check_checked, d_check_checked := (PySem.W.fnOf "check_checked" "check_checked" (defArgs s_check_checked) (defBody s_check_checked) (defScope s_check_checked) .none kV_check_checked dc_check_checked pm_check_checked an_check_checked cd_check_checked ct_check_checked), f_are_checks := f_are_checks, d_are_checks := (PySem.W.fnOf "are_checks" "are_checks" (defArgs s_are_checks) (defBody s_are_checks) (defScope s_are_checks) .none kV_are_checks dc_are_checks pm_are_checks an_are_checks cd_are_checks ct_are_checks), f_state_below := f_state_below, d_state_below := (PySem.W.fnOf "state_below" "state_below" (defArgs s_state_below) (defBody s_state_below) (defScope s_state_below) .none kV_state_below dc_state_below pm_state_below an_state_below cd_state_below ct_state_below), f_usable_checked := f_usable_checked, d_usable_checked := (PySem.W.fnOf "usable_checked" "usable_checked" (defArgs s_usable_checked) (defBody s_usable_checked) (defScope s_usable_checked) .none kV_usable_checked dc_usable_checked pm_usable_checked an_usable_checked cd_usable_checked ct_usable_checked), f_marked_system := f_marked_system, d_marked_system := (PySem.W.fnOf "marked_system" "marked_system" (defArgs s_marked_system) (defBody s_marked_system) (defScope s_marked_system) .none kV_marked_system dc_marked_system pm_marked_system an_marked_system cd_marked_system ct_marked_system), f_rule_told := f_rule_told, d_rule_told := (PySem.W.fnOf "rule_told" "rule_told" (defArgs s_rule_told) (defBody s_rule_told) (defScope s_rule_told) .none kV_rule_told dc_rule_told pm_rule_told an_rule_told cd_rule_told ct_rule_told), f_marked := f_marked, d_marked := (PySem.W.fnOf "marked" "marked" (defArgs s_marked) (defBody s_marked) (defScope s_marked) .none kV_marked dc_marked pm_marked an_marked cd_marked ct_marked), f_unmarked := f_unmarked, d_unmarked := (PySem.W.fnOf "unmarked" "unmarked" (defArgs s_unmarked) (defBody s_unmarked) (defScope s_unmarked) .none kV_unmarked dc_unmarked pm_unmarked an_unmarked cd_unmarked ct_unmarked), f__law_pot := f__law_pot, d__law_pot := (PySem.W.fnOf "_law_pot" "_law_pot" (defArgs s__law_pot) (defBody s__law_pot) (defScope s__law_pot) .none kV__law_pot dc__law_pot pm__law_pot an__law_pot cd__law_pot ct__law_pot), f__law_draw := f__law_draw, d__law_draw := (PySem.W.fnOf "_law_draw" "_law_draw" (defArgs s__law_draw) (defBody s__law_draw) (defScope s__law_draw) .none kV__law_draw dc__law_draw pm__law_draw an__law_draw cd__law_draw ct__law_draw), f__law_one := f__law_one, d__law_one := (PySem.W.fnOf "_law_one" "_law_one" (defArgs s__law_one) (defBody s__law_one) (defScope s__law_one) .none kV__law_one dc__law_one pm__law_one an__law_one cd__law_one ct__law_one), f__law_alike := f__law_alike, d__law_alike := (PySem.W.fnOf "_law_alike" "_law_alike" (defArgs s__law_alike) (defBody s__law_alike) (defScope s__law_alike) .none kV__law_alike dc__law_alike pm__law_alike an__law_alike cd__law_alike ct__law_alike), f__law_system := f__law_system, d__law_system := (PySem.W.fnOf "_law_system" "_law_system" (defArgs s__law_system) (defBody s__law_system) (defScope s__law_system) .none kV__law_system dc__law_system pm__law_system an__law_system cd__law_system ct__law_system), f__law_whole := f__law_whole, d__law_whole := (PySem.W.fnOf "_law_whole" "_law_whole" (defArgs s__law_whole) (defBody s__law_whole) (defScope s__law_whole) .none kV__law_whole dc__law_whole pm__law_whole an__law_whole cd__law_whole ct__law_whole), f__law_checks := f__law_checks, d__law_checks := (PySem.W.fnOf "_law_checks" "_law_checks" (defArgs s__law_checks) (defBody s__law_checks) (defScope s__law_checks) .none kV__law_checks dc__law_checks pm__law_checks an__law_checks cd__law_checks ct__law_checks), f__law_below := f__law_below, d__law_below := (PySem.W.fnOf "_law_below" "_law_below" (defArgs s__law_below) (defBody s__law_below) (defScope s__law_below) .none kV__law_below dc__law_below pm__law_below an__law_below cd__law_below ct__law_below), f__law_usable := f__law_usable, d__law_usable := (PySem.W.fnOf "_law_usable" "_law_usable" (defArgs s__law_usable) (defBody s__law_usable) (defScope s__law_usable) .none kV__law_usable dc__law_usable pm__law_usable an__law_usable cd__law_usable ct__law_usable), f__law_marks := f__law_marks, d__law_marks := (PySem.W.fnOf "_law_marks" "_law_marks" (defArgs s__law_marks) (defBody s__law_marks) (defScope s__law_marks) .none kV__law_marks dc__law_marks pm__law_marks an__law_marks cd__law_marks ct__law_marks), f__law_is_numbers := f__law_is_numbers, d__law_is_numbers := (PySem.W.fnOf "_law_is_numbers" "_law_is_numbers" (defArgs s__law_is_numbers) (defBody s__law_is_numbers) (defScope s__law_is_numbers) .none kV__law_is_numbers dc__law_is_numbers pm__law_is_numbers an__law_is_numbers cd__law_is_numbers ct__law_is_numbers), f__law_are_checks := f__law_are_checks, d__law_are_checks := (PySem.W.fnOf "_law_are_checks" "_law_are_checks" (defArgs s__law_are_checks) (defBody s__law_are_checks) (defScope s__law_are_checks) .none kV__law_are_checks dc__law_are_checks pm__law_are_checks an__law_are_checks cd__law_are_checks ct__law_are_checks), f__law_bent := f__law_bent, d__law_bent := (PySem.W.fnOf "_law_bent" "_law_bent" (defArgs s__law_bent) (defBody s__law_bent) (defScope s__law_bent) .none kV__law_bent dc__law_bent pm__law_bent an__law_bent cd__law_bent ct__law_bent), f__law_marked_rules := f__law_marked_rules, d__law_marked_rules := (PySem.W.fnOf "_law_marked_rules" "_law_marked_rules" (defArgs s__law_marked_rules) (defBody s__law_marked_rules) (defScope s__law_marked_rules) .none kV__law_marked_rules dc__law_marked_rules pm__law_marked_rules an__law_marked_rules cd__law_marked_rules ct__law_marked_rules), f_law := fa, d_law := (PySem.W.fnOf "law" "law" (defArgs s_law) (defBody s_law) (defScope s_law) .none kV_law dc_law pm_law an_law cd_law ct_law), C_InvalidNumber := C_InvalidNumber, C_InvalidConfiguration := C_InvalidConfiguration, C_InvalidChecks := C_InvalidChecks, C_InvalidSystem := C_InvalidSystem, i_InvalidSystem := i_InvalidSystem, a_InvalidSystem := a_InvalidSystem, e_InvalidSystem := e_InvalidSystem }, {
    f_is_integer := df_mk X G m_is_integer l_is_integer c_is_integer k_is_integer fun _ _ _ _ _ _ us hl => match us, hl with | [_], _ => rfl,
    f_is_from := df_mk X G m_is_from l_is_from c_is_from k_is_from fun _ _ _ _ _ _ us hl => match us, hl with | [_, _], _ => rfl,
    f_is_between := df_mk X G m_is_between l_is_between c_is_between k_is_between fun _ _ _ _ _ _ us hl => match us, hl with | [_, _, _], _ => rfl,
    f_is_index_of := df_mk X G m_is_index_of l_is_index_of c_is_index_of k_is_index_of fun _ _ _ _ _ _ us hl => match us, hl with | [_, _], _ => rfl,
    f_is_ascending := df_mk X G m_is_ascending l_is_ascending c_is_ascending k_is_ascending fun _ _ _ _ _ _ us hl => match us, hl with | [_], _ => rfl,
    f_is_word := df_mk X G m_is_word l_is_word c_is_word k_is_word fun _ _ _ _ _ _ us hl => match us, hl with | [_, _], _ => rfl,
    f_is_index_row := df_mk X G m_is_index_row l_is_index_row c_is_index_row k_is_index_row fun _ _ _ _ _ _ us hl => match us, hl with | [_, _], _ => rfl,
    f_is_rule := df_mk X G m_is_rule l_is_rule c_is_rule k_is_rule fun _ _ _ _ _ _ us hl => match us, hl with | [_, _, _], _ => rfl,
    f_fault_of_system := df_mk X G m_fault_of_system l_fault_of_system c_fault_of_system k_fault_of_system fun _ _ _ _ _ _ us hl => match us, hl with | [_], _ => rfl,
    f_is_configuration_of := df_mk X G m_is_configuration_of l_is_configuration_of c_is_configuration_of k_is_configuration_of fun _ _ _ _ _ _ us hl => match us, hl with | [_, _], _ => rfl,
    f_check_number := df_mk X G m_check_number l_check_number c_check_number k_check_number fun _ _ _ _ _ _ us hl => match us, hl with | [_], _ => rfl,
    f_check_system := df_mk X G m_check_system l_check_system c_check_system k_check_system fun _ _ _ _ _ _ us hl => match us, hl with | [_], _ => rfl,
    f_check_configuration := df_mk X G m_check_configuration l_check_configuration c_check_configuration k_check_configuration fun _ _ _ _ _ _ us hl => match us, hl with | [_, _], _ => rfl,
    f_rules_at := df_mk X G m_rules_at l_rules_at c_rules_at k_rules_at fun _ _ _ _ _ _ us hl => match us, hl with | [_, _], _ => rfl,
    f_usable_in := df_mk X G m_usable_in l_usable_in c_usable_in k_usable_in fun _ _ _ _ _ _ us hl => match us, hl with | [_, _], _ => rfl,
    f_are_checks_in := df_mk X G m_are_checks_in l_are_checks_in c_are_checks_in k_are_checks_in fun _ _ _ _ _ _ us hl => match us, hl with | [_, _], _ => rfl,
    f_state_in := df_mk X G m_state_in l_state_in c_state_in k_state_in fun _ _ _ _ _ _ us hl => match us, hl with | [_, _], _ => rfl,
    f_is_let := df_mk X G m_is_let l_is_let c_is_let k_is_let fun _ _ _ _ _ _ us hl => match us, hl with | [_, _, _], _ => rfl,
    f_usable_checked_in := df_mk X G m_usable_checked_in l_usable_checked_in c_usable_checked_in k_usable_checked_in fun _ _ _ _ _ _ us hl => match us, hl with | [_, _, _], _ => rfl,
    f_marked_word := df_mk X G m_marked_word l_marked_word c_marked_word k_marked_word fun _ _ _ _ _ _ us hl => match us, hl with | [_, _, _], _ => rfl,
    f_marked_rules := df_mk X G m_marked_rules l_marked_rules c_marked_rules k_marked_rules fun _ _ _ _ _ _ us hl => match us, hl with | [_, _], _ => rfl,
    f_marked_in := df_mk X G m_marked_in l_marked_in c_marked_in k_marked_in fun _ _ _ _ _ _ us hl => match us, hl with | [_, _], _ => rfl,
    f_marked_configuration := df_mk X G m_marked_configuration l_marked_configuration c_marked_configuration k_marked_configuration fun _ _ _ _ _ _ us hl => match us, hl with | [_, _], _ => rfl,
    f_check_checks := df_mk X G m_check_checks l_check_checks c_check_checks k_check_checks fun _ _ _ _ _ _ us hl => match us, hl with | [_, _], _ => rfl,
    f_check_checked := df_mk X G m_check_checked l_check_checked c_check_checked k_check_checked fun _ _ _ _ _ _ us hl => match us, hl with | [_, _], _ => rfl,
    f_are_checks := df_mk X G m_are_checks l_are_checks c_are_checks k_are_checks fun _ _ _ _ _ _ us hl => match us, hl with | [_, _], _ => rfl,
    f_state_below := df_mk X G m_state_below l_state_below c_state_below k_state_below fun _ _ _ _ _ _ us hl => match us, hl with | [_, _, _], _ => rfl,
    f_usable_checked := df_mk X G m_usable_checked l_usable_checked c_usable_checked k_usable_checked fun _ _ _ _ _ _ us hl => match us, hl with | [_, _, _], _ => rfl,
    f_marked_system := df_mk X G m_marked_system l_marked_system c_marked_system k_marked_system fun _ _ _ _ _ _ us hl => match us, hl with | [_, _], _ => rfl,
    f_rule_told := df_mk X G m_rule_told l_rule_told c_rule_told k_rule_told fun _ _ _ _ _ _ us hl => match us, hl with | [_, _, _], _ => rfl,
    f_marked := df_mk X G m_marked l_marked c_marked k_marked fun _ _ _ _ _ _ us hl => match us, hl with | [_, _, _], _ => rfl,
    f_unmarked := df_mk X G m_unmarked l_unmarked c_unmarked k_unmarked fun _ _ _ _ _ _ us hl => match us, hl with | [_, _, _], _ => rfl,
    f__law_pot := df_mk X G m__law_pot l__law_pot c__law_pot k__law_pot fun _ _ _ _ _ _ us hl => match us, hl with | [_, _], _ => rfl,
    f__law_draw := df_mk X G m__law_draw l__law_draw c__law_draw k__law_draw fun _ _ _ _ _ _ us hl => match us, hl with | [_, _], _ => rfl,
    f__law_one := df_mk X G m__law_one l__law_one c__law_one k__law_one fun _ _ _ _ _ _ us hl => match us, hl with | [_, _], _ => rfl,
    f__law_alike := df_mk X G m__law_alike l__law_alike c__law_alike k__law_alike fun _ _ _ _ _ _ us hl => match us, hl with | [_, _], _ => rfl,
    f__law_system := df_mk X G m__law_system l__law_system c__law_system k__law_system fun _ _ _ _ _ _ us hl => match us, hl with | [_, _, _, _, _], _ => rfl,
    f__law_whole := df_mk X G m__law_whole l__law_whole c__law_whole k__law_whole fun _ _ _ _ _ _ us hl => match us, hl with | [_], _ => rfl,
    f__law_checks := df_mk X G m__law_checks l__law_checks c__law_checks k__law_checks fun _ _ _ _ _ _ us hl => match us, hl with | [_, _], _ => rfl,
    f__law_below := df_mk X G m__law_below l__law_below c__law_below k__law_below fun _ _ _ _ _ _ us hl => match us, hl with | [_, _], _ => rfl,
    f__law_usable := df_mk X G m__law_usable l__law_usable c__law_usable k__law_usable fun _ _ _ _ _ _ us hl => match us, hl with | [_, _, _], _ => rfl,
    f__law_marks := df_mk X G m__law_marks l__law_marks c__law_marks k__law_marks fun _ _ _ _ _ _ us hl => match us, hl with | [_, _], _ => rfl,
    f__law_is_numbers := df_mk X G m__law_is_numbers l__law_is_numbers c__law_is_numbers k__law_is_numbers fun _ _ _ _ _ _ us hl => match us, hl with | [_, _], _ => rfl,
    f__law_are_checks := df_mk X G m__law_are_checks l__law_are_checks c__law_are_checks k__law_are_checks fun _ _ _ _ _ _ us hl => match us, hl with | [_, _], _ => rfl,
    f__law_bent := df_mk X G m__law_bent l__law_bent c__law_bent k__law_bent fun _ _ _ _ _ _ us hl => match us, hl with | [_, _, _], _ => rfl,
    f__law_marked_rules := df_mk X G m__law_marked_rules l__law_marked_rules c__law_marked_rules k__law_marked_rules fun _ _ _ _ _ _ us hl => match us, hl with | [_, _], _ => rfl,
    f_law := df_mk X G m_law l_law c_law k_law fun _ _ _ _ _ _ us hl => match us, hl with | [_], _ => rfl,
    n_abs := PySem.W.mg_none_of X G n_abs,
    n_all := PySem.W.mg_none_of X G n_all,
    n_bool := PySem.W.mg_none_of X G n_bool,
    n_enumerate := PySem.W.mg_none_of X G n_enumerate,
    n_int := PySem.W.mg_none_of X G n_int,
    n_isinstance := PySem.W.mg_none_of X G n_isinstance,
    n_len := PySem.W.mg_none_of X G n_len,
    n_list := PySem.W.mg_none_of X G n_list,
    n_max := PySem.W.mg_none_of X G n_max,
    n_min := PySem.W.mg_none_of X G n_min,
    n_range := PySem.W.mg_none_of X G n_range,
    n_set := PySem.W.mg_none_of X G n_set,
    n_sorted := PySem.W.mg_none_of X G n_sorted,
    n_str := PySem.W.mg_none_of X G n_str,
    n_tuple := PySem.W.mg_none_of X G n_tuple,
    n_zip := PySem.W.mg_none_of X G n_zip,
    c_MOST_OF_A_WORD := ⟨_, PySem.W.mg_of X G m_MOST_OF_A_WORD, (.int _ _)⟩,
    x_InvalidNumber := ⟨PySem.W.mg_of X G g_InvalidNumber, kC_InvalidNumber, excIn_mk L_InvalidNumber LS_InvalidNumber (nsOk_mk LN_InvalidNumber oN_InvalidNumber) (nsOk_mk LM_InvalidNumber oM_InvalidNumber) iN_InvalidNumber iM_InvalidNumber, exC_InvalidNumber, tyC_InvalidNumber⟩,
    x_InvalidConfiguration := ⟨PySem.W.mg_of X G g_InvalidConfiguration, kC_InvalidConfiguration, excIn_mk L_InvalidConfiguration LS_InvalidConfiguration (nsOk_mk LN_InvalidConfiguration oN_InvalidConfiguration) (nsOk_mk LM_InvalidConfiguration oM_InvalidConfiguration) iN_InvalidConfiguration iM_InvalidConfiguration, exC_InvalidConfiguration, tyC_InvalidConfiguration⟩,
    x_InvalidChecks := ⟨PySem.W.mg_of X G g_InvalidChecks, kC_InvalidChecks, excIn_mk L_InvalidChecks LS_InvalidChecks (nsOk_mk LN_InvalidChecks oN_InvalidChecks) (nsOk_mk LM_InvalidChecks oM_InvalidChecks) iN_InvalidChecks iM_InvalidChecks, exC_InvalidChecks, tyC_InvalidChecks⟩,
    x_InvalidSystem := { gC := PySem.W.mg_of X G g_InvalidSystem, cls := ⟨_, _, _, _, _, _, _, _, _, _, _, _, _, _, _, L_InvalidSystem, rfl⟩, sa := sa_InvalidSystem, noN := noN_InvalidSystem, iC := iC_InvalidSystem, tC := tC_InvalidSystem, kC := kC_InvalidSystem, exC := exC_InvalidSystem, tyC := tyC_InvalidSystem, init := exIn_mk L_InvalidSystem, sup := sup_mk L_InvalidSystem LS_InvalidSystem nS_InvalidSystem, subV := subV_InvalidSystem, self := self_InvalidSystem, noSup := PySem.W.mg_none_of X G noSup, opq := opq, cell := ⟨_, _, _, ce_InvalidSystem⟩, code := ⟨_, _, _, _, _, _, co_InvalidSystem, v2_InvalidSystem, fi_InvalidSystem⟩, top := by rfl, fn := ⟨_, _, _, _, _, _, _, _, _, _, _, _, _, _, _, _, _, _, _, _, lin_InvalidSystem, F_InvalidSystem, cd_InvalidSystem⟩ } }, rfl⟩
theorem walk {l : PySem.W.OpenLaw} {q : Program} {loose : List Str} {XP : (Str → Option Value) → Heap → Prop} {YP : World → Heap → Prop} {d : DefRec} {K : Params → PySem.W.Frag} (hn : l.most = some 63) (hdf : d.params.defaults = []) (hp : l.prog = PySem.Challenge.pw_everystack_k55_checks_judged_and_marked)
    (hY : ∀ (w : World) (h : Heap), YP w h → (K w.params).In h)
    (F : ∀ (w : World) (mg : Str → Option Value) (fa : Addr) (h : Heap), (K w.params).In h → h.Ns mainGlobals mg → mg d.name = some (.ref fa) → ∃ a : Ad, Tx PySem.Challenge.pw_everystack_k55_checks_judged_and_marked (K w.params) mg a ∧ a.f_law = fa) :
    PySem.W.WalkO q loose XP YP l.row.toRowW d [] (fun f vs => PySem.call f vs) :=
  walk_pu hn hdf hp hY (fun w mg fa h KX G hmg => by
    obtain ⟨a, T, e⟩ := F w mg fa h KX G hmg
    subst e
    exact ⟨a.d_law, bind1 T.f_law.F fun _ _ _ _ _ _ _ => rfl, fun base _ _ => ok_law T⟩) ⟨rfl, by decide, by decide⟩ law_true
end K
end Pu
open PySem PySem.W PyProof.Rows in
set_option maxRecDepth 100000 in
set_option maxHeartbeats 0 in
theorem PySem.Challenge.cw_everystack_k55_checks_judged_and_marked_holds : PySem.Challenge.rw_everystack_k55_checks_judged_and_marked.Holds := by
  w_on; o_law; k_head; (case hw => w_witness2)
  k_fill
  refine Pu.K.walk (l := PySem.Challenge.rw_everystack_k55_checks_judged_and_marked) rfl rfl rfl (fun w h Y => PySem.W.kIn_of Y) ?F
  case F =>
    intro w mg fa h KX G hmg
    refine' Pu.K.all_mk KX G hmg ?m_is_integer ?l_is_integer ?c_is_integer ?k_is_integer ?m_is_from ?l_is_from ?c_is_from ?k_is_from ?m_is_between ?l_is_between ?c_is_between ?k_is_between ?m_is_index_of ?l_is_index_of ?c_is_index_of ?k_is_index_of ?m_is_ascending ?l_is_ascending ?c_is_ascending ?k_is_ascending ?m_is_word ?l_is_word ?c_is_word ?k_is_word ?m_is_index_row ?l_is_index_row ?c_is_index_row ?k_is_index_row ?m_is_rule ?l_is_rule ?c_is_rule ?k_is_rule ?m_fault_of_system ?l_fault_of_system ?c_fault_of_system ?k_fault_of_system ?m_is_configuration_of ?l_is_configuration_of ?c_is_configuration_of ?k_is_configuration_of ?m_check_number ?l_check_number ?c_check_number ?k_check_number ?m_check_system ?l_check_system ?c_check_system ?k_check_system ?m_check_configuration ?l_check_configuration ?c_check_configuration ?k_check_configuration ?m_rules_at ?l_rules_at ?c_rules_at ?k_rules_at ?m_usable_in ?l_usable_in ?c_usable_in ?k_usable_in ?m_are_checks_in ?l_are_checks_in ?c_are_checks_in ?k_are_checks_in ?m_state_in ?l_state_in ?c_state_in ?k_state_in ?m_is_let ?l_is_let ?c_is_let ?k_is_let ?m_usable_checked_in ?l_usable_checked_in ?c_usable_checked_in ?k_usable_checked_in ?m_marked_word ?l_marked_word ?c_marked_word ?k_marked_word ?m_marked_rules ?l_marked_rules ?c_marked_rules ?k_marked_rules ?m_marked_in ?l_marked_in ?c_marked_in ?k_marked_in ?m_marked_configuration ?l_marked_configuration ?c_marked_configuration ?k_marked_configuration ?m_check_checks ?l_check_checks ?c_check_checks ?k_check_checks ?m_check_checked ?l_check_checked ?c_check_checked ?k_check_checked ?m_are_checks ?l_are_checks ?c_are_checks ?k_are_checks ?m_state_below ?l_state_below ?c_state_below ?k_state_below ?m_usable_checked ?l_usable_checked ?c_usable_checked ?k_usable_checked ?m_marked_system ?l_marked_system ?c_marked_system ?k_marked_system ?m_rule_told ?l_rule_told ?c_rule_told ?k_rule_told ?m_marked ?l_marked ?c_marked ?k_marked ?m_unmarked ?l_unmarked ?c_unmarked ?k_unmarked ?m__law_pot ?l__law_pot ?c__law_pot ?k__law_pot ?m__law_draw ?l__law_draw ?c__law_draw ?k__law_draw ?m__law_one ?l__law_one ?c__law_one ?k__law_one ?m__law_alike ?l__law_alike ?c__law_alike ?k__law_alike ?m__law_system ?l__law_system ?c__law_system ?k__law_system ?m__law_whole ?l__law_whole ?c__law_whole ?k__law_whole ?m__law_checks ?l__law_checks ?c__law_checks ?k__law_checks ?m__law_below ?l__law_below ?c__law_below ?k__law_below ?m__law_usable ?l__law_usable ?c__law_usable ?k__law_usable ?m__law_marks ?l__law_marks ?c__law_marks ?k__law_marks ?m__law_is_numbers ?l__law_is_numbers ?c__law_is_numbers ?k__law_is_numbers ?m__law_are_checks ?l__law_are_checks ?c__law_are_checks ?k__law_are_checks ?m__law_bent ?l__law_bent ?c__law_bent ?k__law_bent ?m__law_marked_rules ?l__law_marked_rules ?c__law_marked_rules ?k__law_marked_rules ?m_law ?l_law ?c_law ?k_law ?n_abs ?n_all ?n_bool ?n_enumerate ?n_int ?n_isinstance ?n_len ?n_list ?n_max ?n_min ?n_range ?n_set ?n_sorted ?n_str ?n_tuple ?n_zip ?m_MOST_OF_A_WORD ?g_InvalidNumber ?kC_InvalidNumber ?exC_InvalidNumber ?tyC_InvalidNumber ?L_InvalidNumber ?LS_InvalidNumber ?LN_InvalidNumber ?LM_InvalidNumber ?oN_InvalidNumber ?oM_InvalidNumber ?iN_InvalidNumber ?iM_InvalidNumber ?g_InvalidConfiguration ?kC_InvalidConfiguration ?exC_InvalidConfiguration ?tyC_InvalidConfiguration ?L_InvalidConfiguration ?LS_InvalidConfiguration ?LN_InvalidConfiguration ?LM_InvalidConfiguration ?oN_InvalidConfiguration ?oM_InvalidConfiguration ?iN_InvalidConfiguration ?iM_InvalidConfiguration ?g_InvalidChecks ?kC_InvalidChecks ?exC_InvalidChecks ?tyC_InvalidChecks ?L_InvalidChecks ?LS_InvalidChecks ?LN_InvalidChecks ?LM_InvalidChecks ?oN_InvalidChecks ?oM_InvalidChecks ?iN_InvalidChecks ?iM_InvalidChecks ?g_InvalidSystem ?kC_InvalidSystem ?exC_InvalidSystem ?tyC_InvalidSystem ?L_InvalidSystem ?LS_InvalidSystem ?nS_InvalidSystem ?sa_InvalidSystem ?noN_InvalidSystem ?iC_InvalidSystem ?tC_InvalidSystem ?subV_InvalidSystem ?self_InvalidSystem ?noSup ?opq ?F_InvalidSystem ?lin_InvalidSystem ?cd_InvalidSystem ?ce_InvalidSystem ?co_InvalidSystem ?v2_InvalidSystem ?fi_InvalidSystem
    (case m_is_integer => k_is)
    (case l_is_integer => k_is)
    (case c_is_integer => k_is)
    (case k_is_integer => k_is)
    (case m_is_from => k_is)
    (case l_is_from => k_is)
    (case c_is_from => k_is)
    (case k_is_from => k_is)
    (case m_is_between => k_is)
    (case l_is_between => k_is)
    (case c_is_between => k_is)
    (case k_is_between => k_is)
    (case m_is_index_of => k_is)
    (case l_is_index_of => k_is)
    (case c_is_index_of => k_is)
    (case k_is_index_of => k_is)
    (case m_is_ascending => k_is)
    (case l_is_ascending => k_is)
    (case c_is_ascending => k_is)
    (case k_is_ascending => k_is)
    (case m_is_word => k_is)
    (case l_is_word => k_is)
    (case c_is_word => k_is)
    (case k_is_word => k_is)
    (case m_is_index_row => k_is)
    (case l_is_index_row => k_is)
    (case c_is_index_row => k_is)
    (case k_is_index_row => k_is)
    (case m_is_rule => k_is)
    (case l_is_rule => k_is)
    (case c_is_rule => k_is)
    (case k_is_rule => k_is)
    (case m_fault_of_system => k_is)
    (case l_fault_of_system => k_is)
    (case c_fault_of_system => k_is)
    (case k_fault_of_system => k_is)
    (case m_is_configuration_of => k_is)
    (case l_is_configuration_of => k_is)
    (case c_is_configuration_of => k_is)
    (case k_is_configuration_of => k_is)
    (case m_check_number => k_is)
    (case l_check_number => k_is)
    (case c_check_number => k_is)
    (case k_check_number => k_is)
    (case m_check_system => k_is)
    (case l_check_system => k_is)
    (case c_check_system => k_is)
    (case k_check_system => k_is)
    (case m_check_configuration => k_is)
    (case l_check_configuration => k_is)
    (case c_check_configuration => k_is)
    (case k_check_configuration => k_is)
    (case m_rules_at => k_is)
    (case l_rules_at => k_is)
    (case c_rules_at => k_is)
    (case k_rules_at => k_is)
    (case m_usable_in => k_is)
    (case l_usable_in => k_is)
    (case c_usable_in => k_is)
    (case k_usable_in => k_is)
    (case m_are_checks_in => k_is)
    (case l_are_checks_in => k_is)
    (case c_are_checks_in => k_is)
    (case k_are_checks_in => k_is)
    (case m_state_in => k_is)
    (case l_state_in => k_is)
    (case c_state_in => k_is)
    (case k_state_in => k_is)
    (case m_is_let => k_is)
    (case l_is_let => k_is)
    (case c_is_let => k_is)
    (case k_is_let => k_is)
    (case m_usable_checked_in => k_is)
    (case l_usable_checked_in => k_is)
    (case c_usable_checked_in => k_is)
    (case k_usable_checked_in => k_is)
    (case m_marked_word => k_is)
    (case l_marked_word => k_is)
    (case c_marked_word => k_is)
    (case k_marked_word => k_is)
    (case m_marked_rules => k_is)
    (case l_marked_rules => k_is)
    (case c_marked_rules => k_is)
    (case k_marked_rules => k_is)
    (case m_marked_in => k_is)
    (case l_marked_in => k_is)
    (case c_marked_in => k_is)
    (case k_marked_in => k_is)
    (case m_marked_configuration => k_is)
    (case l_marked_configuration => k_is)
    (case c_marked_configuration => k_is)
    (case k_marked_configuration => k_is)
    (case m_check_checks => k_is)
    (case l_check_checks => k_is)
    (case c_check_checks => k_is)
    (case k_check_checks => k_is)
    (case m_check_checked => k_is)
    (case l_check_checked => k_is)
    (case c_check_checked => k_is)
    (case k_check_checked => k_is)
    (case m_are_checks => k_is)
    (case l_are_checks => k_is)
    (case c_are_checks => k_is)
    (case k_are_checks => k_is)
    (case m_state_below => k_is)
    (case l_state_below => k_is)
    (case c_state_below => k_is)
    (case k_state_below => k_is)
    (case m_usable_checked => k_is)
    (case l_usable_checked => k_is)
    (case c_usable_checked => k_is)
    (case k_usable_checked => k_is)
    (case m_marked_system => k_is)
    (case l_marked_system => k_is)
    (case c_marked_system => k_is)
    (case k_marked_system => k_is)
    (case m_rule_told => k_is)
    (case l_rule_told => k_is)
    (case c_rule_told => k_is)
    (case k_rule_told => k_is)
    (case m_marked => k_is)
    (case l_marked => k_is)
    (case c_marked => k_is)
    (case k_marked => k_is)
    (case m_unmarked => k_is)
    (case l_unmarked => k_is)
    (case c_unmarked => k_is)
    (case k_unmarked => k_is)
    (case m__law_pot => k_is)
    (case l__law_pot => k_is)
    (case c__law_pot => k_is)
    (case k__law_pot => k_is)
    (case m__law_draw => k_is)
    (case l__law_draw => k_is)
    (case c__law_draw => k_is)
    (case k__law_draw => k_is)
    (case m__law_one => k_is)
    (case l__law_one => k_is)
    (case c__law_one => k_is)
    (case k__law_one => k_is)
    (case m__law_alike => k_is)
    (case l__law_alike => k_is)
    (case c__law_alike => k_is)
    (case k__law_alike => k_is)
    (case m__law_system => k_is)
    (case l__law_system => k_is)
    (case c__law_system => k_is)
    (case k__law_system => k_is)
    (case m__law_whole => k_is)
    (case l__law_whole => k_is)
    (case c__law_whole => k_is)
    (case k__law_whole => k_is)
    (case m__law_checks => k_is)
    (case l__law_checks => k_is)
    (case c__law_checks => k_is)
    (case k__law_checks => k_is)
    (case m__law_below => k_is)
    (case l__law_below => k_is)
    (case c__law_below => k_is)
    (case k__law_below => k_is)
    (case m__law_usable => k_is)
    (case l__law_usable => k_is)
    (case c__law_usable => k_is)
    (case k__law_usable => k_is)
    (case m__law_marks => k_is)
    (case l__law_marks => k_is)
    (case c__law_marks => k_is)
    (case k__law_marks => k_is)
    (case m__law_is_numbers => k_is)
    (case l__law_is_numbers => k_is)
    (case c__law_is_numbers => k_is)
    (case k__law_is_numbers => k_is)
    (case m__law_are_checks => k_is)
    (case l__law_are_checks => k_is)
    (case c__law_are_checks => k_is)
    (case k__law_are_checks => k_is)
    (case m__law_bent => k_is)
    (case l__law_bent => k_is)
    (case c__law_bent => k_is)
    (case k__law_bent => k_is)
    (case m__law_marked_rules => k_is)
    (case l__law_marked_rules => k_is)
    (case c__law_marked_rules => k_is)
    (case k__law_marked_rules => k_is)
    (case m_law => k_is)
    (case l_law => k_is)
    (case c_law => k_is)
    (case k_law => k_is)
    (case n_abs => k_is)
    (case n_all => k_is)
    (case n_bool => k_is)
    (case n_enumerate => k_is)
    (case n_int => k_is)
    (case n_isinstance => k_is)
    (case n_len => k_is)
    (case n_list => k_is)
    (case n_max => k_is)
    (case n_min => k_is)
    (case n_range => k_is)
    (case n_set => k_is)
    (case n_sorted => k_is)
    (case n_str => k_is)
    (case n_tuple => k_is)
    (case n_zip => k_is)
    (case m_MOST_OF_A_WORD => k_is)
    (case g_InvalidNumber => k_is)
    (case kC_InvalidNumber => k_is)
    (case exC_InvalidNumber => k_is)
    (case tyC_InvalidNumber => k_is)
    (case L_InvalidNumber => k_is)
    (case LS_InvalidNumber => k_is)
    (case LN_InvalidNumber => k_is)
    (case LM_InvalidNumber => k_is)
    (case oN_InvalidNumber => rfl)
    (case oM_InvalidNumber => rfl)
    (case iN_InvalidNumber => k_is)
    (case iM_InvalidNumber => k_is)
    (case g_InvalidConfiguration => k_is)
    (case kC_InvalidConfiguration => k_is)
    (case exC_InvalidConfiguration => k_is)
    (case tyC_InvalidConfiguration => k_is)
    (case L_InvalidConfiguration => k_is)
    (case LS_InvalidConfiguration => k_is)
    (case LN_InvalidConfiguration => k_is)
    (case LM_InvalidConfiguration => k_is)
    (case oN_InvalidConfiguration => rfl)
    (case oM_InvalidConfiguration => rfl)
    (case iN_InvalidConfiguration => k_is)
    (case iM_InvalidConfiguration => k_is)
    (case g_InvalidChecks => k_is)
    (case kC_InvalidChecks => k_is)
    (case exC_InvalidChecks => k_is)
    (case tyC_InvalidChecks => k_is)
    (case L_InvalidChecks => k_is)
    (case LS_InvalidChecks => k_is)
    (case LN_InvalidChecks => k_is)
    (case LM_InvalidChecks => k_is)
    (case oN_InvalidChecks => rfl)
    (case oM_InvalidChecks => rfl)
    (case iN_InvalidChecks => k_is)
    (case iM_InvalidChecks => k_is)
    (case g_InvalidSystem => k_is)
    (case kC_InvalidSystem => k_is)
    (case exC_InvalidSystem => k_is)
    (case tyC_InvalidSystem => k_is)
    (case L_InvalidSystem => k_is)
    (case LS_InvalidSystem => k_is)
    (case nS_InvalidSystem => k_is)
    (case sa_InvalidSystem => k_is)
    (case noN_InvalidSystem => k_is)
    (case iC_InvalidSystem => k_is)
    (case tC_InvalidSystem => k_is)
    (case subV_InvalidSystem => k_is)
    (case self_InvalidSystem => k_is)
    (case noSup => k_is)
    (case opq => k_is)
    (case F_InvalidSystem => k_is)
    (case lin_InvalidSystem => rfl)
    (case cd_InvalidSystem => k_is)
    (case ce_InvalidSystem => k_is)
    (case co_InvalidSystem => k_is)
    (case v2_InvalidSystem => rfl)
    (case fi_InvalidSystem => decide +kernel)


