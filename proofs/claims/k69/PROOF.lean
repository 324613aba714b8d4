import PyProof.Rows.All
import Wide.All
import OpenK.AllK
import Wide.FinOn
import HandS.ForMost
import HandS.Walk
import KE.KDictKeyed
import KE.KeyNested
import KE.SortData
import PyProof.EqLayable
import PyProof.ReprRoads
import HandS.Deep
import HandS.TupAny
import HandS.TupLe
import HandS.Wide
import PyProof.P3In
import KE.LtData
import HandS.IsInst
import HandS.Conv
import HandS.Star
import HandS.Comp
import HandS.Zip
import KE.KSortTup
import KE.KDictSum
import HandS.TupSets
import PyProof.CallFns
import PyProof.DictFindH
import KE.KDictCopyH
import HandS.DictComp
import HandS.More
import HandS.Words
import HandS.Ends
import PySem.Challenge.RW_hollowwithin_k69_whole_unlike_lots
set_option Elab.async false
set_option linter.all false
set_option maxRecDepth 100000
/-! TLa: values as trees, what stands for them in the abstract heap, slots, the frame's invariant. -/
namespace TL
open PySem L2

/-- the fixed surroundings -/
structure Gx where
  P : Program
  w : World
  K : PySem.W.Frag

def keyD : Key → PyData
  | .inl i => .int i
  | .inr s => .str s
theorem keyD_inj : ∀ {a b : Key}, keyD a = keyD b → a = b
  | .inl _, .inl _, h => by cases h; rfl
  | .inr _, .inr _, h => by cases h; rfl
  | .inl _, .inr _, h => by cases h
  | .inr _, .inl _, h => by cases h

mutual
def keyN : PyData → Option NestedKey
  | .none => some .none
  | .int i => some (.num i)
  | .str s => some (.text s)
  | .tuple ds => (keyNs ds).map .tup
  | .bool _ => none
  | .list _ => none
  | .dict _ => none
def keyNs : List PyData → Option (List NestedKey)
  | [] => some []
  | d :: ds => match keyN d, keyNs ds with
    | some k, some ks => some (k :: ks)
    | _, _ => none
end
mutual
theorem keyN_inj : ∀ (a b : PyData) (k : NestedKey), keyN a = some k → keyN b = some k → a = b
  | .none, b, k, h1, h2 => by
    simp only [keyN] at h1; cases h1
    cases b <;> simp [keyN] at h2; rfl
  | .int i, b, k, h1, h2 => by
    simp only [keyN] at h1; cases h1
    cases b <;> simp [keyN] at h2; rw [h2]
  | .str i, b, k, h1, h2 => by
    simp only [keyN] at h1; cases h1
    cases b <;> simp [keyN] at h2; rw [h2]
  | .tuple ds, b, k, h1, h2 => by
    simp only [keyN, Option.map_eq_some_iff] at h1
    obtain ⟨ks, e1, rfl⟩ := h1
    cases b <;> simp [keyN] at h2
    rename_i es
    rw [keyNs_inj ds es ks e1 h2]
  | .bool _, b, k, h1, h2 => by simp [keyN] at h1
  | .list _, b, k, h1, h2 => by simp [keyN] at h1
  | .dict _, b, k, h1, h2 => by simp [keyN] at h1
theorem keyNs_inj : ∀ (a b : List PyData) (k : List NestedKey), keyNs a = some k → keyNs b = some k → a = b
  | [], [], _, _, _ => rfl
  | [], d :: ds, k, h1, h2 => by
    simp only [keyNs] at h1; cases h1
    simp only [keyNs] at h2; split at h2 <;> cases h2
  | d :: ds, [], k, h1, h2 => by
    simp only [keyNs] at h2; cases h2
    simp only [keyNs] at h1; split at h1 <;> cases h1
  | d :: ds, e :: es, k, h1, h2 => by
    simp only [keyNs] at h1 h2
    split at h1 <;> first | cases h1 | skip
    split at h2 <;> first | cases h2 | skip
    rename_i k1 ks1 a1 a2 _ _ b1 b2
    rw [keyN_inj d e _ a1 b1, keyNs_inj ds es _ a2 b2]
end

/-- a dict whose keys are tuples: its entries, where the keys stand -/
def DNok (P : Program) (w : World) (a : Addr) (ks : List (NestedKey × Addr × V)) (h : Heap) : Prop :=
  ks.length ≤ sizeLine ∧ (a == sysModules) = false ∧ ∃ xs : List (NestedKey × Addr × Value), Paired (fun (p : NestedKey × Addr × V) (q : NestedKey × Addr × Value) => p.1 = q.1 ∧ p.2.1 = q.2.1 ∧ RelV p.2.2 q.2.2) ks xs ∧
    ∃ o es ep, h.get? a = some o ∧ o.ExactDict ∧ o.data = .dict es ep ∧ es.toList = xs.map (entryOfKey (nestedKind P w))
def dN (P : Program) (w : World) (a : Addr) (ks : List (NestedKey × Addr × V)) : HO := .ext (DNok P w a ks)
theorem dN_ok {P : Program} {w : World} {H : Hp} {h : Heap} {a : Addr} {ks : List (NestedKey × Addr × V)} (x : DNok P w a ks h) : ObjOk P w H h a (dN P w a ks) := by
  refine ⟨x, ?_, fun h1 h2 q k => ?_⟩
  · obtain ⟨_, _, _, _, o, _, _, e, _⟩ := x
    exact ⟨o, e⟩
  · obtain ⟨z, y, xs, r, o, es, ep, e, c⟩ := q
    exact ⟨z, y, xs, r, o, es, ep, k o e, c⟩

mutual
/-- v stands for d in H -/
inductive Rp (G : Gx) (H : Hp) : V → PyData → Prop
  | non : Rp G H .non .none
  | bl (b : Bool) : Rp G H (.bl b) (.bool b)
  | int (i : Int) : Rp G H (.int i) (.int i)
  | str (s : Str) : Rp G H (.str s) (.str s)
  | lst {a xs ds} : SqL G.K H a xs → RpA G H xs ds → Rp G H (.ref a) (.list ds)
  | tup {a xs ds} : SqT G.K H a xs → RpA G H xs ds → Rp G H (.ref a) (.tuple ds)
  | dK {a kv kvs} : Rd H a (.dK kv) → kvs.map (·.1) = kv.map (fun p => keyD p.1) → RpA G H (kv.map (·.2)) (kvs.map (·.2)) → Rp G H (.ref a) (.dict kvs)
  | dN {a ks kvs} : H a = some (dN G.P G.w a ks) → (ks.map (·.1)).Nodup → (∀ p ∈ ks, p.1.depth ≤ 8) → kvs.map (fun p => keyN p.1) = ks.map (fun p => some p.1) →
      RpA G H (ks.map (fun p => V.ref p.2.1)) (kvs.map (·.1)) → RpA G H (ks.map (·.2.2)) (kvs.map (·.2)) → Rp G H (.ref a) (.dict kvs)
inductive RpA (G : Gx) (H : Hp) : List V → List PyData → Prop
  | nil : RpA G H [] []
  | cons {v vs d ds} : Rp G H v d → RpA G H vs ds → RpA G H (v :: vs) (d :: ds)
end

theorem Rd.same {H H' : Hp} (e : Same H H') {a : Addr} {u : HO} (h : Rd H a u) : Rd H' a u := h.elim (fun q => .inl (e _ _ q)) fun ⟨o, q⟩ => .inr ⟨o, e _ _ q⟩
theorem sqL_same {K : PySem.W.Frag} {H H' : Hp} (e : Same H H') {a : Addr} {xs : List V} (h : SqL K H a xs) : SqL K H' a xs := e.seq h
theorem sqT_same {K : PySem.W.Frag} {H H' : Hp} (e : Same H H') {a : Addr} {xs : List V} (h : SqT K H a xs) : SqT K H' a xs := h.elim (fun q => .inl (Rd.same e q)) .inr

mutual
theorem Rp.mono {G : Gx} {H H' : Hp} (e : Same H H') : ∀ {v : V} {d : PyData}, Rp G H v d → Rp G H' v d
  | _, _, .non => .non
  | _, _, .bl b => .bl b
  | _, _, .int i => .int i
  | _, _, .str s => .str s
  | _, _, .lst h1 h2 => .lst (sqL_same e h1) (RpA.mono e h2)
  | _, _, .tup h1 h2 => .tup (sqT_same e h1) (RpA.mono e h2)
  | _, _, .dK h1 h2 h3 => .dK (Rd.same e h1) h2 (RpA.mono e h3)
  | _, _, .dN h1 h2 h6 h3 h4 h5 => .dN (e _ _ h1) h2 h6 h3 (RpA.mono e h4) (RpA.mono e h5)
theorem RpA.mono {G : Gx} {H H' : Hp} (e : Same H H') : ∀ {v : List V} {d : List PyData}, RpA G H v d → RpA G H' v d
  | _, _, .nil => .nil
  | _, _, .cons h1 h2 => .cons (Rp.mono e h1) (RpA.mono e h2)
end
theorem RpA.length {G : Gx} {H : Hp} : ∀ {v : List V} {d : List PyData}, RpA G H v d → v.length = d.length
  | _, _, .nil => rfl
  | _, _, .cons _ h => by simp [RpA.length h]
theorem RpA.append {G : Gx} {H : Hp} : ∀ {v u : List V} {d e : List PyData}, RpA G H v d → RpA G H u e → RpA G H (v ++ u) (d ++ e)
  | _, _, _, _, .nil, h => h
  | _, _, _, _, .cons h1 h2, h => .cons h1 (RpA.append h2 h)
theorem RpA.get {G : Gx} {H : Hp} : ∀ {v : List V} {d : List PyData} {i : Nat} {x : PyData}, RpA G H v d → d[i]? = some x → ∃ u, v[i]? = some u ∧ Rp G H u x
  | _, _, _, _, .nil, e => by simp at e
  | _, _, 0, _, .cons h1 _, e => by simp at e; subst e; exact ⟨_, rfl, h1⟩
  | _, _, i + 1, _, .cons _ h2, e => by
    obtain ⟨u, a, b⟩ := RpA.get (i := i) h2 (by simpa using e)
    exact ⟨u, by simpa using a, b⟩
theorem RpA.get' {G : Gx} {H : Hp} : ∀ {v : List V} {d : List PyData} {i : Nat} {u : V}, RpA G H v d → v[i]? = some u → ∃ x, d[i]? = some x ∧ Rp G H u x
  | _, _, _, _, .nil, e => by simp at e
  | _, _, 0, _, .cons h1 _, e => by simp at e; subst e; exact ⟨_, rfl, h1⟩
  | _, _, i + 1, _, .cons _ h2, e => by
    obtain ⟨u, a, b⟩ := RpA.get' (i := i) h2 (by simpa using e)
    exact ⟨u, by simpa using a, b⟩
theorem RpA.take {G : Gx} {H : Hp} : ∀ {v : List V} {d : List PyData} (n : Nat), RpA G H v d → RpA G H (v.take n) (d.take n)
  | _, _, 0, _ => by simp; exact .nil
  | _, _, n + 1, .nil => by simp; exact .nil
  | _, _, n + 1, .cons h1 h2 => by simp; exact .cons h1 (RpA.take n h2)
theorem RpA.drop {G : Gx} {H : Hp} : ∀ {v : List V} {d : List PyData} (n : Nat), RpA G H v d → RpA G H (v.drop n) (d.drop n)
  | _, _, 0, h => by simpa using h
  | _, _, n + 1, .nil => by simp; exact .nil
  | _, _, n + 1, .cons h1 h2 => by simp; exact RpA.drop n h2
theorem RpA.set {G : Gx} {H : Hp} {x : V} {y : PyData} (r : Rp G H x y) : ∀ {v : List V} {d : List PyData} (n : Nat), RpA G H v d → RpA G H (v.set n x) (d.set n y)
  | _, _, _, .nil => by simp; exact .nil
  | _, _, 0, .cons _ h2 => by simp; exact .cons r h2
  | _, _, n + 1, .cons h1 h2 => by simp; exact .cons h1 (RpA.set r n h2)
theorem RpA.eraseIdx {G : Gx} {H : Hp} : ∀ {v : List V} {d : List PyData} (n : Nat), RpA G H v d → RpA G H (v.eraseIdx n) (d.eraseIdx n)
  | _, _, _, .nil => by simp; exact .nil
  | _, _, 0, .cons _ h2 => by simpa using h2
  | _, _, n + 1, .cons h1 h2 => by simp; exact .cons h1 (RpA.eraseIdx n h2)
theorem RpA.reverse {G : Gx} {H : Hp} {v : List V} {d : List PyData} (h : RpA G H v d) : RpA G H v.reverse d.reverse := by
  induction v generalizing d with
  | nil => cases h; exact .nil
  | cons x v ih =>
    cases h with
    | cons h1 h2 => simp only [List.reverse_cons]; exact RpA.append (ih h2) (.cons h1 .nil)
theorem RpA.ints {G : Gx} {H : Hp} : ∀ {vs : List V} {ns : List Int}, RpA G H vs (ns.map .int) → vs = ns.map V.int
  | _, [], h => by cases h; rfl
  | _, n :: ns, h => by
    cases h with
    | cons h1 h2 => cases h1; rw [RpA.ints h2]; rfl
theorem RpA.bools {G : Gx} {H : Hp} : ∀ {vs : List V} {ns : List Bool}, RpA G H vs (ns.map .bool) → vs = ns.map V.bl
  | _, [], h => by cases h; rfl
  | _, n :: ns, h => by
    cases h with
    | cons h1 h2 => cases h1; rw [RpA.bools h2]; rfl

/-! ### slots and the frame -/
inductive SV
  | r (d : PyData)
  | p (d : PyData)
  | q (d : PyData)
abbrev Tau := List (Option SV)

/-- the objects that a p-slot owns -/
def ownB : Tau → St → Addr → Bool
  | some (.p _) :: τ, some (.ref a) :: σ, b => a == b || ownB τ σ b
  | _ :: τ, _ :: σ, b => ownB τ σ b
  | _, _, _ => false
/-- the heap without what may be changed -/
def msk (M : Addr → Bool) (τ : Tau) (σ : St) (H : Hp) : Hp := fun b => if M b || ownB τ σ b then none else H b

/-- the object at a, as it stands in H, holds d; what is in it stands in Hm -/
inductive Ob (G : Gx) (Hm H : Hp) (a : Addr) : PyData → Prop
  | lst {xs ds} : H a = some (.lst xs) → RpA G Hm xs ds → Ob G Hm H a (.list ds)
  | dK {kv kvs} : H a = some (.dK kv) → kvs.map (·.1) = kv.map (fun p => keyD p.1) → RpA G Hm (kv.map (·.2)) (kvs.map (·.2)) → Ob G Hm H a (.dict kvs)
  | dN {ks kvs} : H a = some (dN G.P G.w a ks) → (ks.map (·.1)).Nodup → (∀ p ∈ ks, p.1.depth ≤ 8) → kvs.map (fun p => keyN p.1) = ks.map (fun p => some p.1) →
      RpA G Hm (ks.map (fun p => V.ref p.2.1)) (kvs.map (·.1)) → RpA G Hm (ks.map (·.2.2)) (kvs.map (·.2)) → Ob G Hm H a (.dict kvs)

structure Fr where
  M : Addr → Bool
  H0 : Hp
  /-- what an in-out parameter's slot holds -/
  Q0 : Nat → Option Addr
def Fr.isQ (F : Fr) (b : Addr) : Prop := ∃ i, F.Q0 i = some b
structure Fr.Ok (F : Fr) : Prop where
  qM : ∀ b, F.isQ b → F.M b = true

structure FI (G : Gx) (F : Fr) (τ : Tau) (σ : St) (H : Hp) : Prop where
  ok : F.Ok
  len : τ.length = σ.length
  same : ∀ b o, F.H0 b = some o → ¬ F.isQ b → H b = some o
  dom : ∀ b, F.M b = true → ∃ o, H b = some o
  r : ∀ (i : Nat) d, τ[i]? = some (some (.r d)) → ∃ v, σ[i]? = some (some v) ∧ Rp G (msk F.M τ σ H) v d
  p : ∀ (i : Nat) d, τ[i]? = some (some (.p d)) → ∃ a, σ[i]? = some (some (.ref a)) ∧ F.M a = false ∧ F.H0 a = none ∧ Ob G (msk F.M τ σ H) H a d
  q : ∀ (i : Nat) d, τ[i]? = some (some (.q d)) → ∃ a, σ[i]? = some (some (.ref a)) ∧ F.Q0 i = some a ∧ Ob G (msk F.M τ σ H) H a d
  inj : ∀ (i j : Nat) d e a, i ≠ j → (τ[i]? = some (some (.p d)) ∨ τ[i]? = some (some (.q d))) → (τ[j]? = some (some (.p e)) ∨ τ[j]? = some (some (.q e))) → σ[i]? = some (some (.ref a)) → σ[j]? = some (some (.ref a)) → False
end TL

set_option Elab.async false
set_option linter.all false
set_option maxRecDepth 100000
/-! TLb: the small language and what it computes over trees. -/
namespace TL
open PySem L2

inductive Rv
  | v (d : PyData)
  | f (d : PyData)
  | s (i : Nat)
/-- no more known to be new -/
def Rv.wk : Rv → Rv
  | .f d => .v d
  | x => x
inductive R (α : Type)
  | ok (a : α) (τ : Tau)
  | ex (c : Str) (d : PyData)
def Ev (α : Type) : Type := Tau → Option (R α)
namespace Ev
def pure {α : Type} (a : α) : Ev α := fun τ => some (.ok a τ)
def bind {α β : Type} (m : Ev α) (f : α → Ev β) : Ev β := fun τ => match m τ with
  | some (.ok a τ') => f a τ'
  | some (.ex c d) => some (.ex c d)
  | none => none
end Ev
instance : Monad Ev where
  pure := Ev.pure
  bind := Ev.bind
def Ev.fail {α : Type} : Ev α := fun _ => none
def Ev.lift {α : Type} : Option α → Ev α
  | some a => Ev.pure a
  | none => Ev.fail
def Ev.get : Ev Tau := fun τ => some (.ok τ τ)
def Ev.put (τ : Tau) : Ev Unit := fun _ => some (.ok () τ)
section
variable {α β : Type} {a : α} {m : Ev α} {f : α → Ev β} {τ τ' : Tau} {r : Option (R β)}
theorem ev_pure : (pure a : Ev α) τ = some (.ok a τ) := rfl
theorem ev_bind : (m >>= f) τ = (match m τ with | some (.ok a τ') => f a τ' | some (.ex c d) => some (.ex c d) | none => none) := rfl
theorem ev_bind_ok (h : m τ = some (.ok a τ')) : (m >>= f) τ = f a τ' := by rw [ev_bind, h]
theorem ev_fail : (Ev.fail : Ev α) τ = none := rfl
theorem ev_lift_some : (Ev.lift (some a)) τ = some (.ok a τ) := rfl
theorem ev_lift_none : (Ev.lift (none : Option α)) τ = none := rfl
theorem ev_get : Ev.get τ = some (.ok τ τ) := rfl
theorem ev_put : Ev.put τ' τ = some (.ok () τ') := rfl
theorem ev_bind_inv {b : β} (h : (m >>= f) τ = some (.ok b τ')) : ∃ a τ1, m τ = some (.ok a τ1) ∧ f a τ1 = some (.ok b τ') := by
  rw [ev_bind] at h
  cases e : m τ with
  | none => rw [e] at h; cases h
  | some x =>
    rw [e] at h
    cases x with
    | ok a τ1 => exact ⟨a, τ1, rfl, h⟩
    | ex c d => cases h
theorem ev_bind_iff {b : β} : (m >>= f) τ = some (.ok b τ') ↔ ∃ a τ1, m τ = some (.ok a τ1) ∧ f a τ1 = some (.ok b τ') :=
  ⟨ev_bind_inv, fun ⟨_, _, h1, h2⟩ => by rw [ev_bind_ok h1]; exact h2⟩
theorem ev_lift_inv {o : Option α} (h : (Ev.lift o) τ = some (.ok a τ')) : o = some a ∧ τ' = τ := by
  cases o with
  | none => cases h
  | some x => cases h; exact ⟨rfl, rfl⟩
theorem ev_pure_inv {b : α} (h : (pure b : Ev α) τ = some (.ok a τ')) : b = a ∧ τ' = τ := by cases h; exact ⟨rfl, rfl⟩
end

/-! ### operations on trees -/
inductive Op2 | add | sub | mul | fdiv | mod | pow | eq | ne | lt | le | gt | ge | is_ | isnot | in_ | notin | idx
  deriving DecidableEq, Repr

def few (n : Nat) : Bool := decide (n ≤ sizeLine)
def smallI (i : Int) : Bool := decide (-(2 ^ 64) < i) && decide (i < 2 ^ 64)
/-- two keys, the one as the other -/
def dget (kvs : List (PyData × PyData)) (k : PyData) : Option PyData := (kvs.find? fun p => PyData.eqv p.1 k).map (·.2)
def dput (kvs : List (PyData × PyData)) (k v : PyData) : List (PyData × PyData) :=
  if kvs.any (fun p => PyData.eqv p.1 k) then kvs.map (fun p => if PyData.eqv p.1 k then (p.1, v) else p) else kvs ++ [(k, v)]
def leafK : PyData → Bool
  | .int _ => true
  | .str _ => true
  | _ => false
def tupK (d : PyData) : Bool := (match d with | .tuple _ => true | _ => false) && (match keyN d with | some k => decide (k.depth ≤ 8) | none => false)
/-- the key is of the dict's kind -/
def kindK (kvs : List (PyData × PyData)) (k : PyData) : Bool := (leafK k && kvs.all fun p => leafK p.1) || (tupK k && kvs.all fun p => tupK p.1)

def isNum : PyData → Bool
  | .int _ => true
  | _ => false
def sem2 : Op2 → PyData → PyData → Option PyData
  | .add, .int a, .int b => some (.int (a + b))
  | .add, .list a, .list b => if few (a.length + b.length) then some (.list (a ++ b)) else none
  | .add, .tuple a, .tuple b => if few (a.length + b.length) then some (.tuple (a ++ b)) else none
  | .add, .str a, .str b => if few (a.length + b.length) then some (.str (a ++ b)) else none
  | .sub, .int a, .int b => some (.int (a - b))
  | .mul, .int a, .int b => if smallI a || smallI b then some (.int (a * b)) else none
  | .fdiv, .int a, .int b => if decide (0 < b) && decide (b.natAbs.log2 < 9000) then some (.int (a / b)) else none
  | .mod, .int a, .int b => if decide (0 < b) then some (.int (a % b)) else none
  | .pow, .int a, .int b => if decide (2 ≤ b) && decide (b ≤ 1000) && decide (2 ≤ a.natAbs) && decide (a.natAbs.log2 < 10000) then some (.int (a ^ b.toNat)) else none
  | .eq, a, b => if SeqAt.shaped a && SeqAt.shaped b then some (.bool (PyData.eqv a b)) else none
  | .ne, a, b => if SeqAt.shaped a && SeqAt.shaped b then some (.bool (!PyData.eqv a b)) else none
  | .lt, .int a, .int b => some (.bool (decide (a < b)))
  | .le, .int a, .int b => some (.bool (decide (a ≤ b)))
  | .gt, .int a, .int b => some (.bool (decide (b < a)))
  | .ge, .int a, .int b => some (.bool (decide (b ≤ a)))
  | .lt, .tuple a, .tuple b => if PySem.W.alikeAll a b && SeqAt.shaped (.tuple a) && SeqAt.shaped (.tuple b) then some (.bool (PySem.W.dataLt (.tuple a) (.tuple b))) else none
  | .is_, .none, .none => some (.bool true)
  | .is_, a, .none => some (.bool false)
  | .isnot, .none, .none => some (.bool false)
  | .isnot, a, .none => some (.bool true)
  | .is_, .bool a, .bool b => some (.bool (a == b))
  | .isnot, .bool a, .bool b => some (.bool (!(a == b)))
  | .in_, a, .list b => if SeqAt.shaped a && SeqAt.shaped (.list b) then some (.bool (b.any fun y => PyData.eqv y a)) else none
  | .in_, a, .tuple b => if SeqAt.shaped a && SeqAt.shaped (.tuple b) then some (.bool (b.any fun y => PyData.eqv y a)) else none
  | .in_, a, .dict b => if kindK b a then some (.bool (dget b a).isSome) else none
  | .notin, a, .list b => if SeqAt.shaped a && SeqAt.shaped (.list b) then some (.bool (!(b.any fun y => PyData.eqv y a))) else none
  | .notin, a, .tuple b => if SeqAt.shaped a && SeqAt.shaped (.tuple b) then some (.bool (!(b.any fun y => PyData.eqv y a))) else none
  | .notin, a, .dict b => if kindK b a then some (.bool (!(dget b a).isSome)) else none
  | .idx, .list a, .int i => atI a i
  | .idx, .tuple a, .int i => atI a i
  | .idx, .dict a, k => if kindK a k then dget a k else none
  | _, _, _ => none

def cutD (ds : List PyData) (lo hi : Option Int) : List PyData := (ds.drop (HT.sIx ds.length 0 lo)).take (HT.sIx ds.length ds.length hi - HT.sIx ds.length 0 lo)
def semSl : PyData → Option Int → Option Int → Option PyData
  | .list a, lo, hi => some (.list (cutD a lo hi))
  | .tuple a, lo, hi => some (.tuple (cutD a lo hi))
  | _, _, _ => none

/-! ### built-in functions -/
def ints? : List PyData → Option (List Int)
  | [] => some []
  | .int i :: r => (ints? r).map (i :: ·)
  | _ :: _ => none
def bools? : List PyData → Option (List Bool)
  | [] => some []
  | .bool i :: r => (bools? r).map (i :: ·)
  | _ :: _ => none
theorem ints?_map (ns : List Int) : ints? (ns.map .int) = some ns := by
  induction ns with
  | nil => rfl
  | cons n ns ih => simp [ints?, ih]
theorem bools?_map (ns : List Bool) : bools? (ns.map .bool) = some ns := by
  induction ns with
  | nil => rfl
  | cons n ns ih => simp [bools?, ih]
theorem ints?_inv : ∀ {ds : List PyData} {ns : List Int}, ints? ds = some ns → ds = ns.map .int
  | [], _, h => by cases h; rfl
  | d :: ds, ns, h => by
    cases d <;> simp [ints?] at h
    obtain ⟨ms, e, rfl⟩ := h
    rw [ints?_inv e]; rfl
theorem bools?_inv : ∀ {ds : List PyData} {ns : List Bool}, bools? ds = some ns → ds = ns.map .bool
  | [], _, h => by cases h; rfl
  | d :: ds, ns, h => by
    cases d <;> simp [bools?] at h
    obtain ⟨ms, e, rfl⟩ := h
    rw [bools?_inv e]; rfl

/-- all alike, and alike to themselves -/
def allAlike (ds : List PyData) : Bool := ds.all fun a => ds.all fun b => PySem.W.alike a b
def noNone (ds : List PyData) : Bool := ds.all fun d => match d with | .none => false | _ => true
/-- a sort that the kernel runs -/
def insL {α : Type} (le : α → α → Bool) (a : α) : List α → List α
  | [] => [a]
  | b :: l => match le a b with
    | true => a :: b :: l
    | false => b :: insL le a l
def sortL {α : Type} (le : α → α → Bool) : List α → List α
  | [] => []
  | a :: l => insL le a (sortL le l)
theorem insL_at {α : Type} {le : α → α → Bool} {a : α} : ∀ {l₁ l₂ : List α}, (∀ b ∈ l₁, (!le a b) = true) → (∀ b ∈ l₂.head?, le a b = true) → insL le a (l₁ ++ l₂) = l₁ ++ a :: l₂
  | [], [], _, _ => rfl
  | [], b :: l₂, _, h => by
    have := h b (by simp)
    simp only [List.nil_append, insL, this]
  | b :: l₁, l₂, h1, h2 => by
    have e := h1 b List.mem_cons_self
    simp only [Bool.not_eq_true'] at e
    simp only [List.cons_append, insL, e]
    rw [insL_at (fun c hc => h1 c (List.mem_cons_of_mem _ hc)) h2]
theorem sortL_ms {α : Type} {le : α → α → Bool} (trans : ∀ a b c : α, le a b = true → le b c = true → le a c = true) (total : ∀ a b : α, (le a b || le b a) = true) : ∀ l : List α, sortL le l = l.mergeSort le
  | [] => by simp [sortL]
  | a :: l => by
    obtain ⟨l₁, l₂, e1, e2, h⟩ := List.mergeSort_cons trans total a l
    rw [e1, sortL, sortL_ms trans total l, e2]
    refine insL_at h fun b hb => ?_
    have hp := List.pairwise_mergeSort trans total (a :: l)
    rw [e1] at hp
    have hp := (List.pairwise_append.mp hp).2.1
    have := (List.pairwise_cons.mp hp).1 b (List.mem_of_mem_head? hb)
    exact this
theorem le_total_I (a b : List Int) : (decide (a ≤ b) || decide (b ≤ a)) = true := by
  by_cases h : a ≤ b
  · simp [h]
  · have : b < a := List.not_le.mp h
    simp [h, List.le_of_lt this]
theorem le_trans_I (a b c : List Int) (h1 : decide (a ≤ b) = true) (h2 : decide (b ≤ c) = true) : decide (a ≤ c) = true := by
  simp only [decide_eq_true_eq] at *
  exact List.le_trans h1 h2
/-- one row's items are less, or come to an end first -/
def leI : List Int → List Int → Bool
  | [], _ => true
  | _ :: _, [] => false
  | a :: as, b :: bs => match decide (a < b) with
    | true => true
    | false => match decide (a = b) with
      | true => leI as bs
      | false => false
theorem leI_eq : ∀ a b : List Int, leI a b = decide (a ≤ b)
  | [], b => by simp [leI]
  | a :: as, [] => by simp [leI]
  | a :: as, b :: bs => by
    have ih := leI_eq as bs
    unfold leI
    by_cases h : a < b
    · simp [h, List.cons_le_cons_iff]
    · by_cases e : a = b
      · subst e; simp [ih, List.cons_le_cons_iff]
      · simp [h, e, List.cons_le_cons_iff]
def sortD (ds : List PyData) : List PyData := sortL (PySem.W.dataLe false id) ds
theorem sortD_ms (ds : List PyData) : sortD ds = ds.mergeSort (PySem.W.dataLe false id) :=
  sortL_ms (le := PySem.W.dataLe false id) (PySem.W.sortLe_total _ _ _).trans (fun a b => by
    rcases (PySem.W.sortLe_total (PyProof.Rows.listOrd PyProof.Rows.itemOrd) false fun b : PyData => PySem.W.keyToks b).total a b with h | h
    · have : PySem.W.dataLe false id a b = true := h
      simp [this]
    · have : PySem.W.dataLe false id b a = true := h
      simp [this]) ds
def maxI : List Int → Option Int
  | [] => none
  | a :: r => some (r.foldl max a)
def minI : List Int → Option Int
  | [] => none
  | a :: r => some (r.foldl min a)
/-- the items of a list or tuple -/
def seqD : PyData → Option (List PyData)
  | .list a => some a
  | .tuple a => some a
  | _ => none
/-- what is sorted: a list's, a tuple's items, a dict's keys -/
def srcD : PyData → Option (List PyData)
  | .list a => some a
  | .tuple a => some a
  | .dict a => some (a.map (·.1))
  | _ => none
def sortable (ds : List PyData) : Bool := allAlike ds && noNone ds && SeqAt.shaped (.list ds)
def upI (lo : Int) (n : Nat) : List PyData := (List.range n).map fun (k : Nat) => .int (lo + k)
/-- a tuple of ints, as data -/
def tupI (k : List Int) : PyData := .tuple (k.map .int)
/-- the sorted rows -/
def sortI (ks : List (List Int)) : List (List Int) := sortL leI ks
theorem sortI_ms (ks : List (List Int)) : sortI ks = ks.mergeSort fun a b => decide (a ≤ b) := by
  have e : leI = fun a b => decide (a ≤ b) := funext fun a => funext fun b => leI_eq a b
  unfold sortI
  rw [e]
  exact sortL_ms le_trans_I le_total_I ks
def dedupI : List (List Int) → List (List Int)
  | [] => []
  | a :: l => if a ∈ l then dedupI l else a :: dedupI l
def ti? : PyData → Option (List Int)
  | .tuple ds => ints? ds
  | _ => none
def tis? : List PyData → Option (List (List Int))
  | [] => some []
  | d :: ds => match ti? d, tis? ds with
    | some k, some ks => some (k :: ks)
    | _, _ => none
theorem ti?_inv {d : PyData} {k : List Int} (h : ti? d = some k) : d = tupI k := by
  cases d <;> simp only [ti?, reduceCtorEq] at h
  rw [ints?_inv h]; rfl
theorem ti?_tupI (k : List Int) : ti? (tupI k) = some k := ints?_map k
theorem tis?_inv : ∀ {ds : List PyData} {ks : List (List Int)}, tis? ds = some ks → ds = ks.map tupI
  | [], _, h => by cases h; rfl
  | d :: ds, ks, h => by
    simp only [tis?] at h
    split at h
    · rename_i k ks' h1 h2
      cases h
      rw [ti?_inv h1, tis?_inv h2]; rfl
    · cases h
theorem tis?_map (ks : List (List Int)) : tis? (ks.map tupI) = some ks := by
  induction ks with
  | nil => rfl
  | cons k ks ih => simp only [List.map_cons, tis?, ti?_tupI, ih]
end TL

set_option Elab.async false
set_option linter.all false
set_option maxRecDepth 100000
/-! TLc: expressions, statements, their evaluation. -/
namespace TL
open PySem L2

inductive Bf | len | tuple | list | sorted | sum | max1 | min1 | max2 | min2 | all | any | abs | int | repr | isInt | isBool | isTuple | isStr | srs | lns | lrg1 | trg1 | lrg2
  deriving DecidableEq, Repr
inductive T
  | nm (i : Nat)
  | tp (is : List Nat)
mutual
inductive E
  | var (i : Nat)
  | con (d : PyData)
  | glb (x : Str) (d : PyData)
  | neg (a : E)
  | not (a : E)
  | op (o : Op2) (a b : E)
  | chn (o1 o2 : Op2) (a b c : E)
  | and (a b : E)
  | or (a b : E)
  | ite (c a b : E)
  | tup (es : As)
  | lst (es : As)
  | slc (a : E) (hl : Bool) (lo : E) (hh : Bool) (hi : E)
  | call (f : Str) (es : As)
  | blt (f : Bf) (es : As)
  | pop (i : Nat)
  | popAt (i : Nat) (e : E)
  | cmp (own : List Nat) (tg : T) (it : I) (hc : Bool) (c : E) (elt : E)
  | dcm (own : List Nat) (tg : T) (it : I) (hc : Bool) (c : E) (k v : E)
  | dic
inductive As
  | nil
  | cons (st : Bool) (e : E) (r : As)
inductive I
  | ex (e : E)
  | rng1 (a : E)
  | rng2 (a b : E)
  | zip (a b : E)
  | enm (a : E)
end

inductive FR
  | ok (d : PyData) (qs : List PyData)
  | ex (c : Str) (d : PyData)
structure FS where
  io : List Bool
  /-- the result is a new object -/
  fr : Bool
  m : List PyData → Option FR
abbrev Fns := Str → Option FS

def deref : Rv → Ev PyData
  | .v d => pure d
  | .f d => pure d
  | .s i => fun τ => match τ[i]? with
    | some (some (.p d)) => some (.ok d τ)
    | some (some (.q d)) => some (.ok d τ)
    | _ => none
def val : Rv → Ev PyData
  | .v d => pure d
  | .f d => pure d
  | .s _ => Ev.fail
def derefs : List Rv → Ev (List PyData)
  | [] => pure []
  | x :: r => deref x >>= fun d => derefs r >>= fun ds => pure (d :: ds)
def isB : Rv → Ev Bool
  | .v (.bool b) => pure b
  | _ => Ev.fail
/-- what is kept in slot i is given anew -/
def putS (i : Nat) (d : PyData) : Ev Unit := fun τ => match τ[i]? with
  | some (some (.p _)) => some (.ok () (τ.set i (some (.p d))))
  | some (some (.q _)) => some (.ok () (τ.set i (some (.q d))))
  | _ => none
def Ev.when {α : Type} (b : Bool) (m : Ev α) : Ev α := fun τ => if b then m τ else none

mutual
/-- nothing in it can be changed -/
def frozen : PyData → Bool
  | .none => true
  | .bool _ => true
  | .int _ => true
  | .str _ => true
  | .tuple ds => frozenA ds
  | .list _ => false
  | .dict _ => false
def frozenA : List PyData → Bool
  | [] => true
  | d :: ds => frozen d && frozenA ds
end

/-! calls: the io arguments' slots, the others' values -/
def slotsOf : List Bool → List Rv → Option (List Nat)
  | true :: io, .s i :: r => (slotsOf io r).map (i :: ·)
  | true :: _, .v _ :: _ => none
  | true :: _, .f _ :: _ => none
  | false :: io, _ :: r => slotsOf io r
  | [], [] => some []
  | _, _ => none
def lent : List Bool → List Rv → Bool
  | false :: io, .s _ :: r => true
  | _ :: io, _ :: r => lent io r
  | _, _ => false
def putAll : List Nat → List PyData → Ev Unit
  | [], [] => pure ()
  | i :: is, d :: ds => putS i d >>= fun _ => putAll is ds
  | _, _ => Ev.fail
def callE (fr : Bool) (io : List Bool) (rvs : List Rv) (is : List Nat) : Option FR → Ev Rv
  | some (.ok d qs) => Ev.when (!lent io rvs) (putAll is qs >>= fun _ => pure (if fr then .f d else .v d))
  | some (.ex c d) => fun _ => some (.ex c d)
  | none => Ev.fail
def callF (fs : FS) (rvs : List Rv) : Ev Rv :=
  match slotsOf fs.io rvs with
  | some is => Ev.when (decide is.Nodup) (derefs rvs >>= fun ds => callE fs.fr fs.io rvs is (fs.m ds))
  | none => Ev.fail

/-! built-in functions -/
def rngI (n : Int) : Bool := decide (-1000000 ≤ n) && decide (n ≤ 1000000)
/-- those that give a new list -/
def frB : Bf → Bool
  | .list => true
  | .sorted => true
  | .lrg1 => true
  | .lrg2 => true
  | .srs => true
  | _ => false
def isDictD : PyData → Bool
  | .dict _ => true
  | _ => false
def isIntD : PyData → Bool
  | .int _ => true
  | .bool _ => true
  | _ => false
def isBoolD : PyData → Bool
  | .bool _ => true
  | _ => false
def isTupleD : PyData → Bool
  | .tuple _ => true
  | _ => false
def isStrD : PyData → Bool
  | .str _ => true
  | _ => false
def semB : Bf → List PyData → Option PyData
  | .len, [.list a] => some (.int a.length)
  | .len, [.tuple a] => some (.int a.length)
  | .tuple, [.list a] => some (.tuple a)
  | .tuple, [.tuple a] => some (.tuple a)
  | .list, [.list a] => some (.list a)
  | .list, [.tuple a] => some (.list a)
  | .sum, [.list a] => (ints? a).map fun ns => .int ns.sum
  | .max1, [.list a] => (ints? a).bind fun ns => (maxI ns).map .int
  | .min1, [.list a] => (ints? a).bind fun ns => (minI ns).map .int
  | .max2, [.int a, .int b] => some (.int (if b > a then b else a))
  | .min2, [.int a, .int b] => some (.int (if b < a then b else a))
  | .all, [.list a] => (bools? a).map fun bs => .bool (bs.all id)
  | .any, [.list a] => (bools? a).map fun bs => .bool (bs.any id)
  | .abs, [.int a] => some (.int (if a < 0 then -a else a))
  | .int, [.int a] => some (.int a)
  | .int, [.bool a] => some (.int (if a then 1 else 0))
  | .isInt, [d] => if isDictD d then none else some (.bool (isIntD d))
  | .isBool, [d] => if isDictD d then none else some (.bool (isBoolD d))
  | .isTuple, [d] => if isDictD d then none else some (.bool (isTupleD d))
  | .isStr, [d] => if isDictD d then none else some (.bool (isStrD d))
  | .lrg1, [.int n] => if rngI n then some (.list (upI 0 n.toNat)) else none
  | .trg1, [.int n] => if rngI n then some (.tuple (upI 0 n.toNat)) else none
  | .lrg2, [.int a, .int b] => if rngI a && rngI b then some (.list (upI a (b - a).toNat)) else none
  | .repr, [d] => if SeqAt.shaped d && d.showable && few d.shown.length then some (.str d.shown) else none
  | .srs, [.list ds] => (tis? ds).bind fun ks => if decide (ks.length < 64) then some (.list ((sortI (dedupI ks)).map tupI)) else none
  | .sorted, [d] => (srcD d).bind fun ds => if sortable ds then some (.list (sortD ds)) else none
  | _, _ => none

/-! targets, comprehensions -/
def setAllT : List Nat → List PyData → Tau → Tau
  | i :: is, d :: ds, τ => setAllT is ds (τ.set i (some (.r d)))
  | _, _, τ => τ
def bindT : T → PyData → Tau → Option Tau
  | .nm i, d, τ => some (τ.set i (some (.r d)))
  | .tp is, .tuple ds, τ => if is.length = ds.length then some (setAllT is ds τ) else none
  | .tp _, _, _ => none
def wipeT : Tau → List Nat → Tau
  | τ, [] => τ
  | τ, i :: r => wipeT (τ.set i none) r
def mergeT (own : List Nat) (τ τ' : Tau) : Tau := (List.range τ.length).map fun i => if own.contains i then τ.getD i none else τ'.getD i none
def freeT (own : List Nat) (τ : Tau) : Bool := own.all fun i => match τ[i]? with
  | some (some (.p _)) => false
  | some (some (.q _)) => false
  | _ => true
def compGo (body : Ev (Option PyData)) (tg : T) (own : List Nat) : List PyData → List PyData → Ev (List PyData)
  | [], acc => pure acc
  | d :: ds, acc => fun τ => match bindT tg d (wipeT τ own) with
    | some τ1 => match body τ1 with
      | some (.ok (some y) τ2) => compGo body tg own ds (acc ++ [y]) τ2
      | some (.ok none τ2) => compGo body tg own ds acc τ2
      | some (.ex c d) => some (.ex c d)
      | none => none
    | none => none
def dcompGo (body : Ev (Option (PyData × PyData))) (tg : T) (own : List Nat) : List PyData → List (PyData × PyData) → Ev (List (PyData × PyData))
  | [], acc => pure acc
  | d :: ds, acc => fun τ => match bindT tg d (wipeT τ own) with
    | some τ1 => match body τ1 with
      | some (.ok (some y) τ2) => if tupK y.1 && (acc.all fun p => tupK p.1) && few (acc.length + 1) then dcompGo body tg own ds (dput acc y.1 y.2) τ2 else none
      | some (.ok none τ2) => dcompGo body tg own ds acc τ2
      | some (.ex c d) => some (.ex c d)
      | none => none
    | none => none
def inBlk {α β : Type} (own : List Nat) (go : Ev α) (f : α → β) : Ev β := fun τ => if freeT own τ then match go τ with
    | some (.ok a τ') => some (.ok (f a) (mergeT own τ τ'))
    | some (.ex c d) => some (.ex c d)
    | none => none
  else none
def lstD : PyData → Option (List PyData)
  | .list a => some a
  | _ => none
def zipD : PyData → PyData → Option (List PyData × List PyData)
  | .list a, .list b => some (a, b)
  | .tuple a, .tuple b => some (a, b)
  | _, _ => none
def intV : Rv → Ev Int
  | .v (.int i) => pure i
  | _ => Ev.fail
def seqV (d : PyData) : Ev (List PyData) := Ev.lift (seqD d)
/-- if it is so, then the next, else a value -/
def condE {α : Type} (b : Bool) (m k : Ev α) : Ev α := fun τ => if b then m τ else k τ
def popE (i : Nat) : PyData → Ev Rv
  | .list ds => match ds.getLast? with
    | some y => putS i (.list ds.dropLast) >>= fun _ => pure (.v y)
    | none => Ev.fail
  | _ => Ev.fail
def popAtE (i : Nat) (k : Int) : PyData → Ev Rv
  | .list ds => Ev.when (decide (0 ≤ k)) (match ds[k.toNat]? with
    | some y => putS i (.list (ds.eraseIdx k.toNat)) >>= fun _ => pure (.v y)
    | none => Ev.fail)
  | _ => Ev.fail
def callO (rvs : List Rv) : Option FS → Ev Rv
  | some fs => callF fs rvs
  | none => Ev.fail
def someE (m : Ev Rv) : Ev (Option Int) := m >>= fun y => intV y >>= fun i => pure (some i)

mutual
def ev (Φ : Fns) : E → Ev Rv
  | .var i => fun τ => match τ[i]? with
    | some (some (.r d)) => some (.ok (.v d) τ)
    | some (some (.p _)) => some (.ok (.s i) τ)
    | some (some (.q _)) => some (.ok (.s i) τ)
    | _ => none
  | .con d => pure (.v d)
  | .glb _ d => pure (.v d)
  | .neg a => ev Φ a >>= fun x => intV x >>= fun i => pure (.v (.int (-i)))
  | .not a => ev Φ a >>= fun x => isB x >>= fun b => pure (.v (.bool (!b)))
  | .op o a b => ev Φ a >>= fun x => ev Φ b >>= fun y => deref x >>= fun d => deref y >>= fun e => Ev.lift (sem2 o d e) >>= fun r => pure (.v r)
  | .chn o1 o2 a b c => ev Φ a >>= fun x => val x >>= fun d => ev Φ b >>= fun y => val y >>= fun e => Ev.lift (sem2 o1 d e) >>= fun r => isB (.v r) >>= fun t =>
      condE t (ev Φ c >>= fun z => val z >>= fun f => Ev.lift (sem2 o2 e f) >>= fun r => isB (.v r) >>= fun u => pure (.v (.bool u))) (pure (.v (.bool false)))
  | .and a b => ev Φ a >>= fun x => isB x >>= fun t => condE t (ev Φ b >>= fun y => isB y >>= fun u => pure (.v (.bool u))) (pure (.v (.bool false)))
  | .or a b => ev Φ a >>= fun x => isB x >>= fun t => condE t (pure (.v (.bool true))) (ev Φ b >>= fun y => isB y >>= fun u => pure (.v (.bool u)))
  | .ite c a b => ev Φ c >>= fun x => isB x >>= fun t => condE t (ev Φ a) (ev Φ b)
  | .tup es => evA Φ es >>= fun ds => Ev.when (few ds.length) (pure (.v (.tuple ds)))
  | .lst es => evA Φ es >>= fun ds => Ev.when (few ds.length) (pure (.f (.list ds)))
  | .slc a hl lo hh hi => ev Φ a >>= fun x => condE hl (someE (ev Φ lo)) (pure none) >>= fun l => condE hh (someE (ev Φ hi)) (pure none) >>= fun h =>
      deref x >>= fun d => Ev.lift (semSl d l h) >>= fun r => pure (.v r)
  | .call f es => evC Φ es >>= fun rvs => callO rvs (Φ f)
  | .blt f es => evC Φ es >>= fun rvs => derefs rvs >>= fun ds => Ev.lift (semB f ds) >>= fun r => pure (if frB f then .f r else .v r)
  | .pop i => deref (.s i) >>= fun d => popE i d
  | .popAt i e => ev Φ e >>= fun x => intV x >>= fun k => deref (.s i) >>= fun d => popAtE i k d
  | .cmp own tg it hc c elt => evI Φ it >>= fun ds => inBlk own (compGo
      (condE hc (ev Φ c >>= fun x => isB x) (pure true) >>= fun t => condE t (ev Φ elt >>= fun y => val y >>= fun d => pure (some d)) (pure none)) tg own ds []) fun ys => .f (.list ys)
  | .dcm own tg it hc c k v => evI Φ it >>= fun ds => inBlk own (dcompGo
      (condE hc (ev Φ c >>= fun x => isB x) (pure true) >>= fun t =>
        condE t (ev Φ k >>= fun y => val y >>= fun kd => ev Φ v >>= fun z => val z >>= fun vd => pure (some (kd, vd))) (pure none)) tg own ds []) fun ys => .f (.dict ys)
  | .dic => pure (.f (.dict []))
def evA (Φ : Fns) : As → Ev (List PyData)
  | .nil => pure []
  | .cons st e r => ev Φ e >>= fun x => condE st (deref x >>= fun d => seqV d) (val x >>= fun d => pure [d]) >>= fun ds => evA Φ r >>= fun es => pure (ds ++ es)
def evC (Φ : Fns) : As → Ev (List Rv)
  | .nil => pure []
  | .cons st e r => ev Φ e >>= fun x => evC Φ r >>= fun es => pure (x :: es)
def evI (Φ : Fns) : I → Ev (List PyData)
  | .ex e => ev Φ e >>= fun x => val x >>= fun d => seqV d
  | .rng1 a => ev Φ a >>= fun x => intV x >>= fun n => Ev.when (rngI n) (pure (upI 0 n.toNat))
  | .rng2 a b => ev Φ a >>= fun x => intV x >>= fun m => ev Φ b >>= fun y => intV y >>= fun n =>
      Ev.when (rngI m && rngI n) (pure (upI m (n - m).toNat))
  | .zip a b => ev Φ a >>= fun x => val x >>= fun d => ev Φ b >>= fun y => val y >>= fun e => Ev.lift (zipD d e) >>= fun p =>
      pure (p.1.zipWith (fun p q => .tuple [p, q]) p.2)
  | .enm a => ev Φ a >>= fun x => val x >>= fun d => Ev.lift (lstD d) >>= fun ds => pure (ds.zipIdx.map fun p => .tuple [.int p.2, p.1])
end

/-! ### statements -/
inductive Out
  | nx | brk | cnt
  /-- b: a new object -/
  | ret (b : Bool) (d : PyData)
mutual
inductive S
  | asg (i : Nat) (e : E)
  | own (i : Nat) (e : E)
  | unp (is : List Nat) (e : E)
  | par (b1 : Bool) (i1 : Nat) (e1 : E) (b2 : Bool) (i2 : Nat) (e2 : E)
  | sidx (i : Nat) (k v : E)
  | app (i : Nat) (e : E)
  | ext (i : Nat) (e : E)
  | upd (i : Nat) (e : E)
  | exp (e : E)
  | ifs (c : E) (a b : Ss)
  | fr (tg : T) (it : I) (b : Ss)
  | wh (c : E) (b : Ss)
  | ret (e : E)
  | retP (i : Nat)
  | brk
  | cnt
  | rel (i : Nat)
  | stop
inductive Ss
  | nil
  | cons (s : S) (r : Ss)
end
def putR (i : Nat) (d : PyData) : Ev Unit := fun τ => match τ[i]? with
  | some (some (.q _)) => none
  | some _ => some (.ok () (τ.set i (some (.r d))))
  | none => none
def isObjD : PyData → Bool
  | .list _ => true
  | .dict _ => true
  | _ => false
def putP (i : Nat) (d : PyData) : Ev Unit := fun τ => if isObjD d then (match τ[i]? with
    | some (some (.q _)) => none
    | some _ => some (.ok () (τ.set i (some (.p d))))
    | none => none) else none
def relP (i : Nat) : Ev Unit := fun τ => match τ[i]? with
  | some (some (.p d)) => some (.ok () (τ.set i (some (.r d))))
  | _ => none
def relAll : Tau → Tau := List.map fun x => match x with
  | some (.p d) => some (.r d)
  | y => y
/-- a value; for a slot of one's own: a new object -/
def valN (b : Bool) : Rv → Ev PyData
  | .v d => if b then Ev.fail else pure d
  | .f d => pure d
  | .s _ => Ev.fail
def retE : Rv → Ev Out
  | .v d => pure (.ret false d)
  | .f d => pure (.ret true d)
  | .s _ => Ev.fail
def retPE (i : Nat) : Ev Out := fun τ => match τ[i]? with
  | some (some (.p d)) => some (.ok (.ret true d) (τ.set i none))
  | _ => none
/-- a new object -/
def valF : Rv → Ev PyData
  | .f d => pure d
  | .v _ => Ev.fail
  | .s _ => Ev.fail
def putB (b : Bool) (i : Nat) (d : PyData) : Ev Unit := condE b (putP i d) (putR i d)
/-- behind a turn -/
def turnE (k : Ev Out) : Out → Ev Out
  | .nx => k
  | .cnt => k
  | .brk => pure .nx
  | .ret b d => pure (.ret b d)
def whGo (c : Ev Bool) (b : Ev Out) : Nat → Ev Out
  | 0 => Ev.fail
  | n + 1 => c >>= fun t => condE t (b >>= turnE (whGo c b n)) (pure .nx)
/-- targets of a loop, of an unpacking are slots that may be given anew -/
def notQB (τ : Tau) (i : Nat) : Bool := match τ[i]? with
  | some (some (.q _)) => false
  | some _ => true
  | none => false
def tgOk : T → Tau → Bool
  | .nm i, τ => notQB τ i
  | .tp is, τ => is.all (notQB τ)
def frGo (body : Ev Out) (tg : T) : List PyData → Ev Out
  | [] => pure .nx
  | d :: ds => fun τ => if tgOk tg τ then (match bindT tg d τ with
    | some τ1 => (body >>= turnE (frGo body tg ds)) τ1
    | none => none) else none
def unpE (is : List Nat) (d : PyData) : Ev Out := fun τ => if tgOk (.tp is) τ then (match bindT (.tp is) d τ with
  | some τ1 => some (.ok .nx τ1)
  | none => none) else none
def sidxE (i : Nat) (dv : PyData) : PyData → PyData → Ev Out
  | .list ds, .int j => match ixN ds.length j with
    | some m => putS i (.list (ds.set m dv)) >>= fun _ => pure .nx
    | none => Ev.fail
  | _, _ => Ev.fail
def appE (i : Nat) (y : PyData) : PyData → Ev Out
  | .list ds => Ev.when (few (ds.length + 1)) (putS i (.list (ds ++ [y])) >>= fun _ => pure .nx)
  | _ => Ev.fail
/-- an object is kept there -/
def slotAt (i : Nat) : Ev Unit := fun τ => match τ[i]? with
  | some (some (.p _)) => some (.ok () τ)
  | some (some (.q _)) => some (.ok () τ)
  | _ => none
/-- a list is kept there -/
def lstAt (i : Nat) : Ev Unit := fun τ => match τ[i]? with
  | some (some (.p (.list _))) => some (.ok () τ)
  | some (some (.q (.list _))) => some (.ok () τ)
  | _ => none
def extE (i : Nat) : PyData → PyData → Ev Out
  | .list ds, .list es => Ev.when (few (ds.length + es.length)) (putS i (.list (ds ++ es)) >>= fun _ => pure .nx)
  | _, _ => Ev.fail
/-- a dict is kept there -/
def dctAt (i : Nat) : Ev Unit := fun τ => match τ[i]? with
  | some (some (.p (.dict _))) => some (.ok () τ)
  | some (some (.q (.dict _))) => some (.ok () τ)
  | _ => none
mutual
def hashD : PyData → Option Int
  | .int i => some (PySem.hashInt i)
  | .tuple ds => (hashDs ds).map fun hs => PySem.reduceHash (PySem.Builtin.Tuple.tupleHashOf hs)
  | _ => none
def hashDs : List PyData → Option (List Int)
  | [] => some []
  | d :: ds => match hashD d, hashDs ds with
    | some h, some hs => some (h :: hs)
    | _, _ => none
end
/-- the keys' hashes are told and apart -/
def apartH (more : List (PyData × PyData)) : Bool := match hashDs (more.map (·.1)) with
  | some hs => decide hs.Nodup
  | none => false
def updE (i : Nat) : PyData → PyData → Ev Out
  | .dict kvs, .dict more => Ev.when ((kvs.all fun p => tupK p.1) && (more.all fun p => tupK p.1) && few (kvs.length + more.length) && (!kvs.isEmpty || apartH more))
      (putS i (.dict (more.foldl (fun a p => dput a p.1 p.2) kvs)) >>= fun _ => pure .nx)
  | _, _ => Ev.fail
def seqE (k : Ev Out) : Out → Ev Out
  | .nx => k
  | .brk => pure .brk
  | .cnt => pure .cnt
  | .ret b d => pure (.ret b d)

mutual
def exec (Φ : Fns) (n : Nat) : S → Ev Out
  | .asg i e => ev Φ e >>= fun x => val x >>= fun d => putR i d >>= fun _ => pure .nx
  | .own i e => ev Φ e >>= fun x => valN true x >>= fun d => putP i d >>= fun _ => pure .nx
  | .unp is e => ev Φ e >>= fun x => val x >>= fun d => unpE is d
  | .par b1 i1 e1 b2 i2 e2 => Ev.when (decide (i1 ≠ i2)) (ev Φ e1 >>= fun x => valN b1 x >>= fun d => ev Φ e2 >>= fun y => valN b2 y >>= fun e => putB b2 i2 e >>= fun _ => putB b1 i1 d >>= fun _ => pure .nx)
  | .sidx i k v => ev Φ v >>= fun x => val x >>= fun dv => slotAt i >>= fun _ => ev Φ k >>= fun y => val y >>= fun dk => deref (.s i) >>= fun d => sidxE i dv d dk
  | .app i e => lstAt i >>= fun _ => ev Φ e >>= fun x => val x >>= fun y => deref (.s i) >>= fun d => appE i y d
  | .ext i e => lstAt i >>= fun _ => ev Φ e >>= fun x => valF x >>= fun y => deref (.s i) >>= fun d => extE i d y
  | .upd i e => dctAt i >>= fun _ => ev Φ e >>= fun x => val x >>= fun y => deref (.s i) >>= fun d => updE i d y
  | .exp e => ev Φ e >>= fun _ => pure .nx
  | .ifs c a b => ev Φ c >>= fun x => isB x >>= fun t => condE t (execs Φ n a) (execs Φ n b)
  | .fr tg it b => evI Φ it >>= fun ds => frGo (execs Φ n b) tg ds
  | .wh c b => whGo (ev Φ c >>= fun x => isB x) (execs Φ n b) n
  | .ret e => fun τ => (ev Φ e >>= retE) (relAll τ)
  | .retP i => retPE i
  | .brk => pure .brk
  | .cnt => pure .cnt
  | .rel i => relP i >>= fun _ => pure .nx
  | .stop => Ev.fail
def execs (Φ : Fns) (n : Nat) : Ss → Ev Out
  | .nil => pure .nx
  | .cons s r => exec Φ n s >>= seqE (execs Φ n r)
end

/-! ### a def -/
def startT : List Bool → List PyData → Tau
  | true :: io, d :: ds => some (.q d) :: startT io ds
  | false :: io, d :: ds => some (.r d) :: startT io ds
  | _, _ => []
/-- what the q-slots hold at the end -/
def endT : List Bool → Tau → Option (List PyData)
  | true :: io, some (.q d) :: τ => (endT io τ).map (d :: ·)
  | false :: io, _ :: τ => endT io τ
  | [], _ => some []
  | _, _ => none
def endF (fr : Bool) (io : List Bool) : Option (R Out) → Option FR
  | some (.ok (.ret b d) τ) => if fr && !b then none else (endT io τ).map (.ok d)
  | some (.ok .nx τ) => if fr then none else (endT io τ).map (.ok .none)
  | some (.ok .brk τ) => none
  | some (.ok .cnt τ) => none
  | some (.ex c d) => some (.ex c d)
  | none => none
def runF (Φ : Fns) (n : Nat) (fr : Bool) (io : List Bool) (slots : Nat) (body : Ss) (ds : List PyData) : Option FR :=
  if ds.length = io.length then endF fr io (execs Φ n body (startT io ds ++ List.replicate (slots - io.length) none)) else none
end TL

set_option Elab.async false
set_option linter.all false
set_option maxRecDepth 100000
/-! TLd: masks, operands, what an evaluation keeps. -/
namespace TL
open PySem L2

def mk (m : Addr → Bool) (H : Hp) : Hp := fun b => if m b then none else H b
def mb (M : Addr → Bool) (τ : Tau) (σ : St) : Addr → Bool := fun b => M b || ownB τ σ b
theorem msk_mk (M : Addr → Bool) (τ : Tau) (σ : St) (H : Hp) : msk M τ σ H = mk (mb M τ σ) H := rfl
theorem mk_sub (m : Addr → Bool) (H : Hp) : Same (mk m H) H := fun b o h => by
  unfold mk at h
  split at h
  · cases h
  · exact h
theorem mk_same {m : Addr → Bool} {H H' : Hp} (h : Same H H') : Same (mk m H) (mk m H') := fun b o e => by
  unfold mk at e ⊢
  split at e
  · cases e
  · rename_i q
    rw [if_neg q]
    exact h b o e
/-- the masked ones are there -/
def Dom (m : Addr → Bool) (H : Hp) : Prop := ∀ b, m b = true → ∃ o, H b = some o
theorem mk_new {m : Addr → Bool} {H : Hp} (d : Dom m H) {p : Addr} (hp : H p = none) (o : HO) : mk m (upd H p o) = upd (mk m H) p o := by
  have hm : m p = false := by
    cases e : m p with
    | false => rfl
    | true => obtain ⟨o, q⟩ := d p e; rw [hp] at q; cases q
  funext b
  unfold mk upd
  by_cases hb : b = p
  · subst hb; simp [hm]
  · simp [hb]
theorem same_upd {H : Hp} {p : Addr} (hp : H p = none) (o : HO) : Same H (upd H p o) := fun b u e => by rw [upd_ne (ne_of_none e hp)]; exact e
theorem Dom.grow {m : Addr → Bool} {H H' : Hp} (d : Dom m H) (h : Same H H') : Dom m H' := fun b e => let ⟨o, q⟩ := d b e; ⟨o, h b o q⟩

/-- an operand: a shared value, or an object whose items are shared -/
def Opd (G : Gx) (Hm H : Hp) (v : V) (d : PyData) : Prop := Rp G Hm v d ∨ ∃ a, v = .ref a ∧ Ob G Hm H a d
section
variable {G : Gx} {Hm H H' Hm' : Hp} {v : V} {a : Addr}
theorem Ob.rp (s : Same Hm H) {d : PyData} (h : Ob G Hm H a d) : Rp G H (.ref a) d := by
  cases h with
  | lst h1 h2 => exact .lst (.inl (.inl h1)) (h2.mono s)
  | dK h1 h2 h3 => exact .dK (.inl h1) h2 (h3.mono s)
  | dN h1 h2 h6 h3 h4 h5 => exact .dN h1 h2 h6 h3 (h4.mono s) (h5.mono s)
theorem Opd.rp (s : Same Hm H) {d : PyData} (h : Opd G Hm H v d) : Rp G H v d := by
  rcases h with h | ⟨a, rfl, h⟩
  · exact h.mono s
  · exact h.rp s
theorem Opd.none (h : Opd G Hm H v .none) : v = .non := by
  rcases h with h | ⟨a, rfl, h⟩ <;> cases h; rfl
theorem Opd.bool {b : Bool} (h : Opd G Hm H v (.bool b)) : v = .bl b := by
  rcases h with h | ⟨a, rfl, h⟩ <;> cases h; rfl
theorem Opd.int {b : Int} (h : Opd G Hm H v (.int b)) : v = .int b := by
  rcases h with h | ⟨a, rfl, h⟩ <;> cases h; rfl
theorem Opd.str {b : Str} (h : Opd G Hm H v (.str b)) : v = .str b := by
  rcases h with h | ⟨a, rfl, h⟩ <;> cases h; rfl
theorem Opd.tuple {ds : List PyData} (h : Opd G Hm H v (.tuple ds)) : ∃ a xs, v = .ref a ∧ SqT G.K Hm a xs ∧ RpA G Hm xs ds := by
  rcases h with h | ⟨a, rfl, h⟩ <;> cases h
  exact ⟨_, _, rfl, by assumption, by assumption⟩
theorem Opd.list (s : Same Hm H) {ds : List PyData} (h : Opd G Hm H v (.list ds)) : ∃ a xs, v = .ref a ∧ SqL G.K H a xs ∧ RpA G Hm xs ds := by
  rcases h with h | ⟨a, rfl, h⟩
  · cases h with
    | lst h1 h2 => exact ⟨_, _, rfl, sqL_same s h1, h2⟩
  · cases h with
    | lst h1 h2 => exact ⟨_, _, rfl, .inl (.inl h1), h2⟩
/-- as HandS's data -/
theorem Opd.seq (s : Same Hm H) {d : PyData} {ds : List PyData} (h : Opd G Hm H v d) (e : seqD d = some ds) : ∃ a xs, v = .ref a ∧ (SqL G.K H a xs ∨ SqT G.K H a xs) ∧ RpA G Hm xs ds := by
  cases d with
  | list es =>
    cases e
    obtain ⟨a, xs, h1, h2, h3⟩ := h.list s
    exact ⟨a, xs, h1, .inl h2, h3⟩
  | tuple es =>
    cases e
    obtain ⟨a, xs, h1, h2, h3⟩ := h.tuple
    exact ⟨a, xs, h1, .inr (sqT_same s h2), h3⟩
  | _ => cases e
end
mutual
theorem Rp.dp {G : Gx} {H : Hp} : ∀ {v : V} {d : PyData}, Rp G H v d → PyData.canLay0 d = true → Dp G.K H v d
  | _, _, .non, _ => .non
  | _, _, .bl b, _ => .bl b
  | _, _, .int i, _ => .int i
  | _, _, .str s, _ => .str s
  | _, _, .lst h1 h2, c => .lst h1 (RpA.dp h2 (by simpa [PyData.canLay0] using c))
  | _, _, .tup h1 h2, c => .tup h1 (RpA.dp h2 (by simpa [PyData.canLay0] using c))
  | _, _, .dK _ _ _, c => by simp [PyData.canLay0] at c
  | _, _, .dN _ _ _ _ _ _, c => by simp [PyData.canLay0] at c
theorem RpA.dp {G : Gx} {H : Hp} : ∀ {v : List V} {d : List PyData}, RpA G H v d → PyData.canLayAll0 d = true → DpAll G.K H v d
  | _, _, .nil, _ => .nil
  | _, _, .cons h1 h2, c => by
    simp only [PyData.canLayAll0, Bool.and_eq_true] at c
    exact .cons (Rp.dp h1 c.1) (RpA.dp h2 c.2)
end
theorem Rp.dpS {G : Gx} {H : Hp} {v : V} {d : PyData} (h : Rp G H v d) (c : SeqAt.shaped d = true) : Dp G.K H v d := h.dp (SeqAt.canLay_of_shaped c)

/-! ### tags -/
inductive Tg | r | p | q
  deriving DecidableEq
def tgOf : Option SV → Option Tg
  | some (.r _) => some .r
  | some (.p _) => some .p
  | some (.q _) => some .q
  | none => none
def tags (τ : Tau) : List (Option Tg) := τ.map tgOf
theorem ownB_tags : ∀ {τ τ' : Tau} {σ : St}, tags τ = tags τ' → ownB τ σ = ownB τ' σ
  | [], [], _, _ => rfl
  | [], _ :: _, _, h => by simp [tags] at h
  | _ :: _, [], _, h => by simp [tags] at h
  | t :: τ, t' :: τ', [], h => by
    funext b
    cases t <;> cases t' <;> simp [ownB]
  | t :: τ, t' :: τ', s :: σ, h => by
    simp only [tags, List.map_cons, List.cons.injEq] at h
    have ih := ownB_tags (σ := σ) (show tags τ = tags τ' from h.2)
    funext b
    rcases t with _ | (_ | _ | _) <;> rcases t' with _ | (_ | _ | _) <;> simp [tgOf] at h <;> rcases s with _ | (_ | _ | _ | _ | _ | _ | _ | _) <;> simp [ownB, ih]
theorem ownB_get : ∀ {τ : Tau} {σ : St} {b : Addr}, ownB τ σ b = true ↔ ∃ (i : Nat) (d : PyData), τ[i]? = some (some (.p d)) ∧ σ[i]? = some (some (.ref b))
  | [], σ, b => by simp [ownB]
  | t :: τ, [], b => by
    rcases t with _ | (_ | _ | _) <;> simp [ownB]
  | t :: τ, s :: σ, b => by
    have ih := ownB_get (τ := τ) (σ := σ) (b := b)
    have step : (∃ (i : Nat) (d : PyData), (t :: τ)[i]? = some (some (.p d)) ∧ (s :: σ)[i]? = some (some (.ref b))) ↔
        ((∃ d, t = some (.p d) ∧ s = some (.ref b)) ∨ ∃ (i : Nat) (d : PyData), τ[i]? = some (some (.p d)) ∧ σ[i]? = some (some (.ref b))) := by
      constructor
      · rintro ⟨i, d, h1, h2⟩
        cases i with
        | zero => simp at h1 h2; exact .inl ⟨d, h1, h2⟩
        | succ i => simp at h1 h2; exact .inr ⟨i, d, h1, h2⟩
      · rintro (⟨d, h1, h2⟩ | ⟨i, d, h1, h2⟩)
        · exact ⟨0, d, by simp [h1], by simp [h2]⟩
        · exact ⟨i + 1, d, by simpa using h1, by simpa using h2⟩
    rw [step, ← ih]
    rcases t with _ | (_ | _ | _) <;> rcases s with _ | (_ | _ | _ | _ | _ | _ | _ | _) <;> simp [ownB]

section
variable {G : Gx} {F : Fr} {τ τ' : Tau} {σ : St} {H H' : Hp}
theorem FI.domM (I : FI G F τ σ H) : Dom (mb F.M τ σ) H := fun b e => by
  unfold mb at e
  simp only [Bool.or_eq_true] at e
  rcases e with e | e
  · exact I.dom b e
  · obtain ⟨i, d, h1, h2⟩ := ownB_get.mp e
    obtain ⟨a, h3, _, _, h4⟩ := I.p i d h1
    rw [h2] at h3
    cases h3
    cases h4 with
    | lst q _ => exact ⟨_, q⟩
    | dK q _ _ => exact ⟨_, q⟩
    | dN q _ _ _ _ _ => exact ⟨_, q⟩
theorem Ob.grow {Hm Hm' : Hp} {a : Addr} {d : PyData} (h : Ob G Hm H a d) (e : Same Hm Hm') (k : ∀ o, H a = some o → H' a = some o) : Ob G Hm' H' a d := by
  cases h with
  | lst h1 h2 => exact .lst (k _ h1) (h2.mono e)
  | dK h1 h2 h3 => exact .dK (k _ h1) h2 (h3.mono e)
  | dN h1 h2 h6 h3 h4 h5 => exact .dN (k _ h1) h2 h6 h3 (h4.mono e) (h5.mono e)
/-- the heap grows -/
theorem FI.grow (I : FI G F τ σ H) (h : Same H H') : FI G F τ σ H' where
  ok := I.ok
  len := I.len
  same := fun b o e n => h b o (I.same b o e n)
  dom := fun b e => let ⟨o, q⟩ := I.dom b e; ⟨o, h b o q⟩
  r := fun i d e => let ⟨v, h1, h2⟩ := I.r i d e; ⟨v, h1, h2.mono (mk_same (m := mb F.M τ σ) h)⟩
  p := fun i d e => let ⟨a, h1, h2, h3, h4⟩ := I.p i d e; ⟨a, h1, h2, h3, h4.grow (mk_same (m := mb F.M τ σ) h) fun o q => h _ o q⟩
  q := fun i d e => let ⟨a, h1, h2, h4⟩ := I.q i d e; ⟨a, h1, h2, h4.grow (mk_same (m := mb F.M τ σ) h) fun o q => h _ o q⟩
  inj := I.inj
/-- behind an evaluation -/
structure Post (G : Gx) (F : Fr) (τ τ' : Tau) (σ : St) (H H' : Hp) : Prop where
  fi : FI G F τ' σ H'
  tg : tags τ = tags τ'
  sm : Same (msk F.M τ σ H) (msk F.M τ' σ H')
theorem Post.refl (I : FI G F τ σ H) : Post G F τ τ σ H H := ⟨I, rfl, Same.refl _⟩
theorem Post.trans {τ2 : Tau} {H2 : Hp} (a : Post G F τ τ' σ H H') (b : Post G F τ' τ2 σ H' H2) : Post G F τ τ2 σ H H2 := ⟨b.fi, a.tg.trans b.tg, a.sm.trans b.sm⟩
theorem Post.grow {H2 : Hp} (a : Post G F τ τ' σ H H') (h : Same H' H2) : Post G F τ τ' σ H H2 := ⟨a.fi.grow h, a.tg, a.sm.trans (mk_same (m := mb F.M τ' σ) h)⟩
def Fr.prot (F : Fr) (a : Addr) : Fr := ⟨fun b => F.M b || b == a, F.H0, F.Q0⟩
/-- what came; H: the heap ahead of it -/
def Res (G : Gx) (F : Fr) (σ : St) (H : Hp) (τ' : Tau) (H' : Hp) : Rv → V → Prop
  | .v d, v => Rp G (msk F.M τ' σ H') v d
  | .f d, v => ∃ a, v = .ref a ∧ H a = none ∧ F.M a = false ∧ FI G (F.prot a) τ' σ H' ∧ Ob G (msk (F.prot a).M τ' σ H') H' a d
  | .s i, v => σ[i]? = some (some v) ∧ ∃ d, τ'[i]? = some (some (.p d)) ∨ τ'[i]? = some (some (.q d))
theorem tags_get {i : Nat} (h : tags τ = tags τ') : (τ[i]?).map tgOf = (τ'[i]?).map tgOf := by
  have e := congrArg (fun l => l[i]?) h
  simpa [tags] using e
theorem tags_pq {i : Nat} (h : tags τ = tags τ') (e : ∃ d, τ[i]? = some (some (.p d)) ∨ τ[i]? = some (some (.q d))) : ∃ d, τ'[i]? = some (some (.p d)) ∨ τ'[i]? = some (some (.q d)) := by
  have q := tags_get (i := i) h
  obtain ⟨d, e | e⟩ := e
  · rw [e] at q
    cases z : τ'[i]? with
    | none => rw [z] at q; simp at q
    | some x =>
      rw [z] at q
      rcases x with _ | (_ | d' | _) <;> simp [tgOf] at q
      exact ⟨d', .inl rfl⟩
  · rw [e] at q
    cases z : τ'[i]? with
    | none => rw [z] at q; simp at q
    | some x =>
      rw [z] at q
      rcases x with _ | (_ | _ | d') <;> simp [tgOf] at q
      exact ⟨d', .inr rfl⟩
theorem prot_sub (F : Fr) (a : Addr) : Same (msk (F.prot a).M τ σ H) (msk F.M τ σ H) := fun b o e => by
  unfold msk at e ⊢
  split at e
  · cases e
  · rename_i q
    simp only [Fr.prot, Bool.or_eq_true, not_or] at q
    rw [if_neg (by simp only [Bool.or_eq_true, not_or]; exact ⟨q.1.1, q.2⟩)]
    exact e
theorem FI.notown {a : Addr} (I : FI G F τ σ H) (h : F.M a = true) : ownB τ σ a = false := by
  cases e : ownB τ σ a with
  | false => rfl
  | true =>
    obtain ⟨i, d, h1, h2⟩ := ownB_get.mp e
    obtain ⟨b, h3, h4, _⟩ := I.p i d h1
    rw [h2] at h3
    cases h3
    rw [h] at h4; cases h4
theorem FI.protOpen {a : Addr} (I : FI G (F.prot a) τ σ H) (hm : F.M a = false) : mb F.M τ σ a = false := by
  have h : ownB τ σ a = false := I.notown (F := F.prot a) (by simp [Fr.prot])
  simp [mb, hm, h]
theorem Ob.open {a : Addr} {d : PyData} (h : Ob G (msk (F.prot a).M τ σ H) H a d) (hm : mb F.M τ σ a = false) : Rp G (msk F.M τ σ H) (.ref a) d := by
  have e : ∀ o, H a = some o → msk F.M τ σ H a = some o := fun o q => by
    unfold msk
    rw [if_neg (by simpa [mb] using hm)]
    exact q
  have s := prot_sub (τ := τ) (σ := σ) (H := H) F a
  cases h with
  | lst h1 h2 => exact .lst (.inl (.inl (e _ h1))) (h2.mono s)
  | dK h1 h2 h3 => exact .dK (.inl (e _ h1)) h2 (h3.mono s)
  | dN h1 h2 h6 h3 h4 h5 => exact .dN (e _ h1) h2 h6 h3 (h4.mono s) (h5.mono s)
theorem Res.wk {H0 H1 : Hp} {rv : Rv} {v : V} (h : Res G F σ H0 τ' H' rv v) : Res G F σ H1 τ' H' rv.wk v := by
  cases rv with
  | v d => exact h
  | s i => exact h
  | f d =>
    obtain ⟨a, rfl, h1, h2, I, o⟩ := h
    exact o.open (I.protOpen h2)
theorem deref_wk (rv : Rv) : deref rv.wk = deref rv := by cases rv <;> rfl
theorem val_wk (rv : Rv) : val rv.wk = val rv := by cases rv <;> rfl
theorem wk_post {H0 H1 H2 : Hp} {τ2 : Tau} {rv : Rv} {v : V} (h : Res G F σ H0 τ' H' rv.wk v) (p : Post G F τ' τ2 σ H' H2) : Res G F σ H1 τ2 H2 rv.wk v := by
  cases rv with
  | v d => exact Rp.mono p.sm h
  | f d => exact Rp.mono p.sm h
  | s i => exact ⟨h.1, tags_pq p.tg h.2⟩
theorem Res.post {H0 H1 H2 : Hp} {τ2 : Tau} {rv : Rv} {v : V} (h : Res G F σ H0 τ' H' rv v) (p : Post G F τ' τ2 σ H' H2) : Res G F σ H1 τ2 H2 rv.wk v := wk_post (H0 := H0) h.wk p
/-- the operand behind it -/
theorem Res.opd {H0 : Hp} {rv : Rv} {v : V} {d : PyData} {τ2 : Tau} (h : Res G F σ H0 τ H rv v) (I : FI G F τ σ H) (e : deref rv τ = some (.ok d τ2)) : τ2 = τ ∧ Opd G (msk F.M τ σ H) H v d := by
  have h := h.wk (H1 := H0)
  rw [← deref_wk] at e
  cases hrv : rv.wk with
  | f d => cases rv <;> cases hrv
  | v d' => rw [hrv] at h e; cases e; exact ⟨rfl, .inl h⟩
  | s i =>
    rw [hrv] at h e
    obtain ⟨h1, _⟩ := h
    have e : (match τ[i]? with | some (some (.p d)) => some (R.ok d τ) | some (some (.q d)) => some (R.ok d τ) | _ => none) = some (.ok d τ2) := e
    cases z : τ[i]? with
    | none => rw [z] at e; cases e
    | some y =>
      rw [z] at e
      rcases y with _ | (_ | d' | d') <;> cases e
      · obtain ⟨a, h3, _, _, h4⟩ := I.p i _ z
        rw [h1] at h3
        cases h3
        exact ⟨rfl, .inr ⟨a, rfl, h4⟩⟩
      · obtain ⟨a, h3, _, h4⟩ := I.q i _ z
        rw [h1] at h3
        cases h3
        exact ⟨rfl, .inr ⟨a, rfl, h4⟩⟩
theorem Res.vald {H0 : Hp} {rv : Rv} {v : V} {d : PyData} {τ2 : Tau} (h : Res G F σ H0 τ H rv v) (e : val rv τ = some (.ok d τ2)) : τ2 = τ ∧ Rp G (msk F.M τ σ H) v d := by
  have h := h.wk (H1 := H0)
  cases rv with
  | v d' => cases e; exact ⟨rfl, h⟩
  | f d' => cases e; exact ⟨rfl, h⟩
  | s i => cases e
theorem Post.dom (p : Post G F τ τ' σ H H') {a : Addr} (h : H' a = none) : H a = none := by
  cases e : H a with
  | none => rfl
  | some o =>
    by_cases q : mb F.M τ σ a = true
    · have q' : mb F.M τ' σ a = true := by unfold mb at q ⊢; rw [← ownB_tags (σ := σ) p.tg]; exact q
      obtain ⟨u, z⟩ := p.fi.domM a q'
      rw [h] at z; cases z
    · have z : msk F.M τ σ H a = some o := by
        unfold msk
        rw [if_neg (by simpa [mb] using q)]
        exact e
      have z2 := mk_sub (mb F.M τ' σ) H' a o (p.sm a o z)
      rw [h] at z2; cases z2
end

/-! ### the reading of an expression -/
def tE (G : Gx) (Φ : Fns) (e : E) : TE := fun σ H Q => ∃ F τ rv τ', FI G F τ σ H ∧ ev Φ e τ = some (.ok rv τ') ∧
  ∀ v H', Post G F τ τ' σ H H' → Res G F σ H τ' H' rv v → Q v H'
/-- .. of a test -/
def tT (G : Gx) (Φ : Fns) (e : E) : TT := fun σ H Q => ∃ F τ b τ', FI G F τ σ H ∧ (ev Φ e >>= isB) τ = some (.ok b τ') ∧
  ∀ H', Post G F τ τ' σ H H' → Q b H'
theorem PE.imp {X : Cx} {e : Expr} {t t' : TE} (h : PE X e t) (i : ∀ σ H Q, t' σ H Q → t σ H Q) : PE X e t' := ⟨fun pins s σ H Q I q => h.run pins s σ H Q I (i σ H Q q)⟩
theorem PT.imp {X : Cx} {e : Expr} {t t' : TT} (h : PT X e t) (i : ∀ σ H Q, t' σ H Q → t σ H Q) : PT X e t' := ⟨fun pins s σ H Q I q => h.run pins s σ H Q I (i σ H Q q)⟩
theorem PW.imp {X : Cx} {e : Expr} {t t' : TT} (h : PW X e t) (i : ∀ σ H Q, t' σ H Q → t σ H Q) : PW X e t' := ⟨fun wh pins s σ H Q I q => h.run wh pins s σ H Q I (i σ H Q q)⟩
theorem PA.imp {X : Cx} {e : List Expr} {t t' : TA} (h : PA X e t) (i : ∀ σ H Q, t' σ H Q → t σ H Q) : PA X e t' := ⟨fun pos pins s σ H Q I q => h.run pos pins s σ H Q I (i σ H Q q)⟩
theorem PS.imp {X : Cx} {e : Stmt} {t t' : TS} (h : PS X e t) (i : ∀ D σ H, t' D σ H → t D σ H) : PS X e t' := ⟨fun pins s σ H D I q => h.run pins s σ H D I (i D σ H q)⟩
theorem PSs.imp {X : Cx} {e : List Stmt} {t t' : TS} (h : PSs X e t) (i : ∀ D σ H, t' D σ H → t D σ H) : PSs X e t' := ⟨fun pins s σ H D I q => h.run pins s σ H D I (i D σ H q)⟩

/-- a value by an operation on two operands; nothing that was there changes -/
def rD (G : Gx) (sem : PyData → PyData → Option PyData) : R2 := fun x y H Q => ∃ m d e r, Dom m H ∧ Opd G (mk m H) H x d ∧ Opd G (mk m H) H y e ∧ sem d e = some r ∧
  ∀ v H', Same H H' → Rp G (mk m H') v r → Q v H'
theorem tE_op {G : Gx} {Φ : Fns} {o : Op2} {a b : E} {σ : St} {H : Hp} {Q : VK} (h : tE G Φ (.op o a b) σ H Q) : tOp (rD G (sem2 o)) (tE G Φ a) (tE G Φ b) σ H Q := by
  obtain ⟨F, τ, rv, τ', I, e, k⟩ := h
  simp only [ev, ev_bind_iff] at e
  obtain ⟨x, τ1, e1, y, τ2, e2, d, τ3, e3, d2, τ4, e4, r, τ5, e5, e6⟩ := e
  obtain ⟨hr, rfl⟩ := ev_lift_inv e5
  obtain ⟨rfl, rfl⟩ := ev_pure_inv e6
  refine ⟨F, τ, x, τ1, I, e1, fun v1 H1 P1 R1 => ⟨F, τ1, y, τ2, P1.fi, e2, fun v2 H2 P2 R2 => ?_⟩⟩
  obtain ⟨rfl, o1⟩ := (R1.post (H1 := H2) P2).opd P2.fi ((congrFun (deref_wk x) τ2).trans e3)
  obtain ⟨rfl, o2⟩ := R2.opd P2.fi e4
  exact ⟨mb F.M _ σ, d, d2, r, P2.fi.domM, o1, o2, hr, fun v H' s p => k v H' ((P1.trans P2).grow s) p⟩
end TL

set_option Elab.async false
set_option linter.all false
set_option maxRecDepth 100000
/-! TLe: the operations' rules. -/
namespace TL
open PySem L2

def gx (X : Cx) : Gx := ⟨X.prog, X.w, X.K⟩
structure XB (X : Cx) : Prop where
  calm : X.calm = true
  un : X.A.units + 200 < cLine
  gd : X.A.guards = some []
  nd : X.N.Nodup
theorem XB.u0 {X : Cx} (B : XB X) : X.A.units < cLine := by have := B.un; omega
theorem XB.u64 {X : Cx} (B : XB X) : X.A.units + 64 < cLine := by have := B.un; omega
theorem XB.u65 {X : Cx} (B : XB X) : X.A.units + 65 < cLine := by have := B.un; omega

section
variable {X : Cx} {pins : List (Addr × Obj)} {s : Shared} {σ : St} {H : Hp} {Q : VK}
/-- a scalar came -/
theorem ep_of {v : V} {u : Value} {s' : Shared} (I : Inv X pins σ H s') (r : RelV v u) (q : Q v H) : EP X pins σ Q u s' := ⟨v, H, I, r, q⟩
theorem few_le {n : Nat} (h : few n = true) : n ≤ sizeLine := of_decide_eq_true h
theorem Inv.rdL (I : Inv X pins σ H s) {a : Addr} {xs : List V} (h : Rd H a (.lst xs)) : xs.length ≤ sizeLine ∧ ∃ (its : List Value) (n : Nat), Vals xs its ∧ s.heap.get? a = some { cls := .type "list", data := .seq its.toArray n } := h.ok I.hok
/-- a list wherever it stands -/
theorem Inv.seqL (I : Inv X pins σ H s) {a : Addr} {xs : List V} (h : SqL X.K H a xs) : xs.length ≤ sizeLine ∧ ∃ (its : List Value) (n : Nat) (sl : Array (Option Value)), Vals xs its ∧ s.heap.get? a = some { cls := .type "list", dict := none, data := .seq its.toArray n, slots := sl } := by
  obtain ⟨its, rv, ⟨⟨c, d, dt, sl⟩, n, e, hc, hd, hs⟩, z⟩ := I.list h
  subst hc hd hs
  exact ⟨z, its, n, _, rv, e⟩
theorem Inv.readsD (I : Inv X pins σ H s) {v : V} {u : Value} {d : PyData} (h : Rp (gx X) H v d) (c : SeqAt.shaped d = true) (r : RelV v u) : ∃ as, Reads s.heap u d as := Dp.reads I d v u (h.dpS c) r

theorem mk_lst {G : Gx} {m : Addr → Bool} {H : Hp} (dm : Dom m H) {p : Addr} (hp : H p = none) {xs : List V} {ds : List PyData} (r : RpA G (mk m H) xs ds) : Rp G (mk m (upd H p (.lst xs))) (.ref p) (.list ds) := by
  have hn : mk m H p = none := by unfold mk; split <;> first | rfl | exact hp
  rw [mk_new dm hp]
  exact .lst (.inl (.inl upd_same)) (r.mono (same_upd hn _))
theorem mk_tup {G : Gx} {m : Addr → Bool} {H : Hp} (dm : Dom m H) {p : Addr} (hp : H p = none) {xs : List V} {ds : List PyData} (r : RpA G (mk m H) xs ds) : Rp G (mk m (upd H p (.tup xs))) (.ref p) (.tuple ds) := by
  have hn : mk m H p = none := by unfold mk; split <;> first | rfl | exact hp
  rw [mk_new dm hp]
  exact .tup (SqT.of upd_same) (r.mono (same_upd hn _))

theorem op_addD : OpR X (binaryOp .Add) (rD (gx X) (sem2 .add)) := by
  intro pins s σ H x y v u Q I rx ry h
  obtain ⟨m, d, e, r, dm, od, oe, hs, k⟩ := h
  have sub := mk_sub m H
  cases d with
  | int i =>
    cases e <;> simp only [sem2, reduceCtorEq] at hs
    rename_i j
    cases hs
    obtain rfl := od.int
    obtain rfl := oe.int
    exact op_add pins s σ H _ _ v u Q I rx ry ⟨i, j, rfl, rfl, k _ H (Same.refl _) (.int _)⟩
  | str i =>
    cases e <;> simp only [sem2, reduceCtorEq] at hs
    rename_i j
    split at hs
    · rename_i hf
      cases hs
      obtain rfl := od.str
      obtain rfl := oe.str
      exact op_add_str pins s σ H _ _ v u Q I rx ry ⟨i, j, rfl, rfl, few_le hf, k _ H (Same.refl _) (.str _)⟩
    · cases hs
  | list as =>
    cases e <;> simp only [sem2, reduceCtorEq] at hs
    rename_i bs
    split at hs
    · rename_i hf
      cases hs
      obtain ⟨a, xs, rfl, ha, r1⟩ := od.list sub
      obtain ⟨b, ys, rfl, hb, r2⟩ := oe.list sub
      cases rx
      cases ry
      obtain ⟨z1, its, n, sl1, q1, o1⟩ := Inv.seqL I ha
      obtain ⟨z2, its2, n2, sl2, q2, o2⟩ := Inv.seqL I hb
      have l1 := q1.length
      have l2 := q2.length
      have l3 := r1.length
      have l4 := r2.length
      have hz := few_le hf
      have hz3 : its.toArray.size + its2.toArray.size ≤ sizeLine := by rw [List.size_toArray, List.size_toArray]; omega
      refine PySem.concat_meets ⟨_, o1, rfl⟩ ⟨_, o2, rfl⟩ PySem.noFill_list_add PySem.seq_list_add F.slot_list_add F.entry_list_add (F.args_list_add_2 _ _) (PyProof.Rows.list_addW _ _ its.toArray its2.toArray n n2 none none sl1 sl2 hz3) ⟨o1, o2, ?_⟩
      rw [show its.toArray ++ its2.toArray = (its ++ its2).toArray by simp]
      exact ⟨.ref _, _, I.lnew (t' := s.toks) (q1.append q2) (by rw [List.length_append]; omega), rfl, k _ _ (same_upd I.fresh _) (mk_lst dm I.fresh (r1.append r2))⟩
    · cases hs
  | tuple as =>
    cases e <;> simp only [sem2, reduceCtorEq] at hs
    rename_i bs
    split at hs
    · rename_i hf
      cases hs
      obtain ⟨a, xs, rfl, ha, r1⟩ := od.tuple
      obtain ⟨b, ys, rfl, hb, r2⟩ := oe.tuple
      have l3 := r1.length
      have l4 := r2.length
      have hz := few_le hf
      refine op_catA pins s σ H _ _ v u Q I rx ry ⟨a, b, xs, ys, rfl, rfl, sqT_same sub ha, sqT_same sub hb, by omega, fun e => ?_, fun _ e => ?_, fun _ _ p hp => ?_⟩
      · subst e
        cases r1
        exact k _ _ (Same.refl _) (.tup hb r2)
      · subst e
        cases r2
        rw [List.append_nil] at k
        exact k _ _ (Same.refl _) (.tup ha r1)
      · exact k _ _ (same_upd hp _) (mk_tup dm hp (r1.append r2))
    · cases hs
  | _ => simp only [sem2, reduceCtorEq] at hs
theorem op_subD : OpR X (binaryOp .Sub) (rD (gx X) (sem2 .sub)) := by
  intro pins s σ H x y v u Q I rx ry h
  obtain ⟨m, d, e, r, dm, od, oe, hs, k⟩ := h
  cases d <;> cases e <;> simp only [sem2, reduceCtorEq] at hs
  rename_i i j
  cases hs
  obtain rfl := od.int
  obtain rfl := oe.int
  exact op_sub pins s σ H _ _ v u Q I rx ry ⟨i, j, rfl, rfl, k _ H (Same.refl _) (.int _)⟩
theorem smallI_iff {i : Int} (h : smallI i = true) : -(2 ^ 64) < i ∧ i < 2 ^ 64 := by
  unfold smallI at h
  simp only [Bool.and_eq_true, decide_eq_true_eq] at h
  exact h
theorem op_mulD : OpR X (binaryOp .Mult) (rD (gx X) (sem2 .mul)) := by
  intro pins s σ H x y v u Q I rx ry h
  obtain ⟨m, d, e, r, dm, od, oe, hs, k⟩ := h
  have sub := mk_sub m H
  cases d with
  | int i =>
    cases e <;> simp only [sem2, reduceCtorEq] at hs
    rename_i j
    split at hs
    · rename_i hf
      cases hs
      obtain rfl := od.int
      obtain rfl := oe.int
      have hc : CMul i j := by
        simp only [Bool.or_eq_true] at hf
        exact hf.elim (fun q => .inl (smallI_iff q)) fun q => .inr (smallI_iff q)
      exact op_mul pins s σ H _ _ v u Q I rx ry ⟨i, j, rfl, rfl, hc, k _ H (Same.refl _) (.int _)⟩
    · cases hs
  | _ => simp only [sem2, reduceCtorEq] at hs
theorem op_fdivD : OpR X (binaryOp .FloorDiv) (rD (gx X) (sem2 .fdiv)) := by
  intro pins s σ H x y v u Q I rx ry h
  obtain ⟨m, d, e, r, dm, od, oe, hs, k⟩ := h
  cases d <;> cases e <;> simp only [sem2, reduceCtorEq] at hs
  rename_i i j
  split at hs
  · rename_i hf
    simp only [Bool.and_eq_true, decide_eq_true_eq] at hf
    cases hs
    obtain rfl := od.int
    obtain rfl := oe.int
    exact op_fdivW pins s σ H _ _ v u Q I rx ry ⟨i, j, rfl, rfl, hf, k _ H (Same.refl _) (.int _)⟩
  · cases hs
theorem op_modD : OpR X (binaryOp .Mod) (rD (gx X) (sem2 .mod)) := by
  intro pins s σ H x y v u Q I rx ry h
  obtain ⟨m, d, e, r, dm, od, oe, hs, k⟩ := h
  cases d <;> cases e <;> simp only [sem2, reduceCtorEq] at hs
  rename_i i j
  split at hs
  · rename_i hf
    simp only [decide_eq_true_eq] at hf
    cases hs
    obtain rfl := od.int
    obtain rfl := oe.int
    exact op_mod pins s σ H _ _ v u Q I rx ry ⟨i, j, rfl, rfl, hf, k _ H (Same.refl _) (.int _)⟩
  · cases hs
theorem op_powD : OpR X (binaryOp .Pow) (rD (gx X) (sem2 .pow)) := by
  intro pins s σ H x y v u Q I rx ry h
  obtain ⟨m, d, e, r, dm, od, oe, hs, k⟩ := h
  cases d <;> cases e <;> simp only [sem2, reduceCtorEq] at hs
  rename_i i j
  split at hs
  · rename_i hf
    simp only [Bool.and_eq_true, decide_eq_true_eq] at hf
    obtain ⟨⟨⟨h1, h2⟩, h3⟩, h4⟩ := hf
    cases hs
    obtain rfl := od.int
    obtain rfl := oe.int
    obtain ⟨t, rfl⟩ := rx
    obtain ⟨t', rfl⟩ := ry
    refine AutoIntOps.pow_4 (by omega) (by simp; omega) (by simp; omega) (by simp; omega) ?_ ⟨.int _, H, I.tok _, ⟨_, rfl⟩, k _ H (Same.refl _) (.int _)⟩
    unfold Builtin.Int.intTooBig Builtin.Int.intBits
    rw [if_neg (by simp; omega)]
    have e1 : ((i.natAbs.log2 + 1 : Nat) : Int) * j ≤ 10001 * 1000 := by
      have a1 : ((i.natAbs.log2 + 1 : Nat) : Int) ≤ 10001 := by omega
      exact Int.le_trans (Int.mul_le_mul_of_nonneg_right a1 (by omega)) (Int.mul_le_mul_of_nonneg_left h2 (by omega))
    have e2 : (bitsLine : Int) = 134217728 := rfl
    simp only [decide_eq_true_eq]
    omega
  · cases hs
theorem op_eqT : OpR X (compareOp .Eq) (fun x y H Q => XB X ∧ rD (gx X) (sem2 .eq) x y H Q) := by
  intro pins s σ H x y v u Q I rx ry h
  obtain ⟨B, m, d, e, r, dm, od, oe, hs, k⟩ := h
  have hs : (if SeqAt.shaped d && SeqAt.shaped e then some (PyData.bool (PyData.eqv d e)) else none) = some r := by cases d <;> cases e <;> exact hs
  split at hs
  · rename_i hf
    simp only [Bool.and_eq_true] at hf
    cases hs
    exact op_eqD B.u64 pins s σ H _ _ v u Q I rx ry ⟨d, e, (od.rp (mk_sub m H)).dpS hf.1, (oe.rp (mk_sub m H)).dpS hf.2, hf.1, hf.2, k _ H (Same.refl _) (.bl _)⟩
  · cases hs
theorem op_neT : OpR X (compareOp .NotEq) (fun x y H Q => XB X ∧ rD (gx X) (sem2 .ne) x y H Q) := by
  intro pins s σ H x y v u Q I rx ry h
  obtain ⟨B, m, d, e, r, dm, od, oe, hs, k⟩ := h
  have hs : (if SeqAt.shaped d && SeqAt.shaped e then some (PyData.bool (!PyData.eqv d e)) else none) = some r := by cases d <;> cases e <;> exact hs
  split at hs
  · rename_i hf
    simp only [Bool.and_eq_true] at hf
    cases hs
    exact op_neD B.u64 pins s σ H _ _ v u Q I rx ry ⟨d, e, (od.rp (mk_sub m H)).dpS hf.1, (oe.rp (mk_sub m H)).dpS hf.2, hf.1, hf.2, k _ H (Same.refl _) (.bl _)⟩
  · cases hs
theorem op_ltD : OpR X (compareOp .Lt) (fun x y H Q => XB X ∧ rD (gx X) (sem2 .lt) x y H Q) := by
  intro pins s σ H x y v u Q I rx ry h
  obtain ⟨B, m, d, e, r, dm, od, oe, hs, k⟩ := h
  cases d <;> cases e <;> simp only [sem2, reduceCtorEq] at hs
  · rename_i i j
    cases hs
    obtain rfl := od.int
    obtain rfl := oe.int
    exact op_lt pins s σ H _ _ v u Q I rx ry ⟨i, j, rfl, rfl, k _ H (Same.refl _) (.bl _)⟩
  · rename_i as bs
    split at hs
    · rename_i hf
      simp only [Bool.and_eq_true] at hf
      cases hs
      obtain ⟨ra, h1⟩ := Inv.readsD I (od.rp (mk_sub m H)) hf.1.2 rx
      obtain ⟨rb, h2⟩ := Inv.readsD I (oe.rp (mk_sub m H)) hf.2 ry
      have hd := SeqAt.depth_of_shaped hf.1.2
      have hu := B.un
      refine PySem.W.rcLt_alike _ _ X.A s v u ra rb h1 h2 (by simpa [PySem.W.alike] using hf.1.1) (by simp) ?_ X.prog X.w X.xe _ ⟨.bl _, H, I, rfl, k _ H (Same.refl _) (.bl _)⟩
      have := Nat.min_le_left (PyData.depth (.tuple as)) (PyData.depth (.tuple bs))
      omega
    · cases hs
theorem op_leD : OpR X (compareOp .LtE) (rD (gx X) (sem2 .le)) := by
  intro pins s σ H x y v u Q I rx ry h
  obtain ⟨m, d, e, r, dm, od, oe, hs, k⟩ := h
  cases d <;> cases e <;> simp only [sem2, reduceCtorEq] at hs
  rename_i i j
  cases hs
  obtain rfl := od.int
  obtain rfl := oe.int
  exact op_le pins s σ H _ _ v u Q I rx ry ⟨i, j, rfl, rfl, k _ H (Same.refl _) (.bl _)⟩
theorem op_gtD : OpR X (compareOp .Gt) (rD (gx X) (sem2 .gt)) := by
  intro pins s σ H x y v u Q I rx ry h
  obtain ⟨m, d, e, r, dm, od, oe, hs, k⟩ := h
  cases d <;> cases e <;> simp only [sem2, reduceCtorEq] at hs
  rename_i i j
  cases hs
  obtain rfl := od.int
  obtain rfl := oe.int
  exact op_gt pins s σ H _ _ v u Q I rx ry ⟨i, j, rfl, rfl, k _ H (Same.refl _) (.bl _)⟩
theorem op_geD : OpR X (compareOp .GtE) (rD (gx X) (sem2 .ge)) := by
  intro pins s σ H x y v u Q I rx ry h
  obtain ⟨m, d, e, r, dm, od, oe, hs, k⟩ := h
  cases d <;> cases e <;> simp only [sem2, reduceCtorEq] at hs
  rename_i i j
  cases hs
  obtain rfl := od.int
  obtain rfl := oe.int
  exact op_ge pins s σ H _ _ v u Q I rx ry ⟨i, j, rfl, rfl, k _ H (Same.refl _) (.bl _)⟩
end
end TL

set_option Elab.async false
set_option linter.all false
set_option maxRecDepth 100000
/-! TLf: dicts. -/
namespace TL
open PySem L2

mutual
theorem eqv_key : ∀ (a b : PyData) (j k : NestedKey), keyN a = some j → keyN b = some k → PyData.eqv a b = decide (j = k)
  | .none, b, j, k, h1, h2 => by
    simp only [keyN] at h1; cases h1
    cases b <;> simp [keyN] at h2 <;> first | (subst h2; simp [PyData.eqv]) | (obtain ⟨_, _, rfl⟩ := h2; simp [PyData.eqv])
  | .int i, b, j, k, h1, h2 => by
    simp only [keyN] at h1; cases h1
    cases b <;> simp [keyN] at h2 <;> first | (subst h2; simp [PyData.eqv]; done) | (obtain ⟨_, _, rfl⟩ := h2; simp [PyData.eqv]; done) | skip
    subst h2
    rename_i x
    by_cases e : i = x <;> simp [PyData.eqv, e]
  | .str i, b, j, k, h1, h2 => by
    simp only [keyN] at h1; cases h1
    cases b <;> simp [keyN] at h2 <;> first | (subst h2; simp [PyData.eqv]; done) | (obtain ⟨_, _, rfl⟩ := h2; simp [PyData.eqv]; done) | skip
    subst h2
    rename_i x
    by_cases e : i = x <;> simp [PyData.eqv, e]
  | .tuple ds, b, j, k, h1, h2 => by
    simp only [keyN, Option.map_eq_some_iff] at h1
    obtain ⟨js, e1, rfl⟩ := h1
    cases b <;> simp [keyN] at h2 <;> first | (subst h2; simp [PyData.eqv]; done) | skip
    rename_i es
    obtain ⟨ks, e2, rfl⟩ := h2
    have q := eqv_keys ds es js ks e1 e2
    by_cases e : js = ks <;> simp [PyData.eqv, q, e]
  | .bool _, b, j, k, h1, h2 => by simp [keyN] at h1
  | .list _, b, j, k, h1, h2 => by simp [keyN] at h1
  | .dict _, b, j, k, h1, h2 => by simp [keyN] at h1
theorem eqv_keys : ∀ (a b : List PyData) (j k : List NestedKey), keyNs a = some j → keyNs b = some k → PyData.eqvAll a b = decide (j = k)
  | [], [], j, k, h1, h2 => by
    simp only [keyNs] at h1 h2; cases h1; cases h2; simp [PyData.eqvAll]
  | [], d :: ds, j, k, h1, h2 => by
    simp only [keyNs] at h1; cases h1
    simp only [keyNs] at h2; split at h2 <;> cases h2
    simp [PyData.eqvAll]
  | d :: ds, [], j, k, h1, h2 => by
    simp only [keyNs] at h2; cases h2
    simp only [keyNs] at h1; split at h1 <;> cases h1
    simp [PyData.eqvAll]
  | d :: ds, e :: es, j, k, h1, h2 => by
    simp only [keyNs] at h1 h2
    split at h1 <;> first | cases h1 | skip
    split at h2 <;> first | cases h2 | skip
    rename_i k1 ks1 a1 a2 _ _ k2 ks2 b1 b2
    rw [PyData.eqvAll, eqv_key d e _ _ a1 b1, eqv_keys ds es _ _ a2 b2]
    by_cases e1 : k1 = k2 <;> by_cases e2 : ks1 = ks2 <;> simp [e1, e2]
end

section
variable {X : Cx} {pins : List (Addr × Obj)} {s : Shared} {σ : St} {H : Hp}
mutual
theorem Inv.nestedIs (I : Inv X pins σ H s) : ∀ (d : PyData) (k : NestedKey) (v : V) (u : Value), Rp (gx X) H v d → keyN d = some k → RelV v u → NestedIs s.heap k u
  | .none, k, v, u, h, e, r => by
    cases h; cases r; simp only [keyN] at e; cases e; exact .none
  | .int i, k, v, u, h, e, r => by
    cases h; obtain ⟨t, rfl⟩ := r; simp only [keyN] at e; cases e; exact .int i t
  | .str i, k, v, u, h, e, r => by
    cases h; obtain ⟨t, rfl⟩ := r; simp only [keyN] at e; cases e; exact .text i t
  | .tuple ds, k, v, u, h, e, r => by
    simp only [keyN, Option.map_eq_some_iff] at e
    obtain ⟨js, e1, rfl⟩ := e
    cases h with
    | tup h1 h2 =>
      cases r
      obtain ⟨its, rv, ⟨o, ho, hc, n, hd⟩, _⟩ := I.tuple h1
      exact .tup ho hc hd (by simpa using Inv.nestedAll I ds js _ its h2 e1 rv)
  | .bool _, k, v, u, h, e, r => by simp [keyN] at e
  | .list _, k, v, u, h, e, r => by simp [keyN] at e
  | .dict _, k, v, u, h, e, r => by simp [keyN] at e
theorem Inv.nestedAll (I : Inv X pins σ H s) : ∀ (ds : List PyData) (ks : List NestedKey) (vs : List V) (us : List Value), RpA (gx X) H vs ds → keyNs ds = some ks → Vals vs us → NestedAll s.heap ks us
  | [], ks, vs, us, h, e, r => by
    cases h; cases r; simp only [keyNs] at e; cases e; exact .nil
  | d :: ds, ks, vs, us, h, e, r => by
    cases h with
    | cons h1 h2 =>
      cases r with
      | cons r1 r2 =>
        simp only [keyNs] at e
        split at e <;> cases e
        exact .cons (Inv.nestedIs I d _ _ _ h1 (by assumption) r1) (Inv.nestedAll I ds _ _ _ h2 (by assumption) r2)
end
theorem paired_fst : ∀ {ks : List (NestedKey × Addr × V)} {xs : List (NestedKey × Addr × Value)}, Paired (fun (p : NestedKey × Addr × V) (q : NestedKey × Addr × Value) => p.1 = q.1 ∧ p.2.1 = q.2.1 ∧ RelV p.2.2 q.2.2) ks xs → ks.map (·.1) = xs.map (·.1)
  | _, _, .nil => rfl
  | _, _, .cons q t => by rw [List.map_cons, List.map_cons, paired_fst t, q.1]
/-- a tuple-key dict as the library tells it -/
theorem Inv.dictN (I : Inv X pins σ H s) {a : Addr} {ks : List (NestedKey × Addr × V)} {kvs : List (PyData × PyData)} {Hm : Hp} (h1 : H a = some (dN X.prog X.w a ks)) (h2 : (ks.map (·.1)).Nodup) (h6 : ∀ p ∈ ks, p.1.depth ≤ 8)
    (h3 : kvs.map (fun p => keyN p.1) = ks.map (fun p => some p.1)) (h4 : RpA (gx X) Hm (ks.map (fun p => V.ref p.2.1)) (kvs.map (·.1))) (sm : Same Hm H) :
    ks.length ≤ sizeLine ∧ (a == sysModules) = false ∧ ∃ xs : List (NestedKey × Addr × Value), Paired (fun (p : NestedKey × Addr × V) (q : NestedKey × Addr × Value) => p.1 = q.1 ∧ p.2.1 = q.2.1 ∧ RelV p.2.2 q.2.2) ks xs ∧ s.heap.DictOfH (nestedKind X.prog X.w) a xs := by
  obtain ⟨⟨z, hd, xs, pr, o, es, ep, ho, ex, hdt, hl⟩, _⟩ := I.hok a _ h1
  refine ⟨z, hd, xs, pr, o, es, ep, ho, ex, hdt, hl, ?_, ?_⟩
  · have key : ∀ (ks : List (NestedKey × Addr × V)) (kvs : List (PyData × PyData)) (xs : List (NestedKey × Addr × Value)), Paired (fun (p : NestedKey × Addr × V) (q : NestedKey × Addr × Value) => p.1 = q.1 ∧ p.2.1 = q.2.1 ∧ RelV p.2.2 q.2.2) ks xs → (∀ p ∈ ks, p.1.depth ≤ 8) →
        kvs.map (fun p => keyN p.1) = ks.map (fun p => some p.1) → RpA (gx X) Hm (ks.map (fun p => V.ref p.2.1)) (kvs.map (·.1)) → ∀ x ∈ xs, (nestedKind X.prog X.w).is s.heap x.1 x.2.1 := by
      intro ks
      induction ks with
      | nil => intro kvs xs pr _ _ _ x hx; cases pr; cases hx
      | cons p ks ih =>
        intro kvs xs pr dp h3 h4 x hx
        cases pr with
        | cons p1 p2 =>
          rename_i q xs
          cases kvs with
          | nil => simp at h3
          | cons kv kvs =>
            simp only [List.map_cons, List.cons.injEq] at h3
            simp only [List.map_cons] at h4
            cases h4 with
            | cons r1 r2 =>
              rcases List.mem_cons.mp hx with rfl | hx
              · refine ⟨?_, by rw [← p1.1]; exact dp p List.mem_cons_self⟩
                rw [← p1.1]
                exact Inv.nestedIs I kv.1 p.1 _ _ (r1.mono sm) h3.1 (show Value.ref x.2.1 = Value.ref p.2.1 by rw [p1.2.1])
              · exact ih kvs xs p2 (fun p hp => dp p (List.mem_cons_of_mem _ hp)) h3.2 r2 x hx
    exact key ks kvs xs pr h6 h3 h4
  · rw [← paired_fst pr]; exact h2

/-- look-ups, over both -/
theorem atKey_dget : ∀ {ks : List (NestedKey × Addr × V)} {kvs : List (PyData × PyData)} {xs : List (NestedKey × Addr × Value)} {Hm : Hp} {d : PyData} {k : NestedKey}, Paired (fun (p : NestedKey × Addr × V) (q : NestedKey × Addr × Value) => p.1 = q.1 ∧ p.2.1 = q.2.1 ∧ RelV p.2.2 q.2.2) ks xs →
    kvs.map (fun p => keyN p.1) = ks.map (fun p => some p.1) → RpA (gx X) Hm (ks.map (·.2.2)) (kvs.map (·.2)) → keyN d = some k →
    (dget kvs d = none ∧ atKey xs k = none) ∨ ∃ r q v, dget kvs d = some r ∧ atKey xs k = some q ∧ RelV v q.2 ∧ Rp (gx X) Hm v r
  | [], [], _, _, _, _, .nil, _, _, _ => .inl ⟨rfl, rfl⟩
  | [], _ :: _, _, _, _, _, _, h, _, _ => by simp at h
  | _ :: _, [], _, _, _, _, _, h, _, _ => by simp at h
  | p :: ks, kv :: kvs, _, Hm, d, k, .cons (b := q) (l₂ := xs) p1 p2, h3, h5, hk => by
    simp only [List.map_cons, List.cons.injEq] at h3
    simp only [List.map_cons] at h5
    cases h5 with
    | cons r1 r2 =>
      have e := eqv_key kv.1 d p.1 k h3.1 hk
      by_cases c : p.1 = k
      · refine .inr ⟨kv.2, q.2, p.2.2, ?_, ?_, p1.2.2, r1⟩
        · unfold dget; rw [List.find?_cons, e, decide_eq_true c]; rfl
        · unfold atKey; rw [List.find?_cons, ← p1.1, decide_eq_true c]; rfl
      · have ih := atKey_dget (d := d) p2 h3.2 r2 hk
        have e1 : dget (kv :: kvs) d = dget kvs d := by unfold dget; rw [List.find?_cons, e, decide_eq_false c]
        have e2 : atKey (q :: xs) k = atKey xs k := by unfold atKey; rw [List.find?_cons, ← p1.1, decide_eq_false c]
        rw [e1, e2]; exact ih
theorem eqv_keyD (k : Key) (d : PyData) (j : Key) (h : d = keyD j) : PyData.eqv (keyD k) d = decide (k = j) := by
  subst h
  cases k <;> cases j <;> simp [keyD, PyData.eqv]
  · rename_i a b; by_cases e : a = b <;> simp [e]
  · rename_i a b; by_cases e : a = b <;> simp [e]
theorem leafK_iff {d : PyData} (h : leafK d = true) : ∃ k, d = keyD k := by
  cases d <;> simp [leafK] at h
  · exact ⟨.inl _, rfl⟩
  · exact ⟨.inr _, rfl⟩
theorem valV_dget : ∀ {kv : List (Key × V)} {kvs : List (PyData × PyData)} {Hm : Hp} {k : Key}, kvs.map (·.1) = kv.map (fun p => keyD p.1) → RpA (gx X) Hm (kv.map (·.2)) (kvs.map (·.2)) →
    (dget kvs (keyD k) = none ∧ valV kv k = none) ∨ ∃ r v, dget kvs (keyD k) = some r ∧ valV kv k = some v ∧ Rp (gx X) Hm v r
  | [], [], _, _, _, _ => .inl ⟨rfl, rfl⟩
  | [], _ :: _, _, _, h, _ => by simp at h
  | _ :: _, [], _, _, h, _ => by simp at h
  | p :: kv, q :: kvs, Hm, k, h, h5 => by
    simp only [List.map_cons, List.cons.injEq] at h
    simp only [List.map_cons] at h5
    cases h5 with
    | cons r1 r2 =>
      have e : PyData.eqv q.1 (keyD k) = decide (p.1 = k) := by rw [h.1]; exact eqv_keyD _ _ _ rfl
      by_cases c : p.1 = k
      · refine .inr ⟨q.2, p.2, ?_, ?_, r1⟩
        · unfold dget; rw [List.find?_cons, e, decide_eq_true c]; rfl
        · simp [valV, c]
      · have ih := valV_dget (k := k) h.2 r2
        have e1 : dget (q :: kvs) (keyD k) = dget kvs (keyD k) := by unfold dget; rw [List.find?_cons, e, decide_eq_false c]
        have e2 : valV (p :: kv) k = valV kv k := by simp [valV, c]
        rw [e1, e2]; exact ih

/-! ### in, not in, d[k] -/
/-- a dict, whichever its kind, and a key of its kind -/
theorem dict_cases {G : Gx} {Hm : Hp} {v : V} {kvs : List (PyData × PyData)} (sm : Same Hm H) (h : Opd G Hm H v (.dict kvs)) : ∃ a, v = .ref a ∧
    ((∃ kv, Rd H a (.dK kv) ∧ kvs.map (·.1) = kv.map (fun p => keyD p.1) ∧ RpA G Hm (kv.map (·.2)) (kvs.map (·.2))) ∨
     (∃ ks, H a = some (dN G.P G.w a ks) ∧ (ks.map (·.1)).Nodup ∧ (∀ p ∈ ks, p.1.depth ≤ 8) ∧ kvs.map (fun p => keyN p.1) = ks.map (fun p => some p.1) ∧
        RpA G Hm (ks.map (fun p => V.ref p.2.1)) (kvs.map (·.1)) ∧ RpA G Hm (ks.map (·.2.2)) (kvs.map (·.2)))) := by
  rcases h with h | ⟨a, rfl, h⟩
  · cases h with
    | dK h1 h2 h3 => exact ⟨_, rfl, .inl ⟨_, Rd.same sm h1, h2, h3⟩⟩
    | dN h1 h2 h6 h3 h4 h5 => exact ⟨_, rfl, .inr ⟨_, sm _ _ h1, h2, h6, h3, h4, h5⟩⟩
  · cases h with
    | dK h1 h2 h3 => exact ⟨_, rfl, .inl ⟨_, .inl h1, h2, h3⟩⟩
    | dN h1 h2 h6 h3 h4 h5 => exact ⟨_, rfl, .inr ⟨_, h1, h2, h6, h3, h4, h5⟩⟩
theorem tupK_iff {d : PyData} (h : tupK d = true) : ∃ ds k, d = .tuple ds ∧ keyN d = some k ∧ k.depth ≤ 8 := by
  unfold tupK at h
  simp only [Bool.and_eq_true] at h
  cases d <;> simp at h
  rename_i ds
  cases e : keyN (.tuple ds) with
  | none => rw [e] at h; cases h
  | some k => rw [e] at h; exact ⟨ds, k, rfl, rfl, of_decide_eq_true h⟩
theorem keyN_tup {G : Gx} {Hm : Hp} {q : Addr} {d : PyData} {k : NestedKey} (h : Rp G Hm (.ref q) d) (e : keyN d = some k) : ∃ ds, d = .tuple ds := by
  cases h with
  | tup _ _ => exact ⟨_, rfl⟩
  | _ => simp [keyN] at e
/-- the key is of the dict's kind: both kinds' facts -/
theorem kind_dK {kvs : List (PyData × PyData)} {d : PyData} {kv : List (Key × V)} (h : kindK kvs d = true) (e : kvs.map (·.1) = kv.map (fun p => keyD p.1)) : (∃ k, d = keyD k) ∨ (kvs = [] ∧ kv = [] ∧ tupK d = true) := by
  unfold kindK at h
  simp only [Bool.or_eq_true, Bool.and_eq_true] at h
  rcases h with h | h
  · exact .inl (leafK_iff h.1)
  · cases kv with
    | nil => simp at e; exact .inr ⟨e, rfl, h.1⟩
    | cons p kv =>
      cases kvs with
      | nil => simp at e
      | cons q kvs =>
        simp only [List.map_cons, List.cons.injEq] at e
        have := h.2
        simp only [List.all_cons, Bool.and_eq_true] at this
        rw [e.1] at this
        obtain ⟨ds, k, e', _⟩ := tupK_iff this.1
        obtain ⟨k1, v1⟩ := p
        cases k1 <;> simp [keyD] at e'
theorem kind_dN {G : Gx} {Hm : Hp} {kvs : List (PyData × PyData)} {d : PyData} {ks : List (NestedKey × Addr × V)} (h : kindK kvs d = true) (h3 : kvs.map (fun p => keyN p.1) = ks.map (fun p => some p.1)) (h4 : RpA G Hm (ks.map (fun p => V.ref p.2.1)) (kvs.map (·.1))) :
    tupK d = true ∨ (kvs = [] ∧ ks = [] ∧ leafK d = true) := by
  unfold kindK at h
  simp only [Bool.or_eq_true, Bool.and_eq_true] at h
  rcases h with h | h
  · cases ks with
    | nil => simp at h3; exact .inr ⟨h3, rfl, h.1⟩
    | cons p ks =>
      cases kvs with
      | nil => simp at h3
      | cons q kvs =>
        simp only [List.map_cons, List.cons.injEq] at h3
        simp only [List.map_cons] at h4
        cases h4 with
        | cons r1 r2 =>
          obtain ⟨ds, e⟩ := keyN_tup r1 h3.1
          have := h.2
          simp only [List.all_cons, Bool.and_eq_true, e] at this
          simp [leafK] at this
  · exact .inl h.1
theorem room8 (B : XB X) : (nestedKind X.prog X.w).room X.A.in1 := by
  have := B.un
  show X.A.in1.units + 8 < cLine
  show X.A.units + 1 + 8 < cLine
  omega
/-- an empty dict of the one kind is one of the other -/
theorem dK_nil_H (I : Inv X pins σ H s) {a : Addr} (h : Rd H a (.dK [])) : (a == sysModules) = false ∧ s.heap.DictOfH (nestedKind X.prog X.w) a [] := by
  obtain ⟨_, hd, vs, rel, o, es, ep, h1, h2, h3, _, h5, _⟩ := h.ok I.hok
  cases rel
  have e : es.toList = [] := by
    generalize es.toList = l at h5
    cases h5
    rfl
  exact ⟨hd, o, es, ep, h1, h2, h3, by rw [e]; rfl, (fun x hx => nomatch hx), List.nodup_nil⟩
theorem kV_opd {G : Gx} {Hm : Hp} {x : V} : ∀ {k : Key}, Opd G Hm H x (keyD k) → x = kV k
  | .inl _, h => h.int
  | .inr _, h => h.str
theorem op_inDict (B : XB X) {neg : Bool} {x y : V} {v u : Value} {Q : VK} (I : Inv X pins σ H s) (rx : RelV x v) (ry : RelV y u) {m : Addr → Bool} {d : PyData} {kvs : List (PyData × PyData)} (od : Opd (gx X) (mk m H) H x d) (oe : Opd (gx X) (mk m H) H y (.dict kvs)) (hk : kindK kvs d = true)
    (q : Q (.bl (if neg then !(dget kvs d).isSome else (dget kvs d).isSome)) H) : wpAny (model X.prog X.w) X.A (compareOp (if neg then .NotIn else .In) v u) (EP X pins σ Q) X.xe s := by
  have sub := mk_sub m H
  obtain ⟨a, rfl, h⟩ := dict_cases sub oe
  cases ry
  rcases h with ⟨kv, h1, h2, h3⟩ | ⟨ks, h1, h2, h6, h3, h4, h5⟩
  · rcases kind_dK hk h2 with ⟨k, rfl⟩ | ⟨e1, e2, hd⟩
    · have ex : x = kV k := kV_opd od
      subst ex
      have g : DGet H a (kV k) (valV kv k) := .inl ⟨kv, k, h1, rfl, rfl⟩
      have e : (valV kv k).isSome = (dget kvs (keyD k)).isSome := by
        rcases valV_dget h2 h3 with ⟨e1, e2⟩ | ⟨r, v, e1, e2, _⟩ <;> rw [e1, e2] <;> rfl
      cases neg with
      | false => exact d_in (by have := B.un; omega) I g rx fun s' I' => ⟨.bl _, H, I', rfl, by rw [e]; exact q⟩
      | true => exact d_notIn (by have := B.un; omega) I g rx fun s' I' => ⟨.bl _, H, I', rfl, by rw [e]; exact q⟩
    · subst e1 e2
      obtain ⟨ds, k, rfl, hN, dp⟩ := tupK_iff hd
      obtain ⟨b, xs, rfl, ht, hr⟩ := od.tuple
      cases rx
      obtain ⟨hs, dd⟩ := dK_nil_H I h1
      have key : (nestedKind X.prog X.w).is s.heap k b := ⟨Inv.nestedIs I _ k (.ref b) _ (od.rp sub) hN rfl, dp⟩
      cases neg with
      | false => exact wpAny_in_heap (room8 B) key hs dd ⟨.bl false, H, I.tok _, rfl, q⟩
      | true => exact notIn_keyed (room8 B) key hs ⟨_, dd, rfl⟩ ⟨.bl true, H, I.tok _, rfl, q⟩
  · rcases kind_dN hk h3 h4 with hd | ⟨e1, e2, hd⟩
    · obtain ⟨ds, k, rfl, hN, dp⟩ := tupK_iff hd
      obtain ⟨b, xs, rfl, ht, hr⟩ := od.tuple
      cases rx
      obtain ⟨_, hs, xs', pr, dd⟩ := Inv.dictN I h1 h2 h6 h3 h4 sub
      have key : (nestedKind X.prog X.w).is s.heap k b := ⟨Inv.nestedIs I _ k (.ref b) _ (od.rp sub) hN rfl, dp⟩
      have e : (atKey xs' k).isSome = (dget kvs (.tuple ds)).isSome := by
        rcases atKey_dget (X := X) pr h3 h5 hN with ⟨e1, e2⟩ | ⟨r, v, _, e1, e2, _⟩ <;> rw [e1, e2] <;> rfl
      cases neg with
      | false => exact wpAny_in_heap (room8 B) key hs dd ⟨.bl _, H, I.tok _, rfl, by rw [e]; exact q⟩
      | true =>
        refine notIn_keyed (room8 B) key hs ⟨_, dd, rfl⟩ ⟨.bl _, H, I.tok _, rfl, ?_⟩
        rw [valueAt_pairsH, Option.isSome_map, e]; exact q
    · subst e1 e2
      obtain ⟨k, rfl⟩ := leafK_iff hd
      have ex : x = kV k := kV_opd od
      subst ex
      obtain ⟨_, hs, xs', pr, o, es, ep, g1, g2, g3, g4, _⟩ := Inv.dictN I h1 h2 h6 h3 h4 sub
      cases pr
      have dd : s.heap.DictOf (mixKind X.prog X.w) a [] := by
        have e : es = #[] := by simpa using g4
        subst e
        exact ⟨o, #[], ep, g1, g2, g3, (fun _ hx => by simp at hx), .nil, List.nodup_nil⟩
      cases neg with
      | false => exact wpAny_in_of (kV_is rx) hs dd.mapOf ⟨.bl _, H, I.tok _, rfl, q⟩
      | true => exact wpAny_notIn_of (kV_is rx) hs dd.mapOf ⟨.bl _, H, I.tok _, rfl, q⟩
end
end TL

set_option Elab.async false
set_option linter.all false
set_option maxRecDepth 100000
/-! TLg: in, is, items; all operations by their names. -/
namespace TL
open PySem PySem.Spec PyProof.Rows L2
def isNoneD : PyData → Bool
  | .none => true
  | _ => false
section
variable {X : Cx}
theorem in_room (B : XB X) {d : PyData} (h : SeqAt.shaped d = true) (n : Nat) : X.A.units + 1 + min n d.depth < cLine := by
  have h1 := SeqAt.depth_of_shaped h
  have h2 : min n d.depth ≤ d.depth := Nat.min_le_right _ _
  have := B.un
  omega
theorem op_inT (B : XB X) : OpR X (compareOp .In) (rD (gx X) (sem2 .in_)) := by
  intro pins s σ H x y v u Q I rx ry h
  obtain ⟨m, d, e, r, dm, od, oe, hs, k⟩ := h
  have sub := mk_sub m H
  cases e with
  | list b =>
    have hs : (if SeqAt.shaped d && SeqAt.shaped (.list b) then some (PyData.bool (b.any fun y => PyData.eqv y d)) else none) = some r := by cases d <;> exact hs
    split at hs
    · rename_i hf
      simp only [Bool.and_eq_true] at hf
      cases hs
      obtain ⟨ra, h1⟩ := Inv.readsD I (od.rp sub) hf.1 rx
      obtain ⟨rb, h2⟩ := Inv.readsD I (oe.rp sub) hf.2 ry
      exact SeqAt.in_list_reads h2 h1 (SeqAt.canLay_of_shaped hf.2) (SeqAt.canLay_of_shaped hf.1) (in_room B hf.1 _) ⟨.bl _, H, I, rfl, k _ H (Same.refl _) (.bl _)⟩
    · cases hs
  | tuple b =>
    have hs : (if SeqAt.shaped d && SeqAt.shaped (.tuple b) then some (PyData.bool (b.any fun y => PyData.eqv y d)) else none) = some r := by cases d <;> exact hs
    split at hs
    · rename_i hf
      simp only [Bool.and_eq_true] at hf
      cases hs
      obtain ⟨ra, h1⟩ := Inv.readsD I (od.rp sub) hf.1 rx
      obtain ⟨rb, h2⟩ := Inv.readsD I (oe.rp sub) hf.2 ry
      exact SeqAt.in_tuple_reads h2 h1 (SeqAt.canLay_of_shaped hf.2) (SeqAt.canLay_of_shaped hf.1) (in_room B hf.1 _) ⟨.bl _, H, I, rfl, k _ H (Same.refl _) (.bl _)⟩
    · cases hs
  | dict b =>
    have hs : (if kindK b d then some (PyData.bool (dget b d).isSome) else none) = some r := by cases d <;> exact hs
    split at hs
    · rename_i hf
      cases hs
      exact op_inDict B (neg := false) I rx ry od oe hf (k _ H (Same.refl _) (.bl _))
    · cases hs
  | _ => exfalso; cases d <;> simp only [sem2, reduceCtorEq] at hs
theorem op_notinT (B : XB X) : OpR X (compareOp .NotIn) (rD (gx X) (sem2 .notin)) := by
  intro pins s σ H x y v u Q I rx ry h
  obtain ⟨m, d, e, r, dm, od, oe, hs, k⟩ := h
  have sub := mk_sub m H
  cases e with
  | list b =>
    have hs : (if SeqAt.shaped d && SeqAt.shaped (.list b) then some (PyData.bool (!(b.any fun y => PyData.eqv y d))) else none) = some r := by cases d <;> exact hs
    split at hs
    · rename_i hf
      simp only [Bool.and_eq_true] at hf
      cases hs
      obtain ⟨ra, h1⟩ := Inv.readsD I (od.rp sub) hf.1 rx
      obtain ⟨rb, h2⟩ := Inv.readsD I (oe.rp sub) hf.2 ry
      exact SeqAt.notIn_list_reads h2 h1 (SeqAt.canLay_of_shaped hf.2) (SeqAt.canLay_of_shaped hf.1) (in_room B hf.1 _) ⟨.bl _, H, I, rfl, k _ H (Same.refl _) (.bl _)⟩
    · cases hs
  | tuple b =>
    have hs : (if SeqAt.shaped d && SeqAt.shaped (.tuple b) then some (PyData.bool (!(b.any fun y => PyData.eqv y d))) else none) = some r := by cases d <;> exact hs
    split at hs
    · rename_i hf
      simp only [Bool.and_eq_true] at hf
      cases hs
      obtain ⟨ra, h1⟩ := Inv.readsD I (od.rp sub) hf.1 rx
      obtain ⟨rb, h2⟩ := Inv.readsD I (oe.rp sub) hf.2 ry
      exact SeqAt.notIn_tuple_reads h2 h1 (SeqAt.canLay_of_shaped hf.2) (SeqAt.canLay_of_shaped hf.1) (in_room B hf.1 _) ⟨.bl _, H, I, rfl, k _ H (Same.refl _) (.bl _)⟩
    · cases hs
  | dict b =>
    have hs : (if kindK b d then some (PyData.bool (!(dget b d).isSome)) else none) = some r := by cases d <;> exact hs
    split at hs
    · rename_i hf
      cases hs
      exact op_inDict B (neg := true) I rx ry od oe hf (k _ H (Same.refl _) (.bl _))
    · cases hs
  | _ => exfalso; cases d <;> simp only [sem2, reduceCtorEq] at hs
theorem Opd.non_iff {G : Gx} {Hm H : Hp} {x : V} {d : PyData} (h : Opd G Hm H x d) : decide (x = .non) = isNoneD d := by
  rcases h with h | ⟨a, rfl, h⟩ <;> cases h <;> rfl
theorem op_isT : OpR X (compareOp .Is) (rD (gx X) (sem2 .is_)) := by
  intro pins s σ H x y v u Q I rx ry h
  obtain ⟨m, d, e, r, dm, od, oe, hs, k⟩ := h
  cases e with
  | none =>
    have hs : r = .bool (isNoneD d) := by cases d <;> (simp only [sem2] at hs; cases hs; rfl)
    subst hs
    obtain rfl := oe.none
    exact op_isN pins s σ H _ _ v u Q I rx ry ⟨rfl, by rw [od.non_iff]; exact k _ H (Same.refl _) (.bl _)⟩
  | bool b =>
    cases d <;> simp only [sem2, reduceCtorEq] at hs
    cases hs
    obtain rfl := od.bool
    obtain rfl := oe.bool
    exact op_is_bl pins s σ H _ _ v u Q I rx ry ⟨_, _, rfl, rfl, k _ H (Same.refl _) (by rw [Bool.beq_eq_decide_eq]; exact .bl _)⟩
  | _ => exfalso; cases d <;> simp only [sem2, reduceCtorEq] at hs
theorem op_isnotT : OpR X (compareOp .IsNot) (rD (gx X) (sem2 .isnot)) := by
  intro pins s σ H x y v u Q I rx ry h
  obtain ⟨m, d, e, r, dm, od, oe, hs, k⟩ := h
  cases e with
  | none =>
    have hs : r = .bool (!isNoneD d) := by cases d <;> (simp only [sem2] at hs; cases hs; rfl)
    subst hs
    obtain rfl := oe.none
    exact op_notN pins s σ H _ _ v u Q I rx ry ⟨rfl, by rw [od.non_iff]; exact k _ H (Same.refl _) (.bl _)⟩
  | bool b =>
    cases d <;> simp only [sem2, reduceCtorEq] at hs
    cases hs
    obtain rfl := od.bool
    obtain rfl := oe.bool
    exact op_isnot_bl pins s σ H _ _ v u Q I rx ry ⟨_, _, rfl, rfl, k _ H (Same.refl _) (by rw [Bool.beq_eq_decide_eq]; exact .bl _)⟩
  | _ => exfalso; cases d <;> simp only [sem2, reduceCtorEq] at hs
theorem atI_RpA {G : Gx} {Hm : Hp} {xs : List V} {ds : List PyData} {i : Int} {d : PyData} (r : RpA G Hm xs ds) (h : atI ds i = some d) : ∃ v, atI xs i = some v ∧ Rp G Hm v d := by
  unfold atI at h ⊢
  rw [r.length]
  cases e : ixN ds.length i with
  | none => rw [e] at h; cases h
  | some j =>
    rw [e] at h
    obtain ⟨u, h1, h2⟩ := r.get (show ds[j]? = some d from h)
    exact ⟨u, h1, h2⟩
/-- a[b] of lists and tuples -/
theorem ixD_seq : IxR X (rD (gx X) fun d e => match d with | .dict _ => none | _ => sem2 .idx d e) := by
  intro value slice pins s σ H x y v u Q I rx ry h hsl
  obtain ⟨m, d, e, r, dm, od, oe, hs, k⟩ := h
  have sub := mk_sub m H
  cases d with
  | list a =>
    cases e <;> simp only [sem2, reduceCtorEq] at hs
    obtain ⟨p, xs, rfl, h1, h2⟩ := od.list sub
    obtain rfl := oe.int
    obtain ⟨w, h3, h4⟩ := atI_RpA h2 hs
    exact ix_list value slice pins s σ H _ _ v u Q I rx ry ⟨p, xs, _, w, rfl, rfl, h1, h3, k _ H (Same.refl _) h4⟩ hsl
  | tuple a =>
    cases e <;> simp only [sem2, reduceCtorEq] at hs
    obtain ⟨p, xs, rfl, h1, h2⟩ := od.tuple
    obtain rfl := oe.int
    obtain ⟨w, h3, h4⟩ := atI_RpA h2 hs
    exact ix_tup value slice pins s σ H _ _ v u Q I rx ry ⟨p, xs, _, w, rfl, rfl, sqT_same sub h1, h3, k _ H (Same.refl _) h4⟩ hsl
  | dict a => cases hs
  | _ => cases e <;> simp only [sem2, reduceCtorEq] at hs
theorem tail_of {prog : Program} {w : World} {A : Around} {E : Value → Shared → Prop} {s : Shared} {value slice : Expr} {o i : Value} {T id : String} {Q : Value → Shared → Prop}
    (hl : typeLookup (.type T) "__getitem__" = pure (some (.builtin id))) (ty : s.TypeIs o T) (hs : subscripted slice false o i = operate [o, i] (getItem o i)) (h : wpAny (model prog w) A (getItem o i) Q E s) :
    wpAny (model prog w) A (subscriptTail value slice o i) Q E s := by
  have plain := getitemInPython_of_ne (o := o) ty.not_modules
  unfold subscriptTail; rw [plain]
  refine wpAny_bind (wpAny_bind (wpAny_specialOf ty hl (wpAny_pure ?_)))
  rw [hs]
  exact wpAny_bind (wpAny_operating (wpAny_mono h (fun r t z => wpAny_bind (wpAny_letTemporaryGo (wpAny_pure z))) (fun _ _ z => z)))
/-- d[k] by values -/
theorem getDict (B : XB X) {pins : List (Addr × Obj)} {s : Shared} {σ : L2.St} {H : Hp} {x y : V} {v u : Value} {Q : VK} (I : Inv X pins σ H s) (rx : RelV x v) (ry : RelV y u) {m : Addr → Bool} {kvs : List (PyData × PyData)} {e r : PyData}
    (od : Opd (gx X) (mk m H) H x (.dict kvs)) (oe : Opd (gx X) (mk m H) H y e) (hk : kindK kvs e = true) (hg : dget kvs e = some r) (q : ∀ w, Rp (gx X) (mk m H) w r → Q w H) :
    s.TypeIs v "dict" ∧ wpAny (model X.prog X.w) X.A (getItem v u) (EP X pins σ Q) X.xe s := by
  have sub := mk_sub m H
  obtain ⟨a, rfl, h⟩ := dict_cases sub od
  cases rx
  rcases h with ⟨kv, h1, h2, h3⟩ | ⟨ks, h1, h2, h6, h3, h4, h5⟩
  · rcases kind_dK hk h2 with ⟨k, rfl⟩ | ⟨e1, e2, hd⟩
    · obtain rfl := kV_opd oe
      rcases valV_dget (X := X) h2 h3 with ⟨e1, e2⟩ | ⟨r', w, e1, e2, rw'⟩
      · rw [hg] at e1; cases e1
      · rw [hg] at e1; cases e1
        have g : DGet H a (kV k) (some w) := .inl ⟨kv, k, h1, rfl, e2.symm⟩
        exact ⟨dict_typeIs I g, d_getItem (by have := B.un; omega) I g ry fun w' s' I' rw2 => ⟨w, H, I', rw2, q w rw'⟩⟩
    · subst e1; simp [dget] at hg
  · rcases kind_dN hk h3 h4 with hd | ⟨e1, e2, hd⟩
    · obtain ⟨ds, k, rfl, hN, dp⟩ := tupK_iff hd
      obtain ⟨b, xs, rfl, ht, hr⟩ := oe.tuple
      cases ry
      obtain ⟨_, hs, xs', pr, dd⟩ := Inv.dictN I h1 h2 h6 h3 h4 sub
      have key : (nestedKind X.prog X.w).is s.heap k b := ⟨Inv.nestedIs I _ k (.ref b) _ (oe.rp sub) hN rfl, dp⟩
      rcases atKey_dget (X := X) pr h3 h5 hN with ⟨e1, e2⟩ | ⟨r', p, w, e1, e2, rw1, rw2⟩
      · rw [hg] at e1; cases e1
      · rw [hg] at e1; cases e1
        exact ⟨dd.typeIs, wpAny_getItem_heap (room8 B) key dd e2 ⟨w, H, I.tok _, rw1, q w rw2⟩⟩
    · subst e1; simp [dget] at hg
/-- a[b] -/
theorem pe_idx (B : XB X) {a b : Expr} {ta tb : TE} {pos : Pos} (ha : PE X a ta) (hb : PE X b tb) (hs : PlainIx b) : PE X (.Subscript a b pos) (tOp (rD (gx X) (sem2 .idx)) ta tb) := by
  refine ⟨fun pins s σ H Q I h => ?_⟩
  refine Subscript_ (binT ha hb I h fun v u s2 x y H2 I2 rx ry q => ?_)
  obtain ⟨m, d, e, r, dm, od, oe, hs2, k⟩ := id q
  by_cases hd : ∃ kvs, d = .dict kvs
  · obtain ⟨kvs, rfl⟩ := hd
    have hs2 : (if kindK kvs e then dget kvs e else none) = some r := by cases e <;> exact hs2
    split at hs2
    · rename_i hf
      obtain ⟨hT, hq⟩ := getDict B I2 rx ry od oe hf hs2 fun w rw' => k w H2 (Same.refl _) rw'
      exact tail_of PySem.F.slot_dict_getitem.lookup hT (hs _ _) hq
    · cases hs2
  · exact ixD_seq a b pins s2 σ H2 x y v u Q I2 rx ry ⟨m, d, e, r, dm, od, oe, by cases d <;> first | exact hs2 | exact absurd ⟨_, rfl⟩ hd, k⟩ (hs _ _)

def binOf : Op2 → Option Operator
  | .add => some .Add
  | .sub => some .Sub
  | .mul => some .Mult
  | .fdiv => some .FloorDiv
  | .mod => some .Mod
  | .pow => some .Pow
  | _ => none
def cmpOf : Op2 → Option CmpOp
  | .eq => some .Eq
  | .ne => some .NotEq
  | .lt => some .Lt
  | .le => some .LtE
  | .gt => some .Gt
  | .ge => some .GtE
  | .is_ => some .Is
  | .isnot => some .IsNot
  | .in_ => some .In
  | .notin => some .NotIn
  | _ => none
theorem OpR.pre {f : Value → Value → Sem Value} {p : Prop} {r : R2} (hp : p) (h : OpR X f (fun x y H Q => p ∧ r x y H Q)) : OpR X f r := fun pins s σ H x y v u Q I rx ry q => h pins s σ H x y v u Q I rx ry ⟨hp, q⟩
theorem bin_ok {o : Op2} {b : Operator} (h : binOf o = some b) : OpR X (binaryOp b) (rD (gx X) (sem2 o)) := by
  cases o <;> cases h
  · exact op_addD
  · exact op_subD
  · exact op_mulD
  · exact op_fdivD
  · exact op_modD
  · exact op_powD
theorem cmp_ok (B : XB X) {o : Op2} {b : CmpOp} (h : cmpOf o = some b) : OpR X (compareOp b) (rD (gx X) (sem2 o)) := by
  cases o <;> cases h
  · exact OpR.pre B op_eqT
  · exact OpR.pre B op_neT
  · exact OpR.pre B op_ltD
  · exact op_leD
  · exact op_gtD
  · exact op_geD
  · exact op_isT
  · exact op_isnotT
  · exact op_inT B
  · exact op_notinT B
end
end TL

set_option Elab.async false
set_option linter.all false
set_option maxRecDepth 100000
/-! TLh: built-in functions. -/
namespace TL
open PySem PySem.Spec PyProof.Rows L2
abbrev OpdA (G : Gx) (Hm H : Hp) : List V → List PyData → Prop := Paired (Opd G Hm H)
/-- a built-in's value by its arguments' trees -/
def rB (G : Gx) (sem : List PyData → Option PyData) : List V → Hp → VK → Prop := fun vs H Q => ∃ m ds r, Dom m H ∧ OpdA G (mk m H) H vs ds ∧ sem ds = some r ∧
  ∀ v H', Same H H' → Rp G (mk m H') v r → Q v H'
section
variable {X : Cx}
theorem opd1 {G : Gx} {Hm H : Hp} {vs : List V} {d : PyData} (h : OpdA G Hm H vs [d]) : ∃ v, vs = [v] ∧ Opd G Hm H v d := by
  cases h with
  | cons h1 h2 => cases h2; exact ⟨_, rfl, h1⟩
theorem opd2 {G : Gx} {Hm H : Hp} {vs : List V} {d e : PyData} (h : OpdA G Hm H vs [d, e]) : ∃ v u, vs = [v, u] ∧ Opd G Hm H v d ∧ Opd G Hm H u e := by
  cases h with
  | cons h1 h2 =>
    cases h2 with
    | cons h3 h4 => cases h4; exact ⟨_, _, rfl, h1, h3⟩
/-- one argument -/
theorem semB1 {f : Bf} {ds : List PyData} {r : PyData} (h : semB f ds = some r) (hf : f ≠ .max2 ∧ f ≠ .min2 ∧ f ≠ .lrg2) : ∃ d, ds = [d] := by
  match ds, h with
  | [], h => cases f <;> simp [semB] at h
  | [d], _ => exact ⟨d, rfl⟩
  | [d, e], h => cases f <;> first | exact absurd rfl hf.1 | exact absurd rfl hf.2.1 | exact absurd rfl hf.2.2 | (simp [semB] at h)
  | d :: e :: f' :: r, h => cases f <;> simp [semB] at h
theorem bf_len : CallR X (.builtin "len") (rB (gx X) (semB .len)) := by
  intro pins s σ H vs us Q I r h
  obtain ⟨m, ds, res, dm, hv, hs, k⟩ := h
  obtain ⟨d, rfl⟩ := semB1 hs ⟨by decide, by decide, by decide⟩
  obtain ⟨v, rfl, o⟩ := opd1 hv
  have sub := mk_sub m H
  cases d <;> simp only [semB, reduceCtorEq] at hs
  · cases hs
    obtain ⟨a, xs, rfl, h1, h2⟩ := o.list sub
    refine call_len_seq pins s σ H _ us Q I r ⟨a, xs, rfl, .inl h1, ?_⟩
    rw [h2.length]
    exact k _ H (Same.refl _) (.int _)
  · cases hs
    obtain ⟨a, xs, rfl, h1, h2⟩ := o.tuple
    refine call_len_seq pins s σ H _ us Q I r ⟨a, xs, rfl, .inr (sqT_same sub h1), ?_⟩
    rw [h2.length]
    exact k _ H (Same.refl _) (.int _)
theorem bf_tuple : CallR X (.type "tuple") (rB (gx X) (semB .tuple)) := by
  intro pins s σ H vs us Q I r h
  obtain ⟨m, ds, res, dm, hv, hs, k⟩ := h
  obtain ⟨d, rfl⟩ := semB1 hs ⟨by decide, by decide, by decide⟩
  obtain ⟨v, rfl, o⟩ := opd1 hv
  have sub := mk_sub m H
  cases d <;> simp only [semB, reduceCtorEq] at hs
  · cases hs
    obtain ⟨a, xs, rfl, h1, h2⟩ := o.list sub
    exact call_tuple_of pins s σ H _ us Q I r ⟨a, xs, rfl, .inl ⟨h1, fun l hl => k _ _ (same_upd hl _) (mk_tup dm hl h2)⟩⟩
  · cases hs
    obtain ⟨a, xs, rfl, h1, h2⟩ := o.tuple
    exact call_tuple_of pins s σ H _ us Q I r ⟨a, xs, rfl, .inr ⟨sqT_same sub h1, k _ H (Same.refl _) (.tup h1 h2)⟩⟩
theorem bf_list : CallR X (.type "list") (rB (gx X) (semB .list)) := by
  intro pins s σ H vs us Q I r h
  obtain ⟨m, ds, res, dm, hv, hs, k⟩ := h
  obtain ⟨d, rfl⟩ := semB1 hs ⟨by decide, by decide, by decide⟩
  obtain ⟨v, rfl, o⟩ := opd1 hv
  have sub := mk_sub m H
  cases d <;> simp only [semB, reduceCtorEq] at hs
  · cases hs
    obtain ⟨a, xs, rfl, h1, h2⟩ := o.list sub
    exact call_list_of pins s σ H _ us Q I r ⟨a, xs, rfl, .inl h1, fun l hl => k _ _ (same_upd hl _) (mk_lst dm hl h2)⟩
  · cases hs
    obtain ⟨a, xs, rfl, h1, h2⟩ := o.tuple
    exact call_list_of pins s σ H _ us Q I r ⟨a, xs, rfl, .inr (sqT_same sub h1), fun l hl => k _ _ (same_upd hl _) (mk_lst dm hl h2)⟩
theorem bf_sum (hc : X.calm = true) : CallR X (.builtin "sum") (rB (gx X) (semB .sum)) := by
  intro pins s σ H vs us Q I r h
  obtain ⟨m, ds, res, dm, hv, hs, k⟩ := h
  obtain ⟨d, rfl⟩ := semB1 hs ⟨by decide, by decide, by decide⟩
  obtain ⟨v, rfl, o⟩ := opd1 hv
  cases d <;> simp only [semB, reduceCtorEq, Option.map_eq_some_iff] at hs
  obtain ⟨ns, e, rfl⟩ := hs
  obtain rfl := ints?_inv e
  obtain ⟨a, xs, rfl, h1, h2⟩ := o.list (mk_sub m H)
  obtain rfl := h2.ints
  exact cr_sum hc pins s σ H _ us Q I r ⟨a, ns, rfl, h1, k _ H (Same.refl _) (.int _)⟩
theorem foldl_max_ge : ∀ (l : List Int) (a : Int), a ≤ l.foldl max a ∧ (∀ y ∈ l, y ≤ l.foldl max a) ∧ (l.foldl max a = a ∨ l.foldl max a ∈ l)
  | [], a => ⟨Int.le_refl _, (fun _ h => nomatch h), Or.inl rfl⟩
  | b :: l, a => by
    obtain ⟨h1, h2, h3⟩ := foldl_max_ge l (max a b)
    simp only [List.foldl_cons]
    refine ⟨by omega, fun y hy => ?_, ?_⟩
    · rcases List.mem_cons.mp hy with rfl | hy
      · omega
      · exact h2 y hy
    · rcases h3 with h3 | h3
      · rw [h3]
        by_cases c : a ≤ b
        · right; rw [show max a b = b by omega]; exact List.mem_cons_self
        · left; omega
      · exact .inr (List.mem_cons_of_mem _ h3)
theorem foldl_min_le : ∀ (l : List Int) (a : Int), l.foldl min a ≤ a ∧ (∀ y ∈ l, l.foldl min a ≤ y) ∧ (l.foldl min a = a ∨ l.foldl min a ∈ l)
  | [], a => ⟨Int.le_refl _, (fun _ h => nomatch h), Or.inl rfl⟩
  | b :: l, a => by
    obtain ⟨h1, h2, h3⟩ := foldl_min_le l (min a b)
    simp only [List.foldl_cons]
    refine ⟨by omega, fun y hy => ?_, ?_⟩
    · rcases List.mem_cons.mp hy with rfl | hy
      · omega
      · exact h2 y hy
    · rcases h3 with h3 | h3
      · rw [h3]
        by_cases c : b ≤ a
        · right; rw [show min a b = b by omega]; exact List.mem_cons_self
        · left; omega
      · exact .inr (List.mem_cons_of_mem _ h3)
theorem maxI_spec {ns : List Int} {m : Int} (h : maxI ns = some m) : m ∈ ns ∧ ∀ y ∈ ns, y ≤ m := by
  cases ns with
  | nil => cases h
  | cons a l =>
    simp only [maxI, Option.some.injEq] at h
    subst h
    obtain ⟨h1, h2, h3⟩ := foldl_max_ge l a
    refine ⟨?_, fun y hy => ?_⟩
    · rcases h3 with h3 | h3
      · rw [h3]; exact List.mem_cons_self
      · exact List.mem_cons_of_mem _ h3
    · rcases List.mem_cons.mp hy with rfl | hy
      · exact h1
      · exact h2 y hy
theorem minI_spec {ns : List Int} {m : Int} (h : minI ns = some m) : m ∈ ns ∧ ∀ y ∈ ns, m ≤ y := by
  cases ns with
  | nil => cases h
  | cons a l =>
    simp only [minI, Option.some.injEq] at h
    subst h
    obtain ⟨h1, h2, h3⟩ := foldl_min_le l a
    refine ⟨?_, fun y hy => ?_⟩
    · rcases h3 with h3 | h3
      · rw [h3]; exact List.mem_cons_self
      · exact List.mem_cons_of_mem _ h3
    · rcases List.mem_cons.mp hy with rfl | hy
      · exact h1
      · exact h2 y hy
theorem bf_max1 (hc : X.calm = true) : CallR X (.builtin "max") (rB (gx X) (semB .max1)) := by
  intro pins s σ H vs us Q I r h
  obtain ⟨m, ds, res, dm, hv, hs, k⟩ := h
  obtain ⟨d, rfl⟩ := semB1 hs ⟨by decide, by decide, by decide⟩
  obtain ⟨v, rfl, o⟩ := opd1 hv
  cases d <;> simp only [semB, reduceCtorEq, Option.bind_eq_some_iff, Option.map_eq_some_iff] at hs
  obtain ⟨ns, e, b, e2, rfl⟩ := hs
  obtain rfl := ints?_inv e
  obtain ⟨a, xs, rfl, h1, h2⟩ := o.list (mk_sub m H)
  obtain rfl := h2.ints
  obtain ⟨q1, q2⟩ := maxI_spec e2
  refine cr_max hc pins s σ H _ us Q I r ⟨a, ns, rfl, h1, List.length_pos_of_mem q1, fun z hz hy => ?_⟩
  have : z = b := by have a1 := hy b q1; have a2 := q2 z hz; omega
  subst this
  exact k _ H (Same.refl _) (.int _)
theorem bf_min1 (hc : X.calm = true) : CallR X (.builtin "min") (rB (gx X) (semB .min1)) := by
  intro pins s σ H vs us Q I r h
  obtain ⟨m, ds, res, dm, hv, hs, k⟩ := h
  obtain ⟨d, rfl⟩ := semB1 hs ⟨by decide, by decide, by decide⟩
  obtain ⟨v, rfl, o⟩ := opd1 hv
  cases d <;> simp only [semB, reduceCtorEq, Option.bind_eq_some_iff, Option.map_eq_some_iff] at hs
  obtain ⟨ns, e, b, e2, rfl⟩ := hs
  obtain rfl := ints?_inv e
  obtain ⟨a, xs, rfl, h1, h2⟩ := o.list (mk_sub m H)
  obtain rfl := h2.ints
  obtain ⟨q1, q2⟩ := minI_spec e2
  refine cr_min hc pins s σ H _ us Q I r ⟨a, ns, rfl, h1, List.length_pos_of_mem q1, fun z hz hy => ?_⟩
  have : z = b := by have a1 := hy b q1; have a2 := q2 z hz; omega
  subst this
  exact k _ H (Same.refl _) (.int _)
theorem semB2 {f : Bf} (hf : f = .max2 ∨ f = .min2) {ds : List PyData} {r : PyData} (h : semB f ds = some r) : ∃ i j : Int, ds = [.int i, .int j] := by
  match ds, h with
  | [.int i, .int j], _ => exact ⟨i, j, rfl⟩
  | [], h => rcases hf with rfl | rfl <;> simp [semB] at h
  | [d], h => rcases hf with rfl | rfl <;> simp [semB] at h
  | [.none, e], h => rcases hf with rfl | rfl <;> simp [semB] at h
  | [.bool _, e], h => rcases hf with rfl | rfl <;> simp [semB] at h
  | [.str _, e], h => rcases hf with rfl | rfl <;> simp [semB] at h
  | [.list _, e], h => rcases hf with rfl | rfl <;> simp [semB] at h
  | [.tuple _, e], h => rcases hf with rfl | rfl <;> simp [semB] at h
  | [.dict _, e], h => rcases hf with rfl | rfl <;> simp [semB] at h
  | [.int _, .none], h => rcases hf with rfl | rfl <;> simp [semB] at h
  | [.int _, .bool _], h => rcases hf with rfl | rfl <;> simp [semB] at h
  | [.int _, .str _], h => rcases hf with rfl | rfl <;> simp [semB] at h
  | [.int _, .list _], h => rcases hf with rfl | rfl <;> simp [semB] at h
  | [.int _, .tuple _], h => rcases hf with rfl | rfl <;> simp [semB] at h
  | [.int _, .dict _], h => rcases hf with rfl | rfl <;> simp [semB] at h
  | d :: e :: f' :: r, h => rcases hf with rfl | rfl <;> simp [semB] at h
theorem bf_max2 (hc : X.calm = true) : CallR X (.builtin "max") (rB (gx X) (semB .max2)) := by
  intro pins s σ H vs us Q I r h
  obtain ⟨m, ds, res, dm, hv, hs, k⟩ := h
  obtain ⟨i, j, rfl⟩ := semB2 (.inl rfl) hs
  obtain ⟨v, u, rfl, o1, o2⟩ := opd2 hv
  obtain rfl := o1.int
  obtain rfl := o2.int
  simp only [semB, Option.some.injEq] at hs
  subst hs
  exact call_max2 hc pins s σ H _ us Q I r ⟨i, j, rfl, k _ H (Same.refl _) (.int _)⟩
theorem bf_min2 (hc : X.calm = true) : CallR X (.builtin "min") (rB (gx X) (semB .min2)) := by
  intro pins s σ H vs us Q I r h
  obtain ⟨m, ds, res, dm, hv, hs, k⟩ := h
  obtain ⟨i, j, rfl⟩ := semB2 (.inr rfl) hs
  obtain ⟨v, u, rfl, o1, o2⟩ := opd2 hv
  obtain rfl := o1.int
  obtain rfl := o2.int
  simp only [semB, Option.some.injEq] at hs
  subst hs
  exact call_min2 hc pins s σ H _ us Q I r ⟨i, j, rfl, k _ H (Same.refl _) (.int _)⟩
theorem bf_all (hc : X.calm = true) : CallR X (.builtin "all") (rB (gx X) (semB .all)) := by
  intro pins s σ H vs us Q I r h
  obtain ⟨m, ds, res, dm, hv, hs, k⟩ := h
  obtain ⟨d, rfl⟩ := semB1 hs ⟨by decide, by decide, by decide⟩
  obtain ⟨v, rfl, o⟩ := opd1 hv
  cases d <;> simp only [semB, reduceCtorEq, Option.map_eq_some_iff] at hs
  obtain ⟨ns, e, rfl⟩ := hs
  obtain rfl := bools?_inv e
  obtain ⟨a, xs, rfl, h1, h2⟩ := o.list (mk_sub m H)
  obtain rfl := h2.bools
  exact cr_all hc pins s σ H _ us Q I r ⟨a, ns, rfl, h1, k _ H (Same.refl _) (.bl _)⟩
theorem bf_any (hc : X.calm = true) : CallR X (.builtin "any") (rB (gx X) (semB .any)) := by
  intro pins s σ H vs us Q I r h
  obtain ⟨m, ds, res, dm, hv, hs, k⟩ := h
  obtain ⟨d, rfl⟩ := semB1 hs ⟨by decide, by decide, by decide⟩
  obtain ⟨v, rfl, o⟩ := opd1 hv
  cases d <;> simp only [semB, reduceCtorEq, Option.map_eq_some_iff] at hs
  obtain ⟨ns, e, rfl⟩ := hs
  obtain rfl := bools?_inv e
  obtain ⟨a, xs, rfl, h1, h2⟩ := o.list (mk_sub m H)
  obtain rfl := h2.bools
  exact cr_any hc pins s σ H _ us Q I r ⟨a, ns, rfl, h1, k _ H (Same.refl _) (.bl _)⟩
theorem bf_abs : CallR X (.builtin "abs") (rB (gx X) (semB .abs)) := by
  intro pins s σ H vs us Q I r h
  obtain ⟨m, ds, res, dm, hv, hs, k⟩ := h
  obtain ⟨d, rfl⟩ := semB1 hs ⟨by decide, by decide, by decide⟩
  obtain ⟨v, rfl, o⟩ := opd1 hv
  cases d <;> simp only [semB, reduceCtorEq, Option.some.injEq] at hs
  subst hs
  obtain rfl := o.int
  exact call_abs pins s σ H _ us Q I r ⟨_, rfl, k _ H (Same.refl _) (.int _)⟩
theorem bf_int : CallR X (.type "int") (rB (gx X) (semB .int)) := by
  intro pins s σ H vs us Q I r h
  obtain ⟨m, ds, res, dm, hv, hs, k⟩ := h
  obtain ⟨d, rfl⟩ := semB1 hs ⟨by decide, by decide, by decide⟩
  obtain ⟨v, rfl, o⟩ := opd1 hv
  cases d <;> simp only [semB, reduceCtorEq, Option.some.injEq] at hs
  · subst hs
    obtain rfl := o.bool
    exact call_int1 pins s σ H _ us Q I r (.inr ⟨_, rfl, k _ H (Same.refl _) (.int _)⟩)
  · subst hs
    obtain rfl := o.int
    exact call_int1 pins s σ H _ us Q I r (.inl ⟨_, rfl, k _ H (Same.refl _) (.int _)⟩)

/-! ### isinstance -/
def tyD : PyData → String
  | .none => "NoneType"
  | .bool _ => "bool"
  | .int _ => "int"
  | .str _ => "str"
  | .list _ => "list"
  | .tuple _ => "tuple"
  | .dict _ => "dict"
theorem Opd.ty {G : Gx} {m : Addr → Bool} {H : Hp} {v : V} {d : PyData} (h : Opd G (mk m H) H v d) (hd : isDictD d = false) : TyX G.K H v (.type (tyD d)) := by
  have sub := mk_sub m H
  cases d with
  | none => rw [h.none]; exact .base .non
  | bool b => rw [h.bool]; exact .base (.bl _)
  | int b => rw [h.int]; exact .base (.int _)
  | str b => rw [h.str]; exact .base (.str _)
  | list ds =>
    obtain ⟨a, xs, rfl, h1, _⟩ := h.list sub
    rcases h1 with (h1 | ⟨o, h1⟩) | ⟨o, its, n, h1, h2, _⟩
    · exact .base (.lst h1)
    · exact .base (.frz h1)
    · exact .kList h1 h2
  | tuple ds =>
    obtain ⟨a, xs, rfl, h1, _⟩ := h.tuple
    rcases sqT_same sub h1 with (h1 | ⟨o, h1⟩) | ⟨o, its, n, h1, h2, _⟩
    · exact .base (.tup h1)
    · exact .fTuple h1
    · exact .kTuple h1 h2
  | dict _ => cases hd
theorem isi_core {n : String} {f : PyData → Bool} (hk : ∀ d, isDictD d = false → kitB (tyD d) n = some (f d)) {pins : List (Addr × Obj)} {s : Shared} {σ : L2.St} {H : Hp} {Q : VK} {v : V} {us : List Value} {m : Addr → Bool} {d : PyData} (I : Inv X pins σ H s) (r : Vals [v, .ty n] us)
    (o : Opd (gx X) (mk m H) H v d) (hd : isDictD d = false) (q : Q (.bl (f d)) H) : wpAny (model X.prog X.w) X.A (call (.builtin "isinstance") us) (EP X pins σ Q) X.xe s :=
  call_isi pins s σ H _ us Q I r ⟨v, .ty n, .type (tyD d), .type n, f d, rfl, .ty n, o.ty hd, kit_ty (hk d hd), q⟩
theorem kit_int : ∀ d, isDictD d = false → kitB (tyD d) "int" = some (isIntD d)
  | .none, _ => (show kitB "NoneType" "int" = some false by decide +kernel)
  | .bool _, _ => (show kitB "bool" "int" = some true by decide +kernel)
  | .int _, _ => (show kitB "int" "int" = some true by decide +kernel)
  | .str _, _ => (show kitB "str" "int" = some false by decide +kernel)
  | .list _, _ => (show kitB "list" "int" = some false by decide +kernel)
  | .tuple _, _ => (show kitB "tuple" "int" = some false by decide +kernel)
  | .dict _, h => nomatch h
theorem kit_bool : ∀ d, isDictD d = false → kitB (tyD d) "bool" = some (isBoolD d)
  | .none, _ => (show kitB "NoneType" "bool" = some false by decide +kernel)
  | .bool _, _ => (show kitB "bool" "bool" = some true by decide +kernel)
  | .int _, _ => (show kitB "int" "bool" = some false by decide +kernel)
  | .str _, _ => (show kitB "str" "bool" = some false by decide +kernel)
  | .list _, _ => (show kitB "list" "bool" = some false by decide +kernel)
  | .tuple _, _ => (show kitB "tuple" "bool" = some false by decide +kernel)
  | .dict _, h => nomatch h
theorem kit_tuple : ∀ d, isDictD d = false → kitB (tyD d) "tuple" = some (isTupleD d)
  | .none, _ => (show kitB "NoneType" "tuple" = some false by decide +kernel)
  | .bool _, _ => (show kitB "bool" "tuple" = some false by decide +kernel)
  | .int _, _ => (show kitB "int" "tuple" = some false by decide +kernel)
  | .str _, _ => (show kitB "str" "tuple" = some false by decide +kernel)
  | .list _, _ => (show kitB "list" "tuple" = some false by decide +kernel)
  | .tuple _, _ => (show kitB "tuple" "tuple" = some true by decide +kernel)
  | .dict _, h => nomatch h
theorem kit_str : ∀ d, isDictD d = false → kitB (tyD d) "str" = some (isStrD d)
  | .none, _ => (show kitB "NoneType" "str" = some false by decide +kernel)
  | .bool _, _ => (show kitB "bool" "str" = some false by decide +kernel)
  | .int _, _ => (show kitB "int" "str" = some false by decide +kernel)
  | .str _, _ => (show kitB "str" "str" = some true by decide +kernel)
  | .list _, _ => (show kitB "list" "str" = some false by decide +kernel)
  | .tuple _, _ => (show kitB "tuple" "str" = some false by decide +kernel)
  | .dict _, h => nomatch h
end
end TL

set_option Elab.async false
set_option linter.all false
set_option maxRecDepth 100000
/-! TLi: what becomes of the frame's invariant; the readings of expressions. -/
namespace TL
open PySem L2

section
variable {G : Gx} {F : Fr} {τ τ' : Tau} {σ σ' : L2.St} {H H' : Hp}
/-- no in-out parameter stands there -/
def NotQ (x : Option (Option SV)) : Prop := ∀ d, x ≠ some (some (.q d))
def Free (x : Option (Option SV)) : Prop := ∀ d, x ≠ some (some (.p d)) ∧ x ≠ some (some (.q d))
/-- other slots: as they were, or plain -/
structure Resl (G : Gx) (F : Fr) (τ : Tau) (σ : L2.St) (τ' : Tau) (σ' : L2.St) (H : Hp) : Prop where
  lt : τ'.length = τ.length
  ls : σ'.length = σ.length
  at_ : ∀ i : Nat, (τ'[i]? = τ[i]? ∧ σ'[i]? = σ[i]?) ∨ (NotQ τ[i]? ∧ (∀ d, τ'[i]? = some (some (.r d)) → ∃ v, σ'[i]? = some (some v) ∧ Rp G (msk F.M τ σ H) v d) ∧ Free τ'[i]?)
theorem Resl.own (h : Resl G F τ σ τ' σ' H) {b : Addr} (e : ownB τ' σ' b = true) : ownB τ σ b = true := by
  obtain ⟨i, d, h1, h2⟩ := ownB_get.mp e
  rcases h.at_ i with ⟨a1, a2⟩ | ⟨_, _, f⟩
  · exact ownB_get.mpr ⟨i, d, a1 ▸ h1, a2 ▸ h2⟩
  · exact absurd h1 (f d).1
theorem Resl.same (h : Resl G F τ σ τ' σ' H) (H' : Hp) : Same (msk F.M τ σ H') (msk F.M τ' σ' H') := fun b o e => by
  unfold msk at e ⊢
  split at e
  · cases e
  · rename_i q
    rw [if_neg (fun z => q ?_)]
    · exact e
    · simp only [Bool.or_eq_true] at z ⊢
      exact z.elim .inl fun z => .inr (h.own z)
theorem Resl.fi (h : Resl G F τ σ τ' σ' H) (I : FI G F τ σ H) : FI G F τ' σ' H where
  ok := I.ok
  len := by rw [h.lt, h.ls]; exact I.len
  same := I.same
  dom := I.dom
  r := fun i d e => by
    rcases h.at_ i with ⟨a1, a2⟩ | ⟨_, f, _⟩
    · obtain ⟨v, h1, h2⟩ := I.r i d (a1 ▸ e)
      exact ⟨v, a2 ▸ h1, h2.mono (h.same H)⟩
    · obtain ⟨v, h1, h2⟩ := f d e
      exact ⟨v, h1, h2.mono (h.same H)⟩
  p := fun i d e => by
    rcases h.at_ i with ⟨a1, a2⟩ | ⟨_, _, f⟩
    · obtain ⟨a, h1, h2, h3, h4⟩ := I.p i d (a1 ▸ e)
      exact ⟨a, a2 ▸ h1, h2, h3, h4.grow (h.same H) fun _ q => q⟩
    · exact absurd e (f d).1
  q := fun i d e => by
    rcases h.at_ i with ⟨a1, a2⟩ | ⟨_, _, f⟩
    · obtain ⟨a, h1, h2, h4⟩ := I.q i d (a1 ▸ e)
      exact ⟨a, a2 ▸ h1, h2, h4.grow (h.same H) fun _ q => q⟩
    · exact absurd e (f d).2
  inj := fun i j d e a hij h1 h2 h3 h4 => by
    have old : ∀ (k : Nat) d, (τ'[k]? = some (some (.p d)) ∨ τ'[k]? = some (some (.q d))) → τ'[k]? = τ[k]? ∧ σ'[k]? = σ[k]? := fun k d hk => by
      rcases h.at_ k with a | ⟨_, _, f⟩
      · exact a
      · exact hk.elim (fun z => absurd z (f d).1) fun z => absurd z (f d).2
    obtain ⟨a1, a2⟩ := old i d h1
    obtain ⟨b1, b2⟩ := old j e h2
    exact I.inj i j d e a hij (a1 ▸ h1) (b1 ▸ h2) (a2 ▸ h3) (b2 ▸ h4)

/-- what a slot keeps is given anew -/
def putT (τ : Tau) (i : Nat) (d : PyData) : Option Tau := match τ[i]? with
  | some (some (.p _)) => some (τ.set i (some (.p d)))
  | some (some (.q _)) => some (τ.set i (some (.q d)))
  | _ => none
theorem putS_T {i : Nat} {d : PyData} (h : putS i d τ = some (.ok () τ')) : putT τ i d = some τ' := by
  unfold putS at h
  unfold putT
  split at h <;> first | cases h | skip
  · rename_i q; simp only [q]
  · rename_i q; simp only [q]
theorem lt_of_some {α : Type} {l : List α} {i : Nat} {x : α} (h : l[i]? = some x) : i < l.length := (List.getElem?_eq_some_iff.mp h).1
/-- the object in slot i: its address, and that it is masked -/
theorem FI.obj (I : FI G F τ σ H) {i : Nat} {d : PyData} (h : τ[i]? = some (some (.p d)) ∨ τ[i]? = some (some (.q d))) :
    ∃ a, σ[i]? = some (some (.ref a)) ∧ mb F.M τ σ a = true ∧ Ob G (msk F.M τ σ H) H a d ∧ (∀ o, F.H0 a = some o → F.isQ a) := by
  rcases h with h | h
  · obtain ⟨a, h1, h2, h3, h4⟩ := I.p i d h
    exact ⟨a, h1, by simp [mb, ownB_get.mpr ⟨i, d, h, h1⟩], h4, fun o z => by rw [h3] at z; cases z⟩
  · obtain ⟨a, h1, h2, h4⟩ := I.q i d h
    exact ⟨a, h1, by simp [mb, I.ok.qM a ⟨i, h2⟩], h4, fun _ _ => ⟨i, h2⟩⟩
theorem msk_upd {m : Addr → Bool} {a : Addr} (h : m a = true) (o : HO) : mk m (upd H a o) = mk m H := by
  funext b
  unfold mk upd
  by_cases hb : b = a
  · subst hb; simp [h]
  · simp [hb]
theorem tags_set {i : Nat} {x y : Option SV} (h : τ[i]? = some x) (e : tgOf y = tgOf x) : tags (τ.set i y) = tags τ := by
  refine List.ext_getElem? fun j => ?_
  simp only [tags, List.getElem?_map]
  by_cases hj : i = j
  · subst hj
    rw [List.getElem?_set_self (lt_of_some h), h]
    simp [e]
  · rw [List.getElem?_set_ne hj]
theorem FI.put (I : FI G F τ σ H) {i : Nat} {d d' : PyData} {a : Addr} {o : HO} (h : τ[i]? = some (some (.p d)) ∨ τ[i]? = some (some (.q d))) (ha : σ[i]? = some (some (.ref a))) (hp : putT τ i d' = some τ')
    (ob : Ob G (msk F.M τ σ H) (upd H a o) a d') : Post G F τ τ' σ H (upd H a o) := by
  obtain ⟨a', h1, hm, _, hq⟩ := I.obj h
  rw [ha] at h1; cases h1
  have hi : i < τ.length := by rcases h with h | h <;> exact lt_of_some h
  have tg : tags τ = tags τ' := by
    rcases h with h | h <;> (simp only [putT, h, Option.some.injEq] at hp; subst hp; first | exact (tags_set (y := some (.p d')) h rfl).symm | exact (tags_set (y := some (.q d')) h rfl).symm)
  have hl : τ'.length = τ.length := by
    have := congrArg List.length tg
    simpa [tags] using this.symm
  have other : ∀ j, j ≠ i → τ'[j]? = τ[j]? := fun j hj => by
    rcases h with h | h
    · simp only [putT, h, Option.some.injEq] at hp
      subst hp
      rw [List.getElem?_set_ne (Ne.symm hj)]
    · simp only [putT, h, Option.some.injEq] at hp
      subst hp
      rw [List.getElem?_set_ne (Ne.symm hj)]
  have self : (τ[i]? = some (some (.p d)) ∧ τ'[i]? = some (some (.p d'))) ∨ (τ[i]? = some (some (.q d)) ∧ τ'[i]? = some (some (.q d'))) := by
    rcases h with h | h
    · simp only [putT, h, Option.some.injEq] at hp
      subst hp
      exact .inl ⟨h, List.getElem?_set_self hi⟩
    · simp only [putT, h, Option.some.injEq] at hp
      subst hp
      exact .inr ⟨h, List.getElem?_set_self hi⟩
  have em : msk F.M τ' σ (upd H a o) = msk F.M τ σ H := by
    rw [msk_mk, msk_mk, msk_upd (m := mb F.M τ' σ) (by unfold mb at hm ⊢; rw [← ownB_tags (σ := σ) tg]; exact hm)]
    unfold mb
    rw [ownB_tags (σ := σ) tg]
  have pq : ∀ (j : Nat) e, (τ'[j]? = some (some (.p e)) ∨ τ'[j]? = some (some (.q e))) → ∃ e', τ[j]? = some (some (.p e')) ∨ τ[j]? = some (some (.q e')) := fun j e hj => tags_pq tg.symm ⟨e, hj⟩
  have nea : ∀ (j : Nat) e b, j ≠ i → (τ'[j]? = some (some (.p e)) ∨ τ'[j]? = some (some (.q e))) → σ[j]? = some (some (.ref b)) → b ≠ a := fun j e b hj hs hb z => by
    obtain ⟨e', he'⟩ := pq j e hs
    exact I.inj j i e' d a hj he' h (z ▸ hb) ha
  refine ⟨⟨I.ok, hl.trans I.len, fun b ob' e n => ?_, fun b e => ?_, fun j e hj => ?_, fun j e hj => ?_, fun j e hj => ?_, fun j k e1 e2 b hjk h1 h2 h3 h4 => ?_⟩, tg, by rw [em]; exact Same.refl _⟩
  · have : b ≠ a := fun z => n (z ▸ hq ob' (z ▸ e))
    rw [upd_ne this]; exact I.same b ob' e n
  · by_cases z : b = a
    · subst z; exact ⟨o, upd_same⟩
    · rw [upd_ne z]; exact I.dom b e
  · by_cases z : j = i
    · subst z; rcases self with s | s <;> rw [s.2] at hj <;> cases hj
    · rw [other j z] at hj
      obtain ⟨v, h1, h2⟩ := I.r j e hj
      exact ⟨v, h1, by rw [em]; exact h2⟩
  · by_cases z : j = i
    · subst z
      rcases self with s | s
      · rw [s.2] at hj; cases hj
        obtain ⟨b, h1, h2, h3, h4⟩ := I.p j d s.1
        rw [ha] at h1; cases h1
        exact ⟨a, ha, h2, h3, by rw [em]; exact ob⟩
      · rw [s.2] at hj; cases hj
    · have hj' := hj
      rw [other j z] at hj
      obtain ⟨b, h1, h2, h3, h4⟩ := I.p j e hj
      have := nea j e b z (.inl hj') h1
      exact ⟨b, h1, h2, h3, by rw [em]; exact h4.grow (Same.refl _) fun u q => by rw [upd_ne this]; exact q⟩
  · by_cases z : j = i
    · subst z
      rcases self with s | s
      · rw [s.2] at hj; cases hj
      · rw [s.2] at hj; cases hj
        obtain ⟨b, h1, h2, h4⟩ := I.q j d s.1
        rw [ha] at h1; cases h1
        exact ⟨a, ha, h2, by rw [em]; exact ob⟩
    · have hj' := hj
      rw [other j z] at hj
      obtain ⟨b, h1, h2, h4⟩ := I.q j e hj
      have := nea j e b z (.inr hj') h1
      exact ⟨b, h1, h2, by rw [em]; exact h4.grow (Same.refl _) fun u q => by rw [upd_ne this]; exact q⟩
  · obtain ⟨e1', h1'⟩ := pq j e1 h1
    obtain ⟨e2', h2'⟩ := pq k e2 h2
    exact I.inj j k e1' e2' b hjk h1' h2' h3 h4

/-! ### protecting a new object -/
theorem FI.unprot {a : Addr} (ok : F.Ok) (I : FI G (F.prot a) τ σ H) : FI G F τ σ H where
  ok := ok
  len := I.len
  same := I.same
  dom := fun b e => I.dom b (by simp [Fr.prot, e])
  r := fun i d e => let ⟨v, h1, h2⟩ := I.r i d e; ⟨v, h1, h2.mono (prot_sub F a)⟩
  p := fun i d e => let ⟨b, h1, h2, h3, h4⟩ := I.p i d e; ⟨b, h1, by simp [Fr.prot] at h2; exact h2.1, h3, h4.grow (prot_sub F a) fun _ q => q⟩
  q := fun i d e => let ⟨b, h1, h2, h4⟩ := I.q i d e; ⟨b, h1, h2, h4.grow (prot_sub F a) fun _ q => q⟩
  inj := I.inj
theorem prot_eq {a : Addr} {o : HO} (ha : H a = none) : msk (F.prot a).M τ σ (upd H a o) = msk F.M τ σ H := by
  funext b
  unfold msk upd
  by_cases hb : b = a
  · subst hb; simp [Fr.prot, ha]
  · simp [Fr.prot, hb]
theorem FI.prot {a : Addr} (I : FI G F τ σ H) (ha : H a = none) (o : HO) : FI G (F.prot a) τ σ (upd H a o) := by
  have ne : ∀ b u, H b = some u → b ≠ a := fun b u e => ne_of_none e ha
  exact {
    ok := ⟨fun b q => by simp [Fr.prot, I.ok.qM b q]⟩
    len := I.len
    same := fun b u e n => by rw [upd_ne (ne b u (I.same b u e n))]; exact I.same b u e n
    dom := fun b e => by
      by_cases hb : b = a
      · subst hb; exact ⟨o, upd_same⟩
      · rw [upd_ne hb]; exact I.dom b (by simpa [Fr.prot, hb] using e)
    r := fun i d e => let ⟨v, h1, h2⟩ := I.r i d e; ⟨v, h1, by rw [prot_eq ha]; exact h2⟩
    p := fun i d e => by
      obtain ⟨b, h1, h2, h3, h4⟩ := I.p i d e
      obtain ⟨u, hu⟩ : ∃ u, H b = some u := by cases h4 <;> exact ⟨_, by assumption⟩
      have := ne b u hu
      exact ⟨b, h1, by simp [Fr.prot, h2, this], h3, by rw [prot_eq ha]; exact h4.grow (Same.refl _) fun u q => by rw [upd_ne this]; exact q⟩
    q := fun i d e => by
      obtain ⟨b, h1, h2, h4⟩ := I.q i d e
      obtain ⟨u, hu⟩ : ∃ u, H b = some u := by cases h4 <;> exact ⟨_, by assumption⟩
      have := ne b u hu
      exact ⟨b, h1, h2, by rw [prot_eq ha]; exact h4.grow (Same.refl _) fun u q => by rw [upd_ne this]; exact q⟩
    inj := I.inj }
theorem FI.notM {a : Addr} (I : FI G F τ σ H) (ha : H a = none) : mb F.M τ σ a = false := by
  cases e : mb F.M τ σ a with
  | false => rfl
  | true => obtain ⟨o, q⟩ := I.domM a e; rw [ha] at q; cases q
/-- a new object came -/
theorem FI.newF {H0 : Hp} {a : Addr} {o : HO} {d : PyData} (I : FI G F τ σ H) (h0 : H0 a = none) (ha : H a = none) (ob : Ob G (msk F.M τ σ H) (upd H a o) a d) : Res G F σ H0 τ (upd H a o) (.f d) (.ref a) := by
  have hm := I.notM ha
  simp only [mb, Bool.or_eq_false_iff] at hm
  exact ⟨a, rfl, h0, hm.1, I.prot ha o, by rw [prot_eq ha]; exact ob⟩
theorem Post.new {a : Addr} {o : HO} (p : Post G F τ τ' σ H H') (ha : H' a = none) : Post G F τ τ' σ H (upd H' a o) := p.grow (same_upd ha o)
end
end TL

set_option Elab.async false
set_option linter.all false
set_option maxRecDepth 100000
/-! TLj: the expressions' readings, one after another. -/
namespace TL
open PySem L2

def tA (G : Gx) (Φ : Fns) (es : As) : TA := fun σ H Q => ∃ F τ ds τ', FI G F τ σ H ∧ evA Φ es τ = some (.ok ds τ') ∧
  ∀ vs H', Post G F τ τ' σ H H' → RpA G (msk F.M τ' σ H') vs ds → Q vs H'
def ResA (G : Gx) (F : Fr) (τ : Tau) (σ : L2.St) (H : Hp) : List Rv → List V → Prop := Paired fun rv v => Res G F σ H τ H rv.wk v
def tR (G : Gx) (Φ : Fns) (es : As) : TA := fun σ H Q => ∃ F τ rvs τ', FI G F τ σ H ∧ evC Φ es τ = some (.ok rvs τ') ∧
  ∀ vs H', Post G F τ τ' σ H H' → ResA G F τ' σ H' rvs vs → Q vs H'

section
variable {G : Gx} {Φ : Fns} {σ : L2.St} {H : Hp} {Q : VK} {F : Fr} {τ τ' : Tau} {H' : Hp}
theorem ResA.post {rvs : List Rv} {vs : List V} (h : ResA G F τ σ H rvs vs) (p : Post G F τ τ' σ H H') : ResA G F τ' σ H' rvs vs := Paired.mapP h fun _ _ r => wk_post (H0 := H) (by rename_i rv v; exact r) p
theorem tE_var {i : Nat} (h : tE G Φ (.var i) σ H Q) : tVar i σ H Q := by
  obtain ⟨F, τ, rv, τ', I, e, k⟩ := h
  simp only [ev] at e
  split at e <;> first | cases e | skip
  · rename_i d q
    obtain ⟨v, h1, h2⟩ := I.r _ _ q
    exact ⟨v, h1, k v H (Post.refl I) h2⟩
  · rename_i d q
    obtain ⟨a, h1, _⟩ := I.p _ _ q
    exact ⟨_, h1, k _ H (Post.refl I) ⟨h1, _, .inl q⟩⟩
  · rename_i d q
    obtain ⟨a, h1, _⟩ := I.q _ _ q
    exact ⟨_, h1, k _ H (Post.refl I) ⟨h1, _, .inr q⟩⟩
theorem tE_con {d : PyData} {v : V} (hv : ∀ H, Rp G H v d) (h : tE G Φ (.con d) σ H Q) : tC v σ H Q := by
  obtain ⟨F, τ, rv, τ', I, e, k⟩ := h
  cases e
  exact k v H (Post.refl I) (hv _)
theorem tE_glb {x : Str} {d : PyData} {v : V} (hv : ∀ H, Rp G H v d) (h : tE G Φ (.glb x d) σ H Q) : tC v σ H Q := by
  obtain ⟨F, τ, rv, τ', I, e, k⟩ := h
  cases e
  exact k v H (Post.refl I) (hv _)
theorem intV_inv {rv : Rv} {i : Int} {τ τ' : Tau} (h : intV rv τ = some (.ok i τ')) : rv = .v (.int i) ∧ τ' = τ := by
  cases rv with
  | v d => cases d <;> cases h; exact ⟨rfl, rfl⟩
  | f d => cases h
  | s i => cases h
theorem isB_inv {rv : Rv} {i : Bool} {τ τ' : Tau} (h : isB rv τ = some (.ok i τ')) : rv = .v (.bool i) ∧ τ' = τ := by
  cases rv with
  | v d => cases d <;> cases h; exact ⟨rfl, rfl⟩
  | f d => cases h
  | s i => cases h
theorem Rp.int_inv {Hm : Hp} {v : V} {i : Int} (h : Rp G Hm v (.int i)) : v = .int i := by cases h; rfl
theorem Rp.bool_inv {Hm : Hp} {v : V} {i : Bool} (h : Rp G Hm v (.bool i)) : v = .bl i := by cases h; rfl
theorem tE_neg {a : E} (h : tE G Φ (.neg a) σ H Q) : tUn (rU fun i => .int (-i)) (tE G Φ a) σ H Q := by
  obtain ⟨F, τ, rv, τ', I, e, k⟩ := h
  simp only [ev, ev_bind_iff] at e
  obtain ⟨x, τ1, e1, i, τ2, e2, e3⟩ := e
  obtain ⟨rfl, rfl⟩ := intV_inv e2
  obtain ⟨rfl, rfl⟩ := ev_pure_inv e3
  exact ⟨F, τ, _, _, I, e1, fun v H' p r => ⟨i, Rp.int_inv r, k _ H' p (.int _)⟩⟩
theorem tE_not {a : E} (h : tE G Φ (.not a) σ H Q) : tNotV (tE G Φ a) σ H Q := by
  obtain ⟨F, τ, rv, τ', I, e, k⟩ := h
  simp only [ev, ev_bind_iff] at e
  obtain ⟨x, τ1, e1, i, τ2, e2, e3⟩ := e
  obtain ⟨rfl, rfl⟩ := isB_inv e2
  obtain ⟨rfl, rfl⟩ := ev_pure_inv e3
  exact ⟨F, τ, _, _, I, e1, fun v H' p r => ⟨i, Rp.bool_inv r, k _ H' p (.bl _)⟩⟩
/-- an expression as a test -/
theorem tT_E {e : E} {Q : Bool → Hp → Prop} (h : tT G Φ e σ H Q) : tE G Φ e σ H (fun x H' => ∃ c, x = .bl c ∧ Q c H') := by
  obtain ⟨F, τ, b, τ', I, e, k⟩ := h
  rw [ev_bind_iff] at e
  obtain ⟨x, τ1, e1, e2⟩ := e
  obtain ⟨rfl, rfl⟩ := isB_inv e2
  exact ⟨F, τ, _, _, I, e1, fun v H' p r => ⟨b, Rp.bool_inv r, k H' p⟩⟩
theorem tT_not {a : E} {Q : Bool → Hp → Prop} (h : tT G Φ (.not a) σ H Q) : tNot (tT G Φ a) σ H Q := by
  obtain ⟨F, τ, b, τ', I, e, k⟩ := h
  simp only [ev, ev_bind_iff] at e
  obtain ⟨x, τ1, ⟨y, τ2, e1, i, τ3, e2, e3⟩, e4⟩ := e
  obtain ⟨rfl, rfl⟩ := ev_pure_inv e3
  obtain ⟨z, rfl⟩ := isB_inv e4
  cases z
  exact ⟨F, τ, i, _, I, by rw [ev_bind_iff]; exact ⟨y, τ2, e1, e2⟩, fun H' p => k H' p⟩
theorem tE_and {a b : E} (h : tE G Φ (.and a b) σ H Q) : tAndV (tE G Φ a) (tE G Φ b) σ H Q := by
  obtain ⟨F, τ, rv, τ', I, e, k⟩ := h
  simp only [ev, ev_bind_iff] at e
  obtain ⟨x, τ1, e1, i, τ2, e2, e3⟩ := e
  obtain ⟨rfl, rfl⟩ := isB_inv e2
  refine ⟨F, τ, _, _, I, e1, fun v H' p r => ⟨i, Rp.bool_inv r, ?_⟩⟩
  cases i with
  | false =>
    obtain ⟨rfl, rfl⟩ := ev_pure_inv e3
    exact k _ H' p (.bl _)
  | true =>
    have e3 : (ev Φ b >>= fun y => isB y >>= fun u => (pure (.v (.bool u)) : Ev Rv)) _ = some (.ok rv τ') := e3
    simp only [ev_bind_iff] at e3
    obtain ⟨y, τ3, e4, u, τ4, e5, e6⟩ := e3
    obtain ⟨rfl, rfl⟩ := isB_inv e5
    obtain ⟨rfl, rfl⟩ := ev_pure_inv e6
    exact ⟨F, _, .v (.bool u), _, p.fi, e4, fun v H2 p2 r2 => k v H2 (p.trans p2) r2⟩
theorem tE_or {a b : E} (h : tE G Φ (.or a b) σ H Q) : tOrV (tE G Φ a) (tE G Φ b) σ H Q := by
  obtain ⟨F, τ, rv, τ', I, e, k⟩ := h
  simp only [ev, ev_bind_iff] at e
  obtain ⟨x, τ1, e1, i, τ2, e2, e3⟩ := e
  obtain ⟨rfl, rfl⟩ := isB_inv e2
  refine ⟨F, τ, _, _, I, e1, fun v H' p r => ⟨i, Rp.bool_inv r, ?_⟩⟩
  cases i with
  | true =>
    obtain ⟨rfl, rfl⟩ := ev_pure_inv e3
    exact k _ H' p (.bl _)
  | false =>
    have e3 : (ev Φ b >>= fun y => isB y >>= fun u => (pure (.v (.bool u)) : Ev Rv)) _ = some (.ok rv τ') := e3
    simp only [ev_bind_iff] at e3
    obtain ⟨y, τ3, e4, u, τ4, e5, e6⟩ := e3
    obtain ⟨rfl, rfl⟩ := isB_inv e5
    obtain ⟨rfl, rfl⟩ := ev_pure_inv e6
    exact ⟨F, _, .v (.bool u), _, p.fi, e4, fun v H2 p2 r2 => k v H2 (p.trans p2) r2⟩
theorem tT_and {a b : E} {Q : Bool → Hp → Prop} (h : tT G Φ (.and a b) σ H Q) : tAnd (tT G Φ a) (tT G Φ b) σ H Q := by
  obtain ⟨F, τ, c, τ', I, e, k⟩ := h
  simp only [ev, ev_bind_iff] at e
  obtain ⟨x, τ1, ⟨y, τ2, e1, i, τ3, e2, e3⟩, e4⟩ := e
  refine ⟨F, τ, i, τ3, I, by rw [ev_bind_iff]; exact ⟨y, τ2, e1, e2⟩, fun H' p => ?_⟩
  cases i with
  | false =>
    obtain ⟨rfl, rfl⟩ := ev_pure_inv e3
    obtain ⟨z, rfl⟩ := isB_inv e4
    cases z
    exact k H' p
  | true =>
    have e3 : (ev Φ b >>= fun y => isB y >>= fun u => (pure (.v (.bool u)) : Ev Rv)) _ = some (.ok x _) := e3
    simp only [ev_bind_iff] at e3
    obtain ⟨y', τ5, e5, u, τ6, e6, e7⟩ := e3
    obtain ⟨rfl, rfl⟩ := ev_pure_inv e7
    obtain ⟨z, rfl⟩ := isB_inv e4
    cases z
    exact ⟨F, _, c, _, p.fi, by rw [ev_bind_iff]; exact ⟨y', τ5, e5, e6⟩, fun H2 p2 => k H2 (p.trans p2)⟩
theorem tT_or {a b : E} {Q : Bool → Hp → Prop} (h : tT G Φ (.or a b) σ H Q) : tOr (tT G Φ a) (tT G Φ b) σ H Q := by
  obtain ⟨F, τ, c, τ', I, e, k⟩ := h
  simp only [ev, ev_bind_iff] at e
  obtain ⟨x, τ1, ⟨y, τ2, e1, i, τ3, e2, e3⟩, e4⟩ := e
  refine ⟨F, τ, i, τ3, I, by rw [ev_bind_iff]; exact ⟨y, τ2, e1, e2⟩, fun H' p => ?_⟩
  cases i with
  | true =>
    obtain ⟨rfl, rfl⟩ := ev_pure_inv e3
    obtain ⟨z, rfl⟩ := isB_inv e4
    cases z
    exact k H' p
  | false =>
    have e3 : (ev Φ b >>= fun y => isB y >>= fun u => (pure (.v (.bool u)) : Ev Rv)) _ = some (.ok x _) := e3
    simp only [ev_bind_iff] at e3
    obtain ⟨y', τ5, e5, u, τ6, e6, e7⟩ := e3
    obtain ⟨rfl, rfl⟩ := ev_pure_inv e7
    obtain ⟨z, rfl⟩ := isB_inv e4
    cases z
    exact ⟨F, _, c, _, p.fi, by rw [ev_bind_iff]; exact ⟨y', τ5, e5, e6⟩, fun H2 p2 => k H2 (p.trans p2)⟩
theorem Res.post' {H1 : Hp} {rv : Rv} {v : V} (p : Post G F τ τ' σ H H1) {τ2 : Tau} {H2 : Hp} (p2 : Post G F τ' τ2 σ H1 H2) (r : Res G F σ H1 τ2 H2 rv v) : Res G F σ H τ2 H2 rv v := by
  cases rv with
  | v d => exact r
  | s i => exact r
  | f d =>
    obtain ⟨a, h1, h2, h3⟩ := r
    exact ⟨a, h1, p.dom h2, h3⟩
end
end TL

set_option Elab.async false
set_option linter.all false
set_option maxRecDepth 100000
/-! TLk: more readings: chains, displays, slices, pops, arguments. -/
namespace TL
open PySem L2 StX
section
variable {G : Gx} {Φ : Fns} {σ : L2.St} {H : Hp} {Q : VK} {F : Fr} {τ τ' : Tau} {H' : Hp}
theorem tE_chn {o1 o2 : Op2} {a b c : E} (h : tE G Φ (.chn o1 o2 a b c) σ H Q) : tChain (rD G (sem2 o1)) (rD G (sem2 o2)) (tE G Φ a) (tE G Φ b) (tE G Φ c) σ H Q := by
  obtain ⟨F, τ, rv, τ', I, e, k⟩ := h
  simp only [ev, ev_bind_iff] at e
  obtain ⟨x, τ1, e1, d, τ2, e2, y, τ3, e3, d2, τ4, e4, r, τ5, e5, t, τ6, e6, e7⟩ := e
  refine ⟨F, τ, x, τ1, I, e1, fun v1 H1 P1 R1 => ?_⟩
  obtain ⟨rfl, R1⟩ := R1.vald e2
  refine ⟨F, _, y, τ3, P1.fi, e3, fun v2 H2 P2 R2 => ?_⟩
  obtain ⟨rfl, R2⟩ := R2.vald e4
  obtain ⟨hr, rfl⟩ := ev_lift_inv e5
  obtain ⟨q, rfl⟩ := isB_inv e6
  cases q
  refine ⟨mb F.M _ σ, d, d2, _, P2.fi.domM, .inl (R1.mono P2.sm), .inl R2, hr, fun v H3 s p => ⟨t, Rp.bool_inv p, ?_⟩⟩
  have P3 := P2.grow s
  cases t with
  | false =>
    obtain ⟨rfl, rfl⟩ := ev_pure_inv e7
    exact k _ H3 (P1.trans P3) (.bl _)
  | true =>
    have e7 : (ev Φ c >>= fun z => val z >>= fun f => Ev.lift (sem2 o2 d2 f) >>= fun r => isB (.v r) >>= fun u => (pure (.v (.bool u)) : Ev Rv)) _ = some (.ok rv τ') := e7
    simp only [ev_bind_iff] at e7
    obtain ⟨z, τ7, e8, f, τ8, e9, r2, τ9, e10, u, τ10, e11, e12⟩ := e7
    refine ⟨F, _, z, τ7, P3.fi, e8, fun v4 H4 P4 R4 => ?_⟩
    obtain ⟨rfl, R4⟩ := R4.vald e9
    obtain ⟨hr2, rfl⟩ := ev_lift_inv e10
    obtain ⟨q, rfl⟩ := isB_inv e11
    cases q
    obtain ⟨rfl, rfl⟩ := ev_pure_inv e12
    refine ⟨mb F.M _ σ, d2, f, _, P4.fi.domM, .inl ((R2.mono (mk_same (m := mb F.M _ σ) s)).mono P4.sm), .inl R4, hr2, fun v H5 s5 p => k v H5 ((P1.trans P3).trans (P4.grow s5)) p⟩
theorem tE_ite {c a b : E} (h : tE G Φ (.ite c a b) σ H Q) : tIf (tT G Φ c) (tE G Φ a) (tE G Φ b) σ H Q := by
  obtain ⟨F, τ, rv, τ', I, e, k⟩ := h
  simp only [ev, ev_bind_iff] at e
  obtain ⟨x, τ1, e1, t, τ2, e2, e3⟩ := e
  refine ⟨F, τ, t, τ2, I, by rw [ev_bind_iff]; exact ⟨x, τ1, e1, e2⟩, fun H1 P1 => ?_⟩
  cases t with
  | false => exact ⟨F, _, rv, _, P1.fi, e3, fun v H2 P2 r => k v H2 (P1.trans P2) (Res.post' P1 P2 r)⟩
  | true => exact ⟨F, _, rv, _, P1.fi, e3, fun v H2 P2 r => k v H2 (P1.trans P2) (Res.post' P1 P2 r)⟩

theorem tA_nil {Q : List V → Hp → Prop} (h : tA G Φ .nil σ H Q) : tNil σ H Q := by
  obtain ⟨F, τ, ds, τ', I, e, k⟩ := h
  obtain ⟨rfl, rfl⟩ := ev_pure_inv e
  exact k [] H (Post.refl I) .nil
theorem tA_cons {e : E} {r : As} {Q : List V → Hp → Prop} (h : tA G Φ (.cons false e r) σ H Q) : tCons (tE G Φ e) (tA G Φ r) σ H Q := by
  obtain ⟨F, τ, ds, τ', I, e, k⟩ := h
  simp only [evA, ev_bind_iff] at e
  obtain ⟨x, τ1, e1, d, τ2, e2, es, τ3, e3, e4⟩ := e
  have e2 : (val x >>= fun d => (pure [d] : Ev _)) τ1 = some (.ok d τ2) := e2
  rw [ev_bind_iff] at e2
  obtain ⟨d', τ4, e5, e6⟩ := e2
  obtain ⟨rfl, rfl⟩ := ev_pure_inv e6
  obtain ⟨rfl, rfl⟩ := ev_pure_inv e4
  refine ⟨F, τ, x, τ1, I, e1, fun v1 H1 P1 R1 => ?_⟩
  obtain ⟨rfl, R1⟩ := R1.vald e5
  exact ⟨F, _, es, _, P1.fi, e3, fun vs H2 P2 R2 => k _ H2 (P1.trans P2) (.cons (R1.mono P2.sm) R2)⟩
theorem tA_star {e : E} {r : As} {Q : List V → Hp → Prop} (h : tA G Φ (.cons true e r) σ H Q) : tStar G.K (tE G Φ e) (tA G Φ r) σ H Q := by
  obtain ⟨F, τ, ds, τ', I, e, k⟩ := h
  simp only [evA, ev_bind_iff] at e
  obtain ⟨x, τ1, e1, d, τ2, e2, es, τ3, e3, e4⟩ := e
  have e2 : (deref x >>= fun d => seqV d) τ1 = some (.ok d τ2) := e2
  rw [ev_bind_iff] at e2
  obtain ⟨d', τ4, e5, e6⟩ := e2
  obtain ⟨hs, rfl⟩ := ev_lift_inv e6
  obtain ⟨rfl, rfl⟩ := ev_pure_inv e4
  refine ⟨F, τ, x, τ1, I, e1, fun v1 H1 P1 R1 => ?_⟩
  obtain ⟨rfl, o⟩ := R1.opd P1.fi e5
  obtain ⟨p, xs, h1, h2, h3⟩ := o.seq (mk_sub _ H1) hs
  exact ⟨p, xs, h1, h2.symm, F, _, es, _, P1.fi, e3, fun vs H2 P2 R2 => k _ H2 (P1.trans P2) ((h3.mono P2.sm).append R2)⟩
theorem tR_nil {Q : List V → Hp → Prop} (h : tR G Φ .nil σ H Q) : tNil σ H Q := by
  obtain ⟨F, τ, ds, τ', I, e, k⟩ := h
  obtain ⟨rfl, rfl⟩ := ev_pure_inv e
  exact k [] H (Post.refl I) .nil
theorem tR_cons {st : Bool} {e : E} {r : As} {Q : List V → Hp → Prop} (h : tR G Φ (.cons st e r) σ H Q) : tCons (tE G Φ e) (tR G Φ r) σ H Q := by
  obtain ⟨F, τ, ds, τ', I, e, k⟩ := h
  simp only [evC, ev_bind_iff] at e
  obtain ⟨x, τ1, e1, es, τ3, e3, e4⟩ := e
  obtain ⟨rfl, rfl⟩ := ev_pure_inv e4
  exact ⟨F, τ, x, τ1, I, e1, fun v1 H1 P1 R1 => ⟨F, _, es, _, P1.fi, e3, fun vs H2 P2 R2 => k _ H2 (P1.trans P2) (.cons (R1.post P2) R2)⟩⟩

theorem tE_tup {es : As} (h : tE G Φ (.tup es) σ H Q) : tTup (tA G Φ es) σ H Q := by
  obtain ⟨F, τ, rv, τ', I, e, k⟩ := h
  simp only [ev, ev_bind_iff] at e
  obtain ⟨ds, τ1, e1, e2⟩ := e
  unfold Ev.when at e2
  split at e2
  · rename_i hf
    obtain ⟨rfl, rfl⟩ := ev_pure_inv e2
    refine ⟨F, τ, ds, _, I, e1, fun vs H1 P1 R1 => ⟨by rw [R1.length]; exact few_le hf, fun p hp => k _ _ (P1.new hp) (mk_tup P1.fi.domM hp R1)⟩⟩
  · cases e2
theorem tE_lst {es : As} (h : tE G Φ (.lst es) σ H Q) : tLst (tA G Φ es) σ H Q := by
  obtain ⟨F, τ, rv, τ', I, e, k⟩ := h
  simp only [ev, ev_bind_iff] at e
  obtain ⟨ds, τ1, e1, e2⟩ := e
  unfold Ev.when at e2
  split at e2
  · rename_i hf
    obtain ⟨rfl, rfl⟩ := ev_pure_inv e2
    refine ⟨F, τ, ds, _, I, e1, fun vs H1 P1 R1 => ⟨by rw [R1.length]; exact few_le hf, fun p hp => k _ _ (P1.new hp) (P1.fi.newF (P1.dom hp) hp (.lst upd_same R1))⟩⟩
  · cases e2

/-! ### slices -/
theorem RpA.cut {Hm : Hp} {xs : List V} {ds : List PyData} (r : RpA G Hm xs ds) (lo hi : Option Int) : RpA G Hm (cutV xs lo hi) (cutD ds lo hi) := by
  unfold cutV cutD
  rw [r.length]
  exact (r.drop _).take _
def rSlD (G : Gx) : V → Option Int → Option Int → Hp → VK → Prop := fun x lo hi H Q => ∃ m d r, Dom m H ∧ Opd G (mk m H) H x d ∧ semSl d lo hi = some r ∧ ∀ v H', Same H H' → Rp G (mk m H') v r → Q v H'
theorem sl_D {X : Cx} : SlR X (rSlD (gx X)) := by
  intro pins s σ H x v vl vu lo hi sl Q I rx hs pl pu h
  obtain ⟨m, d, r, dm, o, hr, k⟩ := h
  cases d with
  | list ds =>
    cases hr
    obtain ⟨a, xs, rfl, h1, h2⟩ := o.list (mk_sub m H)
    exact sl_list pins s σ H _ v vl vu lo hi sl Q I rx hs pl pu ⟨a, xs, rfl, h1, fun p hp => k _ _ (same_upd hp _) (mk_lst dm hp (h2.cut lo hi))⟩
  | tuple ds =>
    cases hr
    obtain ⟨a, xs, rfl, h1, h2⟩ := o.tuple
    refine sl_tupA pins s σ H _ v vl vu lo hi sl Q I rx hs pl pu ⟨a, xs, rfl, sqT_same (mk_sub m H) h1, fun hw => k _ H (Same.refl _) ?_, fun hw p hp => k _ _ (same_upd hp _) (mk_tup dm hp (h2.cut lo hi))⟩
    have e : cutD ds lo hi = ds := by
      unfold cutD
      rw [← h2.length, hw.1, hw.2]
      simp [h2.length]
    rw [e]
    exact .tup h1 h2
  | _ => cases hr
/-- a part of a slice -/
def tO (G : Gx) (Φ : Fns) (b : Bool) (e : E) : TO := fun σ H Q => ∃ F τ o τ', FI G F τ σ H ∧ condE b (someE (ev Φ e)) (pure none) τ = some (.ok o τ') ∧ ∀ H', Post G F τ τ' σ H H' → Q o H'
theorem tO_none {e : E} {Q : Option Int → Hp → Prop} (h : tO G Φ false e σ H Q) : tNoPart σ H Q := by
  obtain ⟨F, τ, o, τ', I, e, k⟩ := h
  obtain ⟨rfl, rfl⟩ := ev_pure_inv (show (pure none : Ev (Option Int)) τ = _ from e)
  exact k H (Post.refl I)
theorem tO_some {e : E} {Q : Option Int → Hp → Prop} (h : tO G Φ true e σ H Q) : tPart (tE G Φ e) σ H Q := by
  obtain ⟨F, τ, o, τ', I, e, k⟩ := h
  have e : someE (ev Φ _) τ = some (.ok o τ') := e
  simp only [someE, ev_bind_iff] at e
  obtain ⟨x, τ1, e1, i, τ2, e2, e3⟩ := e
  obtain ⟨rfl, rfl⟩ := intV_inv e2
  obtain ⟨rfl, rfl⟩ := ev_pure_inv e3
  exact ⟨F, τ, _, _, I, e1, fun v H' p r => ⟨i, Rp.int_inv r, k H' p⟩⟩
theorem tE_slc {a lo hi : E} {hl hh : Bool} (h : tE G Φ (.slc a hl lo hh hi) σ H Q) : tSl (rSlD G) (tE G Φ a) (tO G Φ hl lo) (tO G Φ hh hi) σ H Q := by
  obtain ⟨F, τ, rv, τ', I, e, k⟩ := h
  simp only [ev, ev_bind_iff] at e
  obtain ⟨x, τ1, e1, l, τ2, e2, u, τ3, e3, d, τ4, e4, r, τ5, e5, e6⟩ := e
  refine ⟨F, τ, x, τ1, I, e1, fun v1 H1 P1 R1 => ⟨F, _, l, τ2, P1.fi, e2, fun H2 P2 => ⟨F, _, u, τ3, P2.fi, e3, fun H3 P3 => ?_⟩⟩⟩
  obtain ⟨rfl, o⟩ := (R1.post (H1 := H3) (P2.trans P3)).opd P3.fi ((congrFun (deref_wk x) τ3).trans e4)
  obtain ⟨hr, rfl⟩ := ev_lift_inv e5
  obtain ⟨rfl, rfl⟩ := ev_pure_inv e6
  exact ⟨mb F.M _ σ, d, r, P3.fi.domM, o, hr, fun v H4 s p => k v H4 ((P1.trans (P2.trans P3)).grow s) p⟩

/-! ### pops -/
def tS_ (G : Gx) (Φ : Fns) (i : Nat) : TE := tE G Φ (.var i)
theorem RpA.dropLast {Hm : Hp} {xs : List V} {ds : List PyData} (r : RpA G Hm xs ds) : RpA G Hm xs.dropLast ds.dropLast := by
  rw [List.dropLast_eq_take, List.dropLast_eq_take, r.length]
  exact r.take _
/-- the list in slot i -/
theorem FI.lstObj (I : FI G F τ σ H) {i : Nat} {ds : List PyData} {τ2 : Tau} (h : deref (.s i) τ = some (.ok (.list ds) τ2)) : τ2 = τ ∧ ∃ a xs, σ[i]? = some (some (.ref a)) ∧ H a = some (.lst xs) ∧ RpA G (msk F.M τ σ H) xs ds ∧
    (τ[i]? = some (some (.p (.list ds))) ∨ τ[i]? = some (some (.q (.list ds)))) := by
  have e : (match τ[i]? with | some (some (.p d)) => some (R.ok d τ) | some (some (.q d)) => some (R.ok d τ) | _ => none) = some (.ok (.list ds) τ2) := h
  split at e <;> first | cases e | skip
  · rename_i q
    obtain ⟨a, h1, _, h3, _⟩ := I.obj (.inl q)
    cases h3 with
    | lst h4 h5 => exact ⟨rfl, a, _, h1, h4, h5, .inl q⟩
  · rename_i q
    obtain ⟨a, h1, _, h3, _⟩ := I.obj (.inr q)
    cases h3 with
    | lst h4 h5 => exact ⟨rfl, a, _, h1, h4, h5, .inr q⟩
theorem tyV_lst {K : PySem.W.Frag} {a : Addr} {xs : List V} (h : H a = some (.lst xs)) : tyV K "list" (.ref a) H := .inl ⟨rfl, xs, .inl (.inl h)⟩
theorem tE_pop {i : Nat} (h : tE G Φ (.pop i) σ H Q) : tBM0 G.K "list" rPop (tE G Φ (.var i)) σ H Q := by
  obtain ⟨F, τ, rv, τ', I, e, k⟩ := h
  simp only [ev, ev_bind_iff] at e
  obtain ⟨d, τ1, e1, e2⟩ := e
  unfold popE at e2
  split at e2
  · rename_i ds
    obtain ⟨rfl, a, xs, h1, h2, h3, h4⟩ := I.lstObj e1
    cases hy : ds.getLast? with
    | none => rw [hy] at e2; cases e2
    | some y =>
      rw [hy] at e2
      simp only [ev_bind_iff] at e2
      obtain ⟨_, τ2, e3, e4⟩ := e2
      obtain ⟨rfl, rfl⟩ := ev_pure_inv e4
      have hv : ev Φ (.var i) τ1 = some (.ok (.s i) τ1) := by
        simp only [ev]
        rcases h4 with h4 | h4 <;> rw [h4]
      refine ⟨F, τ1, .s i, τ1, I, hv, fun v H1 P1 R1 => ?_⟩
      obtain ⟨r1, _⟩ := R1
      rw [h1] at r1; cases r1
      obtain ⟨_, a', xs', h1', h2', h3', h4'⟩ := P1.fi.lstObj e1
      rw [h1] at h1'; cases h1'
      rw [List.getLast?_eq_getElem?, ← h3'.length] at hy
      obtain ⟨u, hu, ru⟩ := h3'.get hy
      refine ⟨tyV_lst h2', a, xs', u, rfl, rfl, h2', hu, ?_⟩
      have P := P1.fi.put h4' h1 (putS_T e3) (.lst upd_same h3'.dropLast)
      exact k _ _ (P1.trans P) (ru.mono P.sm)
  · cases e2
end
end TL


set_option Elab.async false
set_option linter.all false
set_option maxRecDepth 100000
/-! TLl: what is walked. -/
namespace TL
open PySem L2 StX RZ
/-- J gives the items ds, as long as what stood unmasked stays -/
structure WalkD (G : Gx) (m : Addr → Bool) (H : Hp) (ds : List PyData) (J : It) : Prop where
  len : ds.length ≤ sizeLine
  goes : ∀ i m' H', i < ds.length → Same (mk m H) (mk m' H') → J.go i H'
  stops : ∀ m' H', Same (mk m H) (mk m' H') → J.stop ds.length H'
  yields : ∀ i m' H' x H'', i < ds.length → Same (mk m H) (mk m' H') → Dom m' H' → J.yld i H' x H'' → (H'' = H' ∨ ∃ T o, H' T = none ∧ H'' = upd H' T o) ∧ ∃ d, ds[i]? = some d ∧ Rp G (mk m' H'') x d
def tI (G : Gx) (Φ : Fns) (it : I) : TI := fun σ H R => ∃ F τ ds τ', FI G F τ σ H ∧ evI Φ it τ = some (.ok ds τ') ∧
  ∀ J H', Post G F τ τ' σ H H' → WalkD G (mb F.M τ' σ) H' ds J → R J H'
theorem PI.or {X : Cx} {tg it : Expr} {w w' : TI} (h : PI X tg it w) (h' : PI X tg it w') : PI X tg it (fun σ H R => w σ H R ∨ w' σ H R) :=
  ⟨fun pins s σ H R I q => q.elim (h.run pins s σ H R I) (h'.run pins s σ H R I)⟩
theorem PI.imp {X : Cx} {tg it : Expr} {w w' : TI} (h : PI X tg it w) (i : ∀ σ H R, w' σ H R → w σ H R) : PI X tg it w' := ⟨fun pins s σ H R I q => h.run pins s σ H R I (i σ H R q)⟩
def Sized (K : PySem.W.Frag) (H : Hp) (v : V) : Prop := ∀ a xs, v = .ref a → (SqL K H a xs ∨ SqT K H a xs) → xs.length ≤ sizeLine
/-- what is read is of a list's size -/
theorem PE.sized {X : Cx} {e : Expr} {t : TE} (h : PE X e t) : PE X e (fun σ H Q => t σ H fun x H1 => Sized X.K H1 x → Q x H1) :=
  ⟨fun pins s σ H Q I q => thn (h.run pins s σ H _ I q) fun v s1 ⟨x, H1, I1, r, q1⟩ => ⟨x, H1, I1, r, q1 fun a xs e z => by
    rcases z with z | z
    · obtain ⟨_, _, _, h⟩ := I1.list z; exact h
    · obtain ⟨_, _, _, h⟩ := I1.tuple z; exact h⟩⟩
section
variable {G : Gx} {m : Addr → Bool} {H : Hp} {a b : Addr} {xs ys : List V} {ds es : List PyData}
theorem sub2 {m' : Addr → Bool} {H' : Hp} (e : Same (mk m H) (mk m' H')) : Same (mk m H) H' := e.trans (mk_sub m' H')
theorem wd_list (h0 : xs.length ≤ sizeLine) (h1 : SqL G.K (mk m H) a xs) (h2 : RpA G (mk m H) xs ds) : WalkD G m H ds (Itl G.K a) where
  len := by rw [← h2.length]; exact h0
  goes := fun i m' H' hi e => by
    have hx : i < xs.length := by rw [h2.length]; exact hi
    exact ⟨xs, xs[i], sqL_same (sub2 e) h1, by simp [hx]⟩
  stops := fun m' H' e => ⟨xs, sqL_same (sub2 e) h1, by rw [h2.length]; exact Nat.le_refl _⟩
  yields := fun i m' H' x H'' hi e dm y => by
    obtain ⟨d, h3, h4⟩ := h2.get' (y.2 xs (sqL_same (sub2 e) h1))
    exact ⟨.inl y.1, d, h3, by rw [y.1]; exact h4.mono e⟩
theorem wd_tup (h0 : xs.length ≤ sizeLine) (h1 : SqT G.K (mk m H) a xs) (h2 : RpA G (mk m H) xs ds) : WalkD G m H ds (Itt G.K a) where
  len := by rw [← h2.length]; exact h0
  goes := fun i m' H' hi e => by
    have hx : i < xs.length := by rw [h2.length]; exact hi
    exact ⟨xs, xs[i], sqT_same (sub2 e) h1, by simp [hx]⟩
  stops := fun m' H' e => ⟨xs, sqT_same (sub2 e) h1, by rw [h2.length]; exact Nat.le_refl _⟩
  yields := fun i m' H' x H'' hi e dm y => by
    obtain ⟨d, h3, h4⟩ := h2.get' (y.2 xs (sqT_same (sub2 e) h1))
    exact ⟨.inl y.1, d, h3, by rw [y.1]; exact h4.mono e⟩
theorem wd_rng {lo : Int} {n : Nat} (h0 : n ≤ sizeLine) : WalkD G m H (upI lo n) (Itr lo n) where
  len := by simpa [upI] using h0
  goes := fun i m' H' hi e => show i < n by simpa [upI] using hi
  stops := fun m' H' e => by simp [upI, Itr]
  yields := fun i m' H' x H'' hi e dm y => by
    have hi : i < n := by simpa [upI] using hi
    refine ⟨.inl y.1, .int (lo + i), by simp [upI, hi], ?_⟩
    rw [y.2]; exact .int _
theorem zipW_get {α β γ : Type} {f : α → β → γ} {l : List α} {k : List β} {i : Nat} (hi : i < (l.zipWith f k).length) : ∃ x y, l[i]? = some x ∧ k[i]? = some y ∧ (l.zipWith f k)[i]? = some (f x y) := by
  have h : i < min l.length k.length := by simpa using hi
  refine ⟨l[i]'(by omega), k[i]'(by omega), by simp, by simp, by simp [h]⟩
theorem wd_zipL (h0 : xs.length ≤ sizeLine) (h1 : SqL G.K (mk m H) a xs) (h2 : RpA G (mk m H) xs ds) (h3 : SqL G.K (mk m H) b ys) (h4 : RpA G (mk m H) ys es) : WalkD G m H (ds.zipWith (fun p q => .tuple [p, q]) es) (Itz G.K a b) where
  len := by rw [List.length_zipWith]; have := h2.length; omega
  goes := fun i m' H' hi e => by
    have h : i < min ds.length es.length := by simpa using hi
    have l1 := h2.length
    have l2 := h4.length
    exact ⟨xs, ys, xs[i]'(by omega), ys[i]'(by omega), sqL_same (sub2 e) h1, sqL_same (sub2 e) h3, by simp, by simp⟩
  stops := fun m' H' e => by
    have l1 := h2.length
    have l2 := h4.length
    refine ⟨xs, ys, sqL_same (sub2 e) h1, sqL_same (sub2 e) h3, ?_⟩
    rw [List.length_zipWith]; omega
  yields := fun i m' H' x H'' hi e dm y => by
    obtain ⟨T, u, w, rfl, hT, rfl, y1, y2⟩ := y
    obtain ⟨d, h5, h6⟩ := h2.get' (y1 xs (sqL_same (sub2 e) h1))
    obtain ⟨d', h7, h8⟩ := h4.get' (y2 ys (sqL_same (sub2 e) h3))
    obtain ⟨p, q, e1, e2, e3⟩ := zipW_get (f := fun p q => PyData.tuple [p, q]) hi
    rw [h5] at e1; cases e1
    rw [h7] at e2; cases e2
    exact ⟨.inr ⟨T, _, hT, rfl⟩, _, e3, mk_tup dm hT (.cons (h6.mono e) (.cons (h8.mono e) .nil))⟩
theorem wd_zipT (h0 : xs.length ≤ sizeLine) (h1 : SqT G.K (mk m H) a xs) (h2 : RpA G (mk m H) xs ds) (h3 : SqT G.K (mk m H) b ys) (h4 : RpA G (mk m H) ys es) : WalkD G m H (ds.zipWith (fun p q => .tuple [p, q]) es) (ItzT G.K a b) where
  len := by rw [List.length_zipWith]; have := h2.length; omega
  goes := fun i m' H' hi e => by
    have h : i < min ds.length es.length := by simpa using hi
    have l1 := h2.length
    have l2 := h4.length
    exact ⟨xs, ys, xs[i]'(by omega), ys[i]'(by omega), sqT_same (sub2 e) h1, sqT_same (sub2 e) h3, by simp, by simp⟩
  stops := fun m' H' e => by
    have l1 := h2.length
    have l2 := h4.length
    refine ⟨xs, ys, sqT_same (sub2 e) h1, sqT_same (sub2 e) h3, ?_⟩
    rw [List.length_zipWith]; omega
  yields := fun i m' H' x H'' hi e dm y => by
    obtain ⟨T, u, w, rfl, hT, rfl, y1, y2⟩ := y
    obtain ⟨d, h5, h6⟩ := h2.get' (y1 xs (sqT_same (sub2 e) h1))
    obtain ⟨d', h7, h8⟩ := h4.get' (y2 ys (sqT_same (sub2 e) h3))
    obtain ⟨p, q, e1, e2, e3⟩ := zipW_get (f := fun p q => PyData.tuple [p, q]) hi
    rw [h5] at e1; cases e1
    rw [h7] at e2; cases e2
    exact ⟨.inr ⟨T, _, hT, rfl⟩, _, e3, mk_tup dm hT (.cons (h6.mono e) (.cons (h8.mono e) .nil))⟩
theorem wd_enm (h0 : xs.length ≤ sizeLine) (h1 : SqL G.K (mk m H) a xs) (h2 : RpA G (mk m H) xs ds) : WalkD G m H (ds.zipIdx.map fun p => .tuple [.int p.2, p.1]) (Ite G.K a) where
  len := by simp [← h2.length]; exact h0
  goes := fun i m' H' hi e => by
    have h : i < ds.length := by simpa using hi
    have l1 := h2.length
    exact ⟨xs, xs[i]'(by omega), sqL_same (sub2 e) h1, by simp⟩
  stops := fun m' H' e => ⟨xs, sqL_same (sub2 e) h1, by simp [h2.length]⟩
  yields := fun i m' H' x H'' hi e dm y => by
    obtain ⟨T, u, rfl, hT, rfl, y1⟩ := y
    obtain ⟨d, h5, h6⟩ := h2.get' (y1 xs (sqL_same (sub2 e) h1))
    refine ⟨.inr ⟨T, _, hT, rfl⟩, .tuple [.int i, d], ?_, mk_tup dm hT (.cons (.int _) (.cons (h6.mono e) .nil))⟩
    simp [h5]
end

section
variable {X : Cx} {Φ : Fns} {tg : Expr}
theorem pi_ex {it : Expr} {e : E} (h : PE X it (tE (gx X) Φ e)) : PI X tg it (tI (gx X) Φ (.ex e)) := by
  refine PI.imp (PI.or (pi_list (PE.sized h)) (pi_tup (PE.sized h))) fun σ H R q => ?_
  obtain ⟨F, τ, ds, τ', I, e0, k⟩ := q
  simp only [evI, ev_bind_iff] at e0
  obtain ⟨x, τ1, e1, d, τ2, e2, e3⟩ := e0
  obtain ⟨hs, rfl⟩ := ev_lift_inv e3
  cases d with
  | list es =>
    cases hs
    refine .inl ⟨F, τ, x, τ1, I, e1, fun v H1 P1 R1 sz => ?_⟩
    obtain ⟨rfl, r⟩ := R1.vald e2
    cases r with
    | lst h1 h2 => exact ⟨_, rfl, ⟨_, sqL_same (mk_sub _ _) h1⟩, k _ H1 P1 (wd_list (sz _ _ rfl (.inl (sqL_same (mk_sub _ _) h1))) h1 h2)⟩
  | tuple es =>
    cases hs
    refine .inr ⟨F, τ, x, τ1, I, e1, fun v H1 P1 R1 sz => ?_⟩
    obtain ⟨rfl, r⟩ := R1.vald e2
    cases r with
    | tup h1 h2 => exact ⟨_, rfl, ⟨_, sqT_same (mk_sub _ _) h1⟩, k _ H1 P1 (wd_tup (sz _ _ rfl (.inr (sqT_same (mk_sub _ _) h1))) h1 h2)⟩
  | _ => cases hs
theorem rngI_iff {n : Int} (h : rngI n = true) : -1000000 ≤ n ∧ n ≤ 1000000 := by simpa [rngI] using h
theorem rng_size1 {n : Int} (h : rngI n = true) : n.toNat ≤ sizeLine := by
  have := rngI_iff h
  have e : sizeLine = 16777216 := by decide
  omega
theorem rng_size2 {m n : Int} (h1 : -1000000 ≤ m ∧ m ≤ 1000000) (h2 : -1000000 ≤ n ∧ n ≤ 1000000) : (n - m).toNat ≤ sizeLine := by
  have e : sizeLine = 16777216 := by decide
  omega
theorem Rp.few {G : Gx} {m : Addr → Bool} {H : Hp} {v : V} {d : PyData} {ds : List PyData} (h : Rp G (mk m H) v d) (sz : Sized G.K H v) (e : seqD d = some ds) : ds.length ≤ sizeLine := by
  obtain ⟨a, xs, rfl, h1, h2⟩ := Opd.seq (mk_sub m H) (.inl h) e
  rw [← h2.length]
  exact sz a xs rfl h1
theorem pi_r1 {a : Expr} {e : E} {p pos : Pos} (hg : Gl X "range") (hm : X.mg "range" = none) (ha : PE X a (tE (gx X) Φ e)) (hs : starEach [a] X.env = [(false, eval a X.env)]) :
    PI X tg (.Call (.Name "range" p) [a] [] pos) (tI (gx X) Φ (.rng1 e)) := by
  refine PI.imp (pi_range1 hg hm (pa_cons ha pa_nil hs) hs) fun σ H R q => ?_
  obtain ⟨F, τ, ds, τ', I, e0, k⟩ := q
  simp only [evI, ev_bind_iff] at e0
  obtain ⟨x, τ1, e1, n, τ2, e2, e3⟩ := e0
  obtain ⟨rfl, rfl⟩ := intV_inv e2
  unfold Ev.when at e3
  split at e3
  · rename_i hn
    obtain ⟨rfl, rfl⟩ := ev_pure_inv e3
    have := rngI_iff hn
    refine ⟨F, τ, _, _, I, e1, fun v H1 P1 R1 => ⟨n, by rw [Rp.int_inv R1], by omega, by omega, k _ H1 P1 (wd_rng (rng_size1 hn))⟩⟩
  · cases e3
theorem pi_r2 {a b : Expr} {e f : E} {p pos : Pos} (hg : Gl X "range") (hm : X.mg "range" = none) (ha : PE X a (tE (gx X) Φ e)) (hb : PE X b (tE (gx X) Φ f))
    (hs : starEach [a, b] X.env = [(false, eval a X.env), (false, eval b X.env)]) (hs2 : starEach [b] X.env = [(false, eval b X.env)]) : PI X tg (.Call (.Name "range" p) [a, b] [] pos) (tI (gx X) Φ (.rng2 e f)) := by
  refine PI.imp (pi_range2 hg hm (pa_cons ha (pa_cons hb pa_nil hs2) (by rw [hs, hs2])) hs hs2) fun σ H R q => ?_
  obtain ⟨F, τ, ds, τ', I, e0, k⟩ := q
  simp only [evI, ev_bind_iff] at e0
  obtain ⟨x, τ1, e1, n, τ2, e2, y, τ3, e3, n2, τ4, e4, e5⟩ := e0
  obtain ⟨rfl, rfl⟩ := intV_inv e2
  obtain ⟨rfl, rfl⟩ := intV_inv e4
  unfold Ev.when at e5
  split at e5
  · rename_i hn
    obtain ⟨rfl, rfl⟩ := ev_pure_inv e5
    simp only [Bool.and_eq_true] at hn
    have h1 := rngI_iff hn.1
    have h2 := rngI_iff hn.2
    refine ⟨F, τ, _, _, I, e1, fun v H1 P1 R1 => ⟨F, _, _, _, P1.fi, e3, fun u H2 P2 R2 => ⟨n, n2, by rw [Rp.int_inv R1, Rp.int_inv R2], by omega, k _ H2 (P1.trans P2) (wd_rng (rng_size2 h1 h2))⟩⟩⟩
  · cases e5
theorem pi_zp {a b : Expr} {e f : E} {p pos tpos : Pos} {elts : List Expr} {kk : Nat} (hg : Gl X "zip") (hm : X.mg "zip" = none) (ha : PE X a (tE (gx X) Φ e)) (hb : PE X b (tE (gx X) Φ f))
    (hs : starEach [a, b] X.env = [(false, eval a X.env), (false, eval b X.env)]) (hs2 : starEach [b] X.env = [(false, eval b X.env)]) : PI X (.Tuple elts kk tpos) (.Call (.Name "zip" p) [a, b] [] pos) (tI (gx X) Φ (.zip e f)) := by
  refine PI.imp (pi_zipA hg hm (pa_cons (PE.sized ha) (pa_cons hb pa_nil hs2) (by rw [hs, hs2])) (by rw [hs, hs2]) (by rw [hs2]; rfl)) fun σ H R q => ?_
  obtain ⟨F, τ, ds, τ', I, e0, k⟩ := q
  simp only [evI, ev_bind_iff] at e0
  obtain ⟨x, τ1, e1, d, τ2, e2, y, τ3, e3, d2, τ4, e4, pr, τ5, e5, e6⟩ := e0
  obtain ⟨hz, rfl⟩ := ev_lift_inv e5
  obtain ⟨rfl, rfl⟩ := ev_pure_inv e6
  refine ⟨F, τ, x, τ1, I, e1, fun v H1 P1 R1 sz => ?_⟩
  obtain ⟨rfl, R1⟩ := R1.vald e2
  have h0 := fun ds e => Rp.few (ds := ds) R1 sz e
  refine ⟨F, _, y, τ3, P1.fi, e3, fun u H2 P2 R2 => ?_⟩
  obtain ⟨rfl, R2⟩ := R2.vald e4
  have R1 := R1.mono P2.sm
  cases d with
  | list es =>
    cases d2 with
    | list es2 =>
      cases hz
      cases R1 with
      | lst h1 h2 =>
        cases R2 with
        | lst h3 h4 => exact ⟨_, _, _, _, rfl, .inl ⟨sqL_same (mk_sub _ _) h1, sqL_same (mk_sub _ _) h3, k _ H2 (P1.trans P2) (wd_zipL (by rw [h2.length]; exact h0 _ rfl) h1 h2 h3 h4)⟩⟩
    | _ => cases hz
  | tuple es =>
    cases d2 with
    | tuple es2 =>
      cases hz
      cases R1 with
      | tup h1 h2 =>
        cases R2 with
        | tup h3 h4 => exact ⟨_, _, _, _, rfl, .inr ⟨sqT_same (mk_sub _ _) h1, sqT_same (mk_sub _ _) h3, k _ H2 (P1.trans P2) (wd_zipT (by rw [h2.length]; exact h0 _ rfl) h1 h2 h3 h4)⟩⟩
    | _ => cases hz
  | _ => cases hz
theorem pi_en {a : Expr} {e : E} {p pos tpos : Pos} {elts : List Expr} {kk : Nat} (hg : Gl X "enumerate") (hm : X.mg "enumerate" = none) (ha : PE X a (tE (gx X) Φ e))
    (hs : starEach [a] X.env = [(false, eval a X.env)]) : PI X (.Tuple elts kk tpos) (.Call (.Name "enumerate" p) [a] [] pos) (tI (gx X) Φ (.enm e)) := by
  refine PI.imp (pi_enum hg hm (pa_cons (PE.sized ha) pa_nil hs) hs) fun σ H R q => ?_
  obtain ⟨F, τ, ds, τ', I, e0, k⟩ := q
  simp only [evI, ev_bind_iff] at e0
  obtain ⟨x, τ1, e1, d, τ2, e2, es, τ3, e3, e4⟩ := e0
  obtain ⟨hz, rfl⟩ := ev_lift_inv e3
  obtain ⟨rfl, rfl⟩ := ev_pure_inv e4
  refine ⟨F, τ, x, τ1, I, e1, fun v H1 P1 R1 sz => ?_⟩
  obtain ⟨rfl, R1⟩ := R1.vald e2
  cases d with
  | list es2 =>
    cases hz
    cases R1 with
    | lst h1 h2 => exact ⟨_, _, rfl, sqL_same (mk_sub _ _) h1, k _ H1 P1 (wd_enm (sz _ _ rfl (.inl (sqL_same (mk_sub _ _) h1))) h1 h2)⟩
  | _ => cases hz
end
end TL

set_option Elab.async false
set_option linter.all false
set_option maxRecDepth 100000
/-! TLm: a comprehension's block. -/
namespace TL
open PySem L2 StX RZ

/-! ### targets -/
def T.ixs : T → List Nat
  | .nm i => [i]
  | .tp is => is
def gNm : List Nat → TGs
  | [] => gNil
  | i :: is => gCons (gName i) (gNm is)
def gT (K : PySem.W.Frag) : T → TG
  | .nm i => gName i
  | .tp is => gTup K is.length (gNm is)
def setSt : List Nat → List V → L2.St → L2.St
  | i :: is, v :: vs, σ => setSt is vs (σ.set i (some v))
  | _, _, σ => σ
theorem gNm_of : ∀ {is : List Nat} {vs : List V} {σ : L2.St} {H : Hp} {Q : L2.St → Hp → Prop}, vs.length = is.length → Q (setSt is vs σ) H → gNm is vs σ H Q
  | [], [], _, _, _, _, h => ⟨rfl, h⟩
  | [], _ :: _, _, _, _, e, _ => by simp at e
  | _ :: _, [], _, _, _, e, _ => by simp at e
  | i :: is, v :: vs, σ, H, Q, e, h => ⟨v, vs, rfl, gNm_of (is := is) (vs := vs) (σ := σ.set i (some v)) (by simpa using e) h⟩
section
variable {G : Gx} {F : Fr} {τ τ' τ1 : Tau} {σ σ' : L2.St} {H H' : Hp}
theorem setAll_get {Hm : Hp} : ∀ {is : List Nat} {vs : List V} {ds : List PyData} {τ : Tau} {σ : L2.St}, RpA G Hm vs ds → τ.length = σ.length → (setAllT is ds τ).length = τ.length ∧ (setSt is vs σ).length = σ.length ∧
    ∀ i : Nat, ((setAllT is ds τ)[i]? = τ[i]? ∧ (setSt is vs σ)[i]? = σ[i]?) ∨ (i ∈ is ∧ ∃ d v, (setAllT is ds τ)[i]? = some (some (.r d)) ∧ (setSt is vs σ)[i]? = some (some v) ∧ Rp G Hm v d)
  | [], _, _, _, _, _, _ => ⟨rfl, rfl, fun _ => .inl ⟨rfl, rfl⟩⟩
  | _ :: _, [], _, _, _, .nil, _ => ⟨rfl, rfl, fun _ => .inl ⟨rfl, rfl⟩⟩
  | i :: is, v :: vs, d :: ds, τ, σ, .cons r rr, hl => by
    obtain ⟨h1, h2, h3⟩ := setAll_get (is := is) (τ := τ.set i (some (.r d))) (σ := σ.set i (some v)) rr (by simpa using hl)
    refine ⟨by simpa [setAllT] using h1, by simpa [setSt] using h2, fun j => ?_⟩
    rcases h3 j with ⟨a, b⟩ | ⟨hj, d', v', a, b, c⟩
    · by_cases hj : i = j
      · subst hj
        by_cases hlt : i < τ.length
        · rw [List.getElem?_set_self hlt] at a
          rw [List.getElem?_set_self (by omega)] at b
          exact .inr ⟨List.mem_cons_self, d, v, a, b, r⟩
        · rw [List.set_eq_of_length_le (by omega)] at a b
          exact .inl ⟨by simp only [setAllT]; rw [List.set_eq_of_length_le (by omega)] at *; exact a, by simp only [setSt]; rw [List.set_eq_of_length_le (by omega)] at *; exact b⟩
      · rw [List.getElem?_set_ne hj] at a b
        exact .inl ⟨a, b⟩
    · exact .inr ⟨List.mem_cons_of_mem _ hj, d', v', a, b, c⟩
/-- a target is given a value -/
theorem gT_of {tg : T} {d : PyData} {v : V} {Q : L2.St → Hp → Prop} (I : FI G F τ σ H) (hb : bindT tg d τ = some τ1) (hr : Rp G (msk F.M τ σ H) v d) (hn : ∀ i ∈ tg.ixs, NotQ τ[i]?)
    (k : ∀ σ1, Resl G F τ σ τ1 σ1 H → (∀ i, i ∉ tg.ixs → σ1[i]? = σ[i]? ∧ τ1[i]? = τ[i]?) → (∀ i ∈ tg.ixs, Free τ[i]? → Free τ1[i]?) → Q σ1 H) : gT G.K tg v σ H Q := by
  have fin : ∀ (is : List Nat) (vs : List V) (ds : List PyData), RpA G (msk F.M τ σ H) vs ds → tg.ixs = is → τ1 = setAllT is ds τ → Q (setSt is vs σ) H := fun is vs ds rr hi e => by
    obtain ⟨h1, h2, h3⟩ := setAll_get (is := is) rr I.len
    subst e
    refine k _ ⟨h1, h2, fun i => ?_⟩ (fun i hni => ?_) fun i hi2 hf => ?_
    · rcases h3 i with a | ⟨hm, d', v', a, b, c⟩
      · exact .inl a
      · refine .inr ⟨hn i (hi ▸ hm), fun d2 e2 => ?_, fun d2 => ?_⟩
        · rw [a] at e2; cases e2
          exact ⟨v', b, c⟩
        · rw [a]; exact ⟨by simp, by simp⟩
    · rcases h3 i with a | ⟨hm, _⟩
      · exact ⟨a.2, a.1⟩
      · exact absurd (hi ▸ hm) hni
    · rcases h3 i with a | ⟨hm, d', v', a, b, c⟩
      · rw [a.1]; exact hf
      · intro d2; rw [a]; exact ⟨by simp, by simp⟩
  cases tg with
  | nm i =>
    cases hb
    exact fin [i] [v] [d] (.cons hr .nil) rfl rfl
  | tp is =>
    cases d with
    | tuple ds =>
      simp only [bindT] at hb
      split at hb
      · rename_i hl
        cases hb
        cases hr with
        | tup h1 h2 =>
          refine ⟨_, _, rfl, sqT_same (mk_sub _ _) h1, by rw [h2.length]; exact hl.symm, gNm_of (by rw [h2.length]; exact hl.symm) (fin is _ ds h2 rfl rfl)⟩
      · cases hb
    | _ => cases hb

/-! ### wiping -/
theorem wipe_get (σ : L2.St) (i : Nat) : ∀ vs : List Nat, (wipe σ vs)[i]? = if i ∈ vs ∧ i < σ.length then some none else σ[i]?
  | [] => by simp [wipe]
  | v :: vs => by
    unfold wipe
    by_cases hi : v = i
    · subst hi
      by_cases hv : v < σ.length
      · rw [List.getElem?_set_self (by rw [wipe_length]; exact hv)]; simp [hv]
      · rw [List.getElem?_eq_none (by rw [List.length_set, wipe_length]; omega), if_neg (by omega), List.getElem?_eq_none (by omega)]
    · rw [List.getElem?_set_ne hi, wipe_get σ i vs]
      simp [Ne.symm hi]
theorem wipeT_get (i : Nat) : ∀ (vs : List Nat) (τ : Tau), (wipeT τ vs)[i]? = if i ∈ vs ∧ i < τ.length then some none else τ[i]?
  | [], τ => by simp [wipeT]
  | v :: vs, τ => by
    unfold wipeT
    rw [wipeT_get i vs (τ.set v none), List.length_set]
    by_cases hi : v = i
    · subst hi
      by_cases hv : v < τ.length
      · rw [List.getElem?_set_self hv]; simp [hv]
      · rw [List.getElem?_eq_none (by rw [List.length_set]; omega), List.getElem?_eq_none (by omega)]; simp [hv]
    · rw [List.getElem?_set_ne hi]
      simp [Ne.symm hi]
theorem wipeT_length (vs : List Nat) : ∀ τ : Tau, (wipeT τ vs).length = τ.length := by
  induction vs with
  | nil => intro τ; rfl
  | cons v vs ih => intro τ; unfold wipeT; rw [ih, List.length_set]
theorem mergeT_get {own : List Nat} {i : Nat} (hl : τ'.length = τ.length) : (mergeT own τ τ')[i]? = if i ∈ own then τ[i]? else τ'[i]? := by
  unfold mergeT
  by_cases hi : i < τ.length
  · rw [List.getElem?_map, List.getElem?_range hi]
    by_cases ho : i ∈ own
    · simp [ho, hi]
    · simp [ho, hi, hl]
  · rw [List.getElem?_eq_none (by simpa using hi)]
    split
    · rw [List.getElem?_eq_none (by omega)]
    · rw [List.getElem?_eq_none (by omega)]
theorem freeT_iff {own : List Nat} (h : freeT own τ = true) {i : Nat} (hi : i ∈ own) : Free τ[i]? := by
  unfold freeT at h
  rw [List.all_eq_true] at h
  have := h i hi
  intro d
  refine ⟨fun e => ?_, fun e => ?_⟩ <;> (rw [e] at this; simp at this)
theorem Free.notQ {x : Option (Option SV)} (h : Free x) : NotQ x := fun d => (h d).2
theorem tags_len (h : tags τ = tags τ') : τ.length = τ'.length := by
  have := congrArg List.length h
  simpa [tags] using this
theorem tags_ext (hl : τ.length = τ'.length) (h : ∀ i : Nat, (τ[i]?).map tgOf = (τ'[i]?).map tgOf) : tags τ = tags τ' :=
  List.ext_getElem? fun i => by simpa [tags] using h i
theorem free_tags {i : Nat} (h : tags τ = tags τ') (f : Free τ[i]?) : Free τ'[i]? := by
  have q := tags_get (i := i) h
  intro d
  refine ⟨fun e => ?_, fun e => ?_⟩
  · rw [e] at q
    cases z : τ[i]? with
    | none => rw [z] at q; simp at q
    | some x =>
      rw [z] at q
      rcases x with _ | (_ | x | _) <;> simp [tgOf] at q
      exact (f x).1 z
  · rw [e] at q
    cases z : τ[i]? with
    | none => rw [z] at q; simp at q
    | some x =>
      rw [z] at q
      rcases x with _ | (_ | _ | x) <;> simp [tgOf] at q
      exact (f x).2 z

/-! ### a protected object -/
def Fr.lock (F : Fr) (a : Addr) (o : HO) : Fr := ⟨fun b => F.M b || b == a, upd F.H0 a o, F.Q0⟩
theorem FI.lockOf {a : Addr} {o : HO} (I : FI G (F.prot a) τ σ H) (h : H a = some o) : FI G (F.lock a o) τ σ H where
  ok := ⟨I.ok.qM⟩
  len := I.len
  same := fun b u e n => by
    have e : upd F.H0 a o b = some u := e
    by_cases hb : b = a
    · subst hb; rw [upd_same] at e; cases e; exact h
    · rw [upd_ne hb] at e; exact I.same b u e n
  dom := I.dom
  r := I.r
  p := fun i d e => by
    obtain ⟨b, h1, h2, h3, h4⟩ := I.p i d e
    have hb : b ≠ a := fun z => by subst z; simp [Fr.prot] at h2
    exact ⟨b, h1, h2, by show upd F.H0 a o b = none; rw [upd_ne hb]; exact h3, h4⟩
  q := I.q
  inj := I.inj
theorem FI.unlock {a : Addr} {o : HO} (I : FI G (F.lock a o) τ σ H) (h0 : F.H0 a = none) : FI G (F.prot a) τ σ H where
  ok := ⟨I.ok.qM⟩
  len := I.len
  same := fun b u e n => I.same b u (by show upd F.H0 a o b = some u; rw [upd_ne (ne_of_none e h0)]; exact e) n
  dom := I.dom
  r := I.r
  p := fun i d e => by
    obtain ⟨b, h1, h2, h3, h4⟩ := I.p i d e
    have hb : b ≠ a := fun z => by subst z; simp [Fr.lock] at h2
    exact ⟨b, h1, h2, by rw [← h3]; show F.H0 b = upd F.H0 a o b; rw [upd_ne hb], h4⟩
  q := I.q
  inj := I.inj
theorem prot_upd {a : Addr} {o : HO} : msk (F.prot a).M τ σ (upd H a o) = msk (F.prot a).M τ σ H := by
  rw [msk_mk, msk_mk, msk_upd (by simp [mb, Fr.prot])]
theorem FI.protUpd {a : Addr} {o : HO} (I : FI G (F.prot a) τ σ H) (h0 : F.H0 a = none) (nq : ¬ F.isQ a) : FI G (F.prot a) τ σ (upd H a o) where
  ok := I.ok
  len := I.len
  same := fun b u e n => by rw [upd_ne (ne_of_none e h0)]; exact I.same b u e n
  dom := fun b e => by
    by_cases hb : b = a
    · subst hb; exact ⟨o, upd_same⟩
    · rw [upd_ne hb]; exact I.dom b e
  r := fun i d e => let ⟨v, h1, h2⟩ := I.r i d e; ⟨v, h1, by rw [prot_upd]; exact h2⟩
  p := fun i d e => by
    obtain ⟨b, h1, h2, h3, h4⟩ := I.p i d e
    have hb : b ≠ a := fun z => by subst z; simp [Fr.prot] at h2
    exact ⟨b, h1, h2, h3, by rw [prot_upd]; exact h4.grow (Same.refl _) fun u q => by rw [upd_ne hb]; exact q⟩
  q := fun i d e => by
    obtain ⟨b, h1, h2, h4⟩ := I.q i d e
    have hb : b ≠ a := fun z => nq ⟨i, z ▸ h2⟩
    exact ⟨b, h1, h2, by rw [prot_upd]; exact h4.grow (Same.refl _) fun u q => by rw [upd_ne hb]; exact q⟩
  inj := I.inj
/-- what is new is not known to the frame -/
theorem FI.new0 {a : Addr} (I : FI G F τ σ H) (h : H a = none) : F.H0 a = none ∧ ¬ F.isQ a ∧ F.M a = false := by
  have hm := I.notM h
  simp only [mb, Bool.or_eq_false_iff] at hm
  have nq : ¬ F.isQ a := fun z => by have := I.ok.qM a z; rw [hm.1] at this; cases this
  refine ⟨?_, nq, hm.1⟩
  cases e : F.H0 a with
  | none => rfl
  | some o => have := I.same a o e nq; rw [h] at this; cases this

/-! ### the block -/
structure Blk (G : Gx) (F : Fr) (D : Addr) (own : List Nat) (σ : L2.St) (τ1 : Tau) (H1 : Hp) (τc : Tau) (H' : Hp) : Prop where
  fi : FI G (F.prot D) (wipeT τc own) (wipe σ own) H'
  tg : tags (wipeT τc own) = tags (wipeT τ1 own)
  sm : Same (msk F.M τ1 σ H1) (msk (F.prot D).M (wipeT τc own) (wipe σ own) H')
theorem blk_start {D : Addr} {own : List Nat} {o : HO} (I : FI G F τ1 σ H) (hD : H D = none) (hf : freeT own τ1 = true) : Blk G F D own σ τ1 H τ1 (upd H D o) := by
  have r : Resl G (F.prot D) τ1 σ (wipeT τ1 own) (wipe σ own) (upd H D o) := ⟨wipeT_length _ _, wipe_length _ _, fun i => by
    rw [wipeT_get, wipe_get]
    by_cases hi : i ∈ own ∧ i < σ.length
    · rw [if_pos (by rw [I.len]; exact hi)]
      exact .inr ⟨(freeT_iff hf hi.1).notQ, fun d e => (by cases e), fun d => ⟨by simp, by simp⟩⟩
    · rw [if_neg (by rw [I.len]; exact hi), if_neg hi]
      exact .inl ⟨rfl, rfl⟩⟩
  refine ⟨r.fi (I.prot hD o), rfl, ?_⟩
  rw [← prot_eq (F := F) (τ := τ1) (σ := σ) (o := o) hD]
  exact r.same _
/-- within a turn -/
structure BlkIn (G : Gx) (F : Fr) (D : Addr) (own : List Nat) (σ : L2.St) (τ1 : Tau) (H1 : Hp) (τb : Tau) (σ2 : L2.St) (H' : Hp) : Prop where
  fi : FI G (F.prot D) τb σ2 H'
  wp : wipe σ2 own = wipe σ own
  fr : ∀ i ∈ own, Free τb[i]?
  tg : tags (wipeT τb own) = tags (wipeT τ1 own)
  sm : Same (msk F.M τ1 σ H1) (msk (F.prot D).M τb σ2 H')
theorem tags_wipe {own : List Nat} (h : tags τ = tags τ') : tags (wipeT τ own) = tags (wipeT τ' own) := by
  have hl := tags_len h
  refine tags_ext (by rw [wipeT_length, wipeT_length, hl]) fun i => ?_
  rw [wipeT_get, wipeT_get, hl]
  split
  · rfl
  · exact tags_get h
theorem blk_bind {D : Addr} {own : List Nat} {H1 : Hp} {τc τb : Tau} {tg : T} {d : PyData} {x : V} {Q : L2.St → Hp → Prop} (B : Blk G F D own σ τ1 H1 τc H) (hg : Same H H')
    (hr : Rp G (msk (F.prot D).M (wipeT τc own) (wipe σ own) H') x d) (hb : bindT tg d (wipeT τc own) = some τb) (ht : ∀ i ∈ tg.ixs, i ∈ own)
    (k : ∀ σ2, BlkIn G F D own σ τ1 H1 τb σ2 H' → Same (msk (F.prot D).M (wipeT τc own) (wipe σ own) H) (msk (F.prot D).M τb σ2 H') → Q σ2 H') : gT G.K tg x (wipe σ own) H' Q := by
  have I := B.fi.grow hg
  have wf : ∀ i ∈ own, Free (wipeT τc own)[i]? := fun i hi => by
    rw [wipeT_get]
    by_cases hl : i < τc.length
    · rw [if_pos ⟨hi, hl⟩]; intro d; exact ⟨by simp, by simp⟩
    · rw [if_neg (by omega), List.getElem?_eq_none (by omega)]; intro d; exact ⟨by simp, by simp⟩
  refine gT_of I hb hr (fun i hi => (wf i (ht i hi)).notQ) fun σ2 r hs hf => k σ2 ⟨r.fi I, ?_, fun i hi => ?_, ?_, ?_⟩ ((mk_same (m := mb (F.prot D).M (wipeT τc own) (wipe σ own)) hg).trans (r.same H'))
  · refine List.ext_getElem? fun i => ?_
    rw [wipe_get, wipe_get]
    have hl : σ2.length = σ.length := by rw [r.ls, wipe_length]
    rw [hl]
    by_cases hi : i ∈ own ∧ i < σ.length
    · rw [if_pos hi, if_pos hi]
    · rw [if_neg hi, if_neg hi]
      by_cases ho : i ∈ own
      · have hz : σ.length ≤ i := Nat.le_of_not_lt fun q => hi ⟨ho, q⟩
        rw [List.getElem?_eq_none (by omega), List.getElem?_eq_none (by omega)]
      · rw [(hs i fun z => ho (ht i z)).1, wipe_get, if_neg fun z => ho z.1]
  · by_cases hx : i ∈ tg.ixs
    · exact hf i hx (wf i hi)
    · rw [(hs i hx).2]; exact wf i hi
  · rw [← B.tg]
    refine tags_ext (by rw [wipeT_length, r.lt]) fun i => ?_
    rw [wipeT_get, r.lt, wipeT_length]
    by_cases hi : i ∈ own ∧ i < τc.length
    · rw [if_pos hi, wipeT_get, if_pos hi]
    · rw [if_neg hi]
      by_cases ho : i ∈ own
      · have hz : τc.length ≤ i := Nat.le_of_not_lt fun q => hi ⟨ho, q⟩
        rw [List.getElem?_eq_none (by rw [r.lt, wipeT_length]; exact hz), List.getElem?_eq_none (by rw [wipeT_length]; exact hz)]
      · rw [(hs i fun z => ho (ht i z)).2]
  · exact (B.sm.trans (mk_same (m := mb (F.prot D).M (wipeT τc own) (wipe σ own)) hg)).trans (r.same H')
theorem blk_end {D : Addr} {own : List Nat} {H1 H4 : Hp} {τb τd : Tau} {σ2 : L2.St} {o o' : HO} (B : BlkIn G F D own σ τ1 H1 τb σ2 H) (p : Post G (F.lock D o) τb τd σ2 H H4) (h0 : F.H0 D = none) (nq : ¬ F.isQ D) :
    Blk G F D own σ τ1 H1 τd (upd H4 D o') ∧ ∀ v d, Rp G (msk (F.prot D).M τd σ2 H4) v d → Rp G (msk (F.prot D).M (wipeT τd own) (wipe σ own) (upd H4 D o')) v d := by
  have I4 := p.fi.unlock h0
  have I5 := I4.protUpd (o := o') h0 nq
  have hl2 : σ2.length = σ.length := by rw [← wipe_length σ2 own, B.wp, wipe_length]
  have r : Resl G (F.prot D) τd σ2 (wipeT τd own) (wipe σ own) (upd H4 D o') := ⟨wipeT_length _ _, by rw [wipe_length, hl2], fun i => by
    rw [wipeT_get]
    by_cases hi : i ∈ own ∧ i < τd.length
    · rw [if_pos hi]
      exact .inr ⟨(free_tags p.tg (B.fr i hi.1)).notQ, fun d e => (by cases e), fun d => ⟨by simp, by simp⟩⟩
    · rw [if_neg hi]
      refine .inl ⟨rfl, ?_⟩
      rw [← B.wp, wipe_get, if_neg (by rw [← I5.len]; exact hi)]⟩
  refine ⟨⟨r.fi I5, (tags_wipe p.tg).symm.trans B.tg, ?_⟩, fun v d h => ?_⟩
  · refine (B.sm.trans (p.sm : Same (msk (F.prot D).M τb σ2 H) (msk (F.prot D).M τd σ2 H4))).trans ?_
    exact Same.trans (fun b u q => by rw [congrFun (prot_upd (F := F) (τ := τd) (σ := σ2) (H := H4) (a := D) (o := o')) b]; exact q) (r.same _)
  · rw [← prot_upd (o := o')] at h
    exact h.mono (r.same _)
/-- behind the block -/
theorem blk_done {D : Addr} {own : List Nat} {H0 H1 : Hp} {τ2 : Tau} {d : PyData} (I : FI G F τ1 σ H1) (hD : H1 D = none) (h0 : H0 D = none) (hf : freeT own τ1 = true) (B : Blk G F D own σ τ1 H1 τ2 H)
    (ob : Ob G (msk (F.prot D).M (wipeT τ2 own) (wipe σ own) H) H D d) : Post G F τ1 (mergeT own τ1 τ2) σ H1 H ∧ Res G F σ H0 (mergeT own τ1 τ2) H (.f d) (.ref D) := by
  have hl : τ2.length = τ1.length := by have := tags_len B.tg; rwa [wipeT_length, wipeT_length] at this
  have r : Resl G (F.prot D) (wipeT τ2 own) (wipe σ own) (mergeT own τ1 τ2) σ H := ⟨by rw [wipeT_length]; simp [mergeT, hl], by rw [wipe_length], fun i => by
    rw [mergeT_get hl, wipeT_get, wipe_get]
    by_cases ho : i ∈ own
    · rw [if_pos ho]
      by_cases hi : i < τ2.length
      · rw [if_pos ⟨ho, hi⟩]
        refine .inr ⟨fun d => by simp, fun d e => ?_, freeT_iff hf ho⟩
        obtain ⟨v, h1, h2⟩ := I.r i d e
        exact ⟨v, h1, h2.mono B.sm⟩
      · rw [if_neg (by omega), if_neg (by rw [← I.len]; omega), List.getElem?_eq_none (by omega), List.getElem?_eq_none (by omega)]
        exact .inl ⟨rfl, rfl⟩
    · rw [if_neg ho, if_neg (fun z => ho z.1), if_neg (fun z => ho z.1)]
      exact .inl ⟨rfl, rfl⟩⟩
  have I2 := r.fi B.fi
  refine ⟨⟨I2.unprot I.ok, tags_ext (by simp [mergeT]) fun i => ?_, (B.sm.trans (r.same H)).trans (prot_sub F D)⟩, D, rfl, h0, (I.new0 hD).2.2, I2, ob.grow (r.same H) fun _ q => q⟩
  rw [mergeT_get hl]
  by_cases ho : i ∈ own
  · rw [if_pos ho]
  · rw [if_neg ho]
    have := tags_get (i := i) B.tg
    rw [wipeT_get, wipeT_get, if_neg (fun z => ho z.1), if_neg (fun z => ho z.1)] at this
    exact this.symm
end
end TL

set_option Elab.async false
set_option linter.all false
set_option maxRecDepth 100000
/-! TLn: list comprehensions. -/
namespace TL
open PySem L2 StX RZ
/-- a clause's test -/
def tTs (G : Gx) (Φ : Fns) : Bool → E → TT
  | true, c => tT G Φ c
  | false, _ => tYes
section
variable {G : Gx} {Φ : Fns} {F : Fr} {τ τ' τ1 : Tau} {σ σ' : L2.St} {H H' : Hp} {Q : VK}
theorem tTs_run {hc : Bool} {c : E} {b : Bool} {Q : Bool → Hp → Prop} (I : FI G F τ σ H) (e : condE hc (ev Φ c >>= fun x => isB x) (pure true) τ = some (.ok b τ1)) (k : ∀ H', Post G F τ τ1 σ H H' → Q b H') : tTs G Φ hc c σ H Q := by
  cases hc with
  | false =>
    obtain ⟨rfl, rfl⟩ := ev_pure_inv (show (pure true : Ev Bool) τ = _ from e)
    exact k H (Post.refl I)
  | true => exact ⟨F, τ, b, τ1, I, e, k⟩
/-- a turn's body: what it adds -/
def cBody (Φ : Fns) (hc : Bool) (c elt : E) : Ev (Option PyData) :=
  condE hc (ev Φ c >>= fun x => isB x) (pure true) >>= fun t => condE t (ev Φ elt >>= fun y => val y >>= fun d => pure (some d)) (pure none)
theorem cBody_inv {hc : Bool} {c elt : E} {o : Option PyData} (e : cBody Φ hc c elt τ = some (.ok o τ1)) :
    (∃ τa, condE hc (ev Φ c >>= fun x => isB x) (pure true) τ = some (.ok false τa) ∧ o = none ∧ τ1 = τa) ∨
    ∃ τa y τb d, condE hc (ev Φ c >>= fun x => isB x) (pure true) τ = some (.ok true τa) ∧ ev Φ elt τa = some (.ok y τb) ∧ val y τb = some (.ok d τ1) ∧ o = some d := by
  unfold cBody at e
  rw [ev_bind_iff] at e
  obtain ⟨t, τa, e1, e2⟩ := e
  cases t with
  | false =>
    obtain ⟨rfl, rfl⟩ := ev_pure_inv (show (pure none : Ev (Option PyData)) τa = _ from e2)
    exact .inl ⟨_, e1, rfl, rfl⟩
  | true =>
    have e2 : (ev Φ elt >>= fun y => val y >>= fun d => (pure (some d) : Ev (Option PyData))) τa = some (.ok o τ1) := e2
    simp only [ev_bind_iff] at e2
    obtain ⟨y, τb, e3, d, τc, e4, e5⟩ := e2
    obtain ⟨rfl, rfl⟩ := ev_pure_inv e5
    exact .inr ⟨τa, y, τb, d, e1, e3, e4, rfl⟩
theorem compGo_cons {body : Ev (Option PyData)} {tg : T} {own : List Nat} {d : PyData} {ds acc ys : List PyData} (e : compGo body tg own (d :: ds) acc τ = some (.ok ys τ')) :
    ∃ τb o τd, bindT tg d (wipeT τ own) = some τb ∧ body τb = some (.ok o τd) ∧ compGo body tg own ds (match o with | some y => acc ++ [y] | none => acc) τd = some (.ok ys τ') := by
  unfold compGo at e
  cases hb : bindT tg d (wipeT τ own) with
  | none => rw [hb] at e; cases e
  | some τb =>
    rw [hb] at e
    simp only at e
    cases hq : body τb with
    | none => rw [hq] at e; cases e
    | some r =>
      rw [hq] at e
      cases r with
      | ex c d => cases e
      | ok o τd =>
        cases o with
        | none => exact ⟨τb, none, τd, rfl, hq, e⟩
        | some y => exact ⟨τb, some y, τd, rfl, hq, e⟩
theorem inBlk_inv {α β : Type} {own : List Nat} {go : Ev α} {f : α → β} {b : β} (e : inBlk own go f τ = some (.ok b τ')) : freeT own τ = true ∧ ∃ a τ2, go τ = some (.ok a τ2) ∧ b = f a ∧ τ' = mergeT own τ τ2 := by
  unfold inBlk at e
  split at e
  · rename_i hf
    cases hg : go τ with
    | none => rw [hg] at e; cases e
    | some r =>
      rw [hg] at e
      cases r with
      | ex c d => cases e
      | ok a τ2 => cases e; exact ⟨hf, a, τ2, rfl, rfl, rfl⟩
  · cases e
theorem RpA.map_of {Hm Hm' : Hp} (f : ∀ v d, Rp G Hm v d → Rp G Hm' v d) : ∀ {vs : List V} {ds : List PyData}, RpA G Hm vs ds → RpA G Hm' vs ds
  | _, _, .nil => .nil
  | _, _, .cons a b => .cons (f _ _ a) (RpA.map_of f b)
theorem tE_cmp {own : List Nat} {tg : T} {it : I} {hc : Bool} {c elt : E} (ht : ∀ i ∈ tg.ixs, i ∈ own) (h : tE G Φ (.cmp own tg it hc c elt) σ H Q) :
    tLc (tI G Φ it) (gT G.K tg) (tTs G Φ hc c) (tE G Φ elt) own σ H Q := by
  obtain ⟨F, τ, rv, τ', I, e, k⟩ := h
  simp only [ev] at e
  rw [ev_bind_iff] at e
  obtain ⟨ds, τ1, e1, e2⟩ := e
  obtain ⟨hf, ys, τ2, e3, rfl, rfl⟩ := inBlk_inv e2
  have e3 : compGo (cBody Φ hc c elt) tg own ds [] τ1 = some (.ok ys τ2) := e3
  refine ⟨F, τ, ds, τ1, I, e1, fun J H1 P1 W D hD => ?_⟩
  obtain ⟨n0, nq, nM⟩ := P1.fi.new0 hD
  refine ⟨fun i m H' => m = ds.length - i ∧ i ≤ ds.length ∧ ∃ τc accV accD, Blk G F D own σ τ1 H1 τc H' ∧ H' D = some (.lst accV) ∧ RpA G (msk (F.prot D).M (wipeT τc own) (wipe σ own) H') accV accD ∧ accV.length ≤ i ∧
    compGo (cBody Φ hc c elt) tg own (ds.drop i) accD τc = some (.ok ys τ2), ⟨ds.length, by simp, Nat.zero_le _, τ1, [], [], blk_start P1.fi hD hf, upd_same, .nil, Nat.zero_le _, by simpa using e3⟩, ?_⟩
  rintro i m H' ⟨rfl, hi, τc, accV, accD, B, hl, ra, hn, go⟩
  have sm0 : Same (mk (mb F.M τ1 σ) H1) (mk (mb (F.prot D).M (wipeT τc own) (wipe σ own)) H') := B.sm
  by_cases hlt : i < ds.length
  · refine .inr ⟨W.goes i _ H' hlt sm0, fun H' => i + 1 ≤ ds.length ∧ ∃ τc accV accD, Blk G F D own σ τ1 H1 τc H' ∧ H' D = some (.lst accV) ∧ RpA G (msk (F.prot D).M (wipeT τc own) (wipe σ own) H') accV accD ∧ accV.length ≤ i + 1 ∧
      compGo (cBody Φ hc c elt) tg own (ds.drop (i + 1)) accD τc = some (.ok ys τ2), fun H' ⟨q1, q2⟩ => ⟨ds.length - (i + 1), by omega, rfl, q1, q2⟩, fun x H2 y => ?_⟩
    obtain ⟨hgr, d, hd, rx⟩ := W.yields i _ H' x H2 hlt sm0 B.fi.domM y
    have hs : Same H' H2 := by
      rcases hgr with rfl | ⟨T, o, hT, rfl⟩
      · exact Same.refl _
      · exact same_upd hT o
    have hds : ds.drop i = d :: ds.drop (i + 1) := by
      obtain ⟨hlt', rfl⟩ := List.getElem?_eq_some_iff.mp hd
      exact List.drop_eq_getElem_cons hlt'
    rw [hds] at go
    obtain ⟨τb, o, τd, b1, b2, b3⟩ := compGo_cons go
    refine blk_bind B hs rx b1 ht fun σ2 Bi sm2 => ⟨Bi.wp, ?_⟩
    have hl2 : H2 D = some (.lst accV) := hs D _ hl
    have ra2 : RpA G (msk (F.prot D).M τb σ2 H2) accV accD := ra.mono sm2
    have IL := Bi.fi.lockOf hl2
    rcases cBody_inv b2 with ⟨τa, c1, rfl, rfl⟩ | ⟨τa, yv, τe, dv, c1, c2, c3, rfl⟩
    · refine tTs_run IL c1 fun H3 P3 => ?_
      rw [if_neg (by decide)]
      obtain ⟨B2, mv⟩ := blk_end (o' := .lst accV) Bi P3 n0 nq
      have hl3 : H3 D = some (.lst accV) := P3.fi.same D _ upd_same nq
      have e3 : upd H3 D (.lst accV) = H3 := by
        funext b
        unfold upd
        split
        · rename_i z; rw [z, hl3]
        · rfl
      rw [e3] at B2 mv
      exact ⟨hlt, _, accV, accD, B2, hl3, RpA.map_of mv (ra2.mono P3.sm), by omega, b3⟩
    · refine tTs_run IL c1 fun H3 P3 => ?_
      rw [if_pos rfl]
      refine ⟨F.lock D (.lst accV), τa, yv, τe, P3.fi, c2, fun v H4 P4 R4 => ?_⟩
      obtain ⟨rfl, R4⟩ := R4.vald c3
      have P := P3.trans P4
      have hl4 : H4 D = some (.lst accV) := P4.fi.same D _ upd_same nq
      obtain ⟨B2, mv⟩ := blk_end (o' := .lst (accV ++ [v])) Bi P n0 nq
      refine ⟨accV, hl4, ?_, hlt, _, accV ++ [v], accD ++ [dv], B2, upd_same, RpA.map_of mv ((ra2.mono P.sm).append (.cons R4 .nil)), by simp; omega, b3⟩
      have := W.len
      omega
  · have hi' : i = ds.length := by omega
    subst hi'
    rw [List.drop_length] at go
    obtain ⟨rfl, rfl⟩ := ev_pure_inv (show (pure accD : Ev (List PyData)) τc = _ from go)
    obtain ⟨P, R⟩ := blk_done P1.fi hD (P1.dom hD) hf B (.lst hl ra)
    exact .inl ⟨W.stops _ H' sm0, k _ H' (P1.trans P) R⟩
end
end TL

set_option Elab.async false
set_option linter.all false
set_option maxRecDepth 100000
/-! TLo: what a function promises, and a call's reading. -/
namespace TL
open PySem L2 StX RZ

/-- arguments: an in-out parameter's object is masked, the others' values are read -/
inductive ArgsT (G : Gx) (M : Addr → Bool) (H : Hp) : List Bool → List V → List PyData → Prop
  | nil : ArgsT G M H [] [] []
  | io {io vs ds a d} : M a = true → Ob G (mk M H) H a d → ArgsT G M H io vs ds → ArgsT G M H (true :: io) (.ref a :: vs) (d :: ds)
  | val {io vs ds v d} : Rp G (mk M H) v d → ArgsT G M H io vs ds → ArgsT G M H (false :: io) (v :: vs) (d :: ds)
/-- the in-out parameters' objects -/
def ioA : List Bool → List V → List Addr
  | true :: io, .ref a :: vs => a :: ioA io vs
  | _ :: io, _ :: vs => ioA io vs
  | _, _ => []
/-- what they hold -/
def BackT (G : Gx) (M : Addr → Bool) (H : Hp) (as : List Addr) (qs : List PyData) : Prop := Paired (fun a d => Ob G (mk M H) H a d) as qs
def addM (M : Addr → Bool) (a : Addr) : Addr → Bool := fun b => M b || b == a
def EndT (G : Gx) (fs : FS) (M : Addr → Bool) (H H' : Hp) (as : List Addr) (r : PyData) (qs : List PyData) (v : V) : Prop :=
  if fs.fr then ∃ a, v = .ref a ∧ H a = none ∧ Ob G (mk (addM M a) H') H' a r ∧ BackT G (addM M a) H' as qs else Rp G (mk M H') v r ∧ BackT G M H' as qs
def SpT (G : Gx) (fs : FS) (vs : List V) (H : Hp) (Q : VK) : Prop := ∃ M ds r qs, Dom M H ∧ ArgsT G M H fs.io vs ds ∧ (ioA fs.io vs).Nodup ∧ fs.m ds = some (.ok r qs) ∧
  ∀ v H', (∀ b o, H b = some o → b ∉ ioA fs.io vs → H' b = some o) → Dom M H' → EndT G fs M H H' (ioA fs.io vs) r qs v → Q v H'
/-- a function keeps its promise, k calls deep -/
def FnT (P : Program) (w : World) (K : PySem.W.Frag) (mg : Str → Option Value) (base : Heap) (k : Nat) (f : Addr) (fs : FS) : Prop :=
  ∀ (A : Around) (outer : List Env) (s : Shared) (H : Hp) (us : List Value) (vs : List V) (Q : VK), Room k A → A.guards = some [] → Env0 P w K mg base A outer s H → Vals vs us → SpT ⟨P, w, K⟩ fs vs H Q →
    codeAny (model P w) A (.call (.ref f) ⟨us, []⟩) (CR CX0 outer P w H s Q E0) s

section
variable {G : Gx} {Φ : Fns} {F : Fr} {τ τ' τ1 : Tau} {σ σ' : L2.St} {H H' : Hp} {Q : VK}
theorem putS_get {i : Nat} {d : PyData} (h : putS i d τ = some (.ok () τ')) : tags τ' = tags τ ∧ (∀ j : Nat, j ≠ i → τ'[j]? = τ[j]?) ∧ ((∃ e, τ[i]? = some (some (.p e))) ∧ τ'[i]? = some (some (.p d)) ∨ (∃ e, τ[i]? = some (some (.q e))) ∧ τ'[i]? = some (some (.q d))) := by
  unfold putS at h
  split at h <;> first | cases h | skip
  · rename_i q
    exact ⟨tags_set q rfl, fun j hj => by rw [List.getElem?_set_ne (Ne.symm hj)], .inl ⟨⟨_, q⟩, List.getElem?_set_self (lt_of_some q)⟩⟩
  · rename_i q
    exact ⟨tags_set q rfl, fun j hj => by rw [List.getElem?_set_ne (Ne.symm hj)], .inr ⟨⟨_, q⟩, List.getElem?_set_self (lt_of_some q)⟩⟩
theorem putAll_get : ∀ {is : List Nat} {qs : List PyData} {τ τ' : Tau}, is.Nodup → putAll is qs τ = some (.ok () τ') → tags τ' = tags τ ∧ (∀ j : Nat, j ∉ is → τ'[j]? = τ[j]?) ∧
    ∀ j ∈ is, ∃ (k : Nat) (d : PyData), is[k]? = some j ∧ qs[k]? = some d ∧ (((∃ e, τ[j]? = some (some (.p e))) ∧ τ'[j]? = some (some (.p d))) ∨ ((∃ e, τ[j]? = some (some (.q e))) ∧ τ'[j]? = some (some (.q d))))
  | [], [], τ, τ', _, h => by
    obtain ⟨_, rfl⟩ := ev_pure_inv (show (pure () : Ev Unit) τ = _ from h)
    exact ⟨rfl, fun _ _ => rfl, fun _ hj => by cases hj⟩
  | [], _ :: _, _, _, _, h => by cases h
  | _ :: _, [], _, _, _, h => by cases h
  | i :: is, d :: qs, τ, τ', nd, h => by
    simp only [putAll, ev_bind_iff] at h
    obtain ⟨_, τ2, e1, e2⟩ := h
    obtain ⟨a1, a2, a3⟩ := putS_get e1
    obtain ⟨b1, b2, b3⟩ := putAll_get (List.nodup_cons.mp nd).2 e2
    have ni := (List.nodup_cons.mp nd).1
    refine ⟨b1.trans a1, fun j hj => ?_, fun j hj => ?_⟩
    · simp only [List.mem_cons, not_or] at hj
      rw [b2 j hj.2, a2 j hj.1]
    · by_cases hji : j = i
      · subst hji
        refine ⟨0, d, rfl, rfl, ?_⟩
        rw [b2 j ni]
        exact a3
      · obtain ⟨k, e, c1, c2, c3⟩ := b3 j ((List.mem_cons.mp hj).resolve_left hji)
        rw [a2 j hji] at c3
        exact ⟨k + 1, e, by simpa using c1, by simpa using c2, c3⟩
/-- the slots' addresses -/
def Slots (τ : Tau) (σ : L2.St) : List Nat → List Addr → Prop := Paired fun i a => σ[i]? = some (some (.ref a)) ∧ ∃ d, τ[i]? = some (some (.p d)) ∨ τ[i]? = some (some (.q d))
theorem Paired.get? {α β : Type} {R : α → β → Prop} : ∀ {xs : List α} {ys : List β} {k : Nat} {x : α}, Paired R xs ys → xs[k]? = some x → ∃ y, ys[k]? = some y ∧ R x y
  | _, _, _, _, .nil, e => by simp at e
  | _, _, 0, _, .cons r _, e => by simp at e; subst e; exact ⟨_, rfl, r⟩
  | _, _, k + 1, _, .cons _ t, e => by
    obtain ⟨y, h1, h2⟩ := Paired.get? (k := k) t (by simpa using e)
    exact ⟨y, by simpa using h1, h2⟩
theorem Paired.get2 {α β : Type} {R : α → β → Prop} : ∀ {xs : List α} {ys : List β} {k : Nat} {y : β}, Paired R xs ys → ys[k]? = some y → ∃ x, xs[k]? = some x ∧ R x y
  | _, _, _, _, .nil, e => by simp at e
  | _, _, 0, _, .cons r _, e => by simp at e; subst e; exact ⟨_, rfl, r⟩
  | _, _, k + 1, _, .cons _ t, e => by
    obtain ⟨y, h1, h2⟩ := Paired.get2 (k := k) t (by simpa using e)
    exact ⟨y, by simpa using h1, h2⟩
/-- behind a call that changed the objects of the slots is alone -/
theorem FI.called {is : List Nat} {as : List Addr} {qs : List PyData} (I : FI G F τ σ H) (nd : is.Nodup) (sl : Slots τ σ is as) (hp : putAll is qs τ = some (.ok () τ')) (kp : ∀ b o, H b = some o → b ∉ as → H' b = some o)
    (dm : Dom (mb F.M τ σ) H') (bk : BackT G (mb F.M τ σ) H' as qs) : Post G F τ τ' σ H H' := by
  obtain ⟨tg, oth, hit⟩ := putAll_get nd hp
  have em : mb F.M τ' σ = mb F.M τ σ := by unfold mb; rw [ownB_tags (σ := σ) tg]
  have inA : ∀ a ∈ as, mb F.M τ σ a = true ∧ ∀ o, F.H0 a = some o → F.isQ a := fun a ha => by
    obtain ⟨k, hk⟩ := List.getElem?_of_mem ha
    obtain ⟨i, _, h1, d, h2⟩ := Paired.get2 sl hk
    obtain ⟨a', h3, h4, _, h5⟩ := I.obj h2
    rw [h1] at h3; cases h3
    exact ⟨h4, h5⟩
  have sm : Same (TL.mk (mb F.M τ σ) H) (TL.mk (mb F.M τ σ) H') := fun b o e => by
    unfold TL.mk at e ⊢
    split at e
    · cases e
    · rename_i q
      rw [if_neg q]
      exact kp b o e fun z => q (inA b z).1
  have obj' : ∀ (j : Nat) d, (τ'[j]? = some (some (.p d)) ∨ τ'[j]? = some (some (.q d))) → ∀ a, σ[j]? = some (some (.ref a)) → Ob G (TL.mk (mb F.M τ σ) H') H' a d := fun j d hj a ha => by
    by_cases hm : j ∈ is
    · obtain ⟨k, e, c1, c2, c3⟩ := hit j hm
      have : e = d := by
        rcases c3 with ⟨_, c⟩ | ⟨_, c⟩ <;> rcases hj with hj | hj <;> rw [c] at hj <;> cases hj <;> rfl
      subst this
      obtain ⟨a', h1, h2, _⟩ := Paired.get? sl c1
      rw [ha] at h2; cases h2
      obtain ⟨e', h3, h4⟩ := Paired.get? bk h1
      rw [c2] at h3; cases h3
      exact h4
    · rw [oth j hm] at hj
      obtain ⟨a', h1, h2, h3, _⟩ := I.obj hj
      rw [ha] at h1; cases h1
      refine h3.grow sm fun o q => kp a o q fun z => ?_
      obtain ⟨k, hk⟩ := List.getElem?_of_mem z
      obtain ⟨i, hi, h5, d2, h6⟩ := Paired.get2 sl hk
      have hne : j ≠ i := fun e => hm (e ▸ List.mem_of_getElem? hi)
      exact I.inj j i d d2 a hne hj h6 ha h5
  have back : ∀ (j : Nat) d, (τ'[j]? = some (some (.p d)) ∨ τ'[j]? = some (some (.q d))) → ∃ e, τ[j]? = some (some (.p e)) ∨ τ[j]? = some (some (.q e)) := fun j d h => tags_pq tg ⟨d, h⟩
  refine ⟨⟨I.ok, (tags_len tg).trans I.len, fun b o e n => kp b o (I.same b o e n) fun z => n ((inA b z).2 o e), fun b e => dm b (by simp [mb, e]), fun j d e => ?_, fun j d e => ?_, fun j d e => ?_, fun i j d e a hij h1 h2 h3 h4 => ?_⟩, tg.symm, by rw [msk_mk, msk_mk, em]; exact sm⟩
  · have hj : j ∉ is := fun z => by
      obtain ⟨k, e', c1, c2, c3⟩ := hit j z
      rcases c3 with ⟨_, c⟩ | ⟨_, c⟩ <;> rw [c] at e <;> cases e
    rw [oth j hj] at e
    obtain ⟨v, h1, h2⟩ := I.r j d e
    exact ⟨v, h1, by rw [msk_mk, em]; exact h2.mono sm⟩
  · have q := tags_get (i := j) tg
    rw [e] at q
    obtain ⟨d0, h0⟩ : ∃ d0, τ[j]? = some (some (.p d0)) := by
      cases z : τ[j]? with
      | none => rw [z] at q; simp at q
      | some x => rw [z] at q; rcases x with _ | (_ | x | _) <;> simp [tgOf] at q; exact ⟨x, rfl⟩
    obtain ⟨a, h1, h2, h3, h4⟩ := I.p j d0 h0
    exact ⟨a, h1, h2, h3, by rw [msk_mk, em]; exact obj' j d (.inl e) a h1⟩
  · have q := tags_get (i := j) tg
    rw [e] at q
    obtain ⟨d0, h0⟩ : ∃ d0, τ[j]? = some (some (.q d0)) := by
      cases z : τ[j]? with
      | none => rw [z] at q; simp at q
      | some x => rw [z] at q; rcases x with _ | (_ | _ | x) <;> simp [tgOf] at q; exact ⟨x, rfl⟩
    obtain ⟨a, h1, h2, h4⟩ := I.q j d0 h0
    exact ⟨a, h1, h2, by rw [msk_mk, em]; exact obj' j d (.inr e) a h1⟩
  · obtain ⟨d1, h1'⟩ := back i d h1
    obtain ⟨d2, h2'⟩ := back j e h2
    exact I.inj i j d1 d2 a hij h1' h2' h3 h4
theorem deref_tau {rv : Rv} {d : PyData} (h : deref rv τ = some (.ok d τ1)) : τ1 = τ := by
  cases rv with
  | v e => cases h; rfl
  | f e => cases h; rfl
  | s i =>
    have e : (match τ[i]? with | some (some (.p d)) => some (R.ok d τ) | some (some (.q d)) => some (R.ok d τ) | _ => none) = some (.ok d τ1) := h
    split at e <;> cases e <;> rfl
theorem derefs_cons {rv : Rv} {rvs : List Rv} {ds : List PyData} (h : derefs (rv :: rvs) τ = some (.ok ds τ1)) : ∃ d es, deref rv τ = some (.ok d τ) ∧ derefs rvs τ = some (.ok es τ1) ∧ ds = d :: es := by
  simp only [derefs, ev_bind_iff] at h
  obtain ⟨d, τ2, e1, es, τ3, e2, e3⟩ := h
  obtain rfl := deref_tau e1
  obtain ⟨rfl, rfl⟩ := ev_pure_inv e3
  exact ⟨d, es, e1, e2, rfl⟩
/-- the arguments as the function sees them -/
theorem args_of (I : FI G F τ σ H) : ∀ {io : List Bool} {rvs : List Rv} {vs : List V} {ds : List PyData} {is : List Nat}, slotsOf io rvs = some is → lent io rvs = false → ResA G F τ σ H rvs vs → derefs rvs τ = some (.ok ds τ1) →
    τ1 = τ ∧ ArgsT G (mb F.M τ σ) H io vs ds ∧ Slots τ σ is (ioA io vs)
  | [], [], _, ds, is, h1, _, .nil, h2 => by
    obtain ⟨rfl, rfl⟩ := ev_pure_inv (show (pure [] : Ev (List PyData)) τ = _ from h2)
    cases h1
    exact ⟨rfl, .nil, .nil⟩
  | [], _ :: _, _, _, _, h1, _, _, _ => by cases h1
  | true :: io, [], _, _, _, h1, _, _, _ => by cases h1
  | false :: io, [], _, _, _, h1, _, _, _ => by cases h1
  | b :: io, rv :: rvs, _, ds, is, h1, hl, .cons (b := v) (l₂ := vs) r rr, h2 => by
    obtain ⟨d, es, e1, e2, rfl⟩ := derefs_cons h2
    cases b with
    | true =>
      cases rv with
      | v e => cases h1
      | f e => cases h1
      | s i =>
        simp only [slotsOf, Option.map_eq_some_iff] at h1
        obtain ⟨is', h1, rfl⟩ := h1
        obtain ⟨rfl, z1, z2⟩ := args_of I h1 (by simpa [lent] using hl) rr e2
        obtain ⟨r1, r2⟩ := r
        have e1 : (match τ1[i]? with | some (some (.p d)) => some (R.ok d τ1) | some (some (.q d)) => some (R.ok d τ1) | _ => none) = some (.ok d τ1) := e1
        have hs : τ1[i]? = some (some (.p d)) ∨ τ1[i]? = some (some (.q d)) := by
          split at e1 <;> first | cases e1 | skip
          · rename_i q; exact .inl q
          · rename_i q; exact .inr q
        obtain ⟨a, h3, h4, h5, _⟩ := I.obj hs
        rw [r1] at h3; cases h3
        exact ⟨rfl, .io h4 h5 z1, .cons ⟨r1, d, hs⟩ z2⟩
    | false =>
      have hv : ∃ e, rv.wk = .v e ∧ deref rv τ = some (.ok e τ) := by
        cases rv with
        | v e => exact ⟨e, rfl, rfl⟩
        | f e => exact ⟨e, rfl, rfl⟩
        | s i => simp [lent] at hl
      obtain ⟨e, hw, hd⟩ := hv
      rw [hd] at e1; cases e1
      have h1' : slotsOf io rvs = some is := by cases rv <;> exact h1
      have hl' : lent io rvs = false := by cases rv <;> first | exact hl | (simp [lent] at hl)
      obtain ⟨rfl, z1, z2⟩ := args_of I h1' hl' rr e2
      have r : Res G F σ H τ1 H rv.wk v := r
      rw [hw] at r
      refine ⟨rfl, .val r z1, ?_⟩
      have : ioA (false :: io) (v :: vs) = ioA io vs := by simp [ioA]
      rw [this]; exact z2
theorem slots_nd {is : List Nat} {as : List Addr} (I : FI G F τ σ H) : is.Nodup → Slots τ σ is as → as.Nodup := by
  intro nd sl
  induction sl with
  | nil => exact List.nodup_nil
  | cons r rr ih =>
    refine List.nodup_cons.mpr ⟨fun z => ?_, ih (List.nodup_cons.mp nd).2⟩
    obtain ⟨h1, d, h2⟩ := r
    obtain ⟨k, hk⟩ := List.getElem?_of_mem z
    obtain ⟨j, hj, h3, d2, h4⟩ := Paired.get2 rr hk
    exact I.inj _ j d d2 _ (fun e => (List.nodup_cons.mp nd).1 (by rw [e]; exact List.mem_of_getElem? hj)) h2 h4 h1 h3
theorem addM_mb {a : Addr} : addM (mb F.M τ σ) a = mb (F.prot a).M τ σ := by
  funext b
  simp only [addM, mb, Fr.prot]
  cases F.M b <;> cases ownB τ σ b <;> cases b == a <;> rfl
/-- a call -/
theorem tE_call {f : Str} {fs : FS} {es : As} (hΦ : Φ f = some fs) (h : tE G Φ (.call f es) σ H Q) : tR G Φ es σ H (fun vs H1 => SpT G fs vs H1 Q) := by
  obtain ⟨F, τ, rv, τ', I, e, k⟩ := h
  simp only [ev] at e
  rw [ev_bind_iff] at e
  obtain ⟨rvs, τ1, e1, e2⟩ := e
  rw [hΦ] at e2
  refine ⟨F, τ, rvs, τ1, I, e1, fun vs H1 P1 RA => ?_⟩
  simp only [callO, callF] at e2
  cases hs : slotsOf fs.io rvs with
  | none => rw [hs] at e2; cases e2
  | some is =>
    rw [hs] at e2
    simp only [Ev.when] at e2
    by_cases nd : is.Nodup
    · rw [if_pos (by simpa using nd), ev_bind_iff] at e2
      obtain ⟨ds, τ2, e3, e4⟩ := e2
      cases hm : fs.m ds with
      | none => rw [hm] at e4; cases e4
      | some r =>
        rw [hm] at e4
        cases r with
        | ex c d => cases e4
        | ok r qs =>
          simp only [callE, Ev.when] at e4
          by_cases hl : lent fs.io rvs = false
          · rw [if_pos (by simpa using hl), ev_bind_iff] at e4
            obtain ⟨_, τ3, e5, e6⟩ := e4
            obtain ⟨rfl, rfl⟩ := ev_pure_inv e6
            obtain ⟨rfl, ar, sl⟩ := args_of P1.fi hs hl RA e3
            refine ⟨mb F.M _ σ, ds, r, qs, P1.fi.domM, ar, slots_nd P1.fi nd sl, hm, fun v H' kp dm en => ?_⟩
            unfold EndT at en
            by_cases hf : fs.fr = true
            · rw [if_pos hf] at en
              obtain ⟨a, rfl, ha, ob, bk⟩ := en
              rw [addM_mb] at ob bk
              obtain ⟨o, ho⟩ : ∃ o, H' a = some o := by cases ob <;> exact ⟨_, by assumption⟩
              have sl' := sl
              have P := FI.called (F := F.prot a) (qs := qs) (H' := H') (P1.fi.prot ha o) nd sl e5 (fun b u q n => by
                by_cases hb : b = a
                · subst hb; rw [upd_same] at q; cases q; exact ho
                · rw [upd_ne hb] at q; exact kp b u q n) (fun b q => by
                rw [← addM_mb] at q
                simp only [addM, Bool.or_eq_true, beq_iff_eq] at q
                rcases q with q | q
                · exact dm b q
                · exact ⟨o, q ▸ ho⟩) bk
              have e0 := prot_eq (F := F) (τ := τ2) (σ := σ) (o := o) ha
              refine k _ H' (P1.trans ⟨P.fi.unprot P1.fi.ok, P.tg, ?_⟩) ?_
              · have s := P.sm
                rw [e0] at s
                exact s.trans (prot_sub F a)
              · simp only [hf, if_true]
                have n0 := P1.fi.new0 ha
                refine ⟨a, rfl, P1.dom ha, n0.2.2, P.fi, ?_⟩
                rw [msk_mk]
                have : mb (F.prot a).M τ' σ = mb (F.prot a).M τ2 σ := by unfold mb; rw [ownB_tags (σ := σ) P.tg]
                rw [this]; exact ob
            · rw [if_neg hf] at en
              obtain ⟨rp, bk⟩ := en
              have P := FI.called P1.fi nd sl e5 kp dm bk
              refine k v H' (P1.trans P) ?_
              simp only [hf, if_false]
              show Rp G (msk F.M τ' σ H') v r
              have : mb F.M τ' σ = mb F.M τ2 σ := by unfold mb; rw [ownB_tags (σ := σ) P.tg]
              rw [msk_mk, this]; exact rp
          · rw [if_neg (by simpa using hl)] at e4; cases e4
    · rw [if_neg (by simpa using nd)] at e2; cases e2
end
section
variable {X : Cx} {x : Str} {f : Addr} {fs : FS} {k : Nat} {p pos : Pos} {e : Expr} {es : List Expr} {t : TA}
theorem run_fnT (F : FnT X.prog X.w X.K X.mg X.base k f fs) (hr : Room k X.A) (hg : X.A.guards = some []) {pins : List (Addr × Obj)} {s : Shared} {σ : L2.St} {H : Hp} {us : List Value} {vs : List V} {Q : VK} (I : Inv X pins σ H s) (r : Vals vs us)
    (h : SpT (gx X) fs vs H Q) : wpAny (model X.prog X.w) X.A (call (.ref f) us) (EP X pins σ Q) X.xe s := by
  refine wpAny_call (codeAny_mono (F _ _ s H us vs Q hr hg I.env0 r h) fun res s' back => ?_)
  match res, back with
  | .ok (.ret u), back => exact I.after back
theorem pe_fnT (F : FnT X.prog X.w X.K X.mg X.base k f fs) (hr : Room k X.A) (hgd : X.A.guards = some []) (hx : Gl X x) (hm : X.mg x = some (.ref f)) (hk : PySem.W.keepIn X.K (.ref f) = true)
    (ha : PA X (e :: es) t) (hd : (x == ("__debug__" : Str)) = false) (hs : starEach (e :: es) X.env = (false, eval e X.env) :: starEach es X.env) (hp : (backTo pos (starEach es X.env)).any (·.1) = false) :
    PE X (.Call (.Name x p) (e :: es) [] pos) (fun σ H Q => t σ H fun vs H1 => SpT (gx X) fs vs H1 Q) :=
  ⟨fun pins s σ H Q I h => wpAny_Call_Name_kw (ld_glob I hx hm (PySem.W.callWith_K (h₀ := X.base) I.ok.mod.kin hk (thn (ha.run pos pins s σ H _ I h) fun us s1 q =>
    let ⟨vs, H1, I1, r, q⟩ := q
    ⟨I1.kIn, run_fnT F hr hgd I1 r q⟩) hs hp) hd)⟩
end
end TL

set_option Elab.async false
set_option linter.all false
set_option maxRecDepth 100000
/-! TLp: calls of built-in functions. -/
namespace TL
open PySem L2 StX RZ
section
variable {G : Gx} {Φ : Fns} {F : Fr} {τ τ' τ1 : Tau} {σ σ' : L2.St} {H H' : Hp} {Q : VK}
theorem opdA_of (I : FI G F τ σ H) : ∀ {rvs : List Rv} {vs : List V} {ds : List PyData}, ResA G F τ σ H rvs vs → derefs rvs τ = some (.ok ds τ1) → τ1 = τ ∧ OpdA G (msk F.M τ σ H) H vs ds
  | [], _, ds, .nil, e => by
    obtain ⟨rfl, rfl⟩ := ev_pure_inv (show (pure [] : Ev (List PyData)) τ = _ from e)
    exact ⟨rfl, .nil⟩
  | rv :: rvs, _, ds, .cons r rr, e => by
    obtain ⟨d, es, e1, e2, rfl⟩ := derefs_cons e
    obtain ⟨rfl, z⟩ := opdA_of I rr e2
    exact ⟨rfl, .cons (Res.opd (H0 := H) r I ((congrFun (deref_wk rv) _).trans e1)).2 z⟩
theorem tE_blt {f : Bf} {es : As} (hf : frB f = false) (h : tE G Φ (.blt f es) σ H Q) : tCB (rB G (semB f)) (tR G Φ es) σ H Q := by
  obtain ⟨F, τ, rv, τ', I, e, k⟩ := h
  simp only [ev, ev_bind_iff] at e
  obtain ⟨rvs, τ1, e1, ds, τ2, e2, r, τ3, e3, e4⟩ := e
  obtain ⟨hr, rfl⟩ := ev_lift_inv e3
  obtain ⟨rfl, rfl⟩ := ev_pure_inv e4
  refine ⟨F, τ, rvs, τ1, I, e1, fun vs H1 P1 RA => ?_⟩
  obtain ⟨rfl, oa⟩ := opdA_of P1.fi RA e2
  refine ⟨mb F.M _ σ, ds, r, P1.fi.domM, oa, hr, fun v H' s p => k v H' (P1.grow s) ?_⟩
  rw [hf]; exact p
/-- a new object from operands -/
def rBF (G : Gx) (sem : List PyData → Option PyData) : List V → Hp → VK → Prop := fun vs H Q => ∃ m ds r, Dom m H ∧ OpdA G (mk m H) H vs ds ∧ sem ds = some r ∧
  ∀ a o, H a = none → Ob G (mk m H) (upd H a o) a r → Q (.ref a) (upd H a o)
theorem tE_bltF {f : Bf} {es : As} (hf : frB f = true) (h : tE G Φ (.blt f es) σ H Q) : tCB (rBF G (semB f)) (tR G Φ es) σ H Q := by
  obtain ⟨F, τ, rv, τ', I, e, k⟩ := h
  simp only [ev, ev_bind_iff] at e
  obtain ⟨rvs, τ1, e1, ds, τ2, e2, r, τ3, e3, e4⟩ := e
  obtain ⟨hr, rfl⟩ := ev_lift_inv e3
  obtain ⟨rfl, rfl⟩ := ev_pure_inv e4
  refine ⟨F, τ, rvs, τ1, I, e1, fun vs H1 P1 RA => ?_⟩
  obtain ⟨rfl, oa⟩ := opdA_of P1.fi RA e2
  refine ⟨mb F.M _ σ, ds, r, P1.fi.domM, oa, hr, fun a o ha ob => k _ _ (P1.new ha) ?_⟩
  rw [hf]; exact P1.fi.newF (P1.dom ha) ha ob
theorem RpA_rg {Hm : Hp} {f : Nat → Int} : ∀ (l : List Nat), RpA G Hm (l.map fun i => V.int (f i)) (l.map fun i => .int (f i))
  | [] => .nil
  | _ :: l => .cons (.int _) (RpA_rg l)
theorem rg_up {Hm : Hp} (a b : Int) : RpA G Hm (rgV a b) (upI a (b - a).toNat) := RpA_rg _
/-- list(range(..)), tuple(range(..)) -/
theorem tE_lrg1 {e : E} (h : tE G Φ (.blt .lrg1 (.cons false e .nil)) σ H Q) : tLstRg (tRg1 (tE G Φ e)) σ H Q := by
  obtain ⟨F, τ, rv, τ', I, e0, k⟩ := h
  simp only [ev, evC, ev_bind_iff] at e0
  obtain ⟨rvs, τ1, ⟨x, τa, e1, xs, τb, e2, e3⟩, ds, τ2, e4, r, τ3, e5, e6⟩ := e0
  obtain ⟨rfl, rfl⟩ := ev_pure_inv e2
  obtain ⟨rfl, rfl⟩ := ev_pure_inv e3
  obtain ⟨hr, rfl⟩ := ev_lift_inv e5
  obtain ⟨rfl, rfl⟩ := ev_pure_inv e6
  obtain ⟨d, es, d1, d2, rfl⟩ := derefs_cons e4
  obtain ⟨rfl, rfl⟩ := ev_pure_inv d2
  cases d <;> simp only [semB, reduceCtorEq] at hr
  rename_i n
  split at hr
  · rename_i hn
    cases hr
    have hb := rngI_iff hn
    refine ⟨F, τ, x, _, I, e1, fun v H1 P1 R1 => ⟨n, ?_, ⟨by omega, by omega, by omega, by omega, by omega⟩, fun q hq => k _ _ (P1.new hq) (P1.fi.newF (P1.dom hq) hq (.lst upd_same ?_))⟩⟩
    · obtain ⟨_, o⟩ := R1.opd P1.fi d1; exact o.int
    · have := rg_up (G := G) (Hm := msk F.M τ' σ H1) 0 n
      simpa using this
  · cases hr
theorem tE_trg1 {e : E} (h : tE G Φ (.blt .trg1 (.cons false e .nil)) σ H Q) : tTupRg (tRg1 (tE G Φ e)) σ H Q := by
  obtain ⟨F, τ, rv, τ', I, e0, k⟩ := h
  simp only [ev, evC, ev_bind_iff] at e0
  obtain ⟨rvs, τ1, ⟨x, τa, e1, xs, τb, e2, e3⟩, ds, τ2, e4, r, τ3, e5, e6⟩ := e0
  obtain ⟨rfl, rfl⟩ := ev_pure_inv e2
  obtain ⟨rfl, rfl⟩ := ev_pure_inv e3
  obtain ⟨hr, rfl⟩ := ev_lift_inv e5
  obtain ⟨rfl, rfl⟩ := ev_pure_inv e6
  obtain ⟨d, es, d1, d2, rfl⟩ := derefs_cons e4
  obtain ⟨rfl, rfl⟩ := ev_pure_inv d2
  cases d <;> simp only [semB, reduceCtorEq] at hr
  rename_i n
  split at hr
  · rename_i hn
    cases hr
    have hb := rngI_iff hn
    refine ⟨F, τ, x, _, I, e1, fun v H1 P1 R1 => ⟨n, ?_, ⟨by omega, by omega, by omega, by omega, by omega⟩, fun q hq => k _ _ (P1.new hq) (mk_tup P1.fi.domM hq ?_)⟩⟩
    · obtain ⟨_, o⟩ := R1.opd P1.fi d1; exact o.int
    · have := rg_up (G := G) (Hm := mk (mb F.M τ' σ) H1) 0 n
      simpa using this
  · cases hr
theorem tE_lrg2 {e f : E} (h : tE G Φ (.blt .lrg2 (.cons false e (.cons false f .nil))) σ H Q) : tLstRg (tRg2 (tE G Φ e) (tE G Φ f)) σ H Q := by
  obtain ⟨F, τ, rv, τ', I, e0, k⟩ := h
  simp only [ev, evC, ev_bind_iff] at e0
  obtain ⟨rvs, τ1, ⟨x, τa, e1, xs, τb, ⟨y, τc, e2, ys, τd, e3, e3'⟩, e3''⟩, ds, τ2, e4, r, τ3, e5, e6⟩ := e0
  obtain ⟨rfl, rfl⟩ := ev_pure_inv e3
  obtain ⟨rfl, rfl⟩ := ev_pure_inv e3'
  obtain ⟨rfl, rfl⟩ := ev_pure_inv e3''
  obtain ⟨hr, rfl⟩ := ev_lift_inv e5
  obtain ⟨rfl, rfl⟩ := ev_pure_inv e6
  obtain ⟨d, es, d1, d2, rfl⟩ := derefs_cons e4
  obtain ⟨d', es', d3, d4, rfl⟩ := derefs_cons d2
  obtain ⟨rfl, rfl⟩ := ev_pure_inv d4
  cases d <;> cases d' <;> simp only [semB, reduceCtorEq] at hr
  rename_i m n
  split at hr
  · rename_i hn
    cases hr
    simp only [Bool.and_eq_true] at hn
    have ha := rngI_iff hn.1
    have hb := rngI_iff hn.2
    refine ⟨F, τ, x, _, I, e1, fun v H1 P1 R1 => ⟨F, _, y, _, P1.fi, e2, fun u H2 P2 R2 => ⟨m, n, ?_, ?_, ⟨by omega, by omega, by omega, by omega, by omega⟩, fun q hq => k _ _ ((P1.trans P2).new hq) (P2.fi.newF ((P1.trans P2).dom hq) hq (.lst upd_same (rg_up m n)))⟩⟩⟩
    · obtain ⟨_, o⟩ := (R1.post (H1 := H2) P2).opd P2.fi ((congrFun (deref_wk x) _).trans d1); exact o.int
    · obtain ⟨_, o⟩ := R2.opd P2.fi d3; exact o.int
  · cases hr
end
section
variable {X : Cx}
theorem bf_listF : CallR X (.type "list") (rBF (gx X) (semB .list)) := by
  intro pins s σ H vs us Q I r h
  obtain ⟨m, ds, res, dm, hv, hs, k⟩ := h
  obtain ⟨d, rfl⟩ := semB1 hs ⟨by decide, by decide, by decide⟩
  obtain ⟨v, rfl, o⟩ := opd1 hv
  have sub := mk_sub m H
  cases d <;> simp only [semB, reduceCtorEq] at hs
  · cases hs
    obtain ⟨a, xs, rfl, h1, h2⟩ := o.list sub
    exact call_list_of pins s σ H _ us Q I r ⟨a, xs, rfl, .inl h1, fun l hl => k _ _ hl (.lst upd_same h2)⟩
  · cases hs
    obtain ⟨a, xs, rfl, h1, h2⟩ := o.tuple
    exact call_list_of pins s σ H _ us Q I r ⟨a, xs, rfl, .inr (sqT_same sub h1), fun l hl => k _ _ hl (.lst upd_same h2)⟩
end
end TL

set_option Elab.async false
set_option linter.all false
set_option maxRecDepth 100000
set_option maxHeartbeats 4000000
/-! TMa: sorting tuples, the empty one among them. -/
namespace TL
open PySem PySem.W PySem.Calls PyProof.Rows

/-- the call of tuple's own __lt__, as sorting makes it -/
theorem call_tup_lt {prog : Program} {w : World} {A : Around} {s : Shared} {E : Value → Shared → Prop} {Q : Value → Shared → Prop} {l b : Addr} {items items2 : Array Value} {e r : Nat → Bool} (hl : s.heap.IsTuple l items) (hb : s.heap.IsTuple b items2)
    (he : ∀ j (h1 : j < items.size) (h2 : j < items2.size), SeqAt.EqAt A.in1 s items[j] items2[j] (e j)) (hr : ∀ j (h1 : j < items.size) (h2 : j < items2.size), e j = false → SeqAt.RcLt A.in1 s items[j] items2[j] (r j))
    (h : Q (.bool (SeqAt.firstLt e r (decide (items.size < items2.size)) (List.range (min items.size items2.size)))) s) : wpAny (model prog w) A (call (.builtin "tuple.__lt__") [.ref l, .ref b]) Q E s := by
  obtain ⟨⟨c1, d1, t1, s1⟩, ho, hc, n, hd⟩ := id hl
  obtain ⟨⟨c2, d2, t2, s2⟩, ho2, hc2, n2, hd2⟩ := id hb
  simp only at hc hd hc2 hd2
  subst hc hd hc2 hd2
  exact call_meets F.slot_tuple_lt ⟨_, ho, rfl⟩ F.entry_tuple_lt (F.args_tuple_lt_2 _ _) (SeqAt.tuple_ltAt l b items items2 n n2 d1 d2 s1 s2 e r) ⟨ho, ho2, he, hr, h⟩
section
variable {prog : Program} {w : World} {A : Around} {E : Value → Shared → Prop} {s : Shared}
theorem one_tup {xs ys : List PyData} {a b : Value} {as bs : List Addr} {Q : Bool → Shared → Prop} (ra : Reads s.heap a (.tuple xs) as) (rb : Reads s.heap b (.tuple ys) bs) (h : alike (.tuple xs) (.tuple ys) = true)
    (hu : A.units + min (PyData.tuple xs).depth (PyData.tuple ys).depth < cLine) (hq : Q (dataLt (.tuple xs) (.tuple ys)) s) : wpAny (model prog w) A (oneLt' true a b) Q E s := by
  have hal : alikeAll xs ys = true := by simpa [alike] using h
  cases ra with
  | @tuple l o vs n _ as₁ h1 h2 h3 h4 =>
    cases rb with
    | @tuple l' o' vs' n' _ bs₁ k1 k2 k3 k4 =>
      have n1 : vs.size = xs.length := by simpa using SeqAt.ReadsAll.length _ _ _ h4
      have n2 : vs'.size = ys.length := by simpa using SeqAt.ReadsAll.length _ _ _ k4
      rw [dataLt_tuple, ← firstLt_toks xs ys hal, ← n1, ← n2] at hq
      rw [oneLt'_eq]
      simp only [if_true]
      refine wpAny_bind (wpAny_cRoomFor (SeqAt.room_here hu) ?_)
      refine wpAny_bind (wpAny_callSpecialIfBound?_slot (T := "tuple") ⟨_, h1, h2⟩ F.slot_tuple_lt (call_tup_lt (e := SeqAt.pairEq xs ys) (r := fun j => dataLt (xs.getD j .none) (ys.getD j .none)) ⟨_, h1, h2, _, h3⟩ ⟨_, k1, k2, _, k3⟩ (fun j j1 j2 => ?_) (fun j j1 j2 hj => ?_) ?_))
      · have := eqAt_alikeAll xs ys A.in1 s vs.toList vs'.toList _ _ h4 k4 hal (SeqAt.room_in hu) j (by simpa using j1) (by simpa using j2)
        simpa using this
      · have := rcLt_alikeAll xs ys A.in1 s vs.toList vs'.toList _ _ h4 k4 hal (SeqAt.room_in hu) j (by simpa using j1) (by simpa using j2) hj
        simpa using this
      · exact wpAny_truthy_bool hq
def emptyT : PyData → Bool
  | .tuple [] => true
  | _ => false
theorem firsts_of : ∀ {vs : List Value} {ds : List PyData}, EachIs (fun v d => ∃ as, Reads s.heap v d as) vs ds → (∀ d, d ∈ ds → ∃ xs, d = .tuple xs) →
    ∃ fs : List (Option Value), EachIs (fun (f : Option Value) d => f.isSome = !emptyT d) fs ds ∧ ∀ {M : Model} {A : Around} {E : Value → Shared → Prop} {Q : List (Option Value) → Shared → Prop}, Q fs s → wpAny M A (vs.mapM firstOfTuple') Q E s
  | _, _, .nil, _ => ⟨[], .nil, fun {M A E Q} h => by rw [List.mapM_nil]; exact wpAny_pure h⟩
  | _, _, .cons (b := d) ⟨as, r⟩ t, ht => by
    obtain ⟨fs, h1, h2⟩ := firsts_of t fun d hd => ht d (List.mem_cons_of_mem _ hd)
    obtain ⟨xs, rfl⟩ := ht d (List.mem_cons_self ..)
    cases r with
    | @tuple a o us n _ _ ho hc hd hr =>
      refine ⟨us[0]? :: fs, .cons ?_ h1, fun {M A E Q} h => ?_⟩
      · cases q : us.toList with
        | nil =>
          rw [q] at hr
          cases hr
          have : us[0]? = none := by rw [← Array.getElem?_toList, q]; rfl
          rw [this]; rfl
        | cons f fr =>
          rw [q] at hr
          cases hr with
          | cons r1 r2 =>
            have : us[0]? = some f := by rw [← Array.getElem?_toList, q]; rfl
            rw [this]; rfl
      · rw [List.mapM_cons]
        refine wpAny_bind ?_
        rw [kas_first_eq]
        refine wpAny_bind (Looks.here (show Looks M s.heap (typeOf (.ref a)) o.cls from (Looks.ld ho).andThen .now) ?_)
        rw [hc, if_neg (by first | decide | simp)]
        refine wpAny_bind (listItems_at ho hd (wpAny_pure ?_))
        exact wpAny_bind (h2 (Q := fun bs s' => wpAny M A (pure (us[0]? :: bs)) Q E s') (wpAny_pure h))
theorem keyLt'_general (x y : Value) : keyLt' general' x y = oneLt' false x y := rfl
theorem each_get {α β : Type} {R : α → β → Prop} : ∀ {as : List α} {bs : List β}, EachIs R as bs → ∀ b ∈ bs, ∃ a ∈ as, R a b
  | _, _, .nil, b, h => by cases h
  | _, _, .cons (a := a) r t, b, h => by
    rcases List.mem_cons.mp h with rfl | h
    · exact ⟨a, List.mem_cons_self, r⟩
    · obtain ⟨a', h1, h2⟩ := each_get t b h
      exact ⟨a', List.mem_cons_of_mem _ h1, h2⟩
/-- tuples, the empty one among them, can be sorted -/
theorem sorts_tups {vs : List Value} {ds : List PyData} (e : EachIs (fun v d => ∃ as, Reads s.heap v d as) vs ds) (hal : AllAlike ds) (ht : ∀ d, d ∈ ds → ∃ xs, d = .tuple xs) (hu : ∀ d, d ∈ ds → A.units + d.depth < cLine) :
    SortsAt prog w A s (dataKind s.heap ds) vs := by
  by_cases hne : ∀ d, d ∈ ds → emptyT d = false
  · refine SortsAt.data e hal (.inl fun d hd => ?_) hu
    obtain ⟨xs, rfl⟩ := ht d hd
    cases xs with
    | nil => have := hne _ hd; cases this
    | cons x r => exact ⟨x, r, rfl⟩
  · have hex : ∃ d ∈ ds, emptyT d = true := by
      false_or_by_contra
      rename_i q
      exact hne fun d hd => by
        cases z : emptyT d with
        | false => rfl
        | true => exact (q ⟨d, hd, z⟩).elim
    obtain ⟨dE, hdE, hE⟩ := hex
    have room : ∀ {d d' : PyData}, d ∈ ds → A.units + min d.depth d'.depth < cLine := fun {d d'} hd => Nat.lt_of_le_of_lt (Nat.add_le_add_left (Nat.min_le_left _ _) _) (hu d hd)
    refine ⟨fun v hv => ?_, ?_⟩
    · obtain ⟨d, hd, as, r⟩ := e.left v hv
      exact ⟨_, dataKind_some hal hd r⟩
    · obtain ⟨fs, hf, hw⟩ := firsts_of e ht
      have notall : (fs.toArray.all fun x => x.isSome) = false := by
        obtain ⟨f, hfm, hfe⟩ := each_get hf dE hdE
        rw [hE] at hfe
        apply Bool.eq_false_iff.mpr
        intro z
        simp only [List.all_toArray, List.all_eq_true] at z
        rw [z f hfm] at hfe; cases hfe
      by_cases h0 : (fs.toArray[0]?.bind id).isSome = true
      · refine ⟨general', fun E x y a b Q ha hb hq => ?_, fun h2 E Q hq => ?_⟩
        · obtain ⟨d, as, hd, ra, rfl⟩ := dataKind_inv ha
          obtain ⟨d', as', hd', rb, rfl⟩ := dataKind_inv hb
          obtain ⟨xs, rfl⟩ := ht d hd
          rw [keyLt'_general]
          exact oneLt_alike (fun z => nomatch z) ra rb (hal _ hd d' hd') (fun z => nomatch z) (room hd) hq
        · rw [keyKind'_eq, List.mapM_toArray, map_eq_pure_bind]
          refine wpAny_bind (wpAny_bind (hw (wpAny_pure ?_)))
          rw [if_neg (by rw [notall]; decide), if_pos h0]
          exact wpAny_pure hq
      · refine ⟨oneType', fun E x y a b Q ha hb hq => ?_, fun h2 E Q hq => ?_⟩
        · obtain ⟨d, as, hd, ra, rfl⟩ := dataKind_inv ha
          obtain ⟨d', as', hd', rb, rfl⟩ := dataKind_inv hb
          obtain ⟨xs, rfl⟩ := ht d hd
          obtain ⟨ys, rfl⟩ := ht d' hd'
          rw [keyLt'_oneType]
          exact one_tup ra rb (hal _ hd _ hd') (room hd) hq
        · rw [keyKind'_eq, List.mapM_toArray, map_eq_pure_bind]
          refine wpAny_bind (wpAny_bind (hw (wpAny_pure ?_)))
          rw [if_neg (by rw [notall]; decide), if_neg h0]
          rw [oneTypeOnly'_eq, List.mapM_toArray, map_eq_pure_bind]
          refine wpAny_bind (wpAny_bind (wpAny_bind (kas_mapM (r := Value.type "tuple") _ (fun v hv Q' hq => ?_) (wpAny_pure ?_))))
          · obtain ⟨d, hd, as, r⟩ := e.left v hv
            obtain ⟨xs, rfl⟩ := ht d hd
            exact Looks.here (looks_reads r) hq
          · obtain ⟨v0, vr, rfl⟩ : ∃ v0 vr, vs = v0 :: vr := by
              cases vs with
              | nil => simp at h2
              | cons v0 vr => exact ⟨v0, vr, rfl⟩
            have hall : ((List.map (fun _ => Value.type "tuple") (v0 :: vr)).toArray.all fun x => x == Value.type "tuple") = true := by
              simp only [List.all_toArray, List.all_map, List.all_eq_true]
              intro _ _
              rfl
            have h0' : (List.map (fun _ => Value.type "tuple") (v0 :: vr)).toArray[0]? = some (Value.type "tuple") := by simp
            rw [h0']
            simp only [hall, if_true]
            exact wpAny_pure (wpAny_pure hq)
end
end TL

set_option Elab.async false
set_option linter.all false
set_option maxRecDepth 100000
set_option maxHeartbeats 4000000
/-! TMb: sorted of a list, a tuple, a dict. -/
namespace TL
open PySem PySem.W PySem.Calls PyProof.Rows L2

section
variable {prog : Program} {w : World} {A : Around} {E : Value → Shared → Prop} {s : Shared}
/-- sorted of anything whose items are gathered -/
theorem sorted_src {src : Value} {vs : List Value} {ds : List PyData} {Rl : Value → PyData → Prop} {Q : Value → Shared → Prop} (hL : vs.length ≤ sizeLine)
    (col : ∀ {E' : Value → Shared → Prop} {Q' : List Value → Shared → Prop}, (∀ (h' : Heap) (tk : Nat), (∀ b o, s.heap.get? b = some o → h'.get? b = some o) → Q' vs { s with heap := h', toks := tk }) → wpAny (model prog w) A.in1 (collect src) Q' E' s)
    (e : EachIs Rl vs ds) (er : EachIs (fun v d => ∃ as, Reads s.heap v d as) vs ds) (hal : AllAlike ds) (hk : (∀ d, d ∈ ds → ∃ xs, d = .tuple xs) ∨ Sortable ds) (hu : ∀ d, d ∈ ds → A.units + 2 + d.depth < cLine)
    (h : ∀ (h1 h' : Heap) (tk : Nat) (out : List Value) (c : Nat), (∀ b o, s.heap.get? b = some o → h1.get? b = some o) → (∀ b o, h1.get? b = some o → h'.get? b = some o) → h'.get? h1.objs.size = some { cls := .type "list", data := .seq (List.toArray out) c } → out.length = ds.length →
      EachIs Rl out (ds.mergeSort (dataLe false id)) → Q (.ref h1.objs.size) { s with heap := h', toks := tk }) :
    wpAny (model prog w) A (call (.builtin "sorted") [src]) Q E s := by
  refine call_function_entry_kw (kw := []) kind_sorted plain_sorted entry_sorted (args_sorted1 _) ?_
  unfold Builtin.«sorted»
  refine wpAny_bind (m := checkCount "sorted" 1 1 _) (wpAny_pure ?_)
  refine wpAny_bind (col fun h1 tk k1 => ?_)
  refine wpAny_bind (wpAny_newList ?_ hL)
  have k2 : ∀ b o, h1.get? b = some o → (h1.push (seqObj "list" vs.toArray 0)).get? b = some o := fun b o q => Heap.get?_push_of_some _ q
  have at2 : (h1.push (seqObj "list" vs.toArray 0)).get? h1.objs.size = some (seqObj "list" vs.toArray 0) := Heap.get?_push_size _ rfl
  show wpAny _ _ _ _ _ { s with heap := h1.push (seqObj "list" vs.toArray 0), toks := tk }
  have kS : ∀ b o, s.heap.get? b = some o → (sortingHeap (h1.push (seqObj "list" vs.toArray 0)) h1.objs.size vs).get? b = some o := fun b o q =>
    sortingHeap_old (Nat.ne_of_lt (Heap.lt_size (k1 b o q))) (k2 b o (k1 b o q))
  have er' : EachIs (fun v d => ∃ as, Reads (sortingHeap (h1.push (seqObj "list" vs.toArray 0)) h1.objs.size vs) v d as) vs ds := er.mono fun _ _ ⟨as, r⟩ => ⟨as, PyProof.Rows.Reads.keeps kS r⟩
  have S : SortsAt prog w A.in1.in1 { s with heap := sortingHeap (h1.push (seqObj "list" vs.toArray 0)) h1.objs.size vs, toks := tk } (dataKind (sortingHeap (h1.push (seqObj "list" vs.toArray 0)) h1.objs.size vs) ds) vs := by
    rcases hk with ht | hs
    · exact sorts_tups er' hal ht fun d hd => hu d hd
    · exact SortsAt.data er' hal hs fun d hd => hu d hd
  refine wpAny_bind (wpAny_holding (wpAny_call_entry_kw (kw := []) slot_list_sort ⟨_, at2, rfl⟩ entry_list_sort ?body (args_list_sort _)))
  case body =>
    refine list_sort_vals (n := 0) at2 S hL ⟨.none, rfl, wpAny_pure ⟨_, rfl, ?_⟩⟩
    obtain ⟨c, hc⟩ := sortedHeap_at (vs := vs) (out := (sortVals (dataKind (sortingHeap (h1.push (seqObj "list" vs.toArray 0)) h1.objs.size vs) ds) false vs vs).toArray) at2
    have sv := sortVals_data (h' := sortingHeap (h1.push (seqObj "list" vs.toArray 0)) h1.objs.size vs) (enc := id) false (R := Rl) (vs := vs) (bs := ds) e er' (by simpa using hal)
    have hid : ds.map id = ds := List.map_id _
    rw [hid] at sv
    exact h h1 _ tk _ c k1 (fun b o q => (sortedHeap_old (Nat.ne_of_lt (Heap.lt_size q)) (Heap.lt_size (k2 b o q))).trans (k2 b o q)) hc (by rw [sortVals_length false rfl]; exact e.length) sv
end
/-! in the frame -/
theorem each_of_vals {G : Gx} {Hm : Hp} : ∀ {xs : List V} {us : List Value} {ds : List PyData}, Vals xs us → RpA G Hm xs ds → EachIs (fun u d => ∃ v, RelV v u ∧ Rp G Hm v d) us ds
  | _, _, _, .nil, .nil => .nil
  | _, _, _, .cons r rr, .cons q qq => .cons ⟨_, r, q⟩ (each_of_vals rr qq)
theorem vals_of_each {G : Gx} {Hm : Hp} : ∀ {us : List Value} {ds : List PyData}, EachIs (fun u d => ∃ v, RelV v u ∧ Rp G Hm v d) us ds → ∃ xs, Vals xs us ∧ RpA G Hm xs ds
  | _, _, .nil => ⟨[], .nil, .nil⟩
  | _, _, .cons ⟨v, r, q⟩ t => by
    obtain ⟨xs, h1, h2⟩ := vals_of_each t
    exact ⟨v :: xs, .cons r h1, .cons q h2⟩
section
variable {X : Cx}
theorem shaped_all {ds : List PyData} : SeqAt.shaped (.list ds) = true → ∀ d ∈ ds, SeqAt.shaped d = true ∧ d.depth ≤ 64 := by
  intro h
  have key : ∀ ds : List PyData, PyData.canLayAll0 ds = true → PyData.depthAll ds ≤ 64 → ∀ d ∈ ds, SeqAt.shaped d = true ∧ d.depth ≤ 64 := by
    intro ds
    induction ds with
    | nil => intro _ _ d hd; cases hd
    | cons x ds ih =>
      intro h1 h2 d hd
      simp only [PyData.canLayAll0, Bool.and_eq_true] at h1
      simp only [PyData.depthAll] at h2
      rcases List.mem_cons.mp hd with rfl | hd
      · exact ⟨by simp [SeqAt.shaped, h1.1]; omega, by omega⟩
      · exact ih h1.2 (by omega) d hd
  simp only [SeqAt.shaped, Bool.and_eq_true, decide_eq_true_eq] at h
  refine key ds (by simpa [PyData.canLay0] using h.1) ?_
  have := h.2
  simp only [PyData.depth] at this
  omega
theorem sortable_kind {ds : List PyData} (h1 : allAlike ds = true) (h2 : noNone ds = true) : (∀ d, d ∈ ds → ∃ xs, d = .tuple xs) ∨ Sortable ds := by
  simp only [allAlike, List.all_eq_true] at h1
  simp only [noNone, List.all_eq_true] at h2
  cases ds with
  | nil => exact .inl fun d hd => by cases hd
  | cons d0 r =>
    by_cases ht : ∃ xs, d0 = .tuple xs
    · obtain ⟨xs, rfl⟩ := ht
      refine .inl fun d hd => ?_
      have := h1 d hd (.tuple xs) List.mem_cons_self
      cases d <;> first | exact ⟨_, rfl⟩ | simp [alike] at this
    · refine .inr (.inr fun d hd => ⟨fun e => ?_, fun xs e => ?_⟩)
      · subst e; have := h2 _ hd; simp at this
      · subst e
        have := h1 d0 List.mem_cons_self (.tuple xs) hd
        cases d0 <;> first | exact ht ⟨_, rfl⟩ | simp [alike] at this
/-- what is gathered is sorted -/
theorem sort_in (B : XB X) {pins : List (Addr × Obj)} {s : Shared} {σ : L2.St} {H : Hp} {m : Addr → Bool} {src : Value} {xs : List V} {us : List Value} {ds : List PyData} {Q : VK} (I : Inv X pins σ H s) (dm : Dom m H) (rv : Vals xs us) (ra : RpA (gx X) (mk m H) xs ds)
    (hL : us.length ≤ sizeLine) (hs : sortable ds = true)
    (col : ∀ {E' : Value → Shared → Prop} {Q' : List Value → Shared → Prop}, (∀ (h' : Heap) (tk : Nat), (∀ b o, s.heap.get? b = some o → h'.get? b = some o) → Q' us { s with heap := h', toks := tk }) → wpAny (model X.prog X.w) X.A.in1 (collect src) Q' E' s)
    (k : ∀ a o, H a = none → Ob (gx X) (mk m H) (upd H a o) a (.list (sortD ds)) → Q (.ref a) (upd H a o)) : wpAny (model X.prog X.w) X.A (call (.builtin "sorted") [src]) (EP X pins σ Q) X.xe s := by
  unfold sortable at hs
  simp only [Bool.and_eq_true] at hs
  obtain ⟨⟨h1, h2⟩, h3⟩ := hs
  have hal : AllAlike ds := by
    intro d hd d' hd'
    simp only [allAlike, List.all_eq_true] at h1
    exact h1 d hd d' hd'
  have hd := shaped_all h3
  refine sorted_src (Rl := fun u d => ∃ v, RelV v u ∧ Rp (gx X) (mk m H) v d) hL col (each_of_vals rv ra) ?_ hal ?_ (fun d hdm => ?_) fun g1 g' tk out c k1 k2 ho hl ev => ?_
  · refine (each_mem (each_of_vals rv ra)).mono fun u d ⟨⟨v, r, q⟩, hm⟩ => Inv.readsD I (q.mono (mk_sub m H)) (hd d hm).1 r
  · exact sortable_kind h1 h2
  · have := (hd d hdm).2
    have := B.un
    omega
  · rw [← sortD_ms] at ev
    obtain ⟨ys, v1, v2⟩ := vals_of_each ev
    have I1 : Inv X pins σ H { s with heap := g1, toks := tk } := I.kept k1
    have hn : H g1.objs.size = none := I1.hok.fresh (Nat.le_refl _)
    have hlen : ys.length ≤ sizeLine := by
      rw [v1.length, hl, ← ra.length, rv.length]; exact hL
    have I2 : Inv X pins σ (upd H g1.objs.size (.lst ys)) { s with heap := g', toks := tk } := I1.laid (t' := tk) k2 (Nat.le_refl _) ⟨hlen, out, c, v1, ho⟩
    exact ⟨.ref g1.objs.size, _, I2, rfl, k _ _ hn (.lst upd_same v2)⟩
theorem keyIs_V {k : L2.Key} {v : Value} (h : L2.keyIs k v = true) : RelV (L2.kV k) v := L2.keyIs_rel h
theorem rp_keys {G : Gx} {Hm : Hp} : ∀ {kv : List (L2.Key × V)} {kvs : List (PyData × PyData)}, kvs.map (·.1) = kv.map (fun p => keyD p.1) → RpA G Hm (kv.map fun p => L2.kV p.1) (kvs.map (·.1))
  | [], [], _ => .nil
  | [], _ :: _, h => by simp at h
  | _ :: _, [], h => by simp at h
  | p :: kv, q :: kvs, h => by
    simp only [List.map_cons, List.cons.injEq] at h
    rw [List.map_cons, List.map_cons]
    refine .cons ?_ (rp_keys h.2)
    rw [h.1]
    rcases hp : p.1 with i | x
    · exact .int i
    · exact .str x
theorem vals_items {P : Nat → Value → Prop} {acc : Array Value} {xs : List V} (h : ItemsOf P acc xs.length) (f : ∀ (j : Nat) (x : V) (u : Value), xs[j]? = some x → P j u → RelV x u) : Vals xs acc.toList := by
  refine L2.vals_of_at (by rw [Array.length_toList]; exact h.1.symm) fun j x u h1 h2 => f j x u h1 (h.2 j u ?_)
  rw [← Array.getElem?_toList]; exact h2
theorem bf_sorted (B : XB X) : CallR X (.builtin "sorted") (rBF (gx X) (semB .sorted)) := by
  intro pins s σ H vs us Q I r h
  obtain ⟨m, ds, res, dm, hv, hs, k⟩ := h
  obtain ⟨d, rfl⟩ := semB1 hs ⟨by decide, by decide, by decide⟩
  obtain ⟨v, rfl, o⟩ := opd1 hv
  have sub := mk_sub m H
  simp only [semB, Option.bind_eq_some_iff] at hs
  obtain ⟨es, e1, e2⟩ := hs
  split at e2
  · rename_i hso
    cases e2
    obtain ⟨u, rfl, ru⟩ : ∃ u, us = [u] ∧ RelV v u := by
      cases r with
      | cons a b => cases b; exact ⟨_, rfl, a⟩
    cases d <;> simp only [srcD, reduceCtorEq] at e1
    · cases e1
      obtain ⟨a, xs, rfl, h1, h2⟩ := o.list sub
      cases ru
      obtain ⟨z, its, n, sl, rv, ho⟩ := Inv.seqL I h1
      refine sort_in B I dm rv h2 (by rw [← rv.length]; exact z) hso (fun {E' Q'} hq => wpAny_collect_seq a (.inl rfl) ho rfl rfl (fun h' hk => ?_) (by rw [List.size_toArray, ← rv.length]; exact z)) k
      exact hq h' s.toks hk
    · cases e1
      obtain ⟨a, xs, rfl, h1, h2⟩ := o.tuple
      cases ru
      obtain ⟨its, rv, ht, z⟩ := I.tuple (sqT_same sub h1)
      obtain ⟨ob, ho, hc, n, hd⟩ := ht
      refine sort_in B I dm rv h2 (by rw [← rv.length]; exact z) hso (fun {E' Q'} hq => wpAny_collect_seq a (.inr rfl) ho hc hd (fun h' hk => ?_) (by rw [List.size_toArray, ← rv.length]; exact z)) k
      exact hq h' s.toks hk
    · cases e1
      rename_i kvs
      obtain ⟨a, rfl, hc⟩ := dict_cases sub o
      cases ru
      have go : ∀ (ob : Obj) (es : Array DictEntry) (ep : Nat) (xs : List V), s.heap.get? a = some ob → ob.ExactDict → ob.data = .dict es ep → (a == sysModules) = false → Vals xs (es.toList.map (·.key)) → RpA (gx X) (mk m H) xs (kvs.map (·.1)) → es.size ≤ sizeLine →
          wpAny (model X.prog X.w) X.A (call (.builtin "sorted") [.ref a]) (EP X pins σ Q) X.xe s := fun ob es ep xs ho hx hd lo rv ra hz => by
        refine sort_in B I dm rv ra (by simpa using hz) hso (fun {E' Q'} hq => kdu_collect (L2.kdl_raw lo hx hd) (by show X.A.handled = none; exact I.ok.hd B.calm) ho hz fun h' tk acc hk hi => ?_) k
        have e : acc.toList = es.toList.map (·.key) := by
          refine List.ext_getElem? fun j => ?_
          rw [List.getElem?_map, Array.getElem?_toList, Array.getElem?_toList]
          cases hj : acc[j]? with
          | none =>
            have : es.size ≤ j := by rw [← hi.1]; exact Array.getElem?_eq_none_iff.mp hj
            rw [Array.getElem?_eq_none this]; rfl
          | some u =>
            obtain ⟨en, h1, h2⟩ := hi.2 j u hj
            rw [h1, h2]; rfl
        rw [e]
        exact hq h' tk hk
      rcases hc with ⟨kv, h1, h2, h3⟩ | ⟨ks, h1, h2, h6, h3, h4, h5⟩
      · obtain ⟨z, lo, vs', rk, ob, es, ep, ho, hx, hd, hK, hP, hN⟩ := h1.ok I.hok
        have hpl : ∀ {es : List DictEntry} {vs' : List (L2.Key × Value)} {kv : List (L2.Key × V)}, Pairs (mixKind X.prog X.w) es vs' → KV kv vs' → Vals (kv.map fun p => L2.kV p.1) (es.map (·.key)) := by
          intro es vs' kv hp hv
          induction hp generalizing kv with
          | nil => cases hv; exact .nil
          | cons hk _ _ ih =>
            cases hv with
            | cons r rr =>
              refine .cons ?_ (ih rr)
              show RelV (L2.kV _) _
              rw [r.1]
              exact L2.keyIs_rel hk
        have hsz : ∀ {es : List DictEntry} {vs' : List (L2.Key × Value)}, Pairs (mixKind X.prog X.w) es vs' → es.length = vs'.length := by
          intro es vs' hp
          induction hp with
          | nil => rfl
          | cons _ _ _ ih => simp [ih]
        refine go ob es ep (kv.map fun p => L2.kV p.1) ho hx hd lo (hpl hP rk) (rp_keys h2) ?_
        have l1 := Paired.length rk
        have l2 := hsz hP
        simp at l2
        omega
      · obtain ⟨⟨z, lo, ys, pr, ob, es, ep, ho, hx, hd, he⟩, _⟩ := I.hok a _ h1
        refine go ob es ep (ks.map fun p => V.ref p.2.1) ho hx hd lo ?_ h4 ?_
        · rw [he, List.map_map]
          have : ∀ {ks : List (NestedKey × Addr × V)} {ys : List (NestedKey × Addr × Value)}, Paired (fun (p : NestedKey × Addr × V) (q : NestedKey × Addr × Value) => p.1 = q.1 ∧ p.2.1 = q.2.1 ∧ RelV p.2.2 q.2.2) ks ys →
              Vals (ks.map fun p => V.ref p.2.1) (ys.map fun q => (entryOfKey (nestedKind X.prog X.w) q).key) := by
            intro ks ys h
            induction h with
            | nil => exact .nil
            | cons h t ih => exact .cons (show RelV (.ref _) (Value.ref _) by rw [h.2.1]; rfl) ih
          exact this pr
        · have l1 := Paired.length pr
          have l2 := congrArg List.length he
          simp at l2
          omega
  · cases e2
end
end TL

set_option Elab.async false
set_option linter.all false
set_option maxRecDepth 100000
set_option maxHeartbeats 4000000
/-! TMc: sorted of a set of tuples. -/
namespace TL
open PySem PySem.W PySem.Calls PyProof.Rows L2
section
variable {prog : Program} {w : World} {A : Around} {E : Value → Shared → Prop} {s : Shared}
/-- sorted of anything whose items are gathered, in whatever sequence -/
theorem sorted_core {src : Value} {Pc : List Value → Shared → Prop} {Q : Value → Shared → Prop} (col : ∀ {E' : Value → Shared → Prop}, wpAny (model prog w) A.in1 (collect src) Pc E' s)
    (go : ∀ us s1, Pc us s1 → us.length ≤ sizeLine ∧ ∃ (ds : List PyData) (Rl : Value → PyData → Prop), EachIs Rl us ds ∧ EachIs (fun v d => ∃ as, Reads s1.heap v d as) us ds ∧ AllAlike ds ∧ ((∀ d, d ∈ ds → ∃ xs, d = .tuple xs) ∨ Sortable ds) ∧ (∀ d, d ∈ ds → A.units + 2 + d.depth < cLine) ∧
      ∀ (h' : Heap) (out : List Value) (c : Nat), (∀ b o, s1.heap.get? b = some o → h'.get? b = some o) → h'.get? s1.heap.objs.size = some { cls := .type "list", data := .seq (List.toArray out) c } → out.length = ds.length →
        EachIs Rl out (ds.mergeSort (dataLe false id)) → Q (.ref s1.heap.objs.size) { s1 with heap := h' }) : wpAny (model prog w) A (call (.builtin "sorted") [src]) Q E s := by
  refine call_function_entry_kw (kw := []) kind_sorted plain_sorted entry_sorted (args_sorted1 _) ?_
  unfold Builtin.«sorted»
  refine wpAny_bind (m := checkCount "sorted" 1 1 _) (wpAny_pure ?_)
  refine wpAny_bind (wpAny_mono col (fun vs s1 hp => ?_) fun _ _ z => z)
  obtain ⟨hL, ds, Rl, e, er, hal, hk, hu, h⟩ := go vs s1 hp
  refine wpAny_bind (wpAny_newList ?_ hL)
  have k2 : ∀ b o, s1.heap.get? b = some o → (s1.heap.push (seqObj "list" vs.toArray 0)).get? b = some o := fun b o q => Heap.get?_push_of_some _ q
  have at2 : (s1.heap.push (seqObj "list" vs.toArray 0)).get? s1.heap.objs.size = some (seqObj "list" vs.toArray 0) := Heap.get?_push_size _ rfl
  show wpAny _ _ _ _ _ { s1 with heap := s1.heap.push (seqObj "list" vs.toArray 0) }
  have kS : ∀ b o, s1.heap.get? b = some o → (sortingHeap (s1.heap.push (seqObj "list" vs.toArray 0)) s1.heap.objs.size vs).get? b = some o := fun b o q =>
    sortingHeap_old (Nat.ne_of_lt (Heap.lt_size q)) (k2 b o q)
  have er' : EachIs (fun v d => ∃ as, Reads (sortingHeap (s1.heap.push (seqObj "list" vs.toArray 0)) s1.heap.objs.size vs) v d as) vs ds := er.mono fun _ _ ⟨as, r⟩ => ⟨as, PyProof.Rows.Reads.keeps kS r⟩
  have S : SortsAt prog w A.in1.in1 { s1 with heap := sortingHeap (s1.heap.push (seqObj "list" vs.toArray 0)) s1.heap.objs.size vs } (dataKind (sortingHeap (s1.heap.push (seqObj "list" vs.toArray 0)) s1.heap.objs.size vs) ds) vs := by
    rcases hk with ht | hs
    · exact sorts_tups er' hal ht fun d hd => hu d hd
    · exact SortsAt.data er' hal hs fun d hd => hu d hd
  refine wpAny_bind (wpAny_holding (wpAny_call_entry_kw (kw := []) slot_list_sort ⟨_, at2, rfl⟩ entry_list_sort ?body (args_list_sort _)))
  case body =>
    refine list_sort_vals (n := 0) at2 S hL ⟨.none, rfl, wpAny_pure ⟨_, rfl, ?_⟩⟩
    obtain ⟨c, hc⟩ := sortedHeap_at (vs := vs) (out := (sortVals (dataKind (sortingHeap (s1.heap.push (seqObj "list" vs.toArray 0)) s1.heap.objs.size vs) ds) false vs vs).toArray) at2
    have sv := sortVals_data (h' := sortingHeap (s1.heap.push (seqObj "list" vs.toArray 0)) s1.heap.objs.size vs) (enc := id) false (R := Rl) (vs := vs) (bs := ds) e er' (by simpa using hal)
    have hid : ds.map id = ds := List.map_id _
    rw [hid] at sv
    exact h _ _ c (fun b o q => (sortedHeap_old (Nat.ne_of_lt (Heap.lt_size q)) (Heap.lt_size (k2 b o q))).trans (k2 b o q)) hc (by rw [sortVals_length false rfl]; exact e.length) sv
end
theorem alike_tupI (a b : List Int) : alike (tupI a) (tupI b) = true := by simpa [tupI, alike] using alike_ints a b
theorem dataLt_tupI (a b : List Int) : dataLt (tupI a) (tupI b) = decide (a < b) := by
  unfold tupI
  rw [dataLt_tuple]
  exact dataLt_ints a b
theorem dataLe_tupI (a b : List Int) : dataLe false id (tupI a) (tupI b) = decide (a ≤ b) := by
  show (!dataLt (tupI b) (tupI a)) = _
  rw [dataLt_tupI]
  by_cases h : b < a
  · have : ¬ a ≤ b := fun q => List.not_lt.mpr q h
    simp [h, this]
  · have : a ≤ b := List.not_lt.mp h
    simp [h, this]
theorem shaped_tupI (k : List Int) : SeqAt.shaped (tupI k) = true ∧ (tupI k).depth ≤ 64 := by
  have h1 : ∀ l : List Int, PyData.canLayAll0 (l.map .int) = true := by
    intro l
    induction l with
    | nil => rfl
    | cons x l ih => simp [PyData.canLayAll0, PyData.canLay0]; simpa using ih
  have h2 : (tupI k).depth ≤ 64 := by
    unfold tupI
    simp only [PyData.depth, depth_ints]
    omega
  exact ⟨by simp [SeqAt.shaped, h2]; simpa [tupI, PyData.canLay0] using h1 k, h2⟩
theorem sortI_perm {a b : List (List Int)} (h : a.Perm b) : sortI a = sortI b := by
  rw [sortI_ms, sortI_ms]
  refine List.Perm.eq_of_pairwise (le := fun x y => decide (x ≤ y) = true) (fun x y _ _ h1 h2 => ?_) ?_ ?_ (((List.mergeSort_perm _ _).trans h).trans (List.mergeSort_perm _ _).symm)
  · simp only [decide_eq_true_eq] at h1 h2
    exact List.le_antisymm h1 h2
  · exact List.pairwise_mergeSort le_trans_I le_total_I _
  · exact List.pairwise_mergeSort le_trans_I le_total_I _
theorem sortD_I (ks : List (List Int)) : sortD (ks.map tupI) = (sortI ks).map tupI := by
  rw [sortD_ms, sortI_ms]
  exact (List.map_mergeSort (r := fun a b => decide (a ≤ b)) (s := dataLe false id) (f := tupI) (fun a _ b _ => (dataLe_tupI a b).symm)).symm
theorem perm_map_inv {α β : Type} {f : α → β} : ∀ {l l2 : List β}, l.Perm l2 → ∀ L : List α, l2 = L.map f → ∃ L1 : List α, L1.Perm L ∧ l = L1.map f := by
  intro l l2 h
  induction h with
  | nil => intro L e; exact ⟨[], by cases L <;> simp at e; exact .nil, rfl⟩
  | cons x _ ih =>
    intro L e
    cases L with
    | nil => simp at e
    | cons y L =>
      simp only [List.map_cons, List.cons.injEq] at e
      obtain ⟨L1, h1, h2⟩ := ih L e.2
      exact ⟨y :: L1, .cons y h1, by rw [List.map_cons, h2, e.1]⟩
  | swap x y l =>
    intro L e
    match L, e with
    | a :: b :: L, e =>
      simp only [List.map_cons, List.cons.injEq] at e
      exact ⟨b :: a :: L, .swap _ _ _, by rw [List.map_cons, List.map_cons, e.1, e.2.1, e.2.2]⟩
  | trans _ _ ih1 ih2 =>
    intro L e
    obtain ⟨L1, h1, h2⟩ := ih2 L e
    obtain ⟨L2, h3, h4⟩ := ih1 L1 h2
    exact ⟨L2, h3.trans h1, h4⟩
theorem each_refs {P : Value → PyData → Prop} : ∀ L1 : List (Addr × List Int), (∀ q ∈ L1, P (.ref q.1) (tupI q.2)) → EachIs P (L1.map fun q => Value.ref q.1) (L1.map fun q => tupI q.2)
  | [], _ => .nil
  | q :: L1, hP => .cons (hP q List.mem_cons_self) (each_refs L1 fun r hr => hP r (List.mem_cons_of_mem _ hr))
theorem tup_sq {G : Gx} {Hm : Hp} {b : Addr} {k : List Int} (h : Rp G Hm (.ref b) (tupI k)) : SqT G.K Hm b (k.map V.int) := by
  cases h with
  | tup h1 h2 => rw [h2.ints] at h1; exact h1
theorem rp_tupI {G : Gx} {Hm : Hp} {b : Addr} {k : List Int} (h : SqT G.K Hm b (k.map V.int)) : Rp G Hm (.ref b) (tupI k) := by
  refine .tup h ?_
  induction k with
  | nil => exact .nil
  | cons x k ih =>
    have : ∀ l : List Int, RpA G Hm (l.map V.int) (l.map .int) := by
      intro l
      induction l with
      | nil => exact .nil
      | cons y l ih => exact .cons (.int y) ih
    exact this _
section
variable {X : Cx}
/-- sorted of a set of tuples of ints -/
def rSS (G : Gx) : List V → Hp → VK → Prop := fun vs H Q => ∃ a L m, vs = [V.ref a] ∧ H a = some (SetTO G.P G.w a L) ∧ Dom m H ∧ (∀ p ∈ L, Rp G (mk m H) (.ref p.1) (tupI p.2)) ∧
  ∀ b o, (L.map (·.2)).Nodup → H b = none → Ob G (mk m H) (upd H b o) b (.list ((sortI (L.map (·.2))).map tupI)) → Q (.ref b) (upd H b o)
theorem cr_SS (B : XB X) : CallR X (.builtin "sorted") (rSS (gx X)) := by
  intro pins s σ H vs us Q I r h
  obtain ⟨a, L, m, rfl, ha, dm, hp, k⟩ := h
  have R0 : SetT0 X.prog X.w s.heap a L := (I.hok a _ ha).1
  have sub := mk_sub m H
  obtain ⟨es, ep, t, R⟩ := R0.full fun p hp' => I.isT (sqT_same sub (tup_sq (hp p hp')))
  obtain ⟨ob, ho, hex, hd⟩ := R.ob
  have hfew := R.few
  have hsz := R.size
  rw [Vals.ref1 r]
  have hes : es.toList.map (·.2) = L.map fun q => Value.ref q.1 := by
    rw [R.rows]
    unfold L2.rowsOf
    rw [List.map_map] <;> rfl
  refine sorted_core (Pc := fun out s' => (∀ b o, s.heap.get? b = some o → s'.heap.get? b = some o) ∧ s'.gens = s.gens ∧ s'.os = s.os ∧ s.heap.objs.size ≤ s'.heap.objs.size ∧ out.Perm (L.map fun q => Value.ref q.1))
    (fun {E'} => collect_set (A := X.A.in1) (I.ok.hd B.calm) ⟨ob, ho, hex.1, hd⟩ R.fits (by unfold scanBound; omega) R.tab.ris R.led fun s' out k1 hz g1 o1 pm => ⟨k1, g1, o1, hz, by rw [← hes]; exact pm⟩) fun us s1 ⟨k1, g1, o1, hz, pm⟩ => ?_
  obtain ⟨L1, pL, rfl⟩ := perm_map_inv pm L rfl
  have hl1 : L1.length = L.length := pL.length_eq
  have mem : ∀ q ∈ L1, q ∈ L := fun q hq => pL.mem_iff.mp hq
  have I1 : Inv X pins σ H { s with heap := s1.heap, gens := s1.gens, drawn := s1.drawn, toks := s1.toks } :=
    I.call (ch := []) (Un.kept k1) (I.hok.kept k1) (by rw [g1]; exact I.bare) (fun _ z => nomatch z)
  have es1 : s1 = { s with heap := s1.heap, gens := s1.gens, drawn := s1.drawn, toks := s1.toks } := by
    cases s1; cases s; cases o1; rfl
  refine ⟨by rw [List.length_map, hl1, sizeLine_eq]; omega, L1.map (fun q => tupI q.2), fun u d => ∃ v, RelV v u ∧ Rp (gx X) (mk m H) v d, each_refs L1 fun q hq => ⟨.ref q.1, rfl, hp q (mem q hq)⟩, each_refs L1 fun q hq => ?_, ?_, .inl fun d hd' => ?_, fun d hd' => ?_, fun h' out c k2 hat hlen ev => ?_⟩
  · exact Inv.readsD I1 ((hp q (mem q hq)).mono sub) (shaped_tupI _).1 rfl
  · intro d hd' d' hd''
    obtain ⟨q, _, rfl⟩ := List.mem_map.mp hd'
    obtain ⟨q', _, rfl⟩ := List.mem_map.mp hd''
    exact alike_tupI _ _
  · obtain ⟨q, _, rfl⟩ := List.mem_map.mp hd'
    exact ⟨_, rfl⟩
  · obtain ⟨q, _, rfl⟩ := List.mem_map.mp hd'
    have := (shaped_tupI q.2).2
    have := B.un
    omega
  · have e1 : (L1.map fun q => tupI q.2).mergeSort (dataLe false id) = (sortI (L.map (·.2))).map tupI := by
      have := sortD_I (L1.map (·.2))
      rw [List.map_map] at this
      rw [show (L1.map fun q => tupI q.2) = L1.map (tupI ∘ (·.2)) from rfl]
      rw [← sortD_ms]
      rw [this, sortI_perm (pL.map _)]
    rw [e1] at ev
    obtain ⟨ys, v1, v2⟩ := vals_of_each ev
    have hn : H s1.heap.objs.size = none := I1.hok.fresh (Nat.le_refl _)
    have hz2 : ys.length ≤ sizeLine := by rw [v1.length, hlen, List.length_map, hl1, sizeLine_eq]; omega
    have I2 : Inv X pins σ (upd H s1.heap.objs.size (.lst ys)) { s with heap := h', gens := s1.gens, drawn := s1.drawn, toks := s1.toks } := I1.laid (t' := s1.toks) k2 (Nat.le_refl _) ⟨hz2, out, c, v1, hat⟩
    have e2 : ({ s1 with heap := h' } : Shared) = { s with heap := h', gens := s1.gens, drawn := s1.drawn, toks := s1.toks } := by
      cases s1; cases s; cases o1; rfl
    rw [e2]
    exact ⟨.ref s1.heap.objs.size, _, I2, rfl, k _ _ R.nd hn (.lst upd_same v2)⟩
end
end TL

set_option Elab.async false
set_option linter.all false
set_option maxRecDepth 100000
set_option maxHeartbeats 4000000
/-! TMd: repr; sorted(set(..)). -/
namespace TL
open PySem PySem.W PyProof.Rows L2
section
variable {X : Cx}
theorem bf_repr (B : XB X) : CallR X (.builtin "repr") (rB (gx X) (semB .repr)) := by
  intro pins s σ H vs us Q I r h
  obtain ⟨m, ds, res, dm, hv, hs, k⟩ := h
  obtain ⟨d, rfl⟩ := semB1 hs ⟨by decide, by decide, by decide⟩
  obtain ⟨v, rfl, o⟩ := opd1 hv
  have sub := mk_sub m H
  obtain ⟨u, rfl, ru⟩ : ∃ u, us = [u] ∧ RelV v u := by
    cases r with
    | cons a b => cases b; exact ⟨_, rfl, a⟩
  simp only [semB] at hs
  split at hs
  · rename_i hc
    cases hs
    simp only [Bool.and_eq_true] at hc
    obtain ⟨⟨h1, h2⟩, h3⟩ := hc
    have hz := few_le h3
    have un := B.un
    have fin : ∀ (h' : Heap) (t tk : Nat), (∀ b ob, s.heap.get? b = some ob → h'.get? b = some ob) → EP X pins σ Q (.str d.shown t) { s with heap := h', toks := tk } := fun h' t tk hk =>
      ⟨.str d.shown, H, I.kept hk, ⟨t, rfl⟩, k _ H (Same.refl _) (.str _)⟩
    have byRef : ∀ a, v = .ref a → wpAny (model X.prog X.w) X.A (call (.builtin "repr") [u]) (EP X pins σ Q) X.xe s := fun a e => by
      subst e
      obtain ⟨as, rd⟩ := Inv.readsD I (o.rp sub) h1 ru
      cases ru
      have hd := SeqAt.depth_of_shaped h1
      exact repr_of_reads' rd h2 (PyData.noDict_hsm (PyData.hasDict_of_canLay d (SeqAt.canLay_of_shaped h1))) B.gd (by omega) (fun b ob q => q) (fun h' t tk hk => fin h' t tk hk) hz
    cases d with
    | none =>
      have e := o.none
      subst e
      cases ru
      exact P.repr_of_none (fin s.heap _ _ fun _ _ q => q)
    | bool b =>
      have e := o.bool
      subst e
      cases ru
      exact P.repr_of_bool (fin s.heap _ _ fun _ _ q => q)
    | int i =>
      have e := o.int
      subst e
      obtain ⟨t, rfl⟩ := ru
      exact P.repr_of_int (by simpa [PyData.showable] using h2) (fin s.heap _ _ fun _ _ q => q)
    | str x =>
      have e := o.str
      subst e
      obtain ⟨t, rfl⟩ := ru
      exact P.repr_of_str (fin s.heap _ _ fun _ _ q => q) hz
    | list xs =>
      obtain ⟨a, ys, e, _⟩ := o.list sub
      exact byRef a e
    | tuple xs =>
      obtain ⟨a, ys, e, _⟩ := o.tuple
      exact byRef a e
    | dict kvs => simp [SeqAt.shaped, PyData.canLay0] at h1
  · cases hs
end
theorem pairs_of {G : Gx} {Hm : Hp} : ∀ {xs : List V} {ks : List (List Int)}, RpA G Hm xs (ks.map tupI) → ∃ L : List (Addr × List Int), xs = L.map (fun p => V.ref p.1) ∧ ks = L.map (·.2) ∧ ∀ p ∈ L, Rp G Hm (.ref p.1) (tupI p.2)
  | _, [], h => by cases h; exact ⟨[], rfl, rfl, fun p hp => by cases hp⟩
  | _, k :: ks, h => by
    cases h with
    | @cons v _ _ _ r rr =>
      obtain ⟨L, h1, h2, h3⟩ := pairs_of rr
      obtain ⟨a, rfl⟩ : ∃ a, v = V.ref a := by cases r; exact ⟨_, rfl⟩
      refine ⟨(a, k) :: L, by rw [h1]; rfl, by rw [h2]; rfl, fun p hp => ?_⟩
      rcases List.mem_cons.mp hp with rfl | hp
      · exact r
      · exact h3 p hp
theorem dedupI_mem : ∀ {ks : List (List Int)} {x : List Int}, x ∈ dedupI ks ↔ x ∈ ks
  | [], x => by simp [dedupI]
  | a :: l, x => by
    have ih := dedupI_mem (ks := l) (x := x)
    unfold dedupI
    by_cases h : a ∈ l
    · rw [if_pos h, ih]
      exact ⟨List.mem_cons_of_mem _, fun q => by rcases List.mem_cons.mp q with rfl | q; exact h; exact q⟩
    · rw [if_neg h, List.mem_cons, ih, List.mem_cons]
theorem dedupI_nodup : ∀ ks : List (List Int), (dedupI ks).Nodup
  | [] => List.nodup_nil
  | a :: l => by
    unfold dedupI
    by_cases h : a ∈ l
    · rw [if_pos h]; exact dedupI_nodup l
    · rw [if_neg h]; exact List.nodup_cons.mpr ⟨fun q => h (dedupI_mem.mp q), dedupI_nodup l⟩
theorem perm_dups {ks l : List (List Int)} (nd : l.Nodup) (h1 : ∀ x ∈ l, x ∈ ks) (h2 : ∀ x ∈ ks, x ∈ l) : sortI l = sortI (dedupI ks) := by
  refine sortI_perm ((List.perm_ext_iff_of_nodup nd (dedupI_nodup ks)).mpr fun x => ?_)
  rw [dedupI_mem]
  exact ⟨h1 x, h2 x⟩
section
variable {G : Gx} {Φ : Fns} {σ : L2.St} {H : Hp} {Q : VK}
theorem tE_srs {e : E} (h : tE G Φ (.blt .srs (.cons false e .nil)) σ H Q) : tCB (rSS G) (tCons (tCB (rSetOfT G.K G.P G.w) (tCons (tE G Φ e) tNil)) tNil) σ H Q := by
  obtain ⟨F, τ, rv, τ', I, e0, k⟩ := h
  simp only [ev, evC, ev_bind_iff] at e0
  obtain ⟨rvs, τ1, ⟨x, τa, e1, xs, τb, e2, e3⟩, ds, τ2, e4, r, τ3, e5, e6⟩ := e0
  obtain ⟨rfl, rfl⟩ := ev_pure_inv e2
  obtain ⟨rfl, rfl⟩ := ev_pure_inv e3
  obtain ⟨hr, rfl⟩ := ev_lift_inv e5
  obtain ⟨rfl, rfl⟩ := ev_pure_inv e6
  obtain ⟨d, es, d1, d2, rfl⟩ := derefs_cons e4
  obtain ⟨rfl, rfl⟩ := ev_pure_inv d2
  cases d <;> simp only [semB, reduceCtorEq, Option.bind_eq_some_iff] at hr
  rename_i ds
  obtain ⟨ks, hks, hr⟩ := hr
  split at hr
  · rename_i hn
    cases hr
    obtain rfl := tis?_inv hks
    refine ⟨F, τ, x, _, I, e1, fun v H1 P1 R1 => ?_⟩
    obtain ⟨_, o⟩ := R1.opd P1.fi d1
    obtain ⟨a, xs, rfl, h1, h2⟩ := o.list (mk_sub _ H1)
    obtain ⟨L0, rfl, rfl, h3⟩ := pairs_of h2
    refine ⟨a, L0, rfl, h1, fun p hp => sqT_same (mk_sub _ H1) (tup_sq (h3 p hp)), by simpa using hn, fun b L hb g1 g2 => ?_⟩
    have P2 := P1.new (o := SetTO G.P G.w b L) hb
    refine ⟨b, L, mb F.M _ σ, rfl, upd_same, P2.fi.domM, fun p hp => (h3 p (g1 p hp)).mono (mk_same (m := mb F.M _ σ) (same_upd hb _)), fun c o nd hc ob => k _ _ (P2.new hc) ?_⟩
    have e7 : sortI (L.map (·.2)) = sortI (dedupI (L0.map (·.2))) := perm_dups nd (fun x hx => by
      obtain ⟨p, hp, rfl⟩ := List.mem_map.mp hx
      exact List.mem_map.mpr ⟨p, g1 p hp, rfl⟩) fun x hx => by
      obtain ⟨p, hp, rfl⟩ := List.mem_map.mp hx
      exact g2 p hp
    rw [e7] at ob
    exact P2.fi.newF (P2.dom hc) hc ob
  · cases hr
end
end TL

set_option Elab.async false
set_option linter.all false
set_option maxRecDepth 100000
set_option maxHeartbeats 4000000
/-! TNa: a dict whose keys are tuples gets an entry. -/
namespace TL
open PySem PySem.Spec PyProof.Rows L2
abbrev KsXs (ks : List (NestedKey × Addr × V)) (xs : List (NestedKey × Addr × Value)) : Prop := Paired (fun (p : NestedKey × Addr × V) (q : NestedKey × Addr × Value) => p.1 = q.1 ∧ p.2.1 = q.2.1 ∧ RelV p.2.2 q.2.2) ks xs
def putK1 (k : NestedKey) (z : V) (p : NestedKey × Addr × V) : NestedKey × Addr × V := if p.1 = k then (p.1, p.2.1, z) else p
def putKs (ks : List (NestedKey × Addr × V)) (k : NestedKey) (q : Addr) (z : V) : List (NestedKey × Addr × V) :=
  if ks.any (fun p => decide (p.1 = k)) then ks.map (putK1 k z) else ks ++ [(k, q, z)]
theorem any_atKey {ks : List (NestedKey × Addr × V)} {xs : List (NestedKey × Addr × Value)} {k : NestedKey} (h : KsXs ks xs) : (atKey xs k).isSome = ks.any (fun p => decide (p.1 = k)) := by
  induction h with
  | nil => rfl
  | @cons p q ks xs r t ih =>
    unfold atKey at ih ⊢
    rw [List.find?_cons, List.any_cons, ← r.1]
    by_cases c : p.1 = k
    · simp [c]
    · simp only [decide_eq_false c, Bool.false_or]
      exact ih
theorem putKs_rel {ks : List (NestedKey × Addr × V)} {xs : List (NestedKey × Addr × Value)} {k : NestedKey} {q : Addr} {z : V} {v : Value} (h : KsXs ks xs) (r : RelV z v) : KsXs (putKs ks k q z) (storedH xs k q v) := by
  unfold putKs storedH
  rw [any_atKey h]
  split
  · rename_i hc; clear hc
    induction h with
    | nil => exact .nil
    | @cons p q ks xs a t ih =>
      refine .cons ?_ ih
      unfold putK1 putAt
      rw [← a.1]
      by_cases c : p.1 = k
      · rw [if_pos c, if_pos c]; exact ⟨rfl, a.2.1, r⟩
      · rw [if_neg c, if_neg c]; exact a
  · rename_i hc; clear hc
    induction h with
    | nil => exact .cons ⟨rfl, rfl, r⟩ .nil
    | cons a t ih => exact .cons a ih
theorem putKs_len (ks : List (NestedKey × Addr × V)) (k : NestedKey) (q : Addr) (z : V) : (putKs ks k q z).length ≤ ks.length + 1 := by
  unfold putKs
  split <;> simp
theorem putKs_fst {ks : List (NestedKey × Addr × V)} {k : NestedKey} {q : Addr} {z : V} : (putKs ks k q z).map (·.1) = if ks.any (fun p => decide (p.1 = k)) then ks.map (·.1) else ks.map (·.1) ++ [k] := by
  unfold putKs
  split
  · rw [List.map_map]
    refine List.map_congr_left fun p _ => ?_
    simp only [Function.comp, putK1]
    split <;> rfl
  · simp
theorem any_dput {G : Gx} {Hm : Hp} {key : PyData} {k : NestedKey} (hk : keyN key = some k) : ∀ {ks : List (NestedKey × Addr × V)} {kvs : List (PyData × PyData)}, kvs.map (fun p => keyN p.1) = ks.map (fun p => some p.1) →
    kvs.any (fun p => PyData.eqv p.1 key) = ks.any (fun p => decide (p.1 = k))
  | [], [], _ => rfl
  | [], _ :: _, h => by simp at h
  | _ :: _, [], h => by simp at h
  | p :: ks, q :: kvs, h => by
    simp only [List.map_cons, List.cons.injEq] at h
    rw [List.any_cons, List.any_cons, any_dput (G := G) (Hm := Hm) hk h.2, eqv_key q.1 key p.1 k h.1 hk]
/-- what is told of the entries stays told -/
theorem dput_dN {G : Gx} {Hm : Hp} {key vd : PyData} {k : NestedKey} {y z : V} {q : Addr} (hk : keyN key = some k) (ry : Rp G Hm (.ref q) key) (rz : Rp G Hm z vd) {ks : List (NestedKey × Addr × V)} {kvs : List (PyData × PyData)} (h3 : kvs.map (fun p => keyN p.1) = ks.map (fun p => some p.1))
    (h4 : RpA G Hm (ks.map (fun p => V.ref p.2.1)) (kvs.map (·.1))) (h5 : RpA G Hm (ks.map (·.2.2)) (kvs.map (·.2))) :
    (dput kvs key vd).map (fun p => keyN p.1) = (putKs ks k q z).map (fun p => some p.1) ∧ RpA G Hm ((putKs ks k q z).map (fun p => V.ref p.2.1)) ((dput kvs key vd).map (·.1)) ∧ RpA G Hm ((putKs ks k q z).map (·.2.2)) ((dput kvs key vd).map (·.2)) := by
  unfold dput putKs
  rw [any_dput (G := G) (Hm := Hm) hk h3]
  split
  · rename_i hc; clear hc ry
    induction ks generalizing kvs with
    | nil => cases kvs <;> simp at h3; exact ⟨rfl, .nil, .nil⟩
    | cons p ks ih =>
      cases kvs with
      | nil => simp at h3
      | cons w kvs =>
        simp only [List.map_cons, List.cons.injEq] at h3
        simp only [List.map_cons] at h4 h5
        cases h4 with
        | cons a1 a2 =>
          cases h5 with
          | cons b1 b2 =>
            obtain ⟨c1, c2, c3⟩ := ih h3.2 a2 b2
            have e := eqv_key w.1 key p.1 k h3.1 hk
            simp only [List.map_cons]
            by_cases c : p.1 = k
            · rw [e, decide_eq_true c, if_pos rfl]
              have ep : putK1 k z p = (p.1, p.2.1, z) := by unfold putK1; rw [if_pos c]
              rw [ep]
              exact ⟨by rw [c1, h3.1], .cons a1 c2, .cons rz c3⟩
            · rw [e, decide_eq_false c, if_neg (by decide)]
              have ep : putK1 k z p = p := by unfold putK1; rw [if_neg c]
              rw [ep]
              exact ⟨by rw [c1, h3.1], .cons a1 c2, .cons b1 c3⟩
  · simp only [List.map_append, List.map_cons, List.map_nil]
    exact ⟨by rw [h3, hk], h4.append (.cons ry .nil), h5.append (.cons rz .nil)⟩
section
variable {X : Cx} {pins : List (Addr × Obj)} {s : Shared} {σ : L2.St} {H : Hp}
/-- a store into a dict with tuple keys -/
theorem d_put (B : XB X) {E : Value → Shared → Prop} {Q : Unit → Shared → Prop} {D : Addr} {m : Addr → Bool} {kvs : List (PyData × PyData)} {key vd : PyData} {y z : V} {u r : Value} (I : Inv X pins σ H s) (ob : Ob (gx X) (mk m H) H D (.dict kvs)) (hm : m D = true) (hk : tupK key = true)
    (ha : (kvs.all fun p => tupK p.1) = true) (ry : Rp (gx X) (mk m H) y key) (rz : Rp (gx X) (mk m H) z vd) (hf : few (kvs.length + 1) = true) (hu : RelV y u) (hr : RelV z r)
    (h : ∀ o s', Inv X pins σ (upd H D o) s' → Ob (gx X) (mk m H) (upd H D o) D (.dict (dput kvs key vd)) → Q () s') : wpAny (model X.prog X.w) X.A (dictSet D u r) Q E s := by
  obtain ⟨ds, k, rfl, hk1, hk2⟩ := tupK_iff hk
  have sub := mk_sub m H
  obtain ⟨q, rfl⟩ : ∃ q, y = V.ref q := by cases ry; exact ⟨_, rfl⟩
  cases hu
  have key1 : (nestedKind X.prog X.w).is s.heap k q := ⟨Inv.nestedIs I _ k _ _ (ry.mono sub) hk1 rfl, hk2⟩
  have room : (nestedKind X.prog X.w).room X.A := by
    have := B.un
    show X.A.units + 8 < cLine
    omega
  -- the dict as the library tells it
  obtain ⟨ks, xs, hd, pr, dh, n1, n2, h3, h4, h5, mu, hlen⟩ : ∃ (ks : List (NestedKey × Addr × V)) (xs : List (NestedKey × Addr × Value)), (D == sysModules) = false ∧ KsXs ks xs ∧ s.heap.DictOfH (nestedKind X.prog X.w) D xs ∧ (ks.map (·.1)).Nodup ∧ (∀ p ∈ ks, p.1.depth ≤ 8) ∧
      kvs.map (fun p => keyN p.1) = ks.map (fun p => some p.1) ∧ RpA (gx X) (mk m H) (ks.map (fun p => V.ref p.2.1)) (kvs.map (·.1)) ∧ RpA (gx X) (mk m H) (ks.map (·.2.2)) (kvs.map (·.2)) ∧ Mut (H D) ∧ ks.length = kvs.length := by
    cases ob with
    | dK h1 h2 h3 =>
      rename_i kv
      have e : kvs = [] := by
        cases kvs with
        | nil => rfl
        | cons p kvs =>
          cases kv with
          | nil => simp at h2
          | cons w kv =>
            simp only [List.map_cons, List.cons.injEq] at h2
            simp only [List.all_cons, Bool.and_eq_true] at ha
            obtain ⟨_, _, e, _⟩ := tupK_iff ha.1
            rw [h2.1] at e
            exfalso
            revert e
            rcases w.1 with i | x <;> (intro e; cases e)
      subst e
      have e2 : kv = [] := by cases kv with
        | nil => rfl
        | cons _ _ => simp at h2
      subst e2
      obtain ⟨a1, a2⟩ := dK_nil_H I (.inl h1)
      exact ⟨[], [], a1, .nil, a2, List.nodup_nil, (fun _ hp => (by cases hp)), rfl, RpA.nil, RpA.nil, (by rw [h1]; trivial), rfl⟩
    | dN h1 h2 h6 h3 h4 h5 =>
      obtain ⟨a1, a2, xs, a3, a4⟩ := Inv.dictN I h1 h2 h6 h3 h4 sub
      exact ⟨_, xs, a2, a3, a4, h2, h6, h3, h4, h5, (by rw [h1]; trivial), by have := congrArg List.length h3; simpa using this.symm⟩
  have hz : xs.length ≤ sizeLine := by
    have := few_le hf
    rw [← Paired.length pr, hlen]; omega
  refine wpAny_dictSet_heap room key1 dh (fun h' dh' sb => ?_) hz
  obtain ⟨c1, c2, c3⟩ := dput_dN (y := V.ref q) (z := z) hk1 ry rz h3 h4 h5
  have pr' := putKs_rel (k := k) (q := q) pr hr
  have hl' : (putKs ks k q z).length ≤ sizeLine := by
    have := few_le hf
    have := putKs_len ks k q z
    omega
  obtain ⟨o, es, ep, ho, hx, hdt, he, his, hn⟩ := dh'
  have new : DNok X.prog X.w D (putKs ks k q z) h' := ⟨hl', hd, _, pr', o, es, ep, ho, hx, hdt, he⟩
  refine h (dN X.prog X.w D (putKs ks k q z)) _ (I.write (x := D) (e := D) (t' := _) mu (.inl rfl) (fun b w hb e => (sb.2 b hb).trans e) ⟨o, ho⟩ (dN_ok new)) ?_
  refine .dN upd_same ?_ (fun p hp => ?_) c1 c2 c3
  · rw [paired_fst pr']; exact hn
  · have : p.1 ∈ (putKs ks k q z).map (·.1) := List.mem_map.mpr ⟨p, hp, rfl⟩
    rw [putKs_fst] at this
    split at this
    · obtain ⟨p', h1, h2⟩ := List.mem_map.mp this
      rw [← h2]; exact n2 p' h1
    · rcases List.mem_append.mp this with w | w
      · obtain ⟨p', h1, h2⟩ := List.mem_map.mp w
        rw [← h2]; exact n2 p' h1
      · rw [List.mem_singleton.mp w]; exact hk2
end
end TL

set_option Elab.async false
set_option linter.all false
set_option maxRecDepth 100000
set_option maxHeartbeats 4000000
/-! TNb: dict comprehensions whose keys are tuples. -/
namespace TL
open PySem PySem.Spec PyProof.Rows L2
/-- an entry is put into the dict at D; N: what is wanted then -/
def PutD (G : Gx) (D : Addr) (y z : V) (H : Hp) (N : Hp → Prop) : Prop := ∃ (m : Addr → Bool) (kvs : List (PyData × PyData)) (key vd : PyData), m D = true ∧ Ob G (mk m H) H D (.dict kvs) ∧ tupK key = true ∧ (kvs.all fun p => tupK p.1) = true ∧
  Rp G (mk m H) y key ∧ Rp G (mk m H) z vd ∧ few (kvs.length + 1) = true ∧ ∀ o, Ob G (mk m H) (upd H D o) D (.dict (dput kvs key vd)) → N (upd H D o)
def tDX (G : Gx) (wi : TI) (g : TG) (tt : TT) (tk tv : TE) (vs : List Nat) : TE := fun σ H Q => wi σ H fun J H1 => ∀ D, H1 D = none → ∃ W : Nat → Nat → Hp → Prop, (∃ m, W 0 m (upd H1 D (.dK []))) ∧ ∀ i m H, W i m H →
  (J.stop i H ∧ Q (.ref D) H) ∨ (J.go i H ∧ ∃ Nx : Hp → Prop, (∀ H', Nx H' → ∃ m', m' < m ∧ W (i + 1) m' H') ∧ ∀ x H', J.yld i H x H' → g x (wipe σ vs) H' fun σ2 H2 => wipe σ2 vs = wipe σ vs ∧ tt σ2 H2 fun b H3 =>
    if b = true then tk σ2 H3 fun y H4 => tv σ2 H4 fun z H5 => PutD G D y z H5 Nx else Nx H3)
section
variable {X : Cx} {kx vx tg iter : Expr} {ifs : List Expr} {scope : Scope} {own : List (Str × Nat)} {pos : Pos} {wi : TI} {g : TG} {tt : TT} {tk tv : TE}
/-- what holds between two turns of the block -/
structure Btw (X Y : Cx) (fp : List Addr) (tn : Nat → Heap → Prop) (W : Nat → Nat → Hp → Prop) (σw : L2.St) (n : Nat) (u : Shared) : Prop where
  at_ : ∃ i K, Inv Y [] σw K u ∧ tn i u.heap ∧ (∀ b ∈ fp, K b = none) ∧ W i n K
/-- the block's turns, from any state between two of them -/
theorem blk_turns (B : XB X) {s3 : Shared} {H3 : Hp} {ce : Env} {fp : List Addr} {tn : Nat → Heap → Prop} {J : It} {it D : Addr} {W : Nat → Nat → Hp → Prop} {σ : L2.St} {vs : List Nat} {R : Result → Shared → Prop} {Qd : Hp → Prop}
    (T : Turn X.prog X.w X.K tg J fp it tn) (pg : PG (X.blk s3 H3 scope ce fp) tg g) (pt : PTs (X.blk s3 H3 scope ce fp) ifs tt) (pk : PE (X.blk s3 H3 scope ce fp) kx tk) (pv : PE (X.blk s3 H3 scope ce fp) vx tv)
    (turn : ∀ i m H, W i m H → (J.stop i H ∧ Qd H) ∨ (J.go i H ∧ ∃ Nx : Hp → Prop, (∀ H', Nx H' → ∃ m', m' < m ∧ W (i + 1) m' H') ∧ ∀ x H', J.yld i H x H' → g x (wipe σ vs) H' fun σ2 H2 => wipe σ2 vs = wipe σ vs ∧ tt σ2 H2 fun b H3 =>
      if b = true then tk σ2 H3 fun y H4 => tv σ2 H4 fun z H5 => PutD (gx X) D y z H5 Nx else Nx H3))
    (out : ∀ K u, Inv (X.blk s3 H3 scope ce fp) [] (wipe σ vs) K u → Qd K → R (.ok .next) u) (n : Nat) (u : Shared) (h : Btw X (X.blk s3 H3 scope ce fp) fp tn W (wipe σ vs) n u) :
    codeAny (model X.prog X.w) X.A (.compLoop (.DictComp kx vx [⟨tg, iter, ifs, 0⟩] scope pos) 0 (.ref it) (.ref D) ce) R u := by
  have own : ∀ {ρ : L2.St} {K : Hp} {v : Shared}, Inv (X.blk s3 H3 scope ce fp) [] ρ K v → (∀ b ∈ fp, K b = none) → ∀ b ∈ fp, FpOk (X.blk s3 H3 scope ce fp) [] K b := fun {ρ K v} J1 hn b hb =>
    ⟨hn b hb, (J1.ok.exf b hb).1, J1.ok.exfs b hb, Or.inl hb, fun x c e => (J1.ok.exf b hb).2 x c e, fun p hp => (List.not_mem_nil (show p ∈ ([] : List (Addr × Obj)) from hp)).elim⟩
  refine compLoop_anyD (Btw X (X.blk s3 H3 scope ce fp) fp tn W (wipe σ vs)) ?_ n h
  intro n v ⟨i, K, JK, st, fr, w⟩
  rcases turn i n K w with ⟨stop, qd⟩ | ⟨go, Nx, hNx, step⟩
  · exact thnF (T.done (X.blk s3 H3 scope ce fp) rfl rfl rfl B.calm i [] v _ K (fun _ _ => False) JK (own JK fr) st stop) fun r v1 ⟨hr, J1⟩ => hr ▸ out K v1 J1 qd
  · refine thnF (T.item (X.blk s3 H3 scope ce fp) rfl rfl rfl B.calm i [] v _ K (fun _ _ => False) JK (own JK fr) st go) fun r v1 ⟨xu, hr, rest⟩ => ?_
    subst hr
    refine thnF rest fun _ v2 ⟨x, K2, J2, rx, yl, st2, fr2⟩ => ?_
    have J2' := J2.pinned (own J2 fr2) (T.obj _ _ st2)
    refine thnF (pg.run _ v2 _ K2 x xu _ J2' rx (step x K2 yl)) fun _ v3 ⟨ρ, K3, J3, hw, qt⟩ => ?_
    -- the end of the turn
    have close : ∀ {v' : Shared} {K' : Hp}, Inv (X.blk s3 H3 scope ce fp) ([] ++ pinsAt fp v2.heap) ρ K' v' → Nx K' → ∃ m, m < n ∧ Btw X (X.blk s3 H3 scope ce fp) fp tn W (wipe σ vs) m v' := fun {v' K'} J' nx => by
      obtain ⟨m', lt, w'⟩ := hNx K' nx
      have held : ∀ b ∈ fp, ∀ o, v2.heap.get? b = some o → v'.heap.get? b = some o ∧ K' b = none := fun b hb o e =>
        let z := J'.pin (b, o) (List.mem_append_right _ (List.mem_append_right _ (mem_pinsAt hb e)))
        ⟨z.1, z.2.1⟩
      refine ⟨m', lt, ⟨i + 1, K', (J'.unpinned (pins := [])).weak (by rw [← hw, wipe_length]) fun j a e => (wipe_some (hw.symm ▸ e)).1, T.keep _ _ _ st2 fun b hb o e => (held b hb o e).1, fun b hb => ?_, w'⟩⟩
      obtain ⟨o, e, _⟩ := T.obj _ _ st2 b hb
      exact (held b hb o e).2
    refine thnF (pt.run _ v3 ρ K3 _ J3 qt) fun b v4 ⟨K4, J4, q4⟩ => ?_
    cases b with
    | false => exact close J4 q4
    | true =>
      refine thnF (pk.run _ v4 ρ K4 _ J4 q4) fun ku v5 ⟨y, K5, J5, ry, q5⟩ => ?_
      refine thnF (pv.run _ v5 ρ K5 _ J5 q5) fun zu v6 ⟨z, K6, J6, rz, m, kvs, key, vd, a1, a2, a3, a4, a5, a6, a7, a8⟩ => ?_
      exact d_put (X := X.blk s3 H3 scope ce fp) ⟨B.calm, B.un, B.gd, B.nd⟩ J6 a2 a1 a3 a4 a5 a6 a7 ry rz fun o v7 J7 ob => close J7 (a8 o ob)
/-- {k: v for target in iter if ..}, the keys tuples -/
theorem pe_dcx (B : XB X) (hi : PI X tg iter wi) (ok : BlkOk X.N X.env.scope scope own)
    (hg : ∀ (s : Shared) (H : Hp) (C : Addr) (cl : List (Str × Addr)) (fp : List Addr), PG (X.blk s H scope (compEnvC scope cl C X.env) fp) tg g) (ht : ∀ (s : Shared) (H : Hp) (C : Addr) (cl : List (Str × Addr)) (fp : List Addr), PTs (X.blk s H scope (compEnvC scope cl C X.env) fp) ifs tt)
    (hk : ∀ (s : Shared) (H : Hp) (C : Addr) (cl : List (Str × Addr)) (fp : List Addr), PE (X.blk s H scope (compEnvC scope cl C X.env) fp) kx tk)
    (hv : ∀ (s : Shared) (H : Hp) (C : Addr) (cl : List (Str × Addr)) (fp : List Addr), PE (X.blk s H scope (compEnvC scope cl C X.env) fp) vx tv) (hs : ∀ x, foldedSetIterable iter X.env x = pure x) :
    PE X (.DictComp kx vx [⟨tg, iter, ifs, 0⟩] scope pos) (tDX (gx X) wi g tt tk tv (own.map (·.2))) := by
  refine ⟨fun pins s σ H Q I h => ?_⟩
  rw [arm_eval_DictComp]
  have hf : ∀ y ∈ scope.names, y.2 = .free → ∃ c, X.env.cells.lookup y.1 = some c := fun y hy e => (ok.free y hy e).elim (fun z => I.ok.has _ (Or.inl z)) fun z => I.ok.has _ (Or.inr z)
  refine wpAny_comprehension_free rfl hs (closure_ok hf) ok.kind (fun y hy e => (ok.uniq y hy).trans (congrArg some e)) (thn (hi.run pins s σ H _ I h) fun xv sA hA => thn hA fun itv sB hB => ?_)
  obtain ⟨it, fp, tn, J, HB, rfl, IB, T, stB, frB, q⟩ := hB
  refine wpAny_newObj_type (newEnv_comp ?_)
  have hn : HB sB.heap.objs.size = none := IB.hok.fresh (Nat.le_refl _)
  obtain ⟨W, ⟨m0, w0⟩, turn⟩ := q sB.heap.objs.size hn
  have IC : Inv X pins σ (upd HB sB.heap.objs.size (.dK [])) { sB with heap := sB.heap.push { cls := .type "dict", data := .dict #[] } } := IB.laid (t' := sB.toks) (fun b o e => Heap.get?_push_of_some _ e) (Nat.le_refl _) (dk_empty sB.heap IB.big)
  have small : ∀ b ∈ fp, b < sB.heap.objs.size := fun b hb => let ⟨o, e, _⟩ := T.obj _ _ stB b hb; Heap.lt_size e
  have frC : ∀ b ∈ fp, FpOk X pins (upd HB sB.heap.objs.size (.dK [])) b ∧ b < (sB.heap.push { cls := .type "dict", data := .dict #[] }).objs.size := fun b hb =>
    ⟨⟨by rw [upd_ne (Nat.ne_of_lt (small b hb))]; exact (frB b hb).1, (frB b hb).2⟩, by rw [Heap.size_push]; exact Nat.lt_succ_of_lt (small b hb)⟩
  have ID := block_start IC ok B.nd frC
  have stD : tn 0 (pushCells ((sB.heap.push { cls := .type "dict", data := .dict #[] }).push { cls := .type "dict", data := .dict #[] }) scope.names) := T.keep _ _ _ stB fun b _ o e =>
    pushCells_keeps _ _ _ _ (Heap.get?_push_of_some _ (Heap.get?_push_of_some _ e))
  have loop := blk_turns (kx := kx) (vx := vx) (iter := iter) (pos := pos) (scope := scope) (R := compPost (model X.prog X.w) X.A X.xe none (EP X pins σ Q) (.ref sB.heap.objs.size) (sB.heap.push { cls := .type "dict", data := .dict #[] }).objs.size) B T
    (hg _ _ _ _ fp) (ht _ _ _ _ fp) (hk _ _ _ _ fp) (hv _ _ _ _ fp) turn (fun K u JK qd => ?_) m0 _ ⟨0, _, ID, stD, fun b hb => (frC b hb).1.1, w0⟩
  · exact codeAny_compStart_dict loop (T.self X.A 0 _ _ _ stD loop)
  · -- back in the def
    have IE : Inv X pins σ K u := IC.call' (ch := fp) JK.os JK.base JK.hok JK.bare fun b hb => ⟨(frC b hb).1.2.2.2.1, (frC b hb).1.2.1, (frC b hb).1.2.2.2.2.1, (frC b hb).1.2.2.2.2.2⟩
    have nC : K (sB.heap.push { cls := .type "dict", data := .dict #[] }).objs.size = none := JK.free
    obtain ⟨m, hm, _⟩ := JK.loc
    refine ⟨m, hm, fun h'' sb => ?_⟩
    obtain ⟨f0, f1, f2, f3, f4, f5⟩ := IC.fpOk (H' := K) (Nat.le_refl _) nC
    exact ⟨.ref sB.heap.objs.size, K, IE.turned (t' := u.toks) (fun b o hb e => (sb.2 b hb).trans e) f0 f1 f3 f4 f5, rfl, qd⟩
end
end TL

set_option Elab.async false
set_option linter.all false
set_option maxRecDepth 100000
set_option maxHeartbeats 4000000
/-! TNc: dict comprehensions' reading. -/
namespace TL
open PySem L2 StX RZ
section
variable {G : Gx} {Φ : Fns} {F : Fr} {τ τ' τ1 : Tau} {σ σ' : L2.St} {H H' : Hp} {Q : VK}
def dBody (Φ : Fns) (hc : Bool) (c k v : E) : Ev (Option (PyData × PyData)) :=
  condE hc (ev Φ c >>= fun x => isB x) (pure true) >>= fun t =>
    condE t (ev Φ k >>= fun y => val y >>= fun kd => ev Φ v >>= fun z => val z >>= fun vd => pure (some (kd, vd))) (pure none)
theorem dBody_inv {hc : Bool} {c k v : E} {o : Option (PyData × PyData)} (e : dBody Φ hc c k v τ = some (.ok o τ1)) :
    (∃ τa, condE hc (ev Φ c >>= fun x => isB x) (pure true) τ = some (.ok false τa) ∧ o = none ∧ τ1 = τa) ∨
    ∃ τa y τb kd z τc vd, condE hc (ev Φ c >>= fun x => isB x) (pure true) τ = some (.ok true τa) ∧ ev Φ k τa = some (.ok y τb) ∧ val y τb = some (.ok kd τb) ∧ ev Φ v τb = some (.ok z τc) ∧ val z τc = some (.ok vd τ1) ∧ o = some (kd, vd) := by
  unfold dBody at e
  rw [ev_bind_iff] at e
  obtain ⟨t, τa, e1, e2⟩ := e
  cases t with
  | false =>
    obtain ⟨rfl, rfl⟩ := ev_pure_inv (show (pure none : Ev (Option (PyData × PyData))) τa = _ from e2)
    exact .inl ⟨_, e1, rfl, rfl⟩
  | true =>
    have e2 : (ev Φ k >>= fun y => val y >>= fun kd => ev Φ v >>= fun z => val z >>= fun vd => (pure (some (kd, vd)) : Ev (Option (PyData × PyData)))) τa = some (.ok o τ1) := e2
    simp only [ev_bind_iff] at e2
    obtain ⟨y, τb, e3, kd, τb', e4, z, τc, e5, vd, τd, e6, e7⟩ := e2
    obtain ⟨rfl, rfl⟩ := ev_pure_inv e7
    obtain rfl : τb' = τb := by cases y <;> cases e4 <;> rfl
    exact .inr ⟨τa, y, _, kd, z, τc, vd, e1, e3, e4, e5, e6, rfl⟩
theorem dcompGo_cons {body : Ev (Option (PyData × PyData))} {tg : T} {own : List Nat} {d : PyData} {ds : List PyData} {acc ys : List (PyData × PyData)} (e : dcompGo body tg own (d :: ds) acc τ = some (.ok ys τ')) :
    ∃ τb o τd, bindT tg d (wipeT τ own) = some τb ∧ body τb = some (.ok o τd) ∧ (match o with
      | some y => (tupK y.1 = true ∧ (acc.all fun p => tupK p.1) = true ∧ few (acc.length + 1) = true) ∧ dcompGo body tg own ds (dput acc y.1 y.2) τd = some (.ok ys τ')
      | none => dcompGo body tg own ds acc τd = some (.ok ys τ')) := by
  unfold dcompGo at e
  cases hb : bindT tg d (wipeT τ own) with
  | none => rw [hb] at e; cases e
  | some τb =>
    rw [hb] at e
    simp only at e
    cases hq : body τb with
    | none => rw [hq] at e; cases e
    | some r =>
      rw [hq] at e
      cases r with
      | ex c d => cases e
      | ok o τd =>
        cases o with
        | none => exact ⟨τb, none, τd, rfl, hq, e⟩
        | some y =>
          simp only at e
          split at e
          · rename_i hc
            simp only [Bool.and_eq_true] at hc
            exact ⟨τb, some y, τd, rfl, hq, ⟨hc.1.1, hc.1.2, hc.2⟩, e⟩
          · cases e
theorem Ob.map_of {Hm Hm' : Hp} {a : Addr} {d : PyData} (h : Ob G Hm H a d) (f : ∀ v d, Rp G Hm v d → Rp G Hm' v d) : Ob G Hm' H a d := by
  cases h with
  | lst h1 h2 => exact .lst h1 (RpA.map_of f h2)
  | dK h1 h2 h3 => exact .dK h1 h2 (RpA.map_of f h3)
  | dN h1 h2 h6 h3 h4 h5 => exact .dN h1 h2 h6 h3 (RpA.map_of f h4) (RpA.map_of f h5)
theorem tE_dcm {own : List Nat} {tg : T} {it : I} {hc : Bool} {c kE vE : E} (ht : ∀ i ∈ tg.ixs, i ∈ own) (h : tE G Φ (.dcm own tg it hc c kE vE) σ H Q) :
    tDX G (tI G Φ it) (gT G.K tg) (tTs G Φ hc c) (tE G Φ kE) (tE G Φ vE) own σ H Q := by
  obtain ⟨F, τ, rv, τ', I, e, k⟩ := h
  simp only [ev] at e
  rw [ev_bind_iff] at e
  obtain ⟨ds, τ1, e1, e2⟩ := e
  obtain ⟨hf, ys, τ2, e3, rfl, rfl⟩ := inBlk_inv e2
  have e3 : dcompGo (dBody Φ hc c kE vE) tg own ds [] τ1 = some (.ok ys τ2) := e3
  refine ⟨F, τ, ds, τ1, I, e1, fun J H1 P1 W D hD => ?_⟩
  obtain ⟨n0, nq, nM⟩ := P1.fi.new0 hD
  refine ⟨fun i m H' => m = ds.length - i ∧ i ≤ ds.length ∧ ∃ τc acc, Blk G F D own σ τ1 H1 τc H' ∧ Ob G (msk (F.prot D).M (wipeT τc own) (wipe σ own) H') H' D (.dict acc) ∧
    dcompGo (dBody Φ hc c kE vE) tg own (ds.drop i) acc τc = some (.ok ys τ2), ⟨ds.length, by simp, Nat.zero_le _, τ1, [], blk_start P1.fi hD hf, .dK (kv := []) upd_same rfl .nil, by simpa using e3⟩, ?_⟩
  rintro i m H' ⟨rfl, hi, τc, acc, B, ob, go⟩
  have sm0 : Same (mk (mb F.M τ1 σ) H1) (mk (mb (F.prot D).M (wipeT τc own) (wipe σ own)) H') := B.sm
  by_cases hlt : i < ds.length
  · refine .inr ⟨W.goes i _ H' hlt sm0, fun H' => i + 1 ≤ ds.length ∧ ∃ τc acc, Blk G F D own σ τ1 H1 τc H' ∧ Ob G (msk (F.prot D).M (wipeT τc own) (wipe σ own) H') H' D (.dict acc) ∧
      dcompGo (dBody Φ hc c kE vE) tg own (ds.drop (i + 1)) acc τc = some (.ok ys τ2), fun H' ⟨q1, q2⟩ => ⟨ds.length - (i + 1), by omega, rfl, q1, q2⟩, fun x H2 y => ?_⟩
    obtain ⟨hgr, d, hd, rx⟩ := W.yields i _ H' x H2 hlt sm0 B.fi.domM y
    have hs : Same H' H2 := by
      rcases hgr with rfl | ⟨T, o, hT, rfl⟩
      · exact Same.refl _
      · exact same_upd hT o
    have hds : ds.drop i = d :: ds.drop (i + 1) := by
      obtain ⟨hlt', rfl⟩ := List.getElem?_eq_some_iff.mp hd
      exact List.drop_eq_getElem_cons hlt'
    rw [hds] at go
    obtain ⟨τb, o, τd, b1, b2, b3⟩ := dcompGo_cons go
    refine blk_bind B hs rx b1 ht fun σ2 Bi sm2 => ⟨Bi.wp, ?_⟩
    obtain ⟨oD, hoD⟩ : ∃ oD, H' D = some oD := by cases ob <;> exact ⟨_, by assumption⟩
    have ob2 : Ob G (msk (F.prot D).M τb σ2 H2) H2 D (.dict acc) := ob.grow sm2 fun o q => hs _ o q
    have IL := Bi.fi.lockOf (hs D _ hoD)
    have back : ∀ {τx : Tau} {Hx : Hp}, Post G (F.lock D oD) τb τx σ2 H2 Hx → Hx D = some oD ∧ Ob G (msk (F.prot D).M τx σ2 Hx) Hx D (.dict acc) := fun {τx Hx} P => by
      have hx : Hx D = some oD := P.fi.same D _ upd_same nq
      refine ⟨hx, ob2.grow P.sm fun o q => ?_⟩
      rw [hs D _ hoD] at q; cases q; exact hx
    rcases dBody_inv b2 with ⟨τa, c1, rfl, rfl⟩ | ⟨τa, yv, τe, kd, zv, τg, vd, c1, c2, c3, c4, c5, rfl⟩
    · refine tTs_run IL c1 fun H3 P3 => ?_
      rw [if_neg (by decide)]
      obtain ⟨hl3, ob3⟩ := back P3
      obtain ⟨B2, mv⟩ := blk_end (o' := oD) Bi P3 n0 nq
      have e3 : upd H3 D oD = H3 := by
        funext b
        unfold upd
        split
        · rename_i z; rw [z, hl3]
        · rfl
      rw [e3] at B2 mv
      exact ⟨hlt, _, acc, B2, ob3.map_of mv, b3⟩
    · obtain ⟨⟨t1, t2, t3⟩, b4⟩ := b3
      refine tTs_run IL c1 fun H3 P3 => ?_
      rw [if_pos rfl]
      refine ⟨F.lock D oD, τa, yv, τe, P3.fi, c2, fun u H4 P4 R4 => ?_⟩
      obtain ⟨_, R4⟩ := R4.vald c3
      refine ⟨F.lock D oD, τe, zv, τg, P4.fi, c4, fun w H5 P5 R5 => ?_⟩
      obtain ⟨rfl, R5⟩ := R5.vald c5
      have P := (P3.trans P4).trans P5
      obtain ⟨hl5, ob5⟩ := back P
      refine ⟨mb (F.prot D).M _ σ2, acc, kd, vd, by simp [mb, Fr.prot], ob5, t1, t2, R4.mono P5.sm, R5, t3, fun o ob6 => ?_⟩
      obtain ⟨B2, mv⟩ := blk_end (o' := o) Bi P n0 nq
      exact ⟨hlt, _, _, B2, ob6.map_of mv, b4⟩
  · have hi' : i = ds.length := by omega
    subst hi'
    rw [List.drop_length] at go
    obtain ⟨rfl, rfl⟩ := ev_pure_inv (show (pure acc : Ev (List (PyData × PyData))) τc = _ from go)
    obtain ⟨P, R⟩ := blk_done P1.fi hD (P1.dom hD) hf B ob
    exact .inl ⟨W.stops _ H' sm0, k _ H' (P1.trans P) R⟩
end
end TL

set_option Elab.async false
set_option linter.all false
set_option maxRecDepth 100000
set_option maxHeartbeats 4000000
/-! TNd: one dict's entries put into another, the keys tuples. -/
namespace TL
open PySem PySem.Spec PyProof.Rows L2
mutual
theorem hashD_hash (w : World) : ∀ (d : PyData) (k : NestedKey) (h : Int), keyN d = some k → hashD d = some h → k.hash w = h
  | .none, k, h, _, e => by simp [hashD] at e
  | .int i, k, h, e1, e2 => by
    simp only [keyN, Option.some.injEq] at e1
    simp only [hashD, Option.some.injEq] at e2
    subst e1; subst e2
    simp only [NestedKey.hash]
  | .str x, k, h, _, e => by simp [hashD] at e
  | .bool x, k, h, _, e => by simp [hashD] at e
  | .list x, k, h, _, e => by simp [hashD] at e
  | .dict x, k, h, _, e => by simp [hashD] at e
  | .tuple ds, k, h, e1, e2 => by
    simp only [keyN, Option.map_eq_some_iff] at e1
    simp only [hashD, Option.map_eq_some_iff] at e2
    obtain ⟨ks, a1, rfl⟩ := e1
    obtain ⟨hs, a2, rfl⟩ := e2
    simp only [NestedKey.hash]
    rw [hashDs_hashes w ds ks hs a1 a2]
theorem hashDs_hashes (w : World) : ∀ (ds : List PyData) (ks : List NestedKey) (hs : List Int), keyNs ds = some ks → hashDs ds = some hs → NestedKey.hashes w ks = hs
  | [], ks, hs, e1, e2 => by
    simp only [keyNs, Option.some.injEq] at e1
    simp only [hashDs, Option.some.injEq] at e2
    subst e1; subst e2
    simp only [NestedKey.hashes]
  | d :: ds, ks, hs, e1, e2 => by
    simp only [keyNs] at e1
    simp only [hashDs] at e2
    split at e1 <;> first | cases e1 | skip
    split at e2 <;> first | cases e2 | skip
    rename_i k1 ks1 a1 a2 _ _ h1 hs1 b1 b2
    simp only [NestedKey.hashes]
    rw [hashD_hash w d _ _ a1 b1, hashDs_hashes w ds _ _ a2 b2]
end
theorem hash_map {α : Type} (w : World) : ∀ {ps : List (NestedKey × α)} {more : List (PyData × PyData)} {hs : List Int}, more.map (fun p => keyN p.1) = ps.map (fun p => some p.1) → hashDs (more.map (·.1)) = some hs → ps.map (fun p => p.1.hash w) = hs
  | [], [], hs, _, e => by simp only [List.map_nil, hashDs, Option.some.injEq] at e; subst e; rfl
  | [], _ :: _, _, h, _ => by simp at h
  | _ :: _, [], _, h, _ => by simp at h
  | p :: ps, q :: more, hs, h, e => by
    simp only [List.map_cons, List.cons.injEq] at h
    simp only [List.map_cons, hashDs] at e
    split at e <;> first | cases e | skip
    rename_i h1 hs1 b1 b2
    rw [List.map_cons, hashD_hash w q.1 _ _ h.1 b1, hash_map w h.2 b2]
def manyKs (ks ps : List (NestedKey × Addr × V)) : List (NestedKey × Addr × V) := ps.foldl (fun a p => putKs a p.1 p.2.1 p.2.2) ks
theorem manyKs_rel {ps : List (NestedKey × Addr × V)} {ys : List (NestedKey × Addr × Value)} (h : KsXs ps ys) : ∀ {ks : List (NestedKey × Addr × V)} {xs : List (NestedKey × Addr × Value)}, KsXs ks xs → KsXs (manyKs ks ps) (storedAllH xs ys) := by
  induction h with
  | nil => exact fun h => h
  | @cons p y ps ys a t ih =>
    intro ks xs hk
    obtain ⟨a1, a2, a3⟩ := a
    have := ih (putKs_rel (k := p.1) (q := p.2.1) hk a3)
    rw [a1, a2] at this
    unfold manyKs at this ⊢
    rw [List.foldl_cons, a1, a2]
    exact this
theorem manyKs_len (ps : List (NestedKey × Addr × V)) : ∀ ks : List (NestedKey × Addr × V), (manyKs ks ps).length ≤ ks.length + ps.length := by
  induction ps with
  | nil => intro ks; exact Nat.le_refl _
  | cons p ps ih =>
    intro ks
    have h1 := ih (putKs ks p.1 p.2.1 p.2.2)
    have h2 := putKs_len ks p.1 p.2.1 p.2.2
    unfold manyKs at h1 ⊢
    rw [List.foldl_cons, List.length_cons]
    omega
theorem putKs_mem {ks : List (NestedKey × Addr × V)} {k : NestedKey} {q : Addr} {z : V} {p : NestedKey × Addr × V} (h : p ∈ putKs ks k q z) : p.1 = k ∨ ∃ p' ∈ ks, p'.1 = p.1 := by
  have : p.1 ∈ (putKs ks k q z).map (·.1) := List.mem_map.mpr ⟨p, h, rfl⟩
  rw [putKs_fst] at this
  split at this
  · obtain ⟨p', h1, h2⟩ := List.mem_map.mp this
    exact .inr ⟨p', h1, h2⟩
  · rcases List.mem_append.mp this with w | w
    · obtain ⟨p', h1, h2⟩ := List.mem_map.mp w
      exact .inr ⟨p', h1, h2⟩
    · exact .inl (List.mem_singleton.mp w)
theorem manyKs_depth (ps : List (NestedKey × Addr × V)) (hp : ∀ p ∈ ps, p.1.depth ≤ 8) : ∀ ks : List (NestedKey × Addr × V), (∀ p ∈ ks, p.1.depth ≤ 8) → ∀ p ∈ manyKs ks ps, p.1.depth ≤ 8 := by
  induction ps with
  | nil => exact fun ks h => h
  | cons y ps ih =>
    intro ks h
    refine ih (fun p h => hp p (List.mem_cons_of_mem _ h)) _ fun p h1 => ?_
    rcases putKs_mem h1 with e | ⟨p', h2, h3⟩
    · rw [e]; exact hp y List.mem_cons_self
    · rw [← h3]; exact h p' h2
theorem dmanyKs {G : Gx} {Hm : Hp} : ∀ {ps : List (NestedKey × Addr × V)} {more : List (PyData × PyData)}, more.map (fun p => keyN p.1) = ps.map (fun p => some p.1) → RpA G Hm (ps.map (fun p => V.ref p.2.1)) (more.map (·.1)) → RpA G Hm (ps.map (·.2.2)) (more.map (·.2)) →
    ∀ {ks : List (NestedKey × Addr × V)} {kvs : List (PyData × PyData)}, kvs.map (fun p => keyN p.1) = ks.map (fun p => some p.1) → RpA G Hm (ks.map (fun p => V.ref p.2.1)) (kvs.map (·.1)) → RpA G Hm (ks.map (·.2.2)) (kvs.map (·.2)) →
    (more.foldl (fun a p => dput a p.1 p.2) kvs).map (fun p => keyN p.1) = (manyKs ks ps).map (fun p => some p.1) ∧ RpA G Hm ((manyKs ks ps).map (fun p => V.ref p.2.1)) ((more.foldl (fun a p => dput a p.1 p.2) kvs).map (·.1)) ∧ RpA G Hm ((manyKs ks ps).map (·.2.2)) ((more.foldl (fun a p => dput a p.1 p.2) kvs).map (·.2))
  | [], [], _, _, _, ks, kvs, h3, h4, h5 => ⟨h3, h4, h5⟩
  | [], _ :: _, h, _, _, _, _, _, _, _ => by simp at h
  | _ :: _, [], h, _, _, _, _, _, _, _ => by simp at h
  | p :: ps, q :: more, h, r1, r2, ks, kvs, h3, h4, h5 => by
    simp only [List.map_cons, List.cons.injEq] at h r1 r2
    cases r1 with
    | cons a1 a2 =>
      cases r2 with
      | cons b1 b2 =>
        obtain ⟨c1, c2, c3⟩ := dput_dN (y := p.2.2) h.1 a1 b1 h3 h4 h5
        exact dmanyKs h.2 a2 b2 c1 c2 c3
section
variable {X : Cx} {pins : List (Addr × Obj)} {s : Shared} {σ : L2.St} {H : Hp}
def LibD (X : Cx) (h : Heap) (Hm : Hp) (D : Addr) (kvs : List (PyData × PyData)) (ks : List (NestedKey × Addr × V)) (xs : List (NestedKey × Addr × Value)) : Prop :=
  (D == sysModules) = false ∧ KsXs ks xs ∧ h.DictOfH (nestedKind X.prog X.w) D xs ∧ (ks.map (·.1)).Nodup ∧ (∀ p ∈ ks, p.1.depth ≤ 8) ∧
      kvs.map (fun p => keyN p.1) = ks.map (fun p => some p.1) ∧ RpA (gx X) Hm (ks.map (fun p => V.ref p.2.1)) (kvs.map (·.1)) ∧ RpA (gx X) Hm (ks.map (·.2.2)) (kvs.map (·.2)) ∧ ks.length = kvs.length
theorem dK_none {kvs : List (PyData × PyData)} {kv : List (Key × V)} (h2 : kvs.map (·.1) = kv.map (fun p => keyD p.1)) (ha : (kvs.all fun p => tupK p.1) = true) : kvs = [] ∧ kv = [] := by
  have e : kvs = [] := by
    cases kvs with
    | nil => rfl
    | cons p kvs =>
      cases kv with
      | nil => simp at h2
      | cons w kv =>
        simp only [List.map_cons, List.cons.injEq] at h2
        simp only [List.all_cons, Bool.and_eq_true] at ha
        obtain ⟨_, _, e, _⟩ := tupK_iff ha.1
        rw [h2.1] at e
        exfalso
        revert e
        rcases w.1 with i | x <;> (intro e; cases e)
  subst e
  refine ⟨rfl, ?_⟩
  cases kv with
  | nil => rfl
  | cons _ _ => simp at h2
theorem lib_nil (I : Inv X pins σ H s) {Hm : Hp} {D : Addr} (h : Rd H D (.dK [])) : LibD X s.heap Hm D [] [] [] := by
  obtain ⟨a1, a2⟩ := dK_nil_H I h
  exact ⟨a1, .nil, a2, List.nodup_nil, (fun _ hp => (by cases hp)), rfl, RpA.nil, RpA.nil, rfl⟩
theorem lib_dN (I : Inv X pins σ H s) {Hm : Hp} (sub : Same Hm H) {D : Addr} {kvs : List (PyData × PyData)} {ks : List (NestedKey × Addr × V)} (h1 : H D = some (dN X.prog X.w D ks)) (h2 : (ks.map (·.1)).Nodup) (h6 : ∀ p ∈ ks, p.1.depth ≤ 8) (h3 : kvs.map (fun p => keyN p.1) = ks.map (fun p => some p.1))
    (h4 : RpA (gx X) Hm (ks.map (fun p => V.ref p.2.1)) (kvs.map (·.1))) (h5 : RpA (gx X) Hm (ks.map (·.2.2)) (kvs.map (·.2))) : ∃ xs, LibD X s.heap Hm D kvs ks xs := by
  obtain ⟨a1, a2, xs, a3, a4⟩ := Inv.dictN I h1 h2 h6 h3 h4 sub
  exact ⟨xs, a2, a3, a4, h2, h6, h3, h4, h5, by have := congrArg List.length h3; simpa using this.symm⟩
theorem ob_lib (I : Inv X pins σ H s) {Hm : Hp} (sub : Same Hm H) {D : Addr} {kvs : List (PyData × PyData)} (ob : Ob (gx X) Hm H D (.dict kvs)) (ha : (kvs.all fun p => tupK p.1) = true) : ∃ ks xs, LibD X s.heap Hm D kvs ks xs ∧ Mut (H D) := by
  cases ob with
  | dK h1 h2 h3 =>
    obtain ⟨rfl, rfl⟩ := dK_none h2 ha
    exact ⟨[], [], lib_nil I (.inl h1), by rw [h1]; trivial⟩
  | dN h1 h2 h6 h3 h4 h5 =>
    obtain ⟨xs, L⟩ := lib_dN I sub h1 h2 h6 h3 h4 h5
    exact ⟨_, xs, L, by rw [h1]; trivial⟩
theorem rp_lib (I : Inv X pins σ H s) {Hm : Hp} (sub : Same Hm H) {y : V} {kvs : List (PyData × PyData)} (rp : Rp (gx X) Hm y (.dict kvs)) (ha : (kvs.all fun p => tupK p.1) = true) : ∃ a ks xs, y = .ref a ∧ Hm a ≠ none ∧ LibD X s.heap Hm a kvs ks xs := by
  cases rp with
  | dK h1 h2 h3 =>
    obtain ⟨rfl, rfl⟩ := dK_none h2 ha
    exact ⟨_, [], [], rfl, (by rcases h1 with h | ⟨o, h⟩ <;> rw [h] <;> simp), lib_nil I (Rd.same sub h1)⟩
  | dN h1 h2 h6 h3 h4 h5 =>
    obtain ⟨xs, L⟩ := lib_dN I sub (sub _ _ h1) h2 h6 h3 h4 h5
    exact ⟨_, _, xs, rfl, (by rw [h1]; simp), L⟩
def rUpd (G : Gx) : V → List V → Hp → VK → Prop := fun x vs H Q => ∃ (D : Addr) (y : V) (m : Addr → Bool) (kvs more : List (PyData × PyData)), x = .ref D ∧ vs = [y] ∧ m D = true ∧ Ob G (mk m H) H D (.dict kvs) ∧ Rp G (mk m H) y (.dict more) ∧
  (kvs.all fun p => tupK p.1) = true ∧ (more.all fun p => tupK p.1) = true ∧ few (kvs.length + more.length) = true ∧ (kvs ≠ [] ∨ apartH more = true) ∧
  ∀ o, Ob G (mk m H) (upd H D o) D (.dict (more.foldl (fun a p => dput a p.1 p.2) kvs)) → Q .non (upd H D o)
theorem mt_upd (B : XB X) : MtR X "dict.update" (rUpd (gx X)) := by
  intro pins s σ H x vs v us Q I rx rv h
  obtain ⟨D, y, m, kvs, more, rfl, rfl, hm, ob, ry, ha, hb, hf, hap, q⟩ := h
  cases rx
  obtain ⟨u, rfl, ru⟩ := rv.one
  have sub := mk_sub m H
  obtain ⟨ks, xs, ⟨d1, d2, d3, d4, d5, d6, d7, d8, d9⟩, mu⟩ := ob_lib I sub ob ha
  obtain ⟨o, ps, ys, rfl, no, e1, e2, e3, e4, e5, e6, e7, e8, e9⟩ := rp_lib I sub ry hb
  cases ru
  have hdo : D ≠ o := fun z => no (by subst z; simp [mk, hm])
  have room : (nestedKind X.prog X.w).room X.A.in1 := by
    have := B.un
    show X.A.units + 1 + 8 < cLine
    omega
  have hz : xs.length + ys.length ≤ sizeLine := by
    have := few_le hf
    rw [← Paired.length d2, ← Paired.length e2, d9, e9]; exact this
  refine call_update_dictH room hdo e1 d3 e3 ?_ hz fun h' dh' _ sb => ?_
  · rcases hap with z | z
    · refine .inl fun e => z ?_
      have : kvs.length = 0 := by rw [← d9, Paired.length d2, e]; rfl
      exact List.length_eq_zero_iff.mp this
    · unfold apartH at z
      split at z
      · rename_i hs hh
        refine .inr ⟨keyed_apart nestedKind_stays e3, ?_⟩
        have e := hash_map X.w e6 hh
        have : ys.map (fun x => (nestedKind X.prog X.w).hash x.1) = hs := by
          rw [← e]
          have := congrArg (List.map fun k => NestedKey.hash X.w k) (paired_fst e2)
          rw [List.map_map, List.map_map] at this
          exact this.symm
        rw [this]
        exact of_decide_eq_true z
      · cases z
  · obtain ⟨c1, c2, c3⟩ := dmanyKs e6 e7 e8 d6 d7 d8
    have pr' := manyKs_rel e2 d2
    have hl' : (manyKs ks ps).length ≤ sizeLine := by
      have h1 := few_le hf
      have h2 := manyKs_len ps ks
      omega
    obtain ⟨ob', es, ep, ho, hx, hdt, he, his, hn⟩ := dh'
    have new : DNok X.prog X.w D (manyKs ks ps) h' := ⟨hl', d1, _, pr', ob', es, ep, ho, hx, hdt, he⟩
    refine ⟨.non, _, I.write (x := D) (e := D) (t' := s.toks) mu (.inl rfl) (fun b w hb e => (sb.2 b hb).trans e) ⟨ob', ho⟩ (dN_ok new), rfl, q (dN X.prog X.w D (manyKs ks ps)) ?_⟩
    refine .dN upd_same ?_ (manyKs_depth ps e5 ks d5) c1 c2 c3
    rw [paired_fst pr']; exact hn
/-- a dict stands there -/
def dctV (G : Gx) (x : V) (H : Hp) : Prop := ∃ a m kvs, x = .ref a ∧ Ob G (mk m H) H a (.dict kvs)
theorem dctV_is (I : Inv X pins σ H s) {x : V} {v : Value} (r : RelV x v) (h : dctV (gx X) x H) : s.TypeIs v "dict" ∧ ∀ a, v = .ref a → ∃ ob, s.heap.get? a = some ob ∧ ob.dict = none := by
  obtain ⟨a, m, kvs, rfl, ob⟩ := h
  cases ob with
  | dK h1 _ _ => exact tyV_is I r (.inr (.inr (.inl ⟨rfl, .inl ⟨_, h1⟩⟩)))
  | dN h1 h2 h6 h3 h4 h5 =>
    obtain ⟨_, _, xs, _, o, es, ep, g1, g2, g3⟩ := Inv.dictN I h1 h2 h6 h3 h4 (mk_sub m H)
    cases r
    refine ⟨⟨o, g1, g2.1⟩, fun b e => ?_⟩
    cases e
    exact ⟨o, g1, g2.2.1⟩
def tUD (G : Gx) (to : TE) (t : TA) : TE := fun σ H Q => to σ H fun x H1 => dctV G x H1 ∧ t σ H1 fun xs H2 => rUpd G x xs H2 Q
theorem pe_upd (B : XB X) {o e : Expr} {es : List Expr} {to : TE} {t : TA} {apos cpos : Pos} (ho : PE X o to) (ha : PA X (e :: es) t)
    (hbase : attributeBase o "update" X.env (eval o X.env) = eval o X.env := by rfl)
    (hfew : ((backTo cpos (starEach (e :: es) X.env)).all (fun x => !x.1) && (backToKw cpos (keywordEach [] X.env)).all (fun x => x.1.isSome)
      && decide ((e :: es).length + ([] : List Keyword).length + (if ([] : List Keyword).isEmpty then 0 else 1) < 30)) = true := by rfl)
    (hline : (apos.endLine == cpos.line) = true := by rfl) (hs : starEach (e :: es) X.env = (false, eval e X.env) :: starEach es X.env := by rfl) (hplain : (backTo cpos (starEach es X.env)).any (·.1) = false := by rfl) :
    PE X (.Call (.Attribute o "update" apos) (e :: es) [] cpos) (tUD (gx X) to t) := by
  refine ⟨fun pins s σ H Q I h => ?_⟩
  refine wpAny_Call_method_late hbase hfew hline rfl (thn (ho.run pins s σ H _ I h) fun v s1 ⟨x, H1, I1, r1, ty, q1⟩ => ?_)
  obtain ⟨h1, h2⟩ := dctV_is I1 r1 ty
  refine ⟨"dict", "dict.update", PySem.F.plainAttrs_dict, PySem.F.slot_dict_update, rfl, h1, h2, ?_⟩
  have hA := ha.run cpos pins s1 σ H1 _ I1 q1
  rw [hs] at hA ⊢
  refine Calls.callWith_builtin (by show (false || (backTo cpos (starEach es X.env)).any (·.1)) = false; rw [hplain] <;> rfl) (Calls.evalArgs_plain ?_)
  exact thn hA fun us s2 ⟨vs, H2, I2, r2, q2⟩ => mt_upd B pins s2 σ H2 x vs v us Q I2 r1 r2 q2
end
end TL

set_option Elab.async false
set_option linter.all false
set_option maxRecDepth 100000
/-! TLq: the look at a def's text: whether it says what the small language says. -/
namespace TL
open PySem L2 StX RZ

structure Sx where
  N : List Str
  Cn : Str → Option Int

def visB (sc : Scope) (x : Str) : Bool := match sc.names.lookup x with
  | some .local => true
  | some .cell => true
  | some .free => true
  | _ => false
def glB (sc : Scope) (x : Str) : Bool := match sc.names.lookup x with
  | some .globalImplicit => true
  | _ => false
def ownB_ (sc : Scope) (x : Str) : Bool := match sc.names.lookup x with
  | some .local => true
  | some .cell => true
  | _ => false
def noStar : List Expr → Bool
  | [] => true
  | .Starred _ _ :: _ => false
  | _ :: r => noStar r
def notSet : Expr → Bool
  | .Set _ _ _ => false
  | _ => true
def notSl : Expr → Bool
  | .Slice _ _ _ _ => false
  | _ => true
def plainT : Expr → Bool
  | .UnaryOp _ _ _ => false
  | .BoolOp _ _ _ => false
  | .IfExp _ _ _ _ => false
  | .Compare _ _ _ _ => false
  | _ => true
def okName (x : Str) : Bool := !(x == ("__debug__" : Str)) && !(x == ("__classdict__" : Str)) && decide (x ≠ "__name__")
/-- names of the built-in functions that are read by their arguments -/
def bfN : Bf → Option Str
  | .len => some "len"
  | .tuple => some "tuple"
  | .list => some "list"
  | .sorted => some "sorted"
  | .repr => some "repr"
  | .sum => some "sum"
  | .max1 => some "max"
  | .min1 => some "min"
  | .max2 => some "max"
  | .min2 => some "min"
  | .all => some "all"
  | .any => some "any"
  | .abs => some "abs"
  | .int => some "int"
  | _ => none
def isiN : Bf → Option String
  | .isInt => some "int"
  | .isBool => some "bool"
  | .isTuple => some "tuple"
  | .isStr => some "str"
  | _ => none
def bltNames : List Str := ["len", "tuple", "list", "sum", "max", "min", "all", "any", "abs", "int", "bool", "str", "isinstance", "range", "zip", "enumerate", "sorted", "repr", "set"]

/-- a target: names of one's own -/
def chkNm (C : Sx) (loc : Str → Bool) : List Expr → List Nat → Bool
  | [], [] => true
  | .Name x _ :: es, i :: is => decide (C.N[i]? = some x) && loc x && chkNm C loc es is
  | _, _ => false
def chkG (C : Sx) (loc : Str → Bool) : Expr → T → Bool
  | .Name x _, .nm i => decide (C.N[i]? = some x) && loc x
  | .Tuple es _ _, .tp is => chkNm C loc es is
  | _, _ => false
def isTup : Expr → Bool
  | .Tuple _ _ _ => true
  | _ => false
def ownL (N : List Str) (own : List Nat) : List (Str × Nat) := own.map fun i => (N.getD i "", i)

mutual
def chkE (C : Sx) : Nat → Scope → Expr → E → Bool
  | 0, _, _, _ => false
  | n + 1, sc, a, e => match a, e with
    | .Name x _, .var i => decide (C.N[i]? = some x) && visB sc x && okName x
    | .Name x _, .glb y (.int d) => x == y && glB sc x && okName x && decide (C.Cn x = some d)
    | .Constant (.int i) _ _, .con (.int j) => decide (i = j)
    | .Constant (.bool i) _ _, .con (.bool j) => decide (i = j)
    | .Constant (.str i) _ _, .con (.str j) => decide (i = j)
    | .Constant .none _ _, .con .none => true
    | .UnaryOp .USub x _, .neg y => chkE C n sc x y
    | .UnaryOp .Not x _, .not y => chkE C n sc x y
    | .BinOp x o y _, .op p f g => decide (binOf p = some o) && chkE C n sc x f && chkE C n sc y g
    | .Compare x [o] [y] _, .op p f g => decide (cmpOf p = some o) && !behindInMarks o y && chkE C n sc x f && chkE C n sc y g
    | .Compare x [o, o'] [y, z] _, .chn p p' f g h => decide (cmpOf p = some o) && decide (cmpOf p' = some o') && !lastMarks [o, o'] [y, z] && chkE C n sc x f && chkE C n sc y g && chkE C n sc z h
    | .Subscript x (.Slice lo hi none _) _, .slc f hl fl hh fh => chkE C n sc x f && chkO C n sc lo hl fl && chkO C n sc hi hh fh
    | .Subscript x y _, .op .idx f g => notSl y && chkE C n sc x f && chkE C n sc y g
    | .BoolOp .And (x :: y :: r) p, .and f g => chkE C n sc x f && chkE C n sc (.BoolOp .And (y :: r) p) g
    | .BoolOp .Or (x :: y :: r) p, .or f g => chkE C n sc x f && chkE C n sc (.BoolOp .Or (y :: r) p) g
    | .BoolOp _ [x] _, f => chkE C n sc x f
    | .IfExp c x y _, .ite d f g => chkT C n sc c d && chkE C n sc x f && chkE C n sc y g
    | .Tuple es _ _, .tup fs => chkA C n sc es fs
    | .List es _, .lst fs => chkA C n sc es fs
    | .Dict [] [] _, .dic => true
    | .Call (.Name x _) [.Call (.Name y _) [b] [] _] [] _, .blt .lrg1 (.cons false f .nil) => decide (x = "list") && decide (y = "range") && glB sc x && glB sc y && noStar [b] && chkE C n sc b f
    | .Call (.Name x _) [.Call (.Name y _) [b] [] _] [] _, .blt .trg1 (.cons false f .nil) => decide (x = "tuple") && decide (y = "range") && glB sc x && glB sc y && noStar [b] && chkE C n sc b f
    | .Call (.Name x _) [.Call (.Name y _) [b, c] [] _] [] _, .blt .lrg2 (.cons false f (.cons false g .nil)) => decide (x = "list") && decide (y = "range") && glB sc x && glB sc y && noStar [b, c] && chkE C n sc b f && chkE C n sc c g
    | .Call (.Name x _) [.Call (.Name y _) [b] [] _] [] _, .blt .srs (.cons false f .nil) => decide (x = "sorted") && decide (y = "set") && glB sc x && glB sc y && noStar [b] && chkE C n sc b f
    | .Call (.Name x _) [b, .Name y _] [] _, .blt q (.cons false f .nil) => decide (x = "isinstance") && (match isiN q with | some t => decide (y = Str.ofString t) | none => false) && glB sc x && glB sc y && noStar [b] && chkE C n sc b f
    | .Call (.Name x _) (b :: bs) [] _, .blt q fs => decide (bfN q = some x) && glB sc x && noStar (b :: bs) && chkR C n sc (b :: bs) fs
    | .Call (.Name x _) (b :: bs) [] _, .call y fs => x == y && glB sc x && okName x && noStar (b :: bs) && chkR C n sc (b :: bs) fs
    | .Call (.Attribute (.Name x _) m ap) [] [] cp, .pop i => decide (m = "pop") && decide (C.N[i]? = some x) && visB sc x && okName x && (ap.endLine == cp.line)
    | .ListComp elt [⟨tg, it, ifs, 0⟩] scope _, .cmp own tg' it' hc c f => blkC C.N sc scope (ownL C.N own) && chkG C (ownB_ scope) tg tg' && (tg'.ixs.all fun i => decide (i ∈ own)) && notSet it && chkI C n sc tg it it' &&
        chkIf C n (L2.relS scope sc) ifs hc c && chkE C n (L2.relS scope sc) elt f
    | .DictComp kx vx [⟨tg, it, ifs, 0⟩] scope _, .dcm own tg' it' hc c f g => blkC C.N sc scope (ownL C.N own) && chkG C (ownB_ scope) tg tg' && (tg'.ixs.all fun i => decide (i ∈ own)) && notSet it && chkI C n sc tg it it' &&
        chkIf C n (L2.relS scope sc) ifs hc c && chkE C n (L2.relS scope sc) kx f && chkE C n (L2.relS scope sc) vx g
    | _, _ => false
def chkT (C : Sx) : Nat → Scope → Expr → E → Bool
  | 0, _, _, _ => false
  | n + 1, sc, a, e => match a, e with
    | .UnaryOp .Not x _, .not y => chkT C n sc x y
    | .Compare x [o] [y] _, .op p f g => decide (cmpOf p = some o) && !behindInMarks o y && chkE C n sc x f && chkE C n sc y g
    | .Compare x [o, o'] [y, z] _, .chn p p' f g h => decide (cmpOf p = some o) && decide (cmpOf p' = some o') && !lastMarks [o, o'] [y, z] && chkE C n sc x f && chkE C n sc y g && chkE C n sc z h
    | .BoolOp o r p, f => chkW C n sc o r p f
    | a, e => plainT a && chkE C n sc a e
def chkW (C : Sx) : Nat → Scope → BoolOp → List Expr → Pos → E → Bool
  | 0, _, _, _, _, _ => false
  | n + 1, sc, o, r, p, e => match o, r, e with
    | .And, x :: y :: r, .and f g => chkT C n sc x f && chkW C n sc .And (y :: r) p g
    | .Or, x :: y :: r, .or f g => chkT C n sc x f && chkW C n sc .Or (y :: r) p g
    | _, [x], f => chkT C n sc x f
    | _, _, _ => false
def chkIf (C : Sx) : Nat → Scope → List Expr → Bool → E → Bool
  | 0, _, _, _, _ => false
  | n + 1, sc, ifs, hc, c => match ifs, hc with
    | [], false => true
    | [x], true => chkT C n sc x c
    | _, _ => false
def chkO (C : Sx) : Nat → Scope → Option Expr → Bool → E → Bool
  | 0, _, _, _, _ => false
  | n + 1, sc, a, b, e => match a, b with
    | none, false => true
    | some x, true => chkE C n sc x e
    | _, _ => false
def chkA (C : Sx) : Nat → Scope → List Expr → As → Bool
  | 0, _, _, _ => false
  | n + 1, sc, es, fs => match es, fs with
    | [], .nil => true
    | .Starred x _ :: r, .cons true f fs => chkE C n sc x f && chkA C n sc r fs
    | x :: r, .cons false f fs => noStar [x] && chkE C n sc x f && chkA C n sc r fs
    | _, _ => false
def chkR (C : Sx) : Nat → Scope → List Expr → As → Bool
  | 0, _, _, _ => false
  | n + 1, sc, es, fs => match es, fs with
    | [], .nil => true
    | x :: r, .cons _ f fs => noStar [x] && chkE C n sc x f && chkR C n sc r fs
    | _, _ => false
def chkI (C : Sx) : Nat → Scope → Expr → Expr → I → Bool
  | 0, _, _, _, _ => false
  | n + 1, sc, tg, a, it => match a, it with
    | .Call (.Name x _) [b] [] _, .rng1 f => decide (x = "range") && glB sc x && noStar [b] && chkE C n sc b f
    | .Call (.Name x _) [b, c] [] _, .rng2 f g => decide (x = "range") && glB sc x && noStar [b, c] && chkE C n sc b f && chkE C n sc c g
    | .Call (.Name x _) [b, c] [] _, .zip f g => decide (x = "zip") && isTup tg && glB sc x && noStar [b, c] && chkE C n sc b f && chkE C n sc c g
    | .Call (.Name x _) [b] [] _, .enm f => decide (x = "enumerate") && isTup tg && glB sc x && noStar [b] && chkE C n sc b f
    | a, .ex f => chkE C n sc a f
    | _, _ => false
end
end TL

set_option Elab.async false
set_option linter.all false
set_option maxRecDepth 100000
set_option maxHeartbeats 4000000
/-! TLr: what the look at a text is worth: expressions. -/
namespace TL
open PySem L2 StX RZ

structure XC (X : Cx) (Φ : Fns) (C : Sx) : Prop where
  B : XB X
  n : X.N = C.N
  blt : ∀ x ∈ bltNames, X.mg x = none
  cn : ∀ x i, C.Cn x = some i → ∃ t, X.mg x = some (.int i t)
  fn : ∀ f fs, Φ f = some fs → ∃ k a, FnT X.prog X.w X.K X.mg X.base k a fs ∧ Room k X.A ∧ X.mg f = some (.ref a) ∧ PySem.W.keepIn X.K (.ref a) = true
theorem XC.blk {X : Cx} {Φ : Fns} {C : Sx} (h : XC X Φ C) (s : Shared) (H : Hp) (scope : Scope) (ce : Env) (fp : List Addr) : XC (X.blk s H scope ce fp) Φ C :=
  ⟨⟨h.B.calm, h.B.un, h.B.gd, h.B.nd⟩, h.n, h.blt, h.cn, h.fn⟩
structure Snd (C : Sx) (Φ : Fns) (n : Nat) : Prop where
  e : ∀ (X : Cx) (c : XC X Φ C) (a : Expr) (e : E), chkE C n X.env.scope a e = true → PE X a (tE (gx X) Φ e)
  t : ∀ (X : Cx) (c : XC X Φ C) (a : Expr) (e : E), chkT C n X.env.scope a e = true → PT X a (tT (gx X) Φ e)
  w : ∀ (X : Cx) (c : XC X Φ C) (o : BoolOp) (r : List Expr) (p : Pos) (e : E), chkW C n X.env.scope o r p e = true → PW X (.BoolOp o r p) (tT (gx X) Φ e)
  f : ∀ (X : Cx) (c : XC X Φ C) (ifs : List Expr) (hc : Bool) (e : E), chkIf C n X.env.scope ifs hc e = true → PTs X ifs (tTs (gx X) Φ hc e)
  o : ∀ (X : Cx) (c : XC X Φ C) (a : Option Expr) (b : Bool) (e : E), chkO C n X.env.scope a b e = true → PO X a (tO (gx X) Φ b e)
  a : ∀ (X : Cx) (c : XC X Φ C) (es : List Expr) (fs : As), chkA C n X.env.scope es fs = true → PA X es (tA (gx X) Φ fs)
  r : ∀ (X : Cx) (c : XC X Φ C) (es : List Expr) (fs : As), chkR C n X.env.scope es fs = true → PA X es (tR (gx X) Φ fs)
  i : ∀ (X : Cx) (c : XC X Φ C) (tg a : Expr) (it : I), chkI C n X.env.scope tg a it = true → PI X tg a (tI (gx X) Φ it)

section
variable {X : Cx} {Φ : Fns} {C : Sx} {n : Nat}
theorem vis_of {sc : Scope} {x : Str} (h : visB sc x = true) : Vis sc x := by
  unfold visB at h
  split at h <;> first | exact .inl (by assumption) | exact .inr (.inl (by assumption)) | exact .inr (.inr (by assumption)) | cases h
theorem gl_of {x : Str} (h : glB X.env.scope x = true) : Gl X x := by
  unfold glB at h
  split at h
  · assumption
  · cases h
theorem okName_of {x : Str} (h : okName x = true) : (x == ("__debug__" : Str)) = false ∧ (x == ("__classdict__" : Str)) = false ∧ x ≠ "__name__" := by
  simpa [okName, and_assoc] using h
theorem star_of {e : Expr} {es : List Expr} (h : noStar (e :: es) = true) (env : Env) : starEach (e :: es) env = (false, eval e env) :: starEach es env := by
  cases e <;> first | rfl | cases h
theorem star_hd {e : Expr} {es : List Expr} (h : noStar [e] = true) (env : Env) : starEach (e :: es) env = (false, eval e env) :: starEach es env := by
  cases e <;> first | rfl | cases h
theorem noStar_tl {e : Expr} {es : List Expr} (h : noStar (e :: es) = true) : noStar es = true := by
  cases e <;> first | exact h | cases h
theorem plain_of {pos : Pos} {env : Env} : ∀ {es : List Expr}, noStar es = true → (backTo pos (starEach es env)).any (·.1) = false
  | [], _ => rfl
  | e :: es, h => by
    rw [star_of h env]
    have := plain_of (pos := pos) (env := env) (noStar_tl h)
    simpa [backTo] using this
theorem star1 {b : Expr} (h : noStar [b] = true) (env : Env) : starEach [b] env = [(false, eval b env)] := star_of h env
theorem star2 {b c : Expr} (h : noStar [b, c] = true) (env : Env) : starEach [b, c] env = [(false, eval b env), (false, eval c env)] := by
  rw [star_of h env, star1 (noStar_tl h) env]
theorem isTrue_of {e : Expr} {env : Env} (h : plainT e = true) : ∀ whole, isTrue e env whole = (do let v ← whole; standAt e.pos; holding [v] (truthy v)) := by
  intro w
  cases e <;> first | rfl | cases h
theorem set_of {e : Expr} {env : Env} (h : notSet e = true) : ∀ x, foldedSetIterable e env x = pure x := by
  intro x
  cases e <;> first | rfl | cases h
theorem ix_of {e : Expr} (h : notSl e = true) : PlainIx e := by
  intro o i
  cases e <;> first | rfl | cases h

theorem snd_t (ih : Snd C Φ n) (c : XC X Φ C) {a : Expr} {e : E} (h : chkT C (n + 1) X.env.scope a e = true) : PT X a (tT (gx X) Φ e) := by
  unfold chkT at h
  split at h
  · exact PT.imp (pt_not (ih.t X c _ _ h)) fun σ H Q q => tT_not q
  · simp only [Bool.and_eq_true, decide_eq_true_eq, Bool.not_eq_true'] at h
    obtain ⟨⟨⟨h1, h2⟩, h3⟩, h4⟩ := h
    exact PT.imp (pt_cmpR (cmp_ok c.B h1) (ih.e X c _ _ h3) (ih.e X c _ _ h4) h2) fun σ H Q q => tE_op (tT_E q)
  · simp only [Bool.and_eq_true, decide_eq_true_eq, Bool.not_eq_true'] at h
    obtain ⟨⟨⟨⟨⟨h1, h2⟩, h3⟩, h4⟩, h5⟩, h6⟩ := h
    exact PT.imp (pt_chain (cmp_ok c.B h1) (cmp_ok c.B h2) (ih.e X c _ _ h4) (ih.e X c _ _ h5) (ih.e X c _ _ h6) h3) fun σ H Q q => tE_chn (tT_E q)
  · exact (ih.w X c _ _ _ _ h).pt
  · simp only [Bool.and_eq_true] at h
    exact PT.imp (pt_val (ih.e X c _ _ h.2) (isTrue_of h.1)) fun σ H Q q => tT_E q
theorem snd_w (ih : Snd C Φ n) (c : XC X Φ C) {o : BoolOp} {r : List Expr} {p : Pos} {e : E} (h : chkW C (n + 1) X.env.scope o r p e = true) : PW X (.BoolOp o r p) (tT (gx X) Φ e) := by
  unfold chkW at h
  split at h
  · simp only [Bool.and_eq_true] at h
    exact PW.imp (pw_and (ih.t X c _ _ h.1) (ih.w X c _ _ _ _ h.2)) fun σ H Q q => tT_and q
  · simp only [Bool.and_eq_true] at h
    exact PW.imp (pw_or (ih.t X c _ _ h.1) (ih.w X c _ _ _ _ h.2)) fun σ H Q q => tT_or q
  · cases o
    · exact pw_and1 (ih.t X c _ _ h)
    · exact pw_or1 (ih.t X c _ _ h)
  · cases h
theorem snd_f (ih : Snd C Φ n) (c : XC X Φ C) {ifs : List Expr} {hc : Bool} {e : E} (h : chkIf C (n + 1) X.env.scope ifs hc e = true) : PTs X ifs (tTs (gx X) Φ hc e) := by
  unfold chkIf at h
  split at h
  · exact pts_nil
  · exact pts_one (ih.t X c _ _ h)
  · cases h
theorem PO.imp {e : Option Expr} {t t' : TO} (h : PO X e t) (i : ∀ σ H Q, t' σ H Q → t σ H Q) : PO X e t' := ⟨fun pins s σ H Q I q => h.run pins s σ H Q I (i σ H Q q)⟩
theorem snd_o (ih : Snd C Φ n) (c : XC X Φ C) {a : Option Expr} {b : Bool} {e : E} (h : chkO C (n + 1) X.env.scope a b e = true) : PO X a (tO (gx X) Φ b e) := by
  unfold chkO at h
  split at h
  · exact PO.imp po_none fun σ H Q q => tO_none q
  · exact PO.imp (po_some (ih.e X c _ _ h)) fun σ H Q q => tO_some q
  · cases h
theorem snd_a (ih : Snd C Φ n) (c : XC X Φ C) {es : List Expr} {fs : As} (h : chkA C (n + 1) X.env.scope es fs = true) : PA X es (tA (gx X) Φ fs) := by
  unfold chkA at h
  split at h
  · exact PA.imp pa_nil fun σ H Q q => tA_nil q
  · simp only [Bool.and_eq_true] at h
    exact PA.imp (pa_star (ih.e X c _ _ h.1) (ih.a X c _ _ h.2)) fun σ H Q q => tA_star q
  · simp only [Bool.and_eq_true] at h
    exact PA.imp (pa_cons (ih.e X c _ _ h.1.2) (ih.a X c _ _ h.2) (star_hd h.1.1 _)) fun σ H Q q => tA_cons q
  · cases h
theorem snd_r (ih : Snd C Φ n) (c : XC X Φ C) {es : List Expr} {fs : As} (h : chkR C (n + 1) X.env.scope es fs = true) : PA X es (tR (gx X) Φ fs) := by
  unfold chkR at h
  split at h
  · exact PA.imp pa_nil fun σ H Q q => tR_nil q
  · simp only [Bool.and_eq_true] at h
    exact PA.imp (pa_cons (ih.e X c _ _ h.1.2) (ih.r X c _ _ h.2) (star_hd h.1.1 _)) fun σ H Q q => tR_cons q
  · cases h
theorem snd_i (ih : Snd C Φ n) (c : XC X Φ C) {tg a : Expr} {it : I} (h : chkI C (n + 1) X.env.scope tg a it = true) : PI X tg a (tI (gx X) Φ it) := by
  unfold chkI at h
  split at h
  · simp only [Bool.and_eq_true, decide_eq_true_eq] at h
    obtain ⟨⟨⟨rfl, h2⟩, h3⟩, h4⟩ := h
    exact pi_r1 (gl_of h2) (c.blt _ (by decide)) (ih.e X c _ _ h4) (star1 h3 _)
  · simp only [Bool.and_eq_true, decide_eq_true_eq] at h
    obtain ⟨⟨⟨⟨rfl, h2⟩, h3⟩, h4⟩, h5⟩ := h
    exact pi_r2 (gl_of h2) (c.blt _ (by decide)) (ih.e X c _ _ h4) (ih.e X c _ _ h5) (star2 h3 _) (star1 (noStar_tl h3) _)
  · simp only [Bool.and_eq_true, decide_eq_true_eq] at h
    obtain ⟨⟨⟨⟨⟨rfl, h1⟩, h2⟩, h3⟩, h4⟩, h5⟩ := h
    cases tg <;> first | cases h1 | skip
    exact pi_zp (gl_of h2) (c.blt _ (by decide)) (ih.e X c _ _ h4) (ih.e X c _ _ h5) (star2 h3 _) (star1 (noStar_tl h3) _)
  · simp only [Bool.and_eq_true, decide_eq_true_eq] at h
    obtain ⟨⟨⟨⟨rfl, h1⟩, h2⟩, h3⟩, h4⟩ := h
    cases tg <;> first | cases h1 | skip
    exact pi_en (gl_of h2) (c.blt _ (by decide)) (ih.e X c _ _ h4) (star1 h3 _)
  · exact pi_ex (ih.e X c _ _ h)
  · cases h
end
end TL

set_option Elab.async false
set_option linter.all false
set_option maxRecDepth 100000
set_option maxHeartbeats 4000000
/-! TLs: expressions, all. -/
namespace TL
open PySem L2 StX RZ
section
variable {X : Cx} {Φ : Fns} {C : Sx} {n : Nat}
theorem nm_of (c : XC X Φ C) {loc : Str → Bool} (hl : ∀ x, loc x = true → Loc X.env.scope x ∧ (X.fn x = true ∨ X.env.scope.names.lookup x = some .local)) : ∀ {es : List Expr} {is : List Nat}, chkNm C loc es is = true →
    PGs X es (gNm is) ∧ (assignEach es X.env).length = is.length ∧ (assignEach es X.env).findIdx? (·.1) = none
  | [], [], _ => ⟨pgs_nil, rfl, rfl⟩
  | [], _ :: _, h => by cases h
  | e :: es, [], h => by cases e <;> cases h
  | e :: es, i :: is, h => by
    cases e <;> first | cases h | skip
    rename_i x p
    simp only [chkNm, Bool.and_eq_true, decide_eq_true_eq] at h
    obtain ⟨h1, h2, h3⟩ := nm_of c hl h.2
    obtain ⟨a, b⟩ := hl x h.1.2
    refine ⟨pgs_cons (pg_name c.B.nd (by rw [c.n]; exact h.1.1) a b) h1 rfl, by simp [assignEach, h2], ?_⟩
    show List.findIdx? (fun x => x.1) ((false, _) :: assignEach es X.env) = none
    rw [List.findIdx?_cons]
    simpa using h3
theorem g_of (c : XC X Φ C) {loc : Str → Bool} (hl : ∀ x, loc x = true → Loc X.env.scope x ∧ (X.fn x = true ∨ X.env.scope.names.lookup x = some .local)) {tg : Expr} {t : T} (h : chkG C loc tg t = true) : PG X tg (gT X.K t) := by
  unfold chkG at h
  split at h
  · simp only [Bool.and_eq_true, decide_eq_true_eq] at h
    obtain ⟨a, b⟩ := hl _ h.2
    exact pg_name c.B.nd (by rw [c.n]; exact h.1) a b
  · obtain ⟨h1, h2, h3⟩ := nm_of c hl h
    exact pg_tup c.B.calm h1 h2 h3
  · cases h
theorem own_loc {sc : Scope} {x : Str} (h : ownB_ sc x = true) : Loc sc x ∧ (sc.names.lookup x = some .cell ∨ sc.names.lookup x = some .local) := by
  unfold ownB_ at h
  split at h
  · rename_i q; exact ⟨.inl q, .inr q⟩
  · rename_i q; exact ⟨.inr q, .inl q⟩
  · cases h
theorem blk_loc {scope sc : Scope} {x : Str} (h : ownB_ scope x = true) : Loc (L2.relS scope sc) x ∧ ((scope.names.lookup x == some .cell) = true ∨ (L2.relS scope sc).names.lookup x = some .local) := by
  obtain ⟨h1, h2⟩ := own_loc h
  rcases h1 with q | q
  · have := lookup_relS_keep (sc := sc) (by decide) q
    exact ⟨.inl this, .inr this⟩
  · have := lookup_relS_keep (sc := sc) (by decide) q
    exact ⟨.inr this, .inl (by simp [q])⟩
theorem ownL_snd {N : List Str} {own : List Nat} : (ownL N own).map (·.2) = own := by
  simp [ownL, List.map_map, Function.comp_def]
section
variable {x : Str} {p pos : Pos} {b : Expr} {bs : List Expr} {q : Bf} {fs : As} {id : String}
theorem blt_B (c : XC X Φ C) (hc : CallR X (.builtin id) (rB (gx X) (semB q))) (hq : frB q = false) (hg : glB X.env.scope x = true) (hx : x ∈ bltNames) (hv : bootBuiltins x = some (.builtin id)) (hn : okName x = true) (hs : noStar (b :: bs) = true)
    (ha : PA X (b :: bs) (tR (gx X) Φ fs)) : PE X (.Call (.Name x p) (b :: bs) [] pos) (tE (gx X) Φ (.blt q fs)) :=
  PE.imp (pe_callB hc (gl_of hg) (c.blt _ hx) hv ha (okName_of hn).2.2 (okName_of hn).1 (star_of hs _) (plain_of (noStar_tl hs))) fun σ H Q => tE_blt hq
theorem blt_T (c : XC X Φ C) (hc : CallR X (.type id) (rB (gx X) (semB q))) (hq : frB q = false) (hg : glB X.env.scope x = true) (hx : x ∈ bltNames) (hv : bootBuiltins x = some (.type id)) (hn : okName x = true) (hs : noStar (b :: bs) = true)
    (ha : PA X (b :: bs) (tR (gx X) Φ fs)) : PE X (.Call (.Name x p) (b :: bs) [] pos) (tE (gx X) Φ (.blt q fs)) :=
  PE.imp (pe_callTy hc (gl_of hg) (c.blt _ hx) hv ha (okName_of hn).2.2 (okName_of hn).1 (star_of hs _) (plain_of (noStar_tl hs))) fun σ H Q => tE_blt hq
theorem blt_TF (c : XC X Φ C) (hc : CallR X (.type id) (rBF (gx X) (semB q))) (hq : frB q = true) (hg : glB X.env.scope x = true) (hx : x ∈ bltNames) (hv : bootBuiltins x = some (.type id)) (hn : okName x = true) (hs : noStar (b :: bs) = true)
    (ha : PA X (b :: bs) (tR (gx X) Φ fs)) : PE X (.Call (.Name x p) (b :: bs) [] pos) (tE (gx X) Φ (.blt q fs)) :=
  PE.imp (pe_callTy hc (gl_of hg) (c.blt _ hx) hv ha (okName_of hn).2.2 (okName_of hn).1 (star_of hs _) (plain_of (noStar_tl hs))) fun σ H Q => tE_bltF hq
theorem blt_BF (c : XC X Φ C) (hc : CallR X (.builtin id) (rBF (gx X) (semB q))) (hq : frB q = true) (hg : glB X.env.scope x = true) (hx : x ∈ bltNames) (hv : bootBuiltins x = some (.builtin id)) (hn : okName x = true) (hs : noStar (b :: bs) = true)
    (ha : PA X (b :: bs) (tR (gx X) Φ fs)) : PE X (.Call (.Name x p) (b :: bs) [] pos) (tE (gx X) Φ (.blt q fs)) :=
  PE.imp (pe_callB hc (gl_of hg) (c.blt _ hx) hv ha (okName_of hn).2.2 (okName_of hn).1 (star_of hs _) (plain_of (noStar_tl hs))) fun σ H Q => tE_bltF hq
theorem snd_blt (c : XC X Φ C) (hb : bfN q = some x) (hg : glB X.env.scope x = true) (hs : noStar (b :: bs) = true) (ha : PA X (b :: bs) (tR (gx X) Φ fs)) : PE X (.Call (.Name x p) (b :: bs) [] pos) (tE (gx X) Φ (.blt q fs)) := by
  cases q <;> simp only [bfN, Option.some.injEq, reduceCtorEq] at hb <;> subst hb
  · exact blt_B c bf_len rfl hg (by decide) rfl (by decide) hs ha
  · exact blt_T c bf_tuple rfl hg (by decide) rfl (by decide) hs ha
  · exact blt_TF c bf_listF rfl hg (by decide) rfl (by decide) hs ha
  · exact blt_BF c (bf_sorted c.B) rfl hg (by decide) rfl (by decide) hs ha
  · exact blt_B c (bf_sum c.B.calm) rfl hg (by decide) rfl (by decide) hs ha
  · exact blt_B c (bf_max1 c.B.calm) rfl hg (by decide) rfl (by decide) hs ha
  · exact blt_B c (bf_min1 c.B.calm) rfl hg (by decide) rfl (by decide) hs ha
  · exact blt_B c (bf_max2 c.B.calm) rfl hg (by decide) rfl (by decide) hs ha
  · exact blt_B c (bf_min2 c.B.calm) rfl hg (by decide) rfl (by decide) hs ha
  · exact blt_B c (bf_all c.B.calm) rfl hg (by decide) rfl (by decide) hs ha
  · exact blt_B c (bf_any c.B.calm) rfl hg (by decide) rfl (by decide) hs ha
  · exact blt_B c bf_abs rfl hg (by decide) rfl (by decide) hs ha
  · exact blt_T c bf_int rfl hg (by decide) rfl (by decide) hs ha
  · exact blt_B c (bf_repr c.B) rfl hg (by decide) rfl (by decide) hs ha
end
def isiD : Bf → PyData → Bool
  | .isInt, d => isIntD d
  | .isBool, d => isBoolD d
  | .isTuple, d => isTupleD d
  | _, d => isStrD d
/-- isinstance of one type -/
theorem tE_isi {q : Bf} {t : String} {f : E} {p pos p2 : Pos} {b : Expr} (c : XC X Φ C) (hq : isiN q = some t) (hg : glB X.env.scope "isinstance" = true) (hy : glB X.env.scope (Str.ofString t) = true) (hs : noStar [b] = true) (hb : PE X b (tE (gx X) Φ f)) :
    PE X (.Call (.Name "isinstance" p) [b, .Name (Str.ofString t) p2] [] pos) (tE (gx X) Φ (.blt q (.cons false f .nil))) := by
  have ht : t ∈ ["int", "bool", "tuple", "str"] ∧ ∀ d, semB q [d] = (if isDictD d then none else some (.bool (isiD q d))) := by
    cases q <;> simp only [isiN, Option.some.injEq, reduceCtorEq] at hq <;> subst hq <;> exact ⟨by decide, fun d => rfl⟩
  have hty : PE X (.Name (Str.ofString t) p2) (tC (.ty t)) := by
    have h := ht.1
    simp only [List.mem_cons, List.not_mem_nil, or_false] at h
    rcases h with rfl | rfl | rfl | rfl
    · exact pe_bltn (gl_of hy) (c.blt _ (by decide)) (by rfl) rfl
    · exact pe_bltn (gl_of hy) (c.blt _ (by decide)) (by rfl) rfl
    · exact pe_bltn (gl_of hy) (c.blt _ (by decide)) (by rfl) rfl
    · exact pe_bltn (gl_of hy) (c.blt _ (by decide)) (by rfl) rfl
  have hk : ∀ d, isDictD d = false → kitB (tyD d) t = some (isiD q d) := by
    cases q <;> simp only [isiN, Option.some.injEq, reduceCtorEq] at hq <;> subst hq
    · exact kit_int
    · exact kit_bool
    · exact kit_tuple
    · exact kit_str
  have cr : CallR X (.builtin "isinstance") (fun vs H Q => ∃ v m d, vs = [v, .ty t] ∧ Opd (gx X) (mk m H) H v d ∧ isDictD d = false ∧ Q (.bl (isiD q d)) H) := by
    rintro pins s σ H vs us Q I r ⟨v, m, d, rfl, o, hd, k⟩
    exact isi_core hk I r o hd k
  refine PE.imp (pe_callB cr (gl_of hg) (c.blt _ (by decide)) (by rfl) (pa_cons hb (pa_cons hty pa_nil rfl) (star_hd hs _)) (by decide) (by decide) (star_hd hs _) (by rfl)) fun σ H Q h => ?_
  obtain ⟨F, τ, rv, τ', I, e0, k⟩ := h
  simp only [ev, evC, ev_bind_iff] at e0
  obtain ⟨rvs, τ1, ⟨x, τa, e1, xs, τb, e2, e3⟩, ds, τ2, e4, r, τ3, e5, e6⟩ := e0
  obtain ⟨rfl, rfl⟩ := ev_pure_inv e2
  obtain ⟨rfl, rfl⟩ := ev_pure_inv e3
  obtain ⟨hr, rfl⟩ := ev_lift_inv e5
  obtain ⟨rfl, rfl⟩ := ev_pure_inv e6
  obtain ⟨d, es, d1, d2, rfl⟩ := derefs_cons e4
  obtain ⟨rfl, rfl⟩ := ev_pure_inv d2
  rw [ht.2 d] at hr
  split at hr
  · cases hr
  · rename_i hd
    cases hr
    have hf : frB q = false := by cases q <;> first | rfl | (simp [isiN] at hq)
    refine ⟨F, τ, x, _, I, e1, fun v H1 P1 R1 => ?_⟩
    obtain ⟨_, o⟩ := R1.opd P1.fi d1
    refine ⟨v, mb F.M _ σ, d, rfl, o, by simpa using hd, k _ H1 P1 ?_⟩
    rw [hf]; exact Rp.bl _
end
end TL

set_option Elab.async false
set_option linter.all false
set_option maxRecDepth 100000
set_option maxHeartbeats 8000000
/-! TLt: expressions, the one theorem. -/
namespace TL
open PySem L2 StX RZ
section
variable {X : Cx} {Φ : Fns} {C : Sx} {n : Nat}
theorem snd_lc (ih : Snd C Φ n) (c : XC X Φ C) {elt tg it : Expr} {ifs : List Expr} {scope : Scope} {pos : Pos} {own : List Nat} {t : T} {it' : I} {hc : Bool} {e f : E}
    (h1 : blkC C.N X.env.scope scope (ownL C.N own) = true) (h2 : chkG C (ownB_ scope) tg t = true) (h3 : ∀ i ∈ t.ixs, i ∈ own) (h4 : notSet it = true) (h5 : chkI C n X.env.scope tg it it' = true)
    (h6 : chkIf C n (L2.relS scope X.env.scope) ifs hc e = true) (h7 : chkE C n (L2.relS scope X.env.scope) elt f = true) :
    PE X (.ListComp elt [⟨tg, it, ifs, 0⟩] scope pos) (tLc (tI (gx X) Φ it') (gT X.K t) (tTs (gx X) Φ hc e) (tE (gx X) Φ f) own) := by
  have bo : BlkOk X.N X.env.scope scope (ownL C.N own) := by rw [c.n]; exact blkOk_by h1
  have := pe_lc (pos := pos) c.B.calm c.B.nd (ih.i X c tg it it' h5) bo (fun s H C' cl fp => show PG (X.blk s H scope (compEnvC scope cl C' X.env) fp) tg (gT X.K t) from g_of (c.blk s H scope _ fp) (fun x hx => blk_loc hx) h2) (fun s H C' cl fp => show PTs (X.blk s H scope (compEnvC scope cl C' X.env) fp) ifs (tTs (gx X) Φ hc e) from ih.f _ (c.blk s H scope _ fp) ifs hc e h6) (fun s H C' cl fp => show PE (X.blk s H scope (compEnvC scope cl C' X.env) fp) elt (tE (gx X) Φ f) from ih.e _ (c.blk s H scope _ fp) elt f h7) (set_of h4)
  rw [ownL_snd] at this
  exact this
theorem snd_dc (ih : Snd C Φ n) (c : XC X Φ C) {kx vx tg it : Expr} {ifs : List Expr} {scope : Scope} {pos : Pos} {own : List Nat} {t : T} {it' : I} {hc : Bool} {e f g : E}
    (h1 : blkC C.N X.env.scope scope (ownL C.N own) = true) (h2 : chkG C (ownB_ scope) tg t = true) (h3 : ∀ i ∈ t.ixs, i ∈ own) (h4 : notSet it = true) (h5 : chkI C n X.env.scope tg it it' = true)
    (h6 : chkIf C n (L2.relS scope X.env.scope) ifs hc e = true) (h7 : chkE C n (L2.relS scope X.env.scope) kx f = true) (h8 : chkE C n (L2.relS scope X.env.scope) vx g = true) :
    PE X (.DictComp kx vx [⟨tg, it, ifs, 0⟩] scope pos) (tDX (gx X) (tI (gx X) Φ it') (gT X.K t) (tTs (gx X) Φ hc e) (tE (gx X) Φ f) (tE (gx X) Φ g) own) := by
  have bo : BlkOk X.N X.env.scope scope (ownL C.N own) := by rw [c.n]; exact blkOk_by h1
  have := pe_dcx (pos := pos) c.B (ih.i X c tg it it' h5) bo (fun s H C' cl fp => show PG (X.blk s H scope (compEnvC scope cl C' X.env) fp) tg (gT X.K t) from g_of (c.blk s H scope _ fp) (fun x hx => blk_loc hx) h2) (fun s H C' cl fp => show PTs (X.blk s H scope (compEnvC scope cl C' X.env) fp) ifs (tTs (gx X) Φ hc e) from ih.f _ (c.blk s H scope _ fp) ifs hc e h6) (fun s H C' cl fp => show PE (X.blk s H scope (compEnvC scope cl C' X.env) fp) kx (tE (gx X) Φ f) from ih.e _ (c.blk s H scope _ fp) kx f h7) (fun s H C' cl fp => show PE (X.blk s H scope (compEnvC scope cl C' X.env) fp) vx (tE (gx X) Φ g) from ih.e _ (c.blk s H scope _ fp) vx g h8) (set_of h4)
  rw [ownL_snd] at this
  exact this
theorem dic_new (c : XC X Φ C) {pos : Pos} : PE X (.Dict [] [] pos) (tE (gx X) Φ .dic) := by
  refine PE.imp pe_dnewK fun σ H Q h => ?_
  obtain ⟨F, τ, rv, τ', I, e, k⟩ := h
  obtain ⟨rfl, rfl⟩ := ev_pure_inv (show (pure (.f (.dict [])) : Ev Rv) τ = _ from e)
  exact fun p hp => k _ _ ((Post.refl I).new hp) (I.newF hp hp (.dK (kv := []) upd_same rfl .nil))
theorem snd_e (ih : Snd C Φ n) (c : XC X Φ C) {a : Expr} {e : E} (h : chkE C (n + 1) X.env.scope a e = true) : PE X a (tE (gx X) Φ e) := by
  unfold chkE at h
  split at h
  · simp only [Bool.and_eq_true, decide_eq_true_eq] at h
    exact PE.imp (pe_var (by rw [c.n]; exact h.1.1) (vis_of h.1.2) (okName_of h.2).1 (okName_of h.2).2.1) fun σ H Q => tE_var
  · simp only [Bool.and_eq_true, decide_eq_true_eq] at h
    obtain ⟨t, ht⟩ := c.cn _ _ h.2
    exact PE.imp (pe_glob (v := .int _) (gl_of h.1.1.2) ht ⟨t, rfl⟩ (okName_of h.1.2).1) fun σ H Q => tE_glb fun _ => .int _
  · obtain rfl := of_decide_eq_true h
    exact PE.imp pe_int fun σ H Q => tE_con fun _ => .int _
  · obtain rfl := of_decide_eq_true h
    exact PE.imp pe_bl fun σ H Q => tE_con fun _ => .bl _
  · obtain rfl := of_decide_eq_true h
    exact PE.imp pe_str fun σ H Q => tE_con fun _ => .str _
  · exact PE.imp pe_non fun σ H Q => tE_con fun _ => .non
  · exact PE.imp (pe_un un_neg (ih.e X c _ _ h)) fun σ H Q => tE_neg
  · exact PE.imp (pe_not (ih.e X c _ _ h)) fun σ H Q => tE_not
  · simp only [Bool.and_eq_true, decide_eq_true_eq] at h
    exact PE.imp (pe_op (bin_ok h.1.1) (ih.e X c _ _ h.1.2) (ih.e X c _ _ h.2)) fun σ H Q => tE_op
  · simp only [Bool.and_eq_true, decide_eq_true_eq, Bool.not_eq_true'] at h
    obtain ⟨⟨⟨h1, h2⟩, h3⟩, h4⟩ := h
    exact PE.imp (pe_cmpR (cmp_ok c.B h1) (ih.e X c _ _ h3) (ih.e X c _ _ h4) h2) fun σ H Q => tE_op
  · simp only [Bool.and_eq_true, decide_eq_true_eq, Bool.not_eq_true'] at h
    obtain ⟨⟨⟨⟨⟨h1, h2⟩, h3⟩, h4⟩, h5⟩, h6⟩ := h
    exact PE.imp (pe_chain (cmp_ok c.B h1) (cmp_ok c.B h2) (ih.e X c _ _ h4) (ih.e X c _ _ h5) (ih.e X c _ _ h6) h3) fun σ H Q => tE_chn
  · simp only [Bool.and_eq_true] at h
    exact PE.imp (pe_slice sl_D (ih.e X c _ _ h.1.1) (ih.o X c _ _ _ h.1.2) (ih.o X c _ _ _ h.2)) fun σ H Q => tE_slc
  · simp only [Bool.and_eq_true] at h
    exact PE.imp (pe_idx c.B (ih.e X c _ _ h.1.2) (ih.e X c _ _ h.2) (ix_of h.1.1)) fun σ H Q => tE_op
  · simp only [Bool.and_eq_true] at h
    exact PE.imp (pe_and (ih.e X c _ _ h.1) (ih.e X c _ _ h.2)) fun σ H Q => tE_and
  · simp only [Bool.and_eq_true] at h
    exact PE.imp (pe_or (ih.e X c _ _ h.1) (ih.e X c _ _ h.2)) fun σ H Q => tE_or
  · exact pe_one (ih.e X c _ _ h)
  · simp only [Bool.and_eq_true] at h
    exact PE.imp (pe_ifExp (ih.t X c _ _ h.1.1) (ih.e X c _ _ h.1.2) (ih.e X c _ _ h.2)) fun σ H Q => tE_ite
  · exact PE.imp (pe_tup (ih.a X c _ _ h)) fun σ H Q => tE_tup
  · exact PE.imp (pe_lst (ih.a X c _ _ h)) fun σ H Q => tE_lst
  · exact dic_new c
  · simp only [Bool.and_eq_true, decide_eq_true_eq] at h
    obtain ⟨⟨⟨⟨⟨rfl, rfl⟩, h1⟩, h2⟩, h3⟩, h4⟩ := h
    exact PE.imp (pe_listRg c.B.calm (gl_of h1) (c.blt _ (by decide)) (prg_1 (gl_of h2) (c.blt _ (by decide)) (ih.e X c _ _ h4) (star1 h3 _)) rfl) fun σ H Q => tE_lrg1
  · simp only [Bool.and_eq_true, decide_eq_true_eq] at h
    obtain ⟨⟨⟨⟨⟨rfl, rfl⟩, h1⟩, h2⟩, h3⟩, h4⟩ := h
    exact PE.imp (pe_tupRg c.B.calm (gl_of h1) (c.blt _ (by decide)) (prg_1 (gl_of h2) (c.blt _ (by decide)) (ih.e X c _ _ h4) (star1 h3 _)) rfl) fun σ H Q => tE_trg1
  · simp only [Bool.and_eq_true, decide_eq_true_eq] at h
    obtain ⟨⟨⟨⟨⟨⟨rfl, rfl⟩, h1⟩, h2⟩, h3⟩, h4⟩, h5⟩ := h
    exact PE.imp (pe_listRg c.B.calm (gl_of h1) (c.blt _ (by decide)) (prg_2 (gl_of h2) (c.blt _ (by decide)) (ih.e X c _ _ h4) (ih.e X c _ _ h5) (star_of h3 _) (star1 (noStar_tl h3) _) (plain_of (noStar_tl h3))) rfl) fun σ H Q => tE_lrg2
  · simp only [Bool.and_eq_true, decide_eq_true_eq] at h
    obtain ⟨⟨⟨⟨⟨rfl, rfl⟩, h1⟩, h2⟩, h3⟩, h4⟩ := h
    have inner := fun (p pos : Pos) => pe_callTy (p := p) (pos := pos) (cr_setOfT c.B.calm c.B.u64) (gl_of h2) (c.blt _ (by decide)) (by rfl) (pa_cons (ih.e X c _ _ h4) pa_nil (star1 h3 _)) (by decide) (by decide) (star1 h3 _) rfl
    exact PE.imp (pe_callB (cr_SS c.B) (gl_of h1) (c.blt _ (by decide)) (by rfl) (pa_cons (inner _ _) pa_nil rfl) (by decide) (by decide) rfl rfl) fun σ H Q => tE_srs
  · simp only [Bool.and_eq_true, decide_eq_true_eq] at h
    obtain ⟨⟨⟨⟨⟨rfl, h1⟩, h2⟩, h3⟩, h4⟩, h5⟩ := h
    split at h1
    · rename_i t ht
      obtain rfl := of_decide_eq_true h1
      exact tE_isi c ht h2 h3 h4 (ih.e X c _ _ h5)
    · cases h1
  · simp only [Bool.and_eq_true, decide_eq_true_eq] at h
    obtain ⟨⟨⟨h1, h2⟩, h3⟩, h4⟩ := h
    exact snd_blt c h1 h2 h3 (ih.r X c _ _ h4)
  · simp only [Bool.and_eq_true, beq_iff_eq] at h
    obtain ⟨⟨⟨⟨rfl, h1⟩, h2⟩, h3⟩, h4⟩ := h
    rename_i y p b bs pos fs
    cases hf : Φ y with
    | none =>
      refine ⟨fun pins s σ H Q I q => False.elim ?_⟩
      obtain ⟨F, τ, rv, τ', I, e, k⟩ := q
      simp only [ev, ev_bind_iff] at e
      obtain ⟨rvs, τ1, e1, e2⟩ := e
      rw [hf] at e2; cases e2
    | some fs' =>
      obtain ⟨k, a, F, hr, hm, hk⟩ := c.fn _ _ hf
      exact PE.imp (pe_fnT F hr c.B.gd (gl_of h1) hm hk (ih.r X c _ _ h4) (okName_of h2).1 (star_of h3 _) (plain_of (noStar_tl h3))) fun σ H Q => tE_call hf
  · simp only [Bool.and_eq_true, decide_eq_true_eq] at h
    obtain ⟨⟨⟨⟨rfl, h1⟩, h2⟩, h3⟩, h4⟩ := h
    exact PE.imp (pe_bm0 (r := rPop) PySem.F.plainAttrs_list PySem.F.slot_list_pop rfl mt_pop (PE.imp (pe_var (by rw [c.n]; exact h1) (vis_of h2) (okName_of h3).1 (okName_of h3).2.1) fun σ H Q => tE_var) rfl h4) fun σ H Q => tE_pop
  · simp only [Bool.and_eq_true, List.all_eq_true, decide_eq_true_eq] at h
    obtain ⟨⟨⟨⟨⟨⟨h1, h2⟩, h3⟩, h4⟩, h5⟩, h6⟩, h7⟩ := h
    exact PE.imp (snd_lc ih c h1 h2 h3 h4 h5 h6 h7) fun σ H Q => tE_cmp h3
  · simp only [Bool.and_eq_true, List.all_eq_true, decide_eq_true_eq] at h
    obtain ⟨⟨⟨⟨⟨⟨⟨h1, h2⟩, h3⟩, h4⟩, h5⟩, h6⟩, h7⟩, h8⟩ := h
    exact PE.imp (snd_dc ih c h1 h2 h3 h4 h5 h6 h7 h8) fun σ H Q => tE_dcm h3
  · cases h
theorem snd (C : Sx) (Φ : Fns) : ∀ n, Snd C Φ n
  | 0 => ⟨fun _ _ _ _ h => (by unfold chkE at h; cases h), fun _ _ _ _ h => (by unfold chkT at h; cases h), fun _ _ _ _ _ _ h => (by unfold chkW at h; cases h), fun _ _ _ _ _ h => (by unfold chkIf at h; cases h),
    fun _ _ _ _ _ h => (by unfold chkO at h; cases h), fun _ _ _ _ h => (by unfold chkA at h; cases h), fun _ _ _ _ h => (by unfold chkR at h; cases h), fun _ _ _ _ _ h => (by unfold chkI at h; cases h)⟩
  | n + 1 => ⟨fun _ c _ _ h => snd_e (snd C Φ n) c h, fun _ c _ _ h => snd_t (snd C Φ n) c h, fun _ c _ _ _ _ h => snd_w (snd C Φ n) c h, fun _ c _ _ _ h => snd_f (snd C Φ n) c h,
    fun _ c _ _ _ h => snd_o (snd C Φ n) c h, fun _ c _ _ h => snd_a (snd C Φ n) c h, fun _ c _ _ h => snd_r (snd C Φ n) c h, fun _ c _ _ _ h => snd_i (snd C Φ n) c h⟩
end
end TL

set_option Elab.async false
set_option linter.all false
set_option maxRecDepth 100000
set_option maxHeartbeats 4000000
/-! TLu: statements: what they do to the slots. -/
namespace TL
open PySem L2 StX RZ
section
variable {G : Gx} {Φ : Fns} {F : Fr} {τ τ' τ1 : Tau} {σ σ' : L2.St} {H H' : Hp} {Q : VK} {D : Ends}
structure PostS (G : Gx) (F : Fr) (τ τ' : Tau) (σ σ' : L2.St) (H H' : Hp) : Prop where
  fi : FI G F τ' σ' H'
  sm : Same (msk F.M τ σ H) (msk F.M τ' σ' H')
theorem PostS.trans {τ2 : Tau} {σ2 : L2.St} {H2 : Hp} (a : PostS G F τ τ' σ σ' H H') (b : PostS G F τ' τ2 σ' σ2 H' H2) : PostS G F τ τ2 σ σ2 H H2 := ⟨b.fi, a.sm.trans b.sm⟩
theorem Post.s (a : Post G F τ τ' σ H H') : PostS G F τ τ' σ σ H H' := ⟨a.fi, a.sm⟩
/-- what a def gives back -/
def RetOK (G : Gx) (F : Fr) (b : Bool) (d : PyData) (v : V) (τ' : Tau) (σ' : L2.St) (H' : Hp) : Prop :=
  if b then ∃ a, v = .ref a ∧ F.M a = false ∧ F.H0 a = none ∧ FI G (F.prot a) τ' σ' H' ∧ Ob G (msk (F.prot a).M τ' σ' H') H' a d else FI G F τ' σ' H' ∧ Rp G (msk F.M τ' σ' H') v d
def Cont (G : Gx) (F : Fr) (τ : Tau) (σ : L2.St) (H : Hp) (D : Ends) (τ' : Tau) : Out → Prop
  | .nx => ∀ σ' H', PostS G F τ τ' σ σ' H H' → D.nx σ' H'
  | .brk => ∀ σ' H', PostS G F τ τ' σ σ' H H' → D.bk σ' H'
  | .cnt => ∀ σ' H', PostS G F τ τ' σ σ' H H' → D.ct σ' H'
  | .ret b d => ∀ v σ' H', RetOK G F b d v τ' σ' H' → D.rt v H'
def tX (G : Gx) (m : Ev Out) : TS := fun D σ H => ∃ F τ out τ', FI G F τ σ H ∧ m τ = some (.ok out τ') ∧ Cont G F τ σ H D τ' out
def tSt (G : Gx) (Φ : Fns) (n : Nat) (s : S) : TS := tX G (exec Φ n s)
def tSs (G : Gx) (Φ : Fns) (n : Nat) (s : Ss) : TS := tX G (execs Φ n s)
theorem Cont.pre {out : Out} {τ2 : Tau} (p : PostS G F τ τ' σ σ' H H') (h : Cont G F τ σ H D τ2 out) : Cont G F τ' σ' H' D τ2 out := by
  cases out with
  | nx => exact fun s' h' q => h s' h' (p.trans q)
  | brk => exact fun s' h' q => h s' h' (p.trans q)
  | cnt => exact fun s' h' q => h s' h' (p.trans q)
  | ret b d => exact h

/-! ### slots given anew -/
theorem notQ_of {i : Nat} (h : notQB τ i = true) : NotQ τ[i]? ∧ i < τ.length := by
  unfold notQB at h
  split at h
  · cases h
  · rename_i x hn q
    refine ⟨fun d e => ?_, lt_of_some q⟩
    rw [q] at e
    cases e
    exact hn d rfl
  · cases h
theorem set_r {i : Nat} {d : PyData} {v : V} (I : FI G F τ σ H) (r : Rp G (msk F.M τ σ H) v d) (hq : NotQ τ[i]?) (hi : i < τ.length) : PostS G F τ (τ.set i (some (.r d))) σ (σ.set i (some v)) H H := by
  have rs : Resl G F τ σ (τ.set i (some (.r d))) (σ.set i (some v)) H := ⟨by simp, by simp, fun j => by
    by_cases hj : i = j
    · subst hj
      rw [List.getElem?_set_self hi, List.getElem?_set_self (by rw [← I.len]; exact hi)]
      exact .inr ⟨hq, fun e he => by cases he; exact ⟨v, rfl, r⟩, fun e => ⟨by simp, by simp⟩⟩
    · rw [List.getElem?_set_ne hj, List.getElem?_set_ne hj]
      exact .inl ⟨rfl, rfl⟩⟩
  exact ⟨rs.fi I, rs.same H⟩
theorem own_set {i : Nat} {d : PyData} {a : Addr} (ok : F.Ok) (I : FI G (F.prot a) τ σ H) (n0 : F.H0 a = none) (nM : F.M a = false) (ob : Ob G (msk (F.prot a).M τ σ H) H a d) (hq : NotQ τ[i]?) (hi : i < τ.length) :
    FI G F (τ.set i (some (.p d))) (σ.set i (some (.ref a))) H ∧ Same (msk (F.prot a).M τ σ H) (msk F.M (τ.set i (some (.p d))) (σ.set i (some (.ref a))) H) := by
  have hi' : i < σ.length := by rw [← I.len]; exact hi
  have own : ∀ b, ownB (τ.set i (some (.p d))) (σ.set i (some (.ref a))) b = true → b = a ∨ ownB τ σ b = true := fun b e => by
    obtain ⟨j, e', h1, h2⟩ := ownB_get.mp e
    by_cases hj : i = j
    · subst hj
      rw [List.getElem?_set_self hi'] at h2
      cases h2; exact .inl rfl
    · rw [List.getElem?_set_ne hj] at h1 h2
      exact .inr (ownB_get.mpr ⟨j, e', h1, h2⟩)
  have sm : Same (msk (F.prot a).M τ σ H) (msk F.M (τ.set i (some (.p d))) (σ.set i (some (.ref a))) H) := fun b o e => by
    unfold msk at e ⊢
    split at e
    · cases e
    · rename_i q
      rw [if_neg (fun z => q ?_)]
      · exact e
      · simp only [Bool.or_eq_true] at z ⊢
        rcases z with z | z
        · exact .inl (by simp [Fr.prot, z])
        · rcases own b z with z | z
          · exact .inl (by simp [Fr.prot, z])
          · exact .inr z
  have nea : ∀ (j : Nat) e b, (τ[j]? = some (some (.p e)) ∨ τ[j]? = some (some (.q e))) → σ[j]? = some (some (.ref b)) → b ≠ a := fun j e b h1 h2 z => by
    rcases h1 with h1 | h1
    · obtain ⟨b', h3, h4, _⟩ := I.p j e h1
      rw [h2] at h3; cases h3
      subst z; simp [Fr.prot] at h4
    · obtain ⟨b', h3, h4, _⟩ := I.q j e h1
      rw [h2] at h3; cases h3
      subst z
      have := ok.qM b ⟨j, h4⟩
      rw [nM] at this; cases this
  have at_ : ∀ (j : Nat) e, ((τ.set i (some (.p d)))[j]? = some (some (.p e)) ∨ (τ.set i (some (.p d)))[j]? = some (some (.q e))) → (j = i ∧ e = d ∧ (σ.set i (some (.ref a)))[j]? = some (some (.ref a))) ∨ (j ≠ i ∧ (σ.set i (some (V.ref a)))[j]? = σ[j]? ∧ (τ[j]? = some (some (.p e)) ∨ τ[j]? = some (some (.q e)))) := fun j e h => by
    by_cases hj : i = j
    · subst hj
      rw [List.getElem?_set_self hi] at h
      rcases h with h | h <;> cases h
      exact .inl ⟨rfl, rfl, List.getElem?_set_self hi'⟩
    · rw [List.getElem?_set_ne hj] at h
      exact .inr ⟨fun z => hj z.symm, List.getElem?_set_ne hj, h⟩
  refine ⟨⟨ok, by simpa using I.len, I.same, fun b e => I.dom b (by simp [Fr.prot, e]), fun j e h => ?_, fun j e h => ?_, fun j e h => ?_, fun j k e1 e2 b hjk h1 h2 h3 h4 => ?_⟩, sm⟩
  · by_cases hj : i = j
    · subst hj
      rw [List.getElem?_set_self hi] at h; cases h
    · rw [List.getElem?_set_ne hj] at h
      obtain ⟨v, h1, h2⟩ := I.r j e h
      exact ⟨v, by rw [List.getElem?_set_ne hj]; exact h1, h2.mono sm⟩
  · rcases at_ j e (.inl h) with ⟨rfl, rfl, h1⟩ | ⟨hj, h1, h2⟩
    · exact ⟨a, h1, nM, n0, ob.grow sm fun _ q => q⟩
    · rw [List.getElem?_set_ne (Ne.symm hj)] at h
      obtain ⟨b, h3, h4, h5, h6⟩ := I.p j e h
      exact ⟨b, by rw [h1]; exact h3, by simp [Fr.prot] at h4; exact h4.1, h5, h6.grow sm fun _ q => q⟩
  · rcases at_ j e (.inr h) with ⟨rfl, rfl, h1⟩ | ⟨hj, h1, h2⟩
    · rw [List.getElem?_set_self hi] at h; cases h
    · rw [List.getElem?_set_ne (Ne.symm hj)] at h
      obtain ⟨b, h3, h4, h6⟩ := I.q j e h
      exact ⟨b, by rw [h1]; exact h3, h4, h6.grow sm fun _ q => q⟩
  · rcases at_ j e1 h1 with ⟨rfl, rfl, a1⟩ | ⟨hj, a1, a2⟩
    · rcases at_ k e2 h2 with ⟨rfl, rfl, b1⟩ | ⟨hk, b1, b2⟩
      · exact hjk rfl
      · rw [a1] at h3; cases h3
        rw [b1] at h4
        exact nea k e2 a b2 h4 rfl
    · rcases at_ k e2 h2 with ⟨rfl, rfl, b1⟩ | ⟨hk, b1, b2⟩
      · rw [b1] at h4; cases h4
        rw [a1] at h3
        exact nea j e1 a a2 h3 rfl
      · rw [a1] at h3; rw [b1] at h4
        exact I.inj j k e1 e2 b hjk a2 b2 h3 h4
/-- some slots' objects are shared from now on -/
structure RelT (τ τ' : Tau) : Prop where
  len : τ'.length = τ.length
  at_ : ∀ i : Nat, τ'[i]? = τ[i]? ∨ ∃ d, τ[i]? = some (some (.p d)) ∧ τ'[i]? = some (some (.r d))
theorem rel_fi (h : RelT τ τ') (I : FI G F τ σ H) : PostS G F τ τ' σ σ H H := by
  have own : ∀ b, ownB τ' σ b = true → ownB τ σ b = true := fun b e => by
    obtain ⟨j, d, h1, h2⟩ := ownB_get.mp e
    rcases h.at_ j with a | ⟨d', a, b'⟩
    · exact ownB_get.mpr ⟨j, d, a ▸ h1, h2⟩
    · rw [b'] at h1; cases h1
  have sm : Same (msk F.M τ σ H) (msk F.M τ' σ H) := fun b o e => by
    unfold msk at e ⊢
    split at e
    · cases e
    · rename_i q
      rw [if_neg (fun z => q ?_)]
      · exact e
      · simp only [Bool.or_eq_true] at z ⊢
        exact z.elim .inl fun z => .inr (own b z)
  have old : ∀ (j : Nat) d, (τ'[j]? = some (some (.p d)) ∨ τ'[j]? = some (some (.q d))) → τ'[j]? = τ[j]? := fun j d hj => by
    rcases h.at_ j with a | ⟨d', a, b'⟩
    · exact a
    · rw [b'] at hj; rcases hj with hj | hj <;> cases hj
  refine ⟨⟨I.ok, h.len.trans I.len, I.same, I.dom, fun j d e => ?_, fun j d e => ?_, fun j d e => ?_, fun i j d e a hij h1 h2 h3 h4 => ?_⟩, sm⟩
  · rcases h.at_ j with a | ⟨d', a, b'⟩
    · obtain ⟨v, h1, h2⟩ := I.r j d (a ▸ e)
      exact ⟨v, h1, h2.mono sm⟩
    · rw [b'] at e; cases e
      obtain ⟨b, h1, h2, h3, h4⟩ := I.p j d a
      have nb : (F.M b || ownB τ' σ b) = false := by
        rw [h2, Bool.false_or]
        cases z : ownB τ' σ b with
        | false => rfl
        | true =>
          obtain ⟨k, d2, z1, z2⟩ := ownB_get.mp z
          have hk : k ≠ j := fun e => by subst e; rw [b'] at z1; cases z1
          exact (I.inj k j d2 d b hk (.inl (old k d2 (.inl z1) ▸ z1)) (.inl a) z2 h1).elim
      have op : ∀ o, H b = some o → msk F.M τ' σ H b = some o := fun o q => by
        unfold msk
        rw [if_neg (by simpa using nb)]
        exact q
      refine ⟨_, h1, ?_⟩
      cases h4 with
      | lst q1 q2 => exact .lst (.inl (.inl (op _ q1))) (q2.mono sm)
      | dK q1 q2 q3 => exact .dK (.inl (op _ q1)) q2 (q3.mono sm)
      | dN q1 q2 q6 q3 q4 q5 => exact .dN (op _ q1) q2 q6 q3 (q4.mono sm) (q5.mono sm)
  · obtain ⟨b, h1, h2, h3, h4⟩ := I.p j d (old j d (.inl e) ▸ e)
    exact ⟨b, h1, h2, h3, h4.grow sm fun _ q => q⟩
  · obtain ⟨b, h1, h2, h4⟩ := I.q j d (old j d (.inr e) ▸ e)
    exact ⟨b, h1, h2, h4.grow sm fun _ q => q⟩
  · have e1 := old i d h1
    have e2 := old j e h2
    exact I.inj i j d e a hij (e1 ▸ h1) (e2 ▸ h2) h3 h4
theorem relAll_T (τ : Tau) : RelT τ (relAll τ) := ⟨by simp [relAll], fun i => by
  unfold relAll
  rw [List.getElem?_map]
  cases h : τ[i]? with
  | none => exact .inl rfl
  | some x =>
    rcases x with _ | (d | d | d)
    · exact .inl rfl
    · exact .inl rfl
    · exact .inr ⟨d, rfl, rfl⟩
    · exact .inl rfl⟩
theorem rel_T {i : Nat} {d : PyData} (h : τ[i]? = some (some (.p d))) : RelT τ (τ.set i (some (.r d))) := ⟨by simp, fun j => by
  by_cases hj : i = j
  · subst hj
    exact .inr ⟨d, h, List.getElem?_set_self (lt_of_some h)⟩
  · exact .inl (List.getElem?_set_ne hj)⟩
/-- a slot's object is given away -/
theorem disown {i : Nat} {d : PyData} {a : Addr} (I : FI G F τ σ H) (h : τ[i]? = some (some (.p d))) (ha : σ[i]? = some (some (.ref a))) :
    F.M a = false ∧ F.H0 a = none ∧ FI G (F.prot a) (τ.set i none) σ H ∧ Ob G (msk (F.prot a).M (τ.set i none) σ H) H a d := by
  obtain ⟨b, h1, h2, h3, h4⟩ := I.p i d h
  rw [ha] at h1; cases h1
  have hi := lt_of_some h
  have other : ∀ (j : Nat) e, ((τ.set i none)[j]? = some (some (.p e)) ∨ (τ.set i none)[j]? = some (some (.q e)) ∨ (τ.set i none)[j]? = some (some (.r e))) → j ≠ i ∧ (τ.set i none)[j]? = τ[j]? := fun j e hj => by
    by_cases z : i = j
    · subst z; rw [List.getElem?_set_self hi] at hj; rcases hj with hj | hj | hj <;> cases hj
    · exact ⟨Ne.symm z, List.getElem?_set_ne z⟩
  have em : msk (F.prot a).M (τ.set i none) σ H = msk F.M τ σ H := by
    funext b
    have : ((F.prot a).M b || ownB (τ.set i none) σ b) = (F.M b || ownB τ σ b) := by
      apply Bool.eq_iff_iff.mpr
      simp only [Bool.or_eq_true, Fr.prot, beq_iff_eq]
      constructor
      · rintro ((z | z) | z)
        · exact .inl z
        · exact .inr (ownB_get.mpr ⟨i, d, h, z ▸ ha⟩)
        · obtain ⟨j, e, z1, z2⟩ := ownB_get.mp z
          exact .inr (ownB_get.mpr ⟨j, e, (other j e (.inl z1)).2 ▸ z1, z2⟩)
      · rintro (z | z)
        · exact .inl (.inl z)
        · obtain ⟨j, e, z1, z2⟩ := ownB_get.mp z
          by_cases hj : i = j
          · subst hj; rw [ha] at z2; cases z2; exact .inl (.inr rfl)
          · exact .inr (ownB_get.mpr ⟨j, e, by rw [List.getElem?_set_ne hj]; exact z1, z2⟩)
    unfold msk
    rw [this]
  refine ⟨h2, h3, ⟨⟨fun b q => by simp [Fr.prot, I.ok.qM b q]⟩, by simpa using I.len, I.same, fun b e => ?_, fun j e z => ?_, fun j e z => ?_, fun j e z => ?_, fun j k e1 e2 b hjk z1 z2 z3 z4 => ?_⟩, by rw [em]; exact h4⟩
  · simp only [Fr.prot, Bool.or_eq_true, beq_iff_eq] at e
    rcases e with e | e
    · exact I.dom b e
    · subst e; cases h4 <;> exact ⟨_, by assumption⟩
  · obtain ⟨v, z1, z2⟩ := I.r j e ((other j e (.inr (.inr z))).2 ▸ z)
    exact ⟨v, z1, by rw [em]; exact z2⟩
  · obtain ⟨hj, eq⟩ := other j e (.inl z)
    rw [eq] at z
    obtain ⟨b, z1, z2, z3, z4⟩ := I.p j e z
    have : b ≠ a := fun q => I.inj j i e d a hj (.inl z) (.inl h) (q ▸ z1) ha
    exact ⟨b, z1, by simp [Fr.prot, z2, this], z3, by rw [em]; exact z4⟩
  · obtain ⟨hj, eq⟩ := other j e (.inr (.inl z))
    rw [eq] at z
    obtain ⟨b, z1, z2, z4⟩ := I.q j e z
    exact ⟨b, z1, z2, by rw [em]; exact z4⟩
  · have w1 := (other j e1 (z1.elim .inl fun q => .inr (.inl q))).2
    have w2 := (other k e2 (z2.elim .inl fun q => .inr (.inl q))).2
    exact I.inj j k e1 e2 b hjk (w1 ▸ z1) (w2 ▸ z2) z3 z4
end
end TL

set_option Elab.async false
set_option linter.all false
set_option maxRecDepth 100000
set_option maxHeartbeats 4000000
/-! TLv: statements' readings. -/
namespace TL
open PySem L2 StX RZ
section
variable {G : Gx} {Φ : Fns} {F : Fr} {τ τ' τ1 : Tau} {σ σ' : L2.St} {H H' : Hp} {D : Ends} {n : Nat}
theorem putR_inv {i : Nat} {d : PyData} (h : putR i d τ = some (.ok () τ')) : NotQ τ[i]? ∧ i < τ.length ∧ τ' = τ.set i (some (.r d)) := by
  unfold putR at h
  split at h
  · cases h
  · rename_i x hn q
    cases h
    refine ⟨fun d e => ?_, lt_of_some q, rfl⟩
    rw [q] at e; cases e
    exact hn d rfl
  · cases h
theorem putP_inv {i : Nat} {d : PyData} (h : putP i d τ = some (.ok () τ')) : NotQ τ[i]? ∧ i < τ.length ∧ τ' = τ.set i (some (.p d)) := by
  unfold putP at h
  split at h
  · split at h
    · cases h
    · rename_i x hn q
      cases h
      refine ⟨fun d e => ?_, lt_of_some q, rfl⟩
      rw [q] at e; cases e
      exact hn d rfl
    · cases h
  · cases h
theorem st_asg {i : Nat} {e : E} (h : tSt G Φ n (.asg i e) D σ H) : tAsg (tE G Φ e) (gName i) D σ H := by
  obtain ⟨F, τ, out, τ', I, e0, k⟩ := h
  simp only [exec, ev_bind_iff] at e0
  obtain ⟨x, τ1, e1, d, τ2, e2, _, τ3, e3, e4⟩ := e0
  obtain ⟨rfl, rfl⟩ := ev_pure_inv e4
  refine ⟨F, τ, x, τ1, I, e1, fun v H1 P1 R1 => ?_⟩
  obtain ⟨rfl, r⟩ := R1.vald e2
  obtain ⟨q1, q2, rfl⟩ := putR_inv e3
  exact k _ H1 (P1.s.trans (set_r P1.fi r q1 q2))
theorem valN_true {rv : Rv} {d : PyData} (h : valN true rv τ = some (.ok d τ1)) : rv = .f d ∧ τ1 = τ := by
  cases rv with
  | v d => cases h
  | f d => cases h; exact ⟨rfl, rfl⟩
  | s i => cases h
theorem valN_false {rv : Rv} {d : PyData} (h : valN false rv τ = some (.ok d τ1)) : val rv τ = some (.ok d τ1) := by
  cases rv with
  | v d => exact h
  | f d => exact h
  | s i => cases h
theorem sm_prot {a : Addr} (p : Post G F τ τ' σ H H') (ha : H a = none) : Same (msk F.M τ σ H) (msk (F.prot a).M τ' σ H') := fun b o e => by
  have hb : b ≠ a := ne_of_none (mk_sub (mb F.M τ σ) H b o e) ha
  have := p.sm b o e
  unfold msk at this ⊢
  split at this
  · cases this
  · rename_i q
    rw [if_neg (fun z => q ?_)]
    · exact this
    · simpa [Fr.prot, hb] using z
theorem st_own {i : Nat} {e : E} (h : tSt G Φ n (.own i e) D σ H) : tAsg (tE G Φ e) (gName i) D σ H := by
  obtain ⟨F, τ, out, τ', I, e0, k⟩ := h
  simp only [exec, ev_bind_iff] at e0
  obtain ⟨x, τ1, e1, d, τ2, e2, _, τ3, e3, e4⟩ := e0
  obtain ⟨rfl, rfl⟩ := ev_pure_inv e4
  refine ⟨F, τ, x, τ1, I, e1, fun v H1 P1 R1 => ?_⟩
  obtain ⟨rfl, rfl⟩ := valN_true e2
  obtain ⟨q1, q2, rfl⟩ := putP_inv e3
  obtain ⟨a, rfl, ha, nM, Ip, ob⟩ := R1
  have n0 := (I.new0 ha).1
  obtain ⟨I2, s2⟩ := own_set I.ok Ip n0 nM ob q1 q2
  exact k _ H1 ⟨I2, (sm_prot P1 ha).trans s2⟩
theorem unpE_inv {is : List Nat} {d : PyData} {out : Out} (h : unpE is d τ = some (.ok out τ')) : (∀ i ∈ is, NotQ τ[i]?) ∧ bindT (.tp is) d τ = some τ' ∧ out = .nx := by
  unfold unpE at h
  split at h
  · rename_i q
    cases hb : bindT (.tp is) d τ with
    | none => rw [hb] at h; cases h
    | some t =>
      rw [hb] at h; cases h
      refine ⟨fun i hi => ?_, rfl, rfl⟩
      simp only [tgOk, List.all_eq_true] at q
      exact (notQ_of (q i hi)).1
  · cases h
theorem st_unp {is : List Nat} {e : E} (h : tSt G Φ n (.unp is e) D σ H) : tAsg (tE G Φ e) (gT G.K (.tp is)) D σ H := by
  obtain ⟨F, τ, out, τ', I, e0, k⟩ := h
  simp only [exec, ev_bind_iff] at e0
  obtain ⟨x, τ1, e1, d, τ2, e2, e3⟩ := e0
  refine ⟨F, τ, x, τ1, I, e1, fun v H1 P1 R1 => ?_⟩
  obtain ⟨rfl, r⟩ := R1.vald e2
  obtain ⟨q1, q2, rfl⟩ := unpE_inv e3
  exact gT_of P1.fi q2 r q1 fun σ1 rs _ _ => k σ1 H1 (P1.s.trans ⟨rs.fi P1.fi, rs.same H1⟩)
/-- two at once: the values, then the slots -/
theorem st_par {b1 b2 : Bool} {i1 i2 : Nat} {e1 e2 : E} (h : tSt G Φ n (.par b1 i1 e1 b2 i2 e2) D σ H) :
    tE G Φ e1 σ H fun x H1 => tE G Φ e2 σ H1 fun y H2 => ∀ H3, (H3 = H2 ∨ ∃ p o, H2 p = none ∧ H3 = upd H2 p o) → D.nx ((σ.set i1 (some x)).set i2 (some y)) H3 := by
  obtain ⟨F, τ, out, τ', I, e0, k⟩ := h
  simp only [exec, Ev.when] at e0
  by_cases hne : i1 ≠ i2
  · rw [if_pos (by simpa using hne)] at e0
    simp only [ev_bind_iff] at e0
    obtain ⟨x, τ1, a1, d, τ2, a2, y, τ3, a3, d', τ4, a4, _, τ5, a5, _, τ6, a6, a7⟩ := e0
    obtain ⟨rfl, rfl⟩ := ev_pure_inv a7
    refine ⟨F, τ, x, τ1, I, a1, fun v H1 P1 R1 => ?_⟩
    have swap : ∀ (v w : V), (σ.set i1 (some v)).set i2 (some w) = (σ.set i2 (some w)).set i1 (some v) := fun v w => List.set_comm _ _ hne
    -- the second one, whatever is protected
    have second : ∀ (F1 : Fr), FI G F1 τ2 σ H1 → (∀ (w : V) H3, PostS G F1 τ2 τ5 σ (σ.set i2 (some w)) H1 H3 → D.nx ((σ.set i1 (some v)).set i2 (some w)) H3) →
        tE G Φ e2 σ H1 fun y H2 => ∀ H3, (H3 = H2 ∨ ∃ p o, H2 p = none ∧ H3 = upd H2 p o) → D.nx ((σ.set i1 (some v)).set i2 (some y)) H3 := fun F1 I1 k2 => by
      refine ⟨F1, _, y, τ3, I1, a3, fun w H2 P2 R2 H3 hg => ?_⟩
      have hs : Same H2 H3 := by
        rcases hg with rfl | ⟨p, o, hp, rfl⟩
        · exact Same.refl _
        · exact same_upd hp o
      cases b2 with
      | true =>
        obtain ⟨rfl, rfl⟩ := valN_true a4
        obtain ⟨q1, q2, rfl⟩ := putP_inv (show putP i2 d' τ4 = _ from a5)
        obtain ⟨a, rfl, ha, nM, Ip, ob⟩ := R2
        have n0 := (I1.new0 ha).1
        have ob3 := ob.grow (mk_same (m := mb (F1.prot a).M τ4 σ) hs) fun o q => hs _ o q
        obtain ⟨I2, s2⟩ := own_set I1.ok (Ip.grow hs) n0 nM ob3 q1 q2
        exact k2 (.ref a) H3 ⟨I2, ((sm_prot P2 ha).trans (mk_same (m := mb (F1.prot a).M τ4 σ) hs)).trans s2⟩
      | false =>
        obtain ⟨rfl, r⟩ := R2.vald (valN_false a4)
        obtain ⟨q1, q2, rfl⟩ := putR_inv (show putR i2 d' τ4 = _ from a5)
        exact k2 w H3 ((P2.grow hs).s.trans (set_r (P2.fi.grow hs) (r.mono (mk_same (m := mb F1.M τ4 σ) hs)) q1 q2))
    cases b1 with
    | false =>
      obtain ⟨rfl, r⟩ := R1.vald (valN_false a2)
      obtain ⟨q1, q2, rfl⟩ := putR_inv (show putR i1 d τ5 = _ from a6)
      refine second F P1.fi fun w H3 P3 => ?_
      rw [swap]
      exact k _ H3 ((P1.s.trans P3).trans (set_r P3.fi (r.mono P3.sm) q1 q2))
    | true =>
      obtain ⟨rfl, rfl⟩ := valN_true a2
      obtain ⟨q1, q2, rfl⟩ := putP_inv (show putP i1 d τ5 = _ from a6)
      obtain ⟨a, rfl, ha, nM, Ip, ob⟩ := R1
      obtain ⟨n0, nq, _⟩ := I.new0 ha
      obtain ⟨o, ho⟩ : ∃ o, H1 a = some o := by cases ob <;> exact ⟨_, by assumption⟩
      refine second (F.lock a o) (Ip.lockOf ho) fun w H3 P3 => ?_
      have h3 : H3 a = some o := P3.fi.same a o upd_same nq
      have ob3 := ob.grow (H' := H3) P3.sm fun o' q => by rw [ho] at q; cases q; exact h3
      obtain ⟨I2, s2⟩ := own_set I.ok (P3.fi.unlock n0) n0 nM ob3 q1 q2
      rw [swap]
      exact k _ H3 ⟨I2, ((sm_prot P1 ha).trans P3.sm).trans s2⟩
  · rw [if_neg (by simpa using hne)] at e0; cases e0
end
end TL

set_option Elab.async false
set_option linter.all false
set_option maxRecDepth 100000
set_option maxHeartbeats 4000000
/-! TLw: more statements' readings. -/
namespace TL
open PySem L2 StX RZ
section
variable {G : Gx} {Φ : Fns} {F : Fr} {τ τ' τ1 : Tau} {σ σ' : L2.St} {H H' : Hp} {D : Ends} {n : Nat}
theorem ev_slot {i : Nat} {d : PyData} (h : τ[i]? = some (some (.p d)) ∨ τ[i]? = some (some (.q d))) : ev Φ (.var i) τ = some (.ok (.s i) τ) := by
  simp only [ev]
  rcases h with h | h <;> rw [h]
theorem deref_slot {i : Nat} {d : PyData} {τ2 : Tau} (h : deref (.s i) τ = some (.ok d τ2)) : τ2 = τ ∧ (τ[i]? = some (some (.p d)) ∨ τ[i]? = some (some (.q d))) := by
  have e : (match τ[i]? with | some (some (.p d)) => some (R.ok d τ) | some (some (.q d)) => some (R.ok d τ) | _ => none) = some (.ok d τ2) := h
  split at e <;> first | cases e | skip
  · rename_i q; exact ⟨rfl, .inl q⟩
  · rename_i q; exact ⟨rfl, .inr q⟩
theorem slot_back {i : Nat} {d : PyData} (h : tags τ = tags τ1) (e : τ1[i]? = some (some (.p d)) ∨ τ1[i]? = some (some (.q d))) : ∃ d', τ[i]? = some (some (.p d')) ∨ τ[i]? = some (some (.q d')) := tags_pq h.symm ⟨d, e⟩
theorem obj_lst {a : Addr} {ds : List PyData} {Hm : Hp} (h : Ob G Hm H a (.list ds)) : ∃ xs, H a = some (.lst xs) ∧ RpA G Hm xs ds := by
  cases h with
  | lst h1 h2 => exact ⟨_, h1, h2⟩
theorem obj_lt {a : Addr} {ds : List PyData} {Hm : Hp} {d : PyData} (h : Ob G Hm H a d) (e : d = .list ds) : ∃ xs, H a = some (.lst xs) ∧ RpA G Hm xs ds := by
  subst e; exact obj_lst h
/-- the slot's object at any later time -/
theorem FI.at (I : FI G F τ σ H) {i : Nat} {d d0 : PyData} {a : Addr} (h : τ[i]? = some (some (.p d)) ∨ τ[i]? = some (some (.q d))) (ha : σ[i]? = some (some (.ref a))) : Ob G (msk F.M τ σ H) H a d := by
  obtain ⟨b, h1, _, h2, _⟩ := I.obj h
  rw [ha] at h1; cases h1
  exact h2
theorem st_exp {e : E} (h : tSt G Φ n (.exp e) D σ H) : tDrop (tE G Φ e) D σ H := by
  obtain ⟨F, τ, out, τ', I, e0, k⟩ := h
  simp only [exec, ev_bind_iff] at e0
  obtain ⟨x, τ1, e1, e2⟩ := e0
  obtain ⟨rfl, rfl⟩ := ev_pure_inv e2
  exact ⟨F, τ, x, _, I, e1, fun v H1 P1 R1 => k _ H1 P1.s⟩
theorem lstAt_inv {i : Nat} (h : lstAt i τ = some (.ok () τ')) : τ' = τ ∧ ∃ ds, τ[i]? = some (some (.p (.list ds))) ∨ τ[i]? = some (some (.q (.list ds))) := by
  unfold lstAt at h
  split at h <;> first | cases h | skip
  · rename_i ds q; exact ⟨rfl, ds, .inl q⟩
  · rename_i ds q; exact ⟨rfl, ds, .inr q⟩
theorem val_tau {x : Rv} {y : PyData} (h : val x τ = some (.ok y τ')) : τ' = τ := by cases x <;> cases h <;> rfl
theorem deref_eq {i : Nat} {d e : PyData} {τ2 : Tau} (h : deref (.s i) τ = some (.ok d τ2)) (q : τ[i]? = some (some (.p e)) ∨ τ[i]? = some (some (.q e))) : e = d := by
  obtain ⟨_, z⟩ := deref_slot h
  rcases q with q | q <;> rcases z with z | z <;> rw [q] at z <;> cases z <;> rfl
theorem st_app {i : Nat} {e : E} (h : tSt G Φ n (.app i e) D σ H) : tDrop (tBM G.K "list" rAppend (tE G Φ (.var i)) (tCons (tE G Φ e) tNil)) D σ H := by
  obtain ⟨F, τ, out, τ', I, e0, k⟩ := h
  simp only [exec, ev_bind_iff] at e0
  obtain ⟨_, τ0, e00, x, τ1, e1, y, τ2, e2, d, τ3, e3, e4⟩ := e0
  obtain ⟨rfl, ds0, hs0⟩ := lstAt_inv e00
  obtain rfl := val_tau e2
  obtain ⟨rfl, hs⟩ := deref_slot e3
  cases d <;> simp only [appE] at e4 <;> first | cases e4 | skip
  rename_i ds
  unfold Ev.when at e4
  split at e4
  · rename_i hf
    simp only [ev_bind_iff] at e4
    obtain ⟨_, τ5, e5, e6⟩ := e4
    obtain ⟨rfl, rfl⟩ := ev_pure_inv e6
    refine ⟨F, τ0, .s i, τ0, I, ev_slot hs0, fun v H1 P1 R1 => ?_⟩
    obtain ⟨r1, _⟩ := R1
    obtain ⟨a, ha, _, ob, _⟩ := P1.fi.obj hs0
    rw [r1] at ha; cases ha
    obtain ⟨xs0, hx0, _⟩ := obj_lst ob
    refine ⟨tyV_lst hx0, F, τ0, x, _, P1.fi, e1, fun u H2 P2 R2 => ?_⟩
    obtain ⟨_, r2⟩ := R2.vald e2
    obtain ⟨a', ha', _, ob2, _⟩ := P2.fi.obj hs
    rw [r1] at ha'; cases ha'
    obtain ⟨xs, hx, rx⟩ := obj_lst ob2
    have hz : xs.length < sizeLine := by
      have := few_le hf
      rw [rx.length]; omega
    have P := P2.fi.put hs r1 (putS_T e5) (.lst upd_same (rx.append (.cons r2 .nil)))
    exact ⟨a, xs, u, rfl, rfl, hx, hz, k _ _ ((P1.trans P2).trans P).s⟩
  · cases e4
/-- another list's items put behind -/
def rExtR (K : PySem.W.Frag) : V → List V → Hp → VK → Prop := fun x vs H Q => ∃ l b xs zs, x = .ref l ∧ vs = [.ref b] ∧ H l = some (.lst xs) ∧ Rd H b (.lst zs) ∧ xs.length + zs.length ≤ sizeLine ∧ Q .non (upd H l (.lst (xs ++ zs)))
theorem mt_extR {X : Cx} : MtR X "list.extend" (rExtR X.K) := by
  intro pins s σ H x vs v us Q I rx rv h
  obtain ⟨l, b, xs, zs, rfl, rfl, hH, hB, hz, q⟩ := h
  cases rx
  obtain ⟨u, rfl, ru⟩ := rv.one
  cases ru
  obtain ⟨z, its, n, r, hl, e⟩ := I.lstM hH
  obtain ⟨z2, its2, n2, r2, e2⟩ := Inv.rdL I hB
  have hl2 := r2.length
  have small : its.toArray.size + its2.toArray.size ≤ sizeLine := by rw [List.size_toArray, List.size_toArray, ← hl, ← hl2]; exact hz
  have room : ¬ (!its.toArray.isEmpty && Builtin.List.listTooLong (its.toArray.size + its2.toArray.size)) = true := fun w => by
    rw [notLongL small, Bool.and_false] at w; cases w
  refine call_meets F.slot_list_extend ⟨_, e, rfl⟩ F.entry_list_extend (F.args_list_extend_2 _ _) (AutoSeq1.list_extend_list_list_0 l its.toArray n b its2.toArray n2 room (by rw [List.size_toArray]; omega) (by omega)) ⟨e, e2, .non, _, ?_, rfl, q⟩
  exact I.lset (its' := its ++ its2) hH e (by simp) (r.append r2) (by rw [List.length_append]; exact hz)
theorem valF_inv {x : Rv} {y : PyData} (h : valF x τ = some (.ok y τ')) : x = .f y ∧ τ' = τ := by
  cases x <;> cases h
  exact ⟨rfl, rfl⟩
theorem st_ext {i : Nat} {e : E} (h : tSt G Φ n (.ext i e) D σ H) : tDrop (tBM G.K "list" (rExtR G.K) (tE G Φ (.var i)) (tCons (tE G Φ e) tNil)) D σ H := by
  obtain ⟨F, τ, out, τ', I, e0, k⟩ := h
  simp only [exec, ev_bind_iff] at e0
  obtain ⟨_, τ0, e00, x, τ1, e1, y, τ2, e2, d, τ3, e3, e4⟩ := e0
  obtain ⟨rfl, ds0, hs0⟩ := lstAt_inv e00
  obtain ⟨rfl, rfl⟩ := valF_inv e2
  obtain ⟨rfl, hs⟩ := deref_slot e3
  cases d <;> cases y <;> simp only [extE] at e4 <;> first | cases e4 | skip
  rename_i ds es
  unfold Ev.when at e4
  split at e4
  · rename_i hf
    simp only [ev_bind_iff] at e4
    obtain ⟨_, τ5, e5, e6⟩ := e4
    obtain ⟨rfl, rfl⟩ := ev_pure_inv e6
    refine ⟨F, τ0, .s i, τ0, I, ev_slot hs0, fun v H1 P1 R1 => ?_⟩
    obtain ⟨r1, _⟩ := R1
    obtain ⟨a, ha, _, ob, _⟩ := P1.fi.obj hs0
    rw [r1] at ha; cases ha
    obtain ⟨xs0, hx0, _⟩ := obj_lst ob
    refine ⟨tyV_lst hx0, F, τ0, _, _, P1.fi, e1, fun u H2 P2 R2 => ?_⟩
    obtain ⟨p, rfl, _, _, _, obp⟩ := R2
    obtain ⟨a', ha', _, ob2, _⟩ := P2.fi.obj hs
    rw [r1] at ha'; cases ha'
    obtain ⟨xs, hx, rx⟩ := obj_lst ob2
    cases obp with
    | lst h1 h2 =>
      have P := P2.fi.put hs r1 (putS_T e5) (.lst upd_same (rx.append (h2.mono (prot_sub F p))))
      exact ⟨a, _, xs, _, rfl, rfl, hx, .inl h1, by rw [rx.length, h2.length]; exact few_le hf, k _ _ ((P1.trans P2).trans P).s⟩
  · cases e4
theorem slotAt_inv {i : Nat} (h : slotAt i τ = some (.ok () τ')) : τ' = τ ∧ ∃ d, τ[i]? = some (some (.p d)) ∨ τ[i]? = some (some (.q d)) := by
  unfold slotAt at h
  split at h <;> first | cases h | skip
  · rename_i ds q; exact ⟨rfl, ds, .inl q⟩
  · rename_i ds q; exact ⟨rfl, ds, .inr q⟩
theorem st_sidx {i : Nat} {kE v : E} (h : tSt G Φ n (.sidx i kE v) D σ H) : tAsg (tE G Φ v) (gSub (tE G Φ (.var i)) (tE G Φ kE) rSetL) D σ H := by
  obtain ⟨F, τ, out, τ', I, e0, k⟩ := h
  simp only [exec, ev_bind_iff] at e0
  obtain ⟨x, τ1, e1, dv, τ2, e2, _, τ2', e22, y, τ3, e3, dk, τ4, e4, d, τ5, e5, e6⟩ := e0
  obtain rfl := val_tau e2
  obtain ⟨rfl, d0, hs0⟩ := slotAt_inv e22
  obtain rfl := val_tau e4
  obtain ⟨rfl, hs⟩ := deref_slot e5
  refine ⟨F, τ, x, _, I, e1, fun u H1 P1 R1 => ?_⟩
  obtain ⟨_, r1⟩ := R1.vald e2
  refine ⟨F, _, .s i, _, P1.fi, ev_slot hs0, fun o H2 P2 R2 => ?_⟩
  obtain ⟨ho, _⟩ := R2
  obtain ⟨a, ha, _⟩ := P2.fi.obj hs0
  rw [ho] at ha; cases ha
  refine ⟨F, _, y, _, P2.fi, e3, fun w H3 P3 R3 => ?_⟩
  obtain ⟨_, r3⟩ := R3.vald e4
  obtain ⟨a', ha', _, ob, _⟩ := P3.fi.obj hs
  rw [ho] at ha'; cases ha'
  cases d with
  | list ds =>
    obtain ⟨xs, hx, rx⟩ := obj_lst ob
    cases dk <;> simp only [sidxE] at e6 <;> first | cases e6 | skip
    rename_i j
    cases hj : ixN ds.length j with
    | none => rw [hj] at e6; cases e6
    | some m =>
      rw [hj] at e6
      simp only [ev_bind_iff] at e6
      obtain ⟨_, τ6, e7, e8⟩ := e6
      obtain ⟨rfl, rfl⟩ := ev_pure_inv e8
      have P := P3.fi.put hs ho (putS_T e7) (.lst upd_same (RpA.set ((r1.mono P2.sm).mono P3.sm) m rx))
      exact ⟨a, xs, j, m, rfl, Rp.int_inv r3, hx, by rw [rx.length]; exact hj, k _ _ (((P1.trans P2).trans P3).trans P).s⟩
  | _ => cases e6
/-! ### control -/
theorem ss_nil (h : tSs G Φ n .nil D σ H) : tNext D σ H := by
  obtain ⟨F, τ, out, τ', I, e0, k⟩ := h
  obtain ⟨rfl, rfl⟩ := ev_pure_inv (show (pure .nx : Ev Out) τ = _ from e0)
  exact k σ H (Post.refl I).s
/-- one after another -/
theorem tX_seq {m k2 : Ev Out} (h : tX G (m >>= seqE k2) D σ H) : tX G m { D with nx := tX G k2 D } σ H := by
  obtain ⟨F, τ, out, τ', I, e0, k⟩ := h
  rw [ev_bind_iff] at e0
  obtain ⟨o1, τ1, e1, e2⟩ := e0
  refine ⟨F, τ, o1, τ1, I, e1, ?_⟩
  cases o1 with
  | nx => exact fun σ' H' p => ⟨F, τ1, out, τ', p.fi, e2, k.pre p⟩
  | brk =>
    obtain ⟨rfl, rfl⟩ := ev_pure_inv (show (pure .brk : Ev Out) τ1 = _ from e2)
    exact k
  | cnt =>
    obtain ⟨rfl, rfl⟩ := ev_pure_inv (show (pure .cnt : Ev Out) τ1 = _ from e2)
    exact k
  | ret b d =>
    obtain ⟨rfl, rfl⟩ := ev_pure_inv (show (pure (.ret b d) : Ev Out) τ1 = _ from e2)
    exact k
theorem ss_cons {s : S} {r : Ss} (h : tSs G Φ n (.cons s r) D σ H) : tSeq (tSt G Φ n s) (tSs G Φ n r) D σ H := tX_seq (by simpa [tSs, execs] using h)
theorem ss_rel {i : Nat} {r : Ss} (h : tSs G Φ n (.cons (.rel i) r) D σ H) : tSs G Φ n r D σ H := by
  obtain ⟨F, τ, out, τ', I, e0, k⟩ := h
  simp only [execs, exec, ev_bind_iff] at e0
  obtain ⟨o, τ1, ⟨_, τ2, e1, e2⟩, e3⟩ := e0
  obtain ⟨rfl, rfl⟩ := ev_pure_inv e2
  unfold relP at e1
  split at e1
  · rename_i d q
    cases e1
    have p := rel_fi (rel_T q) I
    exact ⟨F, _, out, τ', p.fi, e3, k.pre p⟩
  · cases e1
theorem st_ifs {c : E} {a b : Ss} (h : tSt G Φ n (.ifs c a b) D σ H) : tIfS (tT G Φ c) (tSs G Φ n a) (tSs G Φ n b) D σ H := by
  obtain ⟨F, τ, out, τ', I, e0, k⟩ := h
  simp only [exec, ev_bind_iff] at e0
  obtain ⟨x, τ1, e1, t, τ2, e2, e3⟩ := e0
  refine ⟨F, τ, t, τ2, I, by rw [ev_bind_iff]; exact ⟨x, τ1, e1, e2⟩, fun H1 P1 => ?_⟩
  cases t with
  | true => exact ⟨F, _, out, τ', P1.fi, e3, k.pre P1.s⟩
  | false => exact ⟨F, _, out, τ', P1.fi, e3, k.pre P1.s⟩
theorem st_brk (h : tSt G Φ n .brk D σ H) : tBreak D σ H := by
  obtain ⟨F, τ, out, τ', I, e0, k⟩ := h
  obtain ⟨rfl, rfl⟩ := ev_pure_inv (show (pure .brk : Ev Out) τ = _ from e0)
  exact k σ H (Post.refl I).s
theorem st_cnt (h : tSt G Φ n .cnt D σ H) : tCont D σ H := by
  obtain ⟨F, τ, out, τ', I, e0, k⟩ := h
  obtain ⟨rfl, rfl⟩ := ev_pure_inv (show (pure .cnt : Ev Out) τ = _ from e0)
  exact k σ H (Post.refl I).s
theorem st_ret {e : E} (h : tSt G Φ n (.ret e) D σ H) : tRet (tE G Φ e) D σ H := by
  obtain ⟨F, τ, out, τ', I, e0, k⟩ := h
  simp only [exec] at e0
  rw [ev_bind_iff] at e0
  obtain ⟨x, τ1, e1, e2⟩ := e0
  have p0 := rel_fi (relAll_T τ) I
  refine ⟨F, _, x, τ1, p0.fi, e1, fun v H1 P1 R1 => ?_⟩
  cases x with
  | v d =>
    obtain ⟨rfl, rfl⟩ := ev_pure_inv (show (pure (.ret false d) : Ev Out) τ1 = _ from e2)
    exact k v σ H1 ⟨P1.fi, R1⟩
  | f d =>
    obtain ⟨rfl, rfl⟩ := ev_pure_inv (show (pure (.ret true d) : Ev Out) τ1 = _ from e2)
    obtain ⟨a, h1, h2, h3, h4, h5⟩ := R1
    exact k v σ H1 ⟨a, h1, h3, (I.new0 h2).1, h4, h5⟩
  | s i => cases e2
theorem st_retP {i : Nat} (h : tSt G Φ n (.retP i) D σ H) : tRet (tVar i) D σ H := by
  obtain ⟨F, τ, out, τ', I, e0, k⟩ := h
  simp only [exec, retPE] at e0
  split at e0
  · rename_i d q
    cases e0
    obtain ⟨a, h1, h2, h3, h4⟩ := I.p i d q
    obtain ⟨z1, z2, z3, z4⟩ := disown I q h1
    exact ⟨_, h1, k _ σ H ⟨a, rfl, z1, z2, z3, z4⟩⟩
  · cases e0
theorem st_retN (h : tSt G Φ n (.ret (.con .none)) D σ H) : tRetN D σ H := by
  have := st_ret h
  exact tE_con (fun _ => .non) this
/-! ### loops -/
theorem st_wh {c : E} {b : Ss} (h : tSt G Φ n (.wh c b) D σ H) : tWhile (tT G Φ c) (tSs G Φ n b) D σ H := by
  obtain ⟨F, τ, out, τ', I, e0, k⟩ := h
  have e0 : whGo (ev Φ c >>= fun x => isB x) (execs Φ n b) n τ = some (.ok out τ') := e0
  refine ⟨fun m σ1 H1 => ∃ τc, PostS G F τ τc σ σ1 H H1 ∧ whGo (ev Φ c >>= fun x => isB x) (execs Φ n b) m τc = some (.ok out τ'), ⟨n, τ, (Post.refl I).s, e0⟩, ?_⟩
  rintro m σ1 H1 ⟨τc, p, e⟩
  cases m with
  | zero => cases e
  | succ m =>
    simp only [whGo] at e
    rw [ev_bind_iff] at e
    obtain ⟨t, τ1, e1, e2⟩ := e
    refine ⟨F, τc, t, τ1, p.fi, e1, fun H2 P2 => ?_⟩
    have p2 := p.trans P2.s
    cases t with
    | false =>
      obtain ⟨rfl, rfl⟩ := ev_pure_inv (show (pure .nx : Ev Out) τ1 = _ from e2)
      exact k σ1 H2 p2
    | true =>
      have e2 : (execs Φ n b >>= turnE (whGo (ev Φ c >>= fun x => isB x) (execs Φ n b) m)) τ1 = some (.ok out τ') := e2
      rw [ev_bind_iff] at e2
      obtain ⟨o1, τ2, e3, e4⟩ := e2
      refine ⟨fun σ' H' => ∃ τc, PostS G F τ τc σ σ' H H' ∧ whGo (ev Φ c >>= fun x => isB x) (execs Φ n b) m τc = some (.ok out τ'), fun σ' H' q => ⟨m, Nat.lt_succ_self m, q⟩, F, τ1, o1, τ2, P2.fi, e3, ?_⟩
      cases o1 with
      | nx => exact fun σ' H' q => ⟨τ2, p2.trans q, e4⟩
      | cnt => exact fun σ' H' q => ⟨τ2, p2.trans q, e4⟩
      | brk =>
        obtain ⟨rfl, rfl⟩ := ev_pure_inv (show (pure .nx : Ev Out) τ2 = _ from e4)
        exact fun σ' H' q => k σ' H' (p2.trans q)
      | ret b' d =>
        obtain ⟨rfl, rfl⟩ := ev_pure_inv (show (pure (.ret b' d) : Ev Out) τ2 = _ from e4)
        exact k
theorem frGo_cons {body : Ev Out} {tg : T} {d : PyData} {ds : List PyData} {out : Out} (e : frGo body tg (d :: ds) τ = some (.ok out τ')) :
    (∀ i ∈ tg.ixs, NotQ τ[i]?) ∧ ∃ τb, bindT tg d τ = some τb ∧ (body >>= turnE (frGo body tg ds)) τb = some (.ok out τ') := by
  unfold frGo at e
  split at e
  · rename_i q
    cases hb : bindT tg d τ with
    | none => rw [hb] at e; cases e
    | some τb =>
      rw [hb] at e
      refine ⟨fun i hi => ?_, τb, rfl, e⟩
      cases tg with
      | nm j =>
        simp only [T.ixs, List.mem_singleton] at hi
        subst hi
        exact (notQ_of q).1
      | tp is =>
        simp only [tgOk, List.all_eq_true] at q
        exact (notQ_of (q i hi)).1
  · cases e
theorem st_fr {tg : T} {it : I} {b : Ss} (h : tSt G Φ n (.fr tg it b) D σ H) : tFor (tI G Φ it) (gT G.K tg) (tSs G Φ n b) D σ H := by
  obtain ⟨F, τ, out, τ', I, e0, k⟩ := h
  simp only [exec] at e0
  rw [ev_bind_iff] at e0
  obtain ⟨ds, τ1, e1, e2⟩ := e0
  refine ⟨F, τ, ds, τ1, I, e1, fun J H1 P1 W => ?_⟩
  refine ⟨fun i m σ1 H2 => m = ds.length - i ∧ i ≤ ds.length ∧ ∃ τc, PostS G F τ1 τc σ σ1 H1 H2 ∧ frGo (execs Φ n b) tg (ds.drop i) τc = some (.ok out τ'), ⟨ds.length, by simp, Nat.zero_le _, τ1, (Post.refl P1.fi).s, by simpa using e2⟩, ?_⟩
  rintro i m σ1 H2 ⟨rfl, hi, τc, p, e⟩
  have sm : Same (mk (mb F.M τ1 σ) H1) (mk (mb F.M τc σ1) H2) := p.sm
  by_cases hlt : i < ds.length
  · refine .inr ⟨W.goes i _ H2 hlt sm, fun σ' H' => i + 1 ≤ ds.length ∧ ∃ τc, PostS G F τ1 τc σ σ' H1 H' ∧ frGo (execs Φ n b) tg (ds.drop (i + 1)) τc = some (.ok out τ'), fun σ' H' q => ⟨ds.length - (i + 1), by omega, rfl, q⟩, fun x H3 y => ?_⟩
    obtain ⟨hgr, d, hd, rx⟩ := W.yields i _ H2 x H3 hlt sm p.fi.domM y
    have hs : Same H2 H3 := by
      rcases hgr with rfl | ⟨T, o, hT, rfl⟩
      · exact Same.refl _
      · exact same_upd hT o
    have hds : ds.drop i = d :: ds.drop (i + 1) := by
      obtain ⟨hlt', rfl⟩ := List.getElem?_eq_some_iff.mp hd
      exact List.drop_eq_getElem_cons hlt'
    rw [hds] at e
    obtain ⟨nq, τb, b1, b2⟩ := frGo_cons e
    have p3 : PostS G F τ1 τc σ σ1 H1 H3 := p.trans ((Post.refl p.fi).grow hs).s
    refine gT_of p3.fi b1 rx nq fun σ2 rs _ _ => ?_
    have p4 : PostS G F τ1 τb σ σ2 H1 H3 := p3.trans ⟨rs.fi p3.fi, rs.same H3⟩
    rw [ev_bind_iff] at b2
    obtain ⟨o1, τd, b3, b4⟩ := b2
    refine ⟨F, τb, o1, τd, p4.fi, b3, ?_⟩
    cases o1 with
    | nx => exact fun σ' H' q => ⟨hlt, τd, p4.trans q, b4⟩
    | cnt => exact fun σ' H' q => ⟨hlt, τd, p4.trans q, b4⟩
    | brk =>
      obtain ⟨rfl, rfl⟩ := ev_pure_inv (show (pure .nx : Ev Out) τd = _ from b4)
      exact fun σ' H' q => k σ' H' (P1.s.trans (p4.trans q))
    | ret b' d' =>
      obtain ⟨rfl, rfl⟩ := ev_pure_inv (show (pure (.ret b' d') : Ev Out) τd = _ from b4)
      exact k
  · have hi' : i = ds.length := by omega
    subst hi'
    rw [List.drop_length] at e
    obtain ⟨rfl, rfl⟩ := ev_pure_inv (show (pure .nx : Ev Out) τc = _ from e)
    exact .inl ⟨W.stops _ H2 sm, k _ H2 (P1.s.trans p)⟩
theorem dctAt_inv {i : Nat} (h : dctAt i τ = some (.ok () τ')) : τ' = τ ∧ ∃ ds, τ[i]? = some (some (.p (.dict ds))) ∨ τ[i]? = some (some (.q (.dict ds))) := by
  unfold dctAt at h
  split at h <;> first | cases h | skip
  · rename_i ds q; exact ⟨rfl, ds, .inl q⟩
  · rename_i ds q; exact ⟨rfl, ds, .inr q⟩
theorem st_upd {i : Nat} {e : E} (h : tSt G Φ n (.upd i e) D σ H) : tDrop (tUD G (tE G Φ (.var i)) (tCons (tE G Φ e) tNil)) D σ H := by
  obtain ⟨F, τ, out, τ', I, e0, k⟩ := h
  simp only [exec, ev_bind_iff] at e0
  obtain ⟨_, τ0, e00, x, τ1, e1, y, τ2, e2, d, τ3, e3, e4⟩ := e0
  obtain ⟨rfl, ds0, hs0⟩ := dctAt_inv e00
  obtain rfl := val_tau e2
  obtain ⟨rfl, hs⟩ := deref_slot e3
  cases d <;> cases y <;> simp only [updE] at e4 <;> first | cases e4 | skip
  rename_i kvs more
  unfold Ev.when at e4
  split at e4
  · rename_i hf
    simp only [ev_bind_iff] at e4
    obtain ⟨_, τ5, e5, e6⟩ := e4
    obtain ⟨rfl, rfl⟩ := ev_pure_inv e6
    simp only [Bool.and_eq_true, Bool.or_eq_true, Bool.not_eq_true', List.isEmpty_eq_false_iff] at hf
    obtain ⟨⟨⟨f1, f2⟩, f3⟩, f4⟩ := hf
    refine ⟨F, τ0, .s i, τ0, I, ev_slot hs0, fun v H1 P1 R1 => ?_⟩
    obtain ⟨r1, _⟩ := R1
    obtain ⟨a, ha, _, ob, _⟩ := P1.fi.obj hs0
    rw [r1] at ha; cases ha
    refine ⟨⟨a, _, _, rfl, ob⟩, F, τ0, x, _, P1.fi, e1, fun u H2 P2 R2 => ?_⟩
    obtain ⟨_, r2⟩ := R2.vald e2
    obtain ⟨a', ha', hm2, ob2, _⟩ := P2.fi.obj hs
    rw [r1] at ha'; cases ha'
    refine ⟨a, u, mb F.M _ σ, kvs, more, rfl, rfl, hm2, ob2, r2, f1, f2, f3, f4, fun o ob3 => ?_⟩
    have P := P2.fi.put hs r1 (putS_T e5) ob3
    exact k _ _ ((P1.trans P2).trans P).s
  · cases e4
end
end TL

set_option Elab.async false
set_option linter.all false
set_option maxRecDepth 100000
set_option maxHeartbeats 8000000
/-! TLx: the look at a def's text: statements. -/
namespace TL
open PySem L2 StX RZ

def notComp : Expr → Bool
  | .ListComp _ _ _ _ => false
  | .SetComp _ _ _ _ => false
  | .DictComp _ _ _ _ _ => false
  | _ => true
def notTup : Expr → Bool
  | .Tuple _ _ _ => false
  | _ => true
def locB (sc : Scope) (x : Str) : Bool := match sc.names.lookup x with
  | some .local => true
  | _ => false
/-- a name = a list comprehension on its own line -/
def swB (sc : Scope) (x : Str) (p : Pos) : Expr → Bool
  | .ListComp _ _ scope pos => locB sc x && (p.line == pos.line) && !(scope.names.any fun (n, k) => n == x && (k == .local || k == .cell))
  | _ => false
def isLC : Expr → Bool
  | .ListComp _ _ _ _ => true
  | _ => false
def allF (vs : List Expr) : Bool := vs.all (foldedForSure 8)
def allC (vs : List Expr) : Bool := vs.all (constantsAlone 8)
/-- two names at once: on one line, plain locals -/
def two (sc : Scope) (x y : Str) (px py : Pos) : Bool := locB sc x && locB sc y && (py.line == px.line) && !(x == y)

mutual
def chkS (C : Sx) : Nat → Scope → Stmt → S → Bool
  | 0, _, _, _ => false
  | n + 1, sc, s, t => match s, t with
    | .Assign [.Name x p] e _, .asg i f => ownB_ sc x && decide (C.N[i]? = some x) && chkE C n sc e f && (notComp e || isLC e)
    | .Assign [.Name x p] e _, .own i f => ownB_ sc x && decide (C.N[i]? = some x) && chkE C n sc e f && (notComp e || isLC e)
    | .Assign [.Tuple [.Name x px, .Name y py] _ _] (.Tuple [a, b] _ _) _, .par _ i f _ j g => decide (C.N[i]? = some x) && decide (C.N[j]? = some y) && ownB_ sc x && ownB_ sc y && decide (i ≠ j) && noStar [a, b] && chkE C n sc a f && chkE C n sc b g &&
        (if two sc x y px py && !allF [a, b] then !allC [a, b] else true)
    | .Assign [.Tuple es _ _] e _, .unp is f => chkNm C (ownB_ sc) es is && notTup e && notComp e && chkE C n sc e f
    | .Assign [.Subscript (.Name x _) k _] e _, .sidx i f g => decide (C.N[i]? = some x) && visB sc x && okName x && notComp e && notSl k && chkE C n sc k f && chkE C n sc e g
    | .Expr (.Call (.Attribute (.Name x _) m ap) [b] [] cp) _, .app i f => decide (m = "append") && decide (C.N[i]? = some x) && visB sc x && okName x && (ap.endLine == cp.line) && noStar [b] && chkE C n sc b f
    | .Expr (.Call (.Attribute (.Name x _) m ap) [b] [] cp) _, .ext i f => decide (m = "extend") && decide (C.N[i]? = some x) && visB sc x && okName x && (ap.endLine == cp.line) && noStar [b] && chkE C n sc b f
    | .Expr (.Call (.Attribute (.Name x _) m ap) [b] [] cp) _, .upd i f => decide (m = "update") && decide (C.N[i]? = some x) && visB sc x && okName x && (ap.endLine == cp.line) && noStar [b] && chkE C n sc b f
    | .Expr e _, .exp f => notComp e && chkE C n sc e f
    | .If c a b _, .ifs f s t => chkT C n sc c f && chkSs C n sc a s && chkSs C n sc b t
    | .For tg it body [] _, .fr tg' it' s => chkG C (ownB_ sc) tg tg' && notSet it && chkI C n sc tg it it' && chkSs C n sc body s
    | .While c body [] _, .wh f s => chkT C n sc c f && chkSs C n sc body s
    | .Return (some e) _, .ret f => chkE C n sc e f
    | .Return (some (.Name x _)) _, .retP i => decide (C.N[i]? = some x) && visB sc x && okName x
    | .Return none _, .ret (.con .none) => true
    | .Break _, .brk => true
    | .Continue _, .cnt => true
    | _, .stop => true
    | _, _ => false
def chkSs (C : Sx) : Nat → Scope → List Stmt → Ss → Bool
  | 0, _, _, _ => false
  | n + 1, sc, ss, ts => match ss, ts with
    | [], .nil => true
    | ss, .cons (.rel _) r => chkSs C n sc ss r
    | s :: ss, .cons t r => chkS C n sc s t && chkSs C n sc ss r
    | _, _ => false
end
section
variable {X : Cx} {Φ : Fns} {C : Sx} {n m : Nat}
theorem comp_no {e : Expr} {t : Option Expr} {l : Nat} {env : Env} (h : notComp e = true) : swapsWith e t l env = pure false := by
  cases e <;> first | rfl | cases h
theorem sole_no {e tg : Expr} {l : Nat} {env : Env} (h : notComp e = true) : swapsWithSole [tg] e l env = pure false := comp_no h
theorem stores_no {e : Expr} {es : List Expr} {k : Nat} {p : Pos} {env : Env} (h : notTup e = true) : swappedStores [.Tuple es k p] e env = pure none := by
  cases e <;> first | rfl | cases h
theorem stores_sub {e o i : Expr} {p : Pos} {env : Env} : swappedStores [.Subscript o i p] e env = pure none := by
  cases e <;> rfl
theorem loc_of {sc : Scope} {x : Str} (h : locB sc x = true) : sc.names.lookup x = some .local := by
  unfold locB at h
  split at h
  · assumption
  · cases h
theorem sw_lc {elt : Expr} {gs : List Comprehension} {scope : Scope} {pos py : Pos} {y : Str} {l : Nat} {env : Env} : swapsWith (.ListComp elt gs scope pos) (some (.Name y py)) l env =
    pure (env.blockKind == .function && env.kindOf y == some .local && py.line == pos.line && !(scope.names.any fun (n, k) => n == y && (k == .local || k == .cell))) := by rfl
theorem sw_no {elt : Expr} {gs : List Comprehension} {scope : Scope} {pos py : Pos} {y : Str} {l : Nat} (h : swB X.env.scope y py (.ListComp elt gs scope pos) = false) : swapsWith (.ListComp elt gs scope pos) (some (.Name y py)) l X.env = pure false := by
  rw [sw_lc]
  congr 1
  by_cases hk : X.env.scope.names.lookup y = some .local
  · have : locB X.env.scope y = true := by unfold locB; rw [hk]
    simp only [swB, this, Bool.true_and] at h
    have ky : X.env.kindOf y = some .local := hk
    rw [Bool.and_assoc, h, Bool.and_false]
  · have ky : (X.env.kindOf y == some .local) = false := by
      apply Bool.eq_false_iff.mpr
      intro z
      exact hk (beq_iff_eq.mp z)
    rw [ky]; simp
theorem chkE_lc {sc : Scope} {elt : Expr} {gs : List Comprehension} {scope : Scope} {pos : Pos} {f : E} (h : chkE C (n + 1) sc (.ListComp elt gs scope pos) f = true) : ∃ tg it ifs own tg' it' hc c f', gs = [⟨tg, it, ifs, 0⟩] ∧ f = .cmp own tg' it' hc c f' ∧
    blkC C.N sc scope (ownL C.N own) = true ∧ chkG C (ownB_ scope) tg tg' = true ∧ (∀ i ∈ tg'.ixs, i ∈ own) ∧ notSet it = true ∧ chkI C n sc tg it it' = true ∧ chkIf C n (L2.relS scope sc) ifs hc c = true ∧ chkE C n (L2.relS scope sc) elt f' = true := by
  unfold chkE at h
  split at h <;> try contradiction
  rename_i heq
  cases heq
  simp only [Bool.and_eq_true, List.all_eq_true, decide_eq_true_eq] at h
  obtain ⟨⟨⟨⟨⟨⟨a1, a2⟩, a3⟩, a4⟩, a5⟩, a6⟩, a7⟩ := h
  exact ⟨_, _, _, _, _, _, _, _, _, rfl, rfl, a1, a2, a3, a4, a5, a6, a7⟩
theorem st_set (hk : X.env.scope.kind = .function) (c : XC X Φ C) (hfn : ∀ x, X.fn x = true) {x : Str} {p pos : Pos} {e : Expr} {f : E} {i : Nat} (h1 : ownB_ X.env.scope x = true) (h2 : C.N[i]? = some x) (h3 : chkE C n X.env.scope e f = true) (h4 : (notComp e || isLC e) = true) :
    PS X (.Assign [.Name x p] e pos) (tAsg (tE (gx X) Φ f) (gName i)) := by
  have hx : Loc X.env.scope x := (own_loc h1).1
  have hi : X.N[i]? = some x := by rw [c.n]; exact h2
  have he := (snd C Φ n).e X c e f h3
  by_cases hc : notComp e = true
  · exact ps_set c.B.nd hi hx he (comp_no hc) (.inl (hfn x))
  · have hl : isLC e = true := by simpa [hc] using h4
    cases e <;> first | cases hl | skip
    rename_i elt gs scope lpos
    by_cases hs : swB X.env.scope x p (.ListComp elt gs scope lpos) = true
    · cases n with
      | zero => unfold chkE at h3; cases h3
      | succ n =>
        have hs0 := hs
        simp only [swB, Bool.and_eq_true, Bool.not_eq_true'] at hs
        obtain ⟨⟨s1, s2⟩, s3⟩ := hs
        have hsw : swapsWith (.ListComp elt gs scope lpos) (some (.Name x p)) pos.line X.env = pure true := sw_true hk (loc_of s1) s2 s3
        obtain ⟨tg, it, ifs, own, tg', it', hc', cE, fE, rfl, rfl, a1, a2, a3, a4, a5, a6, a7⟩ := chkE_lc h3
        have bo : BlkOk X.N X.env.scope scope (ownL C.N own) := by rw [c.n]; exact blkOk_by a1
        have ih := snd C Φ n
        have := ps_setLc (spos := pos) c.B.calm c.B.nd hi (loc_of s1) hsw (ih.i X c tg it it' a5) bo (fun s H C' cl fp => show PG (X.blk s H scope (compEnvC scope cl C' X.env) fp) tg (gT X.K tg') from g_of (c.blk s H scope _ fp) (fun x hx => blk_loc hx) a2)
          (fun s H C' cl fp => show PTs (X.blk s H scope (compEnvC scope cl C' X.env) fp) ifs (tTs (gx X) Φ hc' cE) from ih.f _ (c.blk s H scope _ fp) ifs hc' cE a6) (fun s H C' cl fp => show PE (X.blk s H scope (compEnvC scope cl C' X.env) fp) elt (tE (gx X) Φ fE) from ih.e _ (c.blk s H scope _ fp) elt fE a7) (set_of a4)
        rw [ownL_snd] at this
        exact PS.imp this fun D σ H q => tE_cmp a3 q
    · exact ps_set c.B.nd hi hx he (sw_no (by simpa using hs)) (.inl (hfn x))
end
end TL

set_option Elab.async false
set_option linter.all false
set_option maxRecDepth 100000
set_option maxHeartbeats 8000000
/-! TLy: statements, the one theorem. -/
namespace TL
open PySem L2 StX RZ
section
variable {X : Cx} {Φ : Fns} {C : Sx} {n m : Nat}
theorem blockKind_fn {env : Env} (h : env.scope.kind = .function) : env.blockKind = .function := by unfold Env.blockKind; rw [h]; rfl
theorem two_of {sc : Scope} {x y : Str} {px py : Pos} (h : two sc x y px py = true) : sc.names.lookup x = some .local ∧ sc.names.lookup y = some .local ∧ (py.line == px.line) = true ∧ x ≠ y := by
  simp only [two, Bool.and_eq_true, Bool.not_eq_true', beq_eq_false_iff_ne] at h
  exact ⟨loc_of h.1.1.1, loc_of h.1.1.2, h.1.2, h.2⟩
theorem anyStar {a b : Expr} (h : noStar [a, b] = true) : ([a, b].any fun | .Starred .. => true | _ => false) = false := by
  cases a <;> first | (cases b <;> first | rfl | cases h) | cases h
theorem stores_two (hk : X.env.scope.kind = .function) {x y : Str} {px py p p2 : Pos} {k k2 : Nat} {a b : Expr} (h : two X.env.scope x y px py = true) (hs : noStar [a, b] = true) (hf : allF [a, b] = false) (hc : allC [a, b] = false) :
    swappedStores [.Tuple [.Name x px, .Name y py] k p] (.Tuple [a, b] k2 p2) X.env = pure (some [x, y]) := by
  obtain ⟨h1, h2, h3, h4⟩ := two_of h
  have kx : X.env.kindOf x = some .local := h1
  have ky : X.env.kindOf y = some .local := h2
  have bk := blockKind_fn hk
  have he : (x == y) = false := beq_eq_false_iff_ne.mpr h4
  have f1 : ([a, b].all (foldedForSure 8)) = false := hf
  have f2 : ([a, b].all (constantsAlone 8)) = false := hc
  have st := anyStar hs
  unfold swappedStores
  simp only [bk, kx, ky, Expr.pos, List.head?_cons, Option.map_some, Option.getD_some, h3, f1, f2, st, List.filterMap_cons, List.filterMap_nil, List.length_cons, List.length_nil, beq_self_eq_true, Bool.and_true, Bool.true_and, Bool.or_false, Bool.false_eq_true, if_false, if_true]
  have ed : [x, y].eraseDups = [x, y] := by
    have q : (y == x) = false := beq_eq_false_iff_ne.mpr (Ne.symm h4)
    simp [List.eraseDups_cons, q, Ne.symm h4]
  rw [ed, if_neg (by decide), if_neg (fun z => Bool.noConfusion (z.symm.trans st)), if_neg (by simp)]
theorem ite_any {α : Type} {c : Prop} [Decidable c] {a b z : α} (ha : a = z) (hb : b = z) : (if c then a else b) = z := by
  by_cases h : c
  · rw [if_pos h]; exact ha
  · rw [if_neg h]; exact hb
/-- .. otherwise a tuple is made and taken apart -/
theorem stores_one (hk : X.env.scope.kind = .function) {x y : Str} {px py p p2 : Pos} {k k2 : Nat} {a b : Expr} (hs : noStar [a, b] = true) (h : (two X.env.scope x y px py && !allF [a, b]) = false) :
    swappedStores [.Tuple [.Name x px, .Name y py] k p] (.Tuple [a, b] k2 p2) X.env = pure none := by
  have bk := blockKind_fn hk
  have st := anyStar hs
  unfold swappedStores
  simp only [bk, Expr.pos, List.head?_cons, Option.map_some, Option.getD_some, st, List.length_cons, List.length_nil, beq_self_eq_true]
  rw [if_neg (by decide), if_neg (fun z => Bool.noConfusion (z.symm.trans st))]
  by_cases hf : allF [a, b] = true
  · have f1 : ([a, b].all (foldedForSure 8)) = true := hf
    exact ite_any rfl (if_pos f1)
  · have ht : two X.env.scope x y px py = false := by simpa [hf] using h
    refine if_pos ?_
    by_cases kx : X.env.kindOf x = some .local
    · by_cases ky : X.env.kindOf y = some .local
      · by_cases kl : (py.line == px.line) = true
        · have l1 : locB X.env.scope x = true := by unfold locB; rw [show X.env.scope.names.lookup x = _ from kx]
          have l2 : locB X.env.scope y = true := by unfold locB; rw [show X.env.scope.names.lookup y = _ from ky]
          have e : x = y := by simpa [two, l1, l2, kl] using ht
          subst e
          have kl' : py.line = px.line := by simpa using kl
          simp [kx, kl', List.eraseDups_cons, List.filterMap_cons]
        · have kl' : ¬ py.line = px.line := by simpa using kl
          simp [kx, ky, kl', List.filterMap_cons]
      · have : (X.env.kindOf y == some NameKind.local) = false := beq_eq_false_iff_ne.mpr ky
        simp [kx, ky, this, List.filterMap_cons]
    · have : (X.env.kindOf x == some NameKind.local) = false := beq_eq_false_iff_ne.mpr kx
      by_cases hy : (X.env.kindOf y == some NameKind.local && py.line == px.line) = true
      · have hy' : X.env.kindOf y = some .local ∧ py.line = px.line := by simpa using hy
        simp [kx, hy', List.filterMap_cons]
      · have hy' : ¬ (X.env.kindOf y = some .local ∧ py.line = px.line) := by simpa using hy
        simp [kx, hy', List.filterMap_cons]
theorem assign_sub {o k : Expr} {pos : Pos} {env : Env} (h : notSl k = true) : ∀ v, assign (.Subscript o k pos) env v = (do
      let ov ← holding [v] (eval o env)
      let iv ← holding [v, ov] (eval k env)
      standAt pos
      holding [v, ov, iv] (setItem ov iv v)
      release [v, ov, iv] []) := by
  intro v
  cases k <;> first | rfl | cases h
theorem few2 {b : Expr} {cp : Pos} (h : noStar [b] = true) (env : Env) : ((backTo cp (starEach [b] env)).all (fun x => !x.1) && (backToKw cp (keywordEach [] env)).all (fun x => x.1.isSome)
      && decide (([b] : List Expr).length + ([] : List Keyword).length + (if ([] : List Keyword).isEmpty then 0 else 1) < 30)) = true := by
  rw [star1 h env]; rfl
theorem snd_par (hk : X.env.scope.kind = .function) (c : XC X Φ C) (hfn : ∀ x, X.fn x = true) {x y : Str} {px py p p2 pos : Pos} {k k2 : Nat} {a b : Expr} {b1 b2 : Bool} {i j : Nat} {f g : E}
    (h1 : C.N[i]? = some x) (h2 : C.N[j]? = some y) (h3 : ownB_ X.env.scope x = true) (h4 : ownB_ X.env.scope y = true) (h5 : i ≠ j) (h6 : noStar [a, b] = true) (h7 : chkE C n X.env.scope a f = true) (h8 : chkE C n X.env.scope b g = true)
    (h9 : (if (two X.env.scope x y px py && !allF [a, b]) = true then !allC [a, b] else true) = true) : PS X (.Assign [.Tuple [.Name x px, .Name y py] k p] (.Tuple [a, b] k2 p2) pos) (tSt (gx X) Φ m (.par b1 i f b2 j g)) := by
  have ha := (snd C Φ n).e X c a f h7
  have hb := (snd C Φ n).e X c b g h8
  have hi : X.N[i]? = some x := by rw [c.n]; exact h1
  have hj : X.N[j]? = some y := by rw [c.n]; exact h2
  have pa : PA X [a, b] (tCons (tE (gx X) Φ f) (tCons (tE (gx X) Φ g) tNil)) := pa_cons ha (pa_cons hb pa_nil (star_hd (noStar_tl h6) _)) (star_of h6 _)
  by_cases q : (two X.env.scope x y px py && !allF [a, b]) = true
  · rw [if_pos q] at h9
    simp only [Bool.and_eq_true, Bool.not_eq_true'] at q h9
    obtain ⟨t1, t2, t3, t4⟩ := two_of q.1
    refine PS.imp (ps_par c.B.calm c.B.nd hi hj h5 t1 t2 pa (stores_two hk q.1 h6 q.2 h9) rfl) fun D σ H h => ?_
    obtain ⟨F, τ, rv, τ', I, e, kk⟩ := st_par h
    refine ⟨F, τ, rv, τ', I, e, fun v H1 P1 R1 => ?_⟩
    obtain ⟨F, τ, rv, τ', I, e, kk⟩ := kk v H1 P1 R1
    exact ⟨F, τ, rv, τ', I, e, fun w H2 P2 R2 => ⟨v, w, rfl, kk w H2 P2 R2 H2 (.inl rfl)⟩⟩
  · have q : (two X.env.scope x y px py && !allF [a, b]) = false := by simpa using q
    have hl : ∀ z, ownB_ X.env.scope z = true → Loc X.env.scope z ∧ (X.fn z = true ∨ X.env.scope.names.lookup z = some .local) := fun z hz => ⟨(own_loc hz).1, .inl (hfn z)⟩
    have gg : PG X (.Tuple [.Name x px, .Name y py] k p) (gT X.K (.tp [i, j])) := g_of c hl (show chkG C (ownB_ X.env.scope) (.Tuple [.Name x px, .Name y py] k p) (.tp [i, j]) = true by simp [chkG, chkNm, h1, h2, h3, h4])
    refine PS.imp (ps_asg (pe_tup pa) gg rfl (stores_one hk h6 q) rfl) fun D σ H h => ?_
    obtain ⟨F, τ, rv, τ', I, e, kk⟩ := st_par h
    refine ⟨F, τ, rv, τ', I, e, fun v H1 P1 R1 => ?_⟩
    obtain ⟨F, τ, rv, τ', I, e, kk⟩ := kk v H1 P1 R1
    refine ⟨F, τ, rv, τ', I, e, fun w H2 P2 R2 => ⟨by show 2 ≤ sizeLine; decide, fun r hr => ⟨r, [v, w], rfl, .inl (.inl upd_same), rfl, gNm_of rfl ?_⟩⟩⟩
    exact kk w H2 P2 R2 _ (.inr ⟨r, _, hr, rfl⟩)
structure SndS (C : Sx) (Φ : Fns) (m n : Nat) : Prop where
  s : ∀ (X : Cx) (c : XC X Φ C) (_ : X.env.scope.kind = .function) (_ : ∀ x, X.fn x = true) (_ : PassesOwn (model X.prog X.w) X.A X.env X.xe) (s : Stmt) (t : S), chkS C n X.env.scope s t = true → PS X s (tSt (gx X) Φ m t)
  ss : ∀ (X : Cx) (c : XC X Φ C) (_ : X.env.scope.kind = .function) (_ : ∀ x, X.fn x = true) (_ : PassesOwn (model X.prog X.w) X.A X.env X.xe) (s : List Stmt) (t : Ss), chkSs C n X.env.scope s t = true → PSs X s (tSs (gx X) Φ m t)
theorem stop_no {G : Gx} {D : Ends} {σ : L2.St} {H : Hp} (h : tSt G Φ m .stop D σ H) : False := by
  obtain ⟨F, τ, out, τ', I, e, k⟩ := h
  cases e
theorem sndS_s (ih : SndS C Φ m n) (c : XC X Φ C) (hk : X.env.scope.kind = .function) (hfn : ∀ x, X.fn x = true) (hp : PassesOwn (model X.prog X.w) X.A X.env X.xe) {s : Stmt} {t : S} (h : chkS C (n + 1) X.env.scope s t = true) :
    PS X s (tSt (gx X) Φ m t) := by
  have hl : ∀ z, ownB_ X.env.scope z = true → Loc X.env.scope z ∧ (X.fn z = true ∨ X.env.scope.names.lookup z = some .local) := fun z hz => ⟨(own_loc hz).1, .inl (hfn z)⟩
  have sE := snd C Φ n
  have slot : ∀ {x : Str} {i : Nat} {p : Pos}, C.N[i]? = some x → visB X.env.scope x = true → okName x = true → PE X (.Name x p) (tE (gx X) Φ (.var i)) := fun {x i p} a b d => PE.imp (pe_var (by rw [c.n]; exact a) (vis_of b) (okName_of d).1 (okName_of d).2.1) fun σ H Q => tE_var
  unfold chkS at h
  split at h
  · simp only [Bool.and_eq_true, decide_eq_true_eq] at h
    obtain ⟨⟨⟨h1, h2⟩, h3⟩, h4⟩ := h
    exact PS.imp (st_set hk c hfn h1 h2 h3 h4) fun D σ H => st_asg
  · simp only [Bool.and_eq_true, decide_eq_true_eq] at h
    obtain ⟨⟨⟨h1, h2⟩, h3⟩, h4⟩ := h
    exact PS.imp (st_set hk c hfn h1 h2 h3 h4) fun D σ H => st_own
  · simp only [Bool.and_eq_true, decide_eq_true_eq] at h
    obtain ⟨⟨⟨⟨⟨⟨⟨⟨h1, h2⟩, h3⟩, h4⟩, h5⟩, h6⟩, h7⟩, h8⟩, h9⟩ := h
    exact snd_par hk c hfn h1 h2 h3 h4 h5 h6 h7 h8 (by simpa using h9)
  · simp only [Bool.and_eq_true] at h
    obtain ⟨⟨⟨h1, h2⟩, h3⟩, h4⟩ := h
    exact PS.imp (ps_asg (sE.e X c _ _ h4) (g_of c hl (t := .tp _) h1) (sole_no h3) (stores_no h2) rfl) fun D σ H => st_unp
  · simp only [Bool.and_eq_true, decide_eq_true_eq] at h
    obtain ⟨⟨⟨⟨⟨⟨h1, h2⟩, h3⟩, h4⟩, h5⟩, h6⟩, h7⟩ := h
    exact PS.imp (ps_asg (sE.e X c _ _ h7) (pg_sub (slot h1 h2 h3) (sE.e X c _ _ h6) set_list (assign_sub h5)) (sole_no h4) stores_sub rfl) fun D σ H => st_sidx
  · simp only [Bool.and_eq_true, decide_eq_true_eq] at h
    obtain ⟨⟨⟨⟨⟨⟨rfl, h1⟩, h2⟩, h3⟩, h4⟩, h5⟩, h6⟩ := h
    exact PS.imp (ps_expr (pe_bm PySem.F.plainAttrs_list PySem.F.slot_list_append rfl mt_append (slot h1 h2 h3) (pa_cons (sE.e X c _ _ h6) pa_nil (star1 h5 _)) rfl (few2 h5 _) h4 (star1 h5 _) rfl) rfl) fun D σ H => st_app
  · simp only [Bool.and_eq_true, decide_eq_true_eq] at h
    obtain ⟨⟨⟨⟨⟨⟨rfl, h1⟩, h2⟩, h3⟩, h4⟩, h5⟩, h6⟩ := h
    exact PS.imp (ps_expr (pe_bm PySem.F.plainAttrs_list PySem.F.slot_list_extend rfl mt_extR (slot h1 h2 h3) (pa_cons (sE.e X c _ _ h6) pa_nil (star1 h5 _)) rfl (few2 h5 _) h4 (star1 h5 _) rfl) rfl) fun D σ H => st_ext
  · simp only [Bool.and_eq_true, decide_eq_true_eq] at h
    obtain ⟨⟨⟨⟨⟨⟨rfl, h1⟩, h2⟩, h3⟩, h4⟩, h5⟩, h6⟩ := h
    exact PS.imp (ps_expr (pe_upd c.B (slot h1 h2 h3) (pa_cons (sE.e X c _ _ h6) pa_nil (star1 h5 _)) rfl (few2 h5 _) h4 (star1 h5 _) rfl) rfl) fun D σ H => st_upd
  · simp only [Bool.and_eq_true] at h
    exact PS.imp (ps_expr (sE.e X c _ _ h.2) (comp_no h.1)) fun D σ H => st_exp
  · simp only [Bool.and_eq_true] at h
    exact PS.imp (ps_if (sE.t X c _ _ h.1.1) (ih.ss X c hk hfn hp _ _ h.1.2) (ih.ss X c hk hfn hp _ _ h.2)) fun D σ H => st_ifs
  · simp only [Bool.and_eq_true] at h
    obtain ⟨⟨⟨h1, h2⟩, h3⟩, h4⟩ := h
    exact PS.imp (ps_for hp c.B.calm (sE.i X c _ _ _ h3) (g_of c hl h1) (ih.ss X c hk hfn hp _ _ h4) (set_of h2)) fun D σ H => st_fr
  · simp only [Bool.and_eq_true] at h
    exact PS.imp (ps_while hp (sE.t X c _ _ h.1) (ih.ss X c hk hfn hp _ _ h.2)) fun D σ H => st_wh
  · exact PS.imp (ps_ret (sE.e X c _ _ h)) fun D σ H => st_ret
  · simp only [Bool.and_eq_true, decide_eq_true_eq] at h
    exact PS.imp (ps_ret (pe_var (by rw [c.n]; exact h.1.1) (vis_of h.1.2) (okName_of h.2).1 (okName_of h.2).2.1)) fun D σ H => st_retP
  · exact PS.imp ps_retN fun D σ H => st_retN
  · exact PS.imp ps_break fun D σ H => st_brk
  · exact PS.imp ps_continue fun D σ H => st_cnt
  · exact PS.imp ps_never fun D σ H h => stop_no h
  · cases h
theorem sndS_ss (ih : SndS C Φ m n) (c : XC X Φ C) (hk : X.env.scope.kind = .function) (hfn : ∀ x, X.fn x = true) (hp : PassesOwn (model X.prog X.w) X.A X.env X.xe) {s : List Stmt} {t : Ss} (h : chkSs C (n + 1) X.env.scope s t = true) :
    PSs X s (tSs (gx X) Φ m t) := by
  unfold chkSs at h
  split at h
  · exact PSs.imp pss_nil fun D σ H => ss_nil
  · exact PSs.imp (ih.ss X c hk hfn hp _ _ h) fun D σ H => ss_rel
  · simp only [Bool.and_eq_true] at h
    exact PSs.imp (pss_cons (ih.s X c hk hfn hp _ _ h.1) (ih.ss X c hk hfn hp _ _ h.2)) fun D σ H => ss_cons
  · cases h
theorem sndS (C : Sx) (Φ : Fns) (m : Nat) : ∀ n, SndS C Φ m n
  | 0 => ⟨fun _ _ _ _ _ _ _ h => (by unfold chkS at h; cases h), fun _ _ _ _ _ _ _ h => (by unfold chkSs at h; cases h)⟩
  | n + 1 => ⟨fun _ c h1 h2 h3 _ _ h => sndS_s (sndS C Φ m n) c h1 h2 h3 h, fun _ c h1 h2 h3 _ _ h => sndS_ss (sndS C Φ m n) c h1 h2 h3 h⟩
end
end TL

set_option Elab.async false
set_option linter.all false
set_option maxRecDepth 100000
set_option maxHeartbeats 8000000
/-! TLz: a def keeps its promise. -/
namespace TL
open PySem PySem.Spec PyProof.Rows L2 StX RZ
section
variable {G : Gx} {M : Addr → Bool} {H H' : Hp}
def qOf (io : List Bool) (vs : List V) (i : Nat) : Option Addr := match io[i]?, vs[i]? with
  | some true, some (.ref a) => some a
  | _, _ => none
theorem args_len : ∀ {io : List Bool} {vs : List V} {ds : List PyData}, ArgsT G M H io vs ds → vs.length = io.length ∧ ds.length = io.length
  | _, _, _, .nil => ⟨rfl, rfl⟩
  | _, _, _, .io _ _ r => by obtain ⟨a, b⟩ := args_len r; simp [a, b]
  | _, _, _, .val _ r => by obtain ⟨a, b⟩ := args_len r; simp [a, b]
theorem args_at : ∀ {io : List Bool} {vs : List V} {ds : List PyData} (i : Nat) (x : SV), ArgsT G M H io vs ds → (startT io ds)[i]? = some (some x) →
    (∃ d v, x = .r d ∧ io[i]? = some false ∧ vs[i]? = some v ∧ Rp G (mk M H) v d) ∨ (∃ d a, x = .q d ∧ io[i]? = some true ∧ vs[i]? = some (.ref a) ∧ M a = true ∧ Ob G (mk M H) H a d)
  | _, _, _, i, x, .nil, e => by simp [startT] at e
  | _, _, _, 0, x, .io h1 h2 r, e => by
    simp [startT] at e; subst e
    exact .inr ⟨_, _, rfl, rfl, rfl, h1, h2⟩
  | _, _, _, 0, x, .val h1 r, e => by
    simp [startT] at e; subst e
    exact .inl ⟨_, _, rfl, rfl, rfl, h1⟩
  | _, _, _, i + 1, x, .io h1 h2 r, e => by
    simpa using args_at i x r (by simpa [startT] using e)
  | _, _, _, i + 1, x, .val h1 r, e => by
    simpa using args_at i x r (by simpa [startT] using e)
theorem startT_len : ∀ {io : List Bool} {ds : List PyData}, ds.length = io.length → (startT io ds).length = io.length
  | [], [], _ => rfl
  | [], _ :: _, h => by simp at h
  | _ :: _, [], h => by simp at h
  | true :: io, d :: ds, h => by simp [startT, startT_len (io := io) (ds := ds) (by simpa using h)]
  | false :: io, d :: ds, h => by simp [startT, startT_len (io := io) (ds := ds) (by simpa using h)]
theorem ioA_mem : ∀ {io : List Bool} {vs : List V} {a : Addr}, a ∈ ioA io vs ↔ ∃ i, qOf io vs i = some a
  | [], vs, a => by simp [ioA, qOf]
  | b :: io, [], a => by cases b <;> simp [ioA, qOf]
  | b :: io, v :: vs, a => by
    have ih := ioA_mem (io := io) (vs := vs) (a := a)
    have shift : (∃ i, qOf (b :: io) (v :: vs) i = some a) ↔ (qOf (b :: io) (v :: vs) 0 = some a ∨ ∃ i, qOf io vs i = some a) := by
      constructor
      · rintro ⟨i, h⟩
        cases i with
        | zero => exact .inl h
        | succ i => exact .inr ⟨i, by simpa [qOf] using h⟩
      · rintro (h | ⟨i, h⟩)
        · exact ⟨0, h⟩
        · exact ⟨i + 1, by simpa [qOf] using h⟩
    rw [shift, ← ih]
    cases b with
    | true => cases v <;> simp [ioA, qOf, eq_comm]
    | false => simp [ioA, qOf]
theorem ioA_inj : ∀ {io : List Bool} {vs : List V} {i j : Nat} {a : Addr}, (ioA io vs).Nodup → qOf io vs i = some a → qOf io vs j = some a → i = j
  | [], vs, i, j, a, _, h, _ => by simp [qOf] at h
  | b :: io, [], i, j, a, _, h, _ => by simp [qOf] at h
  | b :: io, v :: vs, i, j, a, nd, h1, h2 => by
    have tail : (ioA io vs).Nodup := by
      cases b with
      | true => cases v <;> simp [ioA] at nd <;> first | exact nd | exact nd.2
      | false => simpa [ioA] using nd
    have no : ∀ k, qOf (b :: io) (v :: vs) 0 = some a → qOf io vs k = some a → False := fun k z1 z2 => by
      have hm : a ∈ ioA io vs := ioA_mem.mpr ⟨k, z2⟩
      cases b with
      | true =>
        cases v <;> simp [qOf] at z1
        subst z1
        simp [ioA] at nd
        exact nd.1 hm
      | false => simp [qOf] at z1
    cases i with
    | zero =>
      cases j with
      | zero => rfl
      | succ j => exact (no j h1 (by simpa [qOf] using h2)).elim
    | succ i =>
      cases j with
      | zero => exact (no i h2 (by simpa [qOf] using h1)).elim
      | succ j => exact congrArg Nat.succ (ioA_inj (io := io) (vs := vs) (a := a) tail (by simpa [qOf] using h1) (by simpa [qOf] using h2))
/-- the frame at a def's entry -/
theorem fi_start {io : List Bool} {vs : List V} {ds : List PyData} {N : List Str} (dm : Dom M H) (ar : ArgsT G M H io vs ds) (nd : (ioA io vs).Nodup) (hN : io.length ≤ N.length) :
    FI G ⟨M, H, qOf io vs⟩ (startT io ds ++ List.replicate (N.length - io.length) none) (L2.start N vs) H := by
  obtain ⟨l1, l2⟩ := args_len ar
  have lt := startT_len l2
  have nop : ∀ (i : Nat) x, (startT io ds ++ List.replicate (N.length - io.length) none)[i]? = some (some x) → (startT io ds)[i]? = some (some x) ∧ i < io.length := fun i x e => by
    by_cases hi : i < (startT io ds).length
    · rw [List.getElem?_append_left hi] at e
      exact ⟨e, by omega⟩
    · rw [List.getElem?_append_right (by omega), List.getElem?_replicate] at e
      split at e <;> cases e
  have sat : ∀ (i : Nat) v, i < io.length → vs[i]? = some v → (L2.start N vs)[i]? = some (some v) := fun i v hi e => by
    unfold L2.start
    rw [List.getElem?_append_left (by simp; omega), List.getElem?_map, e]; rfl
  have noown : ∀ b, ownB (startT io ds ++ List.replicate (N.length - io.length) none) (L2.start N vs) b = false := fun b => by
    cases e : ownB (startT io ds ++ List.replicate (N.length - io.length) none) (L2.start N vs) b with
    | false => rfl
    | true =>
      obtain ⟨i, d, h1, _⟩ := ownB_get.mp e
      obtain ⟨h3, _⟩ := nop i _ h1
      rcases args_at i _ ar h3 with ⟨_, _, z, _⟩ | ⟨_, _, z, _⟩ <;> cases z
  have em : msk M (startT io ds ++ List.replicate (N.length - io.length) none) (L2.start N vs) H = mk M H := by
    funext b
    unfold msk mk
    rw [noown b, Bool.or_false]
  refine ⟨⟨fun b ⟨i, q⟩ => ?_⟩, by unfold L2.start; simp [lt, l1], fun b o e _ => e, dm, fun i d e => ?_, fun i d e => ?_, fun i d e => ?_, fun i j d e a hij h1 h2 h3 h4 => ?_⟩
  · have q : qOf io vs i = some b := q
    have hi : i < io.length := by
      unfold qOf at q
      split at q
      · rename_i a e1 e2; exact lt_of_some e1
      · cases q
    have hx : ∃ x, (startT io ds)[i]? = some (some x) := by
      have : i < (startT io ds).length := by omega
      have hg := List.getElem?_eq_getElem this
      cases hc : (startT io ds)[i] with
      | some x => exact ⟨x, by rw [hg, hc]⟩
      | none =>
        exfalso
        have : ∀ {io : List Bool} {ds : List PyData} {i : Nat}, (startT io ds)[i]? ≠ some none := by
          intro io
          induction io with
          | nil => intro ds i; simp [startT]
          | cons b io ih =>
            intro ds i
            cases ds with
            | nil => cases b <;> simp [startT]
            | cons d ds => cases b <;> cases i <;> simp [startT, ih]
        exact this (by rw [hg, hc])
    obtain ⟨x, hx⟩ := hx
    rcases args_at i x ar hx with ⟨d, v, _, e1, e2, _⟩ | ⟨d, a, _, e1, e2, e3, _⟩
    · simp [qOf, e1] at q
    · simp [qOf, e1, e2] at q
      subst q; exact e3
  · obtain ⟨h1, h2⟩ := nop i _ e
    rcases args_at i _ ar h1 with ⟨d', v, z, e1, e2, e3⟩ | ⟨d', a, z, _⟩
    · cases z; exact ⟨v, sat i v h2 e2, by show Rp G (msk M _ _ H) v d; rw [em]; exact e3⟩
    · cases z
  · obtain ⟨h1, h2⟩ := nop i _ e
    rcases args_at i _ ar h1 with ⟨d', v, z, e1, e2, e3⟩ | ⟨d', a, z, _⟩ <;> cases z
  · obtain ⟨h1, h2⟩ := nop i _ e
    rcases args_at i _ ar h1 with ⟨d', v, z, e1, e2, e3⟩ | ⟨d', a, z, e1, e2, e3, e4⟩
    · cases z
    · cases z
      exact ⟨a, sat i _ h2 e2, by simp [qOf, e1, e2], by show Ob G (msk M _ _ H) H a d; rw [em]; exact e4⟩
  · have key : ∀ (i : Nat) d, ((startT io ds ++ List.replicate (N.length - io.length) none)[i]? = some (some (.p d)) ∨ (startT io ds ++ List.replicate (N.length - io.length) none)[i]? = some (some (.q d))) → (L2.start N vs)[i]? = some (some (.ref a)) → qOf io vs i = some a := fun i d h h' => by
      rcases h with h | h
      · obtain ⟨h1, h2⟩ := nop i _ h
        rcases args_at i _ ar h1 with ⟨d', v, z, _⟩ | ⟨d', a, z, _⟩ <;> cases z
      · obtain ⟨h1, h2⟩ := nop i _ h
        rcases args_at i _ ar h1 with ⟨d', v, z, _⟩ | ⟨d', a', z, e1, e2, _⟩
        · cases z
        · rw [sat i _ h2 e2] at h'; cases h'
          simp [qOf, e1, e2]
    exact hij (ioA_inj nd (key i d h1 h3) (key j e h2 h4))
/-- what the in-out parameters hold at the end -/
theorem end_back {Hm : Hp} : ∀ {io : List Bool} {vs : List V} {τ : Tau} {qs : List PyData}, vs.length = io.length → (∀ i : Nat, io[i]? = some true → ∃ a, vs[i]? = some (V.ref a)) → endT io τ = some qs →
    (∀ (i : Nat) d a, τ[i]? = some (some (SV.q d)) → qOf io vs i = some a → Ob G Hm H a d) → Paired (fun a d => Ob G Hm H a d) (ioA io vs) qs
  | [], [], τ, qs, _, _, h, _ => by
    simp [endT] at h; subst h
    exact .nil
  | [], _ :: _, _, _, hl, _, _, _ => by simp at hl
  | _ :: _, [], _, _, hl, _, _, _ => by simp at hl
  | true :: io, v :: vs, [], qs, _, _, h, _ => by simp [endT] at h
  | false :: io, v :: vs, [], qs, _, _, h, _ => by simp [endT] at h
  | true :: io, v :: vs, t :: τ, qs, hl, hr, h, k => by
    obtain ⟨a, ha⟩ := hr 0 rfl
    simp at ha; subst ha
    rcases t with _ | (d | d | d) <;> simp [endT] at h
    obtain ⟨qs', h, rfl⟩ := h
    exact .cons (k 0 d a rfl rfl) (end_back (by simpa using hl) (fun i e => by simpa using hr (i + 1) (by simpa using e)) h fun i e b h1 h2 => k (i + 1) e b (by simpa using h1) (by simpa [qOf] using h2))
  | false :: io, v :: vs, t :: τ, qs, hl, hr, h, k => by
    simp only [endT] at h
    have := end_back (io := io) (vs := vs) (τ := τ) (qs := qs) (by simpa using hl) (fun i e => by simpa using hr (i + 1) (by simpa using e)) h fun i e b h1 h2 => k (i + 1) e b (by simpa using h1) (by simpa [qOf] using h2)
    simpa [ioA] using this
theorem args_ref : ∀ {io : List Bool} {vs : List V} {ds : List PyData}, ArgsT G M H io vs ds → ∀ i : Nat, io[i]? = some true → ∃ a, vs[i]? = some (V.ref a)
  | _, _, _, .nil, i, h => by simp at h
  | _, _, _, .io _ _ r, 0, h => ⟨_, rfl⟩
  | _, _, _, .val _ r, 0, h => by simp at h
  | _, _, _, .io _ _ r, i + 1, h => by simpa using args_ref r i (by simpa using h)
  | _, _, _, .val _ r, i + 1, h => by simpa using args_ref r i (by simpa using h)
end
/-- the surroundings of all defs -/
structure MC (P : Program) (w : World) (K : PySem.W.Frag) (mg : Str → Option Value) (base : Heap) (Cn : Str → Option Int) (Φ : Fns) (k : Nat) : Prop where
  blt : ∀ x ∈ bltNames, mg x = none
  cn : ∀ x i, Cn x = some i → ∃ t, mg x = some (.int i t)
  fn : ∀ f fs, Φ f = some fs → ∃ j a, j ≤ k ∧ FnT P w K mg base j a fs ∧ mg f = some (.ref a) ∧ PySem.W.keepIn K (.ref a) = true
theorem FnT.mono {P : Program} {w : World} {K : PySem.W.Frag} {mg : Str → Option Value} {base : Heap} {j k : Nat} {f : Addr} {fs : FS} (F : FnT P w K mg base j f fs) (h : j ≤ k) : FnT P w K mg base k f fs :=
  fun A outer s H us vs Q hr => F A outer s H us vs Q (hr.mono h)
theorem xc_of {P : Program} {w : World} {K : PySem.W.Frag} {mg : Str → Option Value} {base : Heap} {Cn : Str → Option Int} {Φ : Fns} {k : Nat} (mc : MC P w K mg base Cn Φ k) {N : List Str} {qual : Str} {scope : Scope} {f : Addr} {cd : Value} {A : Around} {outer : List Env}
    {s : Shared} {H : Hp} {E : XK} (hN : N.Nodup) (hr : Room k (A.deeper (envOfC qual scope s.heap.objs.size f cd))) (hg : A.guards = some []) : XC (cxOf CX0 P w K mg base N qual scope f cd A outer s H E).nox Φ ⟨N, Cn⟩ where
  B := ⟨rfl, by have := hr.un; show (A.deeper _).units + 200 < cLine; omega, by show (A.deeper _).guards = some []; simpa [Around.deeper] using hg, hN⟩
  n := rfl
  blt := mc.blt
  cn := mc.cn
  fn := fun g gs h => by
    obtain ⟨j, a, hj, F, h1, h2⟩ := mc.fn g gs h
    exact ⟨j, a, F, hr.mono hj, h1, h2⟩
/-- a def of the text: what the small language says of its body is its promise -/
theorem fnT_of {P : Program} {w : World} {K : PySem.W.Frag} {mg : Str → Option Value} {base : Heap} {Cn : Str → Option Int} {Φ : Fns} {k n m : Nat} {x qual : Str} {st : Stmt} {f : Addr} {fd : FuncData} {N ps : List Str} {fs : FS} {body : Ss}
    (mc : MC P w K mg base Cn Φ k) (Fu : Fun K x qual st f fd) (S : FnScope N ps (defScope st)) (hc : chkSs ⟨N, Cn⟩ n (defScope st) (defBody st) body = true)
    (hb : ∀ us : List Value, us.length = ps.length → bindArgs fd ⟨us, []⟩ = pure (ps.zip us)) (hio : fs.io.length = ps.length)
    (hm : ∀ ds r qs, fs.m ds = some (.ok r qs) → runF Φ m fs.fr fs.io N.length body ds = some (.ok r qs)) : FnT P w K mg base (k + 1) f fs := by
  intro A outer s H us vs Q hr hg e0 rv ⟨M, ds, r, qs, dm, ar, nd, hms, kk⟩
  obtain ⟨oc, od, kV, doc, pm, an, cdv, ct, osl, rfl, lk, hcd⟩ := Fu.ex
  obtain ⟨l1, l2⟩ := args_len ar
  have hNl : fs.io.length ≤ N.length := by
    have := congrArg List.length S.pre
    rw [List.length_take] at this
    omega
  refine run_bnd (G := fun xs H2 => xs = vs ∧ H2 = H) lk hcd S hr e0 (fun A' Ex Q' h => ?_) fun s2 H2 xs ⟨ex, eH⟩ hr' => ?_
  · have hl : us.length = ps.length := by rw [← rv.length, l1, hio]
    rw [hb us hl]
    exact wpAny_pure (h s H vs us e0 Un.refl rfl (fun _ _ z => z) rv (by rw [l1, hio]) ⟨rfl, rfl⟩)
  · subst ex eH
    have xc := xc_of (E := E0) (f := f) (qual := qual) (scope := defScope st) (cd := cdv) (outer := outer) (s := s2) (H := H2) mc S.nd hr' hg
    have ps := (sndS ⟨N, Cn⟩ Φ m n).ss _ xc S.kind (fun _ => rfl) PassesOwn.never _ body hc
    refine ⟨_, ps.nox, ?_⟩
    have run := hm ds r qs hms
    unfold runF at run
    rw [if_pos l2] at run
    cases hx : execs Φ m body (startT fs.io ds ++ List.replicate (N.length - fs.io.length) none) with
    | none => rw [hx] at run; cases run
    | some res =>
      rw [hx] at run
      cases res with
      | ex c d => cases run
      | ok out τ' =>
        refine ⟨⟨M, H2, qOf fs.io xs⟩, _, out, τ', fi_start (N := N) dm ar nd hNl, hx, ?_⟩
        have kept : ∀ {Fx : Fr} {σ' : L2.St} {H' : Hp} {τx : Tau}, Fx.H0 = H2 → Fx.Q0 = qOf fs.io xs → FI ⟨P, w, K⟩ Fx τx σ' H' → ∀ b o, H2 b = some o → b ∉ ioA fs.io xs → H' b = some o := fun {Fx σ' H' τx} a1 a2 I b o e n =>
          I.same b o (by rw [a1]; exact e) fun ⟨i, q⟩ => n (ioA_mem.mpr ⟨i, by rw [← a2]; exact q⟩)
        have back : ∀ {Fx : Fr} {σ' : L2.St} {H' : Hp} {τx : Tau} {qs : List PyData}, Fx.Q0 = qOf fs.io xs → FI ⟨P, w, K⟩ Fx τx σ' H' → endT fs.io τx = some qs → BackT ⟨P, w, K⟩ Fx.M H' (ioA fs.io xs) qs := fun {Fx σ' H' τx qs} a2 I e => by
          refine end_back l1 (args_ref ar) e fun i d a h1 h2 => ?_
          obtain ⟨b, h3, h4, h5⟩ := I.q i d h1
          rw [a2, h2] at h4
          cases h4
          refine h5.grow (fun c u q => ?_) fun _ q => q
          unfold msk at q
          unfold TL.mk
          split at q
          · cases q
          · rename_i z
            rw [if_neg fun w => z (by simp [w])]
            exact q
        have low : ∀ {Fx : Fr} {σ' : L2.St} {H' : Hp} {τx : Tau}, Same (msk Fx.M τx σ' H') (TL.mk Fx.M H') := fun {Fx σ' H' τx} c u q => by
          unfold msk at q
          unfold TL.mk
          split at q
          · cases q
          · rename_i z
            rw [if_neg fun w => z (by simp [w])]
            exact q
        cases out with
        | brk => cases run
        | cnt => cases run
        | nx =>
          simp only [endF] at run
          split at run
          · cases run
          · rename_i hf
            simp only [Option.map_eq_some_iff] at run
            obtain ⟨qs', e1, e2⟩ := run
            cases e2
            intro σ' H' p
            refine kk .non H' (kept rfl rfl p.fi) (fun b e => p.fi.dom b e) ?_
            unfold EndT
            rw [if_neg hf]
            exact ⟨.non, back rfl p.fi e1⟩
        | ret b d =>
          simp only [endF] at run
          split at run
          · cases run
          · rename_i hf
            simp only [Option.map_eq_some_iff] at run
            obtain ⟨qs', e1, e2⟩ := run
            cases e2
            intro v σ' H' ro
            unfold RetOK at ro
            by_cases hfr : fs.fr = true
            · have hb : b = true := by cases b <;> simp [hfr] at hf ⊢
              subst hb
              rw [if_pos rfl] at ro
              obtain ⟨a, rfl, h1, h2, I, ob⟩ := ro
              refine kk _ H' (kept rfl rfl I) (fun b e => I.dom b (by simp [Fr.prot]; exact .inl e)) ?_
              unfold EndT
              rw [if_pos hfr]
              refine ⟨a, rfl, h2, ?_, ?_⟩
              · exact ob.grow (low (Fx := Fr.prot ⟨M, H2, qOf fs.io xs⟩ a)) fun _ q => q
              · exact back (Fx := Fr.prot ⟨M, H2, qOf fs.io xs⟩ a) rfl I e1
            · cases b with
              | false =>
                obtain ⟨I, rp⟩ := ro
                refine kk v H' (kept rfl rfl I) (fun b e => I.dom b e) ?_
                unfold EndT
                rw [if_neg hfr]
                exact ⟨rp.mono (low (Fx := ⟨M, H2, qOf fs.io xs⟩)), back rfl I e1⟩
              | true =>
                rw [if_pos rfl] at ro
                obtain ⟨a, rfl, h1, h2, I, ob⟩ := ro
                have I2 : FI ⟨P, w, K⟩ ⟨M, H2, qOf fs.io xs⟩ τ' σ' H' := I.unprot (fi_start (N := N) dm ar nd hNl).ok
                refine kk _ H' (kept rfl rfl I2) (fun b e => I2.dom b e) ?_
                unfold EndT
                rw [if_neg hfr]
                exact ⟨(ob.open (I.protOpen h1)).mono (low (Fx := ⟨M, H2, qOf fs.io xs⟩)), back rfl I2 e1⟩
end TL

set_option Elab.async false
set_option linter.all false
set_option maxRecDepth 100000
set_option maxHeartbeats 4000000
/-! TPa: the law's promise at the head; the defs of one text. -/
namespace TL
open PySem PySem.Spec PyProof.Rows L2
/-! ### functions by name -/
def phiL (l : List (Str × FS)) : Fns := fun x => (l.find? fun p => decide (p.1 = x)).map (·.2)
theorem phiL_mem {l : List (Str × FS)} {x : Str} {fs : FS} (h : phiL l x = some fs) : (x, fs) ∈ l := by
  unfold phiL at h
  simp only [Option.map_eq_some_iff] at h
  obtain ⟨p, h1, rfl⟩ := h
  have e := List.find?_some h1
  simp only [decide_eq_true_eq] at e
  subst e
  exact List.mem_of_find?_eq_some h1
/-- a def of the text stands in the module -/
structure Has (K : PySem.W.Frag) (mg : Str → Option Value) (x : Str) (st : Stmt) : Prop where
  ex : ∃ fa fd, Fun K x x st fa fd ∧ mg x = some (.ref fa) ∧ PySem.W.keepIn K (.ref fa) = true
theorem has_mk {K : PySem.W.Frag} {mg : Str → Option Value} {hp : Heap} {x : Str} {st : Stmt} (KI : K.In hp) (G : hp.Ns mainGlobals mg) {fa : Addr} {oc : Value} {od an : Option Addr} {sl : Array (Option Value)} {kV doc pm cd ct : Value}
    (a : PySem.W.nsIn K mainGlobals x = some (some (.ref fa))) (l : K.lookup fa = some ⟨oc, od, .func (PySem.W.fnOf x x (defArgs st) (defBody st) (defScope st) .none kV doc pm an cd ct), sl⟩) (c : PySem.W.codeIn K cd x = true) (k : PySem.W.keepIn K (.ref fa) = true) : Has K mg x st :=
  ⟨fa, _, fun_mk (st := st) l c k, PySem.W.mg_of KI G a, k⟩
/-- a def keeps its promise, k calls deep -/
def Keeps (P : Program) (w : World) (K : PySem.W.Frag) (mg : Str → Option Value) (base : Heap) (k : Nat) (x : Str) (fs : FS) : Prop :=
  ∃ a, FnT P w K mg base k a fs ∧ mg x = some (.ref a) ∧ PySem.W.keepIn K (.ref a) = true
/-- what is told of the names that are no defs -/
structure Base (mg : Str → Option Value) (Cn : Str → Option Int) : Prop where
  blt : ∀ x ∈ bltNames, mg x = none
  cn : ∀ x i, Cn x = some i → ∃ t, mg x = some (.int i t)
theorem mc_of {P : Program} {w : World} {K : PySem.W.Frag} {mg : Str → Option Value} {base : Heap} {Cn : Str → Option Int} {k : Nat} (B : Base mg Cn) {l : List (Str × FS)} (h : ∀ p ∈ l, Keeps P w K mg base k p.1 p.2) : MC P w K mg base Cn (phiL l) k where
  blt := B.blt
  cn := B.cn
  fn := fun f fs e => by
    obtain ⟨a, h1, h2, h3⟩ := h _ (phiL_mem e)
    exact ⟨k, a, Nat.le_refl _, h1, h2, h3⟩
theorem Keeps.mono {P : Program} {w : World} {K : PySem.W.Frag} {mg : Str → Option Value} {base : Heap} {j k : Nat} {x : Str} {fs : FS} (h : Keeps P w K mg base j x fs) (e : j ≤ k) : Keeps P w K mg base k x fs :=
  let ⟨a, h1, h2, h3⟩ := h; ⟨a, h1.mono e, h2, h3⟩
/-- what a def computes -/
def FU : Nat := 10000000000000000
def fsOf (l : List (Str × FS)) (fr : Bool) (io : List Bool) (N : List Str) (body : Ss) : FS := ⟨io, fr, runF (phiL l) FU fr io N.length body⟩
theorem keeps_of {P : Program} {w : World} {K : PySem.W.Frag} {mg : Str → Option Value} {base : Heap} {Cn : Str → Option Int} {k n : Nat} (B : Base mg Cn) {x : Str} {st : Stmt} {l : List (Str × FS)} {fr : Bool} {io : List Bool} {N ps : List Str} {body : Ss}
    (A : Has K mg x st) (S : FnScope N ps (defScope st)) (hc : chkSs ⟨N, Cn⟩ n (defScope st) (defBody st) body = true) (hio : io.length = ps.length)
    (hb : ∀ (kV doc pm : Value) (an : Option Addr) (cdv ct : Value) (us : List Value), us.length = ps.length → bindArgs (PySem.W.fnOf x x (defArgs st) (defBody st) (defScope st) .none kV doc pm an cdv ct) ⟨us, []⟩ = pure (ps.zip us))
    (hl : ∀ p ∈ l, Keeps P w K mg base k p.1 p.2) : Keeps P w K mg base (k + 1) x (fsOf l fr io N body) := by
  obtain ⟨fa, fd, F, h1, h2⟩ := A.ex
  refine ⟨fa, fnT_of (fs := fsOf l fr io N body) (mc_of B hl) F S hc (fun us hu => ?_) hio fun ds r qs e => e, h1, h2⟩
  obtain ⟨oc, od, kV, doc, pm, an, cdv, ct, osl, rfl, _, _⟩ := F.ex
  exact hb kV doc pm an cdv ct us hu
/-! ### the head -/
theorem rp_ints {G : Gx} {H : Hp} : ∀ ns : List Int, RpA G H (ns.map V.int) (ns.map PyData.int)
  | [] => .nil
  | n :: ns => .cons (.int n) (rp_ints ns)
/-- the law's call, from an abstract heap that tracks the script alone (or nothing) -/
theorem call_in {P : Program} {w : World} {K : PySem.W.Frag} {mg mb : Str → Option Value} {k : Nat} {fa a : Addr} {fs : FS} {s1 : Shared} {vs : List Value} {ns : List Int} {H : Hp}
    (KI : K.In s1.heap) (G : s1.heap.Ns mainGlobals mg) (Gb : s1.heap.Ns builtinsNs mb) (boot : ∀ x : Str, x ≠ "__name__" → mb x = bootBuiltins x) (lim : s1.heap.NoLimit) (gens : s1.gens = #[])
    (ha : s1.heap.get? a = some { cls := .type "list", data := .seq vs.toArray }) (room : Room k callerA)
    (FT : ∀ base : Heap, K.In base → base.Ns mainGlobals mg → FnT P w K mg base k fa fs) (hio : fs.io = [false]) (hfr : fs.fr = false) (hm : fs.m [.list (ns.map .int)] = some (.ok (.bool true) []))
    (hO : Only H) (hS : SqL K H a (ns.map V.int)) (hok : HOk P w H s1.heap) (only : ∀ b, H b ≠ none → b = a) (nk : H a ≠ none → K.lookup a = none) :
    codeAny (model P w) callerA (.call (.ref fa) ⟨[.ref a], []⟩) (fun r s' => r = .ok (.ret (.bool true)) ∧ OldK s1.heap s'.heap ∧ s'.os = s1.os ∧ AllBare s'.gens) s1 := by
  have low : ∀ {b : Addr} {o : Obj}, s1.heap.get? b = some o → H b = none → (hidT s1.heap H).get? b = some o := fun e n => hidT_get e n
  have isA : ∀ {b : Addr}, H b ≠ none → b = a := fun {b} e => only b e
  have noDict : ∀ {b : Addr} {o : Obj} {es : Array DictEntry} {ep : Nat}, s1.heap.get? b = some o → o.data = .dict es ep → H b = none := by
    intro b o es ep e1 e2
    by_cases z : H b = none
    · exact z
    · rw [isA z, ha] at e1
      cases e1
      exact absurd e2 (by intro y; cases y)
  have ns' : ∀ {b : Addr} {m : Str → Option Value}, s1.heap.Ns b m → (hidT s1.heap H).Ns b m := by
    rintro b m ⟨o, es, ep, e1, e2, e3⟩
    exact ⟨o, es, ep, low e1 (noDict e1 e2), e2, e3⟩
  have KI' : K.In (hidT s1.heap H) := by
    intro b o e
    refine low (KI b o e) ?_
    by_cases z : H b = none
    · exact z
    · have := nk (isA z ▸ z)
      rw [isA z, this] at e
      cases e
  have md : Mod K mg (hidT s1.heap H) := by
    obtain ⟨mc, l1, l2⟩ := lim
    exact ⟨KI', ns' G, ⟨mb, ns' Gb, boot⟩, ⟨mc, ns' l1, l2⟩⟩
  have env : Env0 P w K mg (hidT s1.heap H) callerA [] s1 H := by
    refine ⟨rfl, md, fun b o e => of_hidT e, Nat.le_of_eq (hidT_size _ _), trivial, fun b hb => ?_, hok, .of_eq gens⟩
    exact absurd (show b ∈ ([] : List Addr) from hb) (by simp)
  have sq : SqL K (mk (fun _ => false) H) a (ns.map V.int) := hS
  have sp : SpT ⟨P, w, K⟩ fs [.ref a] H (fun v _ => v = .bl true) := by
    refine ⟨fun _ => false, [.list (ns.map .int)], .bool true, [], (fun b e => by cases e), ?_, ?_, hm, fun v H' _ _ en => ?_⟩
    · rw [hio]; exact .val (.lst sq (rp_ints ns)) .nil
    · rw [hio]; exact List.nodup_nil
    · unfold EndT at en
      rw [hfr] at en
      obtain ⟨r, _⟩ := en
      cases r; rfl
  refine codeAny_mono (FT _ KI' (ns' G) callerA [] s1 H [.ref a] [.ref a] _ room rfl env (.cons rfl .nil) sp) fun r s' out => ?_
  rcases r with e | fl
  · exact False.elim out
  · cases fl with
    | ret u =>
      obtain ⟨v, H', os, bare, un, hok', rl, vt⟩ := out
      have vt : v = .bl true := vt
      subst vt
      have ru : u = Value.bool true := rl
      subst ru
      refine ⟨rfl, OldK.of_keep fun b o e => ?_, os, bare⟩
      rcases hO b with z | ⟨ob, xs, z⟩
      · exact un.keep b o e z (fun y => absurd (show b ∈ ([] : List Addr) from y) (by simp)) (by simp)
      · obtain ⟨e1, _⟩ := hok b _ z
        obtain ⟨e2, _⟩ := hok' b _ (un.frzs b ob _ z)
        rw [e] at e1; cases e1
        exact e2
    | next => exact False.elim out
    | brk => exact False.elim out
    | cont => exact False.elim out
theorem call_law {P : Program} {w : World} {K : PySem.W.Frag} {mg mb : Str → Option Value} {k : Nat} {fa a : Addr} {fs : FS} {s1 : Shared} {vs : List Value} {ns : List Int}
    (KI : K.In s1.heap) (G : s1.heap.Ns mainGlobals mg) (Gb : s1.heap.Ns builtinsNs mb) (boot : ∀ x : Str, x ≠ "__name__" → mb x = bootBuiltins x) (lim : s1.heap.NoLimit) (gens : s1.gens = #[])
    (ha : s1.heap.get? a = some { cls := .type "list", data := .seq vs.toArray }) (hi : IntsAre vs ns) (hz : ns.length ≤ sizeLine) (room : Room k callerA)
    (FT : ∀ base : Heap, K.In base → base.Ns mainGlobals mg → FnT P w K mg base k fa fs) (hio : fs.io = [false]) (hfr : fs.fr = false) (hm : fs.m [.list (ns.map .int)] = some (.ok (.bool true) [])) :
    codeAny (model P w) callerA (.call (.ref fa) ⟨[.ref a], []⟩) (fun r s' => r = .ok (.ret (.bool true)) ∧ OldK s1.heap s'.heap ∧ s'.os = s1.os ∧ AllBare s'.gens) s1 := by
  have rv := vals_ints hi
  have hlen := hi.length
  rcases hk : K.lookup a with _ | o
  · let H : Hp := fun b => if b = a then some (.frz { cls := .type "list", data := .seq vs.toArray } (.lst (ns.map V.int))) else none
    have at_ : H a = some (.frz { cls := .type "list", data := .seq vs.toArray } (.lst (ns.map V.int))) := if_pos rfl
    have off : ∀ b, b ≠ a → H b = none := fun b e => if_neg e
    refine call_in (H := H) KI G Gb boot lim gens ha room FT hio hfr hm (fun b => ?_) (.inl (.inr ⟨_, at_⟩)) (fun b u z => ?_) (fun b z => ?_) fun _ => hk
    · by_cases e : b = a
      · subst e; exact .inr ⟨_, _, at_⟩
      · exact .inl (off b e)
    · by_cases e : b = a
      · subst e
        rw [at_] at z; cases z
        exact ⟨ha, by rw [List.length_map]; exact hz, vs, _, rv, ha⟩
      · rw [off b e] at z; cases z
    · by_cases e : b = a
      · exact e
      · exact absurd (off b e) z
  · have e := KI a o hk
    rw [ha] at e
    cases e
    have nn : ∀ b, (fun _ => none : Hp) b = none := fun _ => rfl
    refine call_in (H := fun _ => none) KI G Gb boot lim gens ha room FT hio hfr hm (fun b => .inl rfl) (.inr ⟨_, vs.toArray, _, hk, rfl, rfl, rfl, ?_, by simpa using rv⟩) (fun b u z => ?_) (fun b z => absurd (nn b) z) fun z => absurd (nn a) z
    · rw [List.size_toArray, hlen]; exact hz
    · rw [nn b] at z; cases z
open PySem.W in
/-- the goal that the head leaves -/
theorem walkT {l : OpenLaw} {n k : Nat} {q : Program} {loose : List Str} {XP : (Str → Option Value) → Heap → Prop} {YP : World → Heap → Prop} {d : DefRec} {K : Params → Frag} {fs : FS} (hn : l.most = some n) (hn2 : n ≤ sizeLine) (hdf : d.params.defaults = [])
    (room : Room k callerA) (hY : ∀ (w : World) (h : Heap), YP w h → (K w.params).In h) (hio : fs.io = [false]) (hfr : fs.fr = false)
    (F : ∀ (w : World) (mg : Str → Option Value) (fa : Addr) (h : Heap), (K w.params).In h → h.Ns mainGlobals mg → mg d.name = some (.ref fa) → ∀ base : Heap, (K w.params).In base → base.Ns mainGlobals mg → Keeps l.prog w (K w.params) mg base k d.name fs)
    (hm : ∀ ns : List Int, ns.length ≤ n → fs.m [.list (ns.map .int)] = some (.ok (.bool true) [])) : WalkO q loose XP YP l.row.toRowW d [] (fun f vs => PySem.call f vs) := by
  refine Att.attach_call hn hdf fun w s0 s1 mg mb fa o pm cd doc a vs ns G Y _ _ _ hmg hobj hints hlen hg => ?_
  have KI := hY w _ Y
  refine call_law KI G.T.g G.T.b G.T.builtins G.T.nolimit hg hobj hints (Nat.le_trans hlen hn2) room (fun base k1 k2 => ?_) hio hfr (hm ns hlen)
  obtain ⟨a', h1, h2, _⟩ := F w mg fa _ KI G.T.g hmg base k1 k2
  rw [hmg] at h2
  cases h2
  exact h1
end TL

set_option Elab.async false
set_option linter.all false
set_option maxRecDepth 100000
/-! TPb: running the small language by rewriting. -/
namespace TL
open PySem PySem.W PyProof.Rows L2
/-! ### comprehensions that keep the rest -/
theorem wipeT_lenr : ∀ (own : List Nat) (τ : Tau), (wipeT τ own).length = τ.length
  | [], τ => rfl
  | i :: r, τ => by rw [wipeT, wipeT_lenr r _, List.length_set]
theorem wipeT_off : ∀ (own : List Nat) (τ : Tau) (i : Nat), ¬ i ∈ own → (wipeT τ own)[i]? = τ[i]?
  | [], τ, i, _ => rfl
  | j :: r, τ, i, h => by
    have h1 : j ≠ i := fun e => h (e ▸ List.mem_cons_self)
    rw [wipeT, wipeT_off r _ i fun q => h (List.mem_cons_of_mem _ q), List.getElem?_set_ne h1]
theorem mergeT_of {own : List Nat} {τ τ' : Tau} (h : wipeT τ' own = wipeT τ own) : mergeT own τ τ' = τ := by
  have hl : τ'.length = τ.length := by rw [← wipeT_lenr own τ', h, wipeT_lenr own τ]
  refine List.ext_getElem? fun i => ?_
  unfold mergeT
  rw [List.getElem?_map]
  by_cases hi : i < τ.length
  · rw [List.getElem?_range hi]
    simp only [Option.map_some]
    by_cases c : i ∈ own
    · rw [if_pos (by simpa using c)]
      simp [hi]
    · rw [if_neg (by simpa using c)]
      have := wipeT_off own τ' i c
      rw [h, wipeT_off own τ i c] at this
      simp [List.getD_eq_getElem?_getD, ← this, hi]
  · rw [List.getElem?_eq_none (by simpa using hi), List.getElem?_eq_none (by simpa using hi)]; rfl
/-- each turn gives f of its item, and keeps all else -/
theorem comp_keep {α : Type} {body : Ev (Option PyData)} {tg : T} {own : List Nat} {τ : Tau} {e : α → PyData} (f : α → Option PyData) : ∀ {L : List α} {acc : List PyData} {τ0 : Tau},
    wipeT τ0 own = wipeT τ own → (∀ a ∈ L, ∃ τ1 τ2, bindT tg (e a) (wipeT τ own) = some τ1 ∧ body τ1 = some (.ok (f a) τ2) ∧ wipeT τ2 own = wipeT τ own) →
    ∃ τ', compGo body tg own (L.map e) acc τ0 = some (.ok (acc ++ L.filterMap f) τ') ∧ wipeT τ' own = wipeT τ own
  | [], acc, τ0, h0, _ => ⟨τ0, by simp [compGo, ev_pure], h0⟩
  | a :: L, acc, τ0, h0, h => by
    obtain ⟨τ1, τ2, e1, e2, e3⟩ := h a List.mem_cons_self
    have hL := fun b hb => h b (List.mem_cons_of_mem _ hb)
    cases fa : f a with
    | some y =>
      obtain ⟨τ', q1, q2⟩ := comp_keep f (acc := acc ++ [y]) e3 hL
      refine ⟨τ', ?_, q2⟩
      simp only [List.map_cons, compGo, h0, e1, e2, fa, List.filterMap_cons]
      rw [q1]; simp
    | none =>
      obtain ⟨τ', q1, q2⟩ := comp_keep f (acc := acc) e3 hL
      refine ⟨τ', ?_, q2⟩
      simp only [List.map_cons, compGo, h0, e1, e2, fa, List.filterMap_cons]
      rw [q1]
theorem comp_run {α β : Type} {body : Ev (Option PyData)} {tg : T} {own : List Nat} {τ : Tau} {e : α → PyData} {k : List PyData → β} {L : List α} (f : α → Option PyData)
    (h0 : freeT own τ = true) (h : ∀ a ∈ L, ∃ τ1 τ2, bindT tg (e a) (wipeT τ own) = some τ1 ∧ body τ1 = some (.ok (f a) τ2) ∧ wipeT τ2 own = wipeT τ own) :
    inBlk own (compGo body tg own (L.map e) []) k τ = some (.ok (k (L.filterMap f)) τ) := by
  obtain ⟨τ', q1, q2⟩ := comp_keep f (acc := []) (τ0 := τ) rfl h
  unfold inBlk
  rw [if_pos h0, q1]
  simp only [List.nil_append, mergeT_of q2]
theorem comp_map {α β : Type} {body : Ev (Option PyData)} {tg : T} {own : List Nat} {τ : Tau} {e : α → PyData} {k : List PyData → β} {L : List α} (f : α → PyData)
    (h0 : freeT own τ = true) (h : ∀ a ∈ L, ∃ τ1 τ2, bindT tg (e a) (wipeT τ own) = some τ1 ∧ body τ1 = some (.ok (some (f a)) τ2) ∧ wipeT τ2 own = wipeT τ own) :
    inBlk own (compGo body tg own (L.map e) []) k τ = some (.ok (k (L.map f)) τ) := by
  rw [comp_run (fun a => some (f a)) h0 h, List.filterMap_eq_map' ]
theorem comp_filter {α β : Type} {body : Ev (Option PyData)} {tg : T} {own : List Nat} {τ : Tau} {e : α → PyData} {k : List PyData → β} {L : List α} (p : α → Bool)
    (h0 : freeT own τ = true) (h : ∀ a ∈ L, ∃ τ1 τ2, bindT tg (e a) (wipeT τ own) = some τ1 ∧ body τ1 = some (.ok (if p a then some (e a) else none) τ2) ∧ wipeT τ2 own = wipeT τ own) :
    inBlk own (compGo body tg own (L.map e) []) k τ = some (.ok (k ((L.filter p).map e)) τ) := by
  rw [comp_run (fun a => if p a then some (e a) else none) h0 h]
  congr 3
  induction L with
  | nil => rfl
  | cons a L ih =>
    have ih := ih fun b hb => h b (List.mem_cons_of_mem _ hb)
    by_cases c : p a = true <;> simp [c, ih]
/-- turns that change other slots -/
theorem comp_inv {body : Ev (Option PyData)} {tg : T} {own : List Nat} (I : List PyData → List PyData → Tau → Prop) (n : Nat) : ∀ {ds pre acc : List PyData} {τ : Tau}, pre.length + ds.length = n →
    (∀ pre d acc τ, d ∈ ds → pre.length < n → I pre acc τ → ∃ τ1 τ2 y, bindT tg d (wipeT τ own) = some τ1 ∧ body τ1 = some (.ok (some y) τ2) ∧ I (pre ++ [d]) (acc ++ [y]) τ2) → I pre acc τ →
    ∃ ys τ', compGo body tg own ds acc τ = some (.ok ys τ') ∧ I (pre ++ ds) ys τ'
  | [], pre, acc, τ, _, _, h => ⟨acc, τ, rfl, by simpa using h⟩
  | d :: ds, pre, acc, τ, hn, h, h0 => by
    simp only [List.length_cons] at hn
    obtain ⟨τ1, τ2, y, e1, e2, e3⟩ := h pre d acc τ List.mem_cons_self (by omega) h0
    obtain ⟨ys, τ', q1, q2⟩ := comp_inv I n (ds := ds) (pre := pre ++ [d]) (by simp; omega) (fun pre d acc τ hd => h pre d acc τ (List.mem_cons_of_mem _ hd)) e3
    refine ⟨ys, τ', ?_, by simpa using q2⟩
    simp only [compGo, e1, e2]
    exact q1
/-! ### loops -/
theorem fr_inv {α : Type} {body : Ev Out} {tg : T} {e : α → PyData} (I : List α → Tau → Prop) (n : Nat) : ∀ {L pre : List α} {τ : Tau}, pre.length + L.length = n →
    (∀ pre a τ, a ∈ L → pre.length < n → I pre τ → tgOk tg τ = true ∧ ∃ τ1 τ2, bindT tg (e a) τ = some τ1 ∧ body τ1 = some (.ok .nx τ2) ∧ I (pre ++ [a]) τ2) → I pre τ →
    ∃ τ', frGo body tg (L.map e) τ = some (.ok .nx τ') ∧ I (pre ++ L) τ'
  | [], pre, τ, _, _, h => ⟨τ, rfl, by simpa using h⟩
  | a :: L, pre, τ, hn, h, h0 => by
    simp only [List.length_cons] at hn
    obtain ⟨t, τ1, τ2, e1, e2, e3⟩ := h pre a τ List.mem_cons_self (by omega) h0
    obtain ⟨τ', q1, q2⟩ := fr_inv I n (L := L) (pre := pre ++ [a]) (by simp; omega) (fun pre a τ hd => h pre a τ (List.mem_cons_of_mem _ hd)) e3
    refine ⟨τ', ?_, by simpa using q2⟩
    simp only [List.map_cons, frGo, t, if_true, e1, ev_bind, e2, turnE]
    exact q1
theorem fr_fold {α β : Type} {body : Ev Out} {tg : T} {e : α → PyData} (St : β → Tau → Prop) (up : β → α → β) : ∀ {L : List α} {b : β} {τ : Tau},
    (∀ b a τ, a ∈ L → St b τ → tgOk tg τ = true ∧ ∃ τ1 τ2, bindT tg (e a) τ = some τ1 ∧ body τ1 = some (.ok .nx τ2) ∧ St (up b a) τ2) → St b τ →
    ∃ τ', frGo body tg (L.map e) τ = some (.ok .nx τ') ∧ St (L.foldl up b) τ'
  | [], b, τ, _, h => ⟨τ, rfl, h⟩
  | a :: L, b, τ, h, h0 => by
    obtain ⟨t, τ1, τ2, e1, e2, e3⟩ := h b a τ List.mem_cons_self h0
    obtain ⟨τ', q1, q2⟩ := fr_fold St up (L := L) (fun b a τ hd => h b a τ (List.mem_cons_of_mem _ hd)) e3
    refine ⟨τ', ?_, q2⟩
    simp only [List.map_cons, frGo, t, if_true, e1, ev_bind, e2, turnE]
    exact q1
/-! ### data -/
theorem eqvAll_ints : ∀ a b : List Int, PyData.eqvAll (a.map .int) (b.map .int) = decide (a = b)
  | [], [] => rfl
  | [], _ :: _ => rfl
  | _ :: _, [] => rfl
  | x :: a, y :: b => by
    simp only [List.map_cons, PyData.eqvAll, PyData.eqv, eqvAll_ints a b]
    by_cases h1 : x = y <;> by_cases h2 : a = b <;> simp [h1, h2]
theorem eqv_tupI (a b : List Int) : PyData.eqv (tupI a) (tupI b) = decide (a = b) := eqvAll_ints a b
theorem eqvAll_tups : ∀ a b : List (List Int), PyData.eqvAll (a.map tupI) (b.map tupI) = decide (a = b)
  | [], [] => rfl
  | [], _ :: _ => rfl
  | _ :: _, [] => rfl
  | x :: a, y :: b => by
    simp only [List.map_cons, PyData.eqvAll, eqv_tupI, eqvAll_tups a b]
    by_cases h1 : x = y <;> by_cases h2 : a = b <;> simp [h1, h2]
theorem any_eqv_ints (b : List Int) (x : Int) : ((b.map PyData.int).any fun y => PyData.eqv y (.int x)) = b.contains x := by
  induction b with
  | nil => rfl
  | cons y b ih =>
    simp only [List.map_cons, List.any_cons, ih, List.contains_cons, PyData.eqv]
    congr 1
    exact Bool.beq_comm ..
theorem any_eqv_tups (b : List (List Int)) (x : List Int) : ((b.map tupI).any fun y => PyData.eqv y (tupI x)) = b.contains x := by
  induction b with
  | nil => rfl
  | cons y b ih =>
    simp only [List.map_cons, List.any_cons, ih, List.contains_cons, eqv_tupI]
    congr 1
    by_cases h : y = x
    · subst h; simp
    · simp [h, Ne.symm h]
theorem shaped_int (i : Int) : SeqAt.shaped (.int i) = true := rfl
theorem depth_tupI (k : List Int) : (tupI k).depth ≤ 64 := (shaped_tupI k).2
theorem canLay_ints : ∀ l : List Int, PyData.canLayAll0 (l.map .int) = true
  | [] => rfl
  | x :: l => by simp [PyData.canLayAll0, PyData.canLay0]; simpa using canLay_ints l
theorem shaped_listI (k : List Int) : SeqAt.shaped (.list (k.map .int)) = true := by
  have h2 : (PyData.list (k.map .int)).depth ≤ 64 := by
    simp only [PyData.depth, depth_ints]
    omega
  simp [SeqAt.shaped, h2]; simpa [PyData.canLay0] using canLay_ints k
theorem canLay_tups : ∀ l : List (List Int), PyData.canLayAll0 (l.map tupI) = true
  | [] => rfl
  | x :: l => by
    simp only [List.map_cons, PyData.canLayAll0, Bool.and_eq_true]
    exact ⟨canLay_ints x, canLay_tups l⟩
theorem depth_tups : ∀ l : List (List Int), PyData.depthAll (l.map tupI) ≤ 1
  | [] => by simp [PyData.depthAll]
  | x :: l => by
    have ih := depth_tups l
    simp only [List.map_cons, PyData.depthAll, tupI, PyData.depth, depth_ints]
    omega
def tupT (F : List (List Int)) : PyData := .tuple (F.map tupI)
theorem shaped_tupT (F : List (List Int)) : SeqAt.shaped (tupT F) = true := by
  have h2 : (tupT F).depth ≤ 64 := by
    have := depth_tups F
    simp only [tupT, PyData.depth]
    omega
  simp [SeqAt.shaped, h2]; simpa [tupT, PyData.canLay0] using canLay_tups F
theorem shaped_listT (F : List (List Int)) : SeqAt.shaped (.list (F.map tupI)) = true := by
  have h2 : (PyData.list (F.map tupI)).depth ≤ 64 := by
    have := depth_tups F
    simp only [PyData.depth]
    omega
  simp [SeqAt.shaped, h2]; simpa [PyData.canLay0] using canLay_tups F
theorem eqv_tupT (F G : List (List Int)) : PyData.eqv (tupT F) (tupT G) = decide (F = G) := eqvAll_tups F G
theorem sortable_ints (k : List Int) : sortable (k.map .int) = true := by
  unfold sortable
  rw [shaped_listI, Bool.and_true, Bool.and_eq_true]
  constructor
  · simp [allAlike, alike]
  · simp [noNone]
theorem sortable_tups (F : List (List Int)) : sortable (F.map tupI) = true := by
  unfold sortable
  rw [shaped_listT, Bool.and_true, Bool.and_eq_true]
  constructor
  · simp [allAlike, alike_tupI]
  · simp [noNone, tupI]
theorem insL_map {α β : Type} {le : α → α → Bool} {le' : β → β → Bool} {e : α → β} (h : ∀ a b, le' (e a) (e b) = le a b) (a : α) : ∀ l : List α, insL le' (e a) (l.map e) = (insL le a l).map e
  | [] => rfl
  | b :: l => by
    simp only [List.map_cons, insL, h, insL_map h a l]
    cases le a b <;> rfl
theorem sortL_map {α β : Type} {le : α → α → Bool} {le' : β → β → Bool} {e : α → β} (h : ∀ a b, le' (e a) (e b) = le a b) : ∀ l : List α, sortL le' (l.map e) = (sortL le l).map e
  | [] => rfl
  | a :: l => by simp only [List.map_cons, sortL, sortL_map h l, insL_map h]
theorem dataLe_int (a b : Int) : dataLe false id (.int a) (.int b) = decide (a ≤ b) := by
  show (!dataLt (.int b) (.int a)) = _
  rw [dataLt_int]
  by_cases h : b < a
  · have : ¬ a ≤ b := by omega
    simp [h, this]
  · have : a ≤ b := by omega
    simp [h, this]
def leZ (a b : Int) : Bool := decide (a ≤ b)
theorem sortD_ints (k : List Int) : sortD (k.map .int) = (sortL leZ k).map .int := sortL_map dataLe_int k
end TL

set_option Elab.async false
set_option linter.all false
set_option maxRecDepth 100000
/-! TPc: running the small language by rewriting, step by step. -/
namespace TL
open PySem PySem.W PyProof.Rows L2
section
variable {α β : Type} {Φ : Fns} {n i j : Nat} {τ τ' : Tau} {a : α} {m m' : Ev α} {k : α → Ev β} {d e f : PyData} {ds es : List PyData}
abbrev K2 {γ : Type} (_ : γ) (t : Type) : Type := t
/-- its kind speaks of k, so that simp leaves k alone -/
def bnd (x : Option (R α)) (k : α → Ev β) : K2 k (Option (R β)) := match x with
  | some (.ok a τ') => k a τ'
  | some (.ex c d) => some (.ex c d)
  | none => none
theorem r_bind : (m >>= k) τ = bnd (m τ) k := rfl
theorem r_ok : bnd (some (.ok a τ)) k = k a τ := rfl
theorem r_no : bnd (none : Option (R α)) k = none := rfl
theorem r_pure : (pure a : Ev α) τ = some (.ok a τ) := rfl
theorem r_pure' : (Ev.pure a : Ev α) τ = some (.ok a τ) := rfl
theorem r_lift : (Ev.lift (some a) : Ev α) τ = some (.ok a τ) := rfl
theorem r_cT : condE true m m' τ = m τ := rfl
theorem r_cF : condE false m m' τ = m' τ := rfl
theorem r_when : Ev.when true m τ = m τ := rfl
theorem r_inb {b : Nat} {f : α → β} {own : List Nat} : inBlk own m f τ = inBlk own m f τ := rfl
/-- what is in a slot -/
def nthT : Tau → Nat → Option (Option SV)
  | [], _ => none
  | x :: _, 0 => some x
  | _ :: l, n + 1 => nthT l n
theorem nthT_get : ∀ (τ : Tau) (i : Nat), τ[i]? = nthT τ i
  | [], _ => rfl
  | _ :: _, 0 => rfl
  | _ :: l, n + 1 => by rw [List.getElem?_cons_succ, nthT_get l n]; rfl
def putN : Tau → Nat → Option SV → Tau
  | [], _, _ => []
  | _ :: l, 0, v => v :: l
  | x :: l, n + 1, v => x :: putN l n v
theorem putN_set : ∀ (τ : Tau) (i : Nat) (v : Option SV), τ.set i v = putN τ i v
  | [], _, _ => rfl
  | _ :: _, 0, _ => rfl
  | x :: l, n + 1, v => by rw [List.set_cons_succ, putN_set l n]; rfl
section
variable {x : Option SV} {l : Tau} {v : Option SV}
theorem n_0 : nthT (x :: l) 0 = some x := rfl
theorem n_s : nthT (x :: l) (n + 1) = nthT l n := rfl
theorem p_0 : putN (x :: l) 0 v = v :: l := rfl
theorem p_s : putN (x :: l) (n + 1) v = x :: putN l n v := rfl
end
def lkV (i : Nat) (τ : Tau) : Option (Option SV) → Option (R Rv)
  | some (some (.r d)) => some (.ok (.v d) τ)
  | some (some (.p _)) => some (.ok (.s i) τ)
  | some (some (.q _)) => some (.ok (.s i) τ)
  | _ => none
theorem lk_r : lkV i τ (some (some (.r d))) = some (.ok (.v d) τ) := rfl
theorem lk_p : lkV i τ (some (some (.p d))) = some (.ok (.s i) τ) := rfl
theorem lk_q : lkV i τ (some (some (.q d))) = some (.ok (.s i) τ) := rfl
theorem r_var : ev Φ (.var i) τ = lkV i τ (nthT τ i) := by
  rw [← nthT_get]; simp only [ev]; all_goals (generalize τ[i]? = z; rcases z with _ | _ | d | d | d <;> rfl)
theorem r_con : ev Φ (.con d) τ = some (.ok (.v d) τ) := rfl
theorem r_glb {x : Str} : ev Φ (.glb x d) τ = some (.ok (.v d) τ) := rfl
theorem r_ev {x : E} : ev Φ x τ = ev Φ x τ := rfl
variable {a b c lo hi elt : E} {o o1 o2 : Op2} {xs : As} {own : List Nat} {tg : T} {it : I} {hc hl hh bb : Bool} {fn : Str} {bf : Bf}
theorem r_neg : ev Φ (.neg a) τ = bnd (ev Φ a τ) fun x => intV x >>= fun i => pure (.v (.int (-i))) := rfl
theorem r_not : ev Φ (.not a) τ = bnd (ev Φ a τ) fun x => isB x >>= fun b => pure (.v (.bool (!b))) := rfl
theorem r_op : ev Φ (.op o a b) τ = bnd (ev Φ a τ) fun x => ev Φ b >>= fun y => deref x >>= fun d => deref y >>= fun e => Ev.lift (sem2 o d e) >>= fun r => pure (.v r) := rfl
theorem r_chn : ev Φ (.chn o1 o2 a b c) τ = bnd (ev Φ a τ) fun x => val x >>= fun d => ev Φ b >>= fun y => val y >>= fun e => Ev.lift (sem2 o1 d e) >>= fun r => isB (.v r) >>= fun t =>
      condE t (ev Φ c >>= fun z => val z >>= fun f => Ev.lift (sem2 o2 e f) >>= fun r => isB (.v r) >>= fun u => pure (.v (.bool u))) (pure (.v (.bool false))) := rfl
theorem r_and : ev Φ (.and a b) τ = bnd (ev Φ a τ) fun x => isB x >>= fun t => condE t (ev Φ b >>= fun y => isB y >>= fun u => pure (.v (.bool u))) (pure (.v (.bool false))) := rfl
theorem r_or : ev Φ (.or a b) τ = bnd (ev Φ a τ) fun x => isB x >>= fun t => condE t (pure (.v (.bool true))) (ev Φ b >>= fun y => isB y >>= fun u => pure (.v (.bool u))) := rfl
theorem r_ite : ev Φ (.ite c a b) τ = bnd (ev Φ c τ) fun x => isB x >>= fun t => condE t (ev Φ a) (ev Φ b) := rfl
theorem r_tup : ev Φ (.tup xs) τ = bnd (evA Φ xs τ) fun ds => Ev.when (few ds.length) (pure (.v (.tuple ds))) := rfl
theorem r_lst : ev Φ (.lst xs) τ = bnd (evA Φ xs τ) fun ds => Ev.when (few ds.length) (pure (.f (.list ds))) := rfl
theorem r_slc : ev Φ (.slc a hl lo hh hi) τ = bnd (ev Φ a τ) fun x => condE hl (someE (ev Φ lo)) (pure none) >>= fun l => condE hh (someE (ev Φ hi)) (pure none) >>= fun h =>
      deref x >>= fun d => Ev.lift (semSl d l h) >>= fun r => pure (.v r) := rfl
theorem r_some {m : Ev Rv} : someE m τ = bnd (m τ) fun y => intV y >>= fun i => pure (some i) := rfl
theorem r_call : ev Φ (.call fn xs) τ = bnd (evC Φ xs τ) fun rvs => callO rvs (Φ fn) := rfl
theorem r_blt : ev Φ (.blt bf xs) τ = bnd (evC Φ xs τ) fun rvs => derefs rvs >>= fun ds => Ev.lift (semB bf ds) >>= fun r => pure (if frB bf then .f r else .v r) := rfl
theorem r_pop : ev Φ (.pop i) τ = bnd (deref (.s i) τ) fun d => popE i d := rfl
theorem r_cmp : ev Φ (.cmp own tg it hc c elt) τ = bnd (evI Φ it τ) fun ds => inBlk own (compGo
      (condE hc (ev Φ c >>= fun x => isB x) (pure true) >>= fun t => condE t (ev Φ elt >>= fun y => val y >>= fun d => pure (some d)) (pure none)) tg own ds []) fun ys => .f (.list ys) := rfl
theorem r_dcm {kk vv : E} : ev Φ (.dcm own tg it hc c kk vv) τ = bnd (evI Φ it τ) fun ds => inBlk own (dcompGo
      (condE hc (ev Φ c >>= fun x => isB x) (pure true) >>= fun t =>
        condE t (ev Φ kk >>= fun y => val y >>= fun kd => ev Φ vv >>= fun z => val z >>= fun vd => pure (some (kd, vd))) (pure none)) tg own ds []) fun ys => .f (.dict ys) := rfl
theorem r_dic : ev Φ .dic τ = some (.ok (.f (.dict [])) τ) := rfl
theorem r_an : evA Φ .nil τ = some (.ok [] τ) := rfl
theorem r_ac {st : Bool} : evA Φ (.cons st a xs) τ = bnd (ev Φ a τ) fun x => condE st (deref x >>= fun d => seqV d) (val x >>= fun d => pure [d]) >>= fun ds => evA Φ xs >>= fun es => pure (ds ++ es) := rfl
theorem r_cn : evC Φ .nil τ = some (.ok [] τ) := rfl
theorem r_cc {st : Bool} : evC Φ (.cons st a xs) τ = bnd (ev Φ a τ) fun x => evC Φ xs >>= fun es => pure (x :: es) := rfl
theorem r_iex : evI Φ (.ex a) τ = bnd (ev Φ a τ) fun x => val x >>= fun d => seqV d := rfl
theorem r_ir1 : evI Φ (.rng1 a) τ = bnd (ev Φ a τ) fun x => intV x >>= fun n => Ev.when (rngI n) (pure (upI 0 n.toNat)) := rfl
theorem r_ir2 : evI Φ (.rng2 a b) τ = bnd (ev Φ a τ) fun x => intV x >>= fun m => ev Φ b >>= fun y => intV y >>= fun n =>
      Ev.when (rngI m && rngI n) (pure (upI m (n - m).toNat)) := rfl
theorem r_izp : evI Φ (.zip a b) τ = bnd (ev Φ a τ) fun x => val x >>= fun d => ev Φ b >>= fun y => val y >>= fun e => Ev.lift (zipD d e) >>= fun p =>
      pure (p.1.zipWith (fun p q => .tuple [p, q]) p.2) := rfl
/-! values -/
theorem v_v : val (.v d) τ = some (.ok d τ) := rfl
theorem v_f : val (.f d) τ = some (.ok d τ) := rfl
theorem v_fv : valF (.f d) τ = some (.ok d τ) := rfl
theorem v_nv : valN false (.v d) τ = some (.ok d τ) := rfl
theorem v_nf : valN bb (.f d) τ = some (.ok d τ) := rfl
theorem d_v : deref (.v d) τ = some (.ok d τ) := rfl
theorem d_f : deref (.f d) τ = some (.ok d τ) := rfl
def lkD (τ : Tau) : Option (Option SV) → Option (R PyData)
  | some (some (.p d)) => some (.ok d τ)
  | some (some (.q d)) => some (.ok d τ)
  | _ => none
theorem d_s : deref (.s i) τ = lkD τ (nthT τ i) := by
  rw [← nthT_get]; simp only [deref]; all_goals (generalize τ[i]? = z; rcases z with _ | _ | d | d | d <;> rfl)
theorem ld_p : lkD τ (some (some (.p d))) = some (.ok d τ) := rfl
theorem ld_q : lkD τ (some (some (.q d))) = some (.ok d τ) := rfl
theorem dd_n : derefs [] τ = some (.ok [] τ) := rfl
theorem dd_c {x : Rv} {r : List Rv} : derefs (x :: r) τ = bnd (deref x τ) fun d => derefs r >>= fun ds => pure (d :: ds) := rfl
theorem b_v {t : Bool} : isB (.v (.bool t)) τ = some (.ok t τ) := rfl
theorem i_v {z : Int} : intV (.v (.int z)) τ = some (.ok z τ) := rfl
theorem s_l : seqV (.list ds) τ = some (.ok ds τ) := rfl
theorem s_t : seqV (.tuple ds) τ = some (.ok ds τ) := rfl
theorem z_l : zipD (.list ds) (.list es) = some (ds, es) := rfl
theorem z_t : zipD (.tuple ds) (.tuple es) = some (ds, es) := rfl
/-! slots -/
def ptS (i : Nat) (d : PyData) (τ : Tau) : Option (Option SV) → Option (R Unit)
  | some (some (.p _)) => some (.ok () (putN τ i (some (.p d))))
  | some (some (.q _)) => some (.ok () (putN τ i (some (.q d))))
  | _ => none
theorem t_s : putS i d τ = ptS i d τ (nthT τ i) := by
  rw [← nthT_get]; unfold putS ptS; simp only [← putN_set]; all_goals (generalize τ[i]? = z; rcases z with _ | _ | d | d | d <;> rfl)
theorem ts_p : ptS i d τ (some (some (.p e))) = some (.ok () (putN τ i (some (.p d)))) := rfl
theorem ts_q : ptS i d τ (some (some (.q e))) = some (.ok () (putN τ i (some (.q d)))) := rfl
def ptR (i : Nat) (v : SV) (τ : Tau) : Option (Option SV) → Option (R Unit)
  | some (some (.q _)) => none
  | some _ => some (.ok () (putN τ i (some v)))
  | none => none
theorem t_r : putR i d τ = ptR i (.r d) τ (nthT τ i) := by
  rw [← nthT_get]; unfold putR ptR; simp only [← putN_set]; all_goals (generalize τ[i]? = z; rcases z with _ | _ | d | d | d <;> rfl)
theorem t_p (h : isObjD d = true) : putP i d τ = ptR i (.p d) τ (nthT τ i) := by
  rw [← nthT_get]; unfold putP ptR; simp only [h, if_true, ← putN_set]; all_goals (generalize τ[i]? = z; rcases z with _ | _ | d | d | d <;> rfl)
theorem t_pl : putP i (.list ds) τ = ptR i (.p (.list ds)) τ (nthT τ i) := t_p rfl
theorem t_pd {kvs : List (PyData × PyData)} : putP i (.dict kvs) τ = ptR i (.p (.dict kvs)) τ (nthT τ i) := t_p rfl
theorem tr_n {v : SV} : ptR i v τ (some none) = some (.ok () (putN τ i (some v))) := rfl
theorem tr_r {v : SV} : ptR i v τ (some (some (.r d))) = some (.ok () (putN τ i (some v))) := rfl
theorem tr_p {v : SV} : ptR i v τ (some (some (.p d))) = some (.ok () (putN τ i (some v))) := rfl
theorem pb_t : putB true i d τ = putP i d τ := rfl
theorem pb_f : putB false i d τ = putR i d τ := rfl
/-! calls -/
theorem c_o {rvs : List Rv} {fs : FS} : callO rvs (some fs) τ = callF fs rvs τ := rfl
theorem c_f {rvs : List Rv} {fs : FS} : callF fs rvs τ = (match slotsOf fs.io rvs with
  | some is => Ev.when (decide is.Nodup) (derefs rvs >>= fun ds => callE fs.fr fs.io rvs is (fs.m ds))
  | none => Ev.fail) τ := rfl
theorem c_e {fr : Bool} {io : List Bool} {rvs : List Rv} {is : List Nat} {qs : List PyData} : callE fr io rvs is (some (.ok d qs)) τ = Ev.when (!lent io rvs) (putAll is qs >>= fun _ => pure (if fr then .f d else .v d)) τ := rfl
theorem pa_n : putAll [] [] τ = some (.ok () τ) := rfl
theorem pa_c {is : List Nat} : putAll (i :: is) (d :: ds) τ = bnd (putS i d τ) fun _ => putAll is ds := rfl
/-! statements -/
variable {s : S} {r ssa ssb : Ss} {x : E}
theorem e_nil : execs Φ n .nil τ = some (.ok .nx τ) := rfl
theorem e_cons : execs Φ n (.cons s r) τ = bnd (exec Φ n s τ) (seqE (execs Φ n r)) := rfl
theorem q_nx {m : Ev Out} : seqE m .nx τ = m τ := rfl
theorem q_ret {m : Ev Out} : seqE m (.ret bb d) τ = some (.ok (.ret bb d) τ) := rfl
theorem e_asg : exec Φ n (.asg i x) τ = bnd (ev Φ x τ) fun y => val y >>= fun d => putR i d >>= fun _ => pure .nx := rfl
theorem e_own : exec Φ n (.own i x) τ = bnd (ev Φ x τ) fun y => valN true y >>= fun d => putP i d >>= fun _ => pure .nx := rfl
theorem e_unp {is : List Nat} : exec Φ n (.unp is x) τ = bnd (ev Φ x τ) fun y => val y >>= fun d => unpE is d := rfl
theorem e_par {b1 b2 : Bool} {i1 i2 : Nat} {e1 e2 : E} : exec Φ n (.par b1 i1 e1 b2 i2 e2) τ = Ev.when (decide (i1 ≠ i2)) (ev Φ e1 >>= fun x => valN b1 x >>= fun d => ev Φ e2 >>= fun y => valN b2 y >>= fun e => putB b2 i2 e >>= fun _ => putB b1 i1 d >>= fun _ => pure .nx) τ := rfl
theorem e_sidx {kk vv : E} : exec Φ n (.sidx i kk vv) τ = bnd (ev Φ vv τ) fun x => val x >>= fun dv => slotAt i >>= fun _ => ev Φ kk >>= fun y => val y >>= fun dk => deref (.s i) >>= fun d => sidxE i dv d dk := rfl
theorem e_app : exec Φ n (.app i x) τ = bnd (lstAt i τ) fun _ => ev Φ x >>= fun x => val x >>= fun y => deref (.s i) >>= fun d => appE i y d := rfl
theorem e_ext : exec Φ n (.ext i x) τ = bnd (lstAt i τ) fun _ => ev Φ x >>= fun x => valF x >>= fun y => deref (.s i) >>= fun d => extE i d y := rfl
theorem e_upd : exec Φ n (.upd i x) τ = bnd (dctAt i τ) fun _ => ev Φ x >>= fun x => val x >>= fun y => deref (.s i) >>= fun d => updE i d y := rfl
theorem e_exp : exec Φ n (.exp x) τ = bnd (ev Φ x τ) fun _ => pure .nx := rfl
theorem e_ifs : exec Φ n (.ifs x ssa ssb) τ = bnd (ev Φ x τ) fun x => isB x >>= fun t => condE t (execs Φ n ssa) (execs Φ n ssb) := rfl
theorem e_fr : exec Φ n (.fr tg it ssa) τ = bnd (evI Φ it τ) fun ds => frGo (execs Φ n ssa) tg ds := rfl
theorem e_wh : exec Φ n (.wh x ssa) τ = whGo (ev Φ x >>= fun x => isB x) (execs Φ n ssa) n τ := rfl
theorem e_ret : exec Φ n (.ret x) τ = bnd (ev Φ x (relAll τ)) retE := rfl
theorem e_rv : retE (.v d) τ = some (.ok (.ret false d) τ) := rfl
theorem e_rf : retE (.f d) τ = some (.ok (.ret true d) τ) := rfl
def lkP (i : Nat) (τ : Tau) : Option (Option SV) → Option (R Out)
  | some (some (.p d)) => some (.ok (.ret true d) (putN τ i none))
  | _ => none
theorem e_rp : exec Φ n (.retP i) τ = lkP i τ (nthT τ i) := by
  show retPE i τ = _
  rw [← nthT_get]; unfold retPE lkP; simp only [← putN_set]; all_goals (generalize τ[i]? = z; rcases z with _ | _ | d | d | d <;> rfl)
theorem lp_p : lkP i τ (some (some (.p d))) = some (.ok (.ret true d) (putN τ i none)) := rfl
def lkL (τ : Tau) : Option (Option SV) → Option (R Unit)
  | some (some (.p (.list _))) => some (.ok () τ)
  | some (some (.q (.list _))) => some (.ok () τ)
  | _ => none
theorem e_la : lstAt i τ = lkL τ (nthT τ i) := by
  rw [← nthT_get]; unfold lstAt lkL; all_goals (generalize τ[i]? = z; rcases z with _ | _ | d | d | d <;> first | rfl | (cases d <;> rfl))
theorem la_p : lkL τ (some (some (.p (.list ds)))) = some (.ok () τ) := rfl
theorem la_q : lkL τ (some (some (.q (.list ds)))) = some (.ok () τ) := rfl
def lkC (τ : Tau) : Option (Option SV) → Option (R Unit)
  | some (some (.p (.dict _))) => some (.ok () τ)
  | some (some (.q (.dict _))) => some (.ok () τ)
  | _ => none
theorem e_da : dctAt i τ = lkC τ (nthT τ i) := by
  rw [← nthT_get]; unfold dctAt lkC; all_goals (generalize τ[i]? = z; rcases z with _ | _ | d | d | d <;> first | rfl | (cases d <;> rfl))
theorem da_p {kvs : List (PyData × PyData)} : lkC τ (some (some (.p (.dict kvs)))) = some (.ok () τ) := rfl
def lkA (τ : Tau) : Option (Option SV) → Option (R Unit)
  | some (some (.p _)) => some (.ok () τ)
  | some (some (.q _)) => some (.ok () τ)
  | _ => none
theorem e_sa : slotAt i τ = lkA τ (nthT τ i) := by
  rw [← nthT_get]; unfold slotAt lkA; all_goals (generalize τ[i]? = z; rcases z with _ | _ | d | d | d <;> first | rfl | (cases d <;> rfl))
theorem sa_p : lkA τ (some (some (.p d))) = some (.ok () τ) := rfl
theorem sa_q : lkA τ (some (some (.q d))) = some (.ok () τ) := rfl
theorem a_l : appE i d (.list ds) τ = Ev.when (few (ds.length + 1)) (putS i (.list (ds ++ [d])) >>= fun _ => pure .nx) τ := rfl
theorem x_l : extE i (.list ds) (.list es) τ = Ev.when (few (ds.length + es.length)) (putS i (.list (ds ++ es)) >>= fun _ => pure .nx) τ := rfl
theorem ra_n : relAll [] = [] := rfl
theorem ra_0 {l : Tau} : relAll (none :: l) = none :: relAll l := rfl
theorem ra_p {l : Tau} : relAll (some (.p d) :: l) = some (.r d) :: relAll l := rfl
theorem ra_r {l : Tau} : relAll (some (.r d) :: l) = some (.r d) :: relAll l := rfl
theorem ra_q {l : Tau} : relAll (some (.q d) :: l) = some (.q d) :: relAll l := rfl
theorem st_q {io : List Bool} : startT (true :: io) (d :: ds) = some (.q d) :: startT io ds := rfl
theorem st_r {io : List Bool} : startT (false :: io) (d :: ds) = some (.r d) :: startT io ds := rfl
theorem st_n : startT [] ds = [] := by cases ds <;> rfl
theorem bt_nm {τ : Tau} : bindT (.nm i) d τ = some (putN τ i (some (.r d))) := by rw [← putN_set]; rfl
theorem w_n : wipeT τ [] = τ := rfl
theorem w_c : wipeT τ (i :: own) = wipeT (putN τ i none) own := by rw [← putN_set]; rfl
theorem f_nx {io : List Bool} : endF false io (some (.ok .nx τ)) = (endT io τ).map (.ok .none) := rfl
theorem f_rt {fr b : Bool} {io : List Bool} : endF fr io (some (.ok (.ret b d) τ)) = if fr && !b then none else (endT io τ).map (.ok d) := rfl
theorem et_q {io : List Bool} {l : Tau} : endT (true :: io) (some (.q d) :: l) = (endT io l).map (d :: ·) := rfl
theorem et_r {io : List Bool} {l : Tau} {x : Option SV} : endT (false :: io) (x :: l) = endT io l := rfl
theorem et_n : endT [] τ = some [] := by cases τ <;> rfl
end
/-! calls of defs -/
section
variable {α : Type} {τ : Tau} {i : Nat} {is : List Nat} {x : Rv} {r rvs : List Rv} {io : List Bool} {d : PyData} {fs : FS}
theorem sl_n : slotsOf [] [] = some [] := rfl
theorem sl_f : slotsOf (false :: io) (x :: r) = slotsOf io r := rfl
theorem sl_t : slotsOf (true :: io) (.s i :: r) = (slotsOf io r).map (i :: ·) := rfl
theorem le_n : lent [] [] = false := rfl
theorem le_v : lent (false :: io) (.v d :: r) = lent io r := rfl
theorem le_f : lent (false :: io) (.f d :: r) = lent io r := rfl
theorem le_s : lent (false :: io) (.s i :: r) = true := rfl
theorem le_t : lent (true :: io) (x :: r) = lent io r := rfl
theorem nd_0 : decide ([] : List Nat).Nodup = true := rfl
theorem nd_1 : decide [i].Nodup = true := by simp
def cfS (fs : FS) (rvs : List Rv) : Option (List Nat) → Ev Rv
  | some is => Ev.when (decide is.Nodup) (derefs rvs >>= fun ds => callE fs.fr fs.io rvs is (fs.m ds))
  | none => Ev.fail
theorem c_c : callF fs rvs τ = cfS fs rvs (slotsOf fs.io rvs) τ := by unfold callF cfS; rfl
theorem c_s : cfS fs rvs (some is) τ = Ev.when (decide is.Nodup) (derefs rvs >>= fun ds => callE fs.fr fs.io rvs is (fs.m ds)) τ := rfl
end
theorem runF_eq {Φ : Fns} {n k : Nat} {fr : Bool} {io : List Bool} {body : Ss} {ds : List PyData} {τ : Tau} (h : ds.length = io.length) (e : startT io ds ++ List.replicate (k - io.length) none = τ) : runF Φ n fr io k body ds = endF fr io (execs Φ n body τ) := by
  unfold runF
  rw [if_pos h, e]
theorem fsOf_m {l : List (Str × FS)} {fr : Bool} {io : List Bool} {N : List Str} {body : Ss} {ds : List PyData} {τ : Tau} (h : ds.length = io.length) (e : startT io ds ++ List.replicate (N.length - io.length) none = τ) : (fsOf l fr io N body).m ds = endF fr io (execs (phiL l) FU body τ) :=
  runF_eq h e
/-! operations -/
section
variable {a b : Int} {d e : PyData} {ds es : List PyData} {s t : Str}
theorem o_add : sem2 .add (.int a) (.int b) = some (.int (a + b)) := rfl
theorem o_addl : sem2 .add (.list ds) (.list es) = if few (ds.length + es.length) then some (.list (ds ++ es)) else none := rfl
theorem o_addt : sem2 .add (.tuple ds) (.tuple es) = if few (ds.length + es.length) then some (.tuple (ds ++ es)) else none := rfl
theorem o_sub : sem2 .sub (.int a) (.int b) = some (.int (a - b)) := rfl
theorem o_mul : sem2 .mul (.int a) (.int b) = if smallI a || smallI b then some (.int (a * b)) else none := rfl
theorem o_fdiv : sem2 .fdiv (.int a) (.int b) = if decide (0 < b) && decide (b.natAbs.log2 < 9000) then some (.int (a / b)) else none := rfl
theorem o_mod : sem2 .mod (.int a) (.int b) = if decide (0 < b) then some (.int (a % b)) else none := rfl
theorem o_lt : sem2 .lt (.int a) (.int b) = some (.bool (decide (a < b))) := rfl
theorem o_le : sem2 .le (.int a) (.int b) = some (.bool (decide (a ≤ b))) := rfl
theorem o_gt : sem2 .gt (.int a) (.int b) = some (.bool (decide (b < a))) := rfl
theorem o_ge : sem2 .ge (.int a) (.int b) = some (.bool (decide (b ≤ a))) := rfl
theorem o_eqi : sem2 .eq (.int a) (.int b) = some (.bool (decide (a = b))) := by
  simp [sem2, SeqAt.shaped, PyData.canLay0, PyData.depth, PyData.eqv]; by_cases h : a = b <;> simp [h]
theorem o_nei : sem2 .ne (.int a) (.int b) = some (.bool (!decide (a = b))) := by
  simp [sem2, SeqAt.shaped, PyData.canLay0, PyData.depth, PyData.eqv]; by_cases h : a = b <;> simp [h]
theorem o_nes (h : PyData.strOk s = true) : sem2 .ne (.str s) (.str s) = some (.bool false) := by
  simp [sem2, SeqAt.shaped, PyData.canLay0, PyData.depth, PyData.eqv, h]
theorem o_isb {x y : Bool} : sem2 .is_ (.bool x) (.bool y) = some (.bool (x == y)) := rfl
theorem o_eq (h1 : SeqAt.shaped d = true) (h2 : SeqAt.shaped e = true) : sem2 .eq d e = some (.bool (PyData.eqv d e)) := by
  unfold sem2; simp [h1, h2]
theorem o_ne (h1 : SeqAt.shaped d = true) (h2 : SeqAt.shaped e = true) : sem2 .ne d e = some (.bool (!PyData.eqv d e)) := by
  unfold sem2; simp [h1, h2]
theorem o_int (F : List Int) : sem2 .in_ (.int a) (tupI F) = some (.bool (F.contains a)) := by
  unfold tupI
  have := (shaped_tupI F).1
  unfold tupI at this
  simp only [sem2, this, shaped_int, Bool.and_true, if_true, any_eqv_ints]
theorem o_nint (F : List Int) : sem2 .notin (.int a) (tupI F) = some (.bool (!F.contains a)) := by
  unfold tupI
  have := (shaped_tupI F).1
  unfold tupI at this
  simp only [sem2, this, shaped_int, Bool.and_true, if_true, any_eqv_ints]
theorem o_nintT (F : List (List Int)) (x : List Int) : sem2 .notin (tupI x) (tupT F) = some (.bool (!F.contains x)) := by
  unfold tupT
  have := shaped_tupT F
  unfold tupT at this
  simp only [sem2, this, (shaped_tupI x).1, Bool.and_true, if_true, any_eqv_tups]
theorem o_eqT (F G : List (List Int)) : sem2 .eq (tupT F) (tupT G) = some (.bool (decide (F = G))) := by
  rw [o_eq (shaped_tupT F) (shaped_tupT G), eqv_tupT]
theorem o_neT (F G : List (List Int)) : sem2 .ne (tupT F) (tupT G) = some (.bool (!decide (F = G))) := by
  rw [o_ne (shaped_tupT F) (shaped_tupT G), eqv_tupT]
theorem o_eqI (F G : List Int) : sem2 .eq (tupI F) (tupI G) = some (.bool (decide (F = G))) := by
  rw [o_eq (shaped_tupI F).1 (shaped_tupI G).1, eqv_tupI]
theorem o_neI (F G : List Int) : sem2 .ne (tupI F) (tupI G) = some (.bool (!decide (F = G))) := by
  rw [o_ne (shaped_tupI F).1 (shaped_tupI G).1, eqv_tupI]
theorem g_all (bs : List Bool) : semB .all [.list (bs.map .bool)] = some (.bool (bs.all id)) := by simp only [semB, bools?_map, Option.map_some]
theorem g_any (bs : List Bool) : semB .any [.list (bs.map .bool)] = some (.bool (bs.any id)) := by simp only [semB, bools?_map, Option.map_some]
theorem g_sum (ns : List Int) : semB .sum [.list (ns.map .int)] = some (.int ns.sum) := by simp only [semB, ints?_map, Option.map_some]
theorem g_lenl : semB .len [.list ds] = some (.int ds.length) := rfl
theorem g_lent : semB .len [.tuple ds] = some (.int ds.length) := rfl
theorem g_tupl : semB .tuple [.list ds] = some (.tuple ds) := rfl
theorem g_tupt : semB .tuple [.tuple ds] = some (.tuple ds) := rfl
theorem g_lisl : semB .list [.list ds] = some (.list ds) := rfl
theorem g_list : semB .list [.tuple ds] = some (.list ds) := rfl
theorem g_int : semB .int [.int a] = some (.int a) := rfl
theorem g_intb {x : Bool} : semB .int [.bool x] = some (.int (if x then 1 else 0)) := rfl
theorem g_abs : semB .abs [.int a] = some (.int (if a < 0 then -a else a)) := rfl
theorem g_max : semB .max2 [.int a, .int b] = some (.int (if b > a then b else a)) := rfl
theorem g_min : semB .min2 [.int a, .int b] = some (.int (if b < a then b else a)) := rfl
theorem g_isT : semB .isTuple [.tuple ds] = some (.bool true) := rfl
theorem g_trg : semB .trg1 [.int a] = if rngI a then some (.tuple (upI 0 a.toNat)) else none := rfl
theorem g_lrg : semB .lrg1 [.int a] = if rngI a then some (.list (upI 0 a.toNat)) else none := rfl
theorem g_sorI (ns : List Int) : semB .sorted [.list (ns.map .int)] = some (.list ((sortL leZ ns).map .int)) := by
  simp only [semB, srcD, Option.bind_some, sortable_ints, if_true, sortD_ints]
theorem g_sorT (F : List (List Int)) : semB .sorted [.list (F.map tupI)] = some (.list ((sortI F).map tupI)) := by
  simp only [semB, srcD, Option.bind_some, sortable_tups, if_true, sortD_I]
theorem g_srs (F : List (List Int)) (h : F.length < 64) : semB .srs [.list (F.map tupI)] = some (.list ((sortI (dedupI F)).map tupI)) := by
  simp only [semB, tis?_map, Option.bind_some, decide_eq_true h, if_true]
end
theorem s_tI {τ : Tau} (k : List Int) : seqV (tupI k) τ = some (.ok (k.map .int) τ) := rfl
theorem s_tT {τ : Tau} (F : List (List Int)) : seqV (tupT F) τ = some (.ok (F.map tupI) τ) := rfl
theorem g_lenI (k : List Int) : semB .len [tupI k] = some (.int k.length) := by simp [tupI, semB]
theorem g_lenT (F : List (List Int)) : semB .len [tupT F] = some (.int F.length) := by simp [tupT, semB]
theorem g_lenL {α : Type} {e : α → PyData} (F : List α) : semB .len [.list (F.map e)] = some (.int F.length) := by simp [semB]
theorem g_isTI (k : List Int) : semB .isTuple [tupI k] = some (.bool true) := rfl
theorem g_isTT (F : List (List Int)) : semB .isTuple [tupT F] = some (.bool true) := rfl
theorem g_tupI (k : List Int) : semB .tuple [.list (k.map .int)] = some (tupI k) := rfl
theorem g_tupT (F : List (List Int)) : semB .tuple [.list (F.map tupI)] = some (tupT F) := rfl
theorem g_allm {α : Type} (f : α → Bool) (L : List α) : semB .all [.list ((L.map f).map .bool)] = some (.bool (L.all f)) := by
  rw [g_all, List.all_map]; rfl
theorem g_anym {α : Type} (f : α → Bool) (L : List α) : semB .any [.list ((L.map f).map .bool)] = some (.bool (L.any f)) := by
  rw [g_any, List.any_map]; rfl
theorem comp_bool {α β : Type} {body : Ev (Option PyData)} {tg : T} {own : List Nat} {τ : Tau} {e : α → PyData} {k : List PyData → β} {L : List α} (f : α → Bool)
    (h0 : freeT own τ = true) (h : ∀ a ∈ L, ∃ τ1 τ2, bindT tg (e a) (wipeT τ own) = some τ1 ∧ body τ1 = some (.ok (some (.bool (f a))) τ2) ∧ wipeT τ2 own = wipeT τ own) :
    inBlk own (compGo body tg own (L.map e) []) k τ = some (.ok (k ((L.map f).map .bool)) τ) := by
  rw [comp_map (fun a => .bool (f a)) h0 h, List.map_map]; rfl
theorem fb_len : frB .len = false := rfl
theorem fb_tuple : frB .tuple = false := rfl
theorem fb_list : frB .list = true := rfl
theorem fb_sorted : frB .sorted = true := rfl
theorem fb_sum : frB .sum = false := rfl
theorem fb_max1 : frB .max1 = false := rfl
theorem fb_min1 : frB .min1 = false := rfl
theorem fb_max2 : frB .max2 = false := rfl
theorem fb_min2 : frB .min2 = false := rfl
theorem fb_all : frB .all = false := rfl
theorem fb_any : frB .any = false := rfl
theorem fb_abs : frB .abs = false := rfl
theorem fb_int : frB .int = false := rfl
theorem fb_repr : frB .repr = false := rfl
theorem fb_isInt : frB .isInt = false := rfl
theorem fb_isBool : frB .isBool = false := rfl
theorem fb_isTuple : frB .isTuple = false := rfl
theorem fb_isStr : frB .isStr = false := rfl
theorem fb_srs : frB .srs = true := rfl
theorem fb_lns : frB .lns = false := rfl
theorem fb_lrg1 : frB .lrg1 = true := rfl
theorem fb_trg1 : frB .trg1 = false := rfl
theorem fb_lrg2 : frB .lrg2 = true := rfl
theorem bt_tp2 {i j : Nat} {d e : PyData} {τ : Tau} : bindT (.tp [i, j]) (.tuple [d, e]) τ = some (putN (putN τ i (some (.r d))) j (some (.r e))) := by
  rw [← putN_set, ← putN_set]; rfl
theorem o_ltT (a b : List Int) : sem2 .lt (tupI a) (tupI b) = some (.bool (decide (a < b))) := by
  have h := alike_tupI a b
  have h1 := (shaped_tupI a).1
  have h2 := (shaped_tupI b).1
  have h3 := dataLt_tupI a b
  unfold tupI at *
  simp only [alike] at h
  simp only [sem2, h, h1, h2, h3, Bool.and_true, if_true]
theorem cutD_from (ds : List PyData) (k : Nat) : cutD ds (some (k : Int)) none = ds.drop k := by
  unfold cutD
  rw [HT.sIx_nat, HT.sIx_none]
  rcases Nat.le_total k ds.length with h | h
  · rw [Nat.min_eq_left h]
    exact List.take_of_length_le (by simp)
  · rw [Nat.min_eq_right h, List.drop_of_length_le (Nat.le_refl _), List.drop_of_length_le h]; simp
theorem cutD_to (ds : List PyData) (k : Nat) : cutD ds none (some (k : Int)) = ds.take k := by
  unfold cutD
  rw [HT.sIx_nat, HT.sIx_none, List.drop_zero, Nat.sub_zero]
  rcases Nat.le_total k ds.length with h | h
  · rw [Nat.min_eq_left h]
  · rw [Nat.min_eq_right h, List.take_of_length_le (Nat.le_refl _), List.take_of_length_le h]
theorem cutD_1 {α : Type} {e : α → PyData} (L : List α) : cutD (L.map e) (some 1) none = (L.drop 1).map e := by
  have := cutD_from (L.map e) 1
  rw [List.map_drop]; exact this
theorem zip_map {α : Type} {e : α → PyData} : ∀ (L M : List α), (L.map e).zipWith (fun p q => PyData.tuple [p, q]) (M.map e) = (L.zip M).map fun p => .tuple [e p.1, e p.2]
  | [], _ => rfl
  | _ :: _, [] => rfl
  | a :: L, b :: M => by simp [zip_map L M]
theorem sc_T {l h : Option Int} (F : List (List Int)) : semSl (tupT F) l h = some (.tuple (cutD (F.map tupI) l h)) := rfl
theorem sc_I {l h : Option Int} (k : List Int) : semSl (tupI k) l h = some (.tuple (cutD (k.map .int) l h)) := rfl
theorem z_T (F : List (List Int)) {es : List PyData} : zipD (tupT F) (.tuple es) = some (F.map tupI, es) := rfl
theorem cE_and {t u : Bool} {m : Ev Rv} {τ : Tau} (h : m τ = some (.ok (.v (.bool u)) τ)) : condE t m (pure (.v (.bool false))) τ = some (.ok (.v (.bool (t && u))) τ) := by
  cases t
  · rfl
  · exact h
theorem cE_or {t u : Bool} {m : Ev Rv} {τ : Tau} (h : m τ = some (.ok (.v (.bool u)) τ)) : condE t (pure (.v (.bool true))) m τ = some (.ok (.v (.bool (t || u))) τ) := by
  cases t
  · exact h
  · rfl
/-- a slot that holds no object -/
def J (x : Option SV) : Prop := x = none ∨ ∃ d, x = some (.r d)
theorem J_n : J none := .inl rfl
theorem J_r {d : PyData} : J (some (.r d)) := .inr ⟨d, rfl⟩
theorem tr_J {i : Nat} {v : SV} {τ : Tau} {x : Option SV} (h : J x) : ptR i v τ (some x) = some (.ok () (putN τ i (some v))) := by
  rcases h with rfl | ⟨d, rfl⟩ <;> rfl
theorem ra_J {x : Option SV} {l : Tau} (h : J x) : relAll (x :: l) = x :: relAll l := by
  rcases h with rfl | ⟨d, rfl⟩ <;> rfl
def nq : Option (Option SV) → Bool
  | some (some (.q _)) => false
  | some _ => true
  | none => false
theorem notQB_eq {τ : Tau} {i : Nat} : notQB τ i = nq (nthT τ i) := by
  unfold notQB nq; rw [nthT_get]; all_goals rfl
theorem tg_nm {τ : Tau} {i : Nat} : tgOk (.nm i) τ = nq (nthT τ i) := notQB_eq
theorem tg_2 {τ : Tau} {i j : Nat} : tgOk (.tp [i, j]) τ = (nq (nthT τ i) && nq (nthT τ j)) := by
  show ([i, j].all fun i => notQB τ i) = _
  simp [notQB_eq]
theorem nq_J {x : Option SV} (h : J x) : nq (some x) = true := by
  rcases h with rfl | ⟨d, rfl⟩ <;> rfl
theorem nq_n : nq (some none) = true := rfl
theorem nq_r {d : PyData} : nq (some (some (.r d))) = true := rfl
theorem nq_p {d : PyData} : nq (some (some (.p d))) = true := rfl
theorem u_2 {τ : Tau} {i j : Nat} {d e : PyData} : unpE [i, j] (.tuple [d, e]) τ = (if nq (nthT τ i) && nq (nthT τ j) then some (.ok .nx (putN (putN τ i (some (.r d))) j (some (.r e)))) else none) := by
  unfold unpE
  rw [tg_2, bt_tp2]
theorem wh_s {c : Ev Bool} {b : Ev Out} {n : Nat} {τ : Tau} : whGo c b (n + 1) τ = bnd (c τ) fun t => condE t (b >>= turnE (whGo c b n)) (pure .nx) := rfl
theorem tn_nx {k : Ev Out} {τ : Tau} : turnE k .nx τ = k τ := rfl
theorem small_nat {n : Nat} (h : n < 18446744073709551616) : smallI (n : Int) = true := by
  unfold smallI
  simp only [Bool.and_eq_true, decide_eq_true_eq]
  omega
theorem o_mulr {a : Int} {n : Nat} (h : n < 18446744073709551616) : sem2 .mul (.int a) (.int n) = some (.int (a * n)) := by
  rw [o_mul, small_nat h, Bool.or_true, if_pos rfl]
theorem o_mull {a : Int} {n : Nat} (h : n < 18446744073709551616) : sem2 .mul (.int n) (.int a) = some (.int (n * a)) := by
  rw [o_mul, small_nat h, Bool.true_or, if_pos rfl]
theorem log2_lt_k {n : Nat} (h : n < 18446744073709551616) : n.log2 < 9000 := by
  by_cases z : n = 0
  · subst z; decide
  · have : n.log2 < 64 := (Nat.log2_lt z).mpr h
    omega
theorem o_fdivn {a b : Nat} (h0 : 0 < b) (h : b < 18446744073709551616) : sem2 .fdiv (.int a) (.int b) = some (.int ((a / b : Nat) : Int)) := by
  have h1 : (0 : Int) < (b : Int) := by omega
  rw [o_fdiv, decide_eq_true h1, Int.natAbs_natCast, decide_eq_true (log2_lt_k h), Bool.and_true, if_pos rfl, Int.natCast_ediv]
theorem o_modn {a b : Nat} (h0 : 0 < b) : sem2 .mod (.int a) (.int b) = some (.int ((a % b : Nat) : Int)) := by
  have h1 : (0 : Int) < (b : Int) := by omega
  rw [o_mod, decide_eq_true h1, if_pos rfl, Int.natCast_emod]
theorem dne {i j : Nat} (h : i ≠ j) : decide (i ≠ j) = true := decide_eq_true h
def nxt (z : Option (R Out)) (Q : Tau → Prop) : Prop := ∃ τ2, z = some (.ok .nx τ2) ∧ Q τ2
theorem nxt_ok {τ : Tau} {Q : Tau → Prop} (h : Q τ) : nxt (some (.ok .nx τ)) Q := ⟨τ, rfl, h⟩
/-- a loop, and what comes behind -/
theorem fr_then {α β : Type} (P : Option (R β) → Prop) {body : Ev Out} {tg : T} {e : α → PyData} {L : List α} {τ : Tau} {k : Out → Ev β} (I : List α → Tau → Prop)
    (h : ∀ pre a τ, a ∈ L → pre.length < L.length → I pre τ → tgOk tg τ = true ∧ ∃ τ1, bindT tg (e a) τ = some τ1 ∧ nxt (body τ1) (I (pre ++ [a]))) (h0 : I [] τ) (hk : ∀ τ', I L τ' → P (k .nx τ')) : P (bnd (frGo body tg (L.map e) τ) k) := by
  obtain ⟨τ', e1, e2⟩ := fr_inv (body := body) (tg := tg) (e := e) I L.length (L := L) (pre := []) (τ := τ) (by simp) (fun pre a τ ha hl hI => by
    obtain ⟨t, τ1, b, τ2, x, q⟩ := h pre a τ ha hl hI
    exact ⟨t, τ1, τ2, b, x, q⟩) h0
  rw [e1, r_ok]
  exact hk τ' (by simpa using e2)
theorem o_muln {a b : Nat} (h : b < 18446744073709551616) : sem2 .mul (.int a) (.int b) = some (.int ((a * b : Nat) : Int)) := by
  rw [o_mulr h, Int.natCast_mul]
theorem o_addn {a b : Nat} : sem2 .add (.int a) (.int b) = some (.int ((a + b : Nat) : Int)) := by
  rw [o_add, Int.natCast_add]
local macro_rules | `(tactic| simp_arith [$ls,*]) => `(tactic| simp (config := { failIfUnchanged := false, decide := false, implicitDefEqProofs := false, dsimp := false }) only [tg_nm, tg_2, nq_n, nq_r, nq_p, u_2, tn_nx, ne_eq, decide_not, Nat.reduceEqDiff, Nat.reduceBEq, decide_false, decide_true, not_false_eq_true, bt_tp2, o_ltT, sc_T, sc_I, z_T, fb_len, fb_tuple, fb_list, fb_sorted, fb_sum, fb_max1, fb_min1, fb_max2, fb_min2, fb_all, fb_any, fb_abs, fb_int, fb_repr, fb_isInt, fb_isBool, fb_isTuple, fb_isStr, fb_srs, fb_lns, fb_lrg1, fb_trg1, fb_lrg2, s_tI, s_tT, g_lenI, g_lenT, g_lenL, g_isTI, g_isTT, g_tupI, g_tupT, g_allm, g_anym, r_bind, r_ok, r_no, r_pure, r_pure, r_lift, r_cT, r_cF, r_when, n_0, n_s, p_0, p_s, lk_r, lk_p, lk_q, r_var, r_con, r_glb, r_neg, r_not, r_op, r_chn, r_and, r_or, r_ite, r_tup, r_lst, r_slc, r_some, r_call, r_blt, r_pop, r_cmp, r_dcm, r_dic, r_an, r_ac, r_cn, r_cc, r_iex, r_ir1, r_ir2, r_izp, v_v, v_f, v_fv, v_nv, v_nf, d_v, d_f, d_s, ld_p, ld_q, dd_n, dd_c, b_v, i_v, s_l, s_t, z_l, z_t, t_s, ts_p, ts_q, t_r, t_pl, t_pd, tr_n, tr_r, tr_p, pb_t, pb_f, c_o, c_e, pa_n, pa_c, e_nil, e_cons, q_nx, q_ret, e_asg, e_own, e_unp, e_par, e_sidx, e_app, e_ext, e_upd, e_exp, e_ifs, e_fr, e_ret, e_rv, e_rf, e_rp, lp_p, e_la, la_p, la_q, e_da, da_p, e_sa, sa_p, sa_q, a_l, x_l, ra_n, ra_0, ra_p, ra_r, ra_q, st_q, st_r, st_n, bt_nm, w_n, w_c, f_nx, f_rt, et_q, et_r, et_n, sl_n, sl_f, sl_t, le_n, le_v, le_f, le_s, le_t, nd_0, nd_1, c_c, c_s, o_add, o_sub, o_lt, o_le, o_gt, o_ge, o_eqi, o_nei, o_isb, o_int, o_nint, o_nintT, o_eqT, o_neT, o_eqI, o_neI, g_sum, g_lenl, g_lent, g_tupt, g_lisl, g_list, g_int, g_intb, g_abs, g_max, g_min, g_isT, g_trg, g_lrg, g_sorI, g_sorT, List.length_cons, List.length_nil, if_true, if_false, Bool.not_true, Bool.not_false, Bool.and_true, Bool.and_false, Bool.true_and, Bool.false_and, Bool.false_eq_true, reduceCtorEq, List.append_nil, List.nil_append, List.cons_append, Option.map_some, $ls,*])
end TL

set_option Elab.async false
set_option linter.all false
set_option maxRecDepth 100000
/-! TPd: dicts whose keys are tuples of ints; more of running by rewriting. -/
namespace TL
local macro_rules | `(tactic| simp_arith [$ls,*]) => `(tactic| simp (config := { failIfUnchanged := false, decide := false, implicitDefEqProofs := false, dsimp := false }) only [tg_nm, tg_2, nq_n, nq_r, nq_p, u_2, tn_nx, ne_eq, decide_not, Nat.reduceEqDiff, Nat.reduceBEq, decide_false, decide_true, not_false_eq_true, bt_tp2, o_ltT, sc_T, sc_I, z_T, fb_len, fb_tuple, fb_list, fb_sorted, fb_sum, fb_max1, fb_min1, fb_max2, fb_min2, fb_all, fb_any, fb_abs, fb_int, fb_repr, fb_isInt, fb_isBool, fb_isTuple, fb_isStr, fb_srs, fb_lns, fb_lrg1, fb_trg1, fb_lrg2, s_tI, s_tT, g_lenI, g_lenT, g_lenL, g_isTI, g_isTT, g_tupI, g_tupT, g_allm, g_anym, r_bind, r_ok, r_no, r_pure, r_pure, r_lift, r_cT, r_cF, r_when, n_0, n_s, p_0, p_s, lk_r, lk_p, lk_q, r_var, r_con, r_glb, r_neg, r_not, r_op, r_chn, r_and, r_or, r_ite, r_tup, r_lst, r_slc, r_some, r_call, r_blt, r_pop, r_cmp, r_dcm, r_dic, r_an, r_ac, r_cn, r_cc, r_iex, r_ir1, r_ir2, r_izp, v_v, v_f, v_fv, v_nv, v_nf, d_v, d_f, d_s, ld_p, ld_q, dd_n, dd_c, b_v, i_v, s_l, s_t, z_l, z_t, t_s, ts_p, ts_q, t_r, t_pl, t_pd, tr_n, tr_r, tr_p, pb_t, pb_f, c_o, c_e, pa_n, pa_c, e_nil, e_cons, q_nx, q_ret, e_asg, e_own, e_unp, e_par, e_sidx, e_app, e_ext, e_upd, e_exp, e_ifs, e_fr, e_ret, e_rv, e_rf, e_rp, lp_p, e_la, la_p, la_q, e_da, da_p, e_sa, sa_p, sa_q, a_l, x_l, ra_n, ra_0, ra_p, ra_r, ra_q, st_q, st_r, st_n, bt_nm, w_n, w_c, f_nx, f_rt, et_q, et_r, et_n, sl_n, sl_f, sl_t, le_n, le_v, le_f, le_s, le_t, nd_0, nd_1, c_c, c_s, o_add, o_sub, o_lt, o_le, o_gt, o_ge, o_eqi, o_nei, o_isb, o_int, o_nint, o_nintT, o_eqT, o_neT, o_eqI, o_neI, g_sum, g_lenl, g_lent, g_tupt, g_lisl, g_list, g_int, g_intb, g_abs, g_max, g_min, g_isT, g_trg, g_lrg, g_sorI, g_sorT, List.length_cons, List.length_nil, if_true, if_false, Bool.not_true, Bool.not_false, Bool.and_true, Bool.and_false, Bool.true_and, Bool.false_and, Bool.false_eq_true, reduceCtorEq, List.append_nil, List.nil_append, List.cons_append, Option.map_some, $ls,*])
open PySem PySem.W PyProof.Rows L2
theorem few_ok {n : Nat} (h : n ≤ 16777216) : few n = true := decide_eq_true h
/-! keys -/
theorem keyNs_ints : ∀ k : List Int, keyNs (k.map .int) = some (k.map NestedKey.num)
  | [] => rfl
  | x :: k => by simp only [List.map_cons, keyNs, keyN, keyNs_ints k]
theorem depth_nums : ∀ k : List Int, NestedKey.depthAll (k.map NestedKey.num) ≤ 2
  | [] => by simp [NestedKey.depthAll]
  | x :: k => by
    have := depth_nums k
    simp only [List.map_cons, NestedKey.depthAll, NestedKey.depth]
    omega
theorem tupK_I (k : List Int) : tupK (tupI k) = true := by
  unfold tupK tupI
  simp only [keyN, keyNs_ints, Option.map_some, Bool.true_and, decide_eq_true_eq, NestedKey.depth]
  have := depth_nums k
  exact decide_eq_true (by omega)
def dKt (K : List (List Int)) : List (PyData × PyData) := K.map fun k => (tupI k, .bool true)
def addK (K : List (List Int)) (k : List Int) : List (List Int) := if k ∈ K then K else K ++ [k]
theorem dKt_tup (K : List (List Int)) : ((dKt K).all fun p => tupK p.1) = true := by
  simp [dKt, tupK_I]
theorem dKt_len (K : List (List Int)) : (dKt K).length = K.length := by simp [dKt]
theorem dKt_any (K : List (List Int)) (k : List Int) : ((dKt K).any fun p => PyData.eqv p.1 (tupI k)) = decide (k ∈ K) := by
  rw [Bool.eq_iff_iff]
  simp [dKt, eqv_tupI]
theorem dput_K (K : List (List Int)) (k : List Int) : dput (dKt K) (tupI k) (.bool true) = dKt (addK K k) := by
  unfold dput
  rw [dKt_any]
  unfold addK
  by_cases h : k ∈ K
  · rw [if_pos (by simpa using h), if_pos h]
    unfold dKt
    rw [List.map_map]
    refine List.map_congr_left fun x hx => ?_
    simp only [Function.comp]
    split <;> rfl
  · rw [if_neg (by simpa using h), if_neg h]
    simp [dKt]
theorem dget_K (K : List (List Int)) (k : List Int) : (dget (dKt K) (tupI k)).isSome = decide (k ∈ K) := by
  unfold dget
  rw [Option.isSome_map, Bool.eq_iff_iff, List.find?_isSome, decide_eq_true_eq]
  constructor
  · rintro ⟨p, hp, e⟩
    obtain ⟨x, hx, rfl⟩ := List.mem_map.mp hp
    simp only [eqv_tupI, decide_eq_true_eq] at e
    exact e ▸ hx
  · intro h
    exact ⟨_, List.mem_map.mpr ⟨k, h, rfl⟩, by simp [eqv_tupI]⟩
theorem kindK_K (K : List (List Int)) (k : List Int) : kindK (dKt K) (tupI k) = true := by
  unfold kindK
  rw [tupK_I, dKt_tup]; simp
theorem o_nind (K : List (List Int)) (k : List Int) : sem2 .notin (tupI k) (.dict (dKt K)) = some (.bool (!decide (k ∈ K))) := by
  simp only [sem2]
  rw [kindK_K, dget_K]; rfl
theorem addK_mem {K : List (List Int)} {k x : List Int} : x ∈ addK K k ↔ x ∈ K ∨ x = k := by
  unfold addK
  split
  · rename_i h
    exact ⟨.inl, fun q => q.elim id fun e => e ▸ h⟩
  · simp
theorem addK_nd {K : List (List Int)} {k : List Int} (h : K.Nodup) : (addK K k).Nodup := by
  unfold addK
  split
  · exact h
  · rename_i q
    refine List.nodup_append.mpr ⟨h, by simp, fun a ha b hb => ?_⟩
    rw [List.mem_singleton.mp hb]
    exact fun e => q (e ▸ ha)
theorem addK_len {K : List (List Int)} {k : List Int} : (addK K k).length ≤ K.length + 1 := by
  unfold addK
  split
  · omega
  · simp
def addsK (K L : List (List Int)) : List (List Int) := L.foldl addK K
theorem addsK_mem : ∀ {L K : List (List Int)} {x : List Int}, x ∈ addsK K L ↔ x ∈ K ∨ x ∈ L
  | [], K, x => by simp [addsK]
  | k :: L, K, x => by
    show x ∈ addsK (addK K k) L ↔ _
    rw [addsK_mem, addK_mem, List.mem_cons]
    constructor
    · rintro ((h | h) | h)
      · exact .inl h
      · exact .inr (.inl h)
      · exact .inr (.inr h)
    · rintro (h | h | h)
      · exact .inl (.inl h)
      · exact .inl (.inr h)
      · exact .inr h
theorem addsK_nd : ∀ {L K : List (List Int)}, K.Nodup → (addsK K L).Nodup
  | [], K, h => h
  | k :: L, K, h => addsK_nd (L := L) (addK_nd h)
theorem addsK_len : ∀ {L K : List (List Int)}, (addsK K L).length ≤ K.length + L.length
  | [], K => by simp [addsK]
  | k :: L, K => by
    have h1 := addsK_len (L := L) (K := addK K k)
    have h2 := addK_len (K := K) (k := k)
    show (addsK (addK K k) L).length ≤ _
    simp only [List.length_cons]
    omega
theorem addsK_nodup : ∀ {L K : List (List Int)}, (K ++ L).Nodup → addsK K L = K ++ L
  | [], K, _ => by simp [addsK]
  | k :: L, K, h => by
    have n : ¬ k ∈ K := fun q => (List.nodup_append.mp h).2.2 k q k List.mem_cons_self rfl
    show addsK (addK K k) L = _
    rw [addK, if_neg n, addsK_nodup (L := L) (by simpa using h)]; simp
theorem dput_all : ∀ (L K : List (List Int)), (dKt L).foldl (fun a p => dput a p.1 p.2) (dKt K) = dKt (addsK K L)
  | [], K => rfl
  | k :: L, K => by
    show (dKt L).foldl _ (dput (dKt K) (tupI k) (.bool true)) = _
    rw [dput_K, dput_all L]; rfl
/-- a dict comprehension whose values are True -/
theorem dcomp_keep {α : Type} {body : Ev (Option (PyData × PyData))} {tg : T} {own : List Nat} {τ : Tau} {e : α → PyData} (kf : α → List Int) : ∀ {L : List α} {K : List (List Int)} {τ0 : Tau},
    K.length + L.length ≤ 16777216 → wipeT τ0 own = wipeT τ own → (∀ a ∈ L, ∃ τ1 τ2, bindT tg (e a) (wipeT τ own) = some τ1 ∧ body τ1 = some (.ok (some (tupI (kf a), .bool true)) τ2) ∧ wipeT τ2 own = wipeT τ own) →
    ∃ τ', dcompGo body tg own (L.map e) (dKt K) τ0 = some (.ok (dKt (addsK K (L.map kf))) τ') ∧ wipeT τ' own = wipeT τ own
  | [], K, τ0, _, h0, _ => ⟨τ0, rfl, h0⟩
  | a :: L, K, τ0, hl, h0, h => by
    obtain ⟨τ1, τ2, e1, e2, e3⟩ := h a List.mem_cons_self
    simp only [List.length_cons] at hl
    have al := addK_len (K := K) (k := kf a)
    obtain ⟨τ', q1, q2⟩ := dcomp_keep kf (L := L) (K := addK K (kf a)) (by omega) e3 fun b hb => h b (List.mem_cons_of_mem _ hb)
    refine ⟨τ', ?_, q2⟩
    have fw : few ((dKt K).length + 1) = true := few_ok (by rw [dKt_len]; omega)
    simp only [List.map_cons, dcompGo, h0, e1, e2, tupK_I, dKt_tup, fw, Bool.and_true, if_true, dput_K]
    exact q1
theorem dcomp_run {α β : Type} {body : Ev (Option (PyData × PyData))} {tg : T} {own : List Nat} {τ : Tau} {e : α → PyData} {k : List (PyData × PyData) → β} {L : List α} (kf : α → List Int)
    (hl : L.length ≤ 16777216) (h0 : freeT own τ = true) (h : ∀ a ∈ L, ∃ τ1 τ2, bindT tg (e a) (wipeT τ own) = some τ1 ∧ body τ1 = some (.ok (some (tupI (kf a), .bool true)) τ2) ∧ wipeT τ2 own = wipeT τ own) :
    inBlk own (dcompGo body tg own (L.map e) []) k τ = some (.ok (k (dKt (addsK [] (L.map kf)))) τ) := by
  obtain ⟨τ', q1, q2⟩ := dcomp_keep kf (K := []) (τ0 := τ) (by simpa using hl) rfl h
  have q1 : dcompGo body tg own (L.map e) [] τ = _ := q1
  unfold inBlk
  rw [if_pos h0, q1]
  simp only [mergeT_of q2]
theorem comp_int {α β : Type} {body : Ev (Option PyData)} {tg : T} {own : List Nat} {τ : Tau} {e : α → PyData} {k : List PyData → β} {L : List α} (f : α → Int)
    (h0 : freeT own τ = true) (h : ∀ a ∈ L, ∃ τ1 τ2, bindT tg (e a) (wipeT τ own) = some τ1 ∧ body τ1 = some (.ok (some (.int (f a))) τ2) ∧ wipeT τ2 own = wipeT τ own) :
    inBlk own (compGo body tg own (L.map e) []) k τ = some (.ok (k ((L.map f).map .int)) τ) := by
  rw [comp_map (fun a => .int (f a)) h0 h, List.map_map]; rfl
theorem comp_tup {α β : Type} {body : Ev (Option PyData)} {tg : T} {own : List Nat} {τ : Tau} {e : α → PyData} {k : List PyData → β} {L : List α} (f : α → List Int)
    (h0 : freeT own τ = true) (h : ∀ a ∈ L, ∃ τ1 τ2, bindT tg (e a) (wipeT τ own) = some τ1 ∧ body τ1 = some (.ok (some (tupI (f a))) τ2) ∧ wipeT τ2 own = wipeT τ own) :
    inBlk own (compGo body tg own (L.map e) []) k τ = some (.ok (k ((L.map f).map tupI)) τ) := by
  rw [comp_map (fun a => tupI (f a)) h0 h, List.map_map]; rfl
theorem o_addl' {ds es : List PyData} (h : ds.length + es.length ≤ 16777216) : sem2 .add (.list ds) (.list es) = some (.list (ds ++ es)) := by
  rw [o_addl, if_pos (few_ok h)]
theorem upI_map (n : Nat) : upI 0 n = (List.range n).map fun (k : Nat) => PyData.int (k : Int) := by
  unfold upI
  simp
theorem rngI_nat {n : Nat} (h : n ≤ 1000000) : rngI (n : Int) = true := by
  unfold rngI
  simp only [Bool.and_eq_true, decide_eq_true_eq]
  omega
theorem cE_intd {p : Prop} [Decidable p] {m m' : Ev Rv} {τ : Tau} {a b : Int} (h1 : m τ = some (.ok (.v (.int a)) τ)) (h2 : m' τ = some (.ok (.v (.int b)) τ)) : condE (decide p) m m' τ = some (.ok (.v (.int (if p then a else b))) τ) := by
  by_cases h : p
  · rw [decide_eq_true h, if_pos h]; exact h1
  · rw [decide_eq_false h, if_neg h]; exact h2
theorem cE_ite {t : Bool} {m m' : Ev Rv} {τ : Tau} {a b : PyData} (h1 : m τ = some (.ok (.v a) τ)) (h2 : m' τ = some (.ok (.v b) τ)) : condE t m m' τ = some (.ok (.v (if t then a else b)) τ) := by
  cases t
  · exact h2
  · exact h1
theorem ite_tup {t : Bool} {a b : List Int} : (if t = true then tupI a else tupI b) = tupI (if t = true then a else b) := by cases t <;> rfl
theorem cE_opt {t : Bool} {m : Ev (Option PyData)} {τ : Tau} {d : PyData} (h1 : m τ = some (.ok (some d) τ)) : condE t m (pure none) τ = some (.ok (if t then some d else none) τ) := by
  cases t
  · rfl
  · exact h1
theorem map_int_snoc (k : List Int) (i : Int) : k.map PyData.int ++ [PyData.int i] = (k ++ [i]).map .int := by simp
theorem dKt_fst (K : List (List Int)) : (dKt K).map (·.1) = K.map tupI := by
  unfold dKt; rw [List.map_map]; rfl
theorem g_sorD (K : List (List Int)) : semB .sorted [.dict (dKt K)] = some (.list ((sortI K).map tupI)) := by
  simp only [semB, srcD, Option.bind_some, dKt_fst, sortable_tups, if_true, sortD_I]
theorem upd_K {i : Nat} {τ : Tau} {K M : List (List Int)} (h1 : K.length + M.length ≤ 16777216) (h2 : apartH (dKt M) = true) : updE i (.dict (dKt K)) (.dict (dKt M)) τ = (putS i (.dict (dKt (addsK K M))) >>= fun _ => pure .nx) τ := by
  show Ev.when _ _ τ = _
  have fw : few ((dKt K).length + (dKt M).length) = true := few_ok (by rw [dKt_len, dKt_len]; exact h1)
  rw [dKt_tup, dKt_tup, fw, h2, Bool.or_true]
  show (putS i (.dict ((dKt M).foldl (fun a p => dput a p.1 p.2) (dKt K))) >>= fun _ => (pure Out.nx : Ev Out)) τ = _
  rw [dput_all]
/-- a comprehension whose turns change other slots, and what comes behind -/
theorem comp_then {β γ : Type} (P : Option (R γ) → Prop) {body : Ev (Option PyData)} {tg : T} {own : List Nat} {τ : Tau} {ds : List PyData} {k : List PyData → β} {k2 : β → Ev γ} (I : List PyData → List PyData → Tau → Prop) (h0 : freeT own τ = true)
    (h : ∀ pre d acc τ, d ∈ ds → pre.length < ds.length → I pre acc τ → ∃ τ1, bindT tg d (wipeT τ own) = some τ1 ∧ ∃ y τ2, body τ1 = some (.ok (some y) τ2) ∧ I (pre ++ [d]) (acc ++ [y]) τ2) (hI : I [] [] τ)
    (hk : ∀ ys τ', I ds ys τ' → P (k2 (k ys) (mergeT own τ τ'))) : P (bnd (inBlk own (compGo body tg own ds []) k τ) k2) := by
  obtain ⟨ys, τ', e1, e2⟩ := comp_inv (body := body) (tg := tg) (own := own) I ds.length (ds := ds) (pre := []) (acc := []) (τ := τ) (by simp) (fun pre d acc τ hd hl hI => by
    obtain ⟨τ1, b, y, τ2, x, q⟩ := h pre d acc τ hd hl hI
    exact ⟨τ1, τ2, y, b, x, q⟩) hI
  unfold inBlk
  rw [if_pos h0, e1]
  exact hk ys τ' (by simpa using e2)
theorem comp_ex {β : Type} {body : Ev (Option PyData)} {tg : T} {own : List Nat} {τ : Tau} {ds : List PyData} {k : List PyData → β} (I : List PyData → List PyData → Tau → Prop) (h0 : freeT own τ = true)
    (h : ∀ pre d acc τ, d ∈ ds → pre.length < ds.length → I pre acc τ → ∃ τ1, bindT tg d (wipeT τ own) = some τ1 ∧ ∃ y τ2, body τ1 = some (.ok (some y) τ2) ∧ I (pre ++ [d]) (acc ++ [y]) τ2) (hI : I [] [] τ) :
    ∃ ys τ', inBlk own (compGo body tg own ds []) k τ = some (.ok (k ys) (mergeT own τ τ')) ∧ I ds ys τ' := by
  obtain ⟨ys, τ', e1, e2⟩ := comp_inv (body := body) (tg := tg) (own := own) I ds.length (ds := ds) (pre := []) (acc := []) (τ := τ) (by simp) (fun pre d acc τ hd hl hI => by
    obtain ⟨τ1, b, y, τ2, x, q⟩ := h pre d acc τ hd hl hI
    exact ⟨τ1, τ2, y, b, x, q⟩) hI
  unfold inBlk
  rw [if_pos h0, e1]
  exact ⟨ys, τ', rfl, by simpa using e2⟩
theorem bnd_assoc {α β γ : Type} {x : Option (R α)} {f : α → Ev β} {k : β → Ev γ} : bnd (bnd x f) k = bnd x (fun a τ => bnd (f a τ) k) := by
  rcases x with _ | ⟨a, τ⟩ | ⟨c, d⟩ <;> rfl
theorem cE_andF {t : Bool} {m : Ev Rv} {τ : Tau} (h : t = true → m τ = some (.ok (.v (.bool false)) τ)) : condE t m (pure (.v (.bool false))) τ = some (.ok (.v (.bool false)) τ) := by
  cases t
  · rfl
  · exact h rfl
theorem dec_cast (a b : Nat) : decide ((a : Int) = (b : Int)) = decide (a = b) := by
  by_cases h : a = b
  · subst h; simp
  · have : ¬ (a : Int) = (b : Int) := by omega
    simp [h, this]
theorem sum_cast {α : Type} (h : α → Nat) (L : List α) : (L.map fun l => ((h l : Nat) : Int)).sum = (((L.map h).sum : Nat) : Int) := by
  induction L with
  | nil => rfl
  | cons a L ih => simp [ih]
end TL

set_option Elab.async false
set_option linter.all false
set_option maxRecDepth 100000
/-! TPe: repr of tuples of tuples of ints. -/
namespace TL
local macro_rules | `(tactic| simp_arith [$ls,*]) => `(tactic| simp (config := { failIfUnchanged := false, decide := false, implicitDefEqProofs := false, dsimp := false }) only [tg_nm, tg_2, nq_n, nq_r, nq_p, u_2, tn_nx, ne_eq, decide_not, Nat.reduceEqDiff, Nat.reduceBEq, decide_false, decide_true, not_false_eq_true, bt_tp2, o_ltT, sc_T, sc_I, z_T, fb_len, fb_tuple, fb_list, fb_sorted, fb_sum, fb_max1, fb_min1, fb_max2, fb_min2, fb_all, fb_any, fb_abs, fb_int, fb_repr, fb_isInt, fb_isBool, fb_isTuple, fb_isStr, fb_srs, fb_lns, fb_lrg1, fb_trg1, fb_lrg2, s_tI, s_tT, g_lenI, g_lenT, g_lenL, g_isTI, g_isTT, g_tupI, g_tupT, g_allm, g_anym, r_bind, r_ok, r_no, r_pure, r_pure, r_lift, r_cT, r_cF, r_when, n_0, n_s, p_0, p_s, lk_r, lk_p, lk_q, r_var, r_con, r_glb, r_neg, r_not, r_op, r_chn, r_and, r_or, r_ite, r_tup, r_lst, r_slc, r_some, r_call, r_blt, r_pop, r_cmp, r_dcm, r_dic, r_an, r_ac, r_cn, r_cc, r_iex, r_ir1, r_ir2, r_izp, v_v, v_f, v_fv, v_nv, v_nf, d_v, d_f, d_s, ld_p, ld_q, dd_n, dd_c, b_v, i_v, s_l, s_t, z_l, z_t, t_s, ts_p, ts_q, t_r, t_pl, t_pd, tr_n, tr_r, tr_p, pb_t, pb_f, c_o, c_e, pa_n, pa_c, e_nil, e_cons, q_nx, q_ret, e_asg, e_own, e_unp, e_par, e_sidx, e_app, e_ext, e_upd, e_exp, e_ifs, e_fr, e_ret, e_rv, e_rf, e_rp, lp_p, e_la, la_p, la_q, e_da, da_p, e_sa, sa_p, sa_q, a_l, x_l, ra_n, ra_0, ra_p, ra_r, ra_q, st_q, st_r, st_n, bt_nm, w_n, w_c, f_nx, f_rt, et_q, et_r, et_n, sl_n, sl_f, sl_t, le_n, le_v, le_f, le_s, le_t, nd_0, nd_1, c_c, c_s, o_add, o_sub, o_lt, o_le, o_gt, o_ge, o_eqi, o_nei, o_isb, o_int, o_nint, o_nintT, o_eqT, o_neT, o_eqI, o_neI, g_sum, g_lenl, g_lent, g_tupt, g_lisl, g_list, g_int, g_intb, g_abs, g_max, g_min, g_isT, g_trg, g_lrg, g_sorI, g_sorT, List.length_cons, List.length_nil, if_true, if_false, Bool.not_true, Bool.not_false, Bool.and_true, Bool.and_false, Bool.true_and, Bool.false_and, Bool.false_eq_true, reduceCtorEq, List.append_nil, List.nil_append, List.cons_append, Option.map_some, $ls,*])
open PySem PySem.W PyProof.Rows L2
def sok (n : Nat) (s : Str) : Prop := PyData.strOk s = true ∧ s.length ≤ n
theorem sok_mono {n m : Nat} {s : Str} (h : sok n s) (e : n ≤ m) : sok m s := ⟨h.1, Nat.le_trans h.2 e⟩
theorem sok_app {n m : Nat} {a b : Str} (h1 : sok n a) (h2 : sok m b) : sok (n + m) (a ++ b) := by
  have e1 : (a ++ b).length = a.length + b.length := by
    show (a.cps ++ b.cps).size = a.cps.size + b.cps.size
    exact Array.size_append
  have e2 : PyData.strOk (a ++ b) = (PyData.strOk a && PyData.strOk b) := by
    show (a.cps ++ b.cps).all _ = (a.cps.all _ && b.cps.all _)
    exact Array.all_append
  exact ⟨by rw [e2, h1.1, h2.1]; rfl, by have := h1.2; have := h2.2; omega⟩
theorem sok_join {n : Nat} : ∀ {ts : List Str}, (∀ t ∈ ts, sok n t) → sok ((n + 2) * ts.length) (Str.join ", " ts)
  | [], _ => ⟨by decide +kernel, Nat.zero_le _⟩
  | [x], h => sok_mono (h x List.mem_cons_self) (by simp)
  | x :: y :: r, h => by
    have h1 := sok_join (ts := y :: r) fun t ht => h t (List.mem_cons_of_mem _ ht)
    have h2 : sok 2 ((", " : String) : Str) := ⟨by decide +kernel, by decide +kernel⟩
    refine sok_mono (sok_app (sok_app (h x List.mem_cons_self) h2) h1) ?_
    simp only [List.length_cons, Nat.mul_add]
    omega
theorem sok_tuple {n : Nat} {ts : List Str} (h : ∀ t ∈ ts, sok n t) : sok ((n + 2) * ts.length + 3) (tupleText ts) := by
  have h1 : sok 1 ((("(" : String) : Str)) := ⟨by decide +kernel, by decide +kernel⟩
  have h2 : sok 2 ((if ts.length == 1 then ",)" else ")" : String) : Str) := by
    cases ts.length == 1
    · exact ⟨by decide +kernel, by decide +kernel⟩
    · exact ⟨by decide +kernel, by decide +kernel⟩
  exact sok_mono (sok_app (sok_app h1 (sok_join h)) h2) (by omega)
theorem shownAll_map : ∀ ds : List PyData, PyData.shownAll ds = ds.map PyData.shown
  | [] => rfl
  | d :: ds => by simp only [PyData.shownAll, List.map_cons, shownAll_map ds]
theorem sok_tup {n : Nat} {ds : List PyData} (h : ∀ d ∈ ds, sok n d.shown) : sok ((n + 2) * ds.length + 3) (PyData.tuple ds).shown := by
  have := sok_tuple (n := n) (ts := ds.map PyData.shown) fun t ht => by
    obtain ⟨d, hd, rfl⟩ := List.mem_map.mp ht
    exact h d hd
  rw [List.length_map] at this
  simp only [PyData.shown, shownAll_map]
  exact this
theorem showableAll_of : ∀ {ds : List PyData}, (∀ d ∈ ds, d.showable = true) → PyData.showableAll ds = true
  | [], _ => rfl
  | d :: ds, h => by
    simp only [PyData.showableAll, Bool.and_eq_true]
    exact ⟨h d List.mem_cons_self, showableAll_of fun e he => h e (List.mem_cons_of_mem _ he)⟩
theorem g_repr {n : Nat} {d : PyData} (h1 : SeqAt.shaped d = true) (h2 : d.showable = true) (h3 : sok n d.shown) (h4 : n ≤ 16777216) : semB .repr [d] = some (.str d.shown) := by
  have h5 : few d.shown.length = true := few_ok (Nat.le_trans h3.2 h4)
  simp only [semB, h1, h2, h5, Bool.and_true, if_true]
theorem repr_b (b : Bool) : semB .repr [.bool b] = some (.str (PyData.bool b).shown) := by
  cases b
  · exact g_repr (n := 5) (by rfl) (by rfl) ⟨by decide +kernel, by decide +kernel⟩ (by omega)
  · exact g_repr (n := 5) (by rfl) (by rfl) ⟨by decide +kernel, by decide +kernel⟩ (by omega)
theorem ne_b (b : Bool) : sem2 .ne (.str (PyData.bool b).shown) (.str (PyData.bool b).shown) = some (.bool false) := by
  cases b
  · exact o_nes (by decide +kernel)
  · exact o_nes (by decide +kernel)
end TL

set_option Elab.async false
set_option linter.all false
set_option maxRecDepth 100000
namespace TL
local macro_rules | `(tactic| simp_arith [$ls,*]) => `(tactic| simp (config := { failIfUnchanged := false, decide := false, implicitDefEqProofs := false, dsimp := false }) only [tg_nm, tg_2, nq_n, nq_r, nq_p, u_2, tn_nx, ne_eq, decide_not, Nat.reduceEqDiff, Nat.reduceBEq, decide_false, decide_true, not_false_eq_true, bt_tp2, o_ltT, sc_T, sc_I, z_T, fb_len, fb_tuple, fb_list, fb_sorted, fb_sum, fb_max1, fb_min1, fb_max2, fb_min2, fb_all, fb_any, fb_abs, fb_int, fb_repr, fb_isInt, fb_isBool, fb_isTuple, fb_isStr, fb_srs, fb_lns, fb_lrg1, fb_trg1, fb_lrg2, s_tI, s_tT, g_lenI, g_lenT, g_lenL, g_isTI, g_isTT, g_tupI, g_tupT, g_allm, g_anym, r_bind, r_ok, r_no, r_pure, r_pure, r_lift, r_cT, r_cF, r_when, n_0, n_s, p_0, p_s, lk_r, lk_p, lk_q, r_var, r_con, r_glb, r_neg, r_not, r_op, r_chn, r_and, r_or, r_ite, r_tup, r_lst, r_slc, r_some, r_call, r_blt, r_pop, r_cmp, r_dcm, r_dic, r_an, r_ac, r_cn, r_cc, r_iex, r_ir1, r_ir2, r_izp, v_v, v_f, v_fv, v_nv, v_nf, d_v, d_f, d_s, ld_p, ld_q, dd_n, dd_c, b_v, i_v, s_l, s_t, z_l, z_t, t_s, ts_p, ts_q, t_r, t_pl, t_pd, tr_n, tr_r, tr_p, pb_t, pb_f, c_o, c_e, pa_n, pa_c, e_nil, e_cons, q_nx, q_ret, e_asg, e_own, e_unp, e_par, e_sidx, e_app, e_ext, e_upd, e_exp, e_ifs, e_fr, e_ret, e_rv, e_rf, e_rp, lp_p, e_la, la_p, la_q, e_da, da_p, e_sa, sa_p, sa_q, a_l, x_l, ra_n, ra_0, ra_p, ra_r, ra_q, st_q, st_r, st_n, bt_nm, w_n, w_c, f_nx, f_rt, et_q, et_r, et_n, sl_n, sl_f, sl_t, le_n, le_v, le_f, le_s, le_t, nd_0, nd_1, c_c, c_s, o_add, o_sub, o_lt, o_le, o_gt, o_ge, o_eqi, o_nei, o_isb, o_int, o_nint, o_nintT, o_eqT, o_neT, o_eqI, o_neI, g_sum, g_lenl, g_lent, g_tupt, g_lisl, g_list, g_int, g_intb, g_abs, g_max, g_min, g_isT, g_trg, g_lrg, g_sorI, g_sorT, List.length_cons, List.length_nil, if_true, if_false, Bool.not_true, Bool.not_false, Bool.and_true, Bool.and_false, Bool.true_and, Bool.false_and, Bool.false_eq_true, reduceCtorEq, List.append_nil, List.nil_append, List.cons_append, Option.map_some, $ls,*])
abbrev Lot := List Int
/-! lots, families -/
def prts : Nat → List Lot
  | 0 => [[]]
  | n + 1 => prts n ++ (prts n).map (· ++ [(n : Int)])
/-- all lots, in a row -/
def U (g : Nat) : List Lot := sortI (prts g)
theorem sortL_sorted {α : Type} {le : α → α → Bool} : ∀ {l : List α}, l.Pairwise (fun a b => le a b = true) → sortL le l = l
  | [], _ => rfl
  | a :: l, h => by
    have h := List.pairwise_cons.mp h
    rw [sortL, sortL_sorted h.2]
    cases l with
    | nil => rfl
    | cons b l => simp only [insL, h.1 b List.mem_cons_self]
theorem insL_perm {α : Type} {le : α → α → Bool} {a : α} : ∀ l : List α, (insL le a l).Perm (a :: l)
  | [] => .refl _
  | b :: l => by
    unfold insL
    cases le a b with
    | true => exact .refl _
    | false => exact ((insL_perm l).cons b).trans (.swap a b l)
theorem sortL_perm {α : Type} {le : α → α → Bool} : ∀ l : List α, (sortL le l).Perm l
  | [] => .refl _
  | a :: l => (insL_perm _).trans ((sortL_perm l).cons a)
theorem sortI_perm' (l : List Lot) : (sortI l).Perm l := sortL_perm l
/-- a family of lots, in their row -/
structure Fm (g : Nat) (L : List Lot) : Prop where
  sub : ∀ l ∈ L, l ∈ U g
  nd : L.Nodup
  row : sortI L = L
def ltB (a b : Lot) : Bool := leI a b && !(a == b)
def pwB {α : Type} (r : α → α → Bool) : List α → Bool
  | [] => true
  | a :: l => l.all (r a) && pwB r l
theorem pwB_iff {α : Type} {r : α → α → Bool} : ∀ {l : List α}, pwB r l = true ↔ l.Pairwise (fun a b => r a b = true)
  | [] => by simp [pwB]
  | a :: l => by simp only [pwB, Bool.and_eq_true, List.all_eq_true, List.pairwise_cons, pwB_iff]
def gs : List Nat := [1, 2, 3, 4, 5, 6]
theorem U_lt (g : Nat) (hg : g ∈ gs) : pwB ltB (U g) = true := by
  have : gs.all (fun g => pwB ltB (U g)) = true := by decide +kernel
  exact List.all_eq_true.mp this g hg
theorem U_nd {g : Nat} (hg : g ∈ gs) : (U g).Nodup := (pwB_iff.mp (U_lt g hg)).imp fun {a b} h e => by subst e; simp [ltB] at h
theorem U_row {g : Nat} (hg : g ∈ gs) : (U g).Pairwise (fun a b => leI a b = true) := (pwB_iff.mp (U_lt g hg)).imp fun {a b} h => by simp only [ltB, Bool.and_eq_true] at h; exact h.1
theorem Fm.mk' {g : Nat} (hg : g ∈ gs) {L : List Lot} (nd : L.Nodup) (sub : ∀ l ∈ L, l ∈ U g) : Fm g (sortI L) ∧ sortI L = (U g).filter (fun l => decide (l ∈ L)) := by
  have e1 : L.Perm ((U g).filter (fun l => decide (l ∈ L))) := by
    refine (List.perm_ext_iff_of_nodup nd ((U_nd hg).filter _)).mpr fun x => ?_
    rw [List.mem_filter]
    simp only [decide_eq_true_eq]
    exact ⟨fun h => ⟨sub x h, h⟩, fun h => h.2⟩
  have e2 : sortI ((U g).filter (fun l => decide (l ∈ L))) = (U g).filter (fun l => decide (l ∈ L)) := sortL_sorted ((U_row hg).filter _)
  have e3 := (sortI_perm e1).trans e2
  refine ⟨⟨fun l h => sub l ((sortI_perm' L).mem_iff.mp h), (sortI_perm' L).nodup_iff.mpr nd, ?_⟩, e3⟩
  exact sortI_perm (sortI_perm' L)
theorem Fm.eq {g : Nat} (hg : g ∈ gs) {L : List Lot} (h : Fm g L) : L = (U g).filter (fun l => decide (l ∈ L)) := h.row.symm.trans (Fm.mk' hg h.nd h.sub).2
theorem Fm.lt {g : Nat} (hg : g ∈ gs) {L : List Lot} (h : Fm g L) : L.Pairwise (fun a b => ltB a b = true) := by
  rw [h.eq hg]
  exact (pwB_iff.mp (U_lt g hg)).filter _
theorem Fm.sub1 {g : Nat} {L : List Lot} (hg : g ∈ gs) (h : Fm g L) (p : Lot → Bool) : Fm g (L.filter p) where
  sub := fun l e => h.sub l (List.mem_filter.mp e).1
  nd := h.nd.filter _
  row := sortL_sorted (((h.lt hg).imp fun {a b} h => by simp only [ltB, Bool.and_eq_true] at h; exact h.1).filter _)
theorem Fm.ext {g : Nat} (hg : g ∈ gs) {L M : List Lot} (h1 : Fm g L) (h2 : Fm g M) (h : ∀ l ∈ U g, l ∈ L ↔ l ∈ M) : L = M := by
  rw [h1.eq hg, h2.eq hg]
  refine List.filter_congr fun l hl => ?_
  simp only [h l hl]
/-! ### shifts -/
/-- i in the place of j -/
def mvl (i j : Int) (l : Lot) : Lot := sortL leZ (l.map fun x => if x = j then i else x)
def upL (i j : Int) (l : Lot) : Bool := l.contains j && !l.contains i
def stp (i j : Int) (F : List Lot) (l : Lot) : Lot := if upL i j l && !F.contains (mvl i j l) then mvl i j l else l
def mvd (i j : Int) (F : List Lot) : List Lot := sortI (F.map (stp i j F))
/-- the lots of a shifted family -/
def shf (i j : Int) (f : Lot → Bool) (l : Lot) : Bool := if upL i j l then f l && f (mvl i j l) else if upL j i l then f l || f (mvl j i l) else f l
def prs (g : Nat) : List (Int × Int) := (List.range g).flatMap fun j => (List.range j).map fun (i : Nat) => ((i : Int), (j : Int))
def sumL (l : Lot) : Int := l.sum
def upOk1 (g : Nat) (i j : Int) (l : Lot) : Bool := (!upL i j l || ((U g).contains (mvl i j l) && (mvl j i (mvl i j l) == l) && upL j i (mvl i j l) && !upL i j (mvl i j l) && decide (sumL (mvl i j l) < sumL l) && ((mvl i j l).length == l.length))) &&
  (!upL j i l || ((U g).contains (mvl j i l) && (mvl i j (mvl j i l) == l) && upL i j (mvl j i l) && !upL i j l && ((mvl j i l).length == l.length)))
/-- what is told of a lot and two guests -/
def upOk (g : Nat) : Bool := (prs g).all fun (p : Int × Int) => (U g).all (upOk1 g p.1 p.2)
theorem upOk_all : gs.all upOk = true := by decide +kernel
def rm (x : Int) (l : Lot) : Lot := l.filter (fun y => !(y == x))
def cov (B A : Lot) : Bool := A.any fun y => B == rm y A
def shOk1 (i j : Int) (A B : Lot) : Bool :=
  if upL i j B then (if upL i j A then cov (mvl i j B) (mvl i j A) else !upL j i A && cov (mvl i j B) A)
  else if upL j i B then (!upL j i A || cov (mvl j i B) (mvl j i A)) else (!upL j i A || cov B (mvl j i A))
def shOk (g : Nat) : Bool := (prs g).all fun (p : Int × Int) => (U g).all fun A => A.all fun x => (U g).contains (rm x A) && shOk1 p.1 p.2 A (rm x A)
theorem shOk_all : gs.all shOk = true := by decide +kernel
def mts (a b : Lot) : Bool := a.any fun x => b.contains x
def alt (i j : Int) (A : Lot) : List (List Lot) := if upL i j A then [[A, mvl i j A]] else if upL j i A then [[A], [mvl j i A]] else [[A]]
def meOk (g : Nat) : Bool := (prs g).all fun (p : Int × Int) => (U g).all fun A => (U g).all fun B => mts A B || (alt p.1 p.2 A).all fun a => (alt p.1 p.2 B).all fun b => a.any fun x => b.any fun y => !mts x y
theorem meOk_all : gs.all meOk = true := by decide +kernel
end TL

set_option Elab.async false
set_option linter.all false
set_option maxRecDepth 100000
namespace TL
local macro_rules | `(tactic| simp_arith [$ls,*]) => `(tactic| simp (config := { failIfUnchanged := false, decide := false, implicitDefEqProofs := false, dsimp := false }) only [tg_nm, tg_2, nq_n, nq_r, nq_p, u_2, tn_nx, ne_eq, decide_not, Nat.reduceEqDiff, Nat.reduceBEq, decide_false, decide_true, not_false_eq_true, bt_tp2, o_ltT, sc_T, sc_I, z_T, fb_len, fb_tuple, fb_list, fb_sorted, fb_sum, fb_max1, fb_min1, fb_max2, fb_min2, fb_all, fb_any, fb_abs, fb_int, fb_repr, fb_isInt, fb_isBool, fb_isTuple, fb_isStr, fb_srs, fb_lns, fb_lrg1, fb_trg1, fb_lrg2, s_tI, s_tT, g_lenI, g_lenT, g_lenL, g_isTI, g_isTT, g_tupI, g_tupT, g_allm, g_anym, r_bind, r_ok, r_no, r_pure, r_pure, r_lift, r_cT, r_cF, r_when, n_0, n_s, p_0, p_s, lk_r, lk_p, lk_q, r_var, r_con, r_glb, r_neg, r_not, r_op, r_chn, r_and, r_or, r_ite, r_tup, r_lst, r_slc, r_some, r_call, r_blt, r_pop, r_cmp, r_dcm, r_dic, r_an, r_ac, r_cn, r_cc, r_iex, r_ir1, r_ir2, r_izp, v_v, v_f, v_fv, v_nv, v_nf, d_v, d_f, d_s, ld_p, ld_q, dd_n, dd_c, b_v, i_v, s_l, s_t, z_l, z_t, t_s, ts_p, ts_q, t_r, t_pl, t_pd, tr_n, tr_r, tr_p, pb_t, pb_f, c_o, c_e, pa_n, pa_c, e_nil, e_cons, q_nx, q_ret, e_asg, e_own, e_unp, e_par, e_sidx, e_app, e_ext, e_upd, e_exp, e_ifs, e_fr, e_ret, e_rv, e_rf, e_rp, lp_p, e_la, la_p, la_q, e_da, da_p, e_sa, sa_p, sa_q, a_l, x_l, ra_n, ra_0, ra_p, ra_r, ra_q, st_q, st_r, st_n, bt_nm, w_n, w_c, f_nx, f_rt, et_q, et_r, et_n, sl_n, sl_f, sl_t, le_n, le_v, le_f, le_s, le_t, nd_0, nd_1, c_c, c_s, o_add, o_sub, o_lt, o_le, o_gt, o_ge, o_eqi, o_nei, o_isb, o_int, o_nint, o_nintT, o_eqT, o_neT, o_eqI, o_neI, g_sum, g_lenl, g_lent, g_tupt, g_lisl, g_list, g_int, g_intb, g_abs, g_max, g_min, g_isT, g_trg, g_lrg, g_sorI, g_sorT, List.length_cons, List.length_nil, if_true, if_false, Bool.not_true, Bool.not_false, Bool.and_true, Bool.and_false, Bool.true_and, Bool.false_and, Bool.false_eq_true, reduceCtorEq, List.append_nil, List.nil_append, List.cons_append, Option.map_some, $ls,*])
theorem upOk_at {g : Nat} (hg : g ∈ gs) {i j : Int} (hp : (i, j) ∈ prs g) {l : Lot} (hl : l ∈ U g) : upOk1 g i j l = true :=
  List.all_eq_true.mp (List.all_eq_true.mp (List.all_eq_true.mp upOk_all g hg) _ hp) l hl
structure UpIs (g : Nat) (i j : Int) (l : Lot) : Prop where
  u : upL i j l = true
  mem : mvl i j l ∈ U g
  back : mvl j i (mvl i j l) = l
  dn : upL j i (mvl i j l) = true
  nu : upL i j (mvl i j l) = false
  lt : sumL (mvl i j l) < sumL l
  len : (mvl i j l).length = l.length
structure DnIs (g : Nat) (i j : Int) (l : Lot) : Prop where
  d : upL j i l = true
  mem : mvl j i l ∈ U g
  back : mvl i j (mvl j i l) = l
  up : upL i j (mvl j i l) = true
  nu : upL i j l = false
  len : (mvl j i l).length = l.length
theorem up_is {g : Nat} (hg : g ∈ gs) {i j : Int} (hp : (i, j) ∈ prs g) {l : Lot} (hl : l ∈ U g) (h : upL i j l = true) : UpIs g i j l := by
  have e := upOk_at hg hp hl
  unfold upOk1 at e
  simp only [h, Bool.not_true, Bool.false_or, Bool.and_eq_true, List.contains_iff_mem, beq_iff_eq, decide_eq_true_eq, Bool.not_eq_true'] at e
  obtain ⟨⟨⟨⟨⟨⟨a, b⟩, c⟩, d⟩, e'⟩, f⟩, _⟩ := e
  exact ⟨h, a, b, c, d, e', f⟩
theorem dn_is {g : Nat} (hg : g ∈ gs) {i j : Int} (hp : (i, j) ∈ prs g) {l : Lot} (hl : l ∈ U g) (h : upL j i l = true) : DnIs g i j l := by
  have e := upOk_at hg hp hl
  unfold upOk1 at e
  simp only [h, Bool.not_true, Bool.false_or, Bool.and_eq_true, List.contains_iff_mem, beq_iff_eq, decide_eq_true_eq, Bool.not_eq_true'] at e
  obtain ⟨_, ⟨⟨⟨a, b⟩, c⟩, d⟩, f⟩ := e
  exact ⟨h, a, b, c, d, f⟩
def fF (F : List Lot) (l : Lot) : Bool := F.contains l
theorem fF_iff {F : List Lot} {l : Lot} : fF F l = true ↔ l ∈ F := List.contains_iff_mem
theorem stp_move {i j : Int} {F : List Lot} {l : Lot} (h : upL i j l = true) (n : ¬ mvl i j l ∈ F) : stp i j F l = mvl i j l := by
  unfold stp
  rw [if_pos]
  simp [h, n]
theorem stp_stay {i j : Int} {F : List Lot} {l : Lot} (h : ¬ (upL i j l = true ∧ ¬ mvl i j l ∈ F)) : stp i j F l = l := by
  unfold stp
  rw [if_neg]
  intro q
  simp only [Bool.and_eq_true, Bool.not_eq_true', List.contains_eq_mem, decide_eq_false_iff_not] at q
  exact h q
theorem nodup_map_on {α β : Type} {s : α → β} : ∀ {L : List α}, L.Nodup → (∀ a ∈ L, ∀ b ∈ L, s a = s b → a = b) → (L.map s).Nodup
  | [], _, _ => List.nodup_nil
  | a :: L, h, q => by
    have h := List.nodup_cons.mp h
    refine List.nodup_cons.mpr ⟨fun z => ?_, nodup_map_on h.2 fun b hb c hc => q b (List.mem_cons_of_mem _ hb) c (List.mem_cons_of_mem _ hc)⟩
    obtain ⟨b, hb, e⟩ := List.mem_map.mp z
    have := q b (List.mem_cons_of_mem _ hb) a List.mem_cons_self e
    subst this
    exact h.1 hb
theorem map_mem {g : Nat} (hg : g ∈ gs) {i j : Int} (hp : (i, j) ∈ prs g) {F : List Lot} (hF : Fm g F) {l : Lot} (hl : l ∈ U g) : l ∈ F.map (stp i j F) ↔ shf i j (fF F) l = true := by
  constructor
  · intro h
    obtain ⟨m, hm, e⟩ := List.mem_map.mp h
    have mU := hF.sub m hm
    by_cases q : upL i j m = true ∧ ¬ mvl i j m ∈ F
    · rw [stp_move q.1 q.2] at e
      have U1 := up_is hg hp mU q.1
      subst e
      unfold shf
      rw [if_neg (by rw [U1.nu]; simp), if_pos U1.dn, U1.back]
      simp [fF_iff.mpr hm]
    · rw [stp_stay q] at e
      subst e
      unfold shf
      by_cases u : upL i j m = true
      · rw [if_pos u]
        have : mvl i j m ∈ F := Classical.byContradiction fun z => q ⟨u, z⟩
        simp [fF_iff.mpr hm, fF_iff.mpr this]
      · rw [if_neg u]
        split <;> simp [fF_iff.mpr hm]
  · intro h
    unfold shf at h
    by_cases u : upL i j l = true
    · rw [if_pos u] at h
      simp only [Bool.and_eq_true, fF_iff] at h
      exact List.mem_map.mpr ⟨l, h.1, stp_stay fun q => q.2 h.2⟩
    · rw [if_neg u] at h
      by_cases d : upL j i l = true
      · rw [if_pos d] at h
        have D := dn_is hg hp hl d
        simp only [Bool.or_eq_true, fF_iff] at h
        by_cases z : l ∈ F
        · exact List.mem_map.mpr ⟨l, z, stp_stay fun q => u q.1⟩
        · have h := h.resolve_left z
          refine List.mem_map.mpr ⟨_, h, ?_⟩
          rw [stp_move D.up (by rw [D.back]; exact z), D.back]
      · rw [if_neg d] at h
        exact List.mem_map.mpr ⟨l, fF_iff.mp h, stp_stay fun q => u q.1⟩
theorem map_nd {g : Nat} (hg : g ∈ gs) {i j : Int} (hp : (i, j) ∈ prs g) {F : List Lot} (hF : Fm g F) : (F.map (stp i j F)).Nodup := by
  refine nodup_map_on hF.nd fun a ha b hb e => ?_
  by_cases q1 : upL i j a = true ∧ ¬ mvl i j a ∈ F
  · rw [stp_move q1.1 q1.2] at e
    by_cases q2 : upL i j b = true ∧ ¬ mvl i j b ∈ F
    · rw [stp_move q2.1 q2.2] at e
      rw [← (up_is hg hp (hF.sub a ha) q1.1).back, e, (up_is hg hp (hF.sub b hb) q2.1).back]
    · rw [stp_stay q2] at e
      exact absurd (e ▸ hb) q1.2
  · rw [stp_stay q1] at e
    by_cases q2 : upL i j b = true ∧ ¬ mvl i j b ∈ F
    · rw [stp_move q2.1 q2.2] at e
      exact absurd (e ▸ ha) q2.2
    · rw [stp_stay q2] at e
      exact e
theorem map_sub {g : Nat} (hg : g ∈ gs) {i j : Int} (hp : (i, j) ∈ prs g) {F : List Lot} (hF : Fm g F) : ∀ l ∈ F.map (stp i j F), l ∈ U g := by
  intro l h
  obtain ⟨m, hm, e⟩ := List.mem_map.mp h
  by_cases q : upL i j m = true ∧ ¬ mvl i j m ∈ F
  · rw [stp_move q.1 q.2] at e
    exact e ▸ (up_is hg hp (hF.sub m hm) q.1).mem
  · rw [stp_stay q] at e
    exact e ▸ hF.sub m hm
theorem mvd_fm {g : Nat} (hg : g ∈ gs) {i j : Int} (hp : (i, j) ∈ prs g) {F : List Lot} (hF : Fm g F) : Fm g (mvd i j F) := (Fm.mk' hg (map_nd hg hp hF) (map_sub hg hp hF)).1
theorem mvd_mem {g : Nat} (hg : g ∈ gs) {i j : Int} (hp : (i, j) ∈ prs g) {F : List Lot} (hF : Fm g F) {l : Lot} (hl : l ∈ U g) : l ∈ mvd i j F ↔ shf i j (fF F) l = true :=
  ((sortI_perm' _).mem_iff).trans (map_mem hg hp hF hl)
/-! sums -/
def tot (F : List Lot) : Int := (F.map sumL).sum
theorem perm_sum {α : Type} {a b : List α} (f : α → Int) (h : a.Perm b) : (a.map f).sum = (b.map f).sum := by
  induction h with
  | nil => rfl
  | cons x _ ih => simp [ih]
  | swap x y l => simp; omega
  | trans _ _ h1 h2 => exact h1.trans h2
theorem map_sum_le {α : Type} {f h : α → Int} : ∀ {L : List α}, (∀ a ∈ L, f a ≤ h a) → (L.map f).sum ≤ (L.map h).sum
  | [], _ => by simp
  | a :: L, q => by
    have h1 := q a List.mem_cons_self
    have h2 := map_sum_le (L := L) fun b hb => q b (List.mem_cons_of_mem _ hb)
    simp; omega
theorem map_sum_lt {α : Type} {f h : α → Int} : ∀ {L : List α}, (∀ a ∈ L, f a ≤ h a) → (∃ a ∈ L, f a < h a) → (L.map f).sum < (L.map h).sum
  | [], _, ⟨_, h, _⟩ => by simp at h
  | a :: L, q, ⟨b, hb, lt⟩ => by
    have h1 := q a List.mem_cons_self
    have h2 := map_sum_le (L := L) fun b hb => q b (List.mem_cons_of_mem _ hb)
    rcases List.mem_cons.mp hb with e | e
    · subst e; simp; omega
    · have := map_sum_lt (L := L) (fun b hb => q b (List.mem_cons_of_mem _ hb)) ⟨b, e, lt⟩
      simp; omega
theorem mvd_tot {g : Nat} (hg : g ∈ gs) {i j : Int} (hp : (i, j) ∈ prs g) {F : List Lot} (hF : Fm g F) : mvd i j F = F ∨ tot (mvd i j F) < tot F := by
  have le : ∀ l ∈ F, sumL (stp i j F l) ≤ sumL l := fun l hl => by
    by_cases q : upL i j l = true ∧ ¬ mvl i j l ∈ F
    · rw [stp_move q.1 q.2]; exact Int.le_of_lt (up_is hg hp (hF.sub l hl) q.1).lt
    · rw [stp_stay q]; exact Int.le_refl _
  by_cases z : ∃ l ∈ F, upL i j l = true ∧ ¬ mvl i j l ∈ F
  · right
    obtain ⟨l, hl, q⟩ := z
    unfold tot mvd
    rw [perm_sum _ (sortI_perm' _), List.map_map]
    refine map_sum_lt le ⟨l, hl, ?_⟩
    show sumL (stp i j F l) < _
    rw [stp_move q.1 q.2]
    exact (up_is hg hp (hF.sub l hl) q.1).lt
  · left
    have : F.map (stp i j F) = F := by
      have : F.map (stp i j F) = F.map id := List.map_congr_left fun l hl => stp_stay fun q => z ⟨l, hl, q⟩
      rw [this, List.map_id]
    unfold mvd
    rw [this, hF.row]
/-! rounds -/
def row1 (j : Nat) (F : List Lot) : List Lot := (List.range j).foldl (fun F (i : Nat) => mvd (i : Int) (j : Int) F) F
def rnd (g : Nat) (F : List Lot) : List Lot := (List.range g).foldl (fun F j => row1 j F) F
def itr (g : Nat) : Nat → List Lot → List Lot
  | 0, F => F
  | n + 1, F => if rnd g F = F then F else itr g n (rnd g F)
theorem prs_mem {g i j : Nat} (h1 : i < j) (h2 : j < g) : ((i : Int), (j : Int)) ∈ prs g :=
  List.mem_flatMap.mpr ⟨j, List.mem_range.mpr h2, List.mem_map.mpr ⟨i, List.mem_range.mpr h1, rfl⟩⟩
/-- what each shift keeps is kept by rounds -/
theorem foldl_keep {α β : Type} {P : β → Prop} {R : β → β → Prop} (rf : ∀ b, R b b) (tr : ∀ a b c, R a b → R b c → R a c) {f : β → α → β} : ∀ {L : List α}, (∀ a ∈ L, ∀ b, P b → P (f b a) ∧ R b (f b a)) → ∀ b, P b → P (L.foldl f b) ∧ R b (L.foldl f b)
  | [], _, b, h => ⟨h, rf b⟩
  | a :: L, q, b, h => by
    have h1 := q a List.mem_cons_self b h
    have h2 := foldl_keep rf tr (L := L) (fun c hc => q c (List.mem_cons_of_mem _ hc)) (f b a) h1.1
    exact ⟨h2.1, tr _ _ _ h1.2 h2.2⟩
theorem row1_keep {g : Nat} {R : List Lot → List Lot → Prop} {P : List Lot → Prop} (rf : ∀ b, R b b) (tr : ∀ a b c, R a b → R b c → R a c) (h : ∀ i j F, (i, j) ∈ prs g → P F → P (mvd i j F) ∧ R F (mvd i j F)) {j : Nat} (hj : j < g) (F : List Lot) (hF : P F) : P (row1 j F) ∧ R F (row1 j F) :=
  foldl_keep rf tr (fun (i : Nat) hi F hF => h (i : Int) (j : Int) F (prs_mem (List.mem_range.mp hi) hj) hF) F hF
theorem rnd_keep {g : Nat} {R : List Lot → List Lot → Prop} {P : List Lot → Prop} (rf : ∀ b, R b b) (tr : ∀ a b c, R a b → R b c → R a c) (h : ∀ i j F, (i, j) ∈ prs g → P F → P (mvd i j F) ∧ R F (mvd i j F)) (F : List Lot) (hF : P F) : P (rnd g F) ∧ R F (rnd g F) :=
  foldl_keep rf tr (fun j hj F hF => row1_keep rf tr h (List.mem_range.mp hj) F hF) F hF
theorem itr_keep {g : Nat} {R : List Lot → List Lot → Prop} {P : List Lot → Prop} (rf : ∀ b, R b b) (tr : ∀ a b c, R a b → R b c → R a c) (h : ∀ i j F, (i, j) ∈ prs g → P F → P (mvd i j F) ∧ R F (mvd i j F)) : ∀ (n : Nat) (F : List Lot), P F → P (itr g n F) ∧ R F (itr g n F)
  | 0, F, hF => ⟨hF, rf F⟩
  | n + 1, F, hF => by
    unfold itr
    split
    · exact ⟨hF, rf F⟩
    · have h1 := rnd_keep rf tr h F hF
      have h2 := itr_keep rf tr h n _ h1.1
      exact ⟨h2.1, tr _ _ _ h1.2 h2.2⟩
theorem rnd_tot {g : Nat} (hg : g ∈ gs) {F : List Lot} (hF : Fm g F) : Fm g (rnd g F) ∧ (rnd g F = F ∨ tot (rnd g F) < tot F) :=
  rnd_keep (R := fun F G => G = F ∨ tot G < tot F) (P := Fm g) (fun _ => .inl rfl) (fun a b c h1 h2 => by
    rcases h1 with rfl | h1
    · exact h2
    · rcases h2 with rfl | h2
      · exact .inr h1
      · exact .inr (by omega)) (fun i j F hp hF => ⟨mvd_fm hg hp hF, mvd_tot hg hp hF⟩) F hF
theorem sum_nonneg : ∀ {L : List Int}, (∀ a ∈ L, 0 ≤ a) → 0 ≤ L.sum
  | [], _ => by simp
  | a :: L, h => by
    have h1 := h a List.mem_cons_self
    have h2 := sum_nonneg (L := L) fun b hb => h b (List.mem_cons_of_mem _ hb)
    simp; omega
def sumOk : Bool := gs.all fun g => (U g).all fun l => decide (0 ≤ sumL l) && decide (sumL l ≤ 15)
theorem sumOk_is : sumOk = true := by decide +kernel
theorem sum_at {g : Nat} (hg : g ∈ gs) {l : Lot} (hl : l ∈ U g) : 0 ≤ sumL l ∧ sumL l ≤ 15 := by
  have := List.all_eq_true.mp (List.all_eq_true.mp sumOk_is g hg) l hl
  simpa using this
theorem tot_nonneg {g : Nat} (hg : g ∈ gs) {F : List Lot} (hF : Fm g F) : 0 ≤ tot F :=
  sum_nonneg fun a ha => by
    obtain ⟨l, hl, rfl⟩ := List.mem_map.mp ha
    exact (sum_at hg (hF.sub l hl)).1
theorem tot_le {g : Nat} (hg : g ∈ gs) {F : List Lot} (hs : ∀ l ∈ F, l ∈ U g) : tot F ≤ 15 * F.length := by
  induction F with
  | nil => simp [tot]
  | cons a F ih =>
    have h1 := (sum_at hg (hs a List.mem_cons_self)).2
    have h2 := ih fun l hl => hs l (List.mem_cons_of_mem _ hl)
    simp only [tot, List.map_cons, List.sum_cons, List.length_cons] at *
    omega
/-! sizes -/
theorem mvd_len {i j : Int} {F : List Lot} : (mvd i j F).length = F.length := by
  unfold mvd
  rw [(sortI_perm' _).length_eq, List.length_map]
theorem stp_len {g : Nat} (hg : g ∈ gs) {i j : Int} (hp : (i, j) ∈ prs g) {F : List Lot} {l : Lot} (hl : l ∈ U g) : (stp i j F l).length = l.length := by
  by_cases q : upL i j l = true ∧ ¬ mvl i j l ∈ F
  · rw [stp_move q.1 q.2]; exact (up_is hg hp hl q.1).len
  · rw [stp_stay q]
def ofS (s : Nat) (F : List Lot) : List Lot := F.filter fun l => decide (l.length = s)
theorem mvd_size {g : Nat} (hg : g ∈ gs) {i j : Int} (hp : (i, j) ∈ prs g) {F : List Lot} (hF : Fm g F) (s : Nat) : (ofS s (mvd i j F)).length = (ofS s F).length := by
  unfold ofS mvd
  rw [((sortI_perm' _).filter _).length_eq, List.filter_map, List.length_map]
  refine congrArg _ (List.filter_congr fun l hl => ?_)
  show decide ((stp i j F l).length = s) = _
  rw [stp_len hg hp (hF.sub l hl)]
/-! shadows -/
def shl (F : List Lot) : List Lot := F.flatMap fun l => l.map fun x => rm x l
def shN (F : List Lot) : Nat := (dedupI (shl F)).length
theorem shl_mem {F : List Lot} {B : Lot} : B ∈ shl F ↔ ∃ A ∈ F, cov B A = true := by
  unfold shl cov
  simp only [List.mem_flatMap, List.mem_map, List.any_eq_true, beq_iff_eq]
  exact ⟨fun ⟨A, h, x, hx, e⟩ => ⟨A, h, x, hx, e.symm⟩, fun ⟨A, h, x, hx, e⟩ => ⟨A, h, x, hx, e.symm⟩⟩
theorem sh_at {g : Nat} (hg : g ∈ gs) {i j : Int} (hp : (i, j) ∈ prs g) {A B : Lot} (hA : A ∈ U g) (h : cov B A = true) : B ∈ U g ∧ shOk1 i j A B = true := by
  simp only [cov, List.any_eq_true, beq_iff_eq] at h
  obtain ⟨x, hx, rfl⟩ := h
  have := List.all_eq_true.mp (List.all_eq_true.mp (List.all_eq_true.mp (List.all_eq_true.mp shOk_all g hg) _ hp) A hA) x hx
  simpa using this
theorem shl_sub {g : Nat} (hg : g ∈ gs) {F : List Lot} (hs : ∀ l ∈ F, l ∈ U g) : ∀ B ∈ shl F, B ∈ U g := by
  intro B h
  obtain ⟨A, hA, c⟩ := shl_mem.mp h
  have hsub : gs.all (fun g => (U g).all fun A => A.all fun x => (U g).contains (rm x A)) = true := by decide +kernel
  simp only [cov, List.any_eq_true, beq_iff_eq] at c
  obtain ⟨x, hx, rfl⟩ := c
  have := List.all_eq_true.mp (List.all_eq_true.mp (List.all_eq_true.mp hsub g hg) A (hs A hA)) x hx
  simpa using this
theorem ofS_mem {s : Nat} {F : List Lot} {l : Lot} : l ∈ ofS s F ↔ l ∈ F ∧ l.length = s := by simp [ofS]
theorem shf_size {g : Nat} (hg : g ∈ gs) {i j : Int} (hp : (i, j) ∈ prs g) {F : List Lot} (s : Nat) {l : Lot} (hl : l ∈ U g) (hs : l.length = s) (h : shf i j (fF F) l = true) : shf i j (fF (ofS s F)) l = true := by
  unfold shf at h ⊢
  by_cases u : upL i j l = true
  · rw [if_pos u] at h ⊢
    have U1 := up_is hg hp hl u
    simp only [Bool.and_eq_true, fF_iff, ofS_mem] at h ⊢
    exact ⟨⟨h.1, hs⟩, h.2, U1.len.trans hs⟩
  · rw [if_neg u] at h ⊢
    by_cases d : upL j i l = true
    · rw [if_pos d] at h ⊢
      have D := dn_is hg hp hl d
      simp only [Bool.or_eq_true, fF_iff, ofS_mem] at h ⊢
      exact h.imp (fun h => ⟨h, hs⟩) fun h => ⟨h, D.len.trans hs⟩
    · rw [if_neg d] at h ⊢
      simp only [fF_iff, ofS_mem] at h ⊢
      exact ⟨h, hs⟩
/-- the shadow of the shifted is within the shifted shadow -/
theorem shadow_in {g : Nat} (hg : g ∈ gs) {i j : Int} (hp : (i, j) ∈ prs g) {F : List Lot} {A B : Lot} (hA : A ∈ U g) (h : shf i j (fF F) A = true) (c : cov B A = true) : shf i j (fF (shl F)) B = true := by
  obtain ⟨hB, ok⟩ := sh_at hg hp hA c
  have inS : ∀ {X Y : Lot}, fF F Y = true → cov X Y = true → fF (shl F) X = true := fun h1 h2 => fF_iff.mpr (shl_mem.mpr ⟨_, fF_iff.mp h1, h2⟩)
  unfold shOk1 at ok
  unfold shf at h ⊢
  by_cases uB : upL i j B = true
  · rw [if_pos uB] at ok ⊢
    by_cases uA : upL i j A = true
    · rw [if_pos uA] at ok h
      simp only [Bool.and_eq_true] at h ⊢
      exact ⟨inS h.1 c, inS h.2 ok⟩
    · rw [if_neg uA] at ok h
      simp only [Bool.and_eq_true, Bool.not_eq_true'] at ok ⊢
      rw [if_neg (by rw [ok.1]; simp)] at h
      exact ⟨inS h c, inS h ok.2⟩
  · rw [if_neg uB] at ok ⊢
    by_cases dB : upL j i B = true
    · rw [if_pos dB] at ok ⊢
      simp only [Bool.or_eq_true, Bool.not_eq_true'] at ok ⊢
      by_cases uA : upL i j A = true
      · rw [if_pos uA] at h
        simp only [Bool.and_eq_true] at h
        exact .inl (inS h.1 c)
      · rw [if_neg uA] at h
        by_cases dA : upL j i A = true
        · rw [if_pos dA] at h
          simp only [Bool.or_eq_true] at h
          rw [dA] at ok
          have ok := ok.resolve_left (by simp)
          exact h.imp (fun h => inS h c) fun h => inS h ok
        · rw [if_neg dA] at h
          exact .inl (inS h c)
    · rw [if_neg dB] at ok ⊢
      simp only [Bool.or_eq_true, Bool.not_eq_true'] at ok
      by_cases uA : upL i j A = true
      · rw [if_pos uA] at h
        simp only [Bool.and_eq_true] at h
        exact inS h.1 c
      · rw [if_neg uA] at h
        by_cases dA : upL j i A = true
        · rw [if_pos dA] at h
          simp only [Bool.or_eq_true] at h
          rw [dA] at ok
          have ok := ok.resolve_left (by simp)
          exact h.elim (fun h => inS h c) fun h => inS h ok
        · rw [if_neg dA] at h
          exact inS h c
theorem nodup_len_le {α : Type} [DecidableEq α] : ∀ {a b : List α}, a.Nodup → (∀ x ∈ a, x ∈ b) → a.length ≤ b.length
  | [], _, _, _ => Nat.zero_le _
  | x :: a, b, h, s => by
    have h := List.nodup_cons.mp h
    have hx := s x List.mem_cons_self
    have : a.length ≤ (b.erase x).length := nodup_len_le h.2 fun y hy => by
      have ne : y ≠ x := fun e => h.1 (e ▸ hy)
      exact (List.mem_erase_of_ne ne).mpr (s y (List.mem_cons_of_mem _ hy))
    rw [List.length_erase_of_mem hx] at this
    have := List.length_pos_of_mem hx
    simp only [List.length_cons]
    omega
theorem mvd_shadow {g : Nat} (hg : g ∈ gs) {i j : Int} (hp : (i, j) ∈ prs g) {F : List Lot} (hF : Fm g F) (s : Nat) : shN (ofS s (mvd i j F)) ≤ shN (ofS s F) := by
  have subF : ∀ l ∈ ofS s F, l ∈ U g := fun l h => hF.sub l (ofS_mem.mp h).1
  have G := (Fm.mk' hg (dedupI_nodup (shl (ofS s F))) (fun l h => shl_sub hg subF l (dedupI_mem.mp h))).1
  have e : shN (ofS s F) = (mvd i j (sortI (dedupI (shl (ofS s F))))).length := by
    rw [mvd_len, (sortI_perm' _).length_eq]; rfl
  rw [e]
  refine nodup_len_le (dedupI_nodup _) fun B hB => ?_
  obtain ⟨A, hA, c⟩ := shl_mem.mp (dedupI_mem.mp hB)
  obtain ⟨hA, hs⟩ := ofS_mem.mp hA
  have AU := (mvd_fm hg hp hF).sub A hA
  have h1 := shf_size hg hp s AU hs ((mvd_mem hg hp hF AU).mp hA)
  have BU := (sh_at hg hp AU c).1
  rw [mvd_mem hg hp G BU]
  have h2 := shadow_in hg hp AU h1 c
  have e : fF (sortI (dedupI (shl (ofS s F)))) = fF (shl (ofS s F)) := funext fun l => by
    rw [Bool.eq_iff_iff, fF_iff, fF_iff, (sortI_perm' _).mem_iff, dedupI_mem]
  rw [e]; exact h2
/-! meeting -/
def Mtg (F : List Lot) : Prop := ∀ a ∈ F, ∀ b ∈ F, mts a b = true
theorem alt_of {i j : Int} {F : List Lot} {A : Lot} (h : shf i j (fF F) A = true) : ∃ a ∈ alt i j A, ∀ x ∈ a, x ∈ F := by
  unfold shf at h
  unfold alt
  by_cases u : upL i j A = true
  · rw [if_pos u] at h ⊢
    simp only [Bool.and_eq_true, fF_iff] at h
    exact ⟨_, List.mem_singleton.mpr rfl, by simp [h.1, h.2]⟩
  · rw [if_neg u] at h ⊢
    by_cases d : upL j i A = true
    · rw [if_pos d] at h ⊢
      simp only [Bool.or_eq_true, fF_iff] at h
      rcases h with h | h
      · exact ⟨[A], by simp, by simp [h]⟩
      · exact ⟨[mvl j i A], by simp, by simp [h]⟩
    · rw [if_neg d] at h ⊢
      exact ⟨[A], by simp, by simp [fF_iff.mp h]⟩
theorem mvd_meet {g : Nat} (hg : g ∈ gs) {i j : Int} (hp : (i, j) ∈ prs g) {F : List Lot} (hF : Fm g F) (h : Mtg F) : Mtg (mvd i j F) := by
  intro A hA B hB
  have fm := mvd_fm hg hp hF
  have AU := fm.sub A hA
  have BU := fm.sub B hB
  obtain ⟨a, ha, a2⟩ := alt_of ((mvd_mem hg hp hF AU).mp hA)
  obtain ⟨b, hb, b2⟩ := alt_of ((mvd_mem hg hp hF BU).mp hB)
  have := List.all_eq_true.mp (List.all_eq_true.mp (List.all_eq_true.mp (List.all_eq_true.mp meOk_all g hg) _ hp) A AU) B BU
  rcases Bool.or_eq_true _ _ |>.mp this with z | z
  · exact z
  · have z := List.all_eq_true.mp (List.all_eq_true.mp z a ha) b hb
    simp only [List.any_eq_true, Bool.not_eq_true'] at z
    obtain ⟨x, hx, y, hy, e⟩ := z
    rw [h x (a2 x hx) y (b2 y hy)] at e
    cases e
structure Kp (F G : List Lot) : Prop where
  len : G.length = F.length
  size : ∀ s, (ofS s G).length = (ofS s F).length
  shad : ∀ s, shN (ofS s G) ≤ shN (ofS s F)
  meet : Mtg F → Mtg G
theorem itr_kp {g : Nat} (hg : g ∈ gs) (n : Nat) {F : List Lot} (hF : Fm g F) : Fm g (itr g n F) ∧ Kp F (itr g n F) :=
  itr_keep (R := Kp) (P := Fm g) (fun _ => ⟨rfl, fun _ => rfl, fun _ => Nat.le_refl _, id⟩)
    (fun a b c h1 h2 => ⟨h2.len.trans h1.len, fun s => (h2.size s).trans (h1.size s), fun s => Nat.le_trans (h2.shad s) (h1.shad s), fun h => h2.meet (h1.meet h)⟩)
    (fun i j F hp hF => ⟨mvd_fm hg hp hF, ⟨mvd_len, mvd_size hg hp hF, mvd_shadow hg hp hF, mvd_meet hg hp hF⟩⟩) n F hF
/-- few lots have few that are one less -/
def excess (l : Lot) : Nat := l.length - 4
theorem sum_filter_le {α : Type} (f : α → Nat) (p : α → Bool) : ∀ L : List α, ((L.filter p).map f).sum ≤ (L.map f).sum
  | [] => Nat.le_refl _
  | a :: L => by
    have := sum_filter_le f p L
    rw [List.filter_cons]
    split <;> simp <;> omega
theorem excess_all : gs.all (fun g => decide (((U g).map excess).sum ≤ 8)) = true := by decide +kernel
theorem shl_len {g : Nat} (hg : g ∈ gs) {F : List Lot} (hF : Fm g F) (h : F.length ≤ 11) : (shl F).length < 64 := by
  have e1 : (shl F).length = (F.map List.length).sum := by
    unfold shl
    clear hF h
    induction F with
    | nil => rfl
    | cons a F ih => simp [ih]
  have e2 : ∀ L : List Lot, (L.map List.length).sum ≤ 4 * L.length + (L.map excess).sum := by
    intro L
    induction L with
    | nil => simp
    | cons a L ih => simp only [List.map_cons, List.sum_cons, List.length_cons, excess] at *; omega
  have e3 : (F.map excess).sum ≤ 8 := by
    rw [hF.eq hg]
    have := List.all_eq_true.mp excess_all g hg
    simp only [decide_eq_true_eq] at this
    exact Nat.le_trans (sum_filter_le _ _ _) this
  have := e2 F
  omega
end TL

set_option Elab.async false
set_option linter.all false
set_option maxRecDepth 100000
namespace TL
local macro_rules | `(tactic| simp_arith [$ls,*]) => `(tactic| simp (config := { failIfUnchanged := false, decide := false, implicitDefEqProofs := false, dsimp := false }) only [tg_nm, tg_2, nq_n, nq_r, nq_p, u_2, tn_nx, ne_eq, decide_not, Nat.reduceEqDiff, Nat.reduceBEq, decide_false, decide_true, not_false_eq_true, bt_tp2, o_ltT, sc_T, sc_I, z_T, fb_len, fb_tuple, fb_list, fb_sorted, fb_sum, fb_max1, fb_min1, fb_max2, fb_min2, fb_all, fb_any, fb_abs, fb_int, fb_repr, fb_isInt, fb_isBool, fb_isTuple, fb_isStr, fb_srs, fb_lns, fb_lrg1, fb_trg1, fb_lrg2, s_tI, s_tT, g_lenI, g_lenT, g_lenL, g_isTI, g_isTT, g_tupI, g_tupT, g_allm, g_anym, r_bind, r_ok, r_no, r_pure, r_pure, r_lift, r_cT, r_cF, r_when, n_0, n_s, p_0, p_s, lk_r, lk_p, lk_q, r_var, r_con, r_glb, r_neg, r_not, r_op, r_chn, r_and, r_or, r_ite, r_tup, r_lst, r_slc, r_some, r_call, r_blt, r_pop, r_cmp, r_dcm, r_dic, r_an, r_ac, r_cn, r_cc, r_iex, r_ir1, r_ir2, r_izp, v_v, v_f, v_fv, v_nv, v_nf, d_v, d_f, d_s, ld_p, ld_q, dd_n, dd_c, b_v, i_v, s_l, s_t, z_l, z_t, t_s, ts_p, ts_q, t_r, t_pl, t_pd, tr_n, tr_r, tr_p, pb_t, pb_f, c_o, c_e, pa_n, pa_c, e_nil, e_cons, q_nx, q_ret, e_asg, e_own, e_unp, e_par, e_sidx, e_app, e_ext, e_upd, e_exp, e_ifs, e_fr, e_ret, e_rv, e_rf, e_rp, lp_p, e_la, la_p, la_q, e_da, da_p, e_sa, sa_p, sa_q, a_l, x_l, ra_n, ra_0, ra_p, ra_r, ra_q, st_q, st_r, st_n, bt_nm, w_n, w_c, f_nx, f_rt, et_q, et_r, et_n, sl_n, sl_f, sl_t, le_n, le_v, le_f, le_s, le_t, nd_0, nd_1, c_c, c_s, o_add, o_sub, o_lt, o_le, o_gt, o_ge, o_eqi, o_nei, o_isb, o_int, o_nint, o_nintT, o_eqT, o_neT, o_eqI, o_neI, g_sum, g_lenl, g_lent, g_tupt, g_lisl, g_list, g_int, g_intb, g_abs, g_max, g_min, g_isT, g_trg, g_lrg, g_sorI, g_sorT, List.length_cons, List.length_nil, if_true, if_false, Bool.not_true, Bool.not_false, Bool.and_true, Bool.and_false, Bool.true_and, Bool.false_and, Bool.false_eq_true, reduceCtorEq, List.append_nil, List.nil_append, List.cons_append, Option.map_some, $ls,*])
/-! ### weights -/
def chs : Nat → Nat → Nat
  | _, 0 => 1
  | 0, _ + 1 => 0
  | n + 1, k + 1 => chs n k + chs n (k + 1)
def whl (g : Nat) : Nat := ((List.range (g + 1)).map (chs g)).foldl (· * ·) 1
def insP (x : Int) : Lot → List Lot
  | [] => [[x]]
  | a :: l => (x :: a :: l) :: (insP x l).map (a :: ·)
/-- orders of guests whose heads meet each lot of a size equally often -/
def pms : Nat → List Lot
  | 1 => [[0]]
  | 2 => [[0, 1], [1, 0]]
  | 3 => [[0, 1, 2], [1, 2, 0], [2, 0, 1]]
  | 4 => [[0, 1, 3, 2], [0, 2, 1, 3], [0, 2, 1, 3], [1, 0, 3, 2], [1, 2, 0, 3], [1, 3, 2, 0], [2, 1, 3, 0], [2, 3, 0, 1], [2, 3, 0, 1], [3, 0, 1, 2], [3, 0, 2, 1], [3, 1, 2, 0]]
  | 5 => [[0, 2, 4, 1, 3], [0, 3, 2, 1, 4], [1, 0, 3, 4, 2], [1, 3, 4, 2, 0], [2, 1, 0, 4, 3], [2, 4, 3, 0, 1], [3, 2, 1, 0, 4], [3, 4, 0, 2, 1], [4, 0, 1, 3, 2], [4, 1, 2, 3, 0]]
  | 6 => [[0, 1, 2, 3, 4, 5], [0, 1, 2, 4, 5, 3], [0, 2, 4, 1, 5, 3], [0, 2, 4, 3, 1, 5], [0, 3, 2, 1, 4, 5], [0, 3, 2, 4, 1, 5], [0, 4, 1, 2, 5, 3], [0, 4, 1, 3, 5, 2], [0, 4, 3, 1, 5, 2], [0, 4, 3, 1, 5, 2], [1, 0, 2, 5, 3, 4], [1, 0, 3, 2, 5, 4], [1, 2, 3, 0, 5, 4], [1, 2, 3, 4, 0, 5], [1, 2, 4, 0, 5, 3], [1, 2, 4, 5, 3, 0], [1, 3, 0, 5, 2, 4], [1, 3, 0, 5, 2, 4], [1, 4, 0, 5, 2, 3], [1, 4, 3, 0, 5, 2], [2, 0, 4, 3, 1, 5], [2, 0, 5, 1, 3, 4], [2, 3, 4, 1, 0, 5], [2, 3, 4, 1, 0, 5], [2, 3, 5, 0, 1, 4], [2, 3, 5, 4, 0, 1], [2, 4, 1, 5, 3, 0], [2, 4, 3, 5, 0, 1], [2, 5, 0, 1, 4, 3], [2, 5, 0, 1, 4, 3], [3, 0, 2, 5, 1, 4], [3, 0, 5, 1, 4, 2], [3, 1, 2, 5, 4, 0], [3, 1, 4, 2, 0, 5], [3, 4, 0, 2, 1, 5], [3, 4, 1, 5, 0, 2], [3, 5, 0, 2, 1, 4], [3, 5, 1, 0, 4, 2], [3, 5, 1, 2, 4, 0], [3, 5, 4, 0, 1, 2], [4, 1, 5, 2, 3, 0], [4, 1, 5, 3, 0, 2], [4, 2, 5, 0, 3, 1], [4, 2, 5, 0, 3, 1], [4, 3, 5, 0, 1, 2], [4, 3, 5, 0, 2, 1], [4, 5, 0, 2, 3, 1], [4, 5, 0, 2, 3, 1], [4, 5, 0, 3, 2, 1], [4, 5, 1, 3, 2, 0], [5, 0, 1, 4, 2, 3], [5, 0, 1, 4, 2, 3], [5, 0, 1, 4, 2, 3], [5, 0, 3, 2, 1, 4], [5, 1, 2, 3, 4, 0], [5, 1, 2, 3, 4, 0], [5, 1, 2, 4, 3, 0], [5, 1, 3, 4, 2, 0], [5, 2, 3, 4, 0, 1], [5, 2, 4, 3, 0, 1]]
  | _ => []
def hd (p : Lot) (k : Nat) : Lot := sortL leZ (p.take k)
def ins (a b : Lot) : Bool := a.all fun x => b.contains x
def cnt (g : Nat) (l : Lot) : Nat := ((pms g).map fun p => if hd p l.length = l then 1 else 0).sum
def rat (g : Nat) : Nat := whl g / (pms g).length
def lyOk (g : Nat) : Bool := ((U g).all fun l => decide (whl g / chs g l.length = rat g * cnt g l) && decide (0 < chs g l.length) && decide (chs g l.length ≤ 20) && decide (whl g % chs g l.length = 0)) && decide (rat g * (pms g).length = whl g) && decide (0 < whl g) && decide (whl g ≤ 162000) &&
  (pms g).all fun p => (List.range (g + 1)).all fun a => (List.range (g + 1)).all fun b => ins (hd p a) (hd p b) || ins (hd p b) (hd p a)
theorem lyOk_all : gs.all lyOk = true := by decide +kernel
def due (g : Nat) (F : List Lot) : Nat := (F.map fun l => whl g / chs g l.length).sum
def Unl (F : List Lot) : Prop := ∀ a ∈ F, ∀ b ∈ F, a = b ∨ ins a b = false
theorem U_len {g : Nat} (hg : g ∈ gs) {l : Lot} (hl : l ∈ U g) : l.length ≤ g := by
  have : gs.all (fun g => (U g).all fun l => decide (l.length ≤ g)) = true := by decide +kernel
  simpa using List.all_eq_true.mp (List.all_eq_true.mp this g hg) l hl
structure Ly (g : Nat) : Prop where
  div : ∀ l ∈ U g, whl g / chs g l.length = rat g * cnt g l
  pos : ∀ l ∈ U g, 0 < chs g l.length
  le : ∀ l ∈ U g, chs g l.length ≤ 20
  mod : ∀ l ∈ U g, whl g % chs g l.length = 0
  rat : rat g * (pms g).length = whl g
  wp : 0 < whl g
  wl : whl g ≤ 162000
  chn : ∀ p ∈ pms g, ∀ a ≤ g, ∀ b ≤ g, ins (hd p a) (hd p b) = true ∨ ins (hd p b) (hd p a) = true
theorem ly {g : Nat} (hg : g ∈ gs) : Ly g := by
  have h := List.all_eq_true.mp lyOk_all g hg
  unfold lyOk at h
  simp only [Bool.and_eq_true, List.all_eq_true, decide_eq_true_eq, Bool.or_eq_true, List.mem_range] at h
  obtain ⟨⟨⟨⟨h1, h2⟩, h3⟩, h4⟩, h5⟩ := h
  exact ⟨fun l hl => (h1 l hl).1.1.1, fun l hl => (h1 l hl).1.1.2, fun l hl => (h1 l hl).1.2, fun l hl => (h1 l hl).2, h2, h3, h4, fun p hp a ha b hb => h5 p hp a (by omega) b (by omega)⟩
theorem sum_swap {α β : Type} (f : α → β → Nat) (M : List β) : ∀ L : List α, (L.map fun a => (M.map fun b => f a b).sum).sum = (M.map fun b => (L.map fun a => f a b).sum).sum
  | [] => by
    simp only [List.map_nil, List.sum_nil]
    induction M with
    | nil => rfl
    | cons b M ih => simpa using ih
  | a :: L => by
    simp only [List.map_cons, List.sum_cons, sum_swap f M L]
    clear sum_swap
    induction M with
    | nil => rfl
    | cons b M ih => simp only [List.map_cons, List.sum_cons] at *; omega
theorem zero_sum {α : Type} {f : α → Nat} : ∀ {L : List α}, (∀ b ∈ L, f b = 0) → (L.map f).sum = 0
  | [], _ => rfl
  | b :: L, z => by
    simp only [List.map_cons, List.sum_cons, z b List.mem_cons_self, zero_sum fun c hc => z c (List.mem_cons_of_mem _ hc)]
theorem one_at_most {α : Type} (p : α → Bool) : ∀ {L : List α}, L.Nodup → (∀ a ∈ L, ∀ b ∈ L, p a = true → p b = true → a = b) → (L.map fun a => if p a then 1 else 0).sum ≤ 1
  | [], _, _ => by simp
  | a :: L, nd, h => by
    have nd := List.nodup_cons.mp nd
    have ih := one_at_most p nd.2 fun b hb c hc => h b (List.mem_cons_of_mem _ hb) c (List.mem_cons_of_mem _ hc)
    simp only [List.map_cons, List.sum_cons]
    by_cases e : p a = true
    · have z : ∀ b ∈ L, (if p b then 1 else 0) = 0 := fun b hb => if_neg fun q => nd.1 (h a List.mem_cons_self b (List.mem_cons_of_mem _ hb) e q ▸ hb)
      have : (L.map fun a => if p a then 1 else 0).sum = 0 := zero_sum z
      rw [if_pos e, this]; omega
    · rw [if_neg e]; omega
theorem sum_le_len {α : Type} (f : α → Nat) : ∀ {L : List α}, (∀ a ∈ L, f a ≤ 1) → (L.map f).sum ≤ L.length
  | [], _ => by simp
  | a :: L, h => by
    have h1 := h a List.mem_cons_self
    have h2 := sum_le_len f (L := L) fun b hb => h b (List.mem_cons_of_mem _ hb)
    simp; omega
theorem lym {g : Nat} (hg : g ∈ gs) {F : List Lot} (hF : Fm g F) (h : Unl F) : due g F ≤ whl g := by
  have Y := ly hg
  have e1 : due g F = rat g * (F.map (cnt g)).sum := by
    unfold due
    have hs := hF.sub
    clear hF h
    induction F with
    | nil => rfl
    | cons a F ih =>
      simp only [List.map_cons, List.sum_cons, Nat.mul_add]
      rw [Y.div a (hs a List.mem_cons_self), ih fun l hl => hs l (List.mem_cons_of_mem _ hl)]
  have e2 : (F.map (cnt g)).sum ≤ (pms g).length := by
    unfold cnt
    rw [sum_swap (fun l p => if hd p l.length = l then 1 else 0)]
    refine sum_le_len _ fun p hp => ?_
    have := one_at_most (fun l => decide (hd p l.length = l)) hF.nd fun a ha b hb ea eb => by
      simp only [decide_eq_true_eq] at ea eb
      have c := Y.chn p hp a.length (U_len hg (hF.sub a ha)) b.length (U_len hg (hF.sub b hb))
      rw [ea, eb] at c
      rcases c with c | c
      · rcases h a ha b hb with e | e
        · exact e
        · rw [e] at c; cases c
      · rcases h b hb a ha with e | e
        · exact e.symm
        · rw [e] at c; cases c
    simpa using this
  rw [e1, ← Y.rat]
  exact Nat.mul_le_mul_left _ e2
/-- one lot more is weighed -/
def wst (c : Nat) (p : Nat × Nat) : Nat × Nat :=
  let o := p.1 * c + p.2; let u := p.2 * c
  (o / Nat.gcd o u, u / Nat.gcd o u)
def wgt (g : Nat) (F : List Lot) : Nat × Nat := F.foldl (fun p l => wst (chs g l.length) p) (0, 1)
structure Wg (g : Nat) (d : Nat) (p : Nat × Nat) : Prop where
  eq : p.1 * whl g = p.2 * d
  cop : Nat.gcd p.1 p.2 = 1
  pos : 0 < p.2
  le : p.2 ≤ whl g
theorem wst_ok {g : Nat} (hg : g ∈ gs) {l : Lot} (hl : l ∈ U g) {d : Nat} {p : Nat × Nat} (h : Wg g d p) : Wg g (d + whl g / chs g l.length) (wst (chs g l.length) p) := by
  have Y := ly hg
  have c0 := Y.pos l hl
  have c1 := Y.mod l hl
  obtain ⟨o, u⟩ := p
  obtain ⟨e, cop, pos, le⟩ := h
  simp only at e cop pos le
  generalize chs g l.length = c at *
  generalize hq : whl g / c = q
  have wq : whl g = c * q := by
    rw [← hq, Nat.mul_div_cancel' (Nat.dvd_of_mod_eq_zero c1)]
  unfold wst
  simp only
  have u0 : 0 < u * c := Nat.mul_pos pos c0
  have e2 : (o * c + u) * whl g = (u * c) * (d + q) := by
    rw [Nat.add_mul, Nat.mul_right_comm, e, Nat.mul_add, wq]
    simp only [Nat.mul_assoc, Nat.mul_comm, Nat.mul_left_comm]
  have g0 : 0 < Nat.gcd (o * c + u) (u * c) := Nat.gcd_pos_of_pos_right _ u0
  generalize hG : Nat.gcd (o * c + u) (u * c) = G at *
  have d1 : G ∣ o * c + u := hG ▸ Nat.gcd_dvd_left _ _
  have d2 : G ∣ u * c := hG ▸ Nat.gcd_dvd_right _ _
  obtain ⟨o', ho⟩ := d1
  obtain ⟨u', hu⟩ := d2
  have q1 : (o * c + u) / G = o' := by rw [ho, Nat.mul_div_cancel_left _ g0]
  have q2 : u * c / G = u' := by rw [hu, Nat.mul_div_cancel_left _ g0]
  have cop' : Nat.gcd o' u' = 1 := by
    have := Nat.gcd_mul_left G o' u'
    rw [← ho, ← hu, hG] at this
    exact Nat.eq_of_mul_eq_mul_left g0 (by omega)
  have e3 : o' * whl g = u' * (d + q) := by
    rw [ho, hu] at e2
    refine Nat.eq_of_mul_eq_mul_left g0 ?_
    rw [← Nat.mul_assoc, ← Nat.mul_assoc]; exact e2
  have up : 0 < u' := by
    rcases Nat.eq_zero_or_pos u' with z | z
    · rw [z] at hu; omega
    · exact z
  have dv : u' ∣ whl g := by
    have : u' ∣ o' * whl g := ⟨_, e3⟩
    exact Nat.Coprime.dvd_of_dvd_mul_left (Nat.coprime_comm.mp cop') this
  rw [q1, q2]
  exact ⟨e3, cop', up, Nat.le_of_dvd Y.wp dv⟩
theorem wgt_ok {g : Nat} (hg : g ∈ gs) : ∀ {F : List Lot}, (∀ l ∈ F, l ∈ U g) → ∀ {d : Nat} {p : Nat × Nat}, Wg g d p → Wg g (d + due g F) (F.foldl (fun p l => wst (chs g l.length) p) p)
  | [], _, d, p, h => by simpa [due] using h
  | l :: F, hs, d, p, h => by
    have h1 := wgt_ok hg (F := F) (fun m hm => hs m (List.mem_cons_of_mem _ hm)) (wst_ok hg (hs l List.mem_cons_self) h)
    have e : d + due g (l :: F) = d + whl g / chs g l.length + due g F := by simp [due]; omega
    rw [e]; exact h1
theorem wgt_is {g : Nat} (hg : g ∈ gs) {F : List Lot} (hF : ∀ l ∈ F, l ∈ U g) : Wg g (due g F) (wgt g F) := by
  have h0 : Wg g 0 (0, 1) := ⟨by simp, by simp, by simp, (ly hg).wp⟩
  have h1 := wgt_ok hg hF h0
  rw [Nat.zero_add] at h1
  exact h1
theorem wgt_le {g : Nat} (hg : g ∈ gs) {F : List Lot} (hF : Fm g F) (h : Unl F) : (wgt g F).1 ≤ (wgt g F).2 := by
  have W := wgt_is hg hF.sub
  have := Nat.mul_le_mul_left (wgt g F).2 (lym hg hF h)
  rw [← W.eq] at this
  exact Nat.le_of_mul_le_mul_right this (ly hg).wp
end TL

set_option Elab.async false
set_option linter.all false
set_option maxRecDepth 100000
namespace TL
local macro_rules | `(tactic| simp_arith [$ls,*]) => `(tactic| simp (config := { failIfUnchanged := false, decide := false, implicitDefEqProofs := false, dsimp := false }) only [tg_nm, tg_2, nq_n, nq_r, nq_p, u_2, tn_nx, ne_eq, decide_not, Nat.reduceEqDiff, Nat.reduceBEq, decide_false, decide_true, not_false_eq_true, bt_tp2, o_ltT, sc_T, sc_I, z_T, fb_len, fb_tuple, fb_list, fb_sorted, fb_sum, fb_max1, fb_min1, fb_max2, fb_min2, fb_all, fb_any, fb_abs, fb_int, fb_repr, fb_isInt, fb_isBool, fb_isTuple, fb_isStr, fb_srs, fb_lns, fb_lrg1, fb_trg1, fb_lrg2, s_tI, s_tT, g_lenI, g_lenT, g_lenL, g_isTI, g_isTT, g_tupI, g_tupT, g_allm, g_anym, r_bind, r_ok, r_no, r_pure, r_pure, r_lift, r_cT, r_cF, r_when, n_0, n_s, p_0, p_s, lk_r, lk_p, lk_q, r_var, r_con, r_glb, r_neg, r_not, r_op, r_chn, r_and, r_or, r_ite, r_tup, r_lst, r_slc, r_some, r_call, r_blt, r_pop, r_cmp, r_dcm, r_dic, r_an, r_ac, r_cn, r_cc, r_iex, r_ir1, r_ir2, r_izp, v_v, v_f, v_fv, v_nv, v_nf, d_v, d_f, d_s, ld_p, ld_q, dd_n, dd_c, b_v, i_v, s_l, s_t, z_l, z_t, t_s, ts_p, ts_q, t_r, t_pl, t_pd, tr_n, tr_r, tr_p, pb_t, pb_f, c_o, c_e, pa_n, pa_c, e_nil, e_cons, q_nx, q_ret, e_asg, e_own, e_unp, e_par, e_sidx, e_app, e_ext, e_upd, e_exp, e_ifs, e_fr, e_ret, e_rv, e_rf, e_rp, lp_p, e_la, la_p, la_q, e_da, da_p, e_sa, sa_p, sa_q, a_l, x_l, ra_n, ra_0, ra_p, ra_r, ra_q, st_q, st_r, st_n, bt_nm, w_n, w_c, f_nx, f_rt, et_q, et_r, et_n, sl_n, sl_f, sl_t, le_n, le_v, le_f, le_s, le_t, nd_0, nd_1, c_c, c_s, o_add, o_sub, o_lt, o_le, o_gt, o_ge, o_eqi, o_nei, o_isb, o_int, o_nint, o_nintT, o_eqT, o_neT, o_eqI, o_neI, g_sum, g_lenl, g_lent, g_tupt, g_lisl, g_list, g_int, g_intb, g_abs, g_max, g_min, g_isT, g_trg, g_lrg, g_sorI, g_sorT, List.length_cons, List.length_nil, if_true, if_false, Bool.not_true, Bool.not_false, Bool.and_true, Bool.and_false, Bool.true_and, Bool.false_and, Bool.false_eq_true, reduceCtorEq, List.append_nil, List.nil_append, List.cons_append, Option.map_some, $ls,*])
open PySem L2
/-- is_whole(value) -/
def N_is_whole : List Str := ["value"]
def io_is_whole : List Bool := [false]
def b_is_whole : Ss := (.cons (.ret (.and (.blt .isInt (.cons false (.var 0) (.nil))) (.not (.blt .isBool (.cons false (.var 0) (.nil)))))) (
  .nil))
/-- is_integer(value, low, high) -/
def N_is_integer : List Str := ["value", "low", "high"]
def io_is_integer : List Bool := [false, false, false]
def b_is_integer : Ss := (.cons (.ret (.and (.call "is_whole" (.cons false (.var 0) (.nil))) (.chn .le .le (.var 1) (.var 0) (.var 2)))) (
  .nil))
/-- is_rising(values) -/
def N_is_rising : List Str := ["values", "one", "other"]
def io_is_rising : List Bool := [false]
def b_is_rising : Ss := (.cons (.ret (.blt .all (.cons false (.cmp [1, 2] (.tp [1, 2]) (.zip (.var 0) (.slc (.var 0) true (.con (.int 1)) false (.con .none))) false (.con .none) (.op .lt (.var 1) (.var 2))) (.nil)))) (
  .nil))
/-- is_lot(guests, value) -/
def N_is_lot : List Str := ["guests", "value", "guest"]
def io_is_lot : List Bool := [false, false]
def b_is_lot : Ss := (.cons (.ret (.and (.blt .isTuple (.cons false (.var 1) (.nil))) (.and (.blt .all (.cons false (.cmp [2] (.nm 2) (.ex (.var 1)) false (.con .none) (.call "is_integer" (.cons false (.var 2) (.cons false (.con (.int 0)) (.cons false (.op .sub (.var 0) (.con (.int 1))) (.nil)))))) (.nil))) (.call "is_rising" (.cons false (.var 1) (.nil)))))) (
  .nil))
/-- is_within(one, other) -/
def N_is_within : List Str := ["one", "other", "guest"]
def io_is_within : List Bool := [false, false]
def b_is_within : Ss := (.cons (.ret (.blt .all (.cons false (.cmp [2] (.nm 2) (.ex (.var 0)) false (.con .none) (.op .in_ (.var 2) (.var 1))) (.nil)))) (
  .nil))
/-- parts_of(lot) -/
def N_parts_of : List Str := ["lot", "found", "guest", "part"]
def io_parts_of : List Bool := [false]
def b_parts_of : Ss := (.cons (.own 1 (.lst (.cons false (.tup (.nil)) (.nil)))) (
  .cons (.fr (.nm 2) (.ex (.var 0)) (.cons (.ext 1 (.cmp [3] (.nm 3) (.ex (.blt .list (.cons false (.var 1) (.nil)))) false (.con .none) (.tup (.cons true (.var 3) (.cons false (.var 2) (.nil)))))) (
    .nil))) (
  .cons (.retP 1) (
  .nil))))
/-- ways(many, some) -/
def N_ways : List Str := ["many", "some", "found", "at"]
def io_ways : List Bool := [false, false]
def b_ways : Ss := (.cons (.ifs (.not (.chn .le .le (.con (.int 0)) (.var 1) (.var 0))) (.cons (.ret (.con (.int 0))) (
    .nil)) (.nil)) (
  .cons (.asg 2 (.con (.int 1))) (
  .cons (.fr (.nm 3) (.rng1 (.var 1)) (.cons (.asg 2 (.op .fdiv (.op .mul (.var 2) (.op .sub (.var 0) (.var 3))) (.op .add (.var 3) (.con (.int 1))))) (
    .nil))) (
  .cons (.ret (.var 2)) (
  .nil)))))
/-- check_guests(value) -/
def N_check_guests : List Str := ["value"]
def io_check_guests : List Bool := [false]
def b_check_guests : Ss := (.cons (.ifs (.not (.call "is_integer" (.cons false (.var 0) (.cons false (.con (.int 1)) (.cons false (.glb "MOST_GUESTS" (.int 10)) (.nil)))))) (.cons (.stop) (
    .nil)) (.nil)) (
  .nil))
/-- check_family(guests, value) -/
def N_check_family : List Str := ["guests", "value", "lot"]
def io_check_family : List Bool := [false, false]
def b_check_family : Ss := (.cons (.exp (.call "check_guests" (.cons false (.var 0) (.nil)))) (
  .cons (.ifs (.or (.not (.blt .isTuple (.cons false (.var 1) (.nil)))) (.or (.not (.blt .all (.cons false (.cmp [2] (.nm 2) (.ex (.var 1)) false (.con .none) (.call "is_lot" (.cons false (.var 0) (.cons false (.var 2) (.nil))))) (.nil)))) (.not (.call "is_rising" (.cons false (.var 1) (.nil)))))) (.cons (.stop) (
    .nil)) (.nil)) (
  .nil)))
/-- is_unlike(guests, family) -/
def N_is_unlike : List Str := ["guests", "family", "one", "other"]
def io_is_unlike : List Bool := [false, false]
def b_is_unlike : Ss := (.cons (.exp (.call "check_family" (.cons false (.var 0) (.cons false (.var 1) (.nil))))) (
  .cons (.ret (.not (.blt .any (.cons false (.cmp [2] (.nm 2) (.ex (.var 1)) false (.con .none) (.blt .any (.cons false (.cmp [3] (.nm 3) (.ex (.var 1)) false (.con .none) (.and (.op .ne (.var 2) (.var 3)) (.call "is_within" (.cons false (.var 2) (.cons false (.var 3) (.nil)))))) (.nil)))) (.nil))))) (
  .nil)))
/-- meet(one, other) -/
def N_meet : List Str := ["one", "other", "guest"]
def io_meet : List Bool := [false, false]
def b_meet : Ss := (.cons (.ret (.blt .any (.cons false (.cmp [2] (.nm 2) (.ex (.var 0)) false (.con .none) (.op .in_ (.var 2) (.var 1))) (.nil)))) (
  .nil))
/-- is_meeting(guests, family) -/
def N_is_meeting : List Str := ["guests", "family", "one", "other"]
def io_is_meeting : List Bool := [false, false]
def b_is_meeting : Ss := (.cons (.exp (.call "check_family" (.cons false (.var 0) (.cons false (.var 1) (.nil))))) (
  .cons (.ret (.blt .all (.cons false (.cmp [2] (.nm 2) (.ex (.var 1)) false (.con .none) (.blt .all (.cons false (.cmp [3] (.nm 3) (.ex (.var 1)) false (.con .none) (.call "meet" (.cons false (.var 2) (.cons false (.var 3) (.nil))))) (.nil)))) (.nil)))) (
  .nil)))
/-- weight(guests, family) -/
def N_weight : List Str := ["guests", "family", "lot", "over", "under", "many", "left", "right"]
def io_weight : List Bool := [false, false]
def b_weight : Ss := (.cons (.exp (.call "check_family" (.cons false (.var 0) (.cons false (.var 1) (.nil))))) (
  .cons (.par false 3 (.con (.int 0)) false 4 (.con (.int 1))) (
  .cons (.fr (.nm 2) (.ex (.var 1)) (.cons (.asg 5 (.call "ways" (.cons false (.var 0) (.cons false (.blt .len (.cons false (.var 2) (.nil))) (.nil))))) (
    .cons (.par false 3 (.op .add (.op .mul (.var 3) (.var 5)) (.var 4)) false 4 (.op .mul (.var 4) (.var 5))) (
    .cons (.par false 6 (.var 3) false 7 (.var 4)) (
    .cons (.wh (.op .gt (.var 7) (.con (.int 0))) (.cons (.par false 6 (.var 7) false 7 (.op .mod (.var 6) (.var 7))) (
      .nil))) (
    .cons (.par false 3 (.op .fdiv (.var 3) (.var 6)) false 4 (.op .fdiv (.var 4) (.var 6))) (
    .nil))))))) (
  .cons (.ret (.tup (.cons false (.var 3) (.cons false (.var 4) (.nil))))) (
  .nil)))))
/-- open_of(guests, lot) -/
def N_open_of : List Str := ["guests", "lot", "found", "guest"]
def io_open_of : List Bool := [false, false]
def b_open_of : Ss := (.cons (.own 2 (.lst (.nil))) (
  .cons (.fr (.nm 3) (.rng1 (.var 0)) (.cons (.ifs (.op .notin (.var 3) (.var 1)) (.cons (.app 2 (.var 3)) (
      .nil)) (.cons (.ifs (.op .ne (.var 2) (.lst (.nil))) (.cons (.exp (.pop 2)) (
        .nil)) (.nil)) (
      .nil))) (
    .nil))) (
  .cons (.retP 2) (
  .nil))))
/-- shut_of(guests, lot) -/
def N_shut_of : List Str := ["guests", "lot", "guest", "many", "found"]
def io_shut_of : List Bool := [false, false]
def b_shut_of : Ss := (.cons (.par false 3 (.con (.int 0)) true 4 (.lst (.nil))) (
  .cons (.fr (.nm 2) (.rng1 (.var 0)) (.cons (.ifs (.op .notin (.var 2) (.var 1)) (.cons (.asg 3 (.op .add (.var 3) (.con (.int 1)))) (
      .nil)) (.cons (.ifs (.op .gt (.var 3) (.con (.int 0))) (.cons (.asg 3 (.op .sub (.var 3) (.con (.int 1)))) (
        .nil)) (.cons (.app 4 (.var 2)) (
        .nil))) (
      .nil))) (
    .nil))) (
  .cons (.retP 4) (
  .nil))))
/-- middle_chains(guests) -/
def N_middle_chains : List Str := ["guests", "found", "lot", "chain", "guest"]
def io_middle_chains : List Bool := [false]
def b_middle_chains : Ss := (.cons (.exp (.call "check_guests" (.cons false (.var 0) (.nil)))) (
  .cons (.own 1 (.lst (.nil))) (
  .cons (.fr (.nm 2) (.ex (.call "parts_of" (.cons false (.blt .trg1 (.cons false (.var 0) (.nil))) (.nil)))) (.cons (.ifs (.op .eq (.call "shut_of" (.cons false (.var 0) (.cons false (.var 2) (.nil)))) (.lst (.nil))) (.cons (.own 3 (.lst (.cons false (.var 2) (.nil)))) (
      .cons (.fr (.nm 4) (.ex (.call "open_of" (.cons false (.var 0) (.cons false (.var 2) (.nil))))) (.cons (.app 3 (.blt .tuple (.cons false (.blt .sorted (.cons false (.lst (.cons true (.op .idx (.var 3) (.neg (.con (.int 1)))) (.cons false (.var 4) (.nil)))) (.nil))) (.nil)))) (
        .nil))) (
      .cons (.app 1 (.blt .tuple (.cons false (.var 3) (.nil)))) (
      .nil)))) (.nil)) (
    .nil))) (
  .cons (.ret (.blt .tuple (.cons false (.blt .sorted (.cons false (.var 1) (.nil))) (.nil)))) (
  .nil)))))
/-- most_unlike(guests) -/
def N_most_unlike : List Str := ["guests"]
def io_most_unlike : List Bool := [false]
def b_most_unlike : Ss := (.cons (.ret (.blt .len (.cons false (.call "middle_chains" (.cons false (.var 0) (.nil))) (.nil)))) (
  .nil))
/-- shift_of(family, one, other) -/
def N_shift_of : List Str := ["family", "one", "other", "lot", "known", "found", "new", "is_shifted", "guest"]
def io_shift_of : List Bool := [false, false, false]
def b_shift_of : Ss := (.cons (.par false 4 (.dcm [3] (.nm 3) (.ex (.var 0)) false (.con .none) (.var 3) (.con (.bool true))) true 5 (.lst (.nil))) (
  .cons (.fr (.nm 3) (.ex (.var 0)) (.cons (.asg 6 (.blt .tuple (.cons false (.blt .sorted (.cons false (.cmp [8] (.nm 8) (.ex (.var 3)) false (.con .none) (.ite (.op .eq (.var 8) (.var 2)) (.var 1) (.var 8))) (.nil))) (.nil)))) (
    .cons (.asg 7 (.and (.op .in_ (.var 2) (.var 3)) (.and (.op .notin (.var 1) (.var 3)) (.op .notin (.var 6) (.var 4))))) (
    .cons (.app 5 (.ite (.var 7) (.var 6) (.var 3))) (
    .nil))))) (
  .cons (.ret (.blt .tuple (.cons false (.blt .sorted (.cons false (.var 5) (.nil))) (.nil)))) (
  .nil))))
/-- shift(guests, family, one, other) -/
def N_shift : List Str := ["guests", "family", "one", "other"]
def io_shift : List Bool := [false, false, false, false]
def b_shift : Ss := (.cons (.exp (.call "check_family" (.cons false (.var 0) (.cons false (.var 1) (.nil))))) (
  .cons (.ifs (.not (.call "is_integer" (.cons false (.var 2) (.cons false (.con (.int 0)) (.cons false (.op .sub (.var 0) (.con (.int 1))) (.nil)))))) (.cons (.stop) (
    .nil)) (.nil)) (
  .cons (.ifs (.not (.call "is_integer" (.cons false (.var 3) (.cons false (.op .add (.var 2) (.con (.int 1))) (.cons false (.op .sub (.var 0) (.con (.int 1))) (.nil)))))) (.cons (.stop) (
    .nil)) (.nil)) (
  .cons (.ret (.call "shift_of" (.cons false (.var 1) (.cons false (.var 2) (.cons false (.var 3) (.nil)))))) (
  .nil)))))
/-- shifted(guests, family) -/
def N_shifted : List Str := ["guests", "family", "found", "last", "other", "one"]
def io_shifted : List Bool := [false, false]
def b_shifted : Ss := (.cons (.exp (.call "check_family" (.cons false (.var 0) (.cons false (.var 1) (.nil))))) (
  .cons (.par false 2 (.var 1) false 3 (.con .none)) (
  .cons (.wh (.op .ne (.var 2) (.var 3)) (.cons (.asg 3 (.var 2)) (
    .cons (.fr (.nm 4) (.rng1 (.var 0)) (.cons (.fr (.nm 5) (.rng1 (.var 4)) (.cons (.asg 2 (.call "shift_of" (.cons false (.var 2) (.cons false (.var 5) (.cons false (.var 4) (.nil)))))) (
        .nil))) (
      .nil))) (
    .nil)))) (
  .cons (.ret (.var 2)) (
  .nil)))))
/-- shadow(guests, family) -/
def N_shadow : List Str := ["guests", "family", "found", "lot", "at"]
def io_shadow : List Bool := [false, false]
def b_shadow : Ss := (.cons (.exp (.call "check_family" (.cons false (.var 0) (.cons false (.var 1) (.nil))))) (
  .cons (.own 2 (.dic)) (
  .cons (.fr (.nm 3) (.ex (.var 1)) (.cons (.upd 2 (.dcm [4] (.nm 4) (.rng1 (.blt .len (.cons false (.var 3) (.nil)))) false (.con .none) (.tup (.cons true (.slc (.var 3) false (.con .none) true (.var 4)) (.cons true (.slc (.var 3) true (.op .add (.var 4) (.con (.int 1))) false (.con .none)) (.nil)))) (.con (.bool true)))) (
    .nil))) (
  .cons (.ret (.blt .tuple (.cons false (.blt .sorted (.cons false (.var 2) (.nil))) (.nil)))) (
  .nil)))))
/-- most_meeting(guests, size) -/
def N_most_meeting : List Str := ["guests", "size"]
def io_most_meeting : List Bool := [false, false]
def b_most_meeting : Ss := (.cons (.exp (.call "check_guests" (.cons false (.var 0) (.nil)))) (
  .cons (.ifs (.not (.call "is_integer" (.cons false (.var 1) (.cons false (.con (.int 1)) (.cons false (.var 0) (.nil)))))) (.cons (.stop) (
    .nil)) (.nil)) (
  .cons (.ret (.ite (.op .le (.op .mul (.con (.int 2)) (.var 1)) (.var 0)) (.call "ways" (.cons false (.op .sub (.var 0) (.con (.int 1))) (.cons false (.op .sub (.var 1) (.con (.int 1))) (.nil)))) (.call "ways" (.cons false (.var 0) (.cons false (.var 1) (.nil)))))) (
  .nil))))
/-- _law_pot(script, place) -/
def N__law_pot : List Str := ["script", "place", "cell", "own", "small"]
def io__law_pot : List Bool := [false, false]
def b__law_pot : Ss := (.cons (.asg 2 (.ite (.op .lt (.var 1) (.blt .len (.cons false (.var 0) (.nil)))) (.op .idx (.var 0) (.var 1)) (.op .add (.op .add (.op .mod (.blt .sum (.cons false (.slc (.var 0) false (.con .none) true (.con (.int 1))) (.nil))) (.con (.int 1000003))) (.op .mul (.con (.int 14609)) (.var 1))) (.con (.int 431))))) (
  .cons (.asg 3 (.op .mul (.op .mod (.blt .int (.cons false (.blt .abs (.cons false (.var 2) (.nil))) (.nil))) (.op .pow (.op .pow (.con (.int 10)) (.con (.int 60))) (.con (.int 5)))) (.blt .int (.cons false (.op .ge (.blt .abs (.cons false (.var 2) (.nil))) (.op .pow (.con (.int 10)) (.con (.int 18)))) (.nil))))) (
  .cons (.asg 4 (.op .mod (.blt .int (.cons false (.var 2) (.nil))) (.con (.int 2305843009213693951)))) (
  .cons (.ret (.lst (.cons false (.var 3) (.cons false (.op .mod (.blt .int (.cons false (.op .add (.op .add (.op .mul (.var 4) (.con (.int 102853))) (.op .mul (.op .mul (.con (.int 19519)) (.var 1)) (.var 1))) (.con (.int 838))) (.nil))) (.con (.int 2305843009213693921))) (.cons false (.con (.int 0)) (.nil)))))) (
  .nil)))))
/-- _law_take(pot, upto) -/
def N__law_take : List Str := ["pot", "upto", "prime", "blend", "digit"]
def io__law_take : List Bool := [true, false]
def b__law_take : Ss := (.cons (.ifs (.op .gt (.op .idx (.var 0) (.con (.int 0))) (.con (.int 0))) (.cons (.asg 4 (.op .mod (.blt .int (.cons false (.op .idx (.var 0) (.con (.int 0))) (.nil))) (.var 1))) (
    .cons (.sidx 0 (.con (.int 0)) (.op .fdiv (.op .idx (.var 0) (.con (.int 0))) (.var 1))) (
    .cons (.ret (.var 4)) (
    .nil)))) (.nil)) (
  .cons (.sidx 0 (.con (.int 2)) (.op .add (.op .idx (.var 0) (.con (.int 2))) (.con (.int 1)))) (
  .cons (.asg 2 (.op .idx (.lst (.cons false (.con (.int 2147483647)) (.cons false (.con (.int 2147483629)) (.cons false (.con (.int 2147483587)) (.cons false (.con (.int 2147483579)) (.cons false (.con (.int 2147483563)) (.nil))))))) (.op .mod (.blt .int (.cons false (.op .idx (.var 0) (.con (.int 2))) (.nil))) (.con (.int 5))))) (
  .cons (.asg 3 (.op .mod (.blt .int (.cons false (.op .pow (.blt .int (.cons false (.op .add (.op .add (.op .idx (.var 0) (.con (.int 1))) (.op .mul (.op .mul (.con (.int 99923)) (.op .idx (.var 0) (.con (.int 2)))) (.op .idx (.var 0) (.con (.int 2))))) (.con (.int 638))) (.nil))) (.con (.int 3))) (.nil))) (.var 2))) (
  .cons (.asg 3 (.op .mod (.blt .int (.cons false (.op .mul (.var 3) (.op .add (.op .mod (.blt .int (.cons false (.var 3) (.nil))) (.con (.int 10259))) (.op .mul (.con (.int 122)) (.op .idx (.var 0) (.con (.int 2)))))) (.nil))) (.con (.int 2305843009213693907)))) (
  .cons (.ret (.op .mod (.blt .int (.cons false (.op .fdiv (.var 3) (.con (.int 152))) (.nil))) (.var 1))) (
  .nil)))))))
/-- _law_of(pot, some) -/
def N__law_of : List Str := ["pot", "some"]
def io__law_of : List Bool := [true, false]
def b__law_of : Ss := (.cons (.ret (.op .idx (.var 1) (.call "_law_take" (.cons false (.var 0) (.cons false (.blt .len (.cons false (.var 1) (.nil))) (.nil)))))) (
  .nil))
/-- _law_places(script, most) -/
def N__law_places : List Str := ["script", "most"]
def io__law_places : List Bool := [false, false]
def b__law_places : Ss := (.cons (.ret (.blt .lrg1 (.cons false (.blt .max2 (.cons false (.con (.int 1)) (.cons false (.blt .min2 (.cons false (.var 1) (.cons false (.blt .len (.cons false (.var 0) (.nil))) (.nil)))) (.nil)))) (.nil)))) (
  .nil))
/-- _law_g_parts(lot) -/
def N__law_g_parts : List Str := ["lot", "found", "guest", "part"]
def io__law_g_parts : List Bool := [false]
def b__law_g_parts : Ss := (.cons (.asg 1 (.lst (.cons false (.tup (.nil)) (.nil)))) (
  .cons (.fr (.nm 2) (.ex (.var 0)) (.cons (.asg 1 (.op .add (.var 1) (.cmp [3] (.nm 3) (.ex (.var 1)) false (.con .none) (.op .add (.var 3) (.tup (.cons false (.var 2) (.nil))))))) (
    .nil))) (
  .cons (.ret (.var 1)) (
  .nil))))
/-- _law_family(pot, guests) -/
def N__law_family : List Str := ["pot", "guests", "every", "size", "lot", "lap"]
def io__law_family : List Bool := [true, false]
def b__law_family : Ss := (.cons (.asg 2 (.call "_law_g_parts" (.cons false (.blt .trg1 (.cons false (.var 1) (.nil))) (.nil)))) (
  .cons (.ifs (.op .eq (.call "_law_take" (.cons false (.var 0) (.cons false (.con (.int 2)) (.nil)))) (.con (.int 0))) (.cons (.asg 3 (.blt .int (.cons false (.op .add (.con (.int 1)) (.call "_law_take" (.cons false (.var 0) (.cons false (.var 1) (.nil))))) (.nil)))) (
    .cons (.asg 2 (.cmp [4] (.nm 4) (.ex (.var 2)) true (.op .eq (.blt .len (.cons false (.var 4) (.nil))) (.var 3)) (.var 4))) (
    .nil))) (.nil)) (
  .cons (.ret (.blt .tuple (.cons false (.blt .srs (.cons false (.cmp [5] (.nm 5) (.rng1 (.call "_law_take" (.cons false (.var 0) (.cons false (.con (.int 12)) (.nil))))) false (.con .none) (.call "_law_of" (.cons false (.var 0) (.cons false (.var 2) (.nil))))) (.nil))) (.nil)))) (
  .nil))))
/-- _law_inside(one, other) -/
def N__law_inside : List Str := ["one", "other", "guest"]
def io__law_inside : List Bool := [false, false]
def b__law_inside : Ss := (.cons (.ret (.blt .all (.cons false (.cmp [2] (.nm 2) (.ex (.var 0)) false (.con .none) (.op .in_ (.var 2) (.var 1))) (.nil)))) (
  .nil))
/-- _law_ways(many, some) -/
def N__law_ways : List Str := ["many", "some", "found", "at"]
def io__law_ways : List Bool := [false, false]
def b__law_ways : Ss := (.cons (.asg 2 (.con (.int 1))) (
  .cons (.fr (.nm 3) (.rng1 (.var 1)) (.cons (.asg 2 (.op .fdiv (.op .mul (.var 2) (.op .sub (.var 0) (.var 3))) (.op .add (.var 3) (.con (.int 1))))) (
    .nil))) (
  .cons (.ret (.var 2)) (
  .nil))))
/-- _law_moved(family, one, other) -/
def N__law_moved : List Str := ["family", "one", "other", "found", "lot", "new", "guest"]
def io__law_moved : List Bool := [false, false, false]
def b__law_moved : Ss := (.cons (.own 3 (.lst (.nil))) (
  .cons (.fr (.nm 4) (.ex (.var 0)) (.cons (.asg 5 (.blt .tuple (.cons false (.blt .sorted (.cons false (.op .add (.cmp [6] (.nm 6) (.ex (.var 4)) true (.op .ne (.var 6) (.var 2)) (.var 6)) (.lst (.cons false (.var 1) (.nil)))) (.nil))) (.nil)))) (
    .cons (.app 3 (.ite (.and (.op .in_ (.var 2) (.var 4)) (.and (.op .notin (.var 1) (.var 4)) (.op .notin (.var 5) (.var 0)))) (.var 5) (.var 4))) (
    .nil)))) (
  .cons (.ret (.blt .tuple (.cons false (.blt .sorted (.cons false (.var 3) (.nil))) (.nil)))) (
  .nil))))
/-- _law_still(guests, family) -/
def N__law_still : List Str := ["guests", "family", "last", "other", "one"]
def io__law_still : List Bool := [false, false]
def b__law_still : Ss := (.cons (.asg 2 (.con .none)) (
  .cons (.wh (.op .ne (.var 1) (.var 2)) (.cons (.asg 2 (.var 1)) (
    .cons (.fr (.nm 3) (.rng1 (.var 0)) (.cons (.fr (.nm 4) (.rng1 (.var 3)) (.cons (.asg 1 (.call "_law_moved" (.cons false (.var 1) (.cons false (.var 4) (.cons false (.var 3) (.nil)))))) (
        .nil))) (
      .nil))) (
    .nil)))) (
  .cons (.ret (.var 1)) (
  .nil))))
/-- _law_shadow(family) -/
def N__law_shadow : List Str := ["family", "found", "lot", "guest", "one"]
def io__law_shadow : List Bool := [false]
def b__law_shadow : Ss := (.cons (.own 1 (.lst (.nil))) (
  .cons (.fr (.nm 2) (.ex (.var 0)) (.cons (.ext 1 (.cmp [3] (.nm 3) (.ex (.var 2)) false (.con .none) (.blt .tuple (.cons false (.cmp [4] (.nm 4) (.ex (.var 2)) true (.op .ne (.var 4) (.var 3)) (.var 4)) (.nil))))) (
    .nil))) (
  .cons (.ret (.blt .tuple (.cons false (.blt .srs (.cons false (.var 1) (.nil))) (.nil)))) (
  .nil))))
/-- _law_is_meeting(family) -/
def N__law_is_meeting : List Str := ["family", "one", "other", "guest"]
def io__law_is_meeting : List Bool := [false]
def b__law_is_meeting : Ss := (.cons (.ret (.blt .all (.cons false (.cmp [1] (.nm 1) (.ex (.var 0)) false (.con .none) (.blt .all (.cons false (.cmp [2] (.nm 2) (.ex (.var 0)) false (.con .none) (.blt .any (.cons false (.cmp [3] (.nm 3) (.ex (.var 1)) false (.con .none) (.op .in_ (.var 3) (.var 2))) (.nil)))) (.nil)))) (.nil)))) (
  .nil))
/-- _law_right(pot) -/
def N__law_right : List Str := ["pot", "guests", "family", "unlike", "whole", "size", "due", "still", "over", "under", "one", "other", "mine", "its", "lot", "part"]
def io__law_right : List Bool := [true]
def b__law_right : Ss := (.cons (.asg 1 (.blt .int (.cons false (.op .add (.con (.int 1)) (.call "_law_take" (.cons false (.var 0) (.cons false (.con (.int 6)) (.nil))))) (.nil)))) (
  .cons (.asg 2 (.call "_law_family" (.cons false (.var 0) (.cons false (.var 1) (.nil))))) (
  .cons (.asg 3 (.blt .all (.cons false (.cmp [10] (.nm 10) (.ex (.var 2)) false (.con .none) (.blt .all (.cons false (.cmp [11] (.nm 11) (.ex (.var 2)) false (.con .none) (.or (.op .eq (.var 10) (.var 11)) (.not (.call "_law_inside" (.cons false (.var 10) (.cons false (.var 11) (.nil))))))) (.nil)))) (.nil)))) (
  .cons (.ifs (.op .ne (.blt .repr (.cons false (.call "is_unlike" (.cons false (.var 1) (.cons false (.var 2) (.nil)))) (.nil))) (.blt .repr (.cons false (.var 3) (.nil)))) (.cons (.ret (.con (.bool false))) (
    .nil)) (.nil)) (
  .cons (.ifs (.op .ne (.blt .repr (.cons false (.call "is_meeting" (.cons false (.var 1) (.cons false (.var 2) (.nil)))) (.nil))) (.blt .repr (.cons false (.call "_law_is_meeting" (.cons false (.var 2) (.nil))) (.nil)))) (.cons (.ret (.con (.bool false))) (
    .nil)) (.nil)) (
  .cons (.unp [8, 9] (.call "weight" (.cons false (.var 1) (.cons false (.var 2) (.nil))))) (
  .cons (.asg 4 (.con (.int 1))) (
  .cons (.fr (.nm 5) (.rng1 (.op .add (.var 1) (.con (.int 1)))) (.cons (.asg 4 (.op .mul (.var 4) (.call "_law_ways" (.cons false (.var 1) (.cons false (.var 5) (.nil)))))) (
    .nil))) (
  .cons (.asg 6 (.blt .sum (.cons false (.cmp [14] (.nm 14) (.ex (.var 2)) false (.con .none) (.op .fdiv (.var 4) (.call "_law_ways" (.cons false (.var 1) (.cons false (.blt .len (.cons false (.var 14) (.nil))) (.nil)))))) (.nil)))) (
  .cons (.ifs (.or (.op .ne (.op .mul (.var 8) (.var 4)) (.op .mul (.var 9) (.var 6))) (.op .lt (.var 9) (.con (.int 1)))) (.cons (.ret (.con (.bool false))) (
    .nil)) (.nil)) (
  .cons (.ifs (.blt .any (.cons false (.cmp [15] (.nm 15) (.rng2 (.con (.int 2)) (.op .add (.var 9) (.con (.int 1)))) false (.con .none) (.and (.op .eq (.op .mod (.var 8) (.var 15)) (.con (.int 0))) (.op .eq (.op .mod (.var 9) (.var 15)) (.con (.int 0))))) (.nil))) (.cons (.ret (.con (.bool false))) (
    .nil)) (.nil)) (
  .cons (.ifs (.and (.var 3) (.op .gt (.var 8) (.var 9))) (.cons (.ret (.con (.bool false))) (
    .nil)) (.nil)) (
  .cons (.par false 10 (.blt .int (.cons false (.call "_law_take" (.cons false (.var 0) (.cons false (.var 1) (.nil)))) (.nil))) false 11 (.blt .int (.cons false (.call "_law_take" (.cons false (.var 0) (.cons false (.var 1) (.nil)))) (.nil)))) (
  .cons (.ifs (.and (.op .lt (.var 10) (.var 11)) (.op .ne (.blt .repr (.cons false (.call "shift" (.cons false (.var 1) (.cons false (.var 2) (.cons false (.var 10) (.cons false (.var 11) (.nil)))))) (.nil))) (.blt .repr (.cons false (.call "_law_moved" (.cons false (.var 2) (.cons false (.var 10) (.cons false (.var 11) (.nil))))) (.nil))))) (.cons (.ret (.con (.bool false))) (
    .nil)) (.nil)) (
  .cons (.asg 7 (.call "shifted" (.cons false (.var 1) (.cons false (.var 2) (.nil))))) (
  .cons (.ifs (.or (.op .ne (.blt .repr (.cons false (.var 7) (.nil))) (.blt .repr (.cons false (.call "_law_still" (.cons false (.var 1) (.cons false (.var 2) (.nil)))) (.nil)))) (.op .ne (.blt .repr (.cons false (.call "shadow" (.cons false (.var 1) (.cons false (.var 2) (.nil)))) (.nil))) (.blt .repr (.cons false (.call "_law_shadow" (.cons false (.var 2) (.nil))) (.nil))))) (.cons (.ret (.con (.bool false))) (
    .nil)) (.nil)) (
  .cons (.fr (.nm 5) (.rng1 (.op .add (.var 1) (.con (.int 1)))) (.cons (.par false 12 (.cmp [14] (.nm 14) (.ex (.var 2)) true (.op .eq (.blt .len (.cons false (.var 14) (.nil))) (.var 5)) (.var 14)) false 13 (.cmp [14] (.nm 14) (.ex (.var 7)) true (.op .eq (.blt .len (.cons false (.var 14) (.nil))) (.var 5)) (.var 14))) (
    .cons (.ifs (.or (.op .ne (.blt .len (.cons false (.var 12) (.nil))) (.blt .len (.cons false (.var 13) (.nil)))) (.op .gt (.blt .len (.cons false (.call "_law_shadow" (.cons false (.var 13) (.nil))) (.nil))) (.blt .len (.cons false (.call "_law_shadow" (.cons false (.var 12) (.nil))) (.nil))))) (.cons (.ret (.con (.bool false))) (
      .nil)) (.nil)) (
    .nil)))) (
  .cons (.ret (.or (.not (.call "_law_is_meeting" (.cons false (.var 2) (.nil)))) (.op .is_ (.call "is_meeting" (.cons false (.var 1) (.cons false (.var 7) (.nil)))) (.con (.bool true))))) (
  .nil)))))))))))))))))))
/-- _law_are_chains_right(guests) -/
def N__law_are_chains_right : List Str := ["guests", "chain", "found", "seen", "one", "other", "free", "guest"]
def io__law_are_chains_right : List Bool := [false]
def b__law_are_chains_right : Ss := (.cons (.par false 2 (.call "middle_chains" (.cons false (.var 0) (.nil))) true 3 (.lst (.nil))) (
  .cons (.ifs (.or (.op .ne (.blt .list (.cons false (.var 2) (.nil))) (.blt .sorted (.cons false (.var 2) (.nil)))) (.op .ne (.call "most_unlike" (.cons false (.var 0) (.nil))) (.blt .len (.cons false (.var 2) (.nil))))) (.cons (.ret (.con (.bool false))) (
    .nil)) (.nil)) (
  .cons (.ifs (.op .ne (.blt .len (.cons false (.var 2) (.nil))) (.call "_law_ways" (.cons false (.var 0) (.cons false (.op .fdiv (.var 0) (.con (.int 2))) (.nil))))) (.cons (.ret (.con (.bool false))) (
    .nil)) (.nil)) (
  .cons (.fr (.nm 1) (.ex (.var 2)) (.cons (.ifs (.op .ne (.op .add (.blt .len (.cons false (.op .idx (.var 1) (.con (.int 0))) (.nil))) (.blt .len (.cons false (.op .idx (.var 1) (.neg (.con (.int 1)))) (.nil)))) (.var 0)) (.cons (.ret (.con (.bool false))) (
      .nil)) (.nil)) (
    .cons (.fr (.tp [4, 5]) (.zip (.var 1) (.slc (.var 1) true (.con (.int 1)) false (.con .none))) (.cons (.own 6 (.lst (.nil))) (
      .cons (.fr (.nm 7) (.rng1 (.var 0)) (.cons (.ifs (.op .notin (.var 7) (.var 4)) (.cons (.app 6 (.var 7)) (
          .nil)) (.cons (.ifs (.op .ne (.var 6) (.lst (.nil))) (.cons (.exp (.pop 6)) (
            .nil)) (.nil)) (
          .nil))) (
        .nil))) (
      .cons (.ifs (.op .ne (.var 5) (.blt .tuple (.cons false (.blt .sorted (.cons false (.op .add (.var 4) (.tup (.cons false (.op .idx (.var 6) (.con (.int 0))) (.nil)))) (.nil))) (.nil)))) (.cons (.ret (.con (.bool false))) (
        .nil)) (.nil)) (
      .nil))))) (
    .cons (.ext 3 (.blt .list (.cons false (.var 1) (.nil)))) (
    .nil))))) (
  .cons (.ret (.op .eq (.blt .sorted (.cons false (.var 3) (.nil))) (.blt .sorted (.cons false (.call "_law_g_parts" (.cons false (.blt .trg1 (.cons false (.var 0) (.nil))) (.nil))) (.nil))))) (
  .nil))))))
/-- _law_most_by_look(guests, size) -/
def N__law_most_by_look : List Str := ["guests", "size", "every", "best", "waiting", "lot", "some", "left", "one", "guest"]
def io__law_most_by_look : List Bool := [false, false]
def b__law_most_by_look : Ss := (.cons (.asg 2 (.cmp [5] (.nm 5) (.ex (.call "_law_g_parts" (.cons false (.blt .trg1 (.cons false (.var 0) (.nil))) (.nil)))) true (.op .eq (.blt .len (.cons false (.var 5) (.nil))) (.var 1)) (.var 5))) (
  .cons (.par false 3 (.con (.int 0)) true 4 (.lst (.cons false (.tup (.cons false (.tup (.nil)) (.cons false (.var 2) (.nil)))) (.nil)))) (
  .cons (.wh (.op .ne (.var 4) (.lst (.nil))) (.cons (.unp [6, 7] (.pop 4)) (
    .cons (.asg 3 (.blt .max2 (.cons false (.var 3) (.cons false (.blt .len (.cons false (.var 6) (.nil))) (.nil))))) (
    .cons (.ifs (.and (.op .ne (.var 7) (.lst (.nil))) (.op .gt (.op .add (.blt .len (.cons false (.var 6) (.nil))) (.blt .len (.cons false (.var 7) (.nil)))) (.var 3))) (.cons (.asg 8 (.op .idx (.var 7) (.con (.int 0)))) (
      .cons (.app 4 (.tup (.cons false (.var 6) (.cons false (.slc (.var 7) true (.con (.int 1)) false (.con .none)) (.nil))))) (
      .cons (.app 4 (.tup (.cons false (.op .add (.var 6) (.tup (.cons false (.var 8) (.nil)))) (.cons false (.cmp [5] (.nm 5) (.ex (.slc (.var 7) true (.con (.int 1)) false (.con .none))) true (.blt .any (.cons false (.cmp [9] (.nm 9) (.ex (.var 5)) false (.con .none) (.op .in_ (.var 9) (.var 8))) (.nil))) (.var 5)) (.nil))))) (
      .nil)))) (.nil)) (
    .nil))))) (
  .cons (.ret (.var 3)) (
  .nil)))))
/-- law(script) -/
def N_law : List Str := ["script", "place", "guests", "size", "pot", "lap"]
def io_law : List Bool := [false]
def b_law : Ss := (.cons (.ifs (.or (.op .ne (.call "middle_chains" (.cons false (.con (.int 2)) (.nil))) (.tup (.cons false (.tup (.cons false (.tup (.nil)) (.cons false (.tup (.cons false (.con (.int 0)) (.nil))) (.cons false (.tup (.cons false (.con (.int 0)) (.cons false (.con (.int 1)) (.nil)))) (.nil))))) (.cons false (.tup (.cons false (.tup (.cons false (.con (.int 1)) (.nil))) (.nil))) (.nil))))) (.op .ne (.call "shifted" (.cons false (.con (.int 4)) (.cons false (.tup (.cons false (.tup (.cons false (.con (.int 1)) (.cons false (.con (.int 3)) (.nil)))) (.cons false (.tup (.cons false (.con (.int 2)) (.cons false (.con (.int 3)) (.nil)))) (.nil)))) (.nil)))) (.tup (.cons false (.tup (.cons false (.con (.int 0)) (.cons false (.con (.int 1)) (.nil)))) (.cons false (.tup (.cons false (.con (.int 0)) (.cons false (.con (.int 2)) (.nil)))) (.nil)))))) (.cons (.ret (.con (.bool false))) (
    .nil)) (.nil)) (
  .cons (.fr (.tp [2, 3]) (.ex (.tup (.cons false (.tup (.cons false (.con (.int 1)) (.cons false (.con (.int 1)) (.nil)))) (.cons false (.tup (.cons false (.con (.int 3)) (.cons false (.con (.int 1)) (.nil)))) (.cons false (.tup (.cons false (.con (.int 4)) (.cons false (.con (.int 2)) (.nil)))) (.cons false (.tup (.cons false (.con (.int 5)) (.cons false (.con (.int 2)) (.nil)))) (.cons false (.tup (.cons false (.con (.int 5)) (.cons false (.con (.int 3)) (.nil)))) (.cons false (.tup (.cons false (.con (.int 5)) (.cons false (.con (.int 4)) (.nil)))) (.nil))))))))) (.cons (.ifs (.op .ne (.blt .repr (.cons false (.call "most_meeting" (.cons false (.var 2) (.cons false (.var 3) (.nil)))) (.nil))) (.blt .repr (.cons false (.call "_law_most_by_look" (.cons false (.var 2) (.cons false (.var 3) (.nil)))) (.nil)))) (.cons (.ret (.con (.bool false))) (
      .nil)) (.nil)) (
    .nil))) (
  .cons (.ifs (.or (.op .ne (.call "most_meeting" (.cons false (.con (.int 10)) (.cons false (.con (.int 5)) (.nil)))) (.con (.int 126))) (.or (.op .ne (.call "most_meeting" (.cons false (.con (.int 10)) (.cons false (.con (.int 6)) (.nil)))) (.con (.int 210))) (.op .ne (.call "most_unlike" (.cons false (.con (.int 8)) (.nil))) (.con (.int 70))))) (.cons (.ret (.con (.bool false))) (
    .nil)) (.nil)) (
  .cons (.fr (.nm 1) (.ex (.call "_law_places" (.cons false (.var 0) (.cons false (.con (.int 3)) (.nil))))) (.cons (.own 4 (.call "_law_pot" (.cons false (.var 0) (.cons false (.var 1) (.nil))))) (
    .cons (.ifs (.or (.not (.call "_law_are_chains_right" (.cons false (.blt .int (.cons false (.op .add (.con (.int 1)) (.call "_law_take" (.cons false (.var 4) (.cons false (.con (.int 7)) (.nil))))) (.nil))) (.nil)))) (.not (.blt .all (.cons false (.cmp [5] (.nm 5) (.rng1 (.con (.int 5))) false (.con .none) (.call "_law_right" (.cons false (.var 4) (.nil)))) (.nil))))) (.cons (.ret (.con (.bool false))) (
      .nil)) (.nil)) (
    .nil)))) (
  .cons (.ret (.con (.bool true))) (
  .nil))))))

def top (i : Nat) : Stmt := PySem.Challenge.pw_hollowwithin_k69_whole_unlike_lots.main.body.getD i (.Pass ⟨0, 0, 0, 0⟩)
def Cn (x : Str) : Option Int := if x = "MOST_GUESTS" then some 10 else  none
theorem c__law_places : chkSs ⟨N__law_places, Cn⟩ 60 (defScope (top 37)) (defBody (top 37)) b__law_places = true := by decide +kernel
theorem sc__law_places : FnScope N__law_places ["script", "most"] (defScope (top 37)) := ⟨rfl, rfl, rfl, by decide +kernel, rfl, by decide +kernel, by decide +kernel⟩
def F__law_places : FS := fsOf [] true io__law_places N__law_places b__law_places
theorem c__law_pot : chkSs ⟨N__law_pot, Cn⟩ 60 (defScope (top 34)) (defBody (top 34)) b__law_pot = true := by decide +kernel
theorem sc__law_pot : FnScope N__law_pot ["script", "place"] (defScope (top 34)) := ⟨rfl, rfl, rfl, by decide +kernel, rfl, by decide +kernel, by decide +kernel⟩
def F__law_pot : FS := fsOf [] true io__law_pot N__law_pot b__law_pot
theorem c_is_whole : chkSs ⟨N_is_whole, Cn⟩ 60 (defScope (top 1)) (defBody (top 1)) b_is_whole = true := by decide +kernel
theorem sc_is_whole : FnScope N_is_whole ["value"] (defScope (top 1)) := ⟨rfl, rfl, rfl, by decide +kernel, rfl, by decide +kernel, by decide +kernel⟩
def F_is_whole : FS := fsOf [] false io_is_whole N_is_whole b_is_whole
theorem c_is_integer : chkSs ⟨N_is_integer, Cn⟩ 60 (defScope (top 2)) (defBody (top 2)) b_is_integer = true := by decide +kernel
theorem sc_is_integer : FnScope N_is_integer ["value", "low", "high"] (defScope (top 2)) := ⟨rfl, rfl, rfl, by decide +kernel, rfl, by decide +kernel, by decide +kernel⟩
def F_is_integer : FS := fsOf [("is_whole", F_is_whole)] false io_is_integer N_is_integer b_is_integer
theorem c_check_guests : chkSs ⟨N_check_guests, Cn⟩ 60 (defScope (top 18)) (defBody (top 18)) b_check_guests = true := by decide +kernel
theorem sc_check_guests : FnScope N_check_guests ["value"] (defScope (top 18)) := ⟨rfl, rfl, rfl, by decide +kernel, rfl, by decide +kernel, by decide +kernel⟩
def F_check_guests : FS := fsOf [("is_integer", F_is_integer)] false io_check_guests N_check_guests b_check_guests
theorem c_parts_of : chkSs ⟨N_parts_of, Cn⟩ 60 (defScope (top 14)) (defBody (top 14)) b_parts_of = true := by decide +kernel
theorem sc_parts_of : FnScope N_parts_of ["lot"] (defScope (top 14)) := ⟨rfl, rfl, rfl, by decide +kernel, rfl, by decide +kernel, by decide +kernel⟩
def F_parts_of : FS := fsOf [] true io_parts_of N_parts_of b_parts_of
theorem c_shut_of : chkSs ⟨N_shut_of, Cn⟩ 60 (defScope (top 25)) (defBody (top 25)) b_shut_of = true := by decide +kernel
theorem sc_shut_of : FnScope N_shut_of ["guests", "lot"] (defScope (top 25)) := ⟨rfl, rfl, rfl, by decide +kernel, rfl, by decide +kernel, by decide +kernel⟩
def F_shut_of : FS := fsOf [] true io_shut_of N_shut_of b_shut_of
theorem c_open_of : chkSs ⟨N_open_of, Cn⟩ 60 (defScope (top 24)) (defBody (top 24)) b_open_of = true := by decide +kernel
theorem sc_open_of : FnScope N_open_of ["guests", "lot"] (defScope (top 24)) := ⟨rfl, rfl, rfl, by decide +kernel, rfl, by decide +kernel, by decide +kernel⟩
def F_open_of : FS := fsOf [] true io_open_of N_open_of b_open_of
theorem c_middle_chains : chkSs ⟨N_middle_chains, Cn⟩ 60 (defScope (top 26)) (defBody (top 26)) b_middle_chains = true := by decide +kernel
theorem sc_middle_chains : FnScope N_middle_chains ["guests"] (defScope (top 26)) := ⟨rfl, rfl, rfl, by decide +kernel, rfl, by decide +kernel, by decide +kernel⟩
def F_middle_chains : FS := fsOf [("check_guests", F_check_guests), ("parts_of", F_parts_of), ("shut_of", F_shut_of), ("open_of", F_open_of)] false io_middle_chains N_middle_chains b_middle_chains
theorem c_is_rising : chkSs ⟨N_is_rising, Cn⟩ 60 (defScope (top 3)) (defBody (top 3)) b_is_rising = true := by decide +kernel
theorem sc_is_rising : FnScope N_is_rising ["values"] (defScope (top 3)) := ⟨rfl, rfl, rfl, by decide +kernel, rfl, by decide +kernel, by decide +kernel⟩
def F_is_rising : FS := fsOf [] false io_is_rising N_is_rising b_is_rising
theorem c_is_lot : chkSs ⟨N_is_lot, Cn⟩ 60 (defScope (top 12)) (defBody (top 12)) b_is_lot = true := by decide +kernel
theorem sc_is_lot : FnScope N_is_lot ["guests", "value"] (defScope (top 12)) := ⟨rfl, rfl, rfl, by decide +kernel, rfl, by decide +kernel, by decide +kernel⟩
def F_is_lot : FS := fsOf [("is_rising", F_is_rising), ("is_integer", F_is_integer)] false io_is_lot N_is_lot b_is_lot
theorem c_check_family : chkSs ⟨N_check_family, Cn⟩ 60 (defScope (top 19)) (defBody (top 19)) b_check_family = true := by decide +kernel
theorem sc_check_family : FnScope N_check_family ["guests", "value"] (defScope (top 19)) := ⟨rfl, rfl, rfl, by decide +kernel, rfl, by decide +kernel, by decide +kernel⟩
def F_check_family : FS := fsOf [("check_guests", F_check_guests), ("is_rising", F_is_rising), ("is_lot", F_is_lot)] false io_check_family N_check_family b_check_family
theorem c_shift_of : chkSs ⟨N_shift_of, Cn⟩ 60 (defScope (top 28)) (defBody (top 28)) b_shift_of = true := by decide +kernel
theorem sc_shift_of : FnScope N_shift_of ["family", "one", "other"] (defScope (top 28)) := ⟨rfl, rfl, rfl, by decide +kernel, rfl, by decide +kernel, by decide +kernel⟩
def F_shift_of : FS := fsOf [] false io_shift_of N_shift_of b_shift_of
theorem c_shifted : chkSs ⟨N_shifted, Cn⟩ 60 (defScope (top 30)) (defBody (top 30)) b_shifted = true := by decide +kernel
theorem sc_shifted : FnScope N_shifted ["guests", "family"] (defScope (top 30)) := ⟨rfl, rfl, rfl, by decide +kernel, rfl, by decide +kernel, by decide +kernel⟩
def F_shifted : FS := fsOf [("check_family", F_check_family), ("shift_of", F_shift_of)] false io_shifted N_shifted b_shifted
theorem c_ways : chkSs ⟨N_ways, Cn⟩ 60 (defScope (top 16)) (defBody (top 16)) b_ways = true := by decide +kernel
theorem sc_ways : FnScope N_ways ["many", "some"] (defScope (top 16)) := ⟨rfl, rfl, rfl, by decide +kernel, rfl, by decide +kernel, by decide +kernel⟩
def F_ways : FS := fsOf [] false io_ways N_ways b_ways
theorem c_most_meeting : chkSs ⟨N_most_meeting, Cn⟩ 60 (defScope (top 32)) (defBody (top 32)) b_most_meeting = true := by decide +kernel
theorem sc_most_meeting : FnScope N_most_meeting ["guests", "size"] (defScope (top 32)) := ⟨rfl, rfl, rfl, by decide +kernel, rfl, by decide +kernel, by decide +kernel⟩
def F_most_meeting : FS := fsOf [("check_guests", F_check_guests), ("is_integer", F_is_integer), ("ways", F_ways)] false io_most_meeting N_most_meeting b_most_meeting
theorem c_most_unlike : chkSs ⟨N_most_unlike, Cn⟩ 60 (defScope (top 27)) (defBody (top 27)) b_most_unlike = true := by decide +kernel
theorem sc_most_unlike : FnScope N_most_unlike ["guests"] (defScope (top 27)) := ⟨rfl, rfl, rfl, by decide +kernel, rfl, by decide +kernel, by decide +kernel⟩
def F_most_unlike : FS := fsOf [("middle_chains", F_middle_chains)] false io_most_unlike N_most_unlike b_most_unlike
theorem c__law_g_parts : chkSs ⟨N__law_g_parts, Cn⟩ 60 (defScope (top 38)) (defBody (top 38)) b__law_g_parts = true := by decide +kernel
theorem sc__law_g_parts : FnScope N__law_g_parts ["lot"] (defScope (top 38)) := ⟨rfl, rfl, rfl, by decide +kernel, rfl, by decide +kernel, by decide +kernel⟩
def F__law_g_parts : FS := fsOf [] false io__law_g_parts N__law_g_parts b__law_g_parts
theorem c__law_most_by_look : chkSs ⟨N__law_most_by_look, Cn⟩ 60 (defScope (top 48)) (defBody (top 48)) b__law_most_by_look = true := by decide +kernel
theorem sc__law_most_by_look : FnScope N__law_most_by_look ["guests", "size"] (defScope (top 48)) := ⟨rfl, rfl, rfl, by decide +kernel, rfl, by decide +kernel, by decide +kernel⟩
def F__law_most_by_look : FS := fsOf [("_law_g_parts", F__law_g_parts)] false io__law_most_by_look N__law_most_by_look b__law_most_by_look
theorem c__law_ways : chkSs ⟨N__law_ways, Cn⟩ 60 (defScope (top 41)) (defBody (top 41)) b__law_ways = true := by decide +kernel
theorem sc__law_ways : FnScope N__law_ways ["many", "some"] (defScope (top 41)) := ⟨rfl, rfl, rfl, by decide +kernel, rfl, by decide +kernel, by decide +kernel⟩
def F__law_ways : FS := fsOf [] false io__law_ways N__law_ways b__law_ways
theorem c__law_are_chains_right : chkSs ⟨N__law_are_chains_right, Cn⟩ 60 (defScope (top 47)) (defBody (top 47)) b__law_are_chains_right = true := by decide +kernel
theorem sc__law_are_chains_right : FnScope N__law_are_chains_right ["guests"] (defScope (top 47)) := ⟨rfl, rfl, rfl, by decide +kernel, rfl, by decide +kernel, by decide +kernel⟩
def F__law_are_chains_right : FS := fsOf [("middle_chains", F_middle_chains), ("_law_ways", F__law_ways), ("most_unlike", F_most_unlike), ("_law_g_parts", F__law_g_parts)] false io__law_are_chains_right N__law_are_chains_right b__law_are_chains_right
theorem c__law_take : chkSs ⟨N__law_take, Cn⟩ 60 (defScope (top 35)) (defBody (top 35)) b__law_take = true := by decide +kernel
theorem sc__law_take : FnScope N__law_take ["pot", "upto"] (defScope (top 35)) := ⟨rfl, rfl, rfl, by decide +kernel, rfl, by decide +kernel, by decide +kernel⟩
def F__law_take : FS := fsOf [] false io__law_take N__law_take b__law_take
theorem c__law_of : chkSs ⟨N__law_of, Cn⟩ 60 (defScope (top 36)) (defBody (top 36)) b__law_of = true := by decide +kernel
theorem sc__law_of : FnScope N__law_of ["pot", "some"] (defScope (top 36)) := ⟨rfl, rfl, rfl, by decide +kernel, rfl, by decide +kernel, by decide +kernel⟩
def F__law_of : FS := fsOf [("_law_take", F__law_take)] false io__law_of N__law_of b__law_of
theorem c__law_family : chkSs ⟨N__law_family, Cn⟩ 60 (defScope (top 39)) (defBody (top 39)) b__law_family = true := by decide +kernel
theorem sc__law_family : FnScope N__law_family ["pot", "guests"] (defScope (top 39)) := ⟨rfl, rfl, rfl, by decide +kernel, rfl, by decide +kernel, by decide +kernel⟩
def F__law_family : FS := fsOf [("_law_g_parts", F__law_g_parts), ("_law_take", F__law_take), ("_law_of", F__law_of)] false io__law_family N__law_family b__law_family
theorem c_weight : chkSs ⟨N_weight, Cn⟩ 60 (defScope (top 23)) (defBody (top 23)) b_weight = true := by decide +kernel
theorem sc_weight : FnScope N_weight ["guests", "family"] (defScope (top 23)) := ⟨rfl, rfl, rfl, by decide +kernel, rfl, by decide +kernel, by decide +kernel⟩
def F_weight : FS := fsOf [("check_family", F_check_family), ("ways", F_ways)] false io_weight N_weight b_weight
theorem c_is_within : chkSs ⟨N_is_within, Cn⟩ 60 (defScope (top 13)) (defBody (top 13)) b_is_within = true := by decide +kernel
theorem sc_is_within : FnScope N_is_within ["one", "other"] (defScope (top 13)) := ⟨rfl, rfl, rfl, by decide +kernel, rfl, by decide +kernel, by decide +kernel⟩
def F_is_within : FS := fsOf [] false io_is_within N_is_within b_is_within
theorem c_is_unlike : chkSs ⟨N_is_unlike, Cn⟩ 60 (defScope (top 20)) (defBody (top 20)) b_is_unlike = true := by decide +kernel
theorem sc_is_unlike : FnScope N_is_unlike ["guests", "family"] (defScope (top 20)) := ⟨rfl, rfl, rfl, by decide +kernel, rfl, by decide +kernel, by decide +kernel⟩
def F_is_unlike : FS := fsOf [("check_family", F_check_family), ("is_within", F_is_within)] false io_is_unlike N_is_unlike b_is_unlike
theorem c_meet : chkSs ⟨N_meet, Cn⟩ 60 (defScope (top 21)) (defBody (top 21)) b_meet = true := by decide +kernel
theorem sc_meet : FnScope N_meet ["one", "other"] (defScope (top 21)) := ⟨rfl, rfl, rfl, by decide +kernel, rfl, by decide +kernel, by decide +kernel⟩
def F_meet : FS := fsOf [] false io_meet N_meet b_meet
theorem c_is_meeting : chkSs ⟨N_is_meeting, Cn⟩ 60 (defScope (top 22)) (defBody (top 22)) b_is_meeting = true := by decide +kernel
theorem sc_is_meeting : FnScope N_is_meeting ["guests", "family"] (defScope (top 22)) := ⟨rfl, rfl, rfl, by decide +kernel, rfl, by decide +kernel, by decide +kernel⟩
def F_is_meeting : FS := fsOf [("check_family", F_check_family), ("meet", F_meet)] false io_is_meeting N_is_meeting b_is_meeting
theorem c__law_is_meeting : chkSs ⟨N__law_is_meeting, Cn⟩ 60 (defScope (top 45)) (defBody (top 45)) b__law_is_meeting = true := by decide +kernel
theorem sc__law_is_meeting : FnScope N__law_is_meeting ["family"] (defScope (top 45)) := ⟨rfl, rfl, rfl, by decide +kernel, rfl, by decide +kernel, by decide +kernel⟩
def F__law_is_meeting : FS := fsOf [] false io__law_is_meeting N__law_is_meeting b__law_is_meeting
theorem c_shift : chkSs ⟨N_shift, Cn⟩ 60 (defScope (top 29)) (defBody (top 29)) b_shift = true := by decide +kernel
theorem sc_shift : FnScope N_shift ["guests", "family", "one", "other"] (defScope (top 29)) := ⟨rfl, rfl, rfl, by decide +kernel, rfl, by decide +kernel, by decide +kernel⟩
def F_shift : FS := fsOf [("check_family", F_check_family), ("shift_of", F_shift_of), ("is_integer", F_is_integer)] false io_shift N_shift b_shift
theorem c__law_moved : chkSs ⟨N__law_moved, Cn⟩ 60 (defScope (top 42)) (defBody (top 42)) b__law_moved = true := by decide +kernel
theorem sc__law_moved : FnScope N__law_moved ["family", "one", "other"] (defScope (top 42)) := ⟨rfl, rfl, rfl, by decide +kernel, rfl, by decide +kernel, by decide +kernel⟩
def F__law_moved : FS := fsOf [] false io__law_moved N__law_moved b__law_moved
theorem c__law_still : chkSs ⟨N__law_still, Cn⟩ 60 (defScope (top 43)) (defBody (top 43)) b__law_still = true := by decide +kernel
theorem sc__law_still : FnScope N__law_still ["guests", "family"] (defScope (top 43)) := ⟨rfl, rfl, rfl, by decide +kernel, rfl, by decide +kernel, by decide +kernel⟩
def F__law_still : FS := fsOf [("_law_moved", F__law_moved)] false io__law_still N__law_still b__law_still
theorem c_shadow : chkSs ⟨N_shadow, Cn⟩ 60 (defScope (top 31)) (defBody (top 31)) b_shadow = true := by decide +kernel
theorem sc_shadow : FnScope N_shadow ["guests", "family"] (defScope (top 31)) := ⟨rfl, rfl, rfl, by decide +kernel, rfl, by decide +kernel, by decide +kernel⟩
def F_shadow : FS := fsOf [("check_family", F_check_family)] false io_shadow N_shadow b_shadow
theorem c__law_shadow : chkSs ⟨N__law_shadow, Cn⟩ 60 (defScope (top 44)) (defBody (top 44)) b__law_shadow = true := by decide +kernel
theorem sc__law_shadow : FnScope N__law_shadow ["family"] (defScope (top 44)) := ⟨rfl, rfl, rfl, by decide +kernel, rfl, by decide +kernel, by decide +kernel⟩
def F__law_shadow : FS := fsOf [] false io__law_shadow N__law_shadow b__law_shadow
theorem c__law_inside : chkSs ⟨N__law_inside, Cn⟩ 60 (defScope (top 40)) (defBody (top 40)) b__law_inside = true := by decide +kernel
theorem sc__law_inside : FnScope N__law_inside ["one", "other"] (defScope (top 40)) := ⟨rfl, rfl, rfl, by decide +kernel, rfl, by decide +kernel, by decide +kernel⟩
def F__law_inside : FS := fsOf [] false io__law_inside N__law_inside b__law_inside
theorem c__law_right : chkSs ⟨N__law_right, Cn⟩ 60 (defScope (top 46)) (defBody (top 46)) b__law_right = true := by decide +kernel
theorem sc__law_right : FnScope N__law_right ["pot"] (defScope (top 46)) := ⟨rfl, rfl, rfl, by decide +kernel, rfl, by decide +kernel, by decide +kernel⟩
def F__law_right : FS := fsOf [("_law_family", F__law_family), ("weight", F_weight), ("shifted", F_shifted), ("_law_take", F__law_take), ("is_unlike", F_is_unlike), ("is_meeting", F_is_meeting), ("_law_is_meeting", F__law_is_meeting), ("_law_ways", F__law_ways), ("shift", F_shift), ("_law_moved", F__law_moved), ("_law_still", F__law_still), ("shadow", F_shadow), ("_law_shadow", F__law_shadow), ("_law_inside", F__law_inside)] false io__law_right N__law_right b__law_right
theorem c_law : chkSs ⟨N_law, Cn⟩ 60 (defScope (top 49)) (defBody (top 49)) b_law = true := by decide +kernel
theorem sc_law : FnScope N_law ["script"] (defScope (top 49)) := ⟨rfl, rfl, rfl, by decide +kernel, rfl, by decide +kernel, by decide +kernel⟩
def F_law : FS := fsOf [("_law_places", F__law_places), ("_law_pot", F__law_pot), ("middle_chains", F_middle_chains), ("shifted", F_shifted), ("most_meeting", F_most_meeting), ("most_unlike", F_most_unlike), ("_law_most_by_look", F__law_most_by_look), ("_law_are_chains_right", F__law_are_chains_right), ("_law_right", F__law_right), ("_law_take", F__law_take)] false io_law N_law b_law
end TL

set_option Elab.async false
set_option linter.all false
set_option maxRecDepth 100000
namespace TL
local macro_rules | `(tactic| simp_arith [$ls,*]) => `(tactic| simp (config := { failIfUnchanged := false, decide := false, implicitDefEqProofs := false, dsimp := false }) only [tg_nm, tg_2, nq_n, nq_r, nq_p, u_2, tn_nx, ne_eq, decide_not, Nat.reduceEqDiff, Nat.reduceBEq, decide_false, decide_true, not_false_eq_true, bt_tp2, o_ltT, sc_T, sc_I, z_T, fb_len, fb_tuple, fb_list, fb_sorted, fb_sum, fb_max1, fb_min1, fb_max2, fb_min2, fb_all, fb_any, fb_abs, fb_int, fb_repr, fb_isInt, fb_isBool, fb_isTuple, fb_isStr, fb_srs, fb_lns, fb_lrg1, fb_trg1, fb_lrg2, s_tI, s_tT, g_lenI, g_lenT, g_lenL, g_isTI, g_isTT, g_tupI, g_tupT, g_allm, g_anym, r_bind, r_ok, r_no, r_pure, r_pure, r_lift, r_cT, r_cF, r_when, n_0, n_s, p_0, p_s, lk_r, lk_p, lk_q, r_var, r_con, r_glb, r_neg, r_not, r_op, r_chn, r_and, r_or, r_ite, r_tup, r_lst, r_slc, r_some, r_call, r_blt, r_pop, r_cmp, r_dcm, r_dic, r_an, r_ac, r_cn, r_cc, r_iex, r_ir1, r_ir2, r_izp, v_v, v_f, v_fv, v_nv, v_nf, d_v, d_f, d_s, ld_p, ld_q, dd_n, dd_c, b_v, i_v, s_l, s_t, z_l, z_t, t_s, ts_p, ts_q, t_r, t_pl, t_pd, tr_n, tr_r, tr_p, pb_t, pb_f, c_o, c_e, pa_n, pa_c, e_nil, e_cons, q_nx, q_ret, e_asg, e_own, e_unp, e_par, e_sidx, e_app, e_ext, e_upd, e_exp, e_ifs, e_fr, e_ret, e_rv, e_rf, e_rp, lp_p, e_la, la_p, la_q, e_da, da_p, e_sa, sa_p, sa_q, a_l, x_l, ra_n, ra_0, ra_p, ra_r, ra_q, st_q, st_r, st_n, bt_nm, w_n, w_c, f_nx, f_rt, et_q, et_r, et_n, sl_n, sl_f, sl_t, le_n, le_v, le_f, le_s, le_t, nd_0, nd_1, c_c, c_s, o_add, o_sub, o_lt, o_le, o_gt, o_ge, o_eqi, o_nei, o_isb, o_int, o_nint, o_nintT, o_eqT, o_neT, o_eqI, o_neI, g_sum, g_lenl, g_lent, g_tupt, g_lisl, g_list, g_int, g_intb, g_abs, g_max, g_min, g_isT, g_trg, g_lrg, g_sorI, g_sorT, List.length_cons, List.length_nil, if_true, if_false, Bool.not_true, Bool.not_false, Bool.and_true, Bool.and_false, Bool.true_and, Bool.false_and, Bool.false_eq_true, reduceCtorEq, List.append_nil, List.nil_append, List.cons_append, Option.map_some, $ls,*])
open PySem L2
theorem ioF__law_places : F__law_places.io = [false, false] := rfl
theorem frF__law_places : F__law_places.fr = true := rfl
theorem m__law_places {d0 d1 : PyData} : F__law_places.m [d0, d1] = endF true [false, false] (execs (phiL []) FU b__law_places [some (.r d0), some (.r d1)]) := fsOf_m (io := io__law_places) (N := N__law_places) rfl rfl
theorem ioF__law_pot : F__law_pot.io = [false, false] := rfl
theorem frF__law_pot : F__law_pot.fr = true := rfl
theorem m__law_pot {d0 d1 : PyData} : F__law_pot.m [d0, d1] = endF true [false, false] (execs (phiL []) FU b__law_pot [some (.r d0), some (.r d1), none, none, none]) := fsOf_m (io := io__law_pot) (N := N__law_pot) rfl rfl
theorem ioF_is_whole : F_is_whole.io = [false] := rfl
theorem frF_is_whole : F_is_whole.fr = false := rfl
theorem m_is_whole {d0 : PyData} : F_is_whole.m [d0] = endF false [false] (execs (phiL []) FU b_is_whole [some (.r d0)]) := fsOf_m (io := io_is_whole) (N := N_is_whole) rfl rfl
theorem ioF_is_integer : F_is_integer.io = [false, false, false] := rfl
theorem frF_is_integer : F_is_integer.fr = false := rfl
theorem ph_is_integer_is_whole : phiL [("is_whole", F_is_whole)] "is_whole" = some F_is_whole := rfl
theorem m_is_integer {d0 d1 d2 : PyData} : F_is_integer.m [d0, d1, d2] = endF false [false, false, false] (execs (phiL [("is_whole", F_is_whole)]) FU b_is_integer [some (.r d0), some (.r d1), some (.r d2)]) := fsOf_m (io := io_is_integer) (N := N_is_integer) rfl rfl
theorem ioF_check_guests : F_check_guests.io = [false] := rfl
theorem frF_check_guests : F_check_guests.fr = false := rfl
theorem ph_check_guests_is_integer : phiL [("is_integer", F_is_integer)] "is_integer" = some F_is_integer := rfl
theorem m_check_guests {d0 : PyData} : F_check_guests.m [d0] = endF false [false] (execs (phiL [("is_integer", F_is_integer)]) FU b_check_guests [some (.r d0)]) := fsOf_m (io := io_check_guests) (N := N_check_guests) rfl rfl
theorem ioF_parts_of : F_parts_of.io = [false] := rfl
theorem frF_parts_of : F_parts_of.fr = true := rfl
theorem m_parts_of {d0 : PyData} : F_parts_of.m [d0] = endF true [false] (execs (phiL []) FU b_parts_of [some (.r d0), none, none, none]) := fsOf_m (io := io_parts_of) (N := N_parts_of) rfl rfl
theorem ioF_shut_of : F_shut_of.io = [false, false] := rfl
theorem frF_shut_of : F_shut_of.fr = true := rfl
theorem m_shut_of {d0 d1 : PyData} : F_shut_of.m [d0, d1] = endF true [false, false] (execs (phiL []) FU b_shut_of [some (.r d0), some (.r d1), none, none, none]) := fsOf_m (io := io_shut_of) (N := N_shut_of) rfl rfl
theorem ioF_open_of : F_open_of.io = [false, false] := rfl
theorem frF_open_of : F_open_of.fr = true := rfl
theorem m_open_of {d0 d1 : PyData} : F_open_of.m [d0, d1] = endF true [false, false] (execs (phiL []) FU b_open_of [some (.r d0), some (.r d1), none, none]) := fsOf_m (io := io_open_of) (N := N_open_of) rfl rfl
theorem ioF_middle_chains : F_middle_chains.io = [false] := rfl
theorem frF_middle_chains : F_middle_chains.fr = false := rfl
theorem ph_middle_chains_check_guests : phiL [("check_guests", F_check_guests), ("parts_of", F_parts_of), ("shut_of", F_shut_of), ("open_of", F_open_of)] "check_guests" = some F_check_guests := rfl
theorem ph_middle_chains_parts_of : phiL [("check_guests", F_check_guests), ("parts_of", F_parts_of), ("shut_of", F_shut_of), ("open_of", F_open_of)] "parts_of" = some F_parts_of := rfl
theorem ph_middle_chains_shut_of : phiL [("check_guests", F_check_guests), ("parts_of", F_parts_of), ("shut_of", F_shut_of), ("open_of", F_open_of)] "shut_of" = some F_shut_of := rfl
theorem ph_middle_chains_open_of : phiL [("check_guests", F_check_guests), ("parts_of", F_parts_of), ("shut_of", F_shut_of), ("open_of", F_open_of)] "open_of" = some F_open_of := rfl
theorem m_middle_chains {d0 : PyData} : F_middle_chains.m [d0] = endF false [false] (execs (phiL [("check_guests", F_check_guests), ("parts_of", F_parts_of), ("shut_of", F_shut_of), ("open_of", F_open_of)]) FU b_middle_chains [some (.r d0), none, none, none, none]) := fsOf_m (io := io_middle_chains) (N := N_middle_chains) rfl rfl
theorem ioF_is_rising : F_is_rising.io = [false] := rfl
theorem frF_is_rising : F_is_rising.fr = false := rfl
theorem m_is_rising {d0 : PyData} : F_is_rising.m [d0] = endF false [false] (execs (phiL []) FU b_is_rising [some (.r d0), none, none]) := fsOf_m (io := io_is_rising) (N := N_is_rising) rfl rfl
theorem ioF_is_lot : F_is_lot.io = [false, false] := rfl
theorem frF_is_lot : F_is_lot.fr = false := rfl
theorem ph_is_lot_is_rising : phiL [("is_rising", F_is_rising), ("is_integer", F_is_integer)] "is_rising" = some F_is_rising := rfl
theorem ph_is_lot_is_integer : phiL [("is_rising", F_is_rising), ("is_integer", F_is_integer)] "is_integer" = some F_is_integer := rfl
theorem m_is_lot {d0 d1 : PyData} : F_is_lot.m [d0, d1] = endF false [false, false] (execs (phiL [("is_rising", F_is_rising), ("is_integer", F_is_integer)]) FU b_is_lot [some (.r d0), some (.r d1), none]) := fsOf_m (io := io_is_lot) (N := N_is_lot) rfl rfl
theorem ioF_check_family : F_check_family.io = [false, false] := rfl
theorem frF_check_family : F_check_family.fr = false := rfl
theorem ph_check_family_check_guests : phiL [("check_guests", F_check_guests), ("is_rising", F_is_rising), ("is_lot", F_is_lot)] "check_guests" = some F_check_guests := rfl
theorem ph_check_family_is_rising : phiL [("check_guests", F_check_guests), ("is_rising", F_is_rising), ("is_lot", F_is_lot)] "is_rising" = some F_is_rising := rfl
theorem ph_check_family_is_lot : phiL [("check_guests", F_check_guests), ("is_rising", F_is_rising), ("is_lot", F_is_lot)] "is_lot" = some F_is_lot := rfl
theorem m_check_family {d0 d1 : PyData} : F_check_family.m [d0, d1] = endF false [false, false] (execs (phiL [("check_guests", F_check_guests), ("is_rising", F_is_rising), ("is_lot", F_is_lot)]) FU b_check_family [some (.r d0), some (.r d1), none]) := fsOf_m (io := io_check_family) (N := N_check_family) rfl rfl
theorem ioF_shift_of : F_shift_of.io = [false, false, false] := rfl
theorem frF_shift_of : F_shift_of.fr = false := rfl
theorem m_shift_of {d0 d1 d2 : PyData} : F_shift_of.m [d0, d1, d2] = endF false [false, false, false] (execs (phiL []) FU b_shift_of [some (.r d0), some (.r d1), some (.r d2), none, none, none, none, none, none]) := fsOf_m (io := io_shift_of) (N := N_shift_of) rfl rfl
theorem ioF_shifted : F_shifted.io = [false, false] := rfl
theorem frF_shifted : F_shifted.fr = false := rfl
theorem ph_shifted_check_family : phiL [("check_family", F_check_family), ("shift_of", F_shift_of)] "check_family" = some F_check_family := rfl
theorem ph_shifted_shift_of : phiL [("check_family", F_check_family), ("shift_of", F_shift_of)] "shift_of" = some F_shift_of := rfl
theorem m_shifted {d0 d1 : PyData} : F_shifted.m [d0, d1] = endF false [false, false] (execs (phiL [("check_family", F_check_family), ("shift_of", F_shift_of)]) FU b_shifted [some (.r d0), some (.r d1), none, none, none, none]) := fsOf_m (io := io_shifted) (N := N_shifted) rfl rfl
theorem ioF_ways : F_ways.io = [false, false] := rfl
theorem frF_ways : F_ways.fr = false := rfl
theorem m_ways {d0 d1 : PyData} : F_ways.m [d0, d1] = endF false [false, false] (execs (phiL []) FU b_ways [some (.r d0), some (.r d1), none, none]) := fsOf_m (io := io_ways) (N := N_ways) rfl rfl
theorem ioF_most_meeting : F_most_meeting.io = [false, false] := rfl
theorem frF_most_meeting : F_most_meeting.fr = false := rfl
theorem ph_most_meeting_check_guests : phiL [("check_guests", F_check_guests), ("is_integer", F_is_integer), ("ways", F_ways)] "check_guests" = some F_check_guests := rfl
theorem ph_most_meeting_is_integer : phiL [("check_guests", F_check_guests), ("is_integer", F_is_integer), ("ways", F_ways)] "is_integer" = some F_is_integer := rfl
theorem ph_most_meeting_ways : phiL [("check_guests", F_check_guests), ("is_integer", F_is_integer), ("ways", F_ways)] "ways" = some F_ways := rfl
theorem m_most_meeting {d0 d1 : PyData} : F_most_meeting.m [d0, d1] = endF false [false, false] (execs (phiL [("check_guests", F_check_guests), ("is_integer", F_is_integer), ("ways", F_ways)]) FU b_most_meeting [some (.r d0), some (.r d1)]) := fsOf_m (io := io_most_meeting) (N := N_most_meeting) rfl rfl
theorem ioF_most_unlike : F_most_unlike.io = [false] := rfl
theorem frF_most_unlike : F_most_unlike.fr = false := rfl
theorem ph_most_unlike_middle_chains : phiL [("middle_chains", F_middle_chains)] "middle_chains" = some F_middle_chains := rfl
theorem m_most_unlike {d0 : PyData} : F_most_unlike.m [d0] = endF false [false] (execs (phiL [("middle_chains", F_middle_chains)]) FU b_most_unlike [some (.r d0)]) := fsOf_m (io := io_most_unlike) (N := N_most_unlike) rfl rfl
theorem ioF__law_g_parts : F__law_g_parts.io = [false] := rfl
theorem frF__law_g_parts : F__law_g_parts.fr = false := rfl
theorem m__law_g_parts {d0 : PyData} : F__law_g_parts.m [d0] = endF false [false] (execs (phiL []) FU b__law_g_parts [some (.r d0), none, none, none]) := fsOf_m (io := io__law_g_parts) (N := N__law_g_parts) rfl rfl
theorem ioF__law_most_by_look : F__law_most_by_look.io = [false, false] := rfl
theorem frF__law_most_by_look : F__law_most_by_look.fr = false := rfl
theorem ph__law_most_by_look__law_g_parts : phiL [("_law_g_parts", F__law_g_parts)] "_law_g_parts" = some F__law_g_parts := rfl
theorem m__law_most_by_look {d0 d1 : PyData} : F__law_most_by_look.m [d0, d1] = endF false [false, false] (execs (phiL [("_law_g_parts", F__law_g_parts)]) FU b__law_most_by_look [some (.r d0), some (.r d1), none, none, none, none, none, none, none, none]) := fsOf_m (io := io__law_most_by_look) (N := N__law_most_by_look) rfl rfl
theorem ioF__law_ways : F__law_ways.io = [false, false] := rfl
theorem frF__law_ways : F__law_ways.fr = false := rfl
theorem m__law_ways {d0 d1 : PyData} : F__law_ways.m [d0, d1] = endF false [false, false] (execs (phiL []) FU b__law_ways [some (.r d0), some (.r d1), none, none]) := fsOf_m (io := io__law_ways) (N := N__law_ways) rfl rfl
theorem ioF__law_are_chains_right : F__law_are_chains_right.io = [false] := rfl
theorem frF__law_are_chains_right : F__law_are_chains_right.fr = false := rfl
theorem ph__law_are_chains_right_middle_chains : phiL [("middle_chains", F_middle_chains), ("_law_ways", F__law_ways), ("most_unlike", F_most_unlike), ("_law_g_parts", F__law_g_parts)] "middle_chains" = some F_middle_chains := rfl
theorem ph__law_are_chains_right__law_ways : phiL [("middle_chains", F_middle_chains), ("_law_ways", F__law_ways), ("most_unlike", F_most_unlike), ("_law_g_parts", F__law_g_parts)] "_law_ways" = some F__law_ways := rfl
theorem ph__law_are_chains_right_most_unlike : phiL [("middle_chains", F_middle_chains), ("_law_ways", F__law_ways), ("most_unlike", F_most_unlike), ("_law_g_parts", F__law_g_parts)] "most_unlike" = some F_most_unlike := rfl
theorem ph__law_are_chains_right__law_g_parts : phiL [("middle_chains", F_middle_chains), ("_law_ways", F__law_ways), ("most_unlike", F_most_unlike), ("_law_g_parts", F__law_g_parts)] "_law_g_parts" = some F__law_g_parts := rfl
theorem m__law_are_chains_right {d0 : PyData} : F__law_are_chains_right.m [d0] = endF false [false] (execs (phiL [("middle_chains", F_middle_chains), ("_law_ways", F__law_ways), ("most_unlike", F_most_unlike), ("_law_g_parts", F__law_g_parts)]) FU b__law_are_chains_right [some (.r d0), none, none, none, none, none, none, none]) := fsOf_m (io := io__law_are_chains_right) (N := N__law_are_chains_right) rfl rfl
theorem ioF__law_take : F__law_take.io = [true, false] := rfl
theorem frF__law_take : F__law_take.fr = false := rfl
theorem m__law_take {d0 d1 : PyData} : F__law_take.m [d0, d1] = endF false [true, false] (execs (phiL []) FU b__law_take [some (.q d0), some (.r d1), none, none, none]) := fsOf_m (io := io__law_take) (N := N__law_take) rfl rfl
theorem ioF__law_of : F__law_of.io = [true, false] := rfl
theorem frF__law_of : F__law_of.fr = false := rfl
theorem ph__law_of__law_take : phiL [("_law_take", F__law_take)] "_law_take" = some F__law_take := rfl
theorem m__law_of {d0 d1 : PyData} : F__law_of.m [d0, d1] = endF false [true, false] (execs (phiL [("_law_take", F__law_take)]) FU b__law_of [some (.q d0), some (.r d1)]) := fsOf_m (io := io__law_of) (N := N__law_of) rfl rfl
theorem ioF__law_family : F__law_family.io = [true, false] := rfl
theorem frF__law_family : F__law_family.fr = false := rfl
theorem ph__law_family__law_g_parts : phiL [("_law_g_parts", F__law_g_parts), ("_law_take", F__law_take), ("_law_of", F__law_of)] "_law_g_parts" = some F__law_g_parts := rfl
theorem ph__law_family__law_take : phiL [("_law_g_parts", F__law_g_parts), ("_law_take", F__law_take), ("_law_of", F__law_of)] "_law_take" = some F__law_take := rfl
theorem ph__law_family__law_of : phiL [("_law_g_parts", F__law_g_parts), ("_law_take", F__law_take), ("_law_of", F__law_of)] "_law_of" = some F__law_of := rfl
theorem m__law_family {d0 d1 : PyData} : F__law_family.m [d0, d1] = endF false [true, false] (execs (phiL [("_law_g_parts", F__law_g_parts), ("_law_take", F__law_take), ("_law_of", F__law_of)]) FU b__law_family [some (.q d0), some (.r d1), none, none, none, none]) := fsOf_m (io := io__law_family) (N := N__law_family) rfl rfl
theorem ioF_weight : F_weight.io = [false, false] := rfl
theorem frF_weight : F_weight.fr = false := rfl
theorem ph_weight_check_family : phiL [("check_family", F_check_family), ("ways", F_ways)] "check_family" = some F_check_family := rfl
theorem ph_weight_ways : phiL [("check_family", F_check_family), ("ways", F_ways)] "ways" = some F_ways := rfl
theorem m_weight {d0 d1 : PyData} : F_weight.m [d0, d1] = endF false [false, false] (execs (phiL [("check_family", F_check_family), ("ways", F_ways)]) FU b_weight [some (.r d0), some (.r d1), none, none, none, none, none, none]) := fsOf_m (io := io_weight) (N := N_weight) rfl rfl
theorem ioF_is_within : F_is_within.io = [false, false] := rfl
theorem frF_is_within : F_is_within.fr = false := rfl
theorem m_is_within {d0 d1 : PyData} : F_is_within.m [d0, d1] = endF false [false, false] (execs (phiL []) FU b_is_within [some (.r d0), some (.r d1), none]) := fsOf_m (io := io_is_within) (N := N_is_within) rfl rfl
theorem ioF_is_unlike : F_is_unlike.io = [false, false] := rfl
theorem frF_is_unlike : F_is_unlike.fr = false := rfl
theorem ph_is_unlike_check_family : phiL [("check_family", F_check_family), ("is_within", F_is_within)] "check_family" = some F_check_family := rfl
theorem ph_is_unlike_is_within : phiL [("check_family", F_check_family), ("is_within", F_is_within)] "is_within" = some F_is_within := rfl
theorem m_is_unlike {d0 d1 : PyData} : F_is_unlike.m [d0, d1] = endF false [false, false] (execs (phiL [("check_family", F_check_family), ("is_within", F_is_within)]) FU b_is_unlike [some (.r d0), some (.r d1), none, none]) := fsOf_m (io := io_is_unlike) (N := N_is_unlike) rfl rfl
theorem ioF_meet : F_meet.io = [false, false] := rfl
theorem frF_meet : F_meet.fr = false := rfl
theorem m_meet {d0 d1 : PyData} : F_meet.m [d0, d1] = endF false [false, false] (execs (phiL []) FU b_meet [some (.r d0), some (.r d1), none]) := fsOf_m (io := io_meet) (N := N_meet) rfl rfl
theorem ioF_is_meeting : F_is_meeting.io = [false, false] := rfl
theorem frF_is_meeting : F_is_meeting.fr = false := rfl
theorem ph_is_meeting_check_family : phiL [("check_family", F_check_family), ("meet", F_meet)] "check_family" = some F_check_family := rfl
theorem ph_is_meeting_meet : phiL [("check_family", F_check_family), ("meet", F_meet)] "meet" = some F_meet := rfl
theorem m_is_meeting {d0 d1 : PyData} : F_is_meeting.m [d0, d1] = endF false [false, false] (execs (phiL [("check_family", F_check_family), ("meet", F_meet)]) FU b_is_meeting [some (.r d0), some (.r d1), none, none]) := fsOf_m (io := io_is_meeting) (N := N_is_meeting) rfl rfl
theorem ioF__law_is_meeting : F__law_is_meeting.io = [false] := rfl
theorem frF__law_is_meeting : F__law_is_meeting.fr = false := rfl
theorem m__law_is_meeting {d0 : PyData} : F__law_is_meeting.m [d0] = endF false [false] (execs (phiL []) FU b__law_is_meeting [some (.r d0), none, none, none]) := fsOf_m (io := io__law_is_meeting) (N := N__law_is_meeting) rfl rfl
theorem ioF_shift : F_shift.io = [false, false, false, false] := rfl
theorem frF_shift : F_shift.fr = false := rfl
theorem ph_shift_check_family : phiL [("check_family", F_check_family), ("shift_of", F_shift_of), ("is_integer", F_is_integer)] "check_family" = some F_check_family := rfl
theorem ph_shift_shift_of : phiL [("check_family", F_check_family), ("shift_of", F_shift_of), ("is_integer", F_is_integer)] "shift_of" = some F_shift_of := rfl
theorem ph_shift_is_integer : phiL [("check_family", F_check_family), ("shift_of", F_shift_of), ("is_integer", F_is_integer)] "is_integer" = some F_is_integer := rfl
theorem m_shift {d0 d1 d2 d3 : PyData} : F_shift.m [d0, d1, d2, d3] = endF false [false, false, false, false] (execs (phiL [("check_family", F_check_family), ("shift_of", F_shift_of), ("is_integer", F_is_integer)]) FU b_shift [some (.r d0), some (.r d1), some (.r d2), some (.r d3)]) := fsOf_m (io := io_shift) (N := N_shift) rfl rfl
theorem ioF__law_moved : F__law_moved.io = [false, false, false] := rfl
theorem frF__law_moved : F__law_moved.fr = false := rfl
theorem m__law_moved {d0 d1 d2 : PyData} : F__law_moved.m [d0, d1, d2] = endF false [false, false, false] (execs (phiL []) FU b__law_moved [some (.r d0), some (.r d1), some (.r d2), none, none, none, none]) := fsOf_m (io := io__law_moved) (N := N__law_moved) rfl rfl
theorem ioF__law_still : F__law_still.io = [false, false] := rfl
theorem frF__law_still : F__law_still.fr = false := rfl
theorem ph__law_still__law_moved : phiL [("_law_moved", F__law_moved)] "_law_moved" = some F__law_moved := rfl
theorem m__law_still {d0 d1 : PyData} : F__law_still.m [d0, d1] = endF false [false, false] (execs (phiL [("_law_moved", F__law_moved)]) FU b__law_still [some (.r d0), some (.r d1), none, none, none]) := fsOf_m (io := io__law_still) (N := N__law_still) rfl rfl
theorem ioF_shadow : F_shadow.io = [false, false] := rfl
theorem frF_shadow : F_shadow.fr = false := rfl
theorem ph_shadow_check_family : phiL [("check_family", F_check_family)] "check_family" = some F_check_family := rfl
theorem m_shadow {d0 d1 : PyData} : F_shadow.m [d0, d1] = endF false [false, false] (execs (phiL [("check_family", F_check_family)]) FU b_shadow [some (.r d0), some (.r d1), none, none, none]) := fsOf_m (io := io_shadow) (N := N_shadow) rfl rfl
theorem ioF__law_shadow : F__law_shadow.io = [false] := rfl
theorem frF__law_shadow : F__law_shadow.fr = false := rfl
theorem m__law_shadow {d0 : PyData} : F__law_shadow.m [d0] = endF false [false] (execs (phiL []) FU b__law_shadow [some (.r d0), none, none, none, none]) := fsOf_m (io := io__law_shadow) (N := N__law_shadow) rfl rfl
theorem ioF__law_inside : F__law_inside.io = [false, false] := rfl
theorem frF__law_inside : F__law_inside.fr = false := rfl
theorem m__law_inside {d0 d1 : PyData} : F__law_inside.m [d0, d1] = endF false [false, false] (execs (phiL []) FU b__law_inside [some (.r d0), some (.r d1), none]) := fsOf_m (io := io__law_inside) (N := N__law_inside) rfl rfl
theorem ioF__law_right : F__law_right.io = [true] := rfl
theorem frF__law_right : F__law_right.fr = false := rfl
theorem ph__law_right__law_family : phiL [("_law_family", F__law_family), ("weight", F_weight), ("shifted", F_shifted), ("_law_take", F__law_take), ("is_unlike", F_is_unlike), ("is_meeting", F_is_meeting), ("_law_is_meeting", F__law_is_meeting), ("_law_ways", F__law_ways), ("shift", F_shift), ("_law_moved", F__law_moved), ("_law_still", F__law_still), ("shadow", F_shadow), ("_law_shadow", F__law_shadow), ("_law_inside", F__law_inside)] "_law_family" = some F__law_family := rfl
theorem ph__law_right_weight : phiL [("_law_family", F__law_family), ("weight", F_weight), ("shifted", F_shifted), ("_law_take", F__law_take), ("is_unlike", F_is_unlike), ("is_meeting", F_is_meeting), ("_law_is_meeting", F__law_is_meeting), ("_law_ways", F__law_ways), ("shift", F_shift), ("_law_moved", F__law_moved), ("_law_still", F__law_still), ("shadow", F_shadow), ("_law_shadow", F__law_shadow), ("_law_inside", F__law_inside)] "weight" = some F_weight := rfl
theorem ph__law_right_shifted : phiL [("_law_family", F__law_family), ("weight", F_weight), ("shifted", F_shifted), ("_law_take", F__law_take), ("is_unlike", F_is_unlike), ("is_meeting", F_is_meeting), ("_law_is_meeting", F__law_is_meeting), ("_law_ways", F__law_ways), ("shift", F_shift), ("_law_moved", F__law_moved), ("_law_still", F__law_still), ("shadow", F_shadow), ("_law_shadow", F__law_shadow), ("_law_inside", F__law_inside)] "shifted" = some F_shifted := rfl
theorem ph__law_right__law_take : phiL [("_law_family", F__law_family), ("weight", F_weight), ("shifted", F_shifted), ("_law_take", F__law_take), ("is_unlike", F_is_unlike), ("is_meeting", F_is_meeting), ("_law_is_meeting", F__law_is_meeting), ("_law_ways", F__law_ways), ("shift", F_shift), ("_law_moved", F__law_moved), ("_law_still", F__law_still), ("shadow", F_shadow), ("_law_shadow", F__law_shadow), ("_law_inside", F__law_inside)] "_law_take" = some F__law_take := rfl
theorem ph__law_right_is_unlike : phiL [("_law_family", F__law_family), ("weight", F_weight), ("shifted", F_shifted), ("_law_take", F__law_take), ("is_unlike", F_is_unlike), ("is_meeting", F_is_meeting), ("_law_is_meeting", F__law_is_meeting), ("_law_ways", F__law_ways), ("shift", F_shift), ("_law_moved", F__law_moved), ("_law_still", F__law_still), ("shadow", F_shadow), ("_law_shadow", F__law_shadow), ("_law_inside", F__law_inside)] "is_unlike" = some F_is_unlike := rfl
theorem ph__law_right_is_meeting : phiL [("_law_family", F__law_family), ("weight", F_weight), ("shifted", F_shifted), ("_law_take", F__law_take), ("is_unlike", F_is_unlike), ("is_meeting", F_is_meeting), ("_law_is_meeting", F__law_is_meeting), ("_law_ways", F__law_ways), ("shift", F_shift), ("_law_moved", F__law_moved), ("_law_still", F__law_still), ("shadow", F_shadow), ("_law_shadow", F__law_shadow), ("_law_inside", F__law_inside)] "is_meeting" = some F_is_meeting := rfl
theorem ph__law_right__law_is_meeting : phiL [("_law_family", F__law_family), ("weight", F_weight), ("shifted", F_shifted), ("_law_take", F__law_take), ("is_unlike", F_is_unlike), ("is_meeting", F_is_meeting), ("_law_is_meeting", F__law_is_meeting), ("_law_ways", F__law_ways), ("shift", F_shift), ("_law_moved", F__law_moved), ("_law_still", F__law_still), ("shadow", F_shadow), ("_law_shadow", F__law_shadow), ("_law_inside", F__law_inside)] "_law_is_meeting" = some F__law_is_meeting := rfl
theorem ph__law_right__law_ways : phiL [("_law_family", F__law_family), ("weight", F_weight), ("shifted", F_shifted), ("_law_take", F__law_take), ("is_unlike", F_is_unlike), ("is_meeting", F_is_meeting), ("_law_is_meeting", F__law_is_meeting), ("_law_ways", F__law_ways), ("shift", F_shift), ("_law_moved", F__law_moved), ("_law_still", F__law_still), ("shadow", F_shadow), ("_law_shadow", F__law_shadow), ("_law_inside", F__law_inside)] "_law_ways" = some F__law_ways := rfl
theorem ph__law_right_shift : phiL [("_law_family", F__law_family), ("weight", F_weight), ("shifted", F_shifted), ("_law_take", F__law_take), ("is_unlike", F_is_unlike), ("is_meeting", F_is_meeting), ("_law_is_meeting", F__law_is_meeting), ("_law_ways", F__law_ways), ("shift", F_shift), ("_law_moved", F__law_moved), ("_law_still", F__law_still), ("shadow", F_shadow), ("_law_shadow", F__law_shadow), ("_law_inside", F__law_inside)] "shift" = some F_shift := rfl
theorem ph__law_right__law_moved : phiL [("_law_family", F__law_family), ("weight", F_weight), ("shifted", F_shifted), ("_law_take", F__law_take), ("is_unlike", F_is_unlike), ("is_meeting", F_is_meeting), ("_law_is_meeting", F__law_is_meeting), ("_law_ways", F__law_ways), ("shift", F_shift), ("_law_moved", F__law_moved), ("_law_still", F__law_still), ("shadow", F_shadow), ("_law_shadow", F__law_shadow), ("_law_inside", F__law_inside)] "_law_moved" = some F__law_moved := rfl
theorem ph__law_right__law_still : phiL [("_law_family", F__law_family), ("weight", F_weight), ("shifted", F_shifted), ("_law_take", F__law_take), ("is_unlike", F_is_unlike), ("is_meeting", F_is_meeting), ("_law_is_meeting", F__law_is_meeting), ("_law_ways", F__law_ways), ("shift", F_shift), ("_law_moved", F__law_moved), ("_law_still", F__law_still), ("shadow", F_shadow), ("_law_shadow", F__law_shadow), ("_law_inside", F__law_inside)] "_law_still" = some F__law_still := rfl
theorem ph__law_right_shadow : phiL [("_law_family", F__law_family), ("weight", F_weight), ("shifted", F_shifted), ("_law_take", F__law_take), ("is_unlike", F_is_unlike), ("is_meeting", F_is_meeting), ("_law_is_meeting", F__law_is_meeting), ("_law_ways", F__law_ways), ("shift", F_shift), ("_law_moved", F__law_moved), ("_law_still", F__law_still), ("shadow", F_shadow), ("_law_shadow", F__law_shadow), ("_law_inside", F__law_inside)] "shadow" = some F_shadow := rfl
theorem ph__law_right__law_shadow : phiL [("_law_family", F__law_family), ("weight", F_weight), ("shifted", F_shifted), ("_law_take", F__law_take), ("is_unlike", F_is_unlike), ("is_meeting", F_is_meeting), ("_law_is_meeting", F__law_is_meeting), ("_law_ways", F__law_ways), ("shift", F_shift), ("_law_moved", F__law_moved), ("_law_still", F__law_still), ("shadow", F_shadow), ("_law_shadow", F__law_shadow), ("_law_inside", F__law_inside)] "_law_shadow" = some F__law_shadow := rfl
theorem ph__law_right__law_inside : phiL [("_law_family", F__law_family), ("weight", F_weight), ("shifted", F_shifted), ("_law_take", F__law_take), ("is_unlike", F_is_unlike), ("is_meeting", F_is_meeting), ("_law_is_meeting", F__law_is_meeting), ("_law_ways", F__law_ways), ("shift", F_shift), ("_law_moved", F__law_moved), ("_law_still", F__law_still), ("shadow", F_shadow), ("_law_shadow", F__law_shadow), ("_law_inside", F__law_inside)] "_law_inside" = some F__law_inside := rfl
theorem m__law_right {d0 : PyData} : F__law_right.m [d0] = endF false [true] (execs (phiL [("_law_family", F__law_family), ("weight", F_weight), ("shifted", F_shifted), ("_law_take", F__law_take), ("is_unlike", F_is_unlike), ("is_meeting", F_is_meeting), ("_law_is_meeting", F__law_is_meeting), ("_law_ways", F__law_ways), ("shift", F_shift), ("_law_moved", F__law_moved), ("_law_still", F__law_still), ("shadow", F_shadow), ("_law_shadow", F__law_shadow), ("_law_inside", F__law_inside)]) FU b__law_right [some (.q d0), none, none, none, none, none, none, none, none, none, none, none, none, none, none, none]) := fsOf_m (io := io__law_right) (N := N__law_right) rfl rfl
theorem ioF_law : F_law.io = [false] := rfl
theorem frF_law : F_law.fr = false := rfl
theorem ph_law__law_places : phiL [("_law_places", F__law_places), ("_law_pot", F__law_pot), ("middle_chains", F_middle_chains), ("shifted", F_shifted), ("most_meeting", F_most_meeting), ("most_unlike", F_most_unlike), ("_law_most_by_look", F__law_most_by_look), ("_law_are_chains_right", F__law_are_chains_right), ("_law_right", F__law_right), ("_law_take", F__law_take)] "_law_places" = some F__law_places := rfl
theorem ph_law__law_pot : phiL [("_law_places", F__law_places), ("_law_pot", F__law_pot), ("middle_chains", F_middle_chains), ("shifted", F_shifted), ("most_meeting", F_most_meeting), ("most_unlike", F_most_unlike), ("_law_most_by_look", F__law_most_by_look), ("_law_are_chains_right", F__law_are_chains_right), ("_law_right", F__law_right), ("_law_take", F__law_take)] "_law_pot" = some F__law_pot := rfl
theorem ph_law_middle_chains : phiL [("_law_places", F__law_places), ("_law_pot", F__law_pot), ("middle_chains", F_middle_chains), ("shifted", F_shifted), ("most_meeting", F_most_meeting), ("most_unlike", F_most_unlike), ("_law_most_by_look", F__law_most_by_look), ("_law_are_chains_right", F__law_are_chains_right), ("_law_right", F__law_right), ("_law_take", F__law_take)] "middle_chains" = some F_middle_chains := rfl
theorem ph_law_shifted : phiL [("_law_places", F__law_places), ("_law_pot", F__law_pot), ("middle_chains", F_middle_chains), ("shifted", F_shifted), ("most_meeting", F_most_meeting), ("most_unlike", F_most_unlike), ("_law_most_by_look", F__law_most_by_look), ("_law_are_chains_right", F__law_are_chains_right), ("_law_right", F__law_right), ("_law_take", F__law_take)] "shifted" = some F_shifted := rfl
theorem ph_law_most_meeting : phiL [("_law_places", F__law_places), ("_law_pot", F__law_pot), ("middle_chains", F_middle_chains), ("shifted", F_shifted), ("most_meeting", F_most_meeting), ("most_unlike", F_most_unlike), ("_law_most_by_look", F__law_most_by_look), ("_law_are_chains_right", F__law_are_chains_right), ("_law_right", F__law_right), ("_law_take", F__law_take)] "most_meeting" = some F_most_meeting := rfl
theorem ph_law_most_unlike : phiL [("_law_places", F__law_places), ("_law_pot", F__law_pot), ("middle_chains", F_middle_chains), ("shifted", F_shifted), ("most_meeting", F_most_meeting), ("most_unlike", F_most_unlike), ("_law_most_by_look", F__law_most_by_look), ("_law_are_chains_right", F__law_are_chains_right), ("_law_right", F__law_right), ("_law_take", F__law_take)] "most_unlike" = some F_most_unlike := rfl
theorem ph_law__law_most_by_look : phiL [("_law_places", F__law_places), ("_law_pot", F__law_pot), ("middle_chains", F_middle_chains), ("shifted", F_shifted), ("most_meeting", F_most_meeting), ("most_unlike", F_most_unlike), ("_law_most_by_look", F__law_most_by_look), ("_law_are_chains_right", F__law_are_chains_right), ("_law_right", F__law_right), ("_law_take", F__law_take)] "_law_most_by_look" = some F__law_most_by_look := rfl
theorem ph_law__law_are_chains_right : phiL [("_law_places", F__law_places), ("_law_pot", F__law_pot), ("middle_chains", F_middle_chains), ("shifted", F_shifted), ("most_meeting", F_most_meeting), ("most_unlike", F_most_unlike), ("_law_most_by_look", F__law_most_by_look), ("_law_are_chains_right", F__law_are_chains_right), ("_law_right", F__law_right), ("_law_take", F__law_take)] "_law_are_chains_right" = some F__law_are_chains_right := rfl
theorem ph_law__law_right : phiL [("_law_places", F__law_places), ("_law_pot", F__law_pot), ("middle_chains", F_middle_chains), ("shifted", F_shifted), ("most_meeting", F_most_meeting), ("most_unlike", F_most_unlike), ("_law_most_by_look", F__law_most_by_look), ("_law_are_chains_right", F__law_are_chains_right), ("_law_right", F__law_right), ("_law_take", F__law_take)] "_law_right" = some F__law_right := rfl
theorem ph_law__law_take : phiL [("_law_places", F__law_places), ("_law_pot", F__law_pot), ("middle_chains", F_middle_chains), ("shifted", F_shifted), ("most_meeting", F_most_meeting), ("most_unlike", F_most_unlike), ("_law_most_by_look", F__law_most_by_look), ("_law_are_chains_right", F__law_are_chains_right), ("_law_right", F__law_right), ("_law_take", F__law_take)] "_law_take" = some F__law_take := rfl
theorem m_law {d0 : PyData} : F_law.m [d0] = endF false [false] (execs (phiL [("_law_places", F__law_places), ("_law_pot", F__law_pot), ("middle_chains", F_middle_chains), ("shifted", F_shifted), ("most_meeting", F_most_meeting), ("most_unlike", F_most_unlike), ("_law_most_by_look", F__law_most_by_look), ("_law_are_chains_right", F__law_are_chains_right), ("_law_right", F__law_right), ("_law_take", F__law_take)]) FU b_law [some (.r d0), none, none, none, none, none]) := fsOf_m (io := io_law) (N := N_law) rfl rfl
end TL

set_option Elab.async false
set_option linter.all false
set_option maxRecDepth 100000
namespace TL
local macro_rules | `(tactic| simp_arith [$ls,*]) => `(tactic| simp (config := { failIfUnchanged := false, decide := false, implicitDefEqProofs := false, dsimp := false }) only [tg_nm, tg_2, nq_n, nq_r, nq_p, u_2, tn_nx, ne_eq, decide_not, Nat.reduceEqDiff, Nat.reduceBEq, decide_false, decide_true, not_false_eq_true, bt_tp2, o_ltT, sc_T, sc_I, z_T, fb_len, fb_tuple, fb_list, fb_sorted, fb_sum, fb_max1, fb_min1, fb_max2, fb_min2, fb_all, fb_any, fb_abs, fb_int, fb_repr, fb_isInt, fb_isBool, fb_isTuple, fb_isStr, fb_srs, fb_lns, fb_lrg1, fb_trg1, fb_lrg2, s_tI, s_tT, g_lenI, g_lenT, g_lenL, g_isTI, g_isTT, g_tupI, g_tupT, g_allm, g_anym, r_bind, r_ok, r_no, r_pure, r_pure, r_lift, r_cT, r_cF, r_when, n_0, n_s, p_0, p_s, lk_r, lk_p, lk_q, r_var, r_con, r_glb, r_neg, r_not, r_op, r_chn, r_and, r_or, r_ite, r_tup, r_lst, r_slc, r_some, r_call, r_blt, r_pop, r_cmp, r_dcm, r_dic, r_an, r_ac, r_cn, r_cc, r_iex, r_ir1, r_ir2, r_izp, v_v, v_f, v_fv, v_nv, v_nf, d_v, d_f, d_s, ld_p, ld_q, dd_n, dd_c, b_v, i_v, s_l, s_t, z_l, z_t, t_s, ts_p, ts_q, t_r, t_pl, t_pd, tr_n, tr_r, tr_p, pb_t, pb_f, c_o, c_e, pa_n, pa_c, e_nil, e_cons, q_nx, q_ret, e_asg, e_own, e_unp, e_par, e_sidx, e_app, e_ext, e_upd, e_exp, e_ifs, e_fr, e_ret, e_rv, e_rf, e_rp, lp_p, e_la, la_p, la_q, e_da, da_p, e_sa, sa_p, sa_q, a_l, x_l, ra_n, ra_0, ra_p, ra_r, ra_q, st_q, st_r, st_n, bt_nm, w_n, w_c, f_nx, f_rt, et_q, et_r, et_n, sl_n, sl_f, sl_t, le_n, le_v, le_f, le_s, le_t, nd_0, nd_1, c_c, c_s, o_add, o_sub, o_lt, o_le, o_gt, o_ge, o_eqi, o_nei, o_isb, o_int, o_nint, o_nintT, o_eqT, o_neT, o_eqI, o_neI, g_sum, g_lenl, g_lent, g_tupt, g_lisl, g_list, g_int, g_intb, g_abs, g_max, g_min, g_isT, g_trg, g_lrg, g_sorI, g_sorT, List.length_cons, List.length_nil, if_true, if_false, Bool.not_true, Bool.not_false, Bool.and_true, Bool.and_false, Bool.true_and, Bool.false_and, Bool.false_eq_true, reduceCtorEq, List.append_nil, List.nil_append, List.cons_append, Option.map_some, $ls,*])
open PySem PySem.W PyProof.Rows L2
theorem is_whole_i (i : Int) : F_is_whole.m [.int i] = some (.ok (.bool true) []) := rfl
theorem is_integer_i (i a b : Int) : F_is_integer.m [.int i, .int a, .int b] = some (.ok (.bool (decide (a ≤ i) && decide (i ≤ b))) []) := by
  simp_arith [m_is_integer, b_is_integer, ph_is_integer_is_whole, ioF_is_whole, frF_is_whole, is_whole_i]
  by_cases h : a ≤ i
  · simp_arith [h, decide_true]
  · simp_arith [h, decide_false]
theorem is_within_i (a b : Lot) : F_is_within.m [tupI a, tupI b] = some (.ok (.bool (ins a b)) []) := by
  simp_arith [m_is_within, b_is_within]
  rw [comp_bool (fun x => b.contains x) rfl fun x hx => ⟨_, _, by simp_arith []; rfl, by simp_arith [o_int]; rfl, by simp_arith []⟩]
  simp_arith []
  rfl
theorem meet_i (a b : Lot) : F_meet.m [tupI a, tupI b] = some (.ok (.bool (mts a b)) []) := by
  simp_arith [m_meet, b_meet]
  rw [comp_bool (fun x => b.contains x) rfl fun x hx => ⟨_, _, by simp_arith []; rfl, by simp_arith [o_int]; rfl, by simp_arith []⟩]
  simp_arith []
  rfl
theorem inside_i (a b : Lot) : F__law_inside.m [tupI a, tupI b] = some (.ok (.bool (ins a b)) []) := by
  simp_arith [m__law_inside, b__law_inside]
  rw [comp_bool (fun x => b.contains x) rfl fun x hx => ⟨_, _, by simp_arith []; rfl, by simp_arith [o_int]; rfl, by simp_arith []⟩]
  simp_arith []
  rfl
def isT (o : Option FR) : Bool := match o with | some (.ok (.bool true) []) => true | _ => false
theorem isT_eq {o : Option FR} (h : isT o = true) : o = some (.ok (.bool true) []) := by
  unfold isT at h
  split at h
  · rfl
  · cases h
theorem lot_all : gs.all (fun g => (U g).all fun l => isT (F_is_lot.m [.int g, tupI l])) = true := by decide +kernel
theorem is_lot_i {g : Nat} (hg : g ∈ gs) {l : Lot} (hl : l ∈ U g) : F_is_lot.m [.int g, tupI l] = some (.ok (.bool true) []) :=
  isT_eq (List.all_eq_true.mp (List.all_eq_true.mp lot_all g hg) l hl)
theorem guests_all : gs.all (fun g => match F_check_guests.m [.int g] with | some (.ok .none []) => true | _ => false) = true := by decide +kernel
theorem check_guests_i {g : Nat} (hg : g ∈ gs) : F_check_guests.m [.int g] = some (.ok .none []) := by
  have := List.all_eq_true.mp guests_all g hg
  split at this
  · assumption
  · cases this
theorem pw_zip {α : Type} {R : α → α → Prop} : ∀ {L : List α}, L.Pairwise R → ∀ p ∈ L.zip (L.drop 1), R p.1 p.2
  | [], _, _, h => by simp at h
  | [a], _, _, h => by simp at h
  | a :: b :: L, h, p, hp => by
    have h := List.pairwise_cons.mp h
    simp only [List.drop_succ_cons, List.drop_zero, List.zip_cons_cons, List.mem_cons] at hp
    rcases hp with rfl | hp
    · exact h.1 b List.mem_cons_self
    · exact pw_zip h.2 p (by simpa using hp)
theorem is_rising_F {F : List Lot} (h : F.Pairwise (fun a b => a < b)) : F_is_rising.m [tupT F] = some (.ok (.bool true) []) := by
  simp_arith [m_is_rising, b_is_rising, r_some, cutD_1, zip_map]
  rw [comp_bool (fun p => decide (p.1 < p.2)) rfl fun x hx => ⟨_, _, by simp_arith []; rfl, by simp_arith []; rfl, by simp_arith []⟩]
  simp_arith []
  have : ((F.zip (F.drop 1)).all fun p => decide (p.1 < p.2)) = true := List.all_eq_true.mpr fun p hp => decide_eq_true (pw_zip h p hp)
  rw [this]
theorem Fm.lt' {g : Nat} (hg : g ∈ gs) {F : List Lot} (h : Fm g F) : F.Pairwise (fun a b => a < b) :=
  (h.lt hg).imp fun {a b} q => by
    simp only [ltB, leI_eq, Bool.and_eq_true, decide_eq_true_eq, Bool.not_eq_true', beq_eq_false_iff_ne] at q
    exact (List.le_iff_lt_or_eq.mp q.1).resolve_right q.2
theorem check_family_i {g : Nat} (hg : g ∈ gs) {F : List Lot} (h : Fm g F) : F_check_family.m [.int g, tupT F] = some (.ok .none []) := by
  simp_arith [m_check_family, b_check_family, ph_check_family_check_guests, ph_check_family_is_rising, ph_check_family_is_lot, ioF_check_guests, frF_check_guests, check_guests_i hg]
  rw [comp_bool (fun x => true) rfl fun x hx => ⟨_, _, by simp_arith []; rfl, by simp_arith [ph_check_family_is_lot, ioF_is_lot, frF_is_lot, is_lot_i hg (h.sub x hx)]; rfl, by simp_arith []⟩]
  have : F.all (fun _ => true) = true := by simp
  simp_arith [this, ph_check_family_is_rising, ioF_is_rising, frF_is_rising, is_rising_F (h.lt' hg)]
end TL

set_option Elab.async false
set_option linter.all false
set_option maxRecDepth 100000
namespace TL
local macro_rules | `(tactic| simp_arith [$ls,*]) => `(tactic| simp (config := { failIfUnchanged := false, decide := false, implicitDefEqProofs := false, dsimp := false }) only [tg_nm, tg_2, nq_n, nq_r, nq_p, u_2, tn_nx, ne_eq, decide_not, Nat.reduceEqDiff, Nat.reduceBEq, decide_false, decide_true, not_false_eq_true, bt_tp2, o_ltT, sc_T, sc_I, z_T, fb_len, fb_tuple, fb_list, fb_sorted, fb_sum, fb_max1, fb_min1, fb_max2, fb_min2, fb_all, fb_any, fb_abs, fb_int, fb_repr, fb_isInt, fb_isBool, fb_isTuple, fb_isStr, fb_srs, fb_lns, fb_lrg1, fb_trg1, fb_lrg2, s_tI, s_tT, g_lenI, g_lenT, g_lenL, g_isTI, g_isTT, g_tupI, g_tupT, g_allm, g_anym, r_bind, r_ok, r_no, r_pure, r_pure, r_lift, r_cT, r_cF, r_when, n_0, n_s, p_0, p_s, lk_r, lk_p, lk_q, r_var, r_con, r_glb, r_neg, r_not, r_op, r_chn, r_and, r_or, r_ite, r_tup, r_lst, r_slc, r_some, r_call, r_blt, r_pop, r_cmp, r_dcm, r_dic, r_an, r_ac, r_cn, r_cc, r_iex, r_ir1, r_ir2, r_izp, v_v, v_f, v_fv, v_nv, v_nf, d_v, d_f, d_s, ld_p, ld_q, dd_n, dd_c, b_v, i_v, s_l, s_t, z_l, z_t, t_s, ts_p, ts_q, t_r, t_pl, t_pd, tr_n, tr_r, tr_p, pb_t, pb_f, c_o, c_e, pa_n, pa_c, e_nil, e_cons, q_nx, q_ret, e_asg, e_own, e_unp, e_par, e_sidx, e_app, e_ext, e_upd, e_exp, e_ifs, e_fr, e_ret, e_rv, e_rf, e_rp, lp_p, e_la, la_p, la_q, e_da, da_p, e_sa, sa_p, sa_q, a_l, x_l, ra_n, ra_0, ra_p, ra_r, ra_q, st_q, st_r, st_n, bt_nm, w_n, w_c, f_nx, f_rt, et_q, et_r, et_n, sl_n, sl_f, sl_t, le_n, le_v, le_f, le_s, le_t, nd_0, nd_1, c_c, c_s, o_add, o_sub, o_lt, o_le, o_gt, o_ge, o_eqi, o_nei, o_isb, o_int, o_nint, o_nintT, o_eqT, o_neT, o_eqI, o_neI, g_sum, g_lenl, g_lent, g_tupt, g_lisl, g_list, g_int, g_intb, g_abs, g_max, g_min, g_isT, g_trg, g_lrg, g_sorI, g_sorT, List.length_cons, List.length_nil, if_true, if_false, Bool.not_true, Bool.not_false, Bool.and_true, Bool.and_false, Bool.true_and, Bool.false_and, Bool.false_eq_true, reduceCtorEq, List.append_nil, List.nil_append, List.cons_append, Option.map_some, $ls,*])
open PySem PySem.W PyProof.Rows L2
theorem is_unlike_i {g : Nat} (hg : g ∈ gs) {F : List Lot} (h : Fm g F) : F_is_unlike.m [.int g, tupT F] = some (.ok (.bool (!(F.any fun a => F.any fun b => !decide (a = b) && ins a b))) []) := by
  simp_arith [m_is_unlike, b_is_unlike, ph_is_unlike_check_family, ioF_check_family, frF_check_family, check_family_i hg h]
  rw [comp_bool (fun a => F.any fun b => !decide (a = b) && ins a b) rfl fun a ha => ⟨_, _, by simp_arith []; rfl, by
    simp_arith []
    rw [comp_bool (fun b => !decide (a = b) && ins a b) rfl fun b hb => ⟨_, _, by simp_arith []; rfl, by
      simp_arith [o_neI]
      rw [cE_and (u := ins a b) (by simp_arith [ph_is_unlike_is_within, ioF_is_within, frF_is_within, is_within_i])]
      simp_arith []
      rfl, by simp_arith []⟩]
    simp_arith []
    rfl, by simp_arith []⟩]
  simp_arith []
theorem is_meeting_i {g : Nat} (hg : g ∈ gs) {F : List Lot} (h : Fm g F) : F_is_meeting.m [.int g, tupT F] = some (.ok (.bool (F.all fun a => F.all fun b => mts a b)) []) := by
  simp_arith [m_is_meeting, b_is_meeting, ph_is_meeting_check_family, ioF_check_family, frF_check_family, check_family_i hg h]
  rw [comp_bool (fun a => F.all fun b => mts a b) rfl fun a ha => ⟨_, _, by simp_arith []; rfl, by
    simp_arith []
    rw [comp_bool (fun b => mts a b) rfl fun b hb => ⟨_, _, by simp_arith []; rfl, by
      simp_arith [ph_is_meeting_meet, ioF_meet, frF_meet, meet_i]
      rfl, by simp_arith []⟩]
    simp_arith []
    rfl, by simp_arith []⟩]
  simp_arith []
theorem law_is_meeting_i {F : List Lot} : F__law_is_meeting.m [tupT F] = some (.ok (.bool (F.all fun a => F.all fun b => mts a b)) []) := by
  simp_arith [m__law_is_meeting, b__law_is_meeting]
  rw [comp_bool (fun a => F.all fun b => mts a b) rfl fun a ha => ⟨_, _, by simp_arith []; rfl, by
    simp_arith []
    rw [comp_bool (fun b => mts a b) rfl fun b hb => ⟨_, _, by simp_arith []; rfl, by
      simp_arith []
      rw [comp_bool (fun x => b.contains x) rfl fun x hx => ⟨_, _, by simp_arith []; rfl, by simp_arith [o_int]; rfl, by simp_arith []⟩]
      simp_arith []
      rfl, by simp_arith []⟩]
    simp_arith []
    rfl, by simp_arith []⟩]
  simp_arith []
theorem ways_all : gs.all (fun g => (U g).all fun l => match F_ways.m [.int g, .int l.length] with | some (.ok (.int n) []) => decide (n = chs g l.length) | _ => false) = true := by decide +kernel
theorem ways_i {g : Nat} (hg : g ∈ gs) {l : Lot} (hl : l ∈ U g) : F_ways.m [.int g, .int l.length] = some (.ok (.int (chs g l.length)) []) := by
  have := List.all_eq_true.mp (List.all_eq_true.mp ways_all g hg) l hl
  split at this
  · rename_i e
    rw [e, of_decide_eq_true this]
  · cases this
theorem lways_all : gs.all (fun g => (List.range (g + 1)).all fun k => match F__law_ways.m [.int g, .int k] with | some (.ok (.int n) []) => decide (n = chs g k) | _ => false) = true := by decide +kernel
theorem law_ways_i {g : Nat} (hg : g ∈ gs) {k : Nat} (hk : k ≤ g) : F__law_ways.m [.int g, .int k] = some (.ok (.int (chs g k)) []) := by
  have := List.all_eq_true.mp (List.all_eq_true.mp lways_all g hg) k (List.mem_range.mpr (by omega))
  split at this
  · rename_i e
    rw [e, of_decide_eq_true this]
  · cases this
end TL

set_option Elab.async false
set_option linter.all false
set_option maxRecDepth 100000
namespace TL
local macro_rules | `(tactic| simp_arith [$ls,*]) => `(tactic| simp (config := { failIfUnchanged := false, decide := false, implicitDefEqProofs := false, dsimp := false }) only [tg_nm, tg_2, nq_n, nq_r, nq_p, u_2, tn_nx, ne_eq, decide_not, Nat.reduceEqDiff, Nat.reduceBEq, decide_false, decide_true, not_false_eq_true, bt_tp2, o_ltT, sc_T, sc_I, z_T, fb_len, fb_tuple, fb_list, fb_sorted, fb_sum, fb_max1, fb_min1, fb_max2, fb_min2, fb_all, fb_any, fb_abs, fb_int, fb_repr, fb_isInt, fb_isBool, fb_isTuple, fb_isStr, fb_srs, fb_lns, fb_lrg1, fb_trg1, fb_lrg2, s_tI, s_tT, g_lenI, g_lenT, g_lenL, g_isTI, g_isTT, g_tupI, g_tupT, g_allm, g_anym, r_bind, r_ok, r_no, r_pure, r_pure, r_lift, r_cT, r_cF, r_when, n_0, n_s, p_0, p_s, lk_r, lk_p, lk_q, r_var, r_con, r_glb, r_neg, r_not, r_op, r_chn, r_and, r_or, r_ite, r_tup, r_lst, r_slc, r_some, r_call, r_blt, r_pop, r_cmp, r_dcm, r_dic, r_an, r_ac, r_cn, r_cc, r_iex, r_ir1, r_ir2, r_izp, v_v, v_f, v_fv, v_nv, v_nf, d_v, d_f, d_s, ld_p, ld_q, dd_n, dd_c, b_v, i_v, s_l, s_t, z_l, z_t, t_s, ts_p, ts_q, t_r, t_pl, t_pd, tr_n, tr_r, tr_p, pb_t, pb_f, c_o, c_e, pa_n, pa_c, e_nil, e_cons, q_nx, q_ret, e_asg, e_own, e_unp, e_par, e_sidx, e_app, e_ext, e_upd, e_exp, e_ifs, e_fr, e_ret, e_rv, e_rf, e_rp, lp_p, e_la, la_p, la_q, e_da, da_p, e_sa, sa_p, sa_q, a_l, x_l, ra_n, ra_0, ra_p, ra_r, ra_q, st_q, st_r, st_n, bt_nm, w_n, w_c, f_nx, f_rt, et_q, et_r, et_n, sl_n, sl_f, sl_t, le_n, le_v, le_f, le_s, le_t, nd_0, nd_1, c_c, c_s, o_add, o_sub, o_lt, o_le, o_gt, o_ge, o_eqi, o_nei, o_isb, o_int, o_nint, o_nintT, o_eqT, o_neT, o_eqI, o_neI, g_sum, g_lenl, g_lent, g_tupt, g_lisl, g_list, g_int, g_intb, g_abs, g_max, g_min, g_isT, g_trg, g_lrg, g_sorI, g_sorT, List.length_cons, List.length_nil, if_true, if_false, Bool.not_true, Bool.not_false, Bool.and_true, Bool.and_false, Bool.true_and, Bool.false_and, Bool.false_eq_true, reduceCtorEq, List.append_nil, List.nil_append, List.cons_append, Option.map_some, $ls,*])
open PySem PySem.W PyProof.Rows L2
def gcdC : Ev Bool := ev (phiL [("check_family", F_check_family), ("ways", F_ways)]) (.op .gt (.var 7) (.con (.int 0))) >>= fun x => isB x
def gcdB : Ev Out := execs (phiL [("check_family", F_check_family), ("ways", F_ways)]) FU (.cons (.par false 6 (.var 7) false 7 (.op .mod (.var 6) (.var 7))) .nil)
theorem gcd_loop {x0 x1 x2 x3 x4 x5 : Option SV} : ∀ (b a N : Nat), b < N → whGo gcdC gcdB N [x0, x1, x2, x3, x4, x5, some (.r (.int a)), some (.r (.int b))] = some (.ok .nx [x0, x1, x2, x3, x4, x5, some (.r (.int (Nat.gcd a b : Nat))), some (.r (.int (0 : Nat)))]) := by
  intro b
  induction b using Nat.strongRecOn with
  | ind b ih =>
    intro a N h
    cases N with
    | zero => omega
    | succ N =>
      rw [wh_s]
      by_cases z : b = 0
      · subst z
        simp only [gcdC]
        simp_arith [Nat.gcd_zero_right]
        rfl
      · have z1 : 0 < b := by omega
        have z2 : decide ((0 : Int) < (b : Int)) = true := decide_eq_true (by omega)
        have e : gcdC [x0, x1, x2, x3, x4, x5, some (.r (.int a)), some (.r (.int b))] = some (.ok true [x0, x1, x2, x3, x4, x5, some (.r (.int a)), some (.r (.int b))]) := by
          unfold gcdC
          simp_arith [z2]
        have e2 : gcdB [x0, x1, x2, x3, x4, x5, some (.r (.int a)), some (.r (.int b))] = some (.ok .nx [x0, x1, x2, x3, x4, x5, some (.r (.int b)), some (.r (.int (a % b : Nat)))]) := by
          unfold gcdB
          simp_arith [o_modn z1]
        simp_arith [e, e2]
        have lt := Nat.mod_lt a z1
        rw [ih (a % b) lt b N (by omega), Nat.gcd_comm a b, Nat.gcd_rec b a, Nat.gcd_comm (a % b) b]
theorem gcd_loop' {x0 x1 x2 x3 x4 x5 : Option SV} {b a : Nat} (h : b < FU) : whGo (ev (phiL [("check_family", F_check_family), ("ways", F_ways)]) (.op .gt (.var 7) (.con (.int 0))) >>= fun x => isB x) (execs (phiL [("check_family", F_check_family), ("ways", F_ways)]) FU (.cons (.par false 6 (.var 7) false 7 (.op .mod (.var 6) (.var 7))) .nil)) FU [x0, x1, x2, x3, x4, x5, some (.r (.int a)), some (.r (.int b))] = some (.ok .nx [x0, x1, x2, x3, x4, x5, some (.r (.int (Nat.gcd a b : Nat))), some (.r (.int (0 : Nat)))]) := gcd_loop b a FU h
theorem wgt_snoc (g : Nat) (pre : List Lot) (l : Lot) : wgt g (pre ++ [l]) = wst (chs g l.length) (wgt g pre) := by
  unfold wgt; rw [List.foldl_append]; rfl
theorem weight_i {g : Nat} (hg : g ∈ gs) {F : List Lot} (h : Fm g F) : F_weight.m [.int g, tupT F] = some (.ok (.tuple [.int (wgt g F).1, .int (wgt g F).2]) []) := by
  simp_arith [m_weight, b_weight, ph_weight_check_family, ioF_check_family, frF_check_family, check_family_i hg h]
  refine fr_then (fun z => endF false [false, false] z = some (.ok (.tuple [.int (wgt g F).1, .int (wgt g F).2]) [])) (fun pre τ => (∀ l ∈ pre, l ∈ U g) ∧ ∃ x2 x5 x6 x7, J x2 ∧ J x5 ∧ J x6 ∧ J x7 ∧ τ = [some (.r (.int g)), some (.r (tupT F)), x2, some (.r (.int (wgt g pre).1)), some (.r (.int (wgt g pre).2)), x5, x6, x7]) ?_ ?_ ?_
  · rintro pre l τ hl - ⟨hs, x2, x5, x6, x7, h2, h5, h6, h7, rfl⟩
    have lU := h.sub l hl
    have W := wgt_is hg hs
    have Y := ly hg
    refine ⟨by simp_arith [nq_J h2], _, by simp_arith []; rfl, ?_⟩
    have c20 := Y.le l lU
    have cp := Y.pos l lU
    have hc : chs g l.length < 18446744073709551616 := by omega
    have wl := Y.wl
    have ul := W.le
    have up := W.pos
    have hu : (wgt g pre).2 * chs g l.length ≤ 162000 * 20 := Nat.mul_le_mul (by omega) c20
    have hu0 : 0 < (wgt g pre).2 * chs g l.length := Nat.mul_pos up cp
    simp_arith [ph_weight_ways, ioF_ways, frF_ways, ways_i hg lU, tr_J h5, tr_J h6, tr_J h7, o_muln hc, ← Int.natCast_add, e_wh]
    have hF : (wgt g pre).2 * chs g l.length < FU := by
      unfold FU; omega
    rw [gcd_loop' hF]
    have d0 : 0 < Nat.gcd ((wgt g pre).1 * chs g l.length + (wgt g pre).2) ((wgt g pre).2 * chs g l.length) := Nat.gcd_pos_of_pos_right _ hu0
    have d1 : Nat.gcd ((wgt g pre).1 * chs g l.length + (wgt g pre).2) ((wgt g pre).2 * chs g l.length) < 18446744073709551616 := by
      have := Nat.le_of_dvd hu0 (Nat.gcd_dvd_right ((wgt g pre).1 * chs g l.length + (wgt g pre).2) ((wgt g pre).2 * chs g l.length))
      omega
    simp_arith [o_fdivn d0 d1]
    simp only [wgt_snoc, wst]
    exact nxt_ok ⟨fun m hm => (List.mem_append.mp hm).elim (hs m) fun q => by rw [List.mem_singleton.mp q]; exact lU, _, _, _, _, J_r, J_r, J_r, J_r, rfl⟩
  · exact ⟨by simp, none, none, none, none, J_n, J_n, J_n, J_n, rfl⟩
  · rintro τ ⟨_, x2, x5, x6, x7, h2, h5, h6, h7, rfl⟩
    simp_arith [ra_J h2, ra_J h5, ra_J h6, ra_J h7]
    have : few (0 + 1 + 1) = true := rfl
    simp_arith [this]
end TL

set_option Elab.async false
set_option linter.all false
set_option maxRecDepth 100000
namespace TL
local macro_rules | `(tactic| simp_arith [$ls,*]) => `(tactic| simp (config := { failIfUnchanged := false, decide := false, implicitDefEqProofs := false, dsimp := false }) only [tg_nm, tg_2, nq_n, nq_r, nq_p, u_2, tn_nx, ne_eq, decide_not, Nat.reduceEqDiff, Nat.reduceBEq, decide_false, decide_true, not_false_eq_true, bt_tp2, o_ltT, sc_T, sc_I, z_T, fb_len, fb_tuple, fb_list, fb_sorted, fb_sum, fb_max1, fb_min1, fb_max2, fb_min2, fb_all, fb_any, fb_abs, fb_int, fb_repr, fb_isInt, fb_isBool, fb_isTuple, fb_isStr, fb_srs, fb_lns, fb_lrg1, fb_trg1, fb_lrg2, s_tI, s_tT, g_lenI, g_lenT, g_lenL, g_isTI, g_isTT, g_tupI, g_tupT, g_allm, g_anym, r_bind, r_ok, r_no, r_pure, r_pure, r_lift, r_cT, r_cF, r_when, n_0, n_s, p_0, p_s, lk_r, lk_p, lk_q, r_var, r_con, r_glb, r_neg, r_not, r_op, r_chn, r_and, r_or, r_ite, r_tup, r_lst, r_slc, r_some, r_call, r_blt, r_pop, r_cmp, r_dcm, r_dic, r_an, r_ac, r_cn, r_cc, r_iex, r_ir1, r_ir2, r_izp, v_v, v_f, v_fv, v_nv, v_nf, d_v, d_f, d_s, ld_p, ld_q, dd_n, dd_c, b_v, i_v, s_l, s_t, z_l, z_t, t_s, ts_p, ts_q, t_r, t_pl, t_pd, tr_n, tr_r, tr_p, pb_t, pb_f, c_o, c_e, pa_n, pa_c, e_nil, e_cons, q_nx, q_ret, e_asg, e_own, e_unp, e_par, e_sidx, e_app, e_ext, e_upd, e_exp, e_ifs, e_fr, e_ret, e_rv, e_rf, e_rp, lp_p, e_la, la_p, la_q, e_da, da_p, e_sa, sa_p, sa_q, a_l, x_l, ra_n, ra_0, ra_p, ra_r, ra_q, st_q, st_r, st_n, bt_nm, w_n, w_c, f_nx, f_rt, et_q, et_r, et_n, sl_n, sl_f, sl_t, le_n, le_v, le_f, le_s, le_t, nd_0, nd_1, c_c, c_s, o_add, o_sub, o_lt, o_le, o_gt, o_ge, o_eqi, o_nei, o_isb, o_int, o_nint, o_nintT, o_eqT, o_neT, o_eqI, o_neI, g_sum, g_lenl, g_lent, g_tupt, g_lisl, g_list, g_int, g_intb, g_abs, g_max, g_min, g_isT, g_trg, g_lrg, g_sorI, g_sorT, List.length_cons, List.length_nil, if_true, if_false, Bool.not_true, Bool.not_false, Bool.and_true, Bool.and_false, Bool.true_and, Bool.false_and, Bool.false_eq_true, reduceCtorEq, List.append_nil, List.nil_append, List.cons_append, Option.map_some, $ls,*])
open PySem PySem.W PyProof.Rows L2
theorem shift_of_i {F : List Lot} {i j : Int} (hF : F.length ≤ 1000) : F_shift_of.m [tupT F, .int i, .int j] = some (.ok (tupT (mvd i j F)) []) := by
  simp_arith [m_shift_of, b_shift_of]
  rw [dcomp_run (L := F) (e := tupI) id (by omega) rfl fun a ha => ⟨_, _, by simp_arith []; rfl, by simp_arith []; rfl, by simp_arith []⟩]
  have hK : ∀ x, (x ∈ addsK [] (F.map id)) ↔ x ∈ F := fun x => by rw [addsK_mem]; simp
  generalize hKK : addsK [] (F.map id) = K at hK
  have few0 : few 0 = true := rfl
  simp_arith [few0]
  refine fr_then (fun z => endF false [false, false, false] z = some (.ok (tupT (mvd i j F)) [])) (fun pre τ => ∃ x3 x6 x7, τ = [some (.r (tupT F)), some (.r (.int i)), some (.r (.int j)), x3, some (.r (.dict (dKt K))), some (.p (.list ((pre.map (stp i j F)).map tupI))), x6, x7, none] ∧ J x3 ∧ J x6 ∧ J x7) ?_ ?_ ?_
  · rintro pre l τ hl hp ⟨x3, x6, x7, rfl, h3, h6, h7⟩
    refine ⟨by simp_arith [nq_J h3], _, by simp_arith []; rfl, ?_⟩
    simp_arith []
    rw [comp_int (fun x => if x = j then i else x) rfl fun x hx => ⟨_, _, by simp_arith []; rfl, by
      simp_arith [o_eqi]
      rw [cE_intd (by simp_arith []; rfl) (by simp_arith []; rfl)]
      simp_arith []
      rfl, by simp_arith []⟩]
    simp_arith [tr_J h6, o_int]
    have em : sortL leZ (l.map fun x => if x = j then i else x) = mvl i j l := rfl
    rw [em]
    rw [cE_and (u := !l.contains i && !decide (mvl i j l ∈ K)) (by
      simp_arith [o_nint]
      rw [cE_and (u := !decide (mvl i j l ∈ K)) (by simp_arith [o_nind])]
      simp_arith [])]
    have eB : (l.contains j && (!l.contains i && !decide (mvl i j l ∈ K))) = (upL i j l && !F.contains (mvl i j l)) := by
      simp [upL, hK, Bool.and_assoc]
    simp_arith [tr_J h7, eB]
    rw [cE_ite (by simp_arith []; rfl) (by simp_arith []; rfl)]
    have fw : few (((pre.map (stp i j F)).map tupI).length + 1) = true := few_ok (by simp; omega)
    simp_arith [fw, ite_tup]
    simp only [List.map_append, List.map_cons, List.map_nil, stp]
    exact nxt_ok ⟨_, _, _, rfl, J_r, J_r, J_r⟩
  · exact ⟨none, none, none, rfl, J_n, J_n, J_n⟩
  · rintro τ ⟨x3, x6, x7, rfl, h3, h6, h7⟩
    simp_arith [ra_J h3, ra_J h6, ra_J h7, g_sorT]
    rfl
end TL

set_option Elab.async false
set_option linter.all false
set_option maxRecDepth 100000
namespace TL
local macro_rules | `(tactic| simp_arith [$ls,*]) => `(tactic| simp (config := { failIfUnchanged := false, decide := false, implicitDefEqProofs := false, dsimp := false }) only [tg_nm, tg_2, nq_n, nq_r, nq_p, u_2, tn_nx, ne_eq, decide_not, Nat.reduceEqDiff, Nat.reduceBEq, decide_false, decide_true, not_false_eq_true, bt_tp2, o_ltT, sc_T, sc_I, z_T, fb_len, fb_tuple, fb_list, fb_sorted, fb_sum, fb_max1, fb_min1, fb_max2, fb_min2, fb_all, fb_any, fb_abs, fb_int, fb_repr, fb_isInt, fb_isBool, fb_isTuple, fb_isStr, fb_srs, fb_lns, fb_lrg1, fb_trg1, fb_lrg2, s_tI, s_tT, g_lenI, g_lenT, g_lenL, g_isTI, g_isTT, g_tupI, g_tupT, g_allm, g_anym, r_bind, r_ok, r_no, r_pure, r_pure, r_lift, r_cT, r_cF, r_when, n_0, n_s, p_0, p_s, lk_r, lk_p, lk_q, r_var, r_con, r_glb, r_neg, r_not, r_op, r_chn, r_and, r_or, r_ite, r_tup, r_lst, r_slc, r_some, r_call, r_blt, r_pop, r_cmp, r_dcm, r_dic, r_an, r_ac, r_cn, r_cc, r_iex, r_ir1, r_ir2, r_izp, v_v, v_f, v_fv, v_nv, v_nf, d_v, d_f, d_s, ld_p, ld_q, dd_n, dd_c, b_v, i_v, s_l, s_t, z_l, z_t, t_s, ts_p, ts_q, t_r, t_pl, t_pd, tr_n, tr_r, tr_p, pb_t, pb_f, c_o, c_e, pa_n, pa_c, e_nil, e_cons, q_nx, q_ret, e_asg, e_own, e_unp, e_par, e_sidx, e_app, e_ext, e_upd, e_exp, e_ifs, e_fr, e_ret, e_rv, e_rf, e_rp, lp_p, e_la, la_p, la_q, e_da, da_p, e_sa, sa_p, sa_q, a_l, x_l, ra_n, ra_0, ra_p, ra_r, ra_q, st_q, st_r, st_n, bt_nm, w_n, w_c, f_nx, f_rt, et_q, et_r, et_n, sl_n, sl_f, sl_t, le_n, le_v, le_f, le_s, le_t, nd_0, nd_1, c_c, c_s, o_add, o_sub, o_lt, o_le, o_gt, o_ge, o_eqi, o_nei, o_isb, o_int, o_nint, o_nintT, o_eqT, o_neT, o_eqI, o_neI, g_sum, g_lenl, g_lent, g_tupt, g_lisl, g_list, g_int, g_intb, g_abs, g_max, g_min, g_isT, g_trg, g_lrg, g_sorI, g_sorT, List.length_cons, List.length_nil, if_true, if_false, Bool.not_true, Bool.not_false, Bool.and_true, Bool.and_false, Bool.true_and, Bool.false_and, Bool.false_eq_true, reduceCtorEq, List.append_nil, List.nil_append, List.cons_append, Option.map_some, $ls,*])
open PySem PySem.W PyProof.Rows L2
def nwl (i j : Int) (l : Lot) : Lot := sortL leZ (l.filter (fun x => !decide (x = j)) ++ [i])
theorem nwl_all : gs.all (fun g => (prs g).all fun (p : Int × Int) => (U g).all fun l => !upL p.1 p.2 l || decide (nwl p.1 p.2 l = mvl p.1 p.2 l)) = true := by decide +kernel
theorem nwl_eq {g : Nat} (hg : g ∈ gs) {i j : Int} (hp : (i, j) ∈ prs g) {l : Lot} (hl : l ∈ U g) (h : upL i j l = true) : nwl i j l = mvl i j l := by
  have := List.all_eq_true.mp (List.all_eq_true.mp (List.all_eq_true.mp nwl_all g hg) _ hp) l hl
  simpa [h] using this
theorem law_moved_i {g : Nat} (hg : g ∈ gs) {i j : Int} (hp : (i, j) ∈ prs g) {F : List Lot} (hs : ∀ l ∈ F, l ∈ U g) (hF : F.length ≤ 1000) : F__law_moved.m [tupT F, .int i, .int j] = some (.ok (tupT (mvd i j F)) []) := by
  have few0 : few 0 = true := rfl
  simp_arith [m__law_moved, b__law_moved, few0]
  refine fr_then (fun z => endF false [false, false, false] z = some (.ok (tupT (mvd i j F)) [])) (fun pre τ => ∃ x4 x5, τ = [some (.r (tupT F)), some (.r (.int i)), some (.r (.int j)), some (.p (.list ((pre.map (stp i j F)).map tupI))), x4, x5, none] ∧ J x4 ∧ J x5) ?_ ?_ ?_
  · rintro pre l τ hl hn ⟨x4, x5, rfl, h4, h5⟩
    refine ⟨by simp_arith [nq_J h4], _, by simp_arith []; rfl, ?_⟩
    simp_arith []
    rw [comp_filter (fun x => !decide (x = j)) rfl fun x hx => ⟨_, _, by simp_arith []; rfl, by
      simp_arith [o_nei]
      rw [cE_opt (by simp_arith []; rfl)], by simp_arith []⟩]
    have ll := U_len hg (hs l hl)
    have g6 : g ≤ 6 := by
      have : gs.all (fun g => decide (g ≤ 6)) = true := rfl
      simpa using List.all_eq_true.mp this g hg
    have fl := List.length_filter_le (fun x => !decide (x = j)) l
    have few1 : few (0 + 1) = true := rfl
    simp_arith [few1, o_addl' (ds := (l.filter (fun x => !decide (x = j))).map PyData.int) (es := [PyData.int i]) (by simp; omega), map_int_snoc, tr_J h5]
    have em : sortL leZ (l.filter (fun x => !decide (x = j)) ++ [i]) = nwl i j l := rfl
    rw [em]
    simp_arith [o_int]
    rw [cE_and (u := !l.contains i && !F.contains (nwl i j l)) (by
      simp_arith [o_nint]
      rw [cE_and (u := !F.contains (nwl i j l)) (by simp_arith [o_nintT])]
      simp_arith [])]
    have eB : (if (l.contains j && (!l.contains i && !F.contains (nwl i j l))) = true then nwl i j l else l) = stp i j F l := by
      unfold stp
      by_cases u : upL i j l = true
      · rw [nwl_eq hg hp (hs l hl) u, u]
        simp only [upL, Bool.and_eq_true] at u
        simp only [u.1, u.2, Bool.true_and]
      · simp only [Bool.not_eq_true] at u
        rw [u]
        have : (l.contains j && (!l.contains i && !F.contains (nwl i j l))) = false := by
          rw [← Bool.and_assoc]
          show (upL i j l && _) = false
          rw [u]; rfl
        rw [this]; rfl
    have fw : few (((pre.map (stp i j F)).map tupI).length + 1) = true := few_ok (by simp; omega)
    simp_arith []
    rw [cE_ite (by simp_arith []; rfl) (by simp_arith []; rfl), ite_tup, eB]
    simp_arith [fw]
    simp only [List.map_append, List.map_cons, List.map_nil]
    exact nxt_ok ⟨_, _, rfl, J_r, J_r⟩
  · exact ⟨none, none, rfl, J_n, J_n⟩
  · rintro τ ⟨x4, x5, rfl, h4, h5⟩
    simp_arith [ra_J h4, ra_J h5, g_sorT]
    rfl
theorem shift_i {g : Nat} (hg : g ∈ gs) {i j : Nat} (hij : i < j) (hj : j < g) {F : List Lot} (h : Fm g F) (hF : F.length ≤ 1000) : F_shift.m [.int g, tupT F, .int i, .int j] = some (.ok (tupT (mvd i j F)) []) := by
  have e1 : (decide ((0 : Int) ≤ (i : Int)) && decide ((i : Int) ≤ (g : Int) - 1)) = true := by
    simp only [Bool.and_eq_true, decide_eq_true_eq]; omega
  have e2 : (decide ((i : Int) + 1 ≤ (j : Int)) && decide ((j : Int) ≤ (g : Int) - 1)) = true := by
    simp only [Bool.and_eq_true, decide_eq_true_eq]; omega
  simp_arith [m_shift, b_shift, ph_shift_check_family, ph_shift_shift_of, ph_shift_is_integer, ioF_check_family, frF_check_family, check_family_i hg h, ioF_is_integer, frF_is_integer, is_integer_i, e1, e2, ioF_shift_of, frF_shift_of, shift_of_i hF]
end TL

set_option Elab.async false
set_option linter.all false
set_option maxRecDepth 100000
namespace TL
local macro_rules | `(tactic| simp_arith [$ls,*]) => `(tactic| simp (config := { failIfUnchanged := false, decide := false, implicitDefEqProofs := false, dsimp := false }) only [tg_nm, tg_2, nq_n, nq_r, nq_p, u_2, tn_nx, ne_eq, decide_not, Nat.reduceEqDiff, Nat.reduceBEq, decide_false, decide_true, not_false_eq_true, bt_tp2, o_ltT, sc_T, sc_I, z_T, fb_len, fb_tuple, fb_list, fb_sorted, fb_sum, fb_max1, fb_min1, fb_max2, fb_min2, fb_all, fb_any, fb_abs, fb_int, fb_repr, fb_isInt, fb_isBool, fb_isTuple, fb_isStr, fb_srs, fb_lns, fb_lrg1, fb_trg1, fb_lrg2, s_tI, s_tT, g_lenI, g_lenT, g_lenL, g_isTI, g_isTT, g_tupI, g_tupT, g_allm, g_anym, r_bind, r_ok, r_no, r_pure, r_pure, r_lift, r_cT, r_cF, r_when, n_0, n_s, p_0, p_s, lk_r, lk_p, lk_q, r_var, r_con, r_glb, r_neg, r_not, r_op, r_chn, r_and, r_or, r_ite, r_tup, r_lst, r_slc, r_some, r_call, r_blt, r_pop, r_cmp, r_dcm, r_dic, r_an, r_ac, r_cn, r_cc, r_iex, r_ir1, r_ir2, r_izp, v_v, v_f, v_fv, v_nv, v_nf, d_v, d_f, d_s, ld_p, ld_q, dd_n, dd_c, b_v, i_v, s_l, s_t, z_l, z_t, t_s, ts_p, ts_q, t_r, t_pl, t_pd, tr_n, tr_r, tr_p, pb_t, pb_f, c_o, c_e, pa_n, pa_c, e_nil, e_cons, q_nx, q_ret, e_asg, e_own, e_unp, e_par, e_sidx, e_app, e_ext, e_upd, e_exp, e_ifs, e_fr, e_ret, e_rv, e_rf, e_rp, lp_p, e_la, la_p, la_q, e_da, da_p, e_sa, sa_p, sa_q, a_l, x_l, ra_n, ra_0, ra_p, ra_r, ra_q, st_q, st_r, st_n, bt_nm, w_n, w_c, f_nx, f_rt, et_q, et_r, et_n, sl_n, sl_f, sl_t, le_n, le_v, le_f, le_s, le_t, nd_0, nd_1, c_c, c_s, o_add, o_sub, o_lt, o_le, o_gt, o_ge, o_eqi, o_nei, o_isb, o_int, o_nint, o_nintT, o_eqT, o_neT, o_eqI, o_neI, g_sum, g_lenl, g_lent, g_tupt, g_lisl, g_list, g_int, g_intb, g_abs, g_max, g_min, g_isT, g_trg, g_lrg, g_sorI, g_sorT, List.length_cons, List.length_nil, if_true, if_false, Bool.not_true, Bool.not_false, Bool.and_true, Bool.and_false, Bool.true_and, Bool.false_and, Bool.false_eq_true, reduceCtorEq, List.append_nil, List.nil_append, List.cons_append, Option.map_some, $ls,*])
open PySem PySem.W PyProof.Rows L2
def yD : Option (List Lot) → PyData
  | none => .none
  | some G => tupT G
theorem ne_yD (F : List Lot) (y : Option (List Lot)) : sem2 .ne (tupT F) (yD y) = some (.bool (!decide (y = some F))) := by
  cases y with
  | none =>
    rw [o_ne (shaped_tupT F) (by rfl)]
    rfl
  | some G =>
    show sem2 .ne (tupT F) (tupT G) = _
    rw [o_neT]
    by_cases h : F = G
    · subst h; simp
    · have : ¬ G = F := fun e => h e.symm
      simp [h, this]
theorem wh_itr {g : Nat} (hg : g ∈ gs) {c : Ev Bool} {b : Ev Out} (St : List Lot → Option (List Lot) → Tau → Prop) (hc : ∀ F y τ, St F y τ → c τ = some (.ok (!decide (y = some F)) τ))
    (hb : ∀ F y τ, St F y τ → Fm g F → nxt (b τ) (St (rnd g F) (some F))) : ∀ (n N : Nat) (F : List Lot) (y : Option (List Lot)) (τ : Tau), n + 1 < N → tot F < n → Fm g F → y ≠ some F → St F y τ → nxt (whGo c b N τ) (fun τ' => ∃ y', St (itr g n F) y' τ')
  | 0, N, F, y, τ, _, h, hF, _, _ => by have := tot_nonneg hg hF; omega
  | n + 1, 0, F, y, τ, hN, _, _, _, _ => by omega
  | n + 1, N + 1, F, y, τ, hN, h, hF, hy, hS => by
    have e1 := hc F y τ hS
    rw [decide_eq_false hy] at e1
    obtain ⟨τ2, e2, S2⟩ := hb F y τ hS hF
    have R := rnd_tot hg hF
    have e : whGo c b (N + 1) τ = whGo c b N τ2 := by
      rw [wh_s, e1]
      simp_arith [e2]
    rw [e]
    unfold itr
    by_cases z : rnd g F = F
    · rw [if_pos z]
      rw [z] at S2
      have e3 := hc F (some F) τ2 S2
      cases N with
      | zero => omega
      | succ N =>
        refine ⟨τ2, ?_, _, S2⟩
        rw [wh_s, e3]
        simp_arith [decide_true]
    · rw [if_neg z]
      have lt := R.2.resolve_left z
      exact wh_itr hg St hc hb n N (rnd g F) (some F) τ2 (by omega) (by omega) R.1 (fun q => z (Option.some.inj q).symm) S2
theorem mvd_step {g : Nat} (hg : g ∈ gs) {i j n : Nat} (h1 : i < j) (h2 : j < g) {F : List Lot} (h : Fm g F ∧ F.length = n) : Fm g (mvd i j F) ∧ (mvd i j F).length = n :=
  ⟨mvd_fm hg (prs_mem h1 h2) h.1, by rw [mvd_len, h.2]⟩
def stS (g : Nat) (fam : PyData) (F : List Lot) (y : Option (List Lot)) (τ : Tau) : Prop := ∃ x4 x5, τ = [some (.r (.int g)), some (.r fam), some (.r (tupT F)), some (.r (yD y)), x4, x5] ∧ J x4 ∧ J x5 ∧ F.length ≤ 11
theorem gs_le {g : Nat} (hg : g ∈ gs) : g ≤ 6 := by
  have : gs.all (fun g => decide (g ≤ 6)) = true := rfl
  simpa using List.all_eq_true.mp this g hg
theorem gs_pos {g : Nat} (hg : g ∈ gs) : 0 < g := by
  have : gs.all (fun g => decide (0 < g)) = true := rfl
  simpa using List.all_eq_true.mp this g hg
theorem row1_snoc (j : Nat) (F : List Lot) (pre : List Nat) (a : Nat) : (pre ++ [a]).foldl (fun F (i : Nat) => mvd (i : Int) (j : Int) F) F = mvd a j (pre.foldl (fun F (i : Nat) => mvd (i : Int) (j : Int) F) F) := by
  rw [List.foldl_append]; rfl
theorem rnd_snoc (F : List Lot) (pre : List Nat) (a : Nat) : (pre ++ [a]).foldl (fun F j => row1 j F) F = row1 a (pre.foldl (fun F j => row1 j F) F) := by
  rw [List.foldl_append]; rfl
theorem shifted_i {g : Nat} (hg : g ∈ gs) {F : List Lot} (h : Fm g F) (hF : F.length ≤ 11) : F_shifted.m [.int g, tupT F] = some (.ok (tupT (itr g 200 F)) []) := by
  have g6 := gs_le hg
  simp_arith [m_shifted, b_shifted, ph_shifted_check_family, ph_shifted_shift_of, ioF_check_family, frF_check_family, check_family_i hg h, e_wh]
  obtain ⟨τ', e, y', x4, x5, rfl, h4, h5, _⟩ := wh_itr hg (c := ev (phiL [("check_family", F_check_family), ("shift_of", F_shift_of)]) (.op .ne (.var 2) (.var 3)) >>= fun x => isB x)
    (b := execs (phiL [("check_family", F_check_family), ("shift_of", F_shift_of)]) FU (.cons (.asg 3 (.var 2)) (
    .cons (.fr (.nm 4) (.rng1 (.var 0)) (.cons (.fr (.nm 5) (.rng1 (.var 4)) (.cons (.asg 2 (.call "shift_of" (.cons false (.var 2) (.cons false (.var 5) (.cons false (.var 4) (.nil)))))) (
        .nil))) (
      .nil))) (
    .nil)))) (stS g (tupT F)) (fun G y τ => by
      rintro ⟨x4, x5, rfl, h4, h5, hl⟩
      simp_arith [ne_yD]) (fun G y τ => by
      rintro ⟨x4, x5, rfl, h4, h5, hl⟩ hG
      simp_arith [rngI_nat (show g ≤ 1000000 by omega), upI_map, Int.toNat_natCast]
      refine fr_then (fun z => nxt z (stS g (tupT F) (rnd g G) (some G))) (fun pre τ => ∃ x4 x5, τ = [some (.r (.int g)), some (.r (tupT F)), some (.r (tupT (pre.foldl (fun F j => row1 j F) G))), some (.r (tupT G)), x4, x5] ∧ J x4 ∧ J x5 ∧ Fm g (pre.foldl (fun F j => row1 j F) G) ∧ (pre.foldl (fun F j => row1 j F) G).length = G.length) ?_ ?_ ?_
      · rintro pre j τ hj - ⟨x4, x5, rfl, h4, h5, hM, hl2⟩
        have hj := List.mem_range.mp hj
        refine ⟨by simp_arith [nq_J h4], _, by simp_arith []; rfl, ?_⟩
        simp_arith [rngI_nat (show j ≤ 1000000 by omega), upI_map, Int.toNat_natCast]
        simp only [rnd_snoc]
        generalize pre.foldl (fun F j => row1 j F) G = M at *
        refine fr_then (fun z => nxt z _) (fun pr τ => ∃ x5, τ = [some (.r (.int g)), some (.r (tupT F)), some (.r (tupT (pr.foldl (fun F (i : Nat) => mvd (i : Int) (j : Int) F) M))), some (.r (tupT G)), some (.r (.int j)), x5] ∧ J x5 ∧ Fm g (pr.foldl (fun F (i : Nat) => mvd (i : Int) (j : Int) F) M) ∧ (pr.foldl (fun F (i : Nat) => mvd (i : Int) (j : Int) F) M).length = G.length) ?_ ?_ ?_
        · rintro pr i τ hi - ⟨x5, rfl, h5, hA⟩
          have hi := List.mem_range.mp hi
          refine ⟨by simp_arith [nq_J h5], _, by simp_arith []; rfl, ?_⟩
          have st := mvd_step hg hi hj hA
          simp only [row1_snoc]
          generalize pr.foldl (fun F (i : Nat) => mvd (i : Int) (j : Int) F) M = A at *
          simp_arith [ph_shifted_shift_of, ioF_shift_of, frF_shift_of, shift_of_i (F := A) (i := (i : Int)) (j := (j : Int)) (by omega)]
          exact nxt_ok ⟨_, rfl, J_r, st⟩
        · exact ⟨_, rfl, h5, hM, hl2⟩
        · rintro τ ⟨x5, rfl, h5, hA⟩
          simp_arith []
          exact nxt_ok ⟨_, _, rfl, J_r, h5, hA⟩
      · exact ⟨_, _, rfl, h4, h5, hG, rfl⟩
      · rintro τ ⟨x4, x5, rfl, h4, h5, hM, hl2⟩
        simp_arith []
        exact nxt_ok ⟨_, _, rfl, h4, h5, by have e : (rnd g G).length = G.length := hl2; omega⟩) 200 FU F none [some (.r (.int g)), some (.r (tupT F)), some (.r (tupT F)), some (.r .none), none, none] (by unfold FU; omega) (by have := tot_le hg h.sub; omega) h (by simp) ⟨_, _, rfl, J_n, J_n, hF⟩
  rw [e]
  simp_arith [ra_J h4, ra_J h5]
def stL (g : Nat) (F : List Lot) (y : Option (List Lot)) (τ : Tau) : Prop := ∃ x4 x5, τ = [some (.r (.int g)), some (.r (tupT F)), some (.r (yD y)), x4, x5] ∧ J x4 ∧ J x5 ∧ F.length ≤ 11
theorem law_still_i {g : Nat} (hg : g ∈ gs) {F : List Lot} (h : Fm g F) (hF : F.length ≤ 11) : F__law_still.m [.int g, tupT F] = some (.ok (tupT (itr g 200 F)) []) := by
  have g6 := gs_le hg
  simp_arith [m__law_still, b__law_still, ph__law_still__law_moved, e_wh]
  obtain ⟨τ', e, y', x4, x5, rfl, h4, h5, _⟩ := wh_itr hg (c := ev (phiL [("_law_moved", F__law_moved)]) (.op .ne (.var 1) (.var 2)) >>= fun x => isB x)
    (b := execs (phiL [("_law_moved", F__law_moved)]) FU (.cons (.asg 2 (.var 1)) (
    .cons (.fr (.nm 3) (.rng1 (.var 0)) (.cons (.fr (.nm 4) (.rng1 (.var 3)) (.cons (.asg 1 (.call "_law_moved" (.cons false (.var 1) (.cons false (.var 4) (.cons false (.var 3) (.nil)))))) (
        .nil))) (
      .nil))) (
    .nil)))) (stL g) (fun G y τ => by
      rintro ⟨x4, x5, rfl, h4, h5, hl⟩
      simp_arith [ne_yD]) (fun G y τ => by
      rintro ⟨x4, x5, rfl, h4, h5, hl⟩ hG
      simp_arith [rngI_nat (show g ≤ 1000000 by omega), upI_map, Int.toNat_natCast]
      refine fr_then (fun z => nxt z (stL g (rnd g G) (some G))) (fun pre τ => ∃ x4 x5, τ = [some (.r (.int g)), some (.r (tupT (pre.foldl (fun F j => row1 j F) G))), some (.r (tupT G)), x4, x5] ∧ J x4 ∧ J x5 ∧ Fm g (pre.foldl (fun F j => row1 j F) G) ∧ (pre.foldl (fun F j => row1 j F) G).length = G.length) ?_ ?_ ?_
      · rintro pre j τ hj - ⟨x4, x5, rfl, h4, h5, hM, hl2⟩
        have hj := List.mem_range.mp hj
        refine ⟨by simp_arith [nq_J h4], _, by simp_arith []; rfl, ?_⟩
        simp_arith [rngI_nat (show j ≤ 1000000 by omega), upI_map, Int.toNat_natCast]
        simp only [rnd_snoc]
        generalize pre.foldl (fun F j => row1 j F) G = M at *
        refine fr_then (fun z => nxt z _) (fun pr τ => ∃ x5, τ = [some (.r (.int g)), some (.r (tupT (pr.foldl (fun F (i : Nat) => mvd (i : Int) (j : Int) F) M))), some (.r (tupT G)), some (.r (.int j)), x5] ∧ J x5 ∧ Fm g (pr.foldl (fun F (i : Nat) => mvd (i : Int) (j : Int) F) M) ∧ (pr.foldl (fun F (i : Nat) => mvd (i : Int) (j : Int) F) M).length = G.length) ?_ ?_ ?_
        · rintro pr i τ hi - ⟨x5, rfl, h5, hA⟩
          have hi := List.mem_range.mp hi
          refine ⟨by simp_arith [nq_J h5], _, by simp_arith []; rfl, ?_⟩
          have st := mvd_step hg hi hj hA
          simp only [row1_snoc]
          generalize pr.foldl (fun F (i : Nat) => mvd (i : Int) (j : Int) F) M = A at *
          simp_arith [ph__law_still__law_moved, ioF__law_moved, frF__law_moved, law_moved_i hg (F := A) (prs_mem hi hj) hA.1.sub (by omega)]
          exact nxt_ok ⟨_, rfl, J_r, st⟩
        · exact ⟨_, rfl, h5, hM, hl2⟩
        · rintro τ ⟨x5, rfl, h5, hA⟩
          simp_arith []
          exact nxt_ok ⟨_, _, rfl, J_r, h5, hA⟩
      · exact ⟨_, _, rfl, h4, h5, hG, rfl⟩
      · rintro τ ⟨x4, x5, rfl, h4, h5, hM, hl2⟩
        simp_arith []
        exact nxt_ok ⟨_, _, rfl, h4, h5, by have e : (rnd g G).length = G.length := hl2; omega⟩) 200 FU F none [some (.r (.int g)), some (.r (tupT F)), some (.r .none), none, none] (by unfold FU; omega) (by have := tot_le hg h.sub; omega) h (by simp) ⟨_, _, rfl, J_n, J_n, hF⟩
  rw [e]
  simp_arith [ra_J h4, ra_J h5]
end TL

set_option Elab.async false
set_option linter.all false
set_option maxRecDepth 100000
namespace TL
local macro_rules | `(tactic| simp_arith [$ls,*]) => `(tactic| simp (config := { failIfUnchanged := false, decide := false, implicitDefEqProofs := false, dsimp := false }) only [tg_nm, tg_2, nq_n, nq_r, nq_p, u_2, tn_nx, ne_eq, decide_not, Nat.reduceEqDiff, Nat.reduceBEq, decide_false, decide_true, not_false_eq_true, bt_tp2, o_ltT, sc_T, sc_I, z_T, fb_len, fb_tuple, fb_list, fb_sorted, fb_sum, fb_max1, fb_min1, fb_max2, fb_min2, fb_all, fb_any, fb_abs, fb_int, fb_repr, fb_isInt, fb_isBool, fb_isTuple, fb_isStr, fb_srs, fb_lns, fb_lrg1, fb_trg1, fb_lrg2, s_tI, s_tT, g_lenI, g_lenT, g_lenL, g_isTI, g_isTT, g_tupI, g_tupT, g_allm, g_anym, r_bind, r_ok, r_no, r_pure, r_pure, r_lift, r_cT, r_cF, r_when, n_0, n_s, p_0, p_s, lk_r, lk_p, lk_q, r_var, r_con, r_glb, r_neg, r_not, r_op, r_chn, r_and, r_or, r_ite, r_tup, r_lst, r_slc, r_some, r_call, r_blt, r_pop, r_cmp, r_dcm, r_dic, r_an, r_ac, r_cn, r_cc, r_iex, r_ir1, r_ir2, r_izp, v_v, v_f, v_fv, v_nv, v_nf, d_v, d_f, d_s, ld_p, ld_q, dd_n, dd_c, b_v, i_v, s_l, s_t, z_l, z_t, t_s, ts_p, ts_q, t_r, t_pl, t_pd, tr_n, tr_r, tr_p, pb_t, pb_f, c_o, c_e, pa_n, pa_c, e_nil, e_cons, q_nx, q_ret, e_asg, e_own, e_unp, e_par, e_sidx, e_app, e_ext, e_upd, e_exp, e_ifs, e_fr, e_ret, e_rv, e_rf, e_rp, lp_p, e_la, la_p, la_q, e_da, da_p, e_sa, sa_p, sa_q, a_l, x_l, ra_n, ra_0, ra_p, ra_r, ra_q, st_q, st_r, st_n, bt_nm, w_n, w_c, f_nx, f_rt, et_q, et_r, et_n, sl_n, sl_f, sl_t, le_n, le_v, le_f, le_s, le_t, nd_0, nd_1, c_c, c_s, o_add, o_sub, o_lt, o_le, o_gt, o_ge, o_eqi, o_nei, o_isb, o_int, o_nint, o_nintT, o_eqT, o_neT, o_eqI, o_neI, g_sum, g_lenl, g_lent, g_tupt, g_lisl, g_list, g_int, g_intb, g_abs, g_max, g_min, g_isT, g_trg, g_lrg, g_sorI, g_sorT, List.length_cons, List.length_nil, if_true, if_false, Bool.not_true, Bool.not_false, Bool.and_true, Bool.and_false, Bool.true_and, Bool.false_and, Bool.false_eq_true, reduceCtorEq, List.append_nil, List.nil_append, List.cons_append, Option.map_some, $ls,*])
open PySem PySem.W PyProof.Rows L2
theorem shl_snoc (pre : List Lot) (l : Lot) : shl (pre ++ [l]) = shl pre ++ l.map fun x => rm x l := by
  unfold shl; simp
theorem law_shadow_i {g : Nat} (hg : g ∈ gs) {F : List Lot} {d : PyData} (hd : ∀ τ, seqV d τ = some (.ok (F.map tupI) τ)) (hs : ∀ l ∈ F, l ∈ U g) (hF : F.length ≤ 1000) (hL : (shl F).length < 64) : F__law_shadow.m [d] = some (.ok (tupT (sortI (dedupI (shl F)))) []) := by
  have g6 := gs_le hg
  have few0 : few 0 = true := rfl
  simp_arith [m__law_shadow, b__law_shadow, few0, hd]
  refine fr_then (fun z => endF false [false] z = some (.ok (tupT (sortI (dedupI (shl F)))) [])) (fun pre τ => ∃ x2, τ = [some (.r d), some (.p (.list ((shl pre).map tupI))), x2, none, none] ∧ J x2 ∧ (shl pre).length ≤ 6 * pre.length) ?_ ?_ ?_
  · rintro pre l τ hl hn ⟨x2, rfl, h2, hp⟩
    refine ⟨by simp_arith [nq_J h2], _, by simp_arith []; rfl, ?_⟩
    simp_arith []
    rw [comp_tup (fun x => rm x l) rfl fun x hx => ⟨_, _, by simp_arith []; rfl, by
      simp_arith []
      rw [comp_filter (fun y => !(y == x)) rfl fun y hy => ⟨_, _, by simp_arith []; rfl, by
        simp_arith [o_nei]
        rw [cE_opt (by simp_arith []; rfl)]; rfl, by simp_arith []⟩]
      simp_arith []
      rfl, by simp_arith []⟩]
    have ll := U_len hg (hs l hl)
    have fw : few (((shl pre).map tupI).length + ((l.map fun x => rm x l).map tupI).length) = true := few_ok (by simp only [List.length_map]; omega)
    simp_arith [fw]
    simp only [shl_snoc, List.map_append]
    exact nxt_ok ⟨_, rfl, J_r, by simp; omega⟩
  · exact ⟨none, rfl, J_n, by simp [shl]⟩
  · rintro τ ⟨x2, rfl, h2, hp⟩
    simp_arith [ra_J h2, g_srs (shl F) hL]
def cuts (l : Lot) : List Lot := (List.range l.length).map fun k => l.take k ++ l.drop (k + 1)
theorem cuts_all : gs.all (fun g => (U g).all fun l => decide (cuts l = l.map fun x => rm x l) && apartH (dKt (addsK [] (cuts l)))) = true := by decide +kernel
theorem cuts_eq {g : Nat} (hg : g ∈ gs) {l : Lot} (hl : l ∈ U g) : cuts l = l.map (fun x => rm x l) ∧ apartH (dKt (addsK [] (cuts l))) = true := by
  have := List.all_eq_true.mp (List.all_eq_true.mp cuts_all g hg) l hl
  simpa using this
theorem few_tt (a b : List PyData) (h : a.length + b.length ≤ 16777216) : few (a ++ b).length = true := few_ok (by simpa using h)
theorem shadow_i {g : Nat} (hg : g ∈ gs) {F : List Lot} (h : Fm g F) (hF : F.length ≤ 1000) : F_shadow.m [.int g, tupT F] = some (.ok (tupT (sortI (dedupI (shl F)))) []) := by
  have g6 := gs_le hg
  simp_arith [m_shadow, b_shadow, ph_shadow_check_family, ioF_check_family, frF_check_family, check_family_i hg h]
  refine fr_then (fun z => endF false [false, false] z = some (.ok (tupT (sortI (dedupI (shl F)))) [])) (fun pre τ => ∃ x3 K, τ = [some (.r (.int g)), some (.r (tupT F)), some (.p (.dict (dKt K))), x3, none] ∧ J x3 ∧ K.length ≤ 6 * pre.length ∧ K.Nodup ∧ ∀ x, x ∈ K ↔ x ∈ shl pre) ?_ ?_ ?_
  · rintro pre l τ hl hn ⟨x3, K, rfl, h3, hp, nd, hK⟩
    refine ⟨by simp_arith [nq_J h3], _, by simp_arith []; rfl, ?_⟩
    have lU := h.sub l hl
    have ll := U_len hg lU
    have C := cuts_eq hg lU
    simp_arith [rngI_nat (show l.length ≤ 1000000 by omega), upI_map, Int.toNat_natCast]
    rw [dcomp_run (fun k => l.take k ++ l.drop (k + 1)) (by simp; omega) rfl fun k hk => ⟨_, _, by simp_arith []; rfl, by
      have e1 : ((k : Int) + 1) = ((k + 1 : Nat) : Int) := by omega
      simp_arith [r_some, e1, cutD_to, cutD_from]
      have fw : few (List.map PyData.int (l.take k ++ l.drop (k + 1))).length = true := few_ok (by simp; omega)
      simp only [← List.map_take, ← List.map_drop, ← List.map_append]
      simp_arith [fw]
      rfl, by simp_arith []⟩]
    have ec : (List.range l.length).map (fun k => l.take k ++ l.drop (k + 1)) = cuts l := rfl
    have lc : (addsK [] (cuts l)).length ≤ 0 + (cuts l).length := addsK_len
    have lc2 : (cuts l).length = l.length := by simp [cuts]
    have lc3 : (addsK K (addsK [] (cuts l))).length ≤ K.length + (addsK [] (cuts l)).length := addsK_len
    rw [ec]
    simp_arith [upd_K (show K.length + (addsK [] (cuts l)).length ≤ 16777216 by omega) C.2]
    refine nxt_ok ⟨_, _, rfl, J_r, ?_, addsK_nd nd, fun x => ?_⟩
    · simp only [List.length_append, List.length_cons, List.length_nil]; omega
    · rw [addsK_mem, addsK_mem, shl_snoc, List.mem_append, hK, C.1]
      simp
  · exact ⟨none, [], rfl, J_n, by simp, List.nodup_nil, by simp [shl]⟩
  · rintro τ ⟨x3, K, rfl, h3, hp, nd, hK⟩
    have e : sortI K = sortI (dedupI (shl F)) := perm_dups nd (fun x hx => (hK x).mp hx) (fun x hx => (hK x).mpr hx)
    simp_arith [ra_J h3, g_sorD, e]
end TL

set_option Elab.async false
set_option linter.all false
set_option maxRecDepth 100000
namespace TL
local macro_rules | `(tactic| simp_arith [$ls,*]) => `(tactic| simp (config := { failIfUnchanged := false, decide := false, implicitDefEqProofs := false, dsimp := false }) only [tg_nm, tg_2, nq_n, nq_r, nq_p, u_2, tn_nx, ne_eq, decide_not, Nat.reduceEqDiff, Nat.reduceBEq, decide_false, decide_true, not_false_eq_true, bt_tp2, o_ltT, sc_T, sc_I, z_T, fb_len, fb_tuple, fb_list, fb_sorted, fb_sum, fb_max1, fb_min1, fb_max2, fb_min2, fb_all, fb_any, fb_abs, fb_int, fb_repr, fb_isInt, fb_isBool, fb_isTuple, fb_isStr, fb_srs, fb_lns, fb_lrg1, fb_trg1, fb_lrg2, s_tI, s_tT, g_lenI, g_lenT, g_lenL, g_isTI, g_isTT, g_tupI, g_tupT, g_allm, g_anym, r_bind, r_ok, r_no, r_pure, r_pure, r_lift, r_cT, r_cF, r_when, n_0, n_s, p_0, p_s, lk_r, lk_p, lk_q, r_var, r_con, r_glb, r_neg, r_not, r_op, r_chn, r_and, r_or, r_ite, r_tup, r_lst, r_slc, r_some, r_call, r_blt, r_pop, r_cmp, r_dcm, r_dic, r_an, r_ac, r_cn, r_cc, r_iex, r_ir1, r_ir2, r_izp, v_v, v_f, v_fv, v_nv, v_nf, d_v, d_f, d_s, ld_p, ld_q, dd_n, dd_c, b_v, i_v, s_l, s_t, z_l, z_t, t_s, ts_p, ts_q, t_r, t_pl, t_pd, tr_n, tr_r, tr_p, pb_t, pb_f, c_o, c_e, pa_n, pa_c, e_nil, e_cons, q_nx, q_ret, e_asg, e_own, e_unp, e_par, e_sidx, e_app, e_ext, e_upd, e_exp, e_ifs, e_fr, e_ret, e_rv, e_rf, e_rp, lp_p, e_la, la_p, la_q, e_da, da_p, e_sa, sa_p, sa_q, a_l, x_l, ra_n, ra_0, ra_p, ra_r, ra_q, st_q, st_r, st_n, bt_nm, w_n, w_c, f_nx, f_rt, et_q, et_r, et_n, sl_n, sl_f, sl_t, le_n, le_v, le_f, le_s, le_t, nd_0, nd_1, c_c, c_s, o_add, o_sub, o_lt, o_le, o_gt, o_ge, o_eqi, o_nei, o_isb, o_int, o_nint, o_nintT, o_eqT, o_neT, o_eqI, o_neI, g_sum, g_lenl, g_lent, g_tupt, g_lisl, g_list, g_int, g_intb, g_abs, g_max, g_min, g_isT, g_trg, g_lrg, g_sorI, g_sorT, List.length_cons, List.length_nil, if_true, if_false, Bool.not_true, Bool.not_false, Bool.and_true, Bool.and_false, Bool.true_and, Bool.false_and, Bool.false_eq_true, reduceCtorEq, List.append_nil, List.nil_append, List.cons_append, Option.map_some, $ls,*])
open PySem PySem.W PyProof.Rows L2
/-! ### draws -/
def Pt (n : Nat) (d : PyData) : Prop := ∃ a b c : Nat, d = .list [.int a, .int b, .int c] ∧ b < 2305843009213693952 ∧ c ≤ n
theorem at_0 {x y z : PyData} : atI [x, y, z] 0 = some x := rfl
theorem at_1 {x y z : PyData} : atI [x, y, z] 1 = some y := rfl
theorem at_2 {x y z : PyData} : atI [x, y, z] 2 = some z := rfl
section
variable {i : Nat} {v x y z : PyData} {τ : Tau}
theorem sx_0 : sidxE i v (.list [x, y, z]) (.int 0) τ = (putS i (.list [v, y, z]) >>= fun _ => (pure Out.nx : Ev Out)) τ := rfl
theorem sx_2 : sidxE i v (.list [x, y, z]) (.int 2) τ = (putS i (.list [x, y, v]) >>= fun _ => (pure Out.nx : Ev Out)) τ := rfl
end
theorem o_idl {ds : List PyData} {i : Int} : sem2 .idx (.list ds) (.int i) = atI ds i := rfl
theorem o_modp {a b : Int} (h : 0 < b) : sem2 .mod (.int a) (.int b) = some (.int (a % b)) := by
  rw [o_mod, decide_eq_true h, if_pos rfl]
theorem o_fdivp {a b : Int} (h : 0 < b) (h2 : b.natAbs.log2 < 9000) : sem2 .fdiv (.int a) (.int b) = some (.int (a / b)) := by
  rw [o_fdiv, decide_eq_true h, decide_eq_true h2]; rfl
theorem o_muls {a b : Int} (h : smallI a = true) : sem2 .mul (.int a) (.int b) = some (.int (a * b)) := by
  rw [o_mul, h, Bool.true_or, if_pos rfl]
theorem o_mulsr {a b : Int} (h : smallI b = true) : sem2 .mul (.int a) (.int b) = some (.int (a * b)) := by
  rw [o_mul, h, Bool.or_true, if_pos rfl]
theorem o_pow3 {a : Int} (h : 2 ≤ a.natAbs) (h2 : a.natAbs.log2 < 10000) : sem2 .pow (.int a) (.int 3) = some (.int (a ^ 3)) := by
  show (if _ then _ else _) = _
  rw [decide_eq_true h, decide_eq_true h2]; rfl
def prms : List PyData := [.int 2147483647, .int 2147483629, .int 2147483587, .int 2147483579, .int 2147483563]
theorem prime_at (r : Int) (h0 : 0 ≤ r) (h1 : r < 5) : ∃ p : Nat, 0 < p ∧ p < 4294967296 ∧ atI prms r = some (.int p) := by
  have : r = 0 ∨ r = 1 ∨ r = 2 ∨ r = 3 ∨ r = 4 := by omega
  rcases this with rfl | rfl | rfl | rfl | rfl
  · exact ⟨2147483647, by omega, by omega, rfl⟩
  · exact ⟨2147483629, by omega, by omega, rfl⟩
  · exact ⟨2147483587, by omega, by omega, rfl⟩
  · exact ⟨2147483579, by omega, by omega, rfl⟩
  · exact ⟨2147483563, by omega, by omega, rfl⟩
theorem smallI_of {a : Int} (h0 : 0 ≤ a) (h1 : a < 18446744073709551616) : smallI a = true := by
  unfold smallI
  simp only [Bool.and_eq_true, decide_eq_true_eq]
  omega
theorem take_i {n : Nat} {d : PyData} (h : Pt n d) (hn : n < 1000000) {u : Nat} (u0 : 0 < u) (u1 : u < 18446744073709551616) : ∃ (x : Nat) (d' : PyData), x < u ∧ Pt (n + 1) d' ∧ F__law_take.m [d, .int u] = some (.ok (.int x) [d']) := by
  obtain ⟨a, b, c, rfl, hb, hc⟩ := h
  simp_arith [m__law_take, b__law_take, o_idl, at_0]
  by_cases z : (0 : Int) < (a : Int)
  · simp_arith [decide_eq_true z, o_modn u0, o_fdivn u0 u1, at_0, o_idl, e_sa, sx_0]
    exact ⟨_, _, Nat.mod_lt _ u0, ⟨_, _, _, rfl, hb, by omega⟩, rfl⟩
  · have f5 : few (0 + 1 + 1 + 1 + 1 + 1) = true := rfl
    have e1 : ((c : Int) + 1) = ((c + 1 : Nat) : Int) := by omega
    obtain ⟨p, p0, p1, hp⟩ := prime_at (((c + 1 : Nat) : Int) % 5) (by omega) (by omega)
    unfold prms at hp
    have t5 : (0 : Int) < 5 := by decide
    have s1 : smallI 99923 = true := by decide
    have s2 : smallI 122 = true := by decide
    have hc1 : c + 1 ≤ 1000000 := by omega
    have sc : smallI ((c + 1 : Nat) : Int) = true := smallI_of (by omega) (by omega)
    have hcc : (c + 1) * (c + 1) ≤ 1000000 * 1000000 := Nat.mul_le_mul hc1 hc1
    have hX : (b : Int) + 99923 * ((c + 1 : Nat) : Int) * ((c + 1 : Nat) : Int) + 638 = ((b + 99923 * ((c + 1) * (c + 1)) + 638 : Nat) : Int) := by
      simp only [Int.natCast_add, Int.natCast_mul, Int.mul_assoc]; rfl
    have pw : sem2 .pow (.int ((b : Int) + 99923 * ((c + 1 : Nat) : Int) * ((c + 1 : Nat) : Int) + 638)) (.int 3) = some (.int (((b : Int) + 99923 * ((c + 1 : Nat) : Int) * ((c + 1 : Nat) : Int) + 638) ^ 3)) := by
      refine o_pow3 ?_ ?_
      · rw [hX, Int.natAbs_natCast]; omega
      · rw [hX, Int.natAbs_natCast]
        have := log2_lt_k (n := b + 99923 * ((c + 1) * (c + 1)) + 638) (by omega)
        omega
    simp_arith [decide_eq_false z, at_2, o_idl, sx_2, at_1, f5, e_sa, e1, o_modp t5, hp, o_muls s1, o_mulsr sc, pw]
    generalize ((b : Int) + 99923 * ((c + 1 : Nat) : Int) * ((c + 1 : Nat) : Int) + 638) ^ 3 = X
    have hp0 : (0 : Int) < (p : Int) := by omega
    have hm0 := Int.emod_nonneg X (show (p : Int) ≠ 0 by omega)
    have hm1 := Int.emod_lt_of_pos X hp0
    have sm : smallI (X % (p : Int)) = true := smallI_of hm0 (by omega)
    have t1 : (0 : Int) < 10259 := by decide
    have t2 : (0 : Int) < 2305843009213693907 := by decide
    have t3 : (0 : Int) < 152 := by decide
    have t4 : (152 : Int).natAbs.log2 < 9000 := by decide
    have u2 : (0 : Int) < (u : Int) := by omega
    simp_arith [o_modp hp0, o_modp t1, o_modp t2, o_muls s2, o_muls sm, o_fdivp t3 t4, o_modp u2, at_2, o_idl]
    generalize (X % (p : Int) * (X % (p : Int) % 10259 + 122 * ((c + 1 : Nat) : Int))) % 2305843009213693907 / 152 = Y
    have hy0 := Int.emod_nonneg Y (show (u : Int) ≠ 0 by omega)
    have hy1 := Int.emod_lt_of_pos Y u2
    refine ⟨(Y % (u : Int)).toNat, _, by omega, ⟨a, b, c + 1, rfl, hb, by omega⟩, ?_⟩
    rw [Int.toNat_of_nonneg hy0]
theorem o_powg {a b : Int} (h1 : 2 ≤ b) (h2 : b ≤ 1000) (h3 : 2 ≤ a.natAbs) (h4 : a.natAbs.log2 < 10000) : sem2 .pow (.int a) (.int b) = some (.int (a ^ b.toNat)) := by
  show (if _ then _ else _) = _
  rw [decide_eq_true h1, decide_eq_true h2, decide_eq_true h3, decide_eq_true h4]; rfl
theorem pot_i (ns : List Int) {p : Nat} (hp : p ≤ 2) : ∃ d, Pt 0 d ∧ F__law_pot.m [.list (ns.map .int), .int p] = some (.ok d []) := by
  simp_arith [m__law_pot, b__law_pot, List.length_map]
  have cell : ∃ z : Int, condE (decide ((p : Int) < (ns.length : Int))) (ev (phiL []) (.op .idx (.var 0) (.var 1))) (ev (phiL []) (.op .add (.op .add (.op .mod (.blt .sum (.cons false (.slc (.var 0) false (.con .none) true (.con (.int 1))) (.nil))) (.con (.int 1000003))) (.op .mul (.con (.int 14609)) (.var 1))) (.con (.int 431))))
      [some (.r (.list (ns.map .int))), some (.r (.int p)), none, none, none] = some (.ok (.v (.int z)) [some (.r (.list (ns.map .int))), some (.r (.int p)), none, none, none]) := by
    by_cases h : p < ns.length
    · have h1 : decide ((p : Int) < (ns.length : Int)) = true := decide_eq_true (by omega)
      have h2 : atI (ns.map PyData.int) (p : Int) = some (.int ns[p]) := atI_nat (by simp [h])
      exact ⟨ns[p], by simp_arith [h1, o_idl, h2]⟩
    · have h1 : decide ((p : Int) < (ns.length : Int)) = false := decide_eq_false (by omega)
      have h2 : cutD (ns.map PyData.int) none (some (1 : Int)) = (ns.take 1).map .int := by
        rw [List.map_take]; exact cutD_to _ 1
      have s1 : smallI 14609 = true := by decide
      have s2 : (0 : Int) < 1000003 := by decide
      have h3 : semSl (.list (ns.map .int)) none (some 1) = some (.list ((ns.take 1).map .int)) := by
        show some (PyData.list (cutD _ _ _)) = _
        rw [h2]
      exact ⟨_, by simp_arith [h1, r_some, h3, o_modp s2, o_muls s1]; rfl⟩
  obtain ⟨z, hz⟩ := cell
  rw [hz]
  have p1 : sem2 .pow (.int 10) (.int 60) = some (.int (10 ^ 60)) := o_powg (by decide) (by decide) (by decide) (by decide)
  have p2 : sem2 .pow (.int (10 ^ 60)) (.int 5) = some (.int ((10 ^ 60) ^ 5)) := o_powg (by decide) (by decide) (by decide +kernel) (by decide +kernel)
  have p3 : sem2 .pow (.int 10) (.int 18) = some (.int (10 ^ 18)) := o_powg (by decide) (by decide) (by decide) (by decide)
  have t1 : (0 : Int) < (10 ^ 60) ^ 5 := by decide +kernel
  have t2 : (0 : Int) < 2305843009213693951 := by decide
  have t3 : (0 : Int) < 2305843009213693921 := by decide
  generalize ha : (if z < 0 then -z else z) = A
  simp_arith [p1, p2, p3, o_modp t1, o_modp t2, o_modp t3, ha]
  have sB : ∀ b : Bool, smallI (if b = true then (1 : Int) else 0) = true := by intro b; cases b <;> rfl
  have hm0 := Int.emod_nonneg z (show (2305843009213693951 : Int) ≠ 0 by decide)
  have hm1 := Int.emod_lt_of_pos z t2
  have sm : smallI (z % 2305843009213693951) = true := smallI_of hm0 (by omega)
  have s4 : smallI 19519 = true := by decide
  have s5 : smallI (p : Int) = true := small_nat (by omega)
  have f3 : few (0 + 1 + 1 + 1) = true := rfl
  generalize hB : decide ((10 : Int) ^ 18 ≤ A) = B
  simp_arith [o_modp t2, o_mulsr (sB B), o_muls sm, o_muls s4, o_mulsr s5, f3, o_modp t3]
  have q0 : 0 ≤ A % (10 ^ 60) ^ 5 * (if B = true then 1 else 0) := by
    refine Int.mul_nonneg (Int.emod_nonneg _ (by decide +kernel)) ?_
    cases B <;> simp
  generalize z % 2305843009213693951 * 102853 + 19519 * (p : Int) * (p : Int) + 838 = Y
  have hy0 := Int.emod_nonneg Y (show (2305843009213693921 : Int) ≠ 0 by decide)
  have hy1 := Int.emod_lt_of_pos Y t3
  refine ⟨_, ⟨(A % (10 ^ 60) ^ 5 * (if B = true then 1 else 0)).toNat, (Y % 2305843009213693921).toNat, 0, ?_, by omega, Nat.le_refl _⟩, rfl⟩
  rw [Int.toNat_of_nonneg q0, Int.toNat_of_nonneg hy0]; rfl
end TL

set_option Elab.async false
set_option linter.all false
set_option maxRecDepth 100000
namespace TL
local macro_rules | `(tactic| simp_arith [$ls,*]) => `(tactic| simp (config := { failIfUnchanged := false, decide := false, implicitDefEqProofs := false, dsimp := false }) only [tg_nm, tg_2, nq_n, nq_r, nq_p, u_2, tn_nx, ne_eq, decide_not, Nat.reduceEqDiff, Nat.reduceBEq, decide_false, decide_true, not_false_eq_true, bt_tp2, o_ltT, sc_T, sc_I, z_T, fb_len, fb_tuple, fb_list, fb_sorted, fb_sum, fb_max1, fb_min1, fb_max2, fb_min2, fb_all, fb_any, fb_abs, fb_int, fb_repr, fb_isInt, fb_isBool, fb_isTuple, fb_isStr, fb_srs, fb_lns, fb_lrg1, fb_trg1, fb_lrg2, s_tI, s_tT, g_lenI, g_lenT, g_lenL, g_isTI, g_isTT, g_tupI, g_tupT, g_allm, g_anym, r_bind, r_ok, r_no, r_pure, r_pure, r_lift, r_cT, r_cF, r_when, n_0, n_s, p_0, p_s, lk_r, lk_p, lk_q, r_var, r_con, r_glb, r_neg, r_not, r_op, r_chn, r_and, r_or, r_ite, r_tup, r_lst, r_slc, r_some, r_call, r_blt, r_pop, r_cmp, r_dcm, r_dic, r_an, r_ac, r_cn, r_cc, r_iex, r_ir1, r_ir2, r_izp, v_v, v_f, v_fv, v_nv, v_nf, d_v, d_f, d_s, ld_p, ld_q, dd_n, dd_c, b_v, i_v, s_l, s_t, z_l, z_t, t_s, ts_p, ts_q, t_r, t_pl, t_pd, tr_n, tr_r, tr_p, pb_t, pb_f, c_o, c_e, pa_n, pa_c, e_nil, e_cons, q_nx, q_ret, e_asg, e_own, e_unp, e_par, e_sidx, e_app, e_ext, e_upd, e_exp, e_ifs, e_fr, e_ret, e_rv, e_rf, e_rp, lp_p, e_la, la_p, la_q, e_da, da_p, e_sa, sa_p, sa_q, a_l, x_l, ra_n, ra_0, ra_p, ra_r, ra_q, st_q, st_r, st_n, bt_nm, w_n, w_c, f_nx, f_rt, et_q, et_r, et_n, sl_n, sl_f, sl_t, le_n, le_v, le_f, le_s, le_t, nd_0, nd_1, c_c, c_s, o_add, o_sub, o_lt, o_le, o_gt, o_ge, o_eqi, o_nei, o_isb, o_int, o_nint, o_nintT, o_eqT, o_neT, o_eqI, o_neI, g_sum, g_lenl, g_lent, g_tupt, g_lisl, g_list, g_int, g_intb, g_abs, g_max, g_min, g_isT, g_trg, g_lrg, g_sorI, g_sorT, List.length_cons, List.length_nil, if_true, if_false, Bool.not_true, Bool.not_false, Bool.and_true, Bool.and_false, Bool.true_and, Bool.false_and, Bool.false_eq_true, reduceCtorEq, List.append_nil, List.nil_append, List.cons_append, Option.map_some, $ls,*])
open PySem PySem.W PyProof.Rows L2
theorem law_of_i {n : Nat} {d : PyData} (h : Pt n d) (hn : n < 1000000) {E : List Lot} (h0 : E ≠ []) (h1 : E.length ≤ 1000) : ∃ (x : Lot) (d' : PyData), x ∈ E ∧ Pt (n + 1) d' ∧ F__law_of.m [d, .list (E.map tupI)] = some (.ok (tupI x) [d']) := by
  obtain ⟨x, d', hx, hp, e⟩ := take_i h hn (u := E.length) (List.length_pos_iff.mpr h0) (by omega)
  have ha : atI (E.map tupI) (x : Int) = some (tupI E[x]) := atI_nat (by simp [hx])
  refine ⟨E[x], d', List.getElem_mem hx, hp, ?_⟩
  simp_arith [m__law_of, b__law_of, ph__law_of__law_take, ioF__law_take, frF__law_take, List.length_map, e, o_idl, ha]
def pts (pre : List Nat) : List Lot := pre.foldl (fun M (a : Nat) => M ++ M.map (· ++ [(a : Int)])) [[]]
theorem pts_snoc (pre : List Nat) (a : Nat) : pts (pre ++ [a]) = pts pre ++ (pts pre).map (· ++ [(a : Int)]) := by
  unfold pts; rw [List.foldl_append]; rfl
theorem pts_range : ∀ n : Nat, pts (List.range n) = prts n
  | 0 => rfl
  | n + 1 => by rw [List.range_succ, pts_snoc, pts_range n]; rfl
theorem prts_len : ∀ n : Nat, (prts n).length = 2 ^ n
  | 0 => rfl
  | n + 1 => by simp [prts, prts_len n, Nat.pow_succ]; omega
theorem g_parts_i {g : Nat} (hg : g ≤ 6) : F__law_g_parts.m [.tuple ((List.range g).map fun (k : Nat) => PyData.int (k : Int))] = some (.ok (.list ((prts g).map tupI)) []) := by
  have few1 : few (0 + 1) = true := rfl
  have few0 : few 0 = true := rfl
  simp_arith [m__law_g_parts, b__law_g_parts, few1, few0]
  refine fr_then (fun z => endF false [false] z = some (.ok (.list ((prts g).map tupI)) [])) (fun pre τ => ∃ x0 x2, τ = [x0, some (.r (.list ((pts pre).map tupI))), x2, none] ∧ J x0 ∧ J x2 ∧ (∀ k ∈ pts pre, k.length ≤ pre.length) ∧ (pts pre).length = 2 ^ pre.length) ?_ ?_ ?_
  · rintro pre a τ ha hp ⟨x0, x2, rfl, h0, h2, hk, hl⟩
    refine ⟨by simp_arith [nq_J h2], _, by simp_arith []; rfl, ?_⟩
    have hp : pre.length < 6 := by
      rw [List.length_range] at hp; omega
    have p6 : 2 ^ pre.length ≤ 2 ^ 6 := Nat.pow_le_pow_right (by omega) (by omega)
    simp_arith []
    rw [comp_tup (fun k => k ++ [(a : Int)]) rfl fun k hkm => ⟨_, _, by simp_arith []; rfl, by
      have oa : sem2 .add (tupI k) (.tuple [.int (a : Int)]) = some (tupI (k ++ [(a : Int)])) := by
        show sem2 .add (.tuple (k.map .int)) (.tuple [.int (a : Int)]) = _
        have := hk k hkm
        rw [o_addt, if_pos (few_ok (by simp; omega))]
        simp [tupI]
      simp_arith [few1, oa]
      rfl, by simp_arith []⟩]
    simp_arith [o_addl' (ds := (pts pre).map tupI) (es := ((pts pre).map fun k => k ++ [(a : Int)]).map tupI) (by simp; omega)]
    simp only [pts_snoc, List.map_append]
    refine nxt_ok ⟨_, _, rfl, h0, J_r, fun k hk2 => ?_, ?_⟩
    · rcases List.mem_append.mp hk2 with q | q
      · have := hk k q
        simp; omega
      · obtain ⟨k', hk', rfl⟩ := List.mem_map.mp q
        have := hk k' hk'
        simp; omega
    · simp [hl, Nat.pow_succ]; omega
  · exact ⟨_, none, rfl, J_r, J_n, by simp [pts], by simp [pts]⟩
  · rintro τ ⟨x0, x2, rfl, h0, h2, _⟩
    simp_arith [ra_J h0, ra_J h2, pts_range]
end TL

set_option Elab.async false
set_option linter.all false
set_option maxRecDepth 100000
namespace TL
local macro_rules | `(tactic| simp_arith [$ls,*]) => `(tactic| simp (config := { failIfUnchanged := false, decide := false, implicitDefEqProofs := false, dsimp := false }) only [tg_nm, tg_2, nq_n, nq_r, nq_p, u_2, tn_nx, ne_eq, decide_not, Nat.reduceEqDiff, Nat.reduceBEq, decide_false, decide_true, not_false_eq_true, bt_tp2, o_ltT, sc_T, sc_I, z_T, fb_len, fb_tuple, fb_list, fb_sorted, fb_sum, fb_max1, fb_min1, fb_max2, fb_min2, fb_all, fb_any, fb_abs, fb_int, fb_repr, fb_isInt, fb_isBool, fb_isTuple, fb_isStr, fb_srs, fb_lns, fb_lrg1, fb_trg1, fb_lrg2, s_tI, s_tT, g_lenI, g_lenT, g_lenL, g_isTI, g_isTT, g_tupI, g_tupT, g_allm, g_anym, r_bind, r_ok, r_no, r_pure, r_pure, r_lift, r_cT, r_cF, r_when, n_0, n_s, p_0, p_s, lk_r, lk_p, lk_q, r_var, r_con, r_glb, r_neg, r_not, r_op, r_chn, r_and, r_or, r_ite, r_tup, r_lst, r_slc, r_some, r_call, r_blt, r_pop, r_cmp, r_dcm, r_dic, r_an, r_ac, r_cn, r_cc, r_iex, r_ir1, r_ir2, r_izp, v_v, v_f, v_fv, v_nv, v_nf, d_v, d_f, d_s, ld_p, ld_q, dd_n, dd_c, b_v, i_v, s_l, s_t, z_l, z_t, t_s, ts_p, ts_q, t_r, t_pl, t_pd, tr_n, tr_r, tr_p, pb_t, pb_f, c_o, c_e, pa_n, pa_c, e_nil, e_cons, q_nx, q_ret, e_asg, e_own, e_unp, e_par, e_sidx, e_app, e_ext, e_upd, e_exp, e_ifs, e_fr, e_ret, e_rv, e_rf, e_rp, lp_p, e_la, la_p, la_q, e_da, da_p, e_sa, sa_p, sa_q, a_l, x_l, ra_n, ra_0, ra_p, ra_r, ra_q, st_q, st_r, st_n, bt_nm, w_n, w_c, f_nx, f_rt, et_q, et_r, et_n, sl_n, sl_f, sl_t, le_n, le_v, le_f, le_s, le_t, nd_0, nd_1, c_c, c_s, o_add, o_sub, o_lt, o_le, o_gt, o_ge, o_eqi, o_nei, o_isb, o_int, o_nint, o_nintT, o_eqT, o_neT, o_eqI, o_neI, g_sum, g_lenl, g_lent, g_tupt, g_lisl, g_list, g_int, g_intb, g_abs, g_max, g_min, g_isT, g_trg, g_lrg, g_sorI, g_sorT, List.length_cons, List.length_nil, if_true, if_false, Bool.not_true, Bool.not_false, Bool.and_true, Bool.and_false, Bool.true_and, Bool.false_and, Bool.false_eq_true, reduceCtorEq, List.append_nil, List.nil_append, List.cons_append, Option.map_some, $ls,*])
open PySem PySem.W PyProof.Rows L2
def Lfam : List (Str × FS) := [("_law_g_parts", F__law_g_parts), ("_law_take", F__law_take), ("_law_of", F__law_of)]
theorem fam_tail {g n : Nat} (hg : g ∈ gs) (hn : n < 900000) {d : PyData} (h : Pt n d) {E : List Lot} (h0 : E ≠ []) (h1 : E.length ≤ 1000) (hs : ∀ l ∈ E, l ∈ U g) {x3 : Option SV} (h3 : J x3) :
    ∃ (F : List Lot) (d' : PyData), Fm g F ∧ F.length ≤ 11 ∧ Pt (n + 12) d' ∧ endF false [true, false] (execs (phiL [("_law_g_parts", F__law_g_parts), ("_law_take", F__law_take), ("_law_of", F__law_of)]) FU (.cons (.ret (.blt .tuple (.cons false (.blt .srs (.cons false (.cmp [5] (.nm 5) (.rng1 (.call "_law_take" (.cons false (.var 0) (.cons false (.con (.int 12)) (.nil))))) false (.con .none) (.call "_law_of" (.cons false (.var 0) (.cons false (.var 2) (.nil))))) (.nil))) (.nil)))) (
  .nil)) [some (.q d), some (.r (.int g)), some (.r (.list (E.map tupI))), x3, none, none]) = some (.ok (tupT F) [d']) := by
  obtain ⟨x, d1, hx, hp, e⟩ := take_i h (by omega) (u := 12) (by omega) (by omega)
  have e : F__law_take.m [d, .int 12] = some (.ok (.int x) [d1]) := e
  simp_arith [ra_J h3, ph__law_family__law_take, ioF__law_take, frF__law_take, e, rngI_nat (show x ≤ 1000000 by omega), upI_map, Int.toNat_natCast]
  generalize hX : inBlk [5] (compGo _ _ _ _ _) _ _ = X
  obtain ⟨ys, τ', eX, hI⟩ : ∃ ys τ', X = some (.ok (.f (.list ys)) (mergeT [5] [some (.q d1), some (.r (.int g)), some (.r (.list (E.map tupI))), x3, none, none] τ')) ∧ (fun (pre acc : List PyData) (τ : Tau) => ∃ xs dd x5, acc = List.map tupI xs ∧ xs.length = pre.length ∧ (∀ k ∈ xs, k ∈ E) ∧ Pt (n + 1 + pre.length) dd ∧ τ = [some (.q dd), some (.r (.int g)), some (.r (.list (E.map tupI))), x3, none, x5]) ((List.range x).map fun (k : Nat) => PyData.int (k : Int)) ys τ' := by
    rw [← hX]
    refine comp_ex (fun (pre acc : List PyData) (τ : Tau) => ∃ xs dd x5, acc = List.map tupI xs ∧ xs.length = pre.length ∧ (∀ k ∈ xs, k ∈ E) ∧ Pt (n + 1 + pre.length) dd ∧ τ = [some (.q dd), some (.r (.int g)), some (.r (.list (E.map tupI))), x3, none, x5]) rfl ?_ ⟨[], d1, none, rfl, rfl, by simp, hp, rfl⟩
    rintro pre dd acc τ hd hl ⟨xs, dp, x5, rfl, hxl, hxs, hp2, rfl⟩
    simp only [List.length_map, List.length_range] at hl
    obtain ⟨y, d2, hy, hp3, e3⟩ := law_of_i hp2 (by omega) h0 h1
    refine ⟨_, by simp_arith []; rfl, _, _, by simp_arith [ph__law_family__law_of, ioF__law_of, frF__law_of, e3]; rfl, xs ++ [y], d2, _, by simp, by simp [hxl], fun k hk => ?_, by simp only [List.length_append, List.length_cons, List.length_nil]; exact hp3, rfl⟩
    rcases List.mem_append.mp hk with q | q
    · exact hxs k q
    · rw [List.mem_singleton.mp q]; exact hy
  · obtain ⟨xs, dp, x5, rfl, hxl, hxs, hp2, rfl⟩ := hI
    rw [eX]
    clear hX eX
    simp only [List.length_map, List.length_range] at hxl hp2
    have em : mergeT [5] [some (.q d1), some (.r (.int g)), some (.r (.list (E.map tupI))), x3, none, none] [some (.q dp), some (.r (.int g)), some (.r (.list (E.map tupI))), x3, none, x5] = [some (.q dp), some (.r (.int g)), some (.r (.list (E.map tupI))), x3, none, none] := rfl
    rw [em]
    have G := Fm.mk' hg (dedupI_nodup xs) fun l hl => hs l (hxs l (dedupI_mem.mp hl))
    have dl : ∀ xs : List Lot, (dedupI xs).length ≤ xs.length := by
      intro xs
      induction xs with
      | nil => simp [dedupI]
      | cons a xs ih => unfold dedupI; split <;> simp <;> omega
    refine ⟨sortI (dedupI xs), dp, G.1, ?_, ?_, ?_⟩
    · have := dl xs
      rw [(sortI_perm' _).length_eq]; omega
    · obtain ⟨a, b, c, q1, q2, q3⟩ := hp2
      exact ⟨a, b, c, q1, q2, by omega⟩
    · simp_arith [g_srs xs (by omega)]
theorem ne_all : gs.all (fun g => (List.range g).all fun s => decide ((prts g).filter (fun l => decide ((l.length : Int) = 1 + (s : Int))) ≠ [])) = true := by decide +kernel
theorem prts_U {g : Nat} {l : Lot} (h : l ∈ prts g) : l ∈ U g := (sortI_perm' _).mem_iff.mpr h
theorem prts_small {g : Nat} (hg : g ∈ gs) : (prts g).length ≤ 64 ∧ prts g ≠ [] := by
  have : gs.all (fun g => decide ((prts g).length ≤ 64) && decide (prts g ≠ [])) = true := by decide +kernel
  simpa using List.all_eq_true.mp this g hg
theorem Pt.mono {n m : Nat} {d : PyData} (h : Pt n d) (e : n ≤ m) : Pt m d := by
  obtain ⟨a, b, c, q1, q2, q3⟩ := h
  exact ⟨a, b, c, q1, q2, by omega⟩
theorem family_i {g n : Nat} (hg : g ∈ gs) (hn : n < 800000) {d : PyData} (h : Pt n d) : ∃ (F : List Lot) (d' : PyData), Fm g F ∧ F.length ≤ 11 ∧ Pt (n + 14) d' ∧ F__law_family.m [d, .int g] = some (.ok (tupT F) [d']) := by
  have g6 := gs_le hg
  obtain ⟨x, d1, hx, hp, e⟩ := take_i h (by omega) (u := 2) (by omega) (by omega)
  have e : F__law_take.m [d, .int 2] = some (.ok (.int x) [d1]) := e
  have ps := prts_small hg
  simp_arith [m__law_family, b__law_family, ph__law_family__law_g_parts, ioF__law_g_parts, frF__law_g_parts, rngI_nat (show g ≤ 1000000 by omega), upI_map, Int.toNat_natCast, g_parts_i g6, ph__law_family__law_take, ioF__law_take, frF__law_take, e, o_eqi]
  by_cases z : (x : Int) = 0
  · obtain ⟨y, d2, hy, hp2, e2⟩ := take_i hp (by omega) (u := g) (gs_pos hg) (by omega)
    have ey : (1 : Int) + (y : Int) = ((1 + y : Nat) : Int) := by omega
    simp_arith [decide_eq_true z, ph__law_family__law_take, ioF__law_take, frF__law_take, e2]
    rw [comp_filter (fun l => decide ((l.length : Int) = 1 + (y : Int))) rfl fun l hl => ⟨_, _, by simp_arith []; rfl, by
      simp_arith [o_eqi]
      rw [cE_opt (by simp_arith []; rfl)], by simp_arith []⟩]
    simp_arith []
    have ne : (prts g).filter (fun l => decide ((l.length : Int) = 1 + (y : Int))) ≠ [] := by
      have := List.all_eq_true.mp (List.all_eq_true.mp ne_all g hg) y (List.mem_range.mpr hy)
      simpa using this
    have fl := List.length_filter_le (fun l => decide ((l.length : Int) = 1 + (y : Int))) (prts g)
    obtain ⟨F, d', q1, q2, q3, q4⟩ := fam_tail hg (by omega) hp2 ne (by omega) (fun l hl => prts_U (List.mem_filter.mp hl).1) (x3 := some (.r (.int (1 + y)))) J_r
    exact ⟨F, d', q1, q2, q3, q4⟩
  · simp_arith [decide_eq_false z]
    obtain ⟨F, d', q1, q2, q3, q4⟩ := fam_tail hg (by omega) hp ps.2 (by omega) (fun l hl => prts_U hl) (x3 := none) J_n
    exact ⟨F, d', q1, q2, q3.mono (by omega), q4⟩
end TL

set_option Elab.async false
set_option linter.all false
set_option maxRecDepth 100000
namespace TL
local macro_rules | `(tactic| simp_arith [$ls,*]) => `(tactic| simp (config := { failIfUnchanged := false, decide := false, implicitDefEqProofs := false, dsimp := false }) only [tg_nm, tg_2, nq_n, nq_r, nq_p, u_2, tn_nx, ne_eq, decide_not, Nat.reduceEqDiff, Nat.reduceBEq, decide_false, decide_true, not_false_eq_true, bt_tp2, o_ltT, sc_T, sc_I, z_T, fb_len, fb_tuple, fb_list, fb_sorted, fb_sum, fb_max1, fb_min1, fb_max2, fb_min2, fb_all, fb_any, fb_abs, fb_int, fb_repr, fb_isInt, fb_isBool, fb_isTuple, fb_isStr, fb_srs, fb_lns, fb_lrg1, fb_trg1, fb_lrg2, s_tI, s_tT, g_lenI, g_lenT, g_lenL, g_isTI, g_isTT, g_tupI, g_tupT, g_allm, g_anym, r_bind, r_ok, r_no, r_pure, r_pure, r_lift, r_cT, r_cF, r_when, n_0, n_s, p_0, p_s, lk_r, lk_p, lk_q, r_var, r_con, r_glb, r_neg, r_not, r_op, r_chn, r_and, r_or, r_ite, r_tup, r_lst, r_slc, r_some, r_call, r_blt, r_pop, r_cmp, r_dcm, r_dic, r_an, r_ac, r_cn, r_cc, r_iex, r_ir1, r_ir2, r_izp, v_v, v_f, v_fv, v_nv, v_nf, d_v, d_f, d_s, ld_p, ld_q, dd_n, dd_c, b_v, i_v, s_l, s_t, z_l, z_t, t_s, ts_p, ts_q, t_r, t_pl, t_pd, tr_n, tr_r, tr_p, pb_t, pb_f, c_o, c_e, pa_n, pa_c, e_nil, e_cons, q_nx, q_ret, e_asg, e_own, e_unp, e_par, e_sidx, e_app, e_ext, e_upd, e_exp, e_ifs, e_fr, e_ret, e_rv, e_rf, e_rp, lp_p, e_la, la_p, la_q, e_da, da_p, e_sa, sa_p, sa_q, a_l, x_l, ra_n, ra_0, ra_p, ra_r, ra_q, st_q, st_r, st_n, bt_nm, w_n, w_c, f_nx, f_rt, et_q, et_r, et_n, sl_n, sl_f, sl_t, le_n, le_v, le_f, le_s, le_t, nd_0, nd_1, c_c, c_s, o_add, o_sub, o_lt, o_le, o_gt, o_ge, o_eqi, o_nei, o_isb, o_int, o_nint, o_nintT, o_eqT, o_neT, o_eqI, o_neI, g_sum, g_lenl, g_lent, g_tupt, g_lisl, g_list, g_int, g_intb, g_abs, g_max, g_min, g_isT, g_trg, g_lrg, g_sorI, g_sorT, List.length_cons, List.length_nil, if_true, if_false, Bool.not_true, Bool.not_false, Bool.and_true, Bool.and_false, Bool.true_and, Bool.false_and, Bool.false_eq_true, reduceCtorEq, List.append_nil, List.nil_append, List.cons_append, Option.map_some, $ls,*])
open PySem PySem.W PyProof.Rows L2
theorem U_ints : gs.all (fun g => (U g).all fun l => l.all fun x => decide (0 ≤ x) && decide (x ≤ 5)) = true := by decide +kernel
theorem sok_dig {x : Int} (h0 : 0 ≤ x) (h1 : x ≤ 5) : sok 1 (PyData.int x).shown ∧ (PyData.int x).showable = true := by
  have : x = 0 ∨ x = 1 ∨ x = 2 ∨ x = 3 ∨ x = 4 ∨ x = 5 := by omega
  rcases this with rfl | rfl | rfl | rfl | rfl | rfl <;> exact ⟨⟨by decide +kernel, by decide +kernel⟩, by decide +kernel⟩
theorem sok_lot {g : Nat} (hg : g ∈ gs) {l : Lot} (hl : l ∈ U g) : sok 21 (tupI l).shown ∧ (tupI l).showable = true := by
  have hi : ∀ x ∈ l, 0 ≤ x ∧ x ≤ 5 := fun x hx => by
    have := List.all_eq_true.mp (List.all_eq_true.mp (List.all_eq_true.mp U_ints g hg) l hl) x hx
    simpa using this
  have ll := U_len hg hl
  have g6 := gs_le hg
  constructor
  · have := sok_tup (n := 1) (ds := l.map .int) fun d hd => by
      obtain ⟨x, hx, rfl⟩ := List.mem_map.mp hd
      exact (sok_dig (hi x hx).1 (hi x hx).2).1
    rw [List.length_map] at this
    exact sok_mono this (by omega)
  · show PyData.showableAll _ = true
    refine showableAll_of fun d hd => ?_
    obtain ⟨x, hx, rfl⟩ := List.mem_map.mp hd
    exact (sok_dig (hi x hx).1 (hi x hx).2).2
theorem sok_fam {g : Nat} (hg : g ∈ gs) {F : List Lot} (hs : ∀ l ∈ F, l ∈ U g) : sok (23 * F.length + 3) (tupT F).shown ∧ (tupT F).showable = true := by
  constructor
  · have := sok_tup (n := 21) (ds := F.map tupI) fun d hd => by
      obtain ⟨x, hx, rfl⟩ := List.mem_map.mp hd
      exact (sok_lot hg (hs x hx)).1
    rw [List.length_map] at this
    exact this
  · show PyData.showableAll _ = true
    refine showableAll_of fun d hd => ?_
    obtain ⟨x, hx, rfl⟩ := List.mem_map.mp hd
    exact (sok_lot hg (hs x hx)).2
theorem repr_F {g : Nat} (hg : g ∈ gs) {F : List Lot} (hs : ∀ l ∈ F, l ∈ U g) (hl : F.length ≤ 1000) : semB .repr [tupT F] = some (.str (tupT F).shown) :=
  g_repr (shaped_tupT F) (sok_fam hg hs).2 (sok_fam hg hs).1 (by omega)
theorem ne_F {g : Nat} (hg : g ∈ gs) {F : List Lot} (hs : ∀ l ∈ F, l ∈ U g) : sem2 .ne (.str (tupT F).shown) (.str (tupT F).shown) = some (.bool false) := o_nes (sok_fam hg hs).1.1
/-- unlike, as the law looks -/
def unlB (F : List Lot) : Bool := F.all fun a => F.all fun b => decide (a = b) || !ins a b
theorem unlB_eq (F : List Lot) : (!(F.any fun a => F.any fun b => !decide (a = b) && ins a b)) = unlB F := by
  unfold unlB
  simp [List.not_any_eq_all_not]
theorem unlB_iff {F : List Lot} (h : unlB F = true) : Unl F := fun a ha b hb => by
  have := List.all_eq_true.mp (List.all_eq_true.mp h a ha) b hb
  simpa using this
def mtgB (F : List Lot) : Bool := F.all fun a => F.all fun b => mts a b
theorem mtgB_iff {F : List Lot} : mtgB F = true ↔ Mtg F := by
  unfold mtgB Mtg
  simp
theorem mem_gs {x : Nat} (h : x < 6) : 1 + x ∈ gs := by
  have : x = 0 ∨ x = 1 ∨ x = 2 ∨ x = 3 ∨ x = 4 ∨ x = 5 := by omega
  rcases this with rfl | rfl | rfl | rfl | rfl | rfl <;> decide
theorem chs_small {g : Nat} (hg : g ∈ gs) {k : Nat} (hk : k ≤ g) : chs g k ≤ 20 := by
  have : gs.all (fun g => (List.range (g + 1)).all fun k => decide (chs g k ≤ 20)) = true := by decide +kernel
  simpa using List.all_eq_true.mp (List.all_eq_true.mp this g hg) k (List.mem_range.mpr (by omega))
theorem foldl_snoc (f : Nat → Nat) (pre : List Nat) (a : Nat) : ((pre ++ [a]).map f).foldl (· * ·) 1 = (pre.map f).foldl (· * ·) 1 * f a := by
  rw [List.map_append, List.foldl_append]; rfl
theorem no_part {g D : Nat} {p : Nat × Nat} (W : Wg g D p) (L : List Nat) : (L.any fun (k : Nat) => decide ((p.1 : Int) % (2 + (k : Int)) = 0) && decide ((p.2 : Int) % (2 + (k : Int)) = 0)) = false := by
  rw [Bool.eq_false_iff]
  intro h
  obtain ⟨k, _, h⟩ := List.any_eq_true.mp h
  simp only [Bool.and_eq_true, decide_eq_true_eq] at h
  have e : (2 : Int) + (k : Int) = ((2 + k : Nat) : Int) := by omega
  rw [e] at h
  have h1 : (2 + k) ∣ p.1 := Nat.dvd_of_mod_eq_zero (by have := h.1; rw [← Int.natCast_emod] at this; omega)
  have h2 : (2 + k) ∣ p.2 := Nat.dvd_of_mod_eq_zero (by have := h.2; rw [← Int.natCast_emod] at this; omega)
  have := Nat.dvd_gcd h1 h2
  rw [W.cop] at this
  have := Nat.le_of_dvd (by omega) this
  omega
theorem dedupI_len : ∀ xs : List Lot, (dedupI xs).length ≤ xs.length
  | [] => by simp [dedupI]
  | a :: xs => by
    have := dedupI_len xs
    unfold dedupI; split <;> simp <;> omega
theorem shl_sub_len {g : Nat} (hg : g ∈ gs) {F : List Lot} (hF : Fm g F) (hl : F.length ≤ 11) (s : Nat) : Fm g (ofS s F) ∧ (ofS s F).length ≤ 11 ∧ (shl (ofS s F)).length < 64 := by
  have h1 := hF.sub1 hg (fun l => decide (l.length = s))
  have h2 : (ofS s F).length ≤ 11 := Nat.le_trans (List.length_filter_le _ _) hl
  exact ⟨h1, h2, shl_len hg h1 h2⟩
theorem shN_len (F : List Lot) : (sortI (dedupI (shl F))).length = shN F := (sortI_perm' _).length_eq
theorem right_i {n : Nat} {d : PyData} (h : Pt n d) (hn : n < 700000) : ∃ d', Pt (n + 17) d' ∧ F__law_right.m [d] = some (.ok (.bool true) [d']) := by
  obtain ⟨x, d1, hx, hp1, e1⟩ := take_i h (by omega) (u := 6) (by omega) (by omega)
  have e1 : F__law_take.m [d, .int 6] = some (.ok (.int x) [d1]) := e1
  have hg := mem_gs hx
  have ex : (1 : Int) + (x : Int) = ((1 + x : Nat) : Int) := by omega
  generalize 1 + x = g at *
  obtain ⟨F, d2, hF, hl, hp2, e2⟩ := family_i hg (by omega) hp1
  have g6 := gs_le hg
  obtain ⟨i, d3, hi, hp3, e3⟩ := take_i hp2 (by omega) (u := g) (gs_pos hg) (by omega)
  obtain ⟨j, d4, hj, hp4, e4⟩ := take_i hp3 (by omega) (u := g) (gs_pos hg) (by omega)
  refine ⟨d4, hp4, ?_⟩
  simp_arith [m__law_right, b__law_right, ph__law_right__law_take, ioF__law_take, frF__law_take, e1, ex, ph__law_right__law_family, ioF__law_family, frF__law_family, e2]
  rw [comp_bool (fun a => F.all fun b => decide (a = b) || !ins a b) rfl fun a ha => ⟨_, _, by simp_arith []; rfl, by
    simp_arith []
    rw [comp_bool (fun b => decide (a = b) || !ins a b) rfl fun b hb => ⟨_, _, by simp_arith []; rfl, by
      simp_arith [o_eqI]
      rw [cE_or (u := !ins a b) (by simp_arith [ph__law_right__law_inside, ioF__law_inside, frF__law_inside, inside_i])]
      simp_arith []
      rfl, by simp_arith []⟩]
    simp_arith []
    rfl, by simp_arith []⟩]
  have eU : (F.all fun a => F.all fun b => decide (a = b) || !ins a b) = unlB F := rfl
  have eM : ∀ F : List Lot, (F.all fun a => F.all fun b => mts a b) = mtgB F := fun _ => rfl
  have lk : ∀ {x : Str} {fs : FS}, True → True := fun _ => trivial
  have W := wgt_is hg hF.sub
  have Y := ly hg
  have hW : whl g < 18446744073709551616 := by have := Y.wl; omega
  have eg : (g : Int) + 1 = ((g + 1 : Nat) : Int) := by omega
  simp_arith [eU, ph__law_right_is_unlike, ioF_is_unlike, frF_is_unlike, is_unlike_i hg hF, unlB_eq, repr_b, ne_b, ph__law_right_is_meeting, ioF_is_meeting, frF_is_meeting, is_meeting_i hg hF, eM, ph__law_right__law_is_meeting, ioF__law_is_meeting, frF__law_is_meeting, law_is_meeting_i,
    ph__law_right_weight, ioF_weight, frF_weight, weight_i hg hF, eg, rngI_nat (show g + 1 ≤ 1000000 by omega), upI_map, Int.toNat_natCast]
  have one : (1 : Int) = ((([] : List Nat).map (chs g)).foldl (· * ·) 1 : Nat) := rfl
  refine fr_then (fun z => endF false [true] z = some (.ok (.bool true) [d4])) (fun pre τ => ∃ x5, τ = [some (.q d2), some (.r (.int g)), some (.r (tupT F)), some (.r (.bool (unlB F))), some (.r (.int ((pre.map (chs g)).foldl (· * ·) 1 : Nat))), x5, none, none, some (.r (.int (wgt g F).1)), some (.r (.int (wgt g F).2)), none, none, none, none, none, none] ∧ J x5) ?_ ?_ ?_
  · rintro pre k τ hk - ⟨x5, rfl, h5⟩
    have hk := List.mem_range.mp hk
    have c20 := chs_small hg (show k ≤ g by omega)
    refine ⟨by simp_arith [nq_J h5], _, by simp_arith []; rfl, ?_⟩
    simp_arith [ph__law_right__law_ways, ioF__law_ways, frF__law_ways, law_ways_i hg (show k ≤ g by omega), o_muln (show chs g k < 18446744073709551616 by omega)]
    simp only [foldl_snoc]
    exact nxt_ok ⟨_, rfl, J_r⟩
  · exact ⟨none, by rw [one], J_n⟩
  · rintro τ ⟨x5, rfl, h5⟩
    have eW : ((List.range (g + 1)).map (chs g)).foldl (· * ·) 1 = whl g := rfl
    rw [eW]
    simp_arith []
    rw [comp_int (fun l => ((whl g / chs g l.length : Nat) : Int)) rfl fun l hl2 => ⟨_, _, by simp_arith []; rfl, by
      have lU := hF.sub l hl2
      have c1 := Y.pos l lU
      have c2 := Y.le l lU
      simp_arith [ph__law_right__law_ways, ioF__law_ways, frF__law_ways, law_ways_i hg (U_len hg lU), o_fdivn c1 (show chs g l.length < 18446744073709551616 by omega)]
      rfl, by simp_arith []⟩]
    have eD : (F.map fun l => whl g / chs g l.length).sum = due g F := rfl
    have u0 := W.pos
    have uW := W.le
    have wW := Y.wl
    have eq1 : (((wgt g F).1 * whl g : Nat) : Int) = ((wgt g F).2 : Int) * ((due g F : Nat) : Int) := by rw [W.eq, Int.natCast_mul]
    have lt1 : decide (((wgt g F).2 : Int) < 1) = false := decide_eq_false (by omega)
    simp_arith [sum_cast, eD, o_muln hW, o_mull (show (wgt g F).2 < 18446744073709551616 by omega), eq1, o_nei, lt1]
    have r2 : rngI 2 = true := rfl
    have ru : rngI (((wgt g F).2 : Int) + 1) = true := by
      have : (((wgt g F).2 : Int) + 1) = (((wgt g F).2 + 1 : Nat) : Int) := by omega
      rw [this]; exact rngI_nat (by omega)
    have upm : ∀ m : Nat, upI 2 m = (List.range m).map fun (k : Nat) => PyData.int (2 + (k : Int)) := fun _ => rfl
    simp_arith [r2, ru, upm]
    rw [comp_bool (fun (k : Nat) => decide (((wgt g F).1 : Int) % (2 + (k : Int)) = 0) && decide (((wgt g F).2 : Int) % (2 + (k : Int)) = 0)) rfl fun k hk => ⟨_, _, by simp_arith []; rfl, by
      have k2 : (0 : Int) < 2 + (k : Int) := by omega
      simp_arith [o_modp k2, o_eqi]
      rw [cE_and (u := decide (((wgt g F).2 : Int) % (2 + (k : Int)) = 0)) (by simp_arith [o_modp k2, o_eqi])]
      simp_arith []
      rfl, by simp_arith []⟩]
    have ov : (unlB F && decide (((wgt g F).2 : Int) < ((wgt g F).1 : Int))) = false := by
      rw [Bool.eq_false_iff]
      intro q
      simp only [Bool.and_eq_true, decide_eq_true_eq] at q
      have := wgt_le hg hF (unlB_iff q.1)
      omega
    simp_arith [no_part W]
    rw [cE_and (u := decide (((wgt g F).2 : Int) < ((wgt g F).1 : Int))) (by simp_arith [])]
    simp_arith [ov, ph__law_right__law_take, ioF__law_take, frF__law_take, e3, e4]
    rw [cE_andF (fun z => by
      have z := of_decide_eq_true z
      have z : i < j := by omega
      have mF := mvd_fm hg (prs_mem z hj) hF
      have ml : (mvd (i : Int) (j : Int) F).length ≤ 1000 := by rw [mvd_len]; omega
      simp_arith [ph__law_right_shift, ioF_shift, frF_shift, shift_i hg z hj hF (by omega), repr_F hg mF.sub ml, ph__law_right__law_moved, ioF__law_moved, frF__law_moved, law_moved_i hg (prs_mem z hj) hF.sub (by omega), ne_F hg mF.sub])]
    obtain ⟨hG, kp⟩ := itr_kp hg 200 hF
    have sS := (Fm.mk' hg (dedupI_nodup (shl F)) fun l hl => shl_sub hg hF.sub l (dedupI_mem.mp hl)).1
    have sl : (sortI (dedupI (shl F))).length ≤ 1000 := by
      have := dedupI_len (shl F)
      have := shl_len hg hF hl
      rw [(sortI_perm' _).length_eq]; omega
    have gl : (itr g 200 F).length ≤ 1000 := by rw [kp.len]; omega
    simp_arith [ph__law_right_shifted, ioF_shifted, frF_shifted, shifted_i hg hF hl, repr_F hg hG.sub gl, ph__law_right__law_still, ioF__law_still, frF__law_still, law_still_i hg hF hl, ne_F hg hG.sub,
      ph__law_right_shadow, ioF_shadow, frF_shadow, shadow_i hg hF (show F.length ≤ 1000 by omega), ph__law_right__law_shadow, ioF__law_shadow, frF__law_shadow, law_shadow_i (d := tupT F) hg (fun _ => s_tT F) hF.sub (by omega) (shl_len hg hF hl), repr_F hg sS.sub sl, ne_F hg sS.sub]
    simp_arith [eg, rngI_nat (show g + 1 ≤ 1000000 by omega), upI_map, Int.toNat_natCast]
    refine fr_then (fun z => endF false [true] z = some (.ok (.bool true) [d4])) (fun pre τ => ∃ x5 x12 x13, τ = [some (.q d4), some (.r (.int g)), some (.r (tupT F)), some (.r (.bool (unlB F))), some (.r (.int (whl g))), x5, some (.r (.int (due g F))), some (.r (tupT (itr g 200 F))), some (.r (.int (wgt g F).1)), some (.r (.int (wgt g F).2)), some (.r (.int i)), some (.r (.int j)), x12, x13, none, none] ∧ J x5 ∧ J x12 ∧ J x13) ?_ ?_ ?_
    · rintro pre s τ - - ⟨x5, x12, x13, rfl, h5, h12, h13⟩
      refine ⟨by simp_arith [nq_J h5], _, by simp_arith []; rfl, ?_⟩
      have hG11 : (itr g 200 F).length ≤ 11 := by rw [kp.len]; exact hl
      obtain ⟨a1, a2, a3⟩ := shl_sub_len hg hF hl s
      obtain ⟨b1, b2, b3⟩ := shl_sub_len hg hG hG11 s
      have oF : F.filter (fun l => decide (l.length = s)) = ofS s F := rfl
      have oG : (itr g 200 F).filter (fun l => decide (l.length = s)) = ofS s (itr g 200 F) := rfl
      simp_arith []
      rw [comp_filter (L := F) (fun l => decide (l.length = s)) rfl fun l hl => ⟨_, _, by simp_arith []; rfl, by
        simp_arith [o_eqi, dec_cast]
        rw [cE_opt (by simp_arith []; rfl)], by simp_arith []⟩]
      simp_arith [oF]
      rw [comp_filter (L := itr g 200 F) (fun l => decide (l.length = s)) rfl fun l hl => ⟨_, _, by simp_arith []; rfl, by
        simp_arith [o_eqi, dec_cast]
        rw [cE_opt (by simp_arith []; rfl)], by simp_arith []⟩]
      have hsz := kp.size s
      have hsh := kp.shad s
      have e1 : decide ((shN (ofS s F) : Int) < (shN (ofS s (itr g 200 F)) : Int)) = false := decide_eq_false (by omega)
      simp_arith [oG, tr_J h12, tr_J h13, o_nei, hsz, decide_true, List.length_map, ph__law_right__law_shadow, ioF__law_shadow, frF__law_shadow,
        law_shadow_i (d := .list ((ofS s F).map tupI)) hg (fun _ => rfl) a1.sub (by omega) a3, law_shadow_i (d := .list ((ofS s (itr g 200 F)).map tupI)) hg (fun _ => rfl) b1.sub (by omega) b3, shN_len, e1]
      exact nxt_ok ⟨_, _, _, rfl, J_r, J_r, J_r⟩
    · exact ⟨_, none, none, rfl, h5, J_n, J_n⟩
    · rintro τ ⟨x5, x12, x13, rfl, h5, h12, h13⟩
      have last : (!mtgB F || (mtgB (itr g 200 F) == true)) = true := by
        cases e : mtgB F
        · rfl
        · have := mtgB_iff.mpr (kp.meet (mtgB_iff.mp e))
          rw [this]; rfl
      simp_arith [ra_J h5, ra_J h12, ra_J h13, ph__law_right__law_is_meeting, ioF__law_is_meeting, frF__law_is_meeting, law_is_meeting_i, eM]
      rw [cE_or (u := mtgB (itr g 200 F) == true) (by simp_arith [ph__law_right_is_meeting, ioF_is_meeting, frF_is_meeting, is_meeting_i hg hG, eM])]
      simp_arith [last]
end TL

set_option Elab.async false
set_option linter.all false
set_option maxRecDepth 100000
namespace TL
local macro_rules | `(tactic| simp_arith [$ls,*]) => `(tactic| simp (config := { failIfUnchanged := false, decide := false, implicitDefEqProofs := false, dsimp := false }) only [tg_nm, tg_2, nq_n, nq_r, nq_p, u_2, tn_nx, ne_eq, decide_not, Nat.reduceEqDiff, Nat.reduceBEq, decide_false, decide_true, not_false_eq_true, bt_tp2, o_ltT, sc_T, sc_I, z_T, fb_len, fb_tuple, fb_list, fb_sorted, fb_sum, fb_max1, fb_min1, fb_max2, fb_min2, fb_all, fb_any, fb_abs, fb_int, fb_repr, fb_isInt, fb_isBool, fb_isTuple, fb_isStr, fb_srs, fb_lns, fb_lrg1, fb_trg1, fb_lrg2, s_tI, s_tT, g_lenI, g_lenT, g_lenL, g_isTI, g_isTT, g_tupI, g_tupT, g_allm, g_anym, r_bind, r_ok, r_no, r_pure, r_pure, r_lift, r_cT, r_cF, r_when, n_0, n_s, p_0, p_s, lk_r, lk_p, lk_q, r_var, r_con, r_glb, r_neg, r_not, r_op, r_chn, r_and, r_or, r_ite, r_tup, r_lst, r_slc, r_some, r_call, r_blt, r_pop, r_cmp, r_dcm, r_dic, r_an, r_ac, r_cn, r_cc, r_iex, r_ir1, r_ir2, r_izp, v_v, v_f, v_fv, v_nv, v_nf, d_v, d_f, d_s, ld_p, ld_q, dd_n, dd_c, b_v, i_v, s_l, s_t, z_l, z_t, t_s, ts_p, ts_q, t_r, t_pl, t_pd, tr_n, tr_r, tr_p, pb_t, pb_f, c_o, c_e, pa_n, pa_c, e_nil, e_cons, q_nx, q_ret, e_asg, e_own, e_unp, e_par, e_sidx, e_app, e_ext, e_upd, e_exp, e_ifs, e_fr, e_ret, e_rv, e_rf, e_rp, lp_p, e_la, la_p, la_q, e_da, da_p, e_sa, sa_p, sa_q, a_l, x_l, ra_n, ra_0, ra_p, ra_r, ra_q, st_q, st_r, st_n, bt_nm, w_n, w_c, f_nx, f_rt, et_q, et_r, et_n, sl_n, sl_f, sl_t, le_n, le_v, le_f, le_s, le_t, nd_0, nd_1, c_c, c_s, o_add, o_sub, o_lt, o_le, o_gt, o_ge, o_eqi, o_nei, o_isb, o_int, o_nint, o_nintT, o_eqT, o_neT, o_eqI, o_neI, g_sum, g_lenl, g_lent, g_tupt, g_lisl, g_list, g_int, g_intb, g_abs, g_max, g_min, g_isT, g_trg, g_lrg, g_sorI, g_sorT, List.length_cons, List.length_nil, if_true, if_false, Bool.not_true, Bool.not_false, Bool.and_true, Bool.and_false, Bool.true_and, Bool.false_and, Bool.false_eq_true, reduceCtorEq, List.append_nil, List.nil_append, List.cons_append, Option.map_some, $ls,*])
open PySem PySem.W PyProof.Rows L2
/-! ### closed parts -/
def neF (o : Option FR) (D : PyData) : Bool := match o with
  | some (.ok d []) => (match sem2 .ne d D with | some (.bool false) => true | _ => false)
  | _ => false
theorem neF_eq {o : Option FR} {D : PyData} (h : neF o D = true) : ∃ d, o = some (.ok d []) ∧ sem2 .ne d D = some (.bool false) := by
  unfold neF at h
  split at h
  · rename_i d
    split at h
    · rename_i e
      exact ⟨d, rfl, e⟩
    · cases h
  · cases h
theorem cl_chains : neF (F_middle_chains.m [.int 2]) (.tuple [.tuple [.tuple [], .tuple [.int 0], .tuple [.int 0, .int 1]], .tuple [.tuple [.int 1]]]) = true := by decide +kernel
theorem cl_shifted : neF (F_shifted.m [.int 4, .tuple [.tuple [.int 1, .int 3], .tuple [.int 2, .int 3]]]) (.tuple [.tuple [.int 0, .int 1], .tuple [.int 0, .int 2]]) = true := by decide +kernel
def PL : List (Int × Int) := [(1, 1), (3, 1), (4, 2), (5, 2), (5, 3), (5, 4)]
def sameI (a b : Option FR) : Bool := match a, b with
  | some (.ok (.int v) []), some (.ok (.int w) []) => decide (v = w) && decide (0 ≤ v) && decide (v ≤ 10)
  | _, _ => false
theorem sameI_eq {a b : Option FR} (h : sameI a b = true) : ∃ v : Int, a = some (.ok (.int v) []) ∧ b = some (.ok (.int v) []) ∧ 0 ≤ v ∧ v ≤ 10 := by
  unfold sameI at h
  split at h
  · rename_i v w
    simp only [Bool.and_eq_true, decide_eq_true_eq] at h
    obtain ⟨⟨rfl, h1⟩, h2⟩ := h
    exact ⟨v, rfl, rfl, h1, h2⟩
  · cases h
theorem cl_pairs : PL.all (fun (p : Int × Int) => sameI (F_most_meeting.m [.int p.1, .int p.2]) (F__law_most_by_look.m [.int p.1, .int p.2])) = true := by decide +kernel
theorem cl_105 : neF (F_most_meeting.m [.int 10, .int 5]) (.int 126) = true := by decide +kernel
theorem cl_106 : neF (F_most_meeting.m [.int 10, .int 6]) (.int 210) = true := by decide +kernel
theorem cl_8 : neF (F_most_unlike.m [.int 8]) (.int 70) = true := by decide +kernel
theorem cl_r1 : isT (F__law_are_chains_right.m [.int 1]) = true := by decide +kernel
theorem cl_r2 : isT (F__law_are_chains_right.m [.int 2]) = true := by decide +kernel
theorem cl_r3 : isT (F__law_are_chains_right.m [.int 3]) = true := by decide +kernel
theorem cl_r4 : isT (F__law_are_chains_right.m [.int 4]) = true := by decide +kernel
theorem cl_r5 : isT (F__law_are_chains_right.m [.int 5]) = true := by decide +kernel
theorem cl_r6 : isT (F__law_are_chains_right.m [.int 6]) = true := by decide +kernel
theorem cl_r7 : isT (F__law_are_chains_right.m [.int 7]) = true := by decide +kernel
theorem cl_right (x : Nat) (h : x < 7) : F__law_are_chains_right.m [.int ((1 + x : Nat) : Int)] = some (.ok (.bool true) []) := by
  have : x = 0 ∨ x = 1 ∨ x = 2 ∨ x = 3 ∨ x = 4 ∨ x = 5 ∨ x = 6 := by omega
  rcases this with rfl | rfl | rfl | rfl | rfl | rfl | rfl
  · have e : ((1 + 0 : Nat) : Int) = 1 := by decide
    rw [e]; exact isT_eq cl_r1
  · have e : ((1 + 1 : Nat) : Int) = 2 := by decide
    rw [e]; exact isT_eq cl_r2
  · have e : ((1 + 2 : Nat) : Int) = 3 := by decide
    rw [e]; exact isT_eq cl_r3
  · have e : ((1 + 3 : Nat) : Int) = 4 := by decide
    rw [e]; exact isT_eq cl_r4
  · have e : ((1 + 4 : Nat) : Int) = 5 := by decide
    rw [e]; exact isT_eq cl_r5
  · have e : ((1 + 5 : Nat) : Int) = 6 := by decide
    rw [e]; exact isT_eq cl_r6
  · have e : ((1 + 6 : Nat) : Int) = 7 := by decide
    rw [e]; exact isT_eq cl_r7
end TL

set_option Elab.async false
set_option linter.all false
set_option maxRecDepth 100000
namespace TL
local macro_rules | `(tactic| simp_arith [$ls,*]) => `(tactic| simp (config := { failIfUnchanged := false, decide := false, implicitDefEqProofs := false, dsimp := false }) only [tg_nm, tg_2, nq_n, nq_r, nq_p, u_2, tn_nx, ne_eq, decide_not, Nat.reduceEqDiff, Nat.reduceBEq, decide_false, decide_true, not_false_eq_true, bt_tp2, o_ltT, sc_T, sc_I, z_T, fb_len, fb_tuple, fb_list, fb_sorted, fb_sum, fb_max1, fb_min1, fb_max2, fb_min2, fb_all, fb_any, fb_abs, fb_int, fb_repr, fb_isInt, fb_isBool, fb_isTuple, fb_isStr, fb_srs, fb_lns, fb_lrg1, fb_trg1, fb_lrg2, s_tI, s_tT, g_lenI, g_lenT, g_lenL, g_isTI, g_isTT, g_tupI, g_tupT, g_allm, g_anym, r_bind, r_ok, r_no, r_pure, r_pure, r_lift, r_cT, r_cF, r_when, n_0, n_s, p_0, p_s, lk_r, lk_p, lk_q, r_var, r_con, r_glb, r_neg, r_not, r_op, r_chn, r_and, r_or, r_ite, r_tup, r_lst, r_slc, r_some, r_call, r_blt, r_pop, r_cmp, r_dcm, r_dic, r_an, r_ac, r_cn, r_cc, r_iex, r_ir1, r_ir2, r_izp, v_v, v_f, v_fv, v_nv, v_nf, d_v, d_f, d_s, ld_p, ld_q, dd_n, dd_c, b_v, i_v, s_l, s_t, z_l, z_t, t_s, ts_p, ts_q, t_r, t_pl, t_pd, tr_n, tr_r, tr_p, pb_t, pb_f, c_o, c_e, pa_n, pa_c, e_nil, e_cons, q_nx, q_ret, e_asg, e_own, e_unp, e_par, e_sidx, e_app, e_ext, e_upd, e_exp, e_ifs, e_fr, e_ret, e_rv, e_rf, e_rp, lp_p, e_la, la_p, la_q, e_da, da_p, e_sa, sa_p, sa_q, a_l, x_l, ra_n, ra_0, ra_p, ra_r, ra_q, st_q, st_r, st_n, bt_nm, w_n, w_c, f_nx, f_rt, et_q, et_r, et_n, sl_n, sl_f, sl_t, le_n, le_v, le_f, le_s, le_t, nd_0, nd_1, c_c, c_s, o_add, o_sub, o_lt, o_le, o_gt, o_ge, o_eqi, o_nei, o_isb, o_int, o_nint, o_nintT, o_eqT, o_neT, o_eqI, o_neI, g_sum, g_lenl, g_lent, g_tupt, g_lisl, g_list, g_int, g_intb, g_abs, g_max, g_min, g_isT, g_trg, g_lrg, g_sorI, g_sorT, List.length_cons, List.length_nil, if_true, if_false, Bool.not_true, Bool.not_false, Bool.and_true, Bool.and_false, Bool.true_and, Bool.false_and, Bool.false_eq_true, reduceCtorEq, List.append_nil, List.nil_append, List.cons_append, Option.map_some, $ls,*])
open PySem PySem.W PyProof.Rows L2
theorem places_i (ns : List Int) : ∃ k : Nat, k ≤ 3 ∧ F__law_places.m [.list (ns.map .int), .int 3] = some (.ok (.list ((List.range k).map fun (p : Nat) => PyData.int (p : Int))) []) := by
  simp_arith [m__law_places, b__law_places, List.length_map]
  generalize hk : (if (if (ns.length : Int) < 3 then (ns.length : Int) else 3) > 1 then (if (ns.length : Int) < 3 then (ns.length : Int) else 3) else 1) = K
  have h1 : 0 ≤ K ∧ K ≤ 3 := by
    subst hk
    split <;> split <;> omega
  have hK : K = ((K.toNat : Nat) : Int) := (Int.toNat_of_nonneg h1.1).symm
  refine ⟨K.toNat, by omega, ?_⟩
  rw [hK]
  simp_arith [rngI_nat (show K.toNat ≤ 1000000 by omega), upI_map, Int.toNat_natCast]
theorem repr_small {v : Int} (h0 : 0 ≤ v) (h1 : v ≤ 10) : semB .repr [.int v] = some (.str (PyData.int v).shown) ∧ sem2 .ne (.str (PyData.int v).shown) (.str (PyData.int v).shown) = some (.bool false) := by
  have : v = 0 ∨ v = 1 ∨ v = 2 ∨ v = 3 ∨ v = 4 ∨ v = 5 ∨ v = 6 ∨ v = 7 ∨ v = 8 ∨ v = 9 ∨ v = 10 := by omega
  have go : ∀ v : Int, sok 2 (PyData.int v).shown → (PyData.int v).showable = true → semB .repr [.int v] = some (.str (PyData.int v).shown) ∧ sem2 .ne (.str (PyData.int v).shown) (.str (PyData.int v).shown) = some (.bool false) := fun v h1 h2 => ⟨g_repr (n := 2) (shaped_int v) h2 h1 (by omega), o_nes h1.1⟩
  rcases this with rfl | rfl | rfl | rfl | rfl | rfl | rfl | rfl | rfl | rfl | rfl <;> exact go _ ⟨by decide +kernel, by decide +kernel⟩ (by decide +kernel)
/-- a slot of one's own, or none -/
def JP (x : Option SV) : Prop := x = none ∨ ∃ d, x = some (.p d)
theorem tr_JP {i : Nat} {v : SV} {τ : Tau} {x : Option SV} (h : JP x) : ptR i v τ (some x) = some (.ok () (putN τ i (some v))) := by
  rcases h with rfl | ⟨d, rfl⟩ <;> rfl
theorem ra_JP {x : Option SV} {l : Tau} (h : JP x) : ∃ y, relAll (x :: l) = y :: relAll l := by
  rcases h with rfl | ⟨d, rfl⟩
  · exact ⟨_, rfl⟩
  · exact ⟨_, rfl⟩
theorem Pt.isL {n : Nat} {d : PyData} (h : Pt n d) : isObjD d = true := by
  obtain ⟨a, b, c, rfl, _⟩ := h; rfl
theorem law_true (ns : List Int) (h : ns.length ≤ 63) : F_law.m [.list (ns.map .int)] = some (.ok (.bool true) []) := by
  obtain ⟨c1, e1, q1⟩ := neF_eq cl_chains
  obtain ⟨c2, e2, q2⟩ := neF_eq cl_shifted
  obtain ⟨c3, e3, q3⟩ := neF_eq cl_105
  obtain ⟨c4, e4, q4⟩ := neF_eq cl_106
  obtain ⟨c5, e5, q5⟩ := neF_eq cl_8
  have f0 : few 0 = true := rfl
  have f1 : few (0 + 1) = true := rfl
  have f2 : few (0 + 1 + 1) = true := rfl
  have f3 : few (0 + 1 + 1 + 1) = true := rfl
  have f6 : few (0 + 1 + 1 + 1 + 1 + 1 + 1) = true := rfl
  simp_arith [m_law, b_law, ph_law_middle_chains, ioF_middle_chains, frF_middle_chains, e1, f0, f1, f2, f3, f6, q1, ph_law_shifted, ioF_shifted, frF_shifted, e2, q2]
  have eL : [PyData.tuple [.int 1, .int 1], .tuple [.int 3, .int 1], .tuple [.int 4, .int 2], .tuple [.int 5, .int 2], .tuple [.int 5, .int 3], .tuple [.int 5, .int 4]] = PL.map fun (p : Int × Int) => PyData.tuple [.int p.1, .int p.2] := rfl
  rw [eL]
  refine fr_then (fun z => endF false [false] z = some (.ok (.bool true) [])) (fun pre τ => ∃ x2 x3, τ = [some (.r (.list (ns.map .int))), none, x2, x3, none, none] ∧ J x2 ∧ J x3) ?_ ?_ ?_
  · rintro pre p τ hp - ⟨x2, x3, rfl, h2, h3⟩
    obtain ⟨v, a1, a2, a3, a4⟩ := sameI_eq (List.all_eq_true.mp cl_pairs p hp)
    obtain ⟨r1, r2⟩ := repr_small a3 a4
    refine ⟨by simp_arith [nq_J h2, nq_J h3], _, by simp_arith []; rfl, ?_⟩
    simp_arith [ph_law_most_meeting, ioF_most_meeting, frF_most_meeting, a1, ph_law__law_most_by_look, ioF__law_most_by_look, frF__law_most_by_look, a2, r1, r2]
    exact nxt_ok ⟨_, _, rfl, J_r, J_r⟩
  · exact ⟨none, none, rfl, J_n, J_n⟩
  · rintro τ ⟨x2, x3, rfl, h2, h3⟩
    obtain ⟨k, hk, eP⟩ := places_i ns
    simp_arith [ph_law_most_meeting, ioF_most_meeting, frF_most_meeting, e3, q3, e4, q4, ph_law_most_unlike, ioF_most_unlike, frF_most_unlike, e5, q5, ph_law__law_places, ioF__law_places, frF__law_places, eP]
    refine fr_then (fun z => endF false [false] z = some (.ok (.bool true) [])) (fun pre τ => ∃ x1 x4, τ = [some (.r (.list (ns.map .int))), x1, x2, x3, x4, none] ∧ J x1 ∧ JP x4) ?_ ?_ ?_
    · rintro pre p τ hp - ⟨x1, x4, rfl, h1, h4⟩
      have hp := List.mem_range.mp hp
      obtain ⟨d, hd, ed⟩ := pot_i ns (p := p) (by omega)
      obtain ⟨x, d1, hx, hd1, ex⟩ := take_i hd (by omega) (u := 7) (by omega) (by omega)
      have ex : F__law_take.m [d, .int 7] = some (.ok (.int x) [d1]) := ex
      have e1x : (1 : Int) + (x : Int) = ((1 + x : Nat) : Int) := by omega
      refine ⟨by simp_arith [nq_J h1], _, by simp_arith []; rfl, ?_⟩
      simp_arith [ph_law__law_pot, ioF__law_pot, frF__law_pot, ed, t_p hd.isL, tr_JP h4, ph_law__law_take, ioF__law_take, frF__law_take, ex, e1x, ph_law__law_are_chains_right, ioF__law_are_chains_right, frF__law_are_chains_right, cl_right x hx]
      have r5 : rngI 5 = true := rfl
      have t5 : Int.toNat 5 = 5 := rfl
      simp_arith [r5, t5, upI_map]
      generalize hX : inBlk [5] (compGo _ _ _ _ _) _ _ = X
      obtain ⟨ys, τ', eX, hI⟩ : ∃ ys τ', X = some (.ok (.f (.list ys)) (mergeT [5] [some (.r (.list (ns.map .int))), some (.r (.int p)), x2, x3, some (.p d1), none] τ')) ∧ (fun (pre acc : List PyData) (τ : Tau) => ∃ dd x5, acc = (pre.map fun _ => true).map .bool ∧ Pt (1 + 17 * pre.length) dd ∧ τ = [some (.r (.list (ns.map .int))), some (.r (.int p)), x2, x3, some (.p dd), x5]) ((List.range 5).map fun (k : Nat) => PyData.int (k : Int)) ys τ' := by
        rw [← hX]
        refine comp_ex (fun (pre acc : List PyData) (τ : Tau) => ∃ dd x5, acc = (pre.map fun _ => true).map .bool ∧ Pt (1 + 17 * pre.length) dd ∧ τ = [some (.r (.list (ns.map .int))), some (.r (.int p)), x2, x3, some (.p dd), x5]) rfl ?_ ⟨d1, none, rfl, hd1, rfl⟩
        rintro pre dd acc τ hdd hl ⟨dp, x5, rfl, hp2, rfl⟩
        simp only [List.length_map, List.length_range] at hl
        obtain ⟨d2, hp3, e6⟩ := right_i hp2 (by omega)
        refine ⟨_, by simp_arith []; rfl, _, _, by simp_arith [ph_law__law_right, ioF__law_right, frF__law_right, e6]; rfl, d2, _, by simp, ?_, rfl⟩
        simp only [List.length_append, List.length_cons, List.length_nil]
        exact hp3.mono (by omega)
      obtain ⟨dp, x5, rfl, hp2, rfl⟩ := hI
      rw [eX]
      clear hX eX
      have em : mergeT [5] [some (.r (.list (ns.map .int))), some (.r (.int p)), x2, x3, some (.p d1), none] [some (.r (.list (ns.map .int))), some (.r (.int p)), x2, x3, some (.p dp), x5] = [some (.r (.list (ns.map .int))), some (.r (.int p)), x2, x3, some (.p dp), none] := rfl
      have al : (((List.range 5).map fun (k : Nat) => PyData.int (k : Int)).all fun _ => true) = true := rfl
      rw [em]
      simp_arith [al]
      exact nxt_ok ⟨_, _, rfl, J_r, .inr ⟨_, rfl⟩⟩
    · exact ⟨none, none, rfl, J_n, .inl rfl⟩
    · rintro τ ⟨x1, x4, rfl, h1, h4⟩
      rcases h4 with rfl | ⟨d, rfl⟩
      · simp_arith [ra_J h1, ra_J h2, ra_J h3]
      · simp_arith [ra_J h1, ra_J h2, ra_J h3]
end TL

set_option Elab.async false
set_option linter.all false
set_option maxRecDepth 100000
set_option maxHeartbeats 0
namespace TL
local macro_rules | `(tactic| simp_arith [$ls,*]) => `(tactic| simp (config := { failIfUnchanged := false, decide := false, implicitDefEqProofs := false, dsimp := false }) only [tg_nm, tg_2, nq_n, nq_r, nq_p, u_2, tn_nx, ne_eq, decide_not, Nat.reduceEqDiff, Nat.reduceBEq, decide_false, decide_true, not_false_eq_true, bt_tp2, o_ltT, sc_T, sc_I, z_T, fb_len, fb_tuple, fb_list, fb_sorted, fb_sum, fb_max1, fb_min1, fb_max2, fb_min2, fb_all, fb_any, fb_abs, fb_int, fb_repr, fb_isInt, fb_isBool, fb_isTuple, fb_isStr, fb_srs, fb_lns, fb_lrg1, fb_trg1, fb_lrg2, s_tI, s_tT, g_lenI, g_lenT, g_lenL, g_isTI, g_isTT, g_tupI, g_tupT, g_allm, g_anym, r_bind, r_ok, r_no, r_pure, r_pure, r_lift, r_cT, r_cF, r_when, n_0, n_s, p_0, p_s, lk_r, lk_p, lk_q, r_var, r_con, r_glb, r_neg, r_not, r_op, r_chn, r_and, r_or, r_ite, r_tup, r_lst, r_slc, r_some, r_call, r_blt, r_pop, r_cmp, r_dcm, r_dic, r_an, r_ac, r_cn, r_cc, r_iex, r_ir1, r_ir2, r_izp, v_v, v_f, v_fv, v_nv, v_nf, d_v, d_f, d_s, ld_p, ld_q, dd_n, dd_c, b_v, i_v, s_l, s_t, z_l, z_t, t_s, ts_p, ts_q, t_r, t_pl, t_pd, tr_n, tr_r, tr_p, pb_t, pb_f, c_o, c_e, pa_n, pa_c, e_nil, e_cons, q_nx, q_ret, e_asg, e_own, e_unp, e_par, e_sidx, e_app, e_ext, e_upd, e_exp, e_ifs, e_fr, e_ret, e_rv, e_rf, e_rp, lp_p, e_la, la_p, la_q, e_da, da_p, e_sa, sa_p, sa_q, a_l, x_l, ra_n, ra_0, ra_p, ra_r, ra_q, st_q, st_r, st_n, bt_nm, w_n, w_c, f_nx, f_rt, et_q, et_r, et_n, sl_n, sl_f, sl_t, le_n, le_v, le_f, le_s, le_t, nd_0, nd_1, c_c, c_s, o_add, o_sub, o_lt, o_le, o_gt, o_ge, o_eqi, o_nei, o_isb, o_int, o_nint, o_nintT, o_eqT, o_neT, o_eqI, o_neI, g_sum, g_lenl, g_lent, g_tupt, g_lisl, g_list, g_int, g_intb, g_abs, g_max, g_min, g_isT, g_trg, g_lrg, g_sorI, g_sorT, List.length_cons, List.length_nil, if_true, if_false, Bool.not_true, Bool.not_false, Bool.and_true, Bool.and_false, Bool.true_and, Bool.false_and, Bool.false_eq_true, reduceCtorEq, List.append_nil, List.nil_append, List.cons_append, Option.map_some, $ls,*])
open PySem L2
theorem chain {P : Program} {w : World} {K : PySem.W.Frag} {mg : Str → Option Value} {base : Heap} (B : Base mg Cn)
    (h__law_places : Has K mg "_law_places" (top 37))
    (h__law_pot : Has K mg "_law_pot" (top 34))
    (h_is_whole : Has K mg "is_whole" (top 1))
    (h_is_integer : Has K mg "is_integer" (top 2))
    (h_check_guests : Has K mg "check_guests" (top 18))
    (h_parts_of : Has K mg "parts_of" (top 14))
    (h_shut_of : Has K mg "shut_of" (top 25))
    (h_open_of : Has K mg "open_of" (top 24))
    (h_middle_chains : Has K mg "middle_chains" (top 26))
    (h_is_rising : Has K mg "is_rising" (top 3))
    (h_is_lot : Has K mg "is_lot" (top 12))
    (h_check_family : Has K mg "check_family" (top 19))
    (h_shift_of : Has K mg "shift_of" (top 28))
    (h_shifted : Has K mg "shifted" (top 30))
    (h_ways : Has K mg "ways" (top 16))
    (h_most_meeting : Has K mg "most_meeting" (top 32))
    (h_most_unlike : Has K mg "most_unlike" (top 27))
    (h__law_g_parts : Has K mg "_law_g_parts" (top 38))
    (h__law_most_by_look : Has K mg "_law_most_by_look" (top 48))
    (h__law_ways : Has K mg "_law_ways" (top 41))
    (h__law_are_chains_right : Has K mg "_law_are_chains_right" (top 47))
    (h__law_take : Has K mg "_law_take" (top 35))
    (h__law_of : Has K mg "_law_of" (top 36))
    (h__law_family : Has K mg "_law_family" (top 39))
    (h_weight : Has K mg "weight" (top 23))
    (h_is_within : Has K mg "is_within" (top 13))
    (h_is_unlike : Has K mg "is_unlike" (top 20))
    (h_meet : Has K mg "meet" (top 21))
    (h_is_meeting : Has K mg "is_meeting" (top 22))
    (h__law_is_meeting : Has K mg "_law_is_meeting" (top 45))
    (h_shift : Has K mg "shift" (top 29))
    (h__law_moved : Has K mg "_law_moved" (top 42))
    (h__law_still : Has K mg "_law_still" (top 43))
    (h_shadow : Has K mg "shadow" (top 31))
    (h__law_shadow : Has K mg "_law_shadow" (top 44))
    (h__law_inside : Has K mg "_law_inside" (top 40))
    (h__law_right : Has K mg "_law_right" (top 46))
    (h_law : Has K mg "law" (top 49))
    : Keeps P w K mg base 7 "law" F_law := by
  have k__law_places : Keeps P w K mg base 1 "_law_places" F__law_places := keeps_of (ps := ["script", "most"]) B h__law_places sc__law_places c__law_places rfl (fun _ _ _ _ _ _ us hl => match us, hl with | [_, _], _ => rfl) (fun p hp => by cases hp)
  have k__law_pot : Keeps P w K mg base 1 "_law_pot" F__law_pot := keeps_of (ps := ["script", "place"]) B h__law_pot sc__law_pot c__law_pot rfl (fun _ _ _ _ _ _ us hl => match us, hl with | [_, _], _ => rfl) (fun p hp => by cases hp)
  have k_is_whole : Keeps P w K mg base 1 "is_whole" F_is_whole := keeps_of (ps := ["value"]) B h_is_whole sc_is_whole c_is_whole rfl (fun _ _ _ _ _ _ us hl => match us, hl with | [_], _ => rfl) (fun p hp => by cases hp)
  have k_is_integer : Keeps P w K mg base 2 "is_integer" F_is_integer := keeps_of (ps := ["value", "low", "high"]) B h_is_integer sc_is_integer c_is_integer rfl (fun _ _ _ _ _ _ us hl => match us, hl with | [_, _, _], _ => rfl) (fun p hp => by
    simp only [List.mem_cons, List.not_mem_nil, or_false] at hp
    rcases hp with rfl
    · exact k_is_whole.mono (by decide))
  have k_check_guests : Keeps P w K mg base 3 "check_guests" F_check_guests := keeps_of (ps := ["value"]) B h_check_guests sc_check_guests c_check_guests rfl (fun _ _ _ _ _ _ us hl => match us, hl with | [_], _ => rfl) (fun p hp => by
    simp only [List.mem_cons, List.not_mem_nil, or_false] at hp
    rcases hp with rfl
    · exact k_is_integer.mono (by decide))
  have k_parts_of : Keeps P w K mg base 1 "parts_of" F_parts_of := keeps_of (ps := ["lot"]) B h_parts_of sc_parts_of c_parts_of rfl (fun _ _ _ _ _ _ us hl => match us, hl with | [_], _ => rfl) (fun p hp => by cases hp)
  have k_shut_of : Keeps P w K mg base 1 "shut_of" F_shut_of := keeps_of (ps := ["guests", "lot"]) B h_shut_of sc_shut_of c_shut_of rfl (fun _ _ _ _ _ _ us hl => match us, hl with | [_, _], _ => rfl) (fun p hp => by cases hp)
  have k_open_of : Keeps P w K mg base 1 "open_of" F_open_of := keeps_of (ps := ["guests", "lot"]) B h_open_of sc_open_of c_open_of rfl (fun _ _ _ _ _ _ us hl => match us, hl with | [_, _], _ => rfl) (fun p hp => by cases hp)
  have k_middle_chains : Keeps P w K mg base 4 "middle_chains" F_middle_chains := keeps_of (ps := ["guests"]) B h_middle_chains sc_middle_chains c_middle_chains rfl (fun _ _ _ _ _ _ us hl => match us, hl with | [_], _ => rfl) (fun p hp => by
    simp only [List.mem_cons, List.not_mem_nil, or_false] at hp
    rcases hp with rfl | rfl | rfl | rfl
    · exact k_check_guests.mono (by decide)
    · exact k_parts_of.mono (by decide)
    · exact k_shut_of.mono (by decide)
    · exact k_open_of.mono (by decide))
  have k_is_rising : Keeps P w K mg base 1 "is_rising" F_is_rising := keeps_of (ps := ["values"]) B h_is_rising sc_is_rising c_is_rising rfl (fun _ _ _ _ _ _ us hl => match us, hl with | [_], _ => rfl) (fun p hp => by cases hp)
  have k_is_lot : Keeps P w K mg base 3 "is_lot" F_is_lot := keeps_of (ps := ["guests", "value"]) B h_is_lot sc_is_lot c_is_lot rfl (fun _ _ _ _ _ _ us hl => match us, hl with | [_, _], _ => rfl) (fun p hp => by
    simp only [List.mem_cons, List.not_mem_nil, or_false] at hp
    rcases hp with rfl | rfl
    · exact k_is_rising.mono (by decide)
    · exact k_is_integer.mono (by decide))
  have k_check_family : Keeps P w K mg base 4 "check_family" F_check_family := keeps_of (ps := ["guests", "value"]) B h_check_family sc_check_family c_check_family rfl (fun _ _ _ _ _ _ us hl => match us, hl with | [_, _], _ => rfl) (fun p hp => by
    simp only [List.mem_cons, List.not_mem_nil, or_false] at hp
    rcases hp with rfl | rfl | rfl
    · exact k_check_guests.mono (by decide)
    · exact k_is_rising.mono (by decide)
    · exact k_is_lot.mono (by decide))
  have k_shift_of : Keeps P w K mg base 1 "shift_of" F_shift_of := keeps_of (ps := ["family", "one", "other"]) B h_shift_of sc_shift_of c_shift_of rfl (fun _ _ _ _ _ _ us hl => match us, hl with | [_, _, _], _ => rfl) (fun p hp => by cases hp)
  have k_shifted : Keeps P w K mg base 5 "shifted" F_shifted := keeps_of (ps := ["guests", "family"]) B h_shifted sc_shifted c_shifted rfl (fun _ _ _ _ _ _ us hl => match us, hl with | [_, _], _ => rfl) (fun p hp => by
    simp only [List.mem_cons, List.not_mem_nil, or_false] at hp
    rcases hp with rfl | rfl
    · exact k_check_family.mono (by decide)
    · exact k_shift_of.mono (by decide))
  have k_ways : Keeps P w K mg base 1 "ways" F_ways := keeps_of (ps := ["many", "some"]) B h_ways sc_ways c_ways rfl (fun _ _ _ _ _ _ us hl => match us, hl with | [_, _], _ => rfl) (fun p hp => by cases hp)
  have k_most_meeting : Keeps P w K mg base 4 "most_meeting" F_most_meeting := keeps_of (ps := ["guests", "size"]) B h_most_meeting sc_most_meeting c_most_meeting rfl (fun _ _ _ _ _ _ us hl => match us, hl with | [_, _], _ => rfl) (fun p hp => by
    simp only [List.mem_cons, List.not_mem_nil, or_false] at hp
    rcases hp with rfl | rfl | rfl
    · exact k_check_guests.mono (by decide)
    · exact k_is_integer.mono (by decide)
    · exact k_ways.mono (by decide))
  have k_most_unlike : Keeps P w K mg base 5 "most_unlike" F_most_unlike := keeps_of (ps := ["guests"]) B h_most_unlike sc_most_unlike c_most_unlike rfl (fun _ _ _ _ _ _ us hl => match us, hl with | [_], _ => rfl) (fun p hp => by
    simp only [List.mem_cons, List.not_mem_nil, or_false] at hp
    rcases hp with rfl
    · exact k_middle_chains.mono (by decide))
  have k__law_g_parts : Keeps P w K mg base 1 "_law_g_parts" F__law_g_parts := keeps_of (ps := ["lot"]) B h__law_g_parts sc__law_g_parts c__law_g_parts rfl (fun _ _ _ _ _ _ us hl => match us, hl with | [_], _ => rfl) (fun p hp => by cases hp)
  have k__law_most_by_look : Keeps P w K mg base 2 "_law_most_by_look" F__law_most_by_look := keeps_of (ps := ["guests", "size"]) B h__law_most_by_look sc__law_most_by_look c__law_most_by_look rfl (fun _ _ _ _ _ _ us hl => match us, hl with | [_, _], _ => rfl) (fun p hp => by
    simp only [List.mem_cons, List.not_mem_nil, or_false] at hp
    rcases hp with rfl
    · exact k__law_g_parts.mono (by decide))
  have k__law_ways : Keeps P w K mg base 1 "_law_ways" F__law_ways := keeps_of (ps := ["many", "some"]) B h__law_ways sc__law_ways c__law_ways rfl (fun _ _ _ _ _ _ us hl => match us, hl with | [_, _], _ => rfl) (fun p hp => by cases hp)
  have k__law_are_chains_right : Keeps P w K mg base 6 "_law_are_chains_right" F__law_are_chains_right := keeps_of (ps := ["guests"]) B h__law_are_chains_right sc__law_are_chains_right c__law_are_chains_right rfl (fun _ _ _ _ _ _ us hl => match us, hl with | [_], _ => rfl) (fun p hp => by
    simp only [List.mem_cons, List.not_mem_nil, or_false] at hp
    rcases hp with rfl | rfl | rfl | rfl
    · exact k_middle_chains.mono (by decide)
    · exact k__law_ways.mono (by decide)
    · exact k_most_unlike.mono (by decide)
    · exact k__law_g_parts.mono (by decide))
  have k__law_take : Keeps P w K mg base 1 "_law_take" F__law_take := keeps_of (ps := ["pot", "upto"]) B h__law_take sc__law_take c__law_take rfl (fun _ _ _ _ _ _ us hl => match us, hl with | [_, _], _ => rfl) (fun p hp => by cases hp)
  have k__law_of : Keeps P w K mg base 2 "_law_of" F__law_of := keeps_of (ps := ["pot", "some"]) B h__law_of sc__law_of c__law_of rfl (fun _ _ _ _ _ _ us hl => match us, hl with | [_, _], _ => rfl) (fun p hp => by
    simp only [List.mem_cons, List.not_mem_nil, or_false] at hp
    rcases hp with rfl
    · exact k__law_take.mono (by decide))
  have k__law_family : Keeps P w K mg base 3 "_law_family" F__law_family := keeps_of (ps := ["pot", "guests"]) B h__law_family sc__law_family c__law_family rfl (fun _ _ _ _ _ _ us hl => match us, hl with | [_, _], _ => rfl) (fun p hp => by
    simp only [List.mem_cons, List.not_mem_nil, or_false] at hp
    rcases hp with rfl | rfl | rfl
    · exact k__law_g_parts.mono (by decide)
    · exact k__law_take.mono (by decide)
    · exact k__law_of.mono (by decide))
  have k_weight : Keeps P w K mg base 5 "weight" F_weight := keeps_of (ps := ["guests", "family"]) B h_weight sc_weight c_weight rfl (fun _ _ _ _ _ _ us hl => match us, hl with | [_, _], _ => rfl) (fun p hp => by
    simp only [List.mem_cons, List.not_mem_nil, or_false] at hp
    rcases hp with rfl | rfl
    · exact k_check_family.mono (by decide)
    · exact k_ways.mono (by decide))
  have k_is_within : Keeps P w K mg base 1 "is_within" F_is_within := keeps_of (ps := ["one", "other"]) B h_is_within sc_is_within c_is_within rfl (fun _ _ _ _ _ _ us hl => match us, hl with | [_, _], _ => rfl) (fun p hp => by cases hp)
  have k_is_unlike : Keeps P w K mg base 5 "is_unlike" F_is_unlike := keeps_of (ps := ["guests", "family"]) B h_is_unlike sc_is_unlike c_is_unlike rfl (fun _ _ _ _ _ _ us hl => match us, hl with | [_, _], _ => rfl) (fun p hp => by
    simp only [List.mem_cons, List.not_mem_nil, or_false] at hp
    rcases hp with rfl | rfl
    · exact k_check_family.mono (by decide)
    · exact k_is_within.mono (by decide))
  have k_meet : Keeps P w K mg base 1 "meet" F_meet := keeps_of (ps := ["one", "other"]) B h_meet sc_meet c_meet rfl (fun _ _ _ _ _ _ us hl => match us, hl with | [_, _], _ => rfl) (fun p hp => by cases hp)
  have k_is_meeting : Keeps P w K mg base 5 "is_meeting" F_is_meeting := keeps_of (ps := ["guests", "family"]) B h_is_meeting sc_is_meeting c_is_meeting rfl (fun _ _ _ _ _ _ us hl => match us, hl with | [_, _], _ => rfl) (fun p hp => by
    simp only [List.mem_cons, List.not_mem_nil, or_false] at hp
    rcases hp with rfl | rfl
    · exact k_check_family.mono (by decide)
    · exact k_meet.mono (by decide))
  have k__law_is_meeting : Keeps P w K mg base 1 "_law_is_meeting" F__law_is_meeting := keeps_of (ps := ["family"]) B h__law_is_meeting sc__law_is_meeting c__law_is_meeting rfl (fun _ _ _ _ _ _ us hl => match us, hl with | [_], _ => rfl) (fun p hp => by cases hp)
  have k_shift : Keeps P w K mg base 5 "shift" F_shift := keeps_of (ps := ["guests", "family", "one", "other"]) B h_shift sc_shift c_shift rfl (fun _ _ _ _ _ _ us hl => match us, hl with | [_, _, _, _], _ => rfl) (fun p hp => by
    simp only [List.mem_cons, List.not_mem_nil, or_false] at hp
    rcases hp with rfl | rfl | rfl
    · exact k_check_family.mono (by decide)
    · exact k_shift_of.mono (by decide)
    · exact k_is_integer.mono (by decide))
  have k__law_moved : Keeps P w K mg base 1 "_law_moved" F__law_moved := keeps_of (ps := ["family", "one", "other"]) B h__law_moved sc__law_moved c__law_moved rfl (fun _ _ _ _ _ _ us hl => match us, hl with | [_, _, _], _ => rfl) (fun p hp => by cases hp)
  have k__law_still : Keeps P w K mg base 2 "_law_still" F__law_still := keeps_of (ps := ["guests", "family"]) B h__law_still sc__law_still c__law_still rfl (fun _ _ _ _ _ _ us hl => match us, hl with | [_, _], _ => rfl) (fun p hp => by
    simp only [List.mem_cons, List.not_mem_nil, or_false] at hp
    rcases hp with rfl
    · exact k__law_moved.mono (by decide))
  have k_shadow : Keeps P w K mg base 5 "shadow" F_shadow := keeps_of (ps := ["guests", "family"]) B h_shadow sc_shadow c_shadow rfl (fun _ _ _ _ _ _ us hl => match us, hl with | [_, _], _ => rfl) (fun p hp => by
    simp only [List.mem_cons, List.not_mem_nil, or_false] at hp
    rcases hp with rfl
    · exact k_check_family.mono (by decide))
  have k__law_shadow : Keeps P w K mg base 1 "_law_shadow" F__law_shadow := keeps_of (ps := ["family"]) B h__law_shadow sc__law_shadow c__law_shadow rfl (fun _ _ _ _ _ _ us hl => match us, hl with | [_], _ => rfl) (fun p hp => by cases hp)
  have k__law_inside : Keeps P w K mg base 1 "_law_inside" F__law_inside := keeps_of (ps := ["one", "other"]) B h__law_inside sc__law_inside c__law_inside rfl (fun _ _ _ _ _ _ us hl => match us, hl with | [_, _], _ => rfl) (fun p hp => by cases hp)
  have k__law_right : Keeps P w K mg base 6 "_law_right" F__law_right := keeps_of (ps := ["pot"]) B h__law_right sc__law_right c__law_right rfl (fun _ _ _ _ _ _ us hl => match us, hl with | [_], _ => rfl) (fun p hp => by
    simp only [List.mem_cons, List.not_mem_nil, or_false] at hp
    rcases hp with rfl | rfl | rfl | rfl | rfl | rfl | rfl | rfl | rfl | rfl | rfl | rfl | rfl | rfl
    · exact k__law_family.mono (by decide)
    · exact k_weight.mono (by decide)
    · exact k_shifted.mono (by decide)
    · exact k__law_take.mono (by decide)
    · exact k_is_unlike.mono (by decide)
    · exact k_is_meeting.mono (by decide)
    · exact k__law_is_meeting.mono (by decide)
    · exact k__law_ways.mono (by decide)
    · exact k_shift.mono (by decide)
    · exact k__law_moved.mono (by decide)
    · exact k__law_still.mono (by decide)
    · exact k_shadow.mono (by decide)
    · exact k__law_shadow.mono (by decide)
    · exact k__law_inside.mono (by decide))
  have k_law : Keeps P w K mg base 7 "law" F_law := keeps_of (ps := ["script"]) B h_law sc_law c_law rfl (fun _ _ _ _ _ _ us hl => match us, hl with | [_], _ => rfl) (fun p hp => by
    simp only [List.mem_cons, List.not_mem_nil, or_false] at hp
    rcases hp with rfl | rfl | rfl | rfl | rfl | rfl | rfl | rfl | rfl | rfl
    · exact k__law_places.mono (by decide)
    · exact k__law_pot.mono (by decide)
    · exact k_middle_chains.mono (by decide)
    · exact k_shifted.mono (by decide)
    · exact k_most_meeting.mono (by decide)
    · exact k_most_unlike.mono (by decide)
    · exact k__law_most_by_look.mono (by decide)
    · exact k__law_are_chains_right.mono (by decide)
    · exact k__law_right.mono (by decide)
    · exact k__law_take.mono (by decide))
  exact k_law
theorem base_mk {K : PySem.W.Frag} {mg : Str → Option Value} {hp : Heap} (KI : K.In hp) (G : hp.Ns mainGlobals mg) {t0 : Tok}
    (n0 : PySem.W.nsIn K mainGlobals "len" = some none)
    (n1 : PySem.W.nsIn K mainGlobals "tuple" = some none)
    (n2 : PySem.W.nsIn K mainGlobals "list" = some none)
    (n3 : PySem.W.nsIn K mainGlobals "sum" = some none)
    (n4 : PySem.W.nsIn K mainGlobals "max" = some none)
    (n5 : PySem.W.nsIn K mainGlobals "min" = some none)
    (n6 : PySem.W.nsIn K mainGlobals "all" = some none)
    (n7 : PySem.W.nsIn K mainGlobals "any" = some none)
    (n8 : PySem.W.nsIn K mainGlobals "abs" = some none)
    (n9 : PySem.W.nsIn K mainGlobals "int" = some none)
    (n10 : PySem.W.nsIn K mainGlobals "bool" = some none)
    (n11 : PySem.W.nsIn K mainGlobals "str" = some none)
    (n12 : PySem.W.nsIn K mainGlobals "isinstance" = some none)
    (n13 : PySem.W.nsIn K mainGlobals "range" = some none)
    (n14 : PySem.W.nsIn K mainGlobals "zip" = some none)
    (n15 : PySem.W.nsIn K mainGlobals "enumerate" = some none)
    (n16 : PySem.W.nsIn K mainGlobals "sorted" = some none)
    (n17 : PySem.W.nsIn K mainGlobals "repr" = some none)
    (n18 : PySem.W.nsIn K mainGlobals "set" = some none)
    (g0 : PySem.W.nsIn K mainGlobals "MOST_GUESTS" = some (some (.int 10 t0)))
    : Base mg Cn where
  blt := fun x hx => by
    simp only [bltNames, List.mem_cons, List.not_mem_nil, or_false] at hx
    rcases hx with rfl | rfl | rfl | rfl | rfl | rfl | rfl | rfl | rfl | rfl | rfl | rfl | rfl | rfl | rfl | rfl | rfl | rfl | rfl
    · exact PySem.W.mg_none_of KI G n0
    · exact PySem.W.mg_none_of KI G n1
    · exact PySem.W.mg_none_of KI G n2
    · exact PySem.W.mg_none_of KI G n3
    · exact PySem.W.mg_none_of KI G n4
    · exact PySem.W.mg_none_of KI G n5
    · exact PySem.W.mg_none_of KI G n6
    · exact PySem.W.mg_none_of KI G n7
    · exact PySem.W.mg_none_of KI G n8
    · exact PySem.W.mg_none_of KI G n9
    · exact PySem.W.mg_none_of KI G n10
    · exact PySem.W.mg_none_of KI G n11
    · exact PySem.W.mg_none_of KI G n12
    · exact PySem.W.mg_none_of KI G n13
    · exact PySem.W.mg_none_of KI G n14
    · exact PySem.W.mg_none_of KI G n15
    · exact PySem.W.mg_none_of KI G n16
    · exact PySem.W.mg_none_of KI G n17
    · exact PySem.W.mg_none_of KI G n18
  cn := fun x i h => by
    unfold Cn at h
    split at h
    · rename_i e
      cases h
      subst e
      exact ⟨_, PySem.W.mg_of KI G g0⟩
    cases h
end TL

open PySem PySem.W PyProof.Rows in
set_option maxRecDepth 100000 in
set_option maxHeartbeats 0 in
theorem PySem.Challenge.cw_hollowwithin_k69_whole_unlike_lots_holds : PySem.Challenge.rw_hollowwithin_k69_whole_unlike_lots.Holds := by
  w_on; o_law; k_head; (case hw => w_witness2)
  k_fill
  refine TL.walkT (l := PySem.Challenge.rw_hollowwithin_k69_whole_unlike_lots) (fs := TL.F_law) (k := 7) rfl (by decide) rfl ⟨rfl, by decide, by decide⟩ (fun w h Y => PySem.W.kIn_of Y) rfl rfl ?F TL.law_true
  case F =>
    intro w mg fa h KI G hmg base _ _
    refine' TL.chain (TL.base_mk KI G ?n0 ?n1 ?n2 ?n3 ?n4 ?n5 ?n6 ?n7 ?n8 ?n9 ?n10 ?n11 ?n12 ?n13 ?n14 ?n15 ?n16 ?n17 ?n18 ?qG0) (TL.has_mk KI G ?a0 ?l0 ?c0 ?k0) (TL.has_mk KI G ?a1 ?l1 ?c1 ?k1) (TL.has_mk KI G ?a2 ?l2 ?c2 ?k2) (TL.has_mk KI G ?a3 ?l3 ?c3 ?k3) (TL.has_mk KI G ?a4 ?l4 ?c4 ?k4) (TL.has_mk KI G ?a5 ?l5 ?c5 ?k5) (TL.has_mk KI G ?a6 ?l6 ?c6 ?k6) (TL.has_mk KI G ?a7 ?l7 ?c7 ?k7) (TL.has_mk KI G ?a8 ?l8 ?c8 ?k8) (TL.has_mk KI G ?a9 ?l9 ?c9 ?k9) (TL.has_mk KI G ?a10 ?l10 ?c10 ?k10) (TL.has_mk KI G ?a11 ?l11 ?c11 ?k11) (TL.has_mk KI G ?a12 ?l12 ?c12 ?k12) (TL.has_mk KI G ?a13 ?l13 ?c13 ?k13) (TL.has_mk KI G ?a14 ?l14 ?c14 ?k14) (TL.has_mk KI G ?a15 ?l15 ?c15 ?k15) (TL.has_mk KI G ?a16 ?l16 ?c16 ?k16) (TL.has_mk KI G ?a17 ?l17 ?c17 ?k17) (TL.has_mk KI G ?a18 ?l18 ?c18 ?k18) (TL.has_mk KI G ?a19 ?l19 ?c19 ?k19) (TL.has_mk KI G ?a20 ?l20 ?c20 ?k20) (TL.has_mk KI G ?a21 ?l21 ?c21 ?k21) (TL.has_mk KI G ?a22 ?l22 ?c22 ?k22) (TL.has_mk KI G ?a23 ?l23 ?c23 ?k23) (TL.has_mk KI G ?a24 ?l24 ?c24 ?k24) (TL.has_mk KI G ?a25 ?l25 ?c25 ?k25) (TL.has_mk KI G ?a26 ?l26 ?c26 ?k26) (TL.has_mk KI G ?a27 ?l27 ?c27 ?k27) (TL.has_mk KI G ?a28 ?l28 ?c28 ?k28) (TL.has_mk KI G ?a29 ?l29 ?c29 ?k29) (TL.has_mk KI G ?a30 ?l30 ?c30 ?k30) (TL.has_mk KI G ?a31 ?l31 ?c31 ?k31) (TL.has_mk KI G ?a32 ?l32 ?c32 ?k32) (TL.has_mk KI G ?a33 ?l33 ?c33 ?k33) (TL.has_mk KI G ?a34 ?l34 ?c34 ?k34) (TL.has_mk KI G ?a35 ?l35 ?c35 ?k35) (TL.has_mk KI G ?a36 ?l36 ?c36 ?k36) (TL.has_mk KI G ?a37 ?l37 ?c37 ?k37)
    (case n0 => k_is)
    (case n1 => k_is)
    (case n2 => k_is)
    (case n3 => k_is)
    (case n4 => k_is)
    (case n5 => k_is)
    (case n6 => k_is)
    (case n7 => k_is)
    (case n8 => k_is)
    (case n9 => k_is)
    (case n10 => k_is)
    (case n11 => k_is)
    (case n12 => k_is)
    (case n13 => k_is)
    (case n14 => k_is)
    (case n15 => k_is)
    (case n16 => k_is)
    (case n17 => k_is)
    (case n18 => k_is)
    (case qG0 => k_is)
    (case a0 => k_is)
    (case l0 => k_is)
    (case c0 => k_is)
    (case k0 => k_is)
    (case a1 => k_is)
    (case l1 => k_is)
    (case c1 => k_is)
    (case k1 => k_is)
    (case a2 => k_is)
    (case l2 => k_is)
    (case c2 => k_is)
    (case k2 => k_is)
    (case a3 => k_is)
    (case l3 => k_is)
    (case c3 => k_is)
    (case k3 => k_is)
    (case a4 => k_is)
    (case l4 => k_is)
    (case c4 => k_is)
    (case k4 => k_is)
    (case a5 => k_is)
    (case l5 => k_is)
    (case c5 => k_is)
    (case k5 => k_is)
    (case a6 => k_is)
    (case l6 => k_is)
    (case c6 => k_is)
    (case k6 => k_is)
    (case a7 => k_is)
    (case l7 => k_is)
    (case c7 => k_is)
    (case k7 => k_is)
    (case a8 => k_is)
    (case l8 => k_is)
    (case c8 => k_is)
    (case k8 => k_is)
    (case a9 => k_is)
    (case l9 => k_is)
    (case c9 => k_is)
    (case k9 => k_is)
    (case a10 => k_is)
    (case l10 => k_is)
    (case c10 => k_is)
    (case k10 => k_is)
    (case a11 => k_is)
    (case l11 => k_is)
    (case c11 => k_is)
    (case k11 => k_is)
    (case a12 => k_is)
    (case l12 => k_is)
    (case c12 => k_is)
    (case k12 => k_is)
    (case a13 => k_is)
    (case l13 => k_is)
    (case c13 => k_is)
    (case k13 => k_is)
    (case a14 => k_is)
    (case l14 => k_is)
    (case c14 => k_is)
    (case k14 => k_is)
    (case a15 => k_is)
    (case l15 => k_is)
    (case c15 => k_is)
    (case k15 => k_is)
    (case a16 => k_is)
    (case l16 => k_is)
    (case c16 => k_is)
    (case k16 => k_is)
    (case a17 => k_is)
    (case l17 => k_is)
    (case c17 => k_is)
    (case k17 => k_is)
    (case a18 => k_is)
    (case l18 => k_is)
    (case c18 => k_is)
    (case k18 => k_is)
    (case a19 => k_is)
    (case l19 => k_is)
    (case c19 => k_is)
    (case k19 => k_is)
    (case a20 => k_is)
    (case l20 => k_is)
    (case c20 => k_is)
    (case k20 => k_is)
    (case a21 => k_is)
    (case l21 => k_is)
    (case c21 => k_is)
    (case k21 => k_is)
    (case a22 => k_is)
    (case l22 => k_is)
    (case c22 => k_is)
    (case k22 => k_is)
    (case a23 => k_is)
    (case l23 => k_is)
    (case c23 => k_is)
    (case k23 => k_is)
    (case a24 => k_is)
    (case l24 => k_is)
    (case c24 => k_is)
    (case k24 => k_is)
    (case a25 => k_is)
    (case l25 => k_is)
    (case c25 => k_is)
    (case k25 => k_is)
    (case a26 => k_is)
    (case l26 => k_is)
    (case c26 => k_is)
    (case k26 => k_is)
    (case a27 => k_is)
    (case l27 => k_is)
    (case c27 => k_is)
    (case k27 => k_is)
    (case a28 => k_is)
    (case l28 => k_is)
    (case c28 => k_is)
    (case k28 => k_is)
    (case a29 => k_is)
    (case l29 => k_is)
    (case c29 => k_is)
    (case k29 => k_is)
    (case a30 => k_is)
    (case l30 => k_is)
    (case c30 => k_is)
    (case k30 => k_is)
    (case a31 => k_is)
    (case l31 => k_is)
    (case c31 => k_is)
    (case k31 => k_is)
    (case a32 => k_is)
    (case l32 => k_is)
    (case c32 => k_is)
    (case k32 => k_is)
    (case a33 => k_is)
    (case l33 => k_is)
    (case c33 => k_is)
    (case k33 => k_is)
    (case a34 => k_is)
    (case l34 => k_is)
    (case c34 => k_is)
    (case k34 => k_is)
    (case a35 => k_is)
    (case l35 => k_is)
    (case c35 => k_is)
    (case k35 => k_is)
    (case a36 => k_is)
    (case l36 => k_is)
    (case c36 => k_is)
    (case k36 => k_is)
    (case a37 => k_is)
    (case l37 => k_is)
    (case c37 => k_is)
    (case k37 => k_is)

