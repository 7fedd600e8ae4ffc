import PyProof.Rows.All
import Wide.All
import OpenK.AllK
import Wide.FinOn
import HandS.ForMost
import HandS.ForExc
import HandS.Zip
import HandS.TupSets
import HandS.ExcField
import HandS.TryMany
import HandS.TupAny
import HandS.IsInst
import HandS.Deep
import KE.KDictCopyH
import KE.SortData
import HandS.SetBool
import HandS.ExcInit
import HandS.ExcSuper
import HandS.FStr
import KE.KExcSuper
import PySem.Challenge.RW_coresprice_k00_whole_clauses
set_option Elab.async false
set_option linter.all false
set_option maxRecDepth 100000
section
namespace Pu
open PySem PySem.Spec PyProof.Rows L2

/-! ### data without a heap -/
inductive Da where
  | non
  | bl (b : Bool)
  | int (i : Int)
  | str (x : Str)
  | tup (xs : List Da)
  | lst (xs : List Da)
  | obj (c : Addr) (ns : List Str) (xs : List Da)
  /-- the law's own script -/
  | scr (ns : List Int)

/-- whose list it is: a slot's, a pending value's -/
inductive Tg where
  | slot (i : Nat) | pend (j : Nat)
  deriving DecidableEq
/-- what is known of a slot: data for ever; a list of our own that may still be changed; the pool of draws; an exception that was caught, with its field -/
inductive Ce where
  | dat (d : Da) | own (ds : List Da) | pool | exn (fld : Str) (what : Da) | set (ds : List Da) | plv (po : List Da)
abbrev En := List (Option Ce)

def Chg : HO → Prop
  | .lst _ => True
  | .ins _ _ _ => True
  | .ext _ => True
  | _ => False
def Keep (L : Addr → Prop) (H H' : Hp) : Prop := ∀ b x, H b = some x → (L b ∨ ¬ Chg x) → H' b = some x

/-- a list at a that nobody changes any more -/
def LAt (K : PySem.W.Frag) (L : Addr → Prop) (H : Hp) (a : Addr) (xs : List V) : Prop := H a = some (.lst xs) ∧ L a
theorem LAt.sq {K L H a xs} (h : LAt K L H a xs) : SqL K H a xs := .inl (.inl h.1)
theorem LAt.mono {K L L' H H' a xs} (h : LAt K L H a xs) (k : Keep L H H') (l : ∀ b x, H b = some x → L b → L' b) : LAt K L' H' a xs := ⟨k _ _ h.1 (.inl h.2), l _ _ h.1 h.2⟩
/-- the script's list -/
def SqF (K : PySem.W.Frag) (H : Hp) (a : Addr) (xs : List V) : Prop := SqL K H a xs ∧ ∀ H' : Hp, (∀ b x, H b = some x → ¬ Chg x → H' b = some x) → SqL K H' a xs
theorem SqF.mono {K : PySem.W.Frag} {H H' : Hp} {a : Addr} {xs : List V} (h : SqF K H a xs) (k : ∀ b x, H b = some x → ¬ Chg x → H' b = some x) : SqF K H' a xs := by
  refine ⟨h.2 H' k, fun H'' k2 => h.2 H'' fun b x e n => k2 b x (k b x e n) n⟩
theorem sqT_mono {K H H' a xs} {L : Addr → Prop} (h : SqT K H a xs) (k : Keep L H H') : SqT K H' a xs := by
  rcases h with (h | ⟨o, h⟩) | h
  · exact .inl (.inl (k _ _ h (.inr fun z => z)))
  · exact .inl (.inr ⟨o, k _ _ h (.inr fun z => z)⟩)
  · exact .inr h

/-- a flat item's number; the key of a tuple of such -/
def Da.num : Da → Option Int
  | .int i => some i
  | .bl b => some (if b = true then 1 else 0)
  | _ => none
def Da.key : Da → Option (List Int)
  | .tup (d :: ds) => (d :: ds).mapM Da.num
  | _ => none
/-- the pool as a list -/
def poolD (ns : List Int) (a b c d e : Int) : List Da := [.lst (ns.map Da.int), .int a, .int b, .int c, .int d, .int e]
def PoolOk (po : List Da) : Prop := ∃ ns a b c d e, po = poolD ns a b c d e ∧ 0 ≤ a ∧ 0 ≤ c ∧ c < 2147483647 ∧ ns.length ≤ 1000
/-- the members of the set of ds -/
def SetOf (ds ms : List Da) : Prop := (ms.map Da.key).Nodup ∧ (∀ d ∈ ms, d ∈ ds) ∧ ∀ d ∈ ds, Da.key d ∈ ms.map Da.key

mutual
def Rep (K : PySem.W.Frag) (L : Addr → Prop) (H : Hp) : Da → V → Prop
  | .non, v => v = .non
  | .bl b, v => v = .bl b
  | .int i, v => v = .int i
  | .str x, v => v = .str x
  | .tup ds, v => ∃ a xs, v = .ref a ∧ SqT K H a xs ∧ ds.length ≤ sizeLine ∧ Reps K L H ds xs
  | .lst ds, v => ∃ a xs, v = .ref a ∧ LAt K L H a xs ∧ ds.length ≤ sizeLine ∧ Reps K L H ds xs
  | .obj c ns ds, v => ∃ a dx fs, v = .ref a ∧ (H a = some (.ins c dx fs) ∧ L a) ∧ fs.map (·.1) = ns ∧ Reps K L H ds (fs.map (·.2))
  | .scr ns, v => ∃ a, v = .ref a ∧ SqF K H a (ns.map V.int) ∧ ns.length ≤ 1000
def Reps (K : PySem.W.Frag) (L : Addr → Prop) (H : Hp) : List Da → List V → Prop
  | [], xs => xs = []
  | d :: ds, xs => ∃ x ys, xs = x :: ys ∧ Rep K L H d x ∧ Reps K L H ds ys
end

section
variable {K : PySem.W.Frag} {L L' : Addr → Prop} {H H' : Hp}
mutual
theorem Rep.mono (k : Keep L H H') (l : ∀ b x, H b = some x → L b → L' b) : ∀ (d : Da) (v : V), Rep K L H d v → Rep K L' H' d v
  | .non, v, h => by simpa [Rep] using h
  | .bl b, v, h => by simpa [Rep] using h
  | .int i, v, h => by simpa [Rep] using h
  | .str x, v, h => by simpa [Rep] using h
  | .tup ds, v, h => by
    simp only [Rep] at h ⊢
    obtain ⟨a, xs, e, q, z, r⟩ := h
    exact ⟨a, xs, e, sqT_mono q k, z, Reps.mono k l ds xs r⟩
  | .lst ds, v, h => by
    simp only [Rep] at h ⊢
    obtain ⟨a, xs, e, q, z, r⟩ := h
    exact ⟨a, xs, e, q.mono k l, z, Reps.mono k l ds xs r⟩
  | .obj c ns ds, v, h => by
    simp only [Rep] at h ⊢
    obtain ⟨a, dx, fs, e, q, z, r⟩ := h
    exact ⟨a, dx, fs, e, ⟨k _ _ q.1 (.inl q.2), l _ _ q.1 q.2⟩, z, Reps.mono k l ds _ r⟩
  | .scr ns, v, h => by
    simp only [Rep] at h ⊢
    obtain ⟨a, e, q, z⟩ := h
    exact ⟨a, e, q.mono fun b x e n => k b x e (.inr n), z⟩
theorem Reps.mono (k : Keep L H H') (l : ∀ b x, H b = some x → L b → L' b) : ∀ (ds : List Da) (vs : List V), Reps K L H ds vs → Reps K L' H' ds vs
  | [], vs, h => by simpa [Reps] using h
  | d :: ds, vs, h => by
    simp only [Reps] at h ⊢
    obtain ⟨x, ys, e, r, rs⟩ := h
    exact ⟨x, ys, e, Rep.mono k l d x r, Reps.mono k l ds ys rs⟩
end
theorem Reps.length : ∀ {ds : List Da} {vs : List V}, Reps K L H ds vs → vs.length = ds.length
  | [], vs, h => by simp only [Reps] at h; subst h; rfl
  | d :: ds, vs, h => by
    simp only [Reps] at h
    obtain ⟨x, ys, e, _, rs⟩ := h
    subst e
    simp [Reps.length rs]
theorem Reps.get : ∀ {ds : List Da} {vs : List V} {i : Nat} {x : V}, Reps K L H ds vs → vs[i]? = some x → ∃ d, ds[i]? = some d ∧ Rep K L H d x
  | [], vs, i, x, h, e => by simp only [Reps] at h; subst h; simp at e
  | d :: ds, vs, 0, x, h, e => by
    simp only [Reps] at h
    obtain ⟨y, ys, e1, r, _⟩ := h
    subst e1
    simp at e
    subst e
    exact ⟨d, rfl, r⟩
  | d :: ds, vs, i + 1, x, h, e => by
    simp only [Reps] at h
    obtain ⟨y, ys, e1, _, rs⟩ := h
    subst e1
    obtain ⟨d', h1, h2⟩ := Reps.get (i := i) rs (by simpa using e)
    exact ⟨d', by simpa using h1, h2⟩
theorem Reps.getD {ds : List Da} {vs : List V} {i : Nat} {d : Da} (h : Reps K L H ds vs) (e : ds[i]? = some d) : ∃ x, vs[i]? = some x ∧ Rep K L H d x := by
  have hl := h.length
  have hi : i < ds.length := (List.getElem?_eq_some_iff.mp e).1
  obtain ⟨d', h1, h2⟩ := h.get (i := i) (x := vs[i]'(by omega)) (by simp)
  rw [e] at h1
  cases h1
  exact ⟨_, by simp, h2⟩
theorem Reps.snoc : ∀ {ds : List Da} {vs : List V} {d : Da} {v : V}, Reps K L H ds vs → Rep K L H d v → Reps K L H (ds ++ [d]) (vs ++ [v])
  | [], vs, d, v, h, r => by simp only [Reps] at h; subst h; simp only [List.nil_append, Reps]; exact ⟨v, [], rfl, r, rfl⟩
  | _ :: _, vs, d, v, h, r => by
    simp only [Reps] at h
    obtain ⟨y, ys, e1, q, rs⟩ := h
    subst e1
    simp only [List.cons_append, Reps]
    exact ⟨y, ys ++ [v], rfl, q, Reps.snoc rs r⟩
theorem Reps.app : ∀ {ds es : List Da} {vs ws : List V}, Reps K L H ds vs → Reps K L H es ws → Reps K L H (ds ++ es) (vs ++ ws)
  | [], es, vs, ws, h, r => by simp only [Reps] at h; subst h; exact r
  | _ :: _, es, vs, ws, h, r => by
    simp only [Reps] at h
    obtain ⟨y, ys, e1, q, rs⟩ := h
    subst e1
    simp only [List.cons_append, Reps]
    exact ⟨y, ys ++ ws, rfl, q, Reps.app rs r⟩
theorem Reps.drop : ∀ {ds : List Da} {vs : List V} (n : Nat), Reps K L H ds vs → Reps K L H (ds.drop n) (vs.drop n)
  | ds, vs, 0, h => h
  | [], vs, n + 1, h => by simp only [Reps] at h; subst h; rfl
  | d :: ds, vs, n + 1, h => by
    simp only [Reps] at h
    obtain ⟨y, ys, e1, q, rs⟩ := h
    subst e1
    exact Reps.drop n rs
theorem Reps.take : ∀ {ds : List Da} {vs : List V} (n : Nat), Reps K L H ds vs → Reps K L H (ds.take n) (vs.take n)
  | ds, vs, 0, h => rfl
  | [], vs, n + 1, h => by simp only [Reps] at h; subst h; rfl
  | d :: ds, vs, n + 1, h => by
    simp only [Reps] at h
    obtain ⟨y, ys, e1, q, rs⟩ := h
    subst e1
    simp only [List.take_succ_cons, Reps]
    exact ⟨y, _, rfl, q, Reps.take n rs⟩
theorem Reps.set : ∀ {ds : List Da} {vs : List V} {d : Da} {v : V} (i : Nat), Reps K L H ds vs → Rep K L H d v → Reps K L H (ds.set i d) (vs.set i v)
  | [], vs, d, v, i, h, r => by simp only [Reps] at h; subst h; simp [Reps]
  | _ :: _, vs, d, v, 0, h, r => by
    simp only [Reps] at h
    obtain ⟨y, ys, e1, q, rs⟩ := h
    subst e1
    simp only [List.set_cons_zero, Reps]
    exact ⟨v, ys, rfl, r, rs⟩
  | _ :: _, vs, d, v, i + 1, h, r => by
    simp only [Reps] at h
    obtain ⟨y, ys, e1, q, rs⟩ := h
    subst e1
    simp only [List.set_cons_succ, Reps]
    exact ⟨y, _, rfl, q, Reps.set i rs r⟩
end
end Pu
end

section
namespace Pu
open PySem PySem.Spec PyProof.Rows L2

/-! ### the state of a body: its slots, what is pending, the heap -/
/-- a body's fixed things: the heap at its entry, the pools that it was handed, the lists that it was handed -/
structure Gc where
  H0 : Hp
  P0 : Addr → Prop
  La : Addr → Prop
  xa : Option (Addr × Addr) := none
  so : Addr → List (Addr × List Int) → HO := fun _ _ => .lst []

def Lof (G : Gc) (O : Addr → Option Tg) : Addr → Prop := fun a => O a = none ∧ (G.La a ∨ G.H0 a = none)

/-- a pool of draws: the script's numbers, a place, and four numbers -/
def PoolAt (K : PySem.W.Frag) (L : Addr → Prop) (H : Hp) (p : Addr) : Prop :=
  ∃ (q : Addr) (ns : List Int) (a b c d e : Int), H p = some (.lst [.ref q, .int a, .int b, .int c, .int d, .int e]) ∧ LAt K L H q (ns.map V.int) ∧ 0 ≤ a ∧ 0 ≤ c ∧ c < 2147483647 ∧ ns.length ≤ 1000

def CeOk (K : PySem.W.Frag) (G : Gc) (O : Addr → Option Tg) (H : Hp) (t : Tg) (v : V) : Ce → Prop
  | .dat d => Rep K (Lof G O) H d v
  | .own ds => ∃ p xs, v = .ref p ∧ O p = some t ∧ H p = some (.lst xs) ∧ ds.length ≤ sizeLine ∧ Reps K (Lof G O) H ds xs ∧ ¬ G.P0 p
  | .pool => ∃ p, v = .ref p ∧ O p = some t ∧ PoolAt K (Lof G O) H p
  | .set ds => ∃ (p : Addr) (bs : List (Addr × List Int × Da)), v = .ref p ∧ O p = some t ∧ H p = some (G.so p (bs.map fun b => (b.1, b.2.1))) ∧ ¬ G.P0 p ∧ bs.length ≤ ds.length ∧ SetOf ds (bs.map (·.2.2)) ∧ ∀ b ∈ bs, Rep K (Lof G O) H b.2.2 (.ref b.1) ∧ Da.key b.2.2 = some b.2.1
  | .plv po => ∃ p xs, v = .ref p ∧ O p = some t ∧ H p = some (.lst xs) ∧ Reps K (Lof G O) H po xs ∧ PoolOk po
  | .exn fld what => ∃ a d y, v = .ref a ∧ G.xa = some (a, d) ∧ H d = some (.xd [(fld, y)]) ∧ Rep K (Lof G O) H what y

abbrev Pend := List (V × Ce)
def PeOk (K : PySem.W.Frag) (G : Gc) (O : Addr → Option Tg) (H : Hp) : Pend → Prop
  | [] => True
  | (v, c) :: r => CeOk K G O H (.pend r.length) v c ∧ PeOk K G O H r

structure StO (K : PySem.W.Frag) (G : Gc) (O : Addr → Option Tg) (σ : L2.St) (ρ : En) (pe : Pend) (H : Hp) : Prop where
  frame : ∀ b x, G.H0 b = some x → ¬ G.P0 b → H b = some x ∧ O b = none
  own : ∀ p t, O p = some t → ∃ x, H p = some x ∧ Chg x
  pools : ∀ p, G.P0 p → PoolAt K (Lof G O) H p ∧ ¬ G.La p ∧ (G.H0 p).isSome
  len : ρ.length = σ.length
  slots : ∀ (i : Nat) c, ρ[i]? = some (some c) → ∃ v, σ[i]? = some (some v) ∧ CeOk K G O H (.slot i) v c
  pends : PeOk K G O H pe
def Sd (K : PySem.W.Frag) (G : Gc) (σ : L2.St) (ρ : En) (pe : Pend) (H : Hp) : Prop := ∃ O, StO K G O σ ρ pe H

section
variable {K : PySem.W.Frag} {G : Gc} {O O' : Addr → Option Tg} {σ σ' : L2.St} {ρ ρ' : En} {pe pe' : Pend} {H H' : Hp} {t : Tg} {v : V} {c : Ce}

theorem PoolAt.mono {L L' : Addr → Prop} {p : Addr} (h : PoolAt K L H p) (k : Keep L H H') (l : ∀ b x, H b = some x → L b → L' b) (hp : H' p = H p) : PoolAt K L' H' p := by
  obtain ⟨q, ns, a, b, c, d, e, h1, h2, r⟩ := h
  exact ⟨q, ns, a, b, c, d, e, hp.trans h1, h2.mono k l, r⟩
/-- a cell stays: what is for ever stays, and its own list, if it has one, stands with its tag -/
theorem CeOk.mono (h : CeOk K G O H t v c) (k : Keep (Lof G O) H H') (l : ∀ b x, H b = some x → Lof G O b → Lof G O' b)
    (o : ∀ p, O p = some t → H' p = H p ∧ O' p = some t) : CeOk K G O' H' t v c := by
  cases c with
  | dat d => exact Rep.mono k l d v h
  | own ds =>
    obtain ⟨p, xs, e, ot, hp, z, r, n⟩ := h
    obtain ⟨o1, o2⟩ := o p ot
    exact ⟨p, xs, e, o2, o1.trans hp, z, Reps.mono k l _ _ r, n⟩
  | pool =>
    obtain ⟨p, e, ot, hp⟩ := h
    obtain ⟨o1, o2⟩ := o p ot
    exact ⟨p, e, o2, hp.mono k l o1⟩
  | set ds =>
    obtain ⟨p, bs, e, ot, hp, np, z, so, r⟩ := h
    obtain ⟨o1, o2⟩ := o p ot
    exact ⟨p, bs, e, o2, o1.trans hp, np, z, so, fun b hb => ⟨Rep.mono k l _ _ (r b hb).1, (r b hb).2⟩⟩
  | plv po =>
    obtain ⟨p, xs, e, ot, hp, r, ok⟩ := h
    obtain ⟨o1, o2⟩ := o p ot
    exact ⟨p, xs, e, o2, o1.trans hp, Reps.mono k l _ _ r, ok⟩
  | exn fld what =>
    obtain ⟨a, d, y, e, g, h1, r⟩ := h
    exact ⟨a, d, y, e, g, k _ _ h1 (.inr fun z => z), Rep.mono k l _ _ r⟩
theorem PeOk.mono : ∀ {pe : Pend}, PeOk K G O H pe → Keep (Lof G O) H H' → (∀ b x, H b = some x → Lof G O b → Lof G O' b) →
    (∀ j, j < pe.length → ∀ p, O p = some (.pend j) → H' p = H p ∧ O' p = some (.pend j)) → PeOk K G O' H' pe
  | [], _, _, _, _ => trivial
  | (v, c) :: r, h, k, l, o => ⟨h.1.mono k l (fun p hp => o r.length (by simp) p hp), PeOk.mono h.2 k l (fun j hj p hp => o j (by simp only [List.length_cons]; omega) p hp)⟩
/-- what is new stays apart -/
theorem StO.notO (S : StO K G O σ ρ pe H) {p : Addr} (h : H p = none) : O p = none := by
  cases q : O p with
  | none => rfl
  | some t =>
    obtain ⟨x, e, _⟩ := S.own p t q
    rw [h] at e
    cases e
theorem StO.noH0 (S : StO K G O σ ρ pe H) {p : Addr} (h : H p = none) : G.H0 p = none := by
  cases q : G.H0 p with
  | none => rfl
  | some x =>
    by_cases hp : G.P0 p
    · obtain ⟨⟨_, _, _, _, _, _, _, e, _⟩, _⟩ := S.pools p hp
      rw [h] at e
      cases e
    · have e := (S.frame p x q hp).1
      rw [h] at e
      cases e
theorem StO.fresh (S : StO K G O σ ρ pe H) {p : Addr} (h : H p = none) : Lof G O p := ⟨S.notO h, .inr (S.noH0 h)⟩
/-- the heap changed, nothing of ours: all that is for ever, and all own lists, stand -/
theorem StO.heap (S : StO K G O σ ρ pe H) (k : ∀ b x, H b = some x → H' b = some x) : StO K G O σ ρ pe H' where
  frame := fun b x e n => ⟨k _ _ (S.frame b x e n).1, (S.frame b x e n).2⟩
  own := fun p t e => by
    obtain ⟨x, h, z⟩ := S.own p t e
    exact ⟨x, k _ _ h, z⟩
  pools := fun p hp => by
    obtain ⟨h, n⟩ := S.pools p hp
    refine ⟨h.mono (fun b x e _ => k b x e) (fun _ _ _ z => z) ?_, n⟩
    obtain ⟨_, _, _, _, _, _, _, e, _⟩ := h
    rw [e]
    exact k _ _ e
  len := S.len
  slots := fun i c e => by
    obtain ⟨v, h1, h2⟩ := S.slots i c e
    refine ⟨v, h1, h2.mono (fun b x e _ => k b x e) (fun _ _ _ z => z) (fun p e => ⟨?_, e⟩)⟩
    obtain ⟨x, h, _⟩ := S.own p _ e
    rw [h]
    exact k _ _ h
  pends := S.pends.mono (fun b x e _ => k b x e) (fun _ _ _ z => z) (fun j _ p e => ⟨by
    obtain ⟨x, h, _⟩ := S.own p _ e
    rw [h]
    exact k _ _ h, e⟩)
theorem keep_upd {p : Addr} {o : HO} (h : H p = none) : ∀ b x, H b = some x → upd H p o b = some x := fun b x e => by
  rw [upd_ne (ne_of_none e h)]
  exact e
theorem StO.alloc (S : StO K G O σ ρ pe H) {p : Addr} {o : HO} (h : H p = none) : StO K G O σ ρ pe (upd H p o) := S.heap (keep_upd h)
/-- a value more is pending -/
theorem StO.push (S : StO K G O σ ρ pe H) (h : CeOk K G O H (.pend pe.length) v c) : StO K G O σ ρ ((v, c) :: pe) H :=
  ⟨S.frame, S.own, S.pools, S.len, S.slots, ⟨h, S.pends⟩⟩
theorem StO.pushD {d : Da} (S : StO K G O σ ρ pe H) (h : Rep K (Lof G O) H d v) : StO K G O σ ρ ((v, .dat d) :: pe) H := S.push h
theorem StO.top {d : Da} (S : StO K G O σ ρ ((v, .dat d) :: pe) H) : Rep K (Lof G O) H d v := S.pends.1
theorem StO.pop (S : StO K G O σ ρ ((v, c) :: pe) H) : StO K G O σ ρ pe H := ⟨S.frame, S.own, S.pools, S.len, S.slots, S.pends.2⟩
theorem Sd.pop (S : Sd K G σ ρ ((v, c) :: pe) H) : Sd K G σ ρ pe H := let ⟨O, S⟩ := S; ⟨O, S.pop⟩
/-- the tag t is given up -/
def clr (O : Addr → Option Tg) (t : Tg) : Addr → Option Tg := fun a => if O a = some t then none else O a
theorem clr_none {a : Addr} (h : O a = none) : clr O t a = none := by
  unfold clr
  rw [h]
  simp
theorem clr_ne {a : Addr} {u : Tg} (h : O a = some u) (n : u ≠ t) : clr O t a = some u := by
  unfold clr
  rw [h, if_neg]
  intro e
  exact n (Option.some.inj e)
theorem of_clr {a : Addr} {u : Tg} (h : clr O t a = some u) : O a = some u ∧ u ≠ t := by
  unfold clr at h
  by_cases e : O a = some t
  · rw [if_pos e] at h
    cases h
  · rw [if_neg e] at h
    exact ⟨h, fun q => e (q ▸ h)⟩
theorem clr_same {a : Addr} (h : O a = some t) : clr O t a = none := by
  unfold clr
  rw [if_pos h]
theorem lof_clr {a : Addr} (h : Lof G O a) : Lof G (clr O t) a := ⟨clr_none h.1, h.2⟩
/-- an own list becomes data -/
theorem StO.freeze {ds : List Da} (S : StO K G O σ ρ ((v, .own ds) :: pe) H) : StO K G (clr O (.pend pe.length)) σ ρ ((v, .dat (.lst ds)) :: pe) H := by
  obtain ⟨p, xs, e, ot, hp, z, r, n⟩ := S.pends.1
  have hk : Keep (Lof G O) H H := fun _ _ e _ => e
  have hl : ∀ b x, H b = some x → Lof G O b → Lof G (clr O (.pend pe.length)) b := fun _ _ _ h => lof_clr h
  have hP : ∀ q, O q = some (.pend pe.length) → ¬ G.P0 q → G.H0 q = none := fun q hq n => by
    cases w : G.H0 q with
    | none => rfl
    | some x =>
      have := (S.frame q x w n).2
      rw [hq] at this
      cases this
  refine ⟨fun b x e n => ⟨(S.frame b x e n).1, clr_none (S.frame b x e n).2⟩, fun q t h => S.own q t (of_clr h).1, fun q hq => ⟨(S.pools q hq).1.mono hk hl rfl, (S.pools q hq).2⟩, S.len, fun i c h => ?_, ?_, ?_⟩
  · obtain ⟨w, h1, h2⟩ := S.slots i c h
    exact ⟨w, h1, h2.mono hk hl (fun q e => ⟨rfl, clr_ne e (fun z => by cases z)⟩)⟩
  · show Rep K _ H (.lst ds) v
    simp only [Rep]
    refine ⟨p, xs, e, ⟨hp, clr_same ot, ?_⟩, z, Reps.mono hk hl _ _ r⟩
    exact .inr (hP p ot n)
  · exact S.pends.2.mono hk hl (fun j hj q e => ⟨rfl, clr_ne e (fun z => by
      cases z
      omega)⟩)

/-! ### storing -/
theorem getset {α : Type} {l : List α} {i j : Nat} {x y : α} (h : (l.set i x)[j]? = some y) : (i = j ∧ y = x ∧ i < l.length) ∨ (i ≠ j ∧ l[j]? = some y) := by
  by_cases e : i = j
  · subst e
    by_cases hi : i < l.length
    · rw [List.getElem?_set_self hi] at h
      exact .inl ⟨rfl, (Option.some.inj h).symm, hi⟩
    · rw [List.getElem?_eq_none (by simpa using hi)] at h
      cases h
  · rw [List.getElem?_set_ne e] at h
    exact .inr ⟨e, h⟩
/-- a slot is forgotten -/
theorem StO.forget (S : StO K G O σ ρ pe H) (i : Nat) (x : Option V) : StO K G (clr O (.slot i)) (σ.set i x) (ρ.set i none) pe H := by
  have hk : Keep (Lof G O) H H := fun _ _ e _ => e
  have hl : ∀ b x, H b = some x → Lof G O b → Lof G (clr O (.slot i)) b := fun _ _ _ h => lof_clr h
  refine ⟨fun b x e n => ⟨(S.frame b x e n).1, clr_none (S.frame b x e n).2⟩, fun q t h => S.own q t (of_clr h).1, fun q hq => ⟨(S.pools q hq).1.mono hk hl rfl, (S.pools q hq).2⟩, by simp [S.len], fun j c h => ?_, ?_⟩
  · rcases getset h with ⟨_, e, _⟩ | ⟨n, h⟩
    · cases e
    · obtain ⟨w, h1, h2⟩ := S.slots j c h
      exact ⟨w, by rw [List.getElem?_set_ne n]; exact h1, h2.mono hk hl (fun q e => ⟨rfl, clr_ne e (fun z => by cases z; exact n rfl)⟩)⟩
  · exact S.pends.mono hk hl (fun j hj q e => ⟨rfl, clr_ne e (fun z => by cases z)⟩)
/-- what is pending is stored -/
theorem StO.store {d : Da} (S : StO K G O σ ρ ((v, .dat d) :: pe) H) (i : Nat) : StO K G (clr O (.slot i)) (σ.set i (some v)) (ρ.set i (some (.dat d))) pe H := by
  have F := S.pop.forget i (some v)
  have hk : Keep (Lof G O) H H := fun _ _ e _ => e
  have hl : ∀ b x, H b = some x → Lof G O b → Lof G (clr O (.slot i)) b := fun _ _ _ h => lof_clr h
  refine ⟨F.frame, F.own, F.pools, by simpa using F.len, fun j c h => ?_, F.pends⟩
  rcases getset h with ⟨e1, e2, hi⟩ | ⟨n, h⟩
  · subst e1
    cases e2
    exact ⟨v, List.getElem?_set_self (by have := S.len; omega), Rep.mono hk hl _ _ S.top⟩
  · exact F.slots j c (by rw [List.getElem?_set_ne n]; exact h)
/-- the tag t becomes u -/
def ren (O : Addr → Option Tg) (t u : Tg) : Addr → Option Tg := fun a => if O a = some t then some u else clr O u a
/-- a list of our own is stored -/
theorem StO.storeOwn {ds : List Da} (S : StO K G O σ ρ ((v, .own ds) :: pe) H) (i : Nat) : StO K G (ren O (.pend pe.length) (.slot i)) (σ.set i (some v)) (ρ.set i (some (.own ds))) pe H := by
  obtain ⟨p, xs, e, ot, hp, z, r, np⟩ := S.pends.1
  have hk : Keep (Lof G O) H H := fun _ _ e _ => e
  have rn : ∀ {a}, O a = none → ren O (.pend pe.length) (.slot i) a = none := fun {a} h => by
    unfold ren
    rw [h, if_neg (by simp)]
    exact clr_none h
  have rk : ∀ {a u}, O a = some u → u ≠ .pend pe.length → u ≠ .slot i → ren O (.pend pe.length) (.slot i) a = some u := fun {a u} h n m => by
    unfold ren
    rw [h, if_neg (fun q => n (Option.some.inj q))]
    exact clr_ne h m
  have ro : ∀ {a u}, ren O (.pend pe.length) (.slot i) a = some u → ∃ t, O a = some t := fun {a u} h => by
    unfold ren at h
    by_cases q : O a = some (.pend pe.length)
    · exact ⟨_, q⟩
    · rw [if_neg q] at h
      exact ⟨_, (of_clr h).1⟩
  have hl : ∀ b x, H b = some x → Lof G O b → Lof G (ren O (.pend pe.length) (.slot i)) b := fun _ _ _ h => ⟨rn h.1, h.2⟩
  refine ⟨fun b x e n => ⟨(S.frame b x e n).1, rn (S.frame b x e n).2⟩, fun q t h => ?_, fun q hq => ⟨(S.pools q hq).1.mono hk hl rfl, (S.pools q hq).2⟩, by simp [S.len], fun j c h => ?_, ?_⟩
  · obtain ⟨t', h'⟩ := ro h
    exact S.own q t' h'
  · rcases getset h with ⟨e1, e2, hi⟩ | ⟨n, h⟩
    · subst e1
      cases e2
      exact ⟨v, List.getElem?_set_self (by have := S.len; omega), p, xs, e, by unfold ren; rw [if_pos ot], hp, z, Reps.mono hk hl _ _ r, np⟩
    · obtain ⟨w, h1, h2⟩ := S.slots j c h
      exact ⟨w, by rw [List.getElem?_set_ne n]; exact h1, h2.mono hk hl (fun q e => ⟨rfl, rk e (fun z => by cases z) (fun z => by cases z; exact n rfl)⟩)⟩
  · exact S.pends.2.mono hk hl (fun j hj q e => ⟨rfl, rk e (fun z => by cases z; omega) (fun z => by cases z)⟩)
/-- slot i's own list as data -/
theorem StO.freezeSlot {ds : List Da} {i : Nat} (S : StO K G O σ ρ pe H) (h : ρ[i]? = some (some (.own ds))) : StO K G (clr O (.slot i)) σ (ρ.set i (some (.dat (.lst ds)))) pe H := by
  obtain ⟨v, hv, p, xs, e, ot, hp, z, r, np⟩ := S.slots i _ h
  have hk : Keep (Lof G O) H H := fun _ _ e _ => e
  have hl : ∀ b x, H b = some x → Lof G O b → Lof G (clr O (.slot i)) b := fun _ _ _ h => lof_clr h
  have h0 : G.H0 p = none := by
    cases w : G.H0 p with
    | none => rfl
    | some x =>
      have := (S.frame p x w np).2
      rw [ot] at this
      cases this
  refine ⟨fun b x e n => ⟨(S.frame b x e n).1, clr_none (S.frame b x e n).2⟩, fun q t h => S.own q t (of_clr h).1, fun q hq => ⟨(S.pools q hq).1.mono hk hl rfl, (S.pools q hq).2⟩, by simp [S.len], fun j c h => ?_, ?_⟩
  · rcases getset h with ⟨e1, e2, _⟩ | ⟨n, h⟩
    · subst e1
      cases e2
      refine ⟨v, hv, ?_⟩
      show Rep K _ H (.lst ds) v
      simp only [Rep]
      exact ⟨p, xs, e, ⟨hp, clr_same ot, .inr h0⟩, z, Reps.mono hk hl _ _ r⟩
    · obtain ⟨w, h1, h2⟩ := S.slots j c h
      exact ⟨w, h1, h2.mono hk hl (fun q e => ⟨rfl, clr_ne e (fun z => by cases z; exact n rfl)⟩)⟩
  · exact S.pends.mono hk hl (fun j hj q e => ⟨rfl, clr_ne e (fun z => by cases z)⟩)
/-- slot i's own list is changed -/
theorem StO.change {ds es : List Da} {i : Nat} {p : Addr} {xs ys : List V} (S : StO K G O σ ρ pe H) (h : ρ[i]? = some (some (.own ds))) (hv : σ[i]? = some (some (.ref p))) (hp : O p = some (.slot i))
    (z : es.length ≤ sizeLine) (r : Reps K (Lof G O) H es ys) : StO K G O σ (ρ.set i (some (.own es))) pe (upd H p (.lst ys)) := by
  obtain ⟨v, hv', p', xs', e, ot, hp', z', r', np⟩ := S.slots i _ h
  rw [hv] at hv'
  cases hv'
  cases e
  have hk : Keep (Lof G O) H (upd H p (.lst ys)) := fun b x e k => by
    rw [upd_ne]
    · exact e
    · rintro rfl
      rcases k with k | k
      · have k1 := k.1
        rw [hp] at k1
        cases k1
      · rw [hp'] at e
        cases e
        exact k trivial
  have hl : ∀ b x, H b = some x → Lof G O b → Lof G O b := fun _ _ _ h => h
  refine ⟨fun b x e n => ⟨?_, (S.frame b x e n).2⟩, fun q t h => ?_, fun q hq => ⟨(S.pools q hq).1.mono hk hl ?_, (S.pools q hq).2⟩, by simp [S.len], fun j c h => ?_, ?_⟩
  · rw [upd_ne]
    · exact (S.frame b x e n).1
    · rintro rfl
      rw [(S.frame b x e n).2] at hp
      cases hp
  · by_cases e : q = p
    · subst e
      exact ⟨_, upd_same, trivial⟩
    · rw [upd_ne e]
      exact S.own q t h
  · exact upd_ne (fun e => np (e ▸ hq))
  · rcases getset h with ⟨e1, e2, _⟩ | ⟨n, h⟩
    · subst e1
      cases e2
      exact ⟨_, hv, p, ys, rfl, hp, upd_same, z, Reps.mono hk hl _ _ r, np⟩
    · obtain ⟨w, h1, h2⟩ := S.slots j c h
      exact ⟨w, h1, h2.mono hk hl (fun q e => ⟨upd_ne (fun q' => by
        rw [q', hp] at e
        cases e
        exact n rfl), e⟩)⟩
  · exact S.pends.mono hk hl (fun j hj q e => ⟨upd_ne (fun q' => by
      rw [q', hp] at e
      cases e), e⟩)
end
end Pu
end

section
namespace Pu
open PySem PySem.Spec PyProof.Rows L2

/-! ### what is wanted behind a piece of code, said of data alone -/
/-- an exception: its class's name, its one field's name and value -/
structure Ex where
  name : Str
  fld : Str
  what : Da
structure W (α : Type) where
  wp : En → (α → En → Prop) → (Ex → En → Prop) → Prop
  mono : ∀ {ρ : En} {k k' : α → En → Prop} {x x' : Ex → En → Prop}, (∀ a ρ, k a ρ → k' a ρ) → (∀ e ρ, x e ρ → x' e ρ) → wp ρ k x → wp ρ k' x'
namespace W
variable {α β γ : Type}
def ret (a : α) : W α := ⟨fun ρ k _ => k a ρ, fun hk _ h => hk _ _ h⟩
def bind (m : W α) (f : α → W β) : W β := ⟨fun ρ k x => m.wp ρ (fun a ρ1 => (f a).wp ρ1 k x) x, fun hk hx h => m.mono (fun a ρ1 q => (f a).mono hk hx q) hx h⟩
def fail : W α := ⟨fun _ _ _ => False, fun _ _ h => h⟩
def opt : Option α → W α
  | some a => ret a
  | none => fail
/-- a wish of the code's own -/
def req (p : Prop) : W Unit := ⟨fun ρ k _ => p ∧ k () ρ, fun hk _ h => ⟨h.1, hk _ _ h.2⟩⟩
/-- any value of some kind -/
def any (p : α → Prop) : W α := ⟨fun ρ k _ => ∀ a, p a → k a ρ, fun hk _ h a pa => hk _ _ (h a pa)⟩
def env : W En := ⟨fun ρ k _ => k ρ ρ, fun hk _ h => hk _ _ h⟩
def put (ρ' : En) : W Unit := ⟨fun _ k _ => k () ρ', fun hk _ h => hk _ _ h⟩
def ite (b : Bool) (m n : W α) : W α := if b then m else n
@[simp] theorem ret_wp (a : α) (ρ : En) (k : α → En → Prop) (x : Ex → En → Prop) : (ret a).wp ρ k x = k a ρ := rfl
@[simp] theorem bind_wp (m : W α) (f : α → W β) (ρ : En) (k : β → En → Prop) (x : Ex → En → Prop) : (bind m f).wp ρ k x = m.wp ρ (fun a ρ1 => (f a).wp ρ1 k x) x := rfl
@[simp] theorem fail_wp (ρ : En) (k : α → En → Prop) (x : Ex → En → Prop) : (fail : W α).wp ρ k x = False := rfl
@[simp] theorem opt_some (a : α) : opt (some a) = ret a := rfl
@[simp] theorem opt_none : opt (none : Option α) = fail := rfl
@[simp] theorem req_wp (p : Prop) (ρ : En) (k : Unit → En → Prop) (x : Ex → En → Prop) : (req p).wp ρ k x = (p ∧ k () ρ) := rfl
@[simp] theorem any_wp (p : α → Prop) (ρ : En) (k : α → En → Prop) (x : Ex → En → Prop) : (any p).wp ρ k x = ∀ a, p a → k a ρ := rfl
@[simp] theorem env_wp (ρ : En) (k : En → En → Prop) (x : Ex → En → Prop) : env.wp ρ k x = k ρ ρ := rfl
@[simp] theorem put_wp (ρ ρ' : En) (k : Unit → En → Prop) (x : Ex → En → Prop) : (put ρ').wp ρ k x = k () ρ' := rfl
theorem opt_wp {o : Option α} {ρ : En} {k : α → En → Prop} {x : Ex → En → Prop} (h : (opt o).wp ρ k x) : ∃ a, o = some a ∧ k a ρ := by
  cases o with
  | none => exact h.elim
  | some a => exact ⟨a, rfl, h⟩
end W

/-- nothing is raised -/
abbrev noEx : Ex → En → Prop := fun _ _ => False

section
variable (K : PySem.W.Frag) (G : Gc) (x : Ex → En → Prop)
/-- the readings -/
def tp (m : W Da) : TE := fun σ H Q => ∃ ρ pe, Sd K G σ ρ pe H ∧ m.wp ρ (fun d ρ' => ∀ v H', Sd K G σ ρ' ((v, .dat d) :: pe) H' → Q v H') x
def tow (m : W (List Da)) : TE := fun σ H Q => ∃ ρ pe, Sd K G σ ρ pe H ∧ m.wp ρ (fun ds ρ' => ∀ v H', Sd K G σ ρ' ((v, .own ds) :: pe) H' → Q v H') x
def ttt (m : W Bool) : TT := fun σ H Q => ∃ ρ pe, Sd K G σ ρ pe H ∧ m.wp ρ (fun b ρ' => ∀ H', Sd K G σ ρ' pe H' → Q b H') x
def pushAll : List V → List Da → Pend → Pend
  | v :: vs, d :: ds, pe => pushAll vs ds ((v, .dat d) :: pe)
  | _, _, pe => pe
def tar (m : W (List Da)) : TA := fun σ H Q => ∃ ρ pe, Sd K G σ ρ pe H ∧ m.wp ρ (fun ds ρ' => ∀ vs H', vs.length = ds.length → Sd K G σ ρ' (pushAll vs ds pe) H' → Q vs H') x
end

section
variable {X : Cx} {G : Gc} {x : Ex → En → Prop}
theorem _root_.L2.PE.of {e : Expr} {t t' : TE} (h : PE X e t) (w : ∀ σ H Q, t' σ H Q → t σ H Q) : PE X e t' := ⟨fun pins s σ H Q I q => h.run pins s σ H Q I (w σ H Q q)⟩
theorem _root_.L2.PT.of {e : Expr} {t t' : TT} (h : PT X e t) (w : ∀ σ H Q, t' σ H Q → t σ H Q) : PT X e t' := ⟨fun pins s σ H Q I q => h.run pins s σ H Q I (w σ H Q q)⟩
theorem _root_.L2.PA.of {es : List Expr} {t t' : TA} (h : PA X es t) (w : ∀ σ H Q, t' σ H Q → t σ H Q) : PA X es t' := ⟨fun pos pins s σ H Q I q => h.run pos pins s σ H Q I (w σ H Q q)⟩
theorem _root_.L2.PS.of {st : Stmt} {t t' : TS} (h : PS X st t) (w : ∀ D σ H, t' D σ H → t D σ H) : PS X st t' := ⟨fun pins s σ H D I q => h.run pins s σ H D I (w D σ H q)⟩
theorem _root_.L2.PSs.of {st : List Stmt} {t t' : TS} (h : PSs X st t) (w : ∀ D σ H, t' D σ H → t D σ H) : PSs X st t' := ⟨fun pins s σ H D I q => h.run pins s σ H D I (w D σ H q)⟩

/-! ### names and constants -/
def look (ρ : En) (i : Nat) : Option Da := match ρ[i]? with
  | some (some (.dat d)) => some d
  | _ => none
def lookOwn (ρ : En) (i : Nat) : Option (List Da) := match ρ[i]? with
  | some (some (.own ds)) => some ds
  | _ => none
theorem of_look {ρ : En} {i : Nat} {d : Da} (h : look ρ i = some d) : ρ[i]? = some (some (.dat d)) := by
  unfold look at h
  split at h
  · cases h; assumption
  · cases h
theorem of_lookOwn {ρ : En} {i : Nat} {ds : List Da} (h : lookOwn ρ i = some ds) : ρ[i]? = some (some (.own ds)) := by
  unfold lookOwn at h
  split at h
  · cases h; assumption
  · cases h
def eVar (i : Nat) : W Da := W.env.bind fun ρ => W.opt (look ρ i)
def eC (d : Da) : W Da := W.ret d
theorem p_var {e : Expr} (i : Nat) (h : PE X e (tVar i)) : PE X e (tp X.K G x (eVar i)) := h.of fun σ H Q ⟨ρ, pe, ⟨O, S⟩, q⟩ => by
  obtain ⟨d, e, q⟩ := W.opt_wp q
  obtain ⟨v, hv, r⟩ := S.slots i _ (of_look e)
  exact ⟨v, hv, q v H ⟨O, S.push r⟩⟩
theorem p_const {e : Expr} {v : V} {d : Da} (h : PE X e (tC v)) (r : ∀ K L H, Rep K L H d v) : PE X e (tp X.K G x (eC d)) := h.of fun σ H Q ⟨ρ, pe, ⟨O, S⟩, q⟩ => q v H ⟨O, S.push (r _ _ _)⟩
theorem p_int {i j pos} : PE X (.Constant (.int i) j pos) (tp X.K G x (eC (.int i))) := p_const pe_int fun _ _ _ => by simp [Rep]
theorem p_bl {b j pos} : PE X (.Constant (.bool b) j pos) (tp X.K G x (eC (.bl b))) := p_const pe_bl fun _ _ _ => by simp [Rep]
theorem p_non {j pos} : PE X (.Constant .none j pos) (tp X.K G x (eC .non)) := p_const pe_non fun _ _ _ => by simp [Rep]
theorem p_str {s j pos} : PE X (.Constant (.str s) j pos) (tp X.K G x (eC (.str s))) := p_const pe_str fun _ _ _ => by simp [Rep]

/-! ### operations by values -/
/-- a two-place operation that at most lays new objects -/
def Op2 (K : PySem.W.Frag) (r : R2) (f : Da → Da → Option Da) : Prop := ∀ (L : Addr → Prop) (H : Hp) (dx dy d : Da) (a b : V) (Q : VK), Rep K L H dx a → Rep K L H dy b → f dx dy = some d →
  (∀ v H', (∀ c u, H c = some u → H' c = some u) → Rep K (fun c => L c ∨ H c = none) H' d v → Q v H') → r a b H Q
def Op1 (K : PySem.W.Frag) (r : V → Hp → VK → Prop) (f : Da → Option Da) : Prop := ∀ (L : Addr → Prop) (H : Hp) (dx d : Da) (a : V) (Q : VK), Rep K L H dx a → f dx = some d →
  (∀ v H', (∀ c u, H c = some u → H' c = some u) → Rep K (fun c => L c ∨ H c = none) H' d v → Q v H') → r a H Q
def OpN (K : PySem.W.Frag) (r : List V → Hp → VK → Prop) (f : List Da → Option Da) : Prop := ∀ (L : Addr → Prop) (H : Hp) (ds : List Da) (d : Da) (vs : List V) (Q : VK), Reps K L H ds vs → f ds = some d →
  (∀ v H', (∀ c u, H c = some u → H' c = some u) → Rep K (fun c => L c ∨ H c = none) H' d v → Q v H') → r vs H Q
def eOp2 (f : Da → Da → Option Da) (a b : W Da) : W Da := a.bind fun d => b.bind fun e => W.opt (f d e)
def eOp1 (f : Da → Option Da) (a : W Da) : W Da := a.bind fun d => W.opt (f d)
def eOpN (f : List Da → Option Da) (a : W (List Da)) : W Da := a.bind fun d => W.opt (f d)

theorem StO.result {K : PySem.W.Frag} {O : Addr → Option Tg} {σ : L2.St} {ρ : En} {pe : Pend} {H H' : Hp} {d : Da} {v : V} (S : StO K G O σ ρ pe H) (k : ∀ c u, H c = some u → H' c = some u)
    (r : Rep K (fun c => Lof G O c ∨ H c = none) H' d v) : StO K G O σ ρ ((v, .dat d) :: pe) H' :=
  (S.heap k).push (Rep.mono (fun _ _ e _ => e) (fun b _ _ z => z.elim id fun z => S.fresh z) _ _ r)

theorem tp2 {r : R2} {f : Da → Da → Option Da} {ma mb : W Da} (h : Op2 X.K r f) {σ : L2.St} {H : Hp} {Q : VK} (q : tp X.K G x (eOp2 f ma mb) σ H Q) : tOp r (tp X.K G x ma) (tp X.K G x mb) σ H Q := by
  obtain ⟨ρ, pe, S, q⟩ := q
  refine ⟨ρ, pe, S, ma.mono (fun d ρ1 q v H1 S1 => ⟨ρ1, _, S1, mb.mono (fun e ρ2 q w H2 S2 => ?_) (fun _ _ z => z) q⟩) (fun _ _ z => z) q⟩
  obtain ⟨u, e, q⟩ := W.opt_wp q
  obtain ⟨O, S2⟩ := S2
  exact h (Lof G O) H2 _ _ _ v w Q S2.pop.top S2.top e fun v' H' k r => q v' H' ⟨O, S2.pop.pop.result k r⟩
theorem p_op {op : Operator} {r : R2} {f : Da → Da → Option Da} {a b : Expr} {pos : Pos} {ma mb : W Da} (ho : OpR X (binaryOp op) r) (h : Op2 X.K r f) (ha : PE X a (tp X.K G x ma)) (hb : PE X b (tp X.K G x mb)) :
    PE X (.BinOp a op b pos) (tp X.K G x (eOp2 f ma mb)) := (pe_op ho ha hb).of fun _ _ _ q => tp2 h q
theorem p_cmp {op : CmpOp} {r : R2} {f : Da → Da → Option Da} {a b : Expr} {pos : Pos} {ma mb : W Da} (ho : OpR X (compareOp op) r) (h : Op2 X.K r f) (ha : PE X a (tp X.K G x ma)) (hb : PE X b (tp X.K G x mb)) (hm : behindInMarks op b = false) :
    PE X (.Compare a [op] [b] pos) (tp X.K G x (eOp2 f ma mb)) := (pe_cmpR ho ha hb hm).of fun _ _ _ q => tp2 h q
theorem tp1 {r : V → Hp → VK → Prop} {f : Da → Option Da} {ma : W Da} (h : Op1 X.K r f) {σ : L2.St} {H : Hp} {Q : VK} (q : tp X.K G x (eOp1 f ma) σ H Q) : tUn r (tp X.K G x ma) σ H Q := by
  obtain ⟨ρ, pe, S, q⟩ := q
  refine ⟨ρ, pe, S, ma.mono (fun d ρ1 q v H1 S1 => ?_) (fun _ _ z => z) q⟩
  obtain ⟨u, e, q⟩ := W.opt_wp q
  obtain ⟨O, S1⟩ := S1
  exact h (Lof G O) H1 _ _ v Q S1.top e fun v' H' k r => q v' H' ⟨O, S1.pop.result k r⟩
theorem p_un {op : UnaryOp} {r : V → Hp → VK → Prop} {f : Da → Option Da} {a : Expr} {pos : Pos} {ma : W Da} (ho : UnR X (unaryOp op) r) (h : Op1 X.K r f) (ha : PE X a (tp X.K G x ma)) :
    PE X (.UnaryOp op a pos) (tp X.K G x (eOp1 f ma)) := (pe_un ho ha).of fun _ _ _ q => tp1 h q

/-! ### argument lists -/
def eNil : W (List Da) := W.ret []
def eCons (a : W Da) (r : W (List Da)) : W (List Da) := a.bind fun d => r.bind fun ds => W.ret (d :: ds)
theorem pa_nil' : PA X [] (tar X.K G x eNil) := pa_nil.of fun σ H Q ⟨ρ, pe, S, q⟩ => q [] H rfl S
theorem pa_cons' {e : Expr} {es : List Expr} {ma : W Da} {mr : W (List Da)} (ha : PE X e (tp X.K G x ma)) (hr : PA X es (tar X.K G x mr)) (hs : starEach (e :: es) X.env = (false, eval e X.env) :: starEach es X.env := by rfl) :
    PA X (e :: es) (tar X.K G x (eCons ma mr)) := (pa_cons ha hr hs).of fun σ H Q ⟨ρ, pe, S, q⟩ =>
  ⟨ρ, pe, S, ma.mono (fun d ρ1 q v H1 S1 => ⟨ρ1, _, S1, mr.mono (fun ds ρ2 q vs H2 l S2 => q (v :: vs) H2 (by simp [l]) S2) (fun _ _ z => z) q⟩) (fun _ _ z => z) q⟩
theorem pushAll_pop {K : PySem.W.Frag} {O : Addr → Option Tg} {σ : L2.St} {ρ : En} {H : Hp} : ∀ {vs : List V} {ds : List Da} {pe : Pend}, vs.length = ds.length → StO K G O σ ρ (pushAll vs ds pe) H → StO K G O σ ρ pe H ∧ Reps K (Lof G O) H ds vs
  | [], [], pe, _, S => ⟨S, by simp [Reps]⟩
  | v :: vs, d :: ds, pe, l, S => by
    obtain ⟨S1, r⟩ := pushAll_pop (vs := vs) (ds := ds) (by simpa using l) S
    refine ⟨S1.pop, ?_⟩
    simp only [Reps]
    exact ⟨v, vs, rfl, S1.top, r⟩
  | [], _ :: _, _, l, _ => by simp at l
  | _ :: _, [], _, l, _ => by simp at l
theorem tpN {r : List V → Hp → VK → Prop} {f : List Da → Option Da} {ma : W (List Da)} (h : OpN X.K r f) {σ : L2.St} {H : Hp} {Q : VK} (q : tp X.K G x (eOpN f ma) σ H Q) : tCB r (tar X.K G x ma) σ H Q := by
  obtain ⟨ρ, pe, S, q⟩ := q
  refine ⟨ρ, pe, S, ma.mono (fun ds ρ1 q vs H1 l S1 => ?_) (fun _ _ z => z) q⟩
  obtain ⟨u, e, q⟩ := W.opt_wp q
  obtain ⟨O, S1⟩ := S1
  obtain ⟨S2, rs⟩ := pushAll_pop l S1
  exact h (Lof G O) H1 _ _ vs Q rs e fun v' H' k r => q v' H' ⟨O, S2.result k r⟩
theorem p_callB {id : String} {r : List V → Hp → VK → Prop} {f : List Da → Option Da} {n : Str} {p pos : Pos} {e : Expr} {es : List Expr} {ma : W (List Da)} (hc : CallR X (.builtin id) r) (h : OpN X.K r f) (hg : Gl X n) (hm : X.mg n = none)
    (hv : bootBuiltins n = some (.builtin id)) (ha : PA X (e :: es) (tar X.K G x ma)) (hn : n ≠ "__name__" := by decide) (hdb : (n == ("__debug__" : Str)) = false := by decide)
    (he : starEach (e :: es) X.env = (false, eval e X.env) :: starEach es X.env := by rfl) (hpl : (backTo pos (starEach es X.env)).any (·.1) = false := by rfl) : PE X (.Call (.Name n p) (e :: es) [] pos) (tp X.K G x (eOpN f ma)) :=
  (pe_callB hc hg hm hv ha hn hdb he hpl).of fun _ _ _ q => tpN h q
theorem p_callTy {T : String} {r : List V → Hp → VK → Prop} {f : List Da → Option Da} {n : Str} {p pos : Pos} {e : Expr} {es : List Expr} {ma : W (List Da)} (hc : CallR X (.type T) r) (h : OpN X.K r f) (hg : Gl X n) (hm : X.mg n = none)
    (hv : bootBuiltins n = some (.type T)) (ha : PA X (e :: es) (tar X.K G x ma)) (hn : n ≠ "__name__" := by decide) (hdb : (n == ("__debug__" : Str)) = false := by decide)
    (he : starEach (e :: es) X.env = (false, eval e X.env) :: starEach es X.env := by rfl) (hpl : (backTo pos (starEach es X.env)).any (·.1) = false := by rfl) : PE X (.Call (.Name n p) (e :: es) [] pos) (tp X.K G x (eOpN f ma)) :=
  (pe_callTy hc hg hm hv ha hn hdb he hpl).of fun _ _ _ q => tpN h q

/-! ### displays -/
def eTup (a : W (List Da)) : W Da := a.bind fun ds => (W.req (ds.length ≤ 1000)).bind fun _ => W.ret (.tup ds)
def eDisp (a : W (List Da)) : W (List Da) := a.bind fun ds => (W.req (ds.length ≤ 1000)).bind fun _ => W.ret ds
def eFrz (a : W (List Da)) : W Da := a.bind fun ds => W.ret (.lst ds)
theorem le_line {n : Nat} (h : n ≤ 1000) : n ≤ sizeLine := Nat.le_of_lt (small1000 h)
theorem p_tup {es : List Expr} {k pos} {ma : W (List Da)} (ha : PA X es (tar X.K G x ma)) : PE X (.Tuple es k pos) (tp X.K G x (eTup ma)) := (pe_tup ha).of fun σ H Q ⟨ρ, pe, S, q⟩ => by
  refine ⟨ρ, pe, S, ma.mono (fun ds ρ1 q vs H1 l S1 => ?_) (fun _ _ z => z) q⟩
  obtain ⟨z, q⟩ := q
  obtain ⟨O, S1⟩ := S1
  obtain ⟨S2, rs⟩ := pushAll_pop l S1
  refine ⟨by rw [l]; exact le_line z, fun p np => q _ _ ⟨O, S2.result (keep_upd np) ?_⟩⟩
  simp only [Rep]
  exact ⟨p, vs, rfl, .of upd_same, le_line z, Reps.mono (fun b u e _ => keep_upd np b u e) (fun _ _ _ z => .inl z) _ _ rs⟩
theorem StO.pushOwn {K : PySem.W.Frag} {O : Addr → Option Tg} {σ : L2.St} {ρ : En} {pe : Pend} {H : Hp} {ds : List Da} {vs : List V} {p : Addr} (S : StO K G O σ ρ pe H) (np : H p = none) (z : ds.length ≤ sizeLine) (r : Reps K (Lof G O) H ds vs) :
    StO K G (fun a => if a = p then some (.pend pe.length) else clr O (.pend pe.length) a) σ ρ ((.ref p, .own ds) :: pe) (upd H p (.lst vs)) := by
  have S1 := S.alloc (o := .lst vs) np
  have ne : ∀ {b : Addr} {u : HO}, H b = some u → b ≠ p := fun {b u} e => ne_of_none e np
  have hk : Keep (Lof G O) H (upd H p (.lst vs)) := fun b u e _ => keep_upd np b u e
  have hl : ∀ b u, H b = some u → Lof G O b → Lof G (fun a => if a = p then some (.pend pe.length) else clr O (.pend pe.length) a) b := fun b u e h => ⟨(if_neg (ne e)).trans (clr_none h.1), h.2⟩
  have ow : ∀ {q t}, O q = some t → t ≠ .pend pe.length → upd H p (.lst vs) q = H q ∧ (if q = p then some (.pend pe.length) else clr O (.pend pe.length) q) = some t := fun {q t} e n => by
    obtain ⟨u, hu, _⟩ := S.own q t e
    exact ⟨upd_ne (ne hu), (if_neg (ne hu)).trans (clr_ne e n)⟩
  refine ⟨fun b u e n => ?_, fun q t h => ?_, fun q hq => ?_, S.len, fun i c e => ?_, ⟨p, vs, rfl, if_pos rfl, upd_same, z, Reps.mono hk hl _ _ r, fun hp => ?_⟩, ?_⟩
  · obtain ⟨h1, h2⟩ := S.frame b u e n
    exact ⟨keep_upd np b u h1, (if_neg (ne h1)).trans (clr_none h2)⟩
  · by_cases e : q = p
    · subst e
      exact ⟨_, upd_same, trivial⟩
    · rw [if_neg e] at h
      obtain ⟨u, hu, c⟩ := S.own q t (of_clr h).1
      exact ⟨u, keep_upd np q u hu, c⟩
  · obtain ⟨h, n⟩ := S.pools q hq
    have h' := h
    obtain ⟨_, _, _, _, _, _, _, e, _⟩ := h'
    exact ⟨h.mono hk hl (upd_ne (ne e)), n⟩
  · obtain ⟨w, h1, h2⟩ := S.slots i c e
    exact ⟨w, h1, h2.mono hk hl fun q e => ow e (fun z => by cases z)⟩
  · obtain ⟨h, _⟩ := S.pools p hp
    obtain ⟨_, _, _, _, _, _, _, e, _⟩ := h
    rw [np] at e
    cases e
  · exact S.pends.mono hk hl fun j hj q e => ow e (fun z => by cases z; omega)
theorem p_disp {es : List Expr} {pos} {ma : W (List Da)} (ha : PA X es (tar X.K G x ma)) : PE X (.List es pos) (tow X.K G x (eDisp ma)) := (pe_lst ha).of fun σ H Q ⟨ρ, pe, S, q⟩ => by
  refine ⟨ρ, pe, S, ma.mono (fun ds ρ1 q vs H1 l S1 => ?_) (fun _ _ z => z) q⟩
  obtain ⟨z, q⟩ := q
  obtain ⟨O, S1⟩ := S1
  obtain ⟨S2, rs⟩ := pushAll_pop l S1
  exact ⟨by rw [l]; exact le_line z, fun p np => q _ _ ⟨_, S2.pushOwn np (le_line z) rs⟩⟩
theorem p_frz {e : Expr} {ma : W (List Da)} (h : PE X e (tow X.K G x ma)) : PE X e (tp X.K G x (eFrz ma)) := h.of fun σ H Q ⟨ρ, pe, S, q⟩ =>
  ⟨ρ, pe, S, ma.mono (fun ds ρ1 q v H1 ⟨O, S1⟩ => q v H1 ⟨_, S1.freeze⟩) (fun _ _ z => z) q⟩
end
end Pu
end

section
namespace Pu
open PySem PySem.Spec PyProof.Rows L2

section
variable {X : Cx} {G : Gc} {x : Ex → En → Prop}
/-! ### tests -/
def asB : Da → Option Bool
  | .bl b => some b
  | _ => none
@[simp] theorem asB_bl (b : Bool) : asB (.bl b) = some b := rfl
theorem of_asB {d : Da} {b : Bool} (h : asB d = some b) : d = .bl b := by
  cases d <;> simp [asB] at h
  subst h
  rfl
def bV (m : W Da) : W Bool := m.bind fun d => W.opt (asB d)
theorem ttt_tB {m : W Da} {σ : L2.St} {H : Hp} {Q : Bool → Hp → Prop} (q : ttt X.K G x (bV m) σ H Q) : tp X.K G x m σ H fun v H1 => ∃ c, v = .bl c ∧ Q c H1 := by
  obtain ⟨ρ, pe, S, q⟩ := q
  refine ⟨ρ, pe, S, m.mono (fun d ρ1 q v H1 S1 => ?_) (fun _ _ z => z) q⟩
  obtain ⟨b, e, q⟩ := W.opt_wp q
  have e' := of_asB e
  subst e'
  obtain ⟨O, S1⟩ := S1
  have r := S1.top
  simp only [Rep] at r
  exact ⟨b, r, q H1 ⟨O, S1.pop⟩⟩
theorem t_val {e : Expr} {m : W Da} (h : PE X e (tp X.K G x m)) (he : ∀ whole, isTrue e X.env whole = (do let v ← whole; standAt e.pos; holding [v] (truthy v)) := by intro _; rfl) : PT X e (ttt X.K G x (bV m)) :=
  (pt_val h he).of fun _ _ _ q => ttt_tB q
theorem t_cmp {op : CmpOp} {r : R2} {f : Da → Da → Option Da} {a b : Expr} {pos : Pos} {ma mb : W Da} (ho : OpR X (compareOp op) r) (h : Op2 X.K r f) (ha : PE X a (tp X.K G x ma)) (hb : PE X b (tp X.K G x mb)) (hm : behindInMarks op b = false) :
    PT X (.Compare a [op] [b] pos) (ttt X.K G x (bV (eOp2 f ma mb))) := (pt_cmpR ho ha hb hm).of fun _ _ _ q => tp2 h (ttt_tB q)
/-- truth of any value -/
def truth : Da → Option Bool
  | .non => some false
  | .bl b => some b
  | .int i => some (i != 0)
  | .str y => if y.length ≤ sizeLine then some ((y.length : Int) != 0) else none
  | .tup ds => some (!ds.isEmpty)
  | .lst ds => some (!ds.isEmpty)
  | .obj _ _ _ => none
  | .scr ns => some (!ns.isEmpty)
theorem Reps.isEmpty {K : PySem.W.Frag} {L : Addr → Prop} {H : Hp} {ds : List Da} {vs : List V} (h : Reps K L H ds vs) : vs.isEmpty = ds.isEmpty := by
  cases ds with
  | nil => simp only [Reps] at h; subst h; rfl
  | cons d ds =>
    simp only [Reps] at h
    obtain ⟨_, _, e, _⟩ := h
    subst e
    rfl
theorem truth_ok {K : PySem.W.Frag} {L : Addr → Prop} {H : Hp} {d : Da} {v : V} {b : Bool} (r : Rep K L H d v) (h : truth d = some b) : TruV K v H b := by
  cases d with
  | non => simp only [Rep] at r; subst r; simpa [truth, TruV] using h.symm
  | bl c => simp only [Rep] at r; subst r; simpa [truth, TruV] using h.symm
  | int i => simp only [Rep] at r; subst r; simpa [truth, TruV] using h.symm
  | str y =>
    simp only [Rep] at r
    subst r
    simp only [truth] at h
    split at h
    · cases h
      exact ⟨by assumption, rfl⟩
    · cases h
  | tup ds =>
    simp only [Rep] at r
    obtain ⟨a, xs, e, q, _, rs⟩ := r
    subst e
    cases h
    exact .inr (.inl ⟨xs, q, by rw [rs.isEmpty]⟩)
  | lst ds =>
    simp only [Rep] at r
    obtain ⟨a, xs, e, q, _, rs⟩ := r
    subst e
    cases h
    exact .inl ⟨xs, q.sq, by rw [rs.isEmpty]⟩
  | obj c ns ds => cases h
  | scr ns =>
    simp only [Rep] at r
    obtain ⟨a, e, q⟩ := r
    subst e
    cases h
    exact .inl ⟨_, q.1.1, by cases ns <;> rfl⟩
def bT (m : W Da) : W Bool := m.bind fun d => W.opt (truth d)
theorem t_truth {e : Expr} {m : W Da} (h : PE X e (tp X.K G x m)) (he : ∀ whole, isTrue e X.env whole = (do let v ← whole; standAt e.pos; holding [v] (truthy v)) := by intro _; rfl) : PT X e (ttt X.K G x (bT m)) :=
  (pt_truth h he).of fun σ H Q ⟨ρ, pe, S, q⟩ => by
    refine ⟨ρ, pe, S, m.mono (fun d ρ1 q v H1 S1 => ?_) (fun _ _ z => z) q⟩
    obtain ⟨b, e, q⟩ := W.opt_wp q
    obtain ⟨O, S1⟩ := S1
    exact ⟨b, truth_ok S1.top e, q H1 ⟨O, S1.pop⟩⟩
def bAnd (a b : W Bool) : W Bool := a.bind fun c => if c = true then b else W.ret false
def bOr (a b : W Bool) : W Bool := a.bind fun c => if c = true then W.ret true else b
def bNot (a : W Bool) : W Bool := a.bind fun c => W.ret (!c)
section
variable {a b : Expr} {rest : List Expr} {pos : Pos} {ma mb : W Bool} {t : TT}
theorem t_and1 (ha : PT X a (ttt X.K G x ma)) : PW X (.BoolOp .And [a] pos) (ttt X.K G x ma) := pw_and1 ha
theorem t_or1 (ha : PT X a (ttt X.K G x ma)) : PW X (.BoolOp .Or [a] pos) (ttt X.K G x ma) := pw_or1 ha
theorem _root_.L2.PW.of {e : Expr} {t t' : TT} (h : PW X e t) (w : ∀ σ H Q, t' σ H Q → t σ H Q) : PW X e t' := ⟨fun wh pins s σ H Q I q => h.run wh pins s σ H Q I (w σ H Q q)⟩
theorem t_and (ha : PT X a (ttt X.K G x ma)) (hb : PW X (.BoolOp .And (b :: rest) pos) (ttt X.K G x mb)) : PW X (.BoolOp .And (a :: b :: rest) pos) (ttt X.K G x (bAnd ma mb)) :=
  (pw_and ha hb).of fun σ H Q ⟨ρ, pe, S, q⟩ => ⟨ρ, pe, S, ma.mono (fun c ρ1 q H1 S1 => by
    cases c with
    | true => exact iteT ⟨ρ1, pe, S1, q⟩
    | false => exact iteF (q H1 S1)) (fun _ _ z => z) q⟩
theorem t_or (ha : PT X a (ttt X.K G x ma)) (hb : PW X (.BoolOp .Or (b :: rest) pos) (ttt X.K G x mb)) : PW X (.BoolOp .Or (a :: b :: rest) pos) (ttt X.K G x (bOr ma mb)) :=
  (pw_or ha hb).of fun σ H Q ⟨ρ, pe, S, q⟩ => ⟨ρ, pe, S, ma.mono (fun c ρ1 q H1 S1 => by
    cases c with
    | true => exact iteT (q H1 S1)
    | false => exact iteF ⟨ρ1, pe, S1, q⟩) (fun _ _ z => z) q⟩
theorem t_not (ha : PT X a (ttt X.K G x ma)) : PT X (.UnaryOp .Not a pos) (ttt X.K G x (bNot ma)) :=
  (pt_not ha).of fun σ H Q ⟨ρ, pe, S, q⟩ => ⟨ρ, pe, S, ma.mono (fun c ρ1 q H1 S1 => q H1 S1) (fun _ _ z => z) q⟩
end
/-! and, or, not of bools as values -/
def eAnd (a b : W Da) : W Da := (bV a).bind fun c => if c = true then b else W.ret (.bl false)
def eOr (a b : W Da) : W Da := (bV a).bind fun c => if c = true then W.ret (.bl true) else b
def eNot (a : W Da) : W Da := (bV a).bind fun c => W.ret (.bl (!c))
def eIf (c : W Bool) (a b : W Da) : W Da := c.bind fun k => if k = true then a else b
section
variable {a b c : Expr} {rest : List Expr} {pos : Pos} {ma mb : W Da}
theorem rep_bl {K : PySem.W.Frag} {L : Addr → Prop} {H : Hp} (b : Bool) : Rep K L H (.bl b) (.bl b) := by simp [Rep]
theorem asB_run {m : W Da} {ρ : En} {pe : Pend} {σ : L2.St} {R : V → Hp → Prop} {k : Bool → En → Prop} (q : (bV m).wp ρ k x) (h : ∀ c ρ1 H1, k c ρ1 → Sd X.K G σ ρ1 pe H1 → R (.bl c) H1) :
    m.wp ρ (fun d ρ' => ∀ v H', Sd X.K G σ ρ' ((v, .dat d) :: pe) H' → R v H') x := m.mono (fun d ρ1 q v H1 S1 => by
  obtain ⟨b, e, q⟩ := W.opt_wp q
  have e' := of_asB e
  subst e'
  obtain ⟨O, S1⟩ := S1
  have r := S1.top
  simp only [Rep] at r
  subst r
  exact h b ρ1 H1 q ⟨O, S1.pop⟩) (fun _ _ z => z) q
theorem p_one {op} {e : Expr} {m : W Da} (h : PE X e (tp X.K G x m)) : PE X (.BoolOp op [e] pos) (tp X.K G x m) := pe_one h
theorem p_and (ha : PE X a (tp X.K G x ma)) (hb : PE X (.BoolOp .And (b :: rest) pos) (tp X.K G x mb)) : PE X (.BoolOp .And (a :: b :: rest) pos) (tp X.K G x (eAnd ma mb)) :=
  (pe_and ha hb).of fun σ H Q ⟨ρ, pe, S, q⟩ => ⟨ρ, pe, S, asB_run q fun c ρ1 H1 q S1 => ⟨c, rfl, by
    cases c with
    | true => exact iteT ⟨ρ1, pe, S1, q⟩
    | false => exact iteF (let ⟨O, S1⟩ := S1; q _ H1 ⟨O, S1.pushD (rep_bl _)⟩)⟩⟩
theorem p_or (ha : PE X a (tp X.K G x ma)) (hb : PE X (.BoolOp .Or (b :: rest) pos) (tp X.K G x mb)) : PE X (.BoolOp .Or (a :: b :: rest) pos) (tp X.K G x (eOr ma mb)) :=
  (pe_or ha hb).of fun σ H Q ⟨ρ, pe, S, q⟩ => ⟨ρ, pe, S, asB_run q fun c ρ1 H1 q S1 => ⟨c, rfl, by
    cases c with
    | true => exact iteT (let ⟨O, S1⟩ := S1; q _ H1 ⟨O, S1.pushD (rep_bl _)⟩)
    | false => exact iteF ⟨ρ1, pe, S1, q⟩⟩⟩
theorem p_not (ha : PE X a (tp X.K G x ma)) : PE X (.UnaryOp .Not a pos) (tp X.K G x (eNot ma)) :=
  (pe_not ha).of fun σ H Q ⟨ρ, pe, S, q⟩ => ⟨ρ, pe, S, asB_run q fun c ρ1 H1 q ⟨O, S1⟩ => ⟨c, rfl, q _ H1 ⟨O, S1.pushD (rep_bl _)⟩⟩⟩
theorem p_if {mc : W Bool} (hc : PT X c (ttt X.K G x mc)) (ha : PE X a (tp X.K G x ma)) (hb : PE X b (tp X.K G x mb)) : PE X (.IfExp c a b pos) (tp X.K G x (eIf mc ma mb)) :=
  (pe_ifExp hc ha hb).of fun σ H Q ⟨ρ, pe, S, q⟩ => ⟨ρ, pe, S, mc.mono (fun c ρ1 q H1 S1 => by
    cases c with
    | true => exact iteT ⟨ρ1, pe, S1, q⟩
    | false => exact iteF ⟨ρ1, pe, S1, q⟩) (fun _ _ z => z) q⟩
/-- a op b op' c -/
def eChain (f f' : Da → Da → Option Da) (a b c : W Da) : W Da := a.bind fun d => b.bind fun e => (W.opt (f d e)).bind fun r => (W.opt (asB r)).bind fun k => if k = true then c.bind fun g => W.opt (f' e g) else W.ret (.bl false)
theorem tpChain {r r' : R2} {f f' : Da → Da → Option Da} {mc : W Da} (h : Op2 X.K r f) (h' : Op2 X.K r' f') {σ : L2.St} {H : Hp} {Q : VK} (q : tp X.K G x (eChain f f' ma mb mc) σ H Q) :
    tChain r r' (tp X.K G x ma) (tp X.K G x mb) (tp X.K G x mc) σ H Q := by
  obtain ⟨ρ, pe, S, q⟩ := q
  refine ⟨ρ, pe, S, ma.mono (fun d ρ1 q v H1 S1 => ⟨ρ1, _, S1, mb.mono (fun e ρ2 q w H2 S2 => ?_) (fun _ _ z => z) q⟩) (fun _ _ z => z) q⟩
  obtain ⟨u, eu, q⟩ := W.opt_wp q
  obtain ⟨k, ek, q⟩ := W.opt_wp q
  have ek' := of_asB ek
  subst ek'
  obtain ⟨O, S2⟩ := S2
  refine h (Lof G O) H2 _ _ _ v w _ S2.pop.top S2.top eu fun v' H' kk rr => ?_
  simp only [Rep] at rr
  subst rr
  have S3 := S2.heap kk
  refine ⟨k, rfl, ?_⟩
  cases k with
  | true =>
    refine iteT ⟨ρ2, _, ⟨O, S3⟩, mc.mono (fun g ρ3 q u' H4 S4 => ?_) (fun _ _ z => z) q⟩
    obtain ⟨y, ey, q⟩ := W.opt_wp q
    obtain ⟨O4, S4⟩ := S4
    exact h' (Lof G O4) H4 _ _ _ w u' Q S4.pop.top S4.top ey fun v5 H5 k5 r5 => q v5 H5 ⟨O4, S4.pop.pop.pop.result k5 r5⟩
  | false => exact iteF (q _ H' ⟨O, S3.pop.pop.pushD (rep_bl _)⟩)
theorem p_chain {op op' : CmpOp} {r r' : R2} {f f' : Da → Da → Option Da} {mc : W Da} (ho : OpR X (compareOp op) r) (h : Op2 X.K r f) (ho' : OpR X (compareOp op') r') (h' : Op2 X.K r' f') (ha : PE X a (tp X.K G x ma)) (hb : PE X b (tp X.K G x mb)) (hc : PE X c (tp X.K G x mc))
    (hm : lastMarks [op, op'] [b, c] = false := by with_unfolding_all rfl) : PE X (.Compare a [op, op'] [b, c] pos) (tp X.K G x (eChain f f' ma mb mc)) := (pe_chain ho ho' ha hb hc hm).of fun _ _ _ q => tpChain h h' q
theorem t_chain {op op' : CmpOp} {r r' : R2} {f f' : Da → Da → Option Da} {mc : W Da} (ho : OpR X (compareOp op) r) (h : Op2 X.K r f) (ho' : OpR X (compareOp op') r') (h' : Op2 X.K r' f') (ha : PE X a (tp X.K G x ma)) (hb : PE X b (tp X.K G x mb)) (hc : PE X c (tp X.K G x mc))
    (hm : lastMarks [op, op'] [b, c] = false := by with_unfolding_all rfl) : PT X (.Compare a [op, op'] [b, c] pos) (ttt X.K G x (bV (eChain f f' ma mb mc))) := (pt_chain ho ho' ha hb hc hm).of fun _ _ _ q => tpChain h h' (ttt_tB q)
end

/-! ### targets -/
inductive Tt where
  | name (i : Nat)
  | tup (ts : List Tt)
mutual
def Tt.bind : Tt → Da → En → Option En
  | .name i, d, ρ => some (ρ.set i (some (.dat d)))
  | .tup ts, .tup ds, ρ => Tt.binds ts ds ρ
  | .tup _, _, _ => none
def Tt.binds : List Tt → List Da → En → Option En
  | [], [], ρ => some ρ
  | t :: ts, d :: ds, ρ => (Tt.bind t d ρ).bind fun ρ' => Tt.binds ts ds ρ'
  | _, _, _ => none
end
mutual
def Tt.slots : Tt → List Nat
  | .name i => [i]
  | .tup ts => Tt.slotss ts
def Tt.slotss : List Tt → List Nat
  | [] => []
  | t :: ts => Tt.slots t ++ Tt.slotss ts
end
def pushR : List V → List Da → Pend → Pend
  | v :: vs, d :: ds, pe => (v, .dat d) :: pushR vs ds pe
  | _, _, pe => pe
/-- the slots but these are as they were -/
def But (l : List Nat) (σ σ' : L2.St) : Prop := σ'.length = σ.length ∧ ∀ i, i ∉ l → σ'[i]? = σ[i]?
theorem But.refl {l : List Nat} {σ : L2.St} : But l σ σ := ⟨rfl, fun _ _ => rfl⟩
theorem But.trans {l l' : List Nat} {σ σ' σ'' : L2.St} (h : But l σ σ') (h' : But l' σ' σ'') : But (l ++ l') σ σ'' :=
  ⟨h'.1.trans h.1, fun i n => (h'.2 i fun z => n (List.mem_append_right _ z)).trans (h.2 i fun z => n (List.mem_append_left _ z))⟩
theorem But.set {σ : L2.St} (i : Nat) (v : Option V) : But [i] σ (σ.set i v) := ⟨by simp, fun j n => List.getElem?_set_ne (fun e => n (by simp [e]))⟩
section
variable (K : PySem.W.Frag) (G : Gc)
def tgg (t : Tt) : TG := fun v σ H Q => ∃ ρ pe d ρ', Sd K G σ ρ ((v, .dat d) :: pe) H ∧ t.bind d ρ = some ρ' ∧ ∀ σ' H', But t.slots σ σ' → Sd K G σ' ρ' pe H' → Q σ' H'
def tggs (ts : List Tt) : TGs := fun vs σ H Q => ∃ ρ pe ds ρ', vs.length = ds.length ∧ Sd K G σ ρ (pushR vs ds pe) H ∧ Tt.binds ts ds ρ = some ρ' ∧ ∀ σ' H', But (Tt.slotss ts) σ σ' → Sd K G σ' ρ' pe H' → Q σ' H'
end
theorem _root_.L2.PG.of {e : Expr} {t t' : TG} (h : PG X e t) (w : ∀ v σ H Q, t' v σ H Q → t v σ H Q) : PG X e t' := ⟨fun pins s σ H v u Q I r q => h.run pins s σ H v u Q I r (w v σ H Q q)⟩
theorem _root_.L2.PGs.of {e : List Expr} {t t' : TGs} (h : PGs X e t) (w : ∀ v σ H Q, t' v σ H Q → t v σ H Q) : PGs X e t' := ⟨fun pins s σ H v u Q I r q => h.run pins s σ H v u Q I r (w v σ H Q q)⟩
theorem g_name {e : Expr} (i : Nat) (h : PG X e (gName i)) : PG X e (tgg X.K G (.name i)) := h.of fun v σ H Q ⟨ρ, pe, d, ρ', ⟨O, S⟩, e, q⟩ => by
  simp only [Tt.bind, Option.some.injEq] at e
  subst e
  exact q _ H (But.set i _) ⟨_, S.store i⟩
theorem gs_nil : PGs X [] (tggs X.K G []) := pgs_nil.of fun vs σ H Q ⟨ρ, pe, ds, ρ', l, S, e, q⟩ => by
  cases ds with
  | cons d ds => simp [Tt.binds] at e
  | nil =>
    simp only [Tt.binds, Option.some.injEq] at e
    subst e
    cases vs with
    | nil => exact ⟨rfl, q σ H But.refl S⟩
    | cons _ _ => simp at l
theorem gs_cons {e : Expr} {es : List Expr} {t : Tt} {ts : List Tt} (h1 : PG X e (tgg X.K G t)) (h2 : PGs X es (tggs X.K G ts))
    (hs : (assignEach (e :: es) X.env).map (·.2) = assign e X.env :: (assignEach es X.env).map (·.2) := by rfl) : PGs X (e :: es) (tggs X.K G (t :: ts)) :=
  (pgs_cons h1 h2 hs).of fun vs σ H Q ⟨ρ, pe, ds, ρ', l, S, e, q⟩ => by
    cases ds with
    | nil => simp [Tt.binds] at e
    | cons d ds =>
      cases vs with
      | nil => simp at l
      | cons v vs =>
        simp only [Tt.binds] at e
        cases e1 : t.bind d ρ with
        | none => rw [e1] at e; cases e
        | some ρ1 =>
          rw [e1] at e
          exact ⟨v, vs, rfl, ρ, _, d, ρ1, S, e1, fun σ1 H1 b1 S1 => ⟨ρ1, pe, ds, ρ', by simpa using l, S1, e, fun σ2 H2 b2 S2 => q σ2 H2 (b1.trans b2) S2⟩⟩
theorem pushR_push {K : PySem.W.Frag} {O : Addr → Option Tg} {σ : L2.St} {ρ : En} {H : Hp} : ∀ {vs : List V} {ds : List Da} {pe : Pend}, StO K G O σ ρ pe H → Reps K (Lof G O) H ds vs → StO K G O σ ρ (pushR vs ds pe) H
  | [], [], pe, S, _ => S
  | [], d :: ds, pe, S, r => S
  | v :: vs, [], pe, S, r => S
  | v :: vs, d :: ds, pe, S, r => by
    simp only [Reps] at r
    obtain ⟨x, ys, e, r1, r2⟩ := r
    cases e
    exact (pushR_push S r2).push r1
theorem g_tup {es : List Expr} {k : Nat} {ts : List Tt} (hc : X.calm = true) (h : PGs X es (tggs X.K G ts)) (hl : (assignEach es X.env).length = ts.length := by rfl) (hst : (assignEach es X.env).findIdx? (·.1) = none := by rfl) :
    PG X (.Tuple es k pos) (tgg X.K G (.tup ts)) := (pg_tup hc h hl hst).of fun v σ H Q ⟨ρ, pe, d, ρ', ⟨O, S⟩, e, q⟩ => by
  cases d with
  | tup ds =>
    have r := S.top
    simp only [Rep] at r
    obtain ⟨a, xs, ev, hq, _, rs⟩ := r
    simp only [Tt.bind] at e
    have bl : ∀ {ts : List Tt} {ds : List Da} {ρ ρ' : En}, Tt.binds ts ds ρ = some ρ' → ds.length = ts.length := by
      intro ts
      induction ts with
      | nil =>
        intro ds ρ ρ' h
        cases ds with
        | nil => rfl
        | cons _ _ => simp [Tt.binds] at h
      | cons t ts ih =>
        intro ds ρ ρ' h
        cases ds with
        | nil => simp [Tt.binds] at h
        | cons d ds =>
          simp only [Tt.binds] at h
          cases e1 : t.bind d ρ with
          | none => rw [e1] at h; cases h
          | some ρ1 =>
            rw [e1] at h
            simp [ih h]
    exact ⟨a, xs, ev, hq, by rw [rs.length, bl e], ρ, pe, ds, ρ', rs.length, ⟨O, pushR_push S.pop rs⟩, e, fun σ' H' b S' => q σ' H' (by simpa [Tt.slots] using b) S'⟩
  | _ => simp [Tt.bind] at e
end
end Pu
end

section
namespace Pu
open PySem PySem.Spec PyProof.Rows L2

/-! ### pending data, many at once -/
def dats (l : List (V × Da)) : Pend := l.map fun p => (p.1, .dat p.2)
section
variable {K : PySem.W.Frag} {G : Gc} {O : Addr → Option Tg} {σ σ' : L2.St} {ρ ρ' : En} {pe : Pend} {H H' : Hp} {v : V} {d : Da}
theorem StO.popD : ∀ {l : List (V × Da)}, StO K G O σ ρ (dats l ++ pe) H → StO K G O σ ρ pe H ∧ ∀ p ∈ l, Rep K (Lof G O) H p.2 p.1
  | [], S => ⟨S, fun _ h => nomatch h⟩
  | (w, e) :: l, S => by
    have S' : StO K G O σ ρ ((w, .dat e) :: (dats l ++ pe)) H := S
    obtain ⟨h1, h2⟩ := StO.popD (l := l) S'.pop
    exact ⟨h1, fun p hp => (List.mem_cons.mp hp).elim (fun z => z ▸ S'.top) (h2 p)⟩
theorem StO.pushDs : ∀ {l : List (V × Da)}, StO K G O σ ρ pe H → (∀ p ∈ l, Rep K (Lof G O) H p.2 p.1) → StO K G O σ ρ (dats l ++ pe) H
  | [], S, _ => S
  | (w, e) :: l, S, h => (StO.pushDs (l := l) S fun p hp => h p (List.mem_cons_of_mem _ hp)).pushD (h _ List.mem_cons_self)
/-- the own list on top changes -/
theorem StO.changeTop {ds es : List Da} {p : Addr} {ys : List V} (S : StO K G O σ ρ ((.ref p, .own ds) :: pe) H) (z : es.length ≤ sizeLine) (r : Reps K (Lof G O) H es ys) :
    StO K G O σ ρ ((.ref p, .own es) :: pe) (upd H p (.lst ys)) ∧ Keep (Lof G O) H (upd H p (.lst ys)) := by
  obtain ⟨p', xs', e, ot, hp', z', r', np⟩ := S.pends.1
  cases e
  have hk : Keep (Lof G O) H (upd H p (.lst ys)) := fun b x e k => by
    rw [upd_ne]
    · exact e
    · rintro rfl
      rcases k with k | k
      · have k1 := k.1
        rw [ot] at k1
        cases k1
      · rw [hp'] at e
        cases e
        exact k trivial
  have hl : ∀ b x, H b = some x → Lof G O b → Lof G O b := fun _ _ _ h => h
  refine ⟨⟨fun b x e n => ⟨?_, (S.frame b x e n).2⟩, fun q t h => ?_, fun q hq => ⟨(S.pools q hq).1.mono hk hl (upd_ne fun e => np (e ▸ hq)), (S.pools q hq).2⟩, S.len, fun j c h => ?_, ⟨p, ys, rfl, ot, upd_same, z, Reps.mono hk hl _ _ r, np⟩, ?_⟩, hk⟩
  · rw [upd_ne]
    · exact (S.frame b x e n).1
    · rintro rfl
      have f := (S.frame b x e n).2
      rw [ot] at f
      cases f
  · by_cases e : q = p
    · subst e
      exact ⟨_, upd_same, trivial⟩
    · rw [upd_ne e]
      exact S.own q t h
  · obtain ⟨w, h1, h2⟩ := S.slots j c h
    exact ⟨w, h1, h2.mono hk hl (fun q e => ⟨upd_ne (fun q' => by
      rw [q', ot] at e
      cases e), e⟩)⟩
  · exact S.pends.2.mono hk hl (fun j hj q e => ⟨upd_ne (fun q' => by
      rw [q', ot] at e
      cases e
      omega), e⟩)
/-- other slots of which nothing is known -/
theorem StO.slots' (S : StO K G O σ ρ pe H) (l : σ'.length = σ.length) (h : ∀ (i : Nat) c, ρ[i]? = some (some c) → σ'[i]? = σ[i]?) : StO K G O σ' ρ pe H :=
  ⟨S.frame, S.own, S.pools, S.len.trans l.symm, fun i c e => by rw [h i c e]; exact S.slots i c e, S.pends⟩
end

/-! ### what a loop goes over -/
def ItOk (K : PySem.W.Frag) (J : It) (src : List (V × Da)) (ds : List Da) : Prop := ∀ (L : Addr → Prop) (H : Hp), (∀ p ∈ src, Rep K L H p.2 p.1) → ∀ i : Nat,
  (∀ d, ds[i]? = some d → J.go i H ∧ ∀ x H', J.yld i H x H' → (∀ b u, H b = some u → H' b = some u) ∧ Rep K (fun c => L c ∨ H c = none) H' d x) ∧ (ds.length ≤ i → J.stop i H)
def tit (K : PySem.W.Frag) (G : Gc) (x : Ex → En → Prop) (m : W (List Da)) : TI := fun σ H R => ∃ ρ pe, Sd K G σ ρ pe H ∧
  m.wp ρ (fun ds ρ' => ∀ J src H', ItOk K J src ds → ds.length ≤ sizeLine → Sd K G σ ρ' (dats src ++ pe) H' → R J H') x

theorem _root_.L2.PI.of {X : Cx} {tg e : Expr} {t t' : TI} (h : PI X tg e t) (w : ∀ σ H R, t' σ H R → t σ H R) : PI X tg e t' := ⟨fun pins s σ H R I q => h.run pins s σ H R I (w σ H R q)⟩
section
variable {X : Cx} {G : Gc} {x : Ex → En → Prop} {tg e : Expr}
/-- signs of a text -/
def signs (z : Str) : List Da := z.cps.toList.map fun c => .str ⟨#[c]⟩
def itemsOf : Da → Option (List Da)
  | .tup ds => some ds
  | .lst ds => some ds
  | .str z => if z.length ≤ sizeLine then some (signs z) else none
  | _ => none
def iSeq (m : W Da) : W (List Da) := m.bind fun d => W.opt (itemsOf d)
theorem itOk_list {K : PySem.W.Frag} {a : Addr} {ds : List Da} : ItOk K (Itl K a) [(.ref a, .lst ds)] ds := fun L H hs i => by
  have r := hs _ List.mem_cons_self
  simp only [Rep] at r
  obtain ⟨a', xs, e, q, _, rs⟩ := r
  cases e
  refine ⟨fun d e => ?_, fun h => ⟨xs, q.sq, by rw [rs.length]; exact h⟩⟩
  obtain ⟨y, hy, ry⟩ := rs.getD e
  refine ⟨⟨xs, y, q.sq, hy⟩, fun w H' z => ?_⟩
  obtain ⟨rfl, z⟩ := z
  have e2 := z xs q.sq
  rw [hy] at e2
  cases e2
  exact ⟨fun _ _ h => h, Rep.mono (fun _ _ e _ => e) (fun _ _ _ z => .inl z) _ _ ry⟩
theorem itOk_tup {K : PySem.W.Frag} {a : Addr} {ds : List Da} : ItOk K (Itt K a) [(.ref a, .tup ds)] ds := fun L H hs i => by
  have r := hs _ List.mem_cons_self
  simp only [Rep] at r
  obtain ⟨a', xs, e, q, _, rs⟩ := r
  cases e
  refine ⟨fun d e => ?_, fun h => ⟨xs, q, by rw [rs.length]; exact h⟩⟩
  obtain ⟨y, hy, ry⟩ := rs.getD e
  refine ⟨⟨xs, y, q, hy⟩, fun w H' z => ?_⟩
  obtain ⟨rfl, z⟩ := z
  have e2 := z xs q
  rw [hy] at e2
  cases e2
  exact ⟨fun _ _ h => h, Rep.mono (fun _ _ e _ => e) (fun _ _ _ z => .inl z) _ _ ry⟩
theorem itOk_str {K : PySem.W.Frag} {z : Str} {src : List (V × Da)} : ItOk K (Its z) src (signs z) := fun L H hs i => by
  refine ⟨fun d e => ?_, fun h => by show z.cps.size ≤ i; simpa [signs] using h⟩
  simp only [signs, List.getElem?_map, Array.getElem?_toList, Option.map_eq_some_iff] at e
  obtain ⟨c, hc, e⟩ := e
  subst e
  refine ⟨(Array.getElem?_eq_some_iff.mp hc).1, fun w H' y => ?_⟩
  obtain ⟨rfl, c', hc', rfl⟩ := y
  rw [hc] at hc'
  cases hc'
  exact ⟨fun _ _ h => h, by simp [Rep]⟩
theorem itOk_range {K : PySem.W.Frag} {lo : Int} {n : Nat} {src : List (V × Da)} : ItOk K (Itr lo n) src ((List.range n).map fun i : Nat => Da.int (lo + (i : Int))) := fun L H hs i => by
  refine ⟨fun d e => ?_, fun h => by show n ≤ i; simpa using h⟩
  simp only [List.getElem?_map, Option.map_eq_some_iff] at e
  obtain ⟨j, hj, e⟩ := e
  subst e
  obtain ⟨hi, rfl⟩ := List.getElem?_eq_some_iff.mp hj
  simp only [List.length_range] at hi
  refine ⟨hi, fun w H' y => ?_⟩
  obtain ⟨rfl, rfl⟩ := y
  exact ⟨fun _ _ h => h, by simp [Rep]⟩

/-! a list, a tuple or a text is walked -/
section
variable {pins : List (Addr × Obj)} {σ : L2.St} {H : Hp} {s : Shared} {a : Addr} {xs : List V} {R : It → Hp → Prop}
theorem goes_list (I : Inv X pins σ H s) (hq : SqL X.K H a xs) (q : R (Itl X.K a) H) : wpAny (model X.prog X.w) X.A (pyIter (.ref a)) (PIE X pins σ tg R) X.xe s := by
  obtain ⟨its, _, p, _⟩ := I.list hq
  have n := I.hok.fresh (Nat.le_refl s.heap.objs.size)
  exact wpAny_pyIter_list p.isList ⟨_, [s.heap.objs.size], _, _, H, rfl, I.kept (t' := s.toks) (fun _ _ z => Heap.get?_push_of_some _ z), turn_list a s.heap.objs.size, ⟨_, Heap.get?_push_size _ rfl, rfl, rfl⟩,
    (fun b hb => by rw [List.mem_singleton.mp hb]; exact I.fpOk (Nat.le_refl _) n), q⟩
theorem goes_tup (I : Inv X pins σ H s) (hq : SqT X.K H a xs) (q : R (Itt X.K a) H) : wpAny (model X.prog X.w) X.A (pyIter (.ref a)) (PIE X pins σ tg R) X.xe s := by
  obtain ⟨its, _, p, _⟩ := I.tuple hq
  have n := I.hok.fresh (Nat.le_refl s.heap.objs.size)
  exact wpAny_pyIter_tuple (show s.heap.IsTuple a its.toArray from p) ⟨_, [s.heap.objs.size], _, _, H, rfl, I.kept (t' := s.toks) (fun _ _ z => Heap.get?_push_of_some _ z), turn_tuple a s.heap.objs.size, ⟨_, Heap.get?_push_size _ rfl, rfl, rfl⟩,
    (fun b hb => by rw [List.mem_singleton.mp hb]; exact I.fpOk (Nat.le_refl _) n), q⟩
theorem goes_str {z : Str} {t : Tok} (I : Inv X pins σ H s) (q : R (Its z) H) : wpAny (model X.prog X.w) X.A (pyIter (.str z t)) (PIE X pins σ tg R) X.xe s := by
  cases ha : z.cps.all (· < 128) with
  | false => exact wpAny_pyIter_wide ha (pi_one (tk := s.toks) I _ (turn_str _ z t "str_iterator" (.inr rfl)) ⟨_, Heap.get?_push_size _ rfl, rfl, rfl⟩ q)
  | true => exact wpAny_pyIter_ascii ha (pi_one (tk := s.toks) I _ (turn_str _ z t "str_ascii_iterator" (.inl rfl)) ⟨_, Heap.get?_push_size _ rfl, rfl, rfl⟩ q)
end
theorem i_seq {m : W Da} (h : PE X e (tp X.K G x m)) : PI X tg e (tit X.K G x (iSeq m)) := by
  refine ⟨fun pins s σ H R I ⟨ρ, pe, S, q⟩ => ?_⟩
  refine thn (h.run pins s σ H (fun v H1 => ∃ d ds ρ1, itemsOf d = some ds ∧ Sd X.K G σ ρ1 ((v, .dat d) :: pe) H1 ∧ ∀ J src H', ItOk X.K J src ds → ds.length ≤ sizeLine → Sd X.K G σ ρ1 (dats src ++ pe) H' → R J H') I
    ⟨ρ, pe, S, m.mono (fun d ρ1 q v H1 S1 => ?_) (fun _ _ z => z) q⟩) fun v s1 ⟨w, H1, I1, r1, d, ds, ρ1, e1, ⟨O, S1⟩, q1⟩ => ?_
  · obtain ⟨ds, e1, q1⟩ := W.opt_wp q
    exact ⟨d, ds, ρ1, e1, S1, q1⟩
  have rr := S1.top
  cases d with
  | tup ds' =>
    cases e1
    simp only [Rep] at rr
    obtain ⟨a, xs, e2, hq, z, rs⟩ := rr
    subst e2
    cases r1
    exact goes_tup I1 hq (q1 _ _ H1 itOk_tup z ⟨O, S1⟩)
  | lst ds' =>
    cases e1
    simp only [Rep] at rr
    obtain ⟨a, xs, e2, hq, z, rs⟩ := rr
    subst e2
    cases r1
    exact goes_list I1 hq.sq (q1 _ _ H1 itOk_list z ⟨O, S1⟩)
  | str z =>
    simp only [itemsOf] at e1
    split at e1
    · rename_i hz
      cases e1
      simp only [Rep] at rr
      subst rr
      obtain ⟨t, rfl⟩ := r1
      exact goes_str I1 (q1 _ [] H1 itOk_str (by simpa [signs, Str.length] using hz) ⟨O, S1.pop⟩)
    · cases e1
  | _ => cases e1
def asI : Da → Option Int
  | .int i => some i
  | _ => none
theorem of_asI {d : Da} {i : Int} (h : asI d = some i) : d = .int i := by
  cases d <;> simp [asI] at h
  subst h
  rfl
@[simp] theorem asI_int (i : Int) : asI (.int i) = some i := rfl
def rangeD (lo : Int) (n : Nat) : List Da := (List.range n).map fun i : Nat => Da.int (lo + (i : Int))
/-- range(n) -/
def iRange1 (a : W Da) : W (List Da) := (a.bind fun d => W.opt (asI d)).bind fun j => (W.req (j ≤ 1000000 ∧ -1000000 ≤ j)).bind fun _ => W.ret (rangeD 0 j.toNat)
def iRange2 (a b : W Da) : W (List Da) := (a.bind fun d => W.opt (asI d)).bind fun i => (b.bind fun d => W.opt (asI d)).bind fun j => (W.req ((i ≤ 1000000 ∧ -1000000 ≤ i) ∧ j ≤ 1000000 ∧ -1000000 ≤ j)).bind fun _ => W.ret (rangeD i (j - i).toNat)
theorem line_eq : sizeLine = 16777216 := sizeLine_eq
theorem i_range1 {a : Expr} {m : W Da} {p pos : Pos} (hg : Gl X "range") (hm : X.mg "range" = none) (ha : PE X a (tp X.K G x m)) (hs : starEach [a] X.env = (false, eval a X.env) :: starEach [] X.env := by rfl) :
    PI X tg (.Call (.Name "range" p) [a] [] pos) (tit X.K G x (iRange1 m)) := (pi_range1 hg hm (pa_cons ha pa_nil hs) hs).of fun σ H R ⟨ρ, pe, S, q⟩ =>
  ⟨ρ, pe, S, m.mono (fun d ρ1 q v H1 ⟨O, S1⟩ => by
    obtain ⟨j, e, q⟩ := W.opt_wp (o := asI d) q
    have e' := of_asI e
    subst e'
    obtain ⟨⟨h1, h2⟩, q⟩ := q
    have r := S1.top
    simp only [Rep] at r
    subst r
    exact ⟨j, rfl, by omega, by omega, q _ [] H1 itOk_range (by simp [rangeD, line_eq]; omega) ⟨O, S1.pop⟩⟩) (fun _ _ z => z) q⟩
theorem i_range2 {a b : Expr} {m n : W Da} {p pos : Pos} (hg : Gl X "range") (hm : X.mg "range" = none) (ha : PE X a (tp X.K G x m)) (hb : PE X b (tp X.K G x n)) (hs : starEach [a, b] X.env = (false, eval a X.env) :: starEach [b] X.env := by rfl)
    (hs2 : starEach [b] X.env = (false, eval b X.env) :: starEach [] X.env := by rfl) : PI X tg (.Call (.Name "range" p) [a, b] [] pos) (tit X.K G x (iRange2 m n)) := (pi_range2 hg hm (pa_cons ha (pa_cons hb pa_nil hs2) hs) (hs.trans (congrArg _ hs2)) hs2).of fun σ H R ⟨ρ, pe, S, q⟩ =>
  ⟨ρ, pe, S, m.mono (fun d ρ1 q v H1 ⟨O, S1⟩ => by
    obtain ⟨i, e, q⟩ := W.opt_wp q
    have e' := of_asI e
    subst e'
    have r := S1.top
    simp only [Rep] at r
    subst r
    refine ⟨ρ1, _, ⟨O, S1.pop⟩, n.mono (fun d ρ2 q v H2 ⟨O2, S2⟩ => ?_) (fun _ _ z => z) q⟩
    obtain ⟨j, e, q⟩ := W.opt_wp (o := asI d) q
    have e' := of_asI e
    subst e'
    obtain ⟨⟨h1, h2⟩, q⟩ := q
    have r := S2.top
    simp only [Rep] at r
    subst r
    exact ⟨i, j, rfl, ⟨by omega, by omega, by omega, by omega⟩, q _ [] H2 itOk_range (by simp [rangeD, line_eq]; omega) ⟨O2, S2.pop⟩⟩) (fun _ _ z => z) q⟩
/-- zip of two lists, of two tuples -/
def zipD : List Da → List Da → List Da
  | a :: as, b :: bs => .tup [a, b] :: zipD as bs
  | _, _ => []
theorem zipD_get : ∀ {as bs : List Da} {i : Nat} {d : Da}, (zipD as bs)[i]? = some d → ∃ a b, as[i]? = some a ∧ bs[i]? = some b ∧ d = .tup [a, b]
  | [], _, _, _, h => by simp [zipD] at h
  | _ :: _, [], _, _, h => by simp [zipD] at h
  | a :: as, b :: bs, 0, d, h => by
    simp [zipD] at h
    exact ⟨a, b, rfl, rfl, h.symm⟩
  | a :: as, b :: bs, i + 1, d, h => by
    obtain ⟨c, e, h1, h2, h3⟩ := zipD_get (as := as) (bs := bs) (i := i) (d := d) (by simpa [zipD] using h)
    exact ⟨c, e, by simpa using h1, by simpa using h2, h3⟩
theorem zipD_len : ∀ {as bs : List Da}, (zipD as bs).length = min as.length bs.length
  | [], _ => by simp [zipD]
  | _ :: _, [] => by simp [zipD]
  | a :: as, b :: bs => by simp [zipD, zipD_len (as := as) (bs := bs)]
def zip2 : Da → Da → Option (List Da)
  | .lst as, .lst bs => some (zipD as bs)
  | .tup as, .tup bs => some (zipD as bs)
  | _, _ => none
def iZip (a b : W Da) : W (List Da) := a.bind fun d => b.bind fun e => W.opt (zip2 d e)
theorem rep_pair {K : PySem.W.Frag} {L : Addr → Prop} {H : Hp} {T : Addr} {a b : Da} {u w : V} (nT : H T = none) (ra : Rep K L H a u) (rb : Rep K L H b w) : Rep K (fun c => L c ∨ H c = none) (upd H T (.tup [u, w])) (.tup [a, b]) (.ref T) := by
  have hk : Keep L H (upd H T (.tup [u, w])) := fun b x e _ => keep_upd nT b x e
  simp only [Rep, Reps]
  exact ⟨T, [u, w], rfl, .of upd_same, by simp [line_eq], u, [w], rfl, Rep.mono hk (fun _ _ _ z => .inl z) _ _ ra, w, [], rfl, Rep.mono hk (fun _ _ _ z => .inl z) _ _ rb, rfl⟩
theorem itOk_zipL {K : PySem.W.Frag} {a b : Addr} {as bs : List Da} : ItOk K (Itz K a b) [(.ref a, .lst as), (.ref b, .lst bs)] (zipD as bs) := fun L H hs i => by
  have r := hs (.ref a, .lst as) (by simp)
  have r' := hs (.ref b, .lst bs) (by simp)
  simp only [Rep] at r r'
  obtain ⟨a', xs, e, q, _, rs⟩ := r
  obtain ⟨b', ys, e', q', _, rs'⟩ := r'
  cases e
  cases e'
  refine ⟨fun d h => ?_, fun h => ⟨xs, ys, q.sq, q'.sq, ?_⟩⟩
  · obtain ⟨c, c', h1, h2, rfl⟩ := zipD_get h
    obtain ⟨y, hy, ry⟩ := rs.getD h1
    obtain ⟨y', hy', ry'⟩ := rs'.getD h2
    refine ⟨⟨xs, ys, y, y', q.sq, q'.sq, hy, hy'⟩, fun w H' z => ?_⟩
    obtain ⟨T, u, u', rfl, nT, rfl, f1, f2⟩ := z
    have e1 := f1 xs q.sq
    have e2 := f2 ys q'.sq
    rw [hy] at e1
    rw [hy'] at e2
    cases e1
    cases e2
    exact ⟨keep_upd nT, rep_pair nT ry ry'⟩
  · rw [zipD_len] at h
    have := rs.length
    have := rs'.length
    omega
theorem itOk_zipT {K : PySem.W.Frag} {a b : Addr} {as bs : List Da} : ItOk K (RZ.ItzT K a b) [(.ref a, .tup as), (.ref b, .tup bs)] (zipD as bs) := fun L H hs i => by
  have r := hs (.ref a, .tup as) (by simp)
  have r' := hs (.ref b, .tup bs) (by simp)
  simp only [Rep] at r r'
  obtain ⟨a', xs, e, q, _, rs⟩ := r
  obtain ⟨b', ys, e', q', _, rs'⟩ := r'
  cases e
  cases e'
  refine ⟨fun d h => ?_, fun h => ⟨xs, ys, q, q', ?_⟩⟩
  · obtain ⟨c, c', h1, h2, rfl⟩ := zipD_get h
    obtain ⟨y, hy, ry⟩ := rs.getD h1
    obtain ⟨y', hy', ry'⟩ := rs'.getD h2
    refine ⟨⟨xs, ys, y, y', q, q', hy, hy'⟩, fun w H' z => ?_⟩
    obtain ⟨T, u, u', rfl, nT, rfl, f1, f2⟩ := z
    have e1 := f1 xs q
    have e2 := f2 ys q'
    rw [hy] at e1
    rw [hy'] at e2
    cases e1
    cases e2
    exact ⟨keep_upd nT, rep_pair nT ry ry'⟩
  · rw [zipD_len] at h
    have := rs.length
    have := rs'.length
    omega
theorem i_zip {a b : Expr} {m n : W Da} {p pos tpos : Pos} {elts : List Expr} {kk : Nat} (hg : Gl X "zip") (hm : X.mg "zip" = none) (ha : PE X a (tp X.K G x m)) (hb : PE X b (tp X.K G x n))
    (hs0 : starEach [a, b] X.env = (false, eval a X.env) :: starEach [b] X.env := by rfl) (hs : starEach [b] X.env = (false, eval b X.env) :: starEach [] X.env := by rfl) (hpl : (backTo pos (starEach [b] X.env)).any (·.1) = false := by rfl) :
    PI X (.Tuple elts kk tpos) (.Call (.Name "zip" p) [a, b] [] pos) (tit X.K G x (iZip m n)) := (RZ.pi_zipA hg hm (pa_cons ha (pa_cons hb pa_nil hs) hs0) hs0 hpl).of fun σ H R ⟨ρ, pe, S, q⟩ =>
  ⟨ρ, pe, S, m.mono (fun d ρ1 q v H1 S1 => by
    refine ⟨ρ1, _, S1, n.mono (fun d' ρ2 q w H2 ⟨O2, S2⟩ => ?_) (fun _ _ z => z) q⟩
    obtain ⟨ds, e, q⟩ := W.opt_wp q
    have r1 := S2.pop.top
    have r2 := S2.top
    cases d with
    | lst as =>
      cases d' with
      | lst bs =>
        cases e
        have r1' := r1
        have r2' := r2
        simp only [Rep] at r1 r2
        obtain ⟨a', xs, e, q1, z1, rs⟩ := r1
        obtain ⟨b', ys, e', q2, z2, rs'⟩ := r2
        subst e e'
        exact ⟨a', b', xs, ys, rfl, .inl ⟨q1.sq, q2.sq, q _ _ H2 itOk_zipL (by rw [zipD_len]; omega) ⟨O2, S2.pop.pop.pushDs fun p hp => by
          rcases List.mem_cons.mp hp with rfl | hp
          · exact r1'
          · rw [List.mem_singleton.mp hp]
            exact r2'⟩⟩⟩
      | _ => cases e
    | tup as =>
      cases d' with
      | tup bs =>
        cases e
        have r1' := r1
        have r2' := r2
        simp only [Rep] at r1 r2
        obtain ⟨a', xs, e, q1, z1, rs⟩ := r1
        obtain ⟨b', ys, e', q2, z2, rs'⟩ := r2
        subst e e'
        exact ⟨a', b', xs, ys, rfl, .inr ⟨q1, q2, q _ _ H2 itOk_zipT (by rw [zipD_len]; omega) ⟨O2, S2.pop.pop.pushDs fun p hp => by
          rcases List.mem_cons.mp hp with rfl | hp
          · exact r1'
          · rw [List.mem_singleton.mp hp]
            exact r2'⟩⟩⟩
      | _ => cases e
    | _ => cases e) (fun _ _ z => z) q⟩
end
end Pu
end

section
namespace Pu
open PySem PySem.Spec PyProof.Rows L2

/-! ### list comprehensions -/
def wipeE (ρ : En) : List Nat → En
  | [] => ρ
  | v :: vs => (wipeE ρ vs).set v none
def lcW (t : Tt) (c : W Bool) (e : W Da) : List Da → List Da → En → (List Da → Prop) → Prop
  | [], acc, _, k => k acc
  | d :: ds, acc, ρ, k => ∃ ρ', t.bind d ρ = some ρ' ∧ c.wp ρ' (fun b ρ1 => ρ1 = ρ' ∧ if b = true then e.wp ρ' (fun y ρ2 => ρ2 = ρ' ∧ lcW t c e ds (acc ++ [y]) ρ k) noEx else lcW t c e ds acc ρ k) noEx
theorem lcW_mono {t : Tt} {c : W Bool} {e : W Da} {ρ : En} {k k' : List Da → Prop} (hk : ∀ a, k a → k' a) : ∀ {ds acc : List Da}, lcW t c e ds acc ρ k → lcW t c e ds acc ρ k'
  | [], acc, h => hk _ h
  | d :: ds, acc, ⟨ρ', h1, h2⟩ => ⟨ρ', h1, c.mono (fun b ρ1 ⟨e1, q⟩ => ⟨e1, by
    cases b with
    | true => exact iteT (e.mono (fun y ρ2 ⟨e2, q⟩ => ⟨e2, lcW_mono hk q⟩) (fun _ _ z => z) (show (if true = true then _ else _) from q))
    | false => exact iteF (lcW_mono hk (show (if false = true then _ else lcW t c e ds acc ρ k) from q))⟩) (fun _ _ z => z) h2⟩
/-- vs: the slots of the comprehension's own names -/
def eLC (vs : List Nat) (m : W (List Da)) (t : Tt) (c : W Bool) (e : W Da) : W (List Da) :=
  ⟨fun ρ k x => m.wp ρ (fun ds ρ1 => wipeE ρ1 vs = ρ1 ∧ lcW t c e ds [] ρ1 (fun acc => k acc ρ1)) x, fun hk hx h => m.mono (fun _ _ ⟨h1, h2⟩ => ⟨h1, lcW_mono (fun _ z => hk _ _ z) h2⟩) hx h⟩
def bYes : W Bool := W.ret true

section
variable {K : PySem.W.Frag} {G : Gc} {O : Addr → Option Tg} {σ σ' : L2.St} {ρ ρ' : En} {pe : Pend} {H H' : Hp}
theorem wipe_get {σ : L2.St} {i : Nat} : ∀ {vs : List Nat}, i ∉ vs → (wipe σ vs)[i]? = σ[i]?
  | [], _ => rfl
  | v :: vs, h => by
    unfold wipe
    rw [List.getElem?_set_ne (fun e => h (by simp [e])), wipe_get fun z => h (List.mem_cons_of_mem _ z)]
theorem wipeE_none {ρ : En} {i : Nat} : ∀ {vs : List Nat}, i ∈ vs → ∀ c, (wipeE ρ vs)[i]? ≠ some (some c)
  | v :: vs, h, c => by
    unfold wipeE
    intro q
    rcases getset q with ⟨_, e, _⟩ | ⟨n, q⟩
    · cases e
    · rcases List.mem_cons.mp h with e | h
      · exact n e.symm
      · exact wipeE_none h c q
theorem StO.wiped {vs : List Nat} (S : StO K G O σ ρ pe H) (h : wipeE ρ vs = ρ) : StO K G O (wipe σ vs) ρ pe H :=
  S.slots' (wipe_length _ _) fun i c e => by
    by_cases hi : i ∈ vs
    · exact absurd (h ▸ e) (wipeE_none hi c)
    · exact wipe_get hi
theorem StO.unwiped {vs : List Nat} (S : StO K G O (wipe σ vs) ρ pe H) (h : wipeE ρ vs = ρ) : StO K G O σ ρ pe H :=
  S.slots' (wipe_length _ _).symm fun i c e => by
    by_cases hi : i ∈ vs
    · exact absurd (h ▸ e) (wipeE_none hi c)
    · exact (wipe_get hi).symm
theorem ext_get {α : Type} {l l' : List α} (h : ∀ i : Nat, l[i]? = l'[i]?) : l = l' := List.ext_getElem? h
theorem wipe_in {i : Nat} : ∀ {vs : List Nat} {σ : L2.St}, i ∈ vs → (wipe σ vs)[i]? = if i < σ.length then some none else none
  | v :: vs, σ, h => by
    unfold wipe
    by_cases e : v = i
    · subst e
      by_cases hl : v < σ.length
      · rw [List.getElem?_set_self (by rw [wipe_length]; exact hl), if_pos hl]
      · rw [List.getElem?_eq_none (by rw [List.length_set, wipe_length]; omega), if_neg hl]
    · rw [List.getElem?_set_ne e]
      exact wipe_in ((List.mem_cons.mp h).elim (fun z => absurd z.symm e) id)
theorem wipe_but {vs l : List Nat} (b : But l (wipe σ vs) σ') (hl : ∀ i ∈ l, i ∈ vs) : wipe σ' vs = wipe σ vs := ext_get fun i => by
  by_cases hi : i ∈ vs
  · rw [wipe_in hi, wipe_in hi, b.1, wipe_length]
  · rw [wipe_get hi, b.2 i fun z => hi (hl i z)]
end

mutual
theorem bind_but : ∀ {t : Tt} {d : Da} {ρ ρ' : En}, t.bind d ρ = some ρ' → ρ'.length = ρ.length ∧ ∀ i, i ∉ t.slots → ρ'[i]? = ρ[i]?
  | .name i, d, ρ, ρ', h => by
    simp only [Tt.bind, Option.some.injEq] at h
    subst h
    exact ⟨by simp, fun j n => List.getElem?_set_ne (fun e => n (by simp [Tt.slots, e]))⟩
  | .tup ts, .tup ds, ρ, ρ', h => by
    simp only [Tt.bind] at h
    simpa [Tt.slots] using binds_but (ts := ts) h
  | .tup ts, .non, ρ, ρ', h => by simp [Tt.bind] at h
  | .tup ts, .bl _, ρ, ρ', h => by simp [Tt.bind] at h
  | .tup ts, .int _, ρ, ρ', h => by simp [Tt.bind] at h
  | .tup ts, .str _, ρ, ρ', h => by simp [Tt.bind] at h
  | .tup ts, .lst _, ρ, ρ', h => by simp [Tt.bind] at h
  | .tup ts, .obj _ _ _, ρ, ρ', h => by simp [Tt.bind] at h
  | .tup ts, .scr _, ρ, ρ', h => by simp [Tt.bind] at h
theorem binds_but : ∀ {ts : List Tt} {ds : List Da} {ρ ρ' : En}, Tt.binds ts ds ρ = some ρ' → ρ'.length = ρ.length ∧ ∀ i, i ∉ Tt.slotss ts → ρ'[i]? = ρ[i]?
  | [], [], ρ, ρ', h => by
    simp only [Tt.binds, Option.some.injEq] at h
    subst h
    exact ⟨rfl, fun _ _ => rfl⟩
  | [], _ :: _, ρ, ρ', h => by simp [Tt.binds] at h
  | _ :: _, [], ρ, ρ', h => by simp [Tt.binds] at h
  | t :: ts, d :: ds, ρ, ρ', h => by
    simp only [Tt.binds] at h
    cases e1 : t.bind d ρ with
    | none => rw [e1] at h; cases h
    | some ρ1 =>
      rw [e1] at h
      obtain ⟨a1, a2⟩ := bind_but (t := t) e1
      obtain ⟨b1, b2⟩ := binds_but (ts := ts) (ρ := ρ1) h
      refine ⟨b1.trans a1, fun i n => ?_⟩
      simp only [Tt.slotss, List.mem_append, not_or] at n
      exact (b2 i n.2).trans (a2 i n.1)
end
theorem StO.weak {K : PySem.W.Frag} {G : Gc} {O : Addr → Option Tg} {σ σ' : L2.St} {ρ ρ' : En} {pe : Pend} {H : Hp} (S : StO K G O σ ρ pe H) (l : ρ'.length = σ'.length)
    (h : ∀ (i : Nat) c, ρ'[i]? = some (some c) → ρ[i]? = some (some c) ∧ σ'[i]? = σ[i]?) : StO K G O σ' ρ' pe H :=
  ⟨S.frame, S.own, S.pools, l, fun i c e => by
    obtain ⟨h1, h2⟩ := h i c e
    rw [h2]
    exact S.slots i c h1, S.pends⟩
section
variable {X : Cx} {G : Gc} {x : Ex → En → Prop} {tg e it : Expr} {ifs : List Expr}
theorem ts_nil : PTs X [] (ttt X.K G x bYes) := ⟨fun pins s σ H Q I ⟨ρ, pe, S, q⟩ => pts_nil.run pins s σ H Q I (q H S)⟩
theorem ts_one {c : Expr} {m : W Bool} (h : PT X c (ttt X.K G x m)) : PTs X [c] (ttt X.K G x m) := pts_one h
/-- the reading of a comprehension: the new list is our own -/
theorem lc_run {vs : List Nat} {m : W (List Da)} {t : Tt} {c : W Bool} {n : W Da} (hv : ∀ i ∈ t.slots, i ∈ vs) {σ : L2.St} {H : Hp} {Q : VK} (q : tow X.K G x (eLC vs m t c n) σ H Q) :
    tLc (tit X.K G x m) (tgg X.K G t) (ttt X.K G noEx c) (tp X.K G noEx n) vs σ H Q := by
  obtain ⟨ρ, pe, S, q⟩ := q
  refine ⟨ρ, pe, S, m.mono (fun ds ρ1 q J src H1 iok hz S1 D nD => ?_) (fun _ _ z => z) q⟩
  obtain ⟨hw, q⟩ := q
  obtain ⟨O, S1⟩ := S1
  obtain ⟨S2, rs⟩ := S1.popD
  have hkeep : Keep (Lof G O) H1 (upd H1 D (.lst [])) := fun b u e _ => keep_upd nD b u e
  have S3 := S2.pushOwn (ds := []) (vs := []) nD (Nat.zero_le _) (by simp [Reps])
  have nb : ∀ {b u}, H1 b = some u → b ≠ D := fun h => ne_of_none h nD
  have S4 := S3.pushDs (l := src) fun p hp => Rep.mono hkeep (fun b u e z => ⟨(if_neg (nb e)).trans (clr_none z.1), z.2⟩) _ _ (rs p hp)
  refine ⟨fun i k H' => k = ds.length - i ∧ i ≤ ds.length ∧ ∃ acc, acc.length ≤ i ∧ Sd X.K G (wipe σ vs) ρ1 (dats src ++ ((.ref D, .own acc) :: pe)) H' ∧
    lcW t c n (ds.drop i) acc ρ1 (fun acc => ∀ v H', Sd X.K G σ ρ1 ((v, .own acc) :: pe) H' → Q v H'), ⟨_, rfl, Nat.zero_le _, [], Nat.le_refl _, ⟨_, S4.wiped hw⟩, q⟩, ?_⟩
  rintro i k H' ⟨rfl, hi, acc, ha, ⟨O5, S5⟩, q5⟩
  obtain ⟨S6, rs6⟩ := S5.popD
  have io := iok (Lof G O5) H' rs6 i
  by_cases hlt : i < ds.length
  · obtain ⟨g, y⟩ := io.1 ds[i] (List.getElem?_eq_getElem hlt)
    rw [List.drop_eq_getElem_cons hlt] at q5
    refine .inr ⟨g, fun H'' => ∃ acc, acc.length ≤ i + 1 ∧ Sd X.K G (wipe σ vs) ρ1 (dats src ++ ((.ref D, .own acc) :: pe)) H'' ∧
      lcW t c n (ds.drop (i + 1)) acc ρ1 (fun acc => ∀ v H', Sd X.K G σ ρ1 ((v, .own acc) :: pe) H' → Q v H'), fun H'' ⟨acc', h1, h2, h3⟩ => ⟨ds.length - (i + 1), by omega, rfl, hlt, acc', h1, h2, h3⟩, fun w H'' hy => ?_⟩
    obtain ⟨kk, rw'⟩ := y w H'' hy
    obtain ⟨ρ2, hb, qc⟩ := q5
    have S7 : StO X.K G O5 (wipe σ vs) ρ1 ((w, .dat ds[i]) :: (dats src ++ ((.ref D, .own acc) :: pe))) H'' := (S5.heap kk).pushD (Rep.mono (fun _ _ e _ => e) (fun b u e z => z.elim id fun z => S5.fresh z) _ _ rw')
    refine ⟨ρ1, _, _, ρ2, ⟨O5, S7⟩, hb, fun σ2 H2 bt S8 => ⟨wipe_but bt hv, ?_⟩⟩
    refine ⟨ρ2, _, S8, c.mono (fun b ρ3 hq H3 S9 => ?_) (fun _ _ z => z) qc⟩
    obtain ⟨e3, q9⟩ := hq
    subst e3
    -- back to the block's slots
    have toOld : ∀ {pe' : Pend} {Hx : Hp}, Sd X.K G σ2 ρ3 pe' Hx → Sd X.K G (wipe σ vs) ρ1 pe' Hx := fun {pe' Hx} ⟨Oy, Sy⟩ => by
      obtain ⟨bl, bo⟩ := bind_but hb
      refine ⟨Oy, Sy.weak (by rw [← bl, Sy.len, bt.1]) fun j cc ej => ?_⟩
      have nj : j ∉ vs := fun z => wipeE_none z cc (hw.symm ▸ ej)
      have nt : j ∉ t.slots := fun z => nj (hv j z)
      exact ⟨(bo j nt).trans ej, (bt.2 j nt).symm⟩
    cases b with
    | false =>
      refine iteF ⟨acc, Nat.le_succ_of_le ha, toOld S9, ?_⟩
      exact (show (if false = true then _ else lcW t c n (ds.drop (i + 1)) acc ρ1 _) from q9)
    | true =>
      refine iteT ⟨ρ3, _, S9, n.mono (fun yd ρ4 hq yv H4 S10 => ?_) (fun _ _ z => z) (show (if true = true then _ else _) from q9)⟩
      obtain ⟨e4, q10⟩ := hq
      subst e4
      obtain ⟨Oz, Sz⟩ := S10
      have ry := Sz.top
      obtain ⟨Sw, rsw⟩ := Sz.pop.popD
      obtain ⟨p, accv, ep, _, hp, _, ra, _⟩ := Sw.pends.1
      cases ep
      have la := ra.length
      obtain ⟨Sq, kq⟩ := Sw.changeTop (es := acc ++ [yd]) (ys := accv ++ [yv]) (by simp; omega) (ra.snoc ry)
      refine ⟨accv, hp, by omega, acc ++ [yd], by simp; omega, toOld ⟨Oz, Sq.pushDs fun p hp => Rep.mono kq (fun _ _ _ z => z) _ _ (rsw p hp)⟩, q10⟩
  · have e : i = ds.length := by omega
    subst e
    refine .inl ⟨io.2 (Nat.le_refl _), ?_⟩
    rw [List.drop_length] at q5
    exact q5 _ _ ⟨_, S6.unwiped hw⟩
theorem p_lc {elt : Expr} {scope : Scope} {own : List (Str × Nat)} {pos : Pos} {m : W (List Da)} {t : Tt} {c : W Bool} {n : W Da} (hc : X.calm = true) (hN : X.N.Nodup) (hi : PI X tg it (tit X.K G x m)) (ok : BlkOk X.N X.env.scope scope own)
    (hg : ∀ (s : Shared) (H : Hp) (C : Addr) (cl : List (Str × Addr)) (fp : List Addr), PG (X.blk s H scope (compEnvC scope cl C X.env) fp) tg (tgg X.K G t))
    (ht : ∀ (s : Shared) (H : Hp) (C : Addr) (cl : List (Str × Addr)) (fp : List Addr), PTs (X.blk s H scope (compEnvC scope cl C X.env) fp) ifs (ttt X.K G noEx c))
    (he : ∀ (s : Shared) (H : Hp) (C : Addr) (cl : List (Str × Addr)) (fp : List Addr), PE (X.blk s H scope (compEnvC scope cl C X.env) fp) elt (tp X.K G noEx n))
    (hv : ∀ i ∈ t.slots, i ∈ own.map (·.2)) (hs : ∀ y, foldedSetIterable it X.env y = pure y := by intro _; rfl) :
    PE X (.ListComp elt [⟨tg, it, ifs, 0⟩] scope pos) (tow X.K G x (eLC (own.map (·.2)) m t c n)) := (pe_lc hc hN hi ok hg ht he hs).of fun _ _ _ q => lc_run hv q
end
end Pu
end

section
namespace Pu
open PySem PySem.Spec PyProof.Rows L2

/-! ### statements -/
structure Fl where
  nx : En → Prop
  rt : Da → En → Prop
  bk : En → Prop
  ct : En → Prop
  ex : Ex → En → Prop
structure Fl.Le (E E' : Fl) : Prop where
  nx : ∀ ρ, E.nx ρ → E'.nx ρ
  rt : ∀ d ρ, E.rt d ρ → E'.rt d ρ
  bk : ∀ ρ, E.bk ρ → E'.bk ρ
  ct : ∀ ρ, E.ct ρ → E'.ct ρ
  ex : ∀ e ρ, E.ex e ρ → E'.ex e ρ
structure Sx where
  wp : En → Fl → Prop
  mono : ∀ {ρ : En} {E E' : Fl}, Fl.Le E E' → wp ρ E → wp ρ E'
def flOf (K : PySem.W.Frag) (G : Gc) (x : Ex → En → Prop) (σ0 : L2.St) (pe : Pend) (D : Ends) : Fl :=
  ⟨fun ρ => ∀ σ H, Sd K G σ ρ pe H → D.nx σ H, fun d ρ => ∀ v σ H, Sd K G σ ρ ((v, .dat d) :: pe) H → D.rt v H, fun ρ => ∀ σ H, Sd K G σ ρ pe H → D.bk σ H, fun ρ => ∀ σ H, Sd K G σ ρ pe H → D.ct σ H, x⟩
def ts (K : PySem.W.Frag) (G : Gc) (x : Ex → En → Prop) (S : Sx) : TS := fun D σ H => ∃ ρ pe, Sd K G σ ρ pe H ∧ S.wp ρ (flOf K G x σ pe D)

def sPass : Sx := ⟨fun ρ E => E.nx ρ, fun l h => l.nx _ h⟩
def sBreak : Sx := ⟨fun ρ E => E.bk ρ, fun l h => l.bk _ h⟩
def sCont : Sx := ⟨fun ρ E => E.ct ρ, fun l h => l.ct _ h⟩
def sSeq (a b : Sx) : Sx := ⟨fun ρ E => a.wp ρ { E with nx := fun ρ' => b.wp ρ' E }, fun {ρ E E'} l h => a.mono (E := { E with nx := fun ρ' => b.wp ρ' E }) ⟨fun ρ' q => b.mono l q, l.rt, l.bk, l.ct, l.ex⟩ h⟩
def sIf (c : W Bool) (a b : Sx) : Sx := ⟨fun ρ E => c.wp ρ (fun k ρ' => if k = true then a.wp ρ' E else b.wp ρ' E) E.ex, fun l h => c.mono (fun k ρ' q => by
  cases k with
  | true => exact iteT (a.mono l (show (if true = true then _ else _) from q))
  | false => exact iteF (b.mono l (show (if false = true then _ else b.wp ρ' _) from q))) l.ex h⟩
def sExpr (m : W Da) : Sx := ⟨fun ρ E => m.wp ρ (fun _ ρ' => E.nx ρ') E.ex, fun l h => m.mono (fun _ ρ' q => l.nx _ q) l.ex h⟩
def sRet (m : W Da) : Sx := ⟨fun ρ E => m.wp ρ E.rt E.ex, fun l h => m.mono l.rt l.ex h⟩
def sRetN : Sx := ⟨fun ρ E => E.rt .non ρ, fun l h => l.rt _ _ h⟩
def sAsg (m : W Da) (t : Tt) : Sx := ⟨fun ρ E => m.wp ρ (fun d ρ' => ∃ ρ2, t.bind d ρ' = some ρ2 ∧ E.nx ρ2) E.ex, fun l h => m.mono (fun d ρ' ⟨ρ2, e, q⟩ => ⟨ρ2, e, l.nx _ q⟩) l.ex h⟩
def sSet (i : Nat) (m : W Da) : Sx := ⟨fun ρ E => m.wp ρ (fun d ρ' => E.nx (ρ'.set i (some (.dat d)))) E.ex, fun l h => m.mono (fun d ρ' q => l.nx _ q) l.ex h⟩
def sOwn (i : Nat) (m : W (List Da)) : Sx := ⟨fun ρ E => m.wp ρ (fun ds ρ' => E.nx (ρ'.set i (some (.own ds)))) E.ex, fun l h => m.mono (fun d ρ' q => l.nx _ q) l.ex h⟩
def sAug (i : Nat) (f : Da → Da → Option Da) (m : W Da) : Sx := ⟨fun ρ E => ∃ a, look ρ i = some a ∧ m.wp ρ (fun d ρ' => ∃ r, f a d = some r ∧ E.nx (ρ'.set i (some (.dat r)))) E.ex, fun l ⟨a, e, h⟩ => ⟨a, e, m.mono (fun d ρ' ⟨r, e, q⟩ => ⟨r, e, l.nx _ q⟩) l.ex h⟩⟩
/-- what the proof does between two statements: a slot is forgotten, an own list becomes data -/
def sForget (i : Nat) (s : Sx) : Sx := ⟨fun ρ E => s.wp (ρ.set i none) E, fun l h => s.mono l h⟩
def sFreeze (i : Nat) (s : Sx) : Sx := ⟨fun ρ E => ∃ ds, lookOwn ρ i = some ds ∧ s.wp (ρ.set i (some (.dat (.lst ds)))) E, fun l ⟨ds, e, h⟩ => ⟨ds, e, s.mono l h⟩⟩
def forW (t : Tt) (b : Sx) : List Da → En → Fl → Prop
  | [], ρ, E => E.nx ρ
  | d :: ds, ρ, E => ∃ ρ', t.bind d ρ = some ρ' ∧ b.wp ρ' { nx := fun ρ1 => forW t b ds ρ1 E, rt := E.rt, bk := E.nx, ct := fun ρ1 => forW t b ds ρ1 E, ex := E.ex }
theorem forW_mono {t : Tt} {b : Sx} {E E' : Fl} (l : Fl.Le E E') : ∀ {ds : List Da} {ρ : En}, forW t b ds ρ E → forW t b ds ρ E'
  | [], _, h => l.nx _ h
  | d :: ds, ρ, ⟨ρ', e, h⟩ => ⟨ρ', e, b.mono (E := { nx := fun ρ1 => forW t b ds ρ1 E, rt := E.rt, bk := E.nx, ct := fun ρ1 => forW t b ds ρ1 E, ex := E.ex }) ⟨fun _ q => forW_mono l q, l.rt, l.nx, fun _ q => forW_mono l q, l.ex⟩ h⟩
def sFor (m : W (List Da)) (t : Tt) (b : Sx) : Sx := ⟨fun ρ E => m.wp ρ (fun ds ρ' => forW t b ds ρ' E) E.ex, fun l h => m.mono (fun _ _ q => forW_mono l q) l.ex h⟩
def sWhile (c : W Bool) (b : Sx) : Sx := ⟨fun ρ E => ∃ I : Nat → En → Prop, (∃ n, I n ρ) ∧ ∀ n ρ, I n ρ → c.wp ρ (fun k ρ' => if k = true then
    b.wp ρ' { nx := fun ρ1 => ∃ m, m < n ∧ I m ρ1, rt := E.rt, bk := E.nx, ct := fun ρ1 => ∃ m, m < n ∧ I m ρ1, ex := E.ex } else E.nx ρ') E.ex,
  fun {ρ E E'} l ⟨I, h0, h⟩ => ⟨I, h0, fun n ρ hi => c.mono (fun k ρ' q => by
    cases k with
    | true => exact iteT (b.mono (E := { nx := fun ρ1 => ∃ m, m < n ∧ I m ρ1, rt := E.rt, bk := E.nx, ct := fun ρ1 => ∃ m, m < n ∧ I m ρ1, ex := E.ex }) ⟨fun _ z => z, l.rt, l.nx, fun _ z => z, l.ex⟩ (show (if true = true then _ else _) from q))
    | false => exact iteF (l.nx _ (show (if false = true then _ else E.nx ρ') from q))) l.ex (h n ρ hi)⟩⟩

section
variable {X : Cx} {G : Gc} {x : Ex → En → Prop}
theorem flOf_rt {K : PySem.W.Frag} {σ : L2.St} {ρ : En} {pe : Pend} {D : Ends} {d : Da} (h : (flOf K G x σ pe D).rt d ρ) {v : V} {σ' : L2.St} {H : Hp} (S : Sd K G σ' ρ ((v, .dat d) :: pe) H) : D.rt v H := h v σ' H S
theorem s_pass {pos : Pos} : PS X (.Pass pos) (ts X.K G x sPass) := ps_pass.of fun D σ H ⟨ρ, pe, S, q⟩ => q σ H S
theorem s_break {pos : Pos} : PS X (.Break pos) (ts X.K G x sBreak) := ps_break.of fun D σ H ⟨ρ, pe, S, q⟩ => q σ H S
theorem s_cont {pos : Pos} : PS X (.Continue pos) (ts X.K G x sCont) := ps_continue.of fun D σ H ⟨ρ, pe, S, q⟩ => q σ H S
theorem ss_nil : PSs X [] (ts X.K G x sPass) := pss_nil.of fun D σ H ⟨ρ, pe, S, q⟩ => q σ H S
theorem ss_cons {st : Stmt} {rest : List Stmt} {a b : Sx} (h1 : PS X st (ts X.K G x a)) (h2 : PSs X rest (ts X.K G x b)) : PSs X (st :: rest) (ts X.K G x (sSeq a b)) := (pss_cons h1 h2).of fun D σ H ⟨ρ, pe, S, q⟩ =>
  ⟨ρ, pe, S, a.mono (E := { flOf X.K G x σ pe D with nx := fun ρ' => b.wp ρ' (flOf X.K G x σ pe D) }) ⟨fun ρ' q σ' H' S' => ⟨ρ', pe, S', q⟩, fun _ _ z => z, fun _ z => z, fun _ z => z, fun _ _ z => z⟩ q⟩
theorem ss_one {st : Stmt} {a : Sx} (h1 : PS X st (ts X.K G x a)) : PSs X [st] (ts X.K G x a) := pss_one h1
theorem s_if {c : Expr} {a b : List Stmt} {pos : Pos} {mc : W Bool} {sa sb : Sx} (hc : PT X c (ttt X.K G x mc)) (ha : PSs X a (ts X.K G x sa)) (hb : PSs X b (ts X.K G x sb)) : PS X (.If c a b pos) (ts X.K G x (sIf mc sa sb)) :=
  (ps_if hc ha hb).of fun D σ H ⟨ρ, pe, S, q⟩ => ⟨ρ, pe, S, mc.mono (fun k ρ1 q H1 S1 => by
    cases k with
    | true => exact iteT ⟨ρ1, pe, S1, q⟩
    | false => exact iteF ⟨ρ1, pe, S1, q⟩) (fun _ _ z => z) q⟩
theorem s_expr {e : Expr} {pos : Pos} {m : W Da} (he : PE X e (tp X.K G x m)) (hs : swapsWith e none pos.line X.env = pure false := by rfl) : PS X (.Expr e pos) (ts X.K G x (sExpr m)) :=
  (ps_expr he hs).of fun D σ H ⟨ρ, pe, S, q⟩ => ⟨ρ, pe, S, m.mono (fun d ρ1 q v H1 S1 => q σ H1 S1.pop) (fun _ _ z => z) q⟩
theorem s_ret {e : Expr} {pos : Pos} {m : W Da} (he : PE X e (tp X.K G x m)) : PS X (.Return (some e) pos) (ts X.K G x (sRet m)) :=
  (ps_ret he).of fun D σ H ⟨ρ, pe, S, q⟩ => ⟨ρ, pe, S, m.mono (fun d ρ1 q v H1 S1 => q v σ H1 S1) (fun _ _ z => z) q⟩
theorem s_retN {pos : Pos} : PS X (.Return none pos) (ts X.K G x sRetN) := ps_retN.of fun D σ H ⟨ρ, pe, ⟨O, S⟩, q⟩ => q .non σ H ⟨O, S.pushD (by simp [Rep])⟩
theorem s_asg {tg e : Expr} {pos : Pos} {m : W Da} {t : Tt} (he : PE X e (tp X.K G x m)) (hg : PG X tg (tgg X.K G t)) (hs : swapsWithSole [tg] e pos.line X.env = pure false := by rfl) (hw : swappedStores [tg] e X.env = pure none := by rfl)
    (h1 : (assignEach [tg] X.env).map (·.2) = [assign tg X.env] := by rfl) : PS X (.Assign [tg] e pos) (ts X.K G x (sAsg m t)) := (ps_asg he hg hs hw h1).of fun D σ H ⟨ρ, pe, S, q⟩ =>
  ⟨ρ, pe, S, m.mono (fun d ρ1 ⟨ρ2, e, q⟩ v H1 S1 => ⟨ρ1, pe, d, ρ2, S1, e, fun σ' H' _ S' => q σ' H' S'⟩) (fun _ _ z => z) q⟩
theorem s_set {i : Nat} {n : Str} {e : Expr} {pos pos' : Pos} {m : W Da} (hN : X.N.Nodup) (hi : X.N[i]? = some n) (hx : Loc X.env.scope n) (he : PE X e (tp X.K G x m)) (hs : swapsWith e (some (.Name n pos')) pos.line X.env = pure false := by rfl)
    (hf : X.fn n = true ∨ X.env.scope.names.lookup n = some .local := by first | exact .inl rfl | exact .inr rfl | assumption) : PS X (.Assign [.Name n pos'] e pos) (ts X.K G x (sSet i m)) :=
  (ps_set hN hi hx he hs hf).of fun D σ H ⟨ρ, pe, S, q⟩ => ⟨ρ, pe, S, m.mono (fun d ρ1 q v H1 ⟨O, S1⟩ => q _ H1 ⟨_, S1.store i⟩) (fun _ _ z => z) q⟩
theorem s_own {i : Nat} {n : Str} {e : Expr} {pos pos' : Pos} {m : W (List Da)} (hN : X.N.Nodup) (hi : X.N[i]? = some n) (hx : Loc X.env.scope n) (he : PE X e (tow X.K G x m)) (hs : swapsWith e (some (.Name n pos')) pos.line X.env = pure false := by rfl)
    (hf : X.fn n = true ∨ X.env.scope.names.lookup n = some .local := by first | exact .inl rfl | exact .inr rfl | assumption) : PS X (.Assign [.Name n pos'] e pos) (ts X.K G x (sOwn i m)) :=
  (ps_set hN hi hx he hs hf).of fun D σ H ⟨ρ, pe, S, q⟩ => ⟨ρ, pe, S, m.mono (fun d ρ1 q v H1 ⟨O, S1⟩ => q _ H1 ⟨_, S1.storeOwn i⟩) (fun _ _ z => z) q⟩
/-- name = [.. for ..] on one line -/
theorem s_ownLc {i : Nat} {y : Str} {py : Pos} {tg it elt : Expr} {ifs : List Expr} {scope : Scope} {own : List (Str × Nat)} {pos spos : Pos} {m : W (List Da)} {t : Tt} {c : W Bool} {n : W Da} (hc : X.calm = true) (hN : X.N.Nodup) (hy : X.N[i]? = some y)
    (hyl : X.env.scope.names.lookup y = some .local) (hsw : swapsWith (.ListComp elt [⟨tg, it, ifs, 0⟩] scope pos) (some (.Name y py)) spos.line X.env = pure true) (hi : PI X tg it (tit X.K G x m)) (ok : BlkOk X.N X.env.scope scope own)
    (hg : ∀ (s : Shared) (H : Hp) (C : Addr) (cl : List (Str × Addr)) (fp : List Addr), PG (X.blk s H scope (compEnvC scope cl C X.env) fp) tg (tgg X.K G t))
    (ht : ∀ (s : Shared) (H : Hp) (C : Addr) (cl : List (Str × Addr)) (fp : List Addr), PTs (X.blk s H scope (compEnvC scope cl C X.env) fp) ifs (ttt X.K G noEx c))
    (he : ∀ (s : Shared) (H : Hp) (C : Addr) (cl : List (Str × Addr)) (fp : List Addr), PE (X.blk s H scope (compEnvC scope cl C X.env) fp) elt (tp X.K G noEx n))
    (hv : ∀ i ∈ t.slots, i ∈ own.map (·.2)) (hs : ∀ y, foldedSetIterable it X.env y = pure y := by intro _; rfl) :
    PS X (.Assign [.Name y py] (.ListComp elt [⟨tg, it, ifs, 0⟩] scope pos) spos) (ts X.K G x (sOwn i (eLC (own.map (·.2)) m t c n))) := (ps_setLc hc hN hy hyl hsw hi ok hg ht he hs).of fun D σ H ⟨ρ, pe, S, q⟩ =>
  lc_run hv ⟨ρ, pe, S, (eLC (own.map (·.2)) m t c n).mono (ρ := ρ) (k := fun ds ρ' => (flOf X.K G x σ pe D).nx (ρ'.set i (some (.own ds)))) (x := x) (fun d ρ1 q v H1 ⟨O, S1⟩ => q _ H1 ⟨_, S1.storeOwn i⟩) (fun _ _ z => z) (show (eLC (own.map (·.2)) m t c n).wp ρ _ _ from q)⟩
theorem s_setLc {i : Nat} {y : Str} {py : Pos} {tg it elt : Expr} {ifs : List Expr} {scope : Scope} {own : List (Str × Nat)} {pos spos : Pos} {m : W (List Da)} {t : Tt} {c : W Bool} {n : W Da} (hc : X.calm = true) (hN : X.N.Nodup) (hy : X.N[i]? = some y)
    (hyl : X.env.scope.names.lookup y = some .local) (hsw : swapsWith (.ListComp elt [⟨tg, it, ifs, 0⟩] scope pos) (some (.Name y py)) spos.line X.env = pure true) (hi : PI X tg it (tit X.K G x m)) (ok : BlkOk X.N X.env.scope scope own)
    (hg : ∀ (s : Shared) (H : Hp) (C : Addr) (cl : List (Str × Addr)) (fp : List Addr), PG (X.blk s H scope (compEnvC scope cl C X.env) fp) tg (tgg X.K G t))
    (ht : ∀ (s : Shared) (H : Hp) (C : Addr) (cl : List (Str × Addr)) (fp : List Addr), PTs (X.blk s H scope (compEnvC scope cl C X.env) fp) ifs (ttt X.K G noEx c))
    (he : ∀ (s : Shared) (H : Hp) (C : Addr) (cl : List (Str × Addr)) (fp : List Addr), PE (X.blk s H scope (compEnvC scope cl C X.env) fp) elt (tp X.K G noEx n))
    (hv : ∀ i ∈ t.slots, i ∈ own.map (·.2)) (hs : ∀ y, foldedSetIterable it X.env y = pure y := by intro _; rfl) :
    PS X (.Assign [.Name y py] (.ListComp elt [⟨tg, it, ifs, 0⟩] scope pos) spos) (ts X.K G x (sSet i (eFrz (eLC (own.map (·.2)) m t c n)))) := (ps_setLc hc hN hy hyl hsw hi ok hg ht he hs).of fun D σ H ⟨ρ, pe, S, q⟩ =>
  lc_run hv ⟨ρ, pe, S, (eLC (own.map (·.2)) m t c n).mono (ρ := ρ) (k := fun ds ρ' => (flOf X.K G x σ pe D).nx (ρ'.set i (some (.dat (.lst ds))))) (x := x) (fun d ρ1 q v H1 ⟨O, S1⟩ => q _ H1 ⟨_, S1.freeze.store i⟩) (fun _ _ z => z) (show (eLC (own.map (·.2)) m t c n).wp ρ _ _ from q)⟩
theorem ss_forget {st : List Stmt} {a : Sx} (i : Nat) (h : PSs X st (ts X.K G x a)) : PSs X st (ts X.K G x (sForget i a)) := h.of fun D σ H ⟨ρ, pe, ⟨O, S⟩, q⟩ =>
  ⟨ρ.set i none, pe, ⟨O, S.weak (by simp [S.len]) fun j c e => by
    rcases getset e with ⟨_, e, _⟩ | ⟨_, e⟩
    · cases e
    · exact ⟨e, rfl⟩⟩, q⟩
theorem ss_freeze {st : List Stmt} {a : Sx} (i : Nat) (h : PSs X st (ts X.K G x a)) : PSs X st (ts X.K G x (sFreeze i a)) := h.of fun D σ H ⟨ρ, pe, ⟨O, S⟩, ds, e, q⟩ => ⟨_, pe, ⟨_, S.freezeSlot (of_lookOwn e)⟩, q⟩
theorem s_for {tg it : Expr} {body : List Stmt} {pos : Pos} {m : W (List Da)} {t : Tt} {b : Sx} (hp : PassesOwn (model X.prog X.w) X.A X.env X.xe) (hc : X.calm = true) (hi : PI X tg it (tit X.K G x m)) (hg : PG X tg (tgg X.K G t)) (hb : PSs X body (ts X.K G x b))
    (hs : ∀ y, foldedSetIterable it X.env y = pure y := by intro _; rfl) : PS X (.For tg it body [] pos) (ts X.K G x (sFor m t b)) := (ps_for hp hc hi hg hb hs).of fun D σ H ⟨ρ, pe, S, q⟩ => by
  refine ⟨ρ, pe, S, m.mono (fun ds ρ1 q J src H1 iok hz S1 => ?_) (fun _ _ z => z) q⟩
  refine ⟨fun i k σ' H' => k = ds.length - i ∧ i ≤ ds.length ∧ ∃ ρ', Sd X.K G σ' ρ' (dats src ++ pe) H' ∧ forW t b (ds.drop i) ρ' (flOf X.K G x σ pe D), ⟨_, rfl, Nat.zero_le _, ρ1, S1, q⟩, ?_⟩
  rintro i k σ' H' ⟨rfl, hi, ρ', ⟨O, S2⟩, q2⟩
  obtain ⟨S3, rs⟩ := S2.popD
  have io := iok (Lof G O) H' rs i
  by_cases hlt : i < ds.length
  · obtain ⟨g, y⟩ := io.1 ds[i] (List.getElem?_eq_getElem hlt)
    rw [List.drop_eq_getElem_cons hlt] at q2
    obtain ⟨ρ2, hb2, q3⟩ := q2
    refine .inr ⟨g, fun σ'' H'' => ∃ ρ'', Sd X.K G σ'' ρ'' (dats src ++ pe) H'' ∧ forW t b (ds.drop (i + 1)) ρ'' (flOf X.K G x σ pe D), fun σ'' H'' ⟨ρ'', h1, h2⟩ => ⟨ds.length - (i + 1), by omega, rfl, hlt, ρ'', h1, h2⟩, fun w H'' hy => ?_⟩
    obtain ⟨kk, rw'⟩ := y w H'' hy
    have S4 : StO X.K G O σ' ρ' ((w, .dat ds[i]) :: (dats src ++ pe)) H'' := (S2.heap kk).pushD (Rep.mono (fun _ _ e _ => e) (fun _ u e z => z.elim id fun z => S2.fresh z) _ _ rw')
    have pops : ∀ {σ5 : L2.St} {ρ5 : En} {H5 : Hp}, Sd X.K G σ5 ρ5 (dats src ++ pe) H5 → Sd X.K G σ5 ρ5 pe H5 := fun ⟨O5, S5⟩ => ⟨O5, S5.popD.1⟩
    refine ⟨ρ', _, _, ρ2, ⟨O, S4⟩, hb2, fun σ2 H2 _ S5 => ⟨ρ2, _, S5, b.mono (E := { nx := fun ρ1 => forW t b (ds.drop (i + 1)) ρ1 (flOf X.K G x σ pe D), rt := (flOf X.K G x σ pe D).rt, bk := (flOf X.K G x σ pe D).nx, ct := fun ρ1 => forW t b (ds.drop (i + 1)) ρ1 (flOf X.K G x σ pe D), ex := x }) ⟨fun ρ5 q5 σ5 H5 S5 => ⟨ρ5, S5, q5⟩, fun d ρ5 q5 v σ5 H5 ⟨O5, S5⟩ => ?_, fun ρ5 q5 σ5 H5 S5 => q5 σ5 H5 (pops S5), fun ρ5 q5 σ5 H5 S5 => ⟨ρ5, S5, q5⟩, fun _ _ z => z⟩ q3⟩⟩
    exact q5 v σ5 H5 ⟨O5, S5.pop.popD.1.pushD S5.top⟩
  · have e : i = ds.length := by omega
    subst e
    rw [List.drop_length] at q2
    exact .inl ⟨io.2 (Nat.le_refl _), q2 σ' H' ⟨O, S3⟩⟩
theorem s_while {c : Expr} {body : List Stmt} {pos : Pos} {mc : W Bool} {b : Sx} (hp : PassesOwn (model X.prog X.w) X.A X.env X.xe) (hc : PT X c (ttt X.K G x mc)) (hb : PSs X body (ts X.K G x b)) : PS X (.While c body [] pos) (ts X.K G x (sWhile mc b)) :=
  (ps_while hp hc hb).of fun D σ H ⟨ρ, pe, S, I, ⟨n0, h0⟩, h⟩ => ⟨fun n σ' H' => ∃ ρ', Sd X.K G σ' ρ' pe H' ∧ I n ρ', ⟨n0, ρ, S, h0⟩, fun n σ1 H1 ⟨ρ1, S1, i1⟩ => ⟨ρ1, pe, S1, mc.mono (fun k ρ2 q H2 S2 => by
    cases k with
    | true => exact iteT ⟨fun σ' H' => ∃ m, m < n ∧ ∃ ρ', Sd X.K G σ' ρ' pe H' ∧ I m ρ', fun σ' H' z => z, ρ2, pe, S2, b.mono (E := { nx := fun ρ1 => ∃ m, m < n ∧ I m ρ1, rt := (flOf X.K G x σ pe D).rt, bk := (flOf X.K G x σ pe D).nx, ct := fun ρ1 => ∃ m, m < n ∧ I m ρ1, ex := x }) ⟨fun ρ5 ⟨m, hm, z⟩ σ5 H5 S5 => ⟨m, hm, ρ5, S5, z⟩, fun _ _ z => z, fun _ z => z, fun ρ5 ⟨m, hm, z⟩ σ5 H5 S5 => ⟨m, hm, ρ5, S5, z⟩, fun _ _ z => z⟩ q⟩
    | false => exact iteF (q σ1 H2 S2)) (fun _ _ z => z) (h n ρ1 i1)⟩⟩
/-- x op= e -/
def Ip2 (t : TIp) (f : Da → Da → Option Da) (K : PySem.W.Frag) : Prop := ∀ (L : Addr → Prop) (H : Hp) (dx dy d : Da) (a b : V) (Q : VK), Rep K L H dx a → Rep K L H dy b → f dx dy = some d →
  (∀ v H', (∀ c u, H c = some u → H' c = some u) → Rep K (fun c => L c ∨ H c = none) H' d v → Q v H') → t a b H Q
theorem s_aug {i : Nat} {n : Str} {e : Expr} {op : Operator} {ti : TIp} {pos pos' : Pos} {m : W Da} {f : Da → Da → Option Da} (hN : X.N.Nodup) (hi : X.N[i]? = some n) (hx : Loc X.env.scope n) (he : PE X e (tp X.K G x m)) (ho : PIp X op ti) (h : Ip2 ti f X.K)
    (hf : X.fn n = true ∨ X.env.scope.names.lookup n = some .local := by first | exact .inl rfl | exact .inr rfl | assumption) : PS X (.AugAssign (.Name n pos') op e pos) (ts X.K G x (sAug i f m)) :=
  (ps_aug hN hi hx he ho hf).of fun D σ H ⟨ρ, pe, ⟨O, S⟩, a, ea, q⟩ => by
    obtain ⟨v, hv, r⟩ := S.slots i _ (of_look ea)
    have S1 : StO X.K G O σ ρ ((v, .dat a) :: pe) H := S.push r
    refine ⟨v, hv, ρ, _, ⟨O, S1⟩, m.mono (fun d ρ1 ⟨r, er, q⟩ w H1 ⟨O1, S2⟩ => ?_) (fun _ _ z => z) q⟩
    exact h (Lof G O1) H1 _ _ _ v w _ S2.pop.top S2.top er fun u H' k rr => q _ H' ⟨_, (S2.pop.pop.result k rr).store i⟩
end
end Pu
end

section
namespace Pu
open PySem PySem.Spec PyProof.Rows L2

/-! ### defs: what they promise, said of data alone -/
structure Fn where
  wp : List Da → (Da → Prop) → (Ex → Prop) → Prop
  mono : ∀ {as : List Da} {k k' : Da → Prop} {x x' : Ex → Prop}, (∀ d, k d → k' d) → (∀ e, x e → x' e) → wp as k x → wp as k' x'
end Pu
namespace Pu
open PySem PySem.Spec PyProof.Rows L2
/-- how an exception lies: d its dict -/
def XdAt (K : PySem.W.Frag) (L : Addr → Prop) (H : Hp) (d : Addr) (e : Ex) : Prop := ∃ y, H d = some (.xd [(e.fld, y)]) ∧ Rep K L H e.what y
/-- a def of data, n of them -/
def spD (K : PySem.W.Frag) (mg : Str → Option Value) (n : Nat) (F : Fn) : Sp := fun vs H Q E => ∃ (La : Addr → Prop) (ds : List Da), ds.length = n ∧ Reps K La H ds vs ∧
  F.wp ds (fun d => ∀ v H', (∀ b x, H b = some x → H' b = some x) → Rep K (fun c => La c ∨ H c = none) H' d v → Q v H')
    (fun e => ∀ C d H', mg e.name = some (.ref C) → (∀ b x, H b = some x → H' b = some x) → XdAt K (fun c => La c ∨ H c = none) H' d e → E (.ref C) (some d) H')
/-- a def whose first argument is the pool -/
def spL (K : PySem.W.Frag) (mg : Str → Option Value) (n : Nat) (F : Fn) : Sp := fun vs H Q E => ∃ (La : Addr → Prop) (ds : List Da) (p : Addr) (ws : List V), vs = .ref p :: ws ∧ ds.length = n ∧ Reps K La H ds ws ∧ PoolAt K La H p ∧ ¬ La p ∧
  F.wp ds (fun d => ∀ v H', (∀ b x, H b = some x → b ≠ p → H' b = some x) → PoolAt K (fun c => La c ∨ H c = none) H' p → Rep K (fun c => La c ∨ H c = none) H' d v → Q v H')
    (fun e => False)
theorem spD_len {K : PySem.W.Frag} {mg : Str → Option Value} {n : Nat} {F : Fn} : ∀ vs H Q E, spD K mg n F vs H Q E → vs.length = n := fun vs H Q E ⟨_, ds, l, r, _⟩ => r.length.trans l
theorem spL_len {K : PySem.W.Frag} {mg : Str → Option Value} {n : Nat} {F : Fn} : ∀ vs H Q E, spL K mg n F vs H Q E → vs.length = n + 1 := fun vs H Q E ⟨_, ds, p, ws, e, l, r, _⟩ => by
  subst e
  simp [r.length, l]

section
variable {K : PySem.W.Frag} {G : Gc} {O : Addr → Option Tg} {σ : L2.St} {ρ : En} {pe : Pend} {H H' : Hp} {p : Addr} {i : Nat}
/-- the pool in slot i has been drawn from -/
theorem StO.drawn (S : StO K G O σ ρ pe H) (hr : ρ[i]? = some (some .pool)) (hv : σ[i]? = some (some (.ref p))) (hp : O p = some (.slot i)) (k : ∀ b x, H b = some x → b ≠ p → H' b = some x)
    (q : PoolAt K (fun c => Lof G O c ∨ H c = none) H' p) : StO K G O σ ρ pe H' := by
  obtain ⟨w, hw, p', e, hp', q0⟩ := S.slots i _ hr
  rw [hv] at hw
  cases hw
  cases e
  have hH : ∃ xs, H p = some (.lst xs) := by
    obtain ⟨_, _, _, _, _, _, _, e, _⟩ := q0
    exact ⟨_, e⟩
  obtain ⟨xs, hH⟩ := hH
  have kp : Keep (Lof G O) H H' := fun b x e z => k b x e (fun q => by
    subst q
    rcases z with z | z
    · have z1 := z.1
      rw [hp] at z1
      cases z1
    · rw [hH] at e
      cases e
      exact z trivial)
  have kl : ∀ b x, H b = some x → Lof G O b → Lof G O b := fun _ _ _ z => z
  have q' : PoolAt K (Lof G O) H' p := q.mono (fun _ _ e _ => e) (fun _ _ _ z => z.elim id fun z => S.fresh z) rfl
  have pk : ∀ {b : Addr} {L : Addr → Prop}, PoolAt K L H b → b ≠ p → H' b = H b := fun {b L} h n => by
    obtain ⟨_, _, _, _, _, _, _, e, _⟩ := h
    rw [e]
    exact k _ _ e n
  refine ⟨fun b x e n => ⟨k b x (S.frame b x e n).1 (fun q => ?_), (S.frame b x e n).2⟩, fun b t e => ?_, fun b hb => ?_, S.len, fun j c e => ?_, ?_⟩
  · subst q
    have f := (S.frame b x e n).2
    rw [hp] at f
    cases f
  · by_cases z : b = p
    · subst z
      obtain ⟨_, _, _, _, _, _, _, e, _⟩ := q'
      exact ⟨_, e, trivial⟩
    · obtain ⟨x, h1, h2⟩ := S.own b t e
      exact ⟨x, k _ _ h1 z, h2⟩
  · obtain ⟨h1, h2⟩ := S.pools b hb
    by_cases z : b = p
    · subst z
      exact ⟨q', h2⟩
    · exact ⟨h1.mono kp kl (pk h1 z), h2⟩
  · obtain ⟨v, h1, h2⟩ := S.slots j c e
    refine ⟨v, h1, ?_⟩
    by_cases z : j = i
    · subst z
      rw [hr] at e
      cases e
      rw [hv] at h1
      cases h1
      exact ⟨p, rfl, hp, q'⟩
    · exact h2.mono kp kl fun b e => ⟨by
        have nb : b ≠ p := fun q => by
          rw [q, hp] at e
          cases e
          exact z rfl
        obtain ⟨x, h1, _⟩ := S.own b _ e
        rw [h1]
        exact k _ _ h1 nb, e⟩
  · exact S.pends.mono kp kl fun j _ b e => ⟨by
      have nb : b ≠ p := fun q => by
        rw [q, hp] at e
        cases e
      obtain ⟨x, h1, _⟩ := S.own b _ e
      rw [h1]
      exact k _ _ h1 nb, e⟩
end

/-! ### exceptions of a callee -/
/-- what the context wishes of exceptions, said of data: x -/
structure XOk (X : Cx) (G : Gc) (x : Ex → En → Prop) : Prop where
  so : G.so = SetTO X.prog X.w
  ex : ∃ W : WX, Takes X W ∧ ∀ (e : Ex) (ρ : En) (σ : L2.St) (pe : Pend) (H : Hp) (O : Addr → Option Tg) (C d : Addr), x e ρ → StO X.K G O σ ρ pe H → X.mg e.name = some (.ref C) → XdAt X.K (Lof G O) H d e → W (.ref C) (some d) σ H
theorem XOk.no {X : Cx} {G : Gc} (so : G.so = SetTO X.prog X.w) : XOk X G noEx := ⟨so, _, takes0, fun _ _ _ _ _ _ _ _ h => h.elim⟩

def eCall (F : Fn) (n : Nat) (a : W (List Da)) : W Da := a.bind fun ds => (W.req (ds.length = n)).bind fun _ => ⟨fun ρ k x => F.wp ds (fun d => k d ρ) (fun e => x e ρ), fun hk hx h => F.mono (fun d q => hk _ _ q) (fun e q => hx _ _ q) h⟩
/-- f(pool, ..), the pool in slot i -/
def eCallP (i : Nat) (F : Fn) (n : Nat) (a : W (List Da)) : W Da := W.env.bind fun ρ0 => (W.req (ρ0[i]? = some (some .pool))).bind fun _ => a.bind fun ds => W.env.bind fun ρ => (W.req (ds.length = n ∧ ρ[i]? = some (some .pool))).bind fun _ => ⟨fun ρ k _ => F.wp ds (fun d => k d ρ) (fun _ => False), fun hk hx h => F.mono (fun d q => hk _ _ q) (fun e q => q) h⟩
section
variable {X : Cx} {G : Gc} {x : Ex → En → Prop} {k : Nat} {f : Addr} {fd : FuncData} {ps : List Str} {F : Fn} {n : Nat} {nm : Str} {p pos : Pos} {e : Expr} {es : List Expr} {ma : W (List Da)}
theorem XdAt.mono {K : PySem.W.Frag} {L L' : Addr → Prop} {H : Hp} {d : Addr} {e : Ex} (h : XdAt K L H d e) (l : ∀ b, L b → L' b) : XdAt K L' H d e := by
  obtain ⟨y, h1, h2⟩ := h
  exact ⟨y, h1, Rep.mono (fun _ _ e _ => e) (fun b _ _ z => l b z) _ _ h2⟩
theorem p_call (xo : XOk X G x) (fo : FnOk X.prog X.w X.K X.mg X.base (L2.CX X.prog X.w) k f fd ps (spD X.K X.mg n F)) (hr : Room k X.A) (hg : Gl X nm) (hm : X.mg nm = some (.ref f)) (hk : PySem.W.keepIn X.K (.ref f) = true) (hb : Binds X.K fd ps [])
    (ha : PA X (e :: es) (tar X.K G x ma)) (hdb : (nm == ("__debug__" : Str)) = false := by decide)
    (he : starEach (e :: es) X.env = (false, eval e X.env) :: starEach es X.env := by rfl) (hpl : (backTo pos (starEach es X.env)).any (·.1) = false := by rfl) : PE X (.Call (.Name nm p) (e :: es) [] pos) (tp X.K G x (eCall F n ma)) := by
  obtain ⟨W, tk, hW⟩ := xo.ex
  refine (pe_callS fo hr hg hm hk hb (fun σ => passAt tk σ) ha hdb he hpl).of fun σ H Q ⟨ρ, pe, S, q⟩ => ?_
  refine ⟨ρ, pe, S, ma.mono (fun ds ρ1 ⟨hl, q⟩ vs H1 l ⟨O, S1⟩ => ?_) (fun _ _ z => z) q⟩
  obtain ⟨S2, rs⟩ := pushAll_pop l S1
  exact ⟨Lof G O, ds, hl, rs, F.mono (fun d q v H' kk r => q v H' ⟨O, S2.result kk r⟩) (fun ee q C d H' hC kk r => hW ee ρ1 σ pe H' O C d q (S2.heap kk) hC (r.mono fun b z => z.elim id fun z => S2.fresh z)) q⟩
/-- f(pool, ..) -/
theorem p_callP {i : Nat} {np : Str} {pp : Pos} (fo : FnOk X.prog X.w X.K X.mg X.base (L2.CX X.prog X.w) k f fd ps (spL X.K X.mg n F)) (hr : Room k X.A) (hg : Gl X nm) (hm : X.mg nm = some (.ref f)) (hk : PySem.W.keepIn X.K (.ref f) = true) (hb : Binds X.K fd ps [])
    (h0 : PE X (.Name np pp) (tVar i)) (ha : PA X es (tar X.K G x ma)) (hdb : (nm == ("__debug__" : Str)) = false := by decide) (he : starEach (.Name np pp :: es) X.env = (false, eval (.Name np pp) X.env) :: starEach es X.env := by rfl)
    (hpl : (backTo pos (starEach es X.env)).any (·.1) = false := by rfl) : PE X (.Call (.Name nm p) (.Name np pp :: es) [] pos) (tp X.K G x (eCallP i F n ma)) := by
  refine (pe_call fo hr hg hm hk hb .nil passL (pa_cons h0 ha he) hdb he hpl).of fun σ H Q ⟨ρ, pe, S, q⟩ => ?_
  obtain ⟨hp0, q⟩ := q
  obtain ⟨O0, S0⟩ := S
  obtain ⟨w, hv, _⟩ := S0.slots i _ hp0
  refine ⟨w, hv, ρ, pe, ⟨O0, S0⟩, ma.mono (fun ds ρ1 ⟨⟨hl, hp⟩, q⟩ vs H1 l ⟨O, S1⟩ => ?_) (fun _ _ z => z) q⟩
  obtain ⟨S2, rs⟩ := pushAll_pop l S1
  obtain ⟨w', hv', p', ew, op, pa⟩ := S2.slots i _ hp
  rw [hv] at hv'
  cases hv'
  subst ew
  have nl : ¬ Lof G O p' := fun z => by
    have z1 := z.1
    rw [op] at z1
    cases z1
  show spL X.K X.mg n F ((V.ref p' :: vs) ++ []) H1 Q E0
  rw [List.append_nil]
  exact ⟨Lof G O, ds, p', vs, rfl, hl, rs, pa, nl, F.mono (fun d q v H' kk pq r => q v H' ⟨O, (S2.drawn hp hv op kk pq).pushD (Rep.mono (fun _ _ e _ => e) (fun b _ _ z => z.elim id fun z => S2.fresh z) _ _ r)⟩) (fun _ z => z) q⟩
end
end Pu
end

section
namespace Pu
open PySem PySem.Spec PyProof.Rows L2

/-- the data at a def's entry -/
def startE (n : Nat) (ds : List Da) : En := ds.map (fun d => some (.dat d)) ++ List.replicate (n - ds.length) none
def startP (n : Nat) (ds : List Da) : En := some .pool :: startE (n - 1) ds
/-- what a def's body ends in -/
def flFn (k : Da → Prop) (x : Ex → Prop) : Fl := ⟨fun _ => k .non, fun d _ => k d, fun _ => False, fun _ => False, fun e _ => x e⟩
/-- a body keeps a def's promise -/
def Keeps (n N : Nat) (F : Fn) (b : Sx) : Prop := ∀ (ds : List Da) (k : Da → Prop) (x : Ex → Prop), ds.length = n → F.wp ds k x → b.wp (startE N ds) (flFn k x)
def KeepsP (n N : Nat) (F : Fn) (b : Sx) : Prop := ∀ (ds : List Da) (k : Da → Prop), ds.length = n → F.wp ds k (fun _ => False) → b.wp (startP N ds) (flFn k fun _ => False)

section
variable {P : Program} {w : World} {K : PySem.W.Frag} {mg : Str → Option Value} {base : Heap} {x qual : Str} {st : Stmt} {f : Addr} {fd : FuncData} {N ps : List Str} {k n : Nat} {F : Fn} {b : Sx}
theorem startE_len {m : Nat} {ds : List Da} (h : ds.length ≤ m) : (startE m ds).length = m := by
  unfold startE
  simp
  omega
theorem startE_get {m i : Nat} {ds : List Da} {c : Ce} (h : (startE m ds)[i]? = some (some c)) : ∃ d, ds[i]? = some d ∧ c = .dat d := by
  unfold startE at h
  by_cases hi : i < ds.length
  · rw [List.getElem?_append_left (by simpa using hi), List.getElem?_map] at h
    rw [List.getElem?_eq_getElem hi] at h ⊢
    exact ⟨_, rfl, (Option.some.inj (Option.some.inj h)).symm⟩
  · rw [List.getElem?_append_right (by simpa using hi), List.getElem?_replicate] at h
    split at h <;> cases h
theorem start_get {vs : List V} {i : Nat} {v : V} (h : vs[i]? = some v) : (L2.start N vs)[i]? = some (some v) := by
  unfold L2.start
  have hi := (List.getElem?_eq_some_iff.mp h).1
  rw [List.getElem?_append_left (by simpa using hi), List.getElem?_map, h]
  rfl
theorem start_len {vs : List V} (h : vs.length ≤ N.length) : (L2.start N vs).length = N.length := by
  unfold L2.start
  simp
  omega
theorem scope_le {sc : Scope} (S : FnScope N ps sc) : ps.length ≤ N.length := by
  have h := congrArg List.length S.pre
  rw [List.length_take] at h
  omega
theorem okD (Fu : Fun K x qual st f fd) (S : FnScope N ps (defScope st)) (hn : ps.length = n)
    (hb : ∀ (cdv : Value) (A : Around) (outer : List Env) (s : Shared) (H : Hp) (E : XK) (G : Gc) (xw : Ex → En → Prop), Room k (A.deeper (envOfC qual (defScope st) s.heap.objs.size f cdv)) →
      XOk (cxOf (L2.CX P w) P w K mg base N qual (defScope st) f cdv A outer s H E) G xw → PSs (cxOf (L2.CX P w) P w K mg base N qual (defScope st) f cdv A outer s H E) (defBody st) (ts K G xw b))
    (hw : Keeps n N.length F b) : FnOk P w K mg base (L2.CX P w) (k + 1) f fd ps (spD K mg n F) := by
  refine Fu.okX S (fun vs H Q E h => (spD_len vs H Q E h).trans hn.symm) fun cdv A outer s H vs Q E hr ⟨La, ds, l, r, q⟩ => ?_
  refine ⟨_, hb cdv A outer s H E ⟨H, fun _ => False, La, none, SetTO P w⟩ (fun e _ => ∀ C d H', mg e.name = some (.ref C) → (∀ b x, H b = some x → H' b = some x) → XdAt K (fun c => La c ∨ H c = none) H' d e → E (.ref C) (some d) H') hr
    ⟨rfl, fun cls d _ H' => E cls d H', takes_of rfl rfl rfl rfl, fun e ρ σ pe H' O C d hx S' hC hd => hx C d H' hC (fun b y z => (S'.frame b y z fun h => h).1) (hd.mono fun b z => z.2)⟩, ?_⟩
  have hle := scope_le S
  have hvl := r.length
  refine ⟨startE N.length ds, [], ⟨fun _ => none, ⟨fun b y e _ => ⟨e, rfl⟩, fun p t e => (by cases e), fun p h => h.elim, ?_, fun i c e => ?_, trivial⟩⟩, b.mono (E := flFn _ _) ⟨fun ρ q σ H' ⟨O, S'⟩ => ?_, fun d ρ q v σ H' ⟨O, S'⟩ => ?_, fun _ z => z.elim, fun _ z => z.elim, fun _ _ z => z⟩ (hw ds _ _ l q)⟩
  · rw [startE_len (by omega), start_len (by omega)]
  · obtain ⟨d, h1, rfl⟩ := startE_get e
    obtain ⟨v, h2, h3⟩ := r.getD h1
    exact ⟨v, start_get h2, Rep.mono (fun _ _ e _ => e) (fun _ _ _ z => ⟨rfl, .inl z⟩) _ _ h3⟩
  · exact q .non H' (fun b y z => (S'.frame b y z fun h => h).1) (by simp [Rep])
  · exact q v H' (fun b y z => (S'.frame b y z fun h => h).1) (Rep.mono (fun _ _ e _ => e) (fun _ _ _ z => z.2) _ _ S'.top)
theorem okL (Fu : Fun K x qual st f fd) (S : FnScope N ps (defScope st)) (hn : ps.length = n + 1)
    (hb : ∀ (cdv : Value) (A : Around) (outer : List Env) (s : Shared) (H : Hp) (E : XK) (G : Gc) (xw : Ex → En → Prop), Room k (A.deeper (envOfC qual (defScope st) s.heap.objs.size f cdv)) →
      XOk (cxOf (L2.CX P w) P w K mg base N qual (defScope st) f cdv A outer s H E) G xw → PSs (cxOf (L2.CX P w) P w K mg base N qual (defScope st) f cdv A outer s H E) (defBody st) (ts K G xw b))
    (hw : KeepsP n N.length F b) : FnOk P w K mg base (L2.CX P w) (k + 1) f fd ps (spL K mg n F) := by
  refine Fu.okX S (fun vs H Q E h => (spL_len vs H Q E h).trans hn.symm) fun cdv A outer s H vs Q E hr ⟨La, ds, p, ws, ev, l, r, pa, nl, q⟩ => ?_
  subst ev
  refine ⟨_, hb cdv A outer s H E ⟨H, fun a => a = p, La, none, SetTO P w⟩ (fun e _ => False) hr ⟨rfl, fun cls d _ H' => E cls d H', takes_of rfl rfl rfl rfl, fun e ρ σ pe H' O C d hx _ _ _ => hx.elim⟩, ?_⟩
  have hle := scope_le S
  have hvl := r.length
  have hps : (H p).isSome = true := by
    obtain ⟨_, _, _, _, _, _, _, e, _⟩ := pa
    rw [e]
    rfl
  have lo : ∀ {b : Addr}, La b → Lof ⟨H, fun a => a = p, La, none, SetTO P w⟩ (fun a => if a = p then some (.slot 0) else none) b := fun {b} z => ⟨if_neg (fun e : b = p => nl (e ▸ z)), .inl z⟩
  have pa' : PoolAt K (Lof ⟨H, fun a => a = p, La, none, SetTO P w⟩ (fun a => if a = p then some (.slot 0) else none)) H p := pa.mono (fun _ _ e _ => e) (fun _ _ _ z => lo z) rfl
  have fin : ∀ {O : Addr → Option Tg} {σ : L2.St} {ρ : En} {pe : Pend} {H' : Hp}, StO K ⟨H, fun a => a = p, La, none, SetTO P w⟩ O σ ρ pe H' → (∀ b y, H b = some y → b ≠ p → H' b = some y) ∧ PoolAt K (fun c => La c ∨ H c = none) H' p := fun {O σ ρ pe H'} S' =>
    ⟨fun b y z n => (S'.frame b y z n).1, (S'.pools p rfl).1.mono (fun _ _ e _ => e) (fun _ _ _ z => z.2) rfl⟩
  refine ⟨startP N.length ds, [], ⟨fun a => if a = p then some (.slot 0) else none, ⟨fun b y e n => ⟨e, if_neg n⟩, fun a t e => ?_, fun a h => ?_, ?_, fun i c e => ?_, trivial⟩⟩,
    b.mono (E := flFn _ _) ⟨fun ρ q σ H' ⟨O, S'⟩ => ?_, fun d ρ q v σ H' ⟨O, S'⟩ => ?_, fun _ z => z.elim, fun _ z => z.elim, fun _ _ z => z⟩ (hw ds _ l q)⟩
  · by_cases z : a = p
    · subst z
      obtain ⟨_, _, _, _, _, _, _, e, _⟩ := pa
      exact ⟨_, e, trivial⟩
    · rw [if_neg z] at e
      cases e
  · subst h
    exact ⟨pa', nl, hps⟩
  · unfold startP
    rw [List.length_cons, startE_len (by omega), start_len (by simp; omega)]
    omega
  · cases i with
    | zero =>
      cases e
      exact ⟨.ref p, start_get rfl, p, rfl, if_pos rfl, pa'⟩
    | succ i =>
      obtain ⟨d, h1, rfl⟩ := startE_get (show (startE (N.length - 1) ds)[i]? = some (some c) from e)
      obtain ⟨v, h2, h3⟩ := r.getD h1
      exact ⟨v, start_get (show (V.ref p :: ws)[i + 1]? = some v from h2), Rep.mono (fun _ _ e _ => e) (fun _ _ _ z => lo z) _ _ h3⟩
  · exact q .non H' (fin S').1 (fin S').2 (by simp [Rep])
  · exact q v H' (fin S').1 (fin S').2 (Rep.mono (fun _ _ e _ => e) (fun _ _ _ z => z.2) _ _ S'.top)
end
end Pu
end

section
namespace Pu
open PySem PySem.Spec PyProof.Rows L2

section
variable {K : PySem.W.Frag} {L L' : Addr → Prop} {H H' : Hp} {d : Da} {v : V}
theorem rep_int {i : Int} : Rep K L H (.int i) v ↔ v = .int i := by simp [Rep]
theorem rep_bl' {b : Bool} : Rep K L H (.bl b) v ↔ v = .bl b := by simp [Rep]
theorem rep_non : Rep K L H .non v ↔ v = .non := by simp [Rep]
theorem rep_str {s : Str} : Rep K L H (.str s) v ↔ v = .str s := by simp [Rep]
theorem rep_tup {ds : List Da} : Rep K L H (.tup ds) v ↔ ∃ a xs, v = .ref a ∧ SqT K H a xs ∧ ds.length ≤ sizeLine ∧ Reps K L H ds xs := by simp [Rep]
theorem rep_lst {ds : List Da} : Rep K L H (.lst ds) v ↔ ∃ a xs, v = .ref a ∧ (H a = some (.lst xs) ∧ L a) ∧ ds.length ≤ sizeLine ∧ Reps K L H ds xs := by simp [Rep, LAt]
theorem Rep.or (h : Rep K L H d v) : Rep K (fun c => L c ∨ H c = none) H d v := Rep.mono (fun _ _ e _ => e) (fun _ _ _ z => .inl z) _ _ h
theorem Reps.or {ds : List Da} {vs : List V} (h : Reps K L H ds vs) : Reps K (fun c => L c ∨ H c = none) H ds vs := Reps.mono (fun _ _ e _ => e) (fun _ _ _ z => .inl z) _ _ h
theorem same_ok : ∀ c u, H c = some u → H c = some u := fun _ _ h => h
theorem keep_new {p : Addr} {o : HO} (n : H p = none) : Keep L H (upd H p o) := fun b x e _ => keep_upd n b x e
/-- a new tuple, a new list -/
theorem rep_newT {p : Addr} {ds : List Da} {xs : List V} (n : H p = none) (z : ds.length ≤ sizeLine) (r : Reps K L H ds xs) : Rep K (fun c => L c ∨ H c = none) (upd H p (.tup xs)) (.tup ds) (.ref p) :=
  rep_tup.mpr ⟨p, xs, rfl, .of upd_same, z, Reps.mono (keep_new n) (fun _ _ _ z => .inl z) _ _ r⟩
theorem rep_newL {p : Addr} {ds : List Da} {xs : List V} (n : H p = none) (z : ds.length ≤ sizeLine) (r : Reps K L H ds xs) : Rep K (fun c => L c ∨ H c = none) (upd H p (.lst xs)) (.lst ds) (.ref p) :=
  rep_lst.mpr ⟨p, xs, rfl, ⟨upd_same, .inr n⟩, z, Reps.mono (keep_new n) (fun _ _ _ z => .inl z) _ _ r⟩
end

/-! ### arithmetic -/
def dAdd : Da → Da → Option Da
  | .int i, .int j => some (.int (i + j))
  | .str s, .str t => if s.length + t.length ≤ sizeLine then some (.str (s ++ t)) else none
  | .tup xs, .tup ys => if xs.length + ys.length ≤ sizeLine then some (.tup (xs ++ ys)) else none
  | .lst xs, .lst ys => if xs.length + ys.length ≤ sizeLine then some (.lst (xs ++ ys)) else none
  | _, _ => none
def rAdd (K : PySem.W.Frag) : R2 := fun x y H Q => ((∃ i j, x = .int i ∧ y = .int j ∧ Q (.int (i + j)) H) ∨ ∃ i j, x = .str i ∧ y = .str j ∧ i.length + j.length ≤ sizeLine ∧ Q (.str (i ++ j)) H) ∨ (rCatA K x y H Q ∨ rCat x y H Q)
theorem o_add {X : Cx} : OpR X (binaryOp .Add) (rAdd X.K) := (op_add.or op_add_str).or (op_catA.or op_cat)
theorem f_add {K : PySem.W.Frag} : Op2 K (rAdd K) dAdd := by
  intro L H dx dy d a b Q ra rb e q
  unfold dAdd at e
  split at e
  · cases e
    exact .inl (.inl ⟨_, _, rep_int.mp ra, rep_int.mp rb, q _ H same_ok (rep_int.mpr rfl)⟩)
  · split at e
    · cases e
      exact .inl (.inr ⟨_, _, rep_str.mp ra, rep_str.mp rb, by assumption, q _ H same_ok (rep_str.mpr rfl)⟩)
    · cases e
  · rename_i xs ys
    split at e
    · rename_i hz
      cases e
      have ra' := ra
      have rb' := rb
      obtain ⟨p, us, e1, h1, z1, r1⟩ := rep_tup.mp ra
      obtain ⟨p', us', e2, h2, z2, r2⟩ := rep_tup.mp rb
      have l1 := r1.length
      have l2 := r2.length
      refine .inr (.inl ⟨p, p', us, us', e1, e2, h1, h2, by omega, fun c => ?_, fun _ c => ?_, fun _ _ t nt => q _ _ (keep_upd nt) (rep_newT nt (by simpa using hz) (r1.app r2))⟩)
      · subst c
        cases xs with
        | nil => rw [← e2]; exact q _ H same_ok rb'.or
        | cons _ _ => cases l1
      · subst c
        cases ys with
        | nil => rw [← e1, List.append_nil] at *; exact q _ H same_ok ra'.or
        | cons _ _ => cases l2
    · cases e
  · rename_i xs ys
    split at e
    · rename_i hz
      cases e
      obtain ⟨p, us, e1, h1, z1, r1⟩ := rep_lst.mp ra
      obtain ⟨p', us', e2, h2, z2, r2⟩ := rep_lst.mp rb
      have l1 := r1.length
      have l2 := r2.length
      exact .inr (.inr ⟨p, p', us, us', e1, e2, h1.1, h2.1, by omega, fun t nt => q _ _ (keep_upd nt) (rep_newL nt (by simpa using hz) (r1.app r2))⟩)
    · cases e
  · cases e
def dI2 (f : Int → Int → Option Da) : Da → Da → Option Da
  | .int i, .int j => f i j
  | _, _ => none
@[simp] theorem dI2_int (f : Int → Int → Option Da) (i j : Int) : dI2 f (.int i) (.int j) = f i j := rfl
theorem of_dI2 {f : Int → Int → Option Da} {a b d : Da} (h : dI2 f a b = some d) : ∃ i j, a = .int i ∧ b = .int j ∧ f i j = some d := by
  unfold dI2 at h
  split at h
  · exact ⟨_, _, rfl, rfl, h⟩
  · cases h
theorem f_I0 {K : PySem.W.Frag} {g : Int → Int → Int} : Op2 K (rI0 fun i j => .int (g i j)) (dI2 fun i j => some (.int (g i j))) := by
  intro L H dx dy d a b Q ra rb e q
  obtain ⟨i, j, rfl, rfl, e⟩ := of_dI2 e
  cases e
  exact ⟨i, j, rep_int.mp ra, rep_int.mp rb, q _ H same_ok (rep_int.mpr rfl)⟩
theorem f_B0 {K : PySem.W.Frag} {g : Int → Int → Bool} : Op2 K (rI0 fun i j => .bl (g i j)) (dI2 fun i j => some (.bl (g i j))) := by
  intro L H dx dy d a b Q ra rb e q
  obtain ⟨i, j, rfl, rfl, e⟩ := of_dI2 e
  cases e
  exact ⟨i, j, rep_int.mp ra, rep_int.mp rb, q _ H same_ok (rep_bl'.mpr rfl)⟩
theorem f_IC {K : PySem.W.Frag} {C : Int → Int → Prop} [∀ i j, Decidable (C i j)] {g : Int → Int → Int} : Op2 K (rI C fun i j => .int (g i j)) (dI2 fun i j => if C i j then some (.int (g i j)) else none) := by
  intro L H dx dy d a b Q ra rb e q
  obtain ⟨i, j, rfl, rfl, e'⟩ := of_dI2 e
  clear e
  split at e'
  · cases e'
    exact ⟨i, j, rep_int.mp ra, rep_int.mp rb, by assumption, q _ H same_ok (rep_int.mpr rfl)⟩
  · cases e'
instance (i j : Int) : Decidable (CMul i j) := by unfold CMul; infer_instance
instance (i j : Int) : Decidable (CDiv i j) := by unfold CDiv; infer_instance
instance (i j : Int) : Decidable (CPow i j) := by unfold CPow; infer_instance
def dSub := dI2 fun i j => some (.int (i - j))
def dMul := dI2 fun i j => if CMul i j then some (.int (i * j)) else none
def dDiv := dI2 fun i j => if CDiv i j then some (.int (i / j)) else none
def dMod := dI2 fun i j => if 0 < j then some (.int (i % j)) else none
def dPow := dI2 fun i j => if CPow i j then some (.int (i ^ j.toNat)) else none
def dLt := dI2 fun i j => some (.bl (decide (i < j)))
def dLe := dI2 fun i j => some (.bl (decide (i ≤ j)))
def dGt := dI2 fun i j => some (.bl (decide (j < i)))
def dGe := dI2 fun i j => some (.bl (decide (j ≤ i)))
theorem f_sub {K : PySem.W.Frag} : Op2 K (rI0 fun i j => .int (i - j)) dSub := f_I0
theorem f_mul {K : PySem.W.Frag} : Op2 K (rI CMul fun i j => .int (i * j)) dMul := f_IC
theorem f_div {K : PySem.W.Frag} : Op2 K (rI CDiv fun i j => .int (i / j)) dDiv := f_IC
theorem f_mod {K : PySem.W.Frag} : Op2 K (rI (fun _ j => 0 < j) fun i j => .int (i % j)) dMod := f_IC
theorem f_pow {K : PySem.W.Frag} : Op2 K (rI CPow fun i j => .int (i ^ j.toNat)) dPow := f_IC
theorem f_lt {K : PySem.W.Frag} : Op2 K (rI0 fun i j => .bl (decide (i < j))) dLt := f_B0
theorem f_le {K : PySem.W.Frag} : Op2 K (rI0 fun i j => .bl (decide (i ≤ j))) dLe := f_B0
theorem f_gt {K : PySem.W.Frag} : Op2 K (rI0 fun i j => .bl (decide (j < i))) dGt := f_B0
theorem f_ge {K : PySem.W.Frag} : Op2 K (rI0 fun i j => .bl (decide (j ≤ i))) dGe := f_B0
def dNeg : Da → Option Da
  | .int i => some (.int (-i))
  | _ => none
theorem f_neg {K : PySem.W.Frag} : Op1 K (rU fun i => .int (-i)) dNeg := by
  intro L H dx d a Q ra e q
  cases dx <;> simp [dNeg] at e
  subst e
  exact ⟨_, rep_int.mp ra, q _ H same_ok (rep_int.mpr rfl)⟩

/-! ### == of data -/
mutual
def Da.py : Da → PyData
  | .non => .none
  | .bl b => .bool b
  | .int i => .int i
  | .str s => .str s
  | .tup ds => .tuple (Da.pys ds)
  | .lst ds => .list (Da.pys ds)
  | .obj _ _ _ => .none
  | .scr _ => .none
def Da.pys : List Da → List PyData
  | [] => []
  | d :: ds => d.py :: Da.pys ds
end
/-- data that == and in may look at, n deep at most -/
def Da.ok : Nat → Da → Bool
  | _, .non => true
  | _, .bl _ => true
  | _, .int _ => true
  | _, .str s => PyData.strOk s
  | 0, .tup _ => false
  | 0, .lst _ => false
  | n + 1, .tup ds => ds.all (Da.ok n)
  | n + 1, .lst ds => ds.all (Da.ok n)
  | _, .obj _ _ _ => false
  | _, .scr _ => false
mutual
def Da.eqv : Da → Da → Bool
  | .non, .non => true
  | .bl a, .bl b => a == b
  | .bl a, .int j => (if a then 1 else 0) == j
  | .int i, .bl b => i == (if b then 1 else 0)
  | .int i, .int j => i == j
  | .str s, .str t => s == t
  | .tup xs, .tup ys => Da.eqvs xs ys
  | .lst xs, .lst ys => Da.eqvs xs ys
  | _, _ => false
def Da.eqvs : List Da → List Da → Bool
  | [], [] => true
  | x :: xs, y :: ys => Da.eqv x y && Da.eqvs xs ys
  | _, _ => false
end
theorem pys_len (ds : List Da) : Da.pys ds = ds.map Da.py := by
  induction ds with
  | nil => rfl
  | cons d ds ih => simp [Da.pys, ih]
mutual
theorem ok_shape : ∀ (n : Nat) (d : Da), d.ok n = true → d.py.canLay0 = true ∧ d.py.depth ≤ n
  | n, .non, _ => by simp [Da.py, PyData.canLay0, PyData.depth]
  | n, .bl _, _ => by simp [Da.py, PyData.canLay0, PyData.depth]
  | n, .int _, _ => by simp [Da.py, PyData.canLay0, PyData.depth]
  | n, .str s, h => by
    have h' : PyData.strOk s = true := by cases n <;> simpa [Da.ok] using h
    simp [Da.py, PyData.canLay0, PyData.depth, h']
  | 0, .tup _, h => by simp [Da.ok] at h
  | 0, .lst _, h => by simp [Da.ok] at h
  | n + 1, .tup ds, h => by
    have q := ok_shapes n ds (by simpa only [Da.ok] using h)
    simp only [Da.py, PyData.canLay0, PyData.depth, q.1, true_and]
    omega
  | n + 1, .lst ds, h => by
    have q := ok_shapes n ds (by simpa only [Da.ok] using h)
    simp only [Da.py, PyData.canLay0, PyData.depth, q.1, true_and]
    omega
  | n, .obj _ _ _, h => by cases n <;> simp [Da.ok] at h
  | n, .scr _, h => by cases n <;> simp [Da.ok] at h
theorem ok_shapes : ∀ (n : Nat) (ds : List Da), ds.all (Da.ok n) = true → PyData.canLayAll0 (Da.pys ds) = true ∧ PyData.depthAll (Da.pys ds) ≤ n
  | n, [], _ => by simp [Da.pys, PyData.canLayAll0, PyData.depthAll]
  | n, d :: ds, h => by
    simp only [List.all_cons, Bool.and_eq_true] at h
    obtain ⟨a, b⟩ := ok_shape n d h.1
    obtain ⟨a', b'⟩ := ok_shapes n ds h.2
    simp only [Da.pys, PyData.canLayAll0, PyData.depthAll, a, a', Bool.and_self, true_and]
    omega
end
theorem ok_shaped {d : Da} (h : d.ok 60 = true) : SeqAt.shaped d.py = true := by
  obtain ⟨a, b⟩ := ok_shape 60 d h
  unfold SeqAt.shaped
  rw [a, Bool.true_and]
  exact decide_eq_true (by omega)
def Da.isOb : Da → Bool
  | .obj _ _ _ => true
  | .scr _ => true
  | _ => false
theorem ok_noOb {n : Nat} {d : Da} (h : d.ok n = true) : d.isOb = false := by
  cases d <;> first | rfl | (cases n <;> simp [Da.ok] at h)
mutual
theorem eqv_py : ∀ (n : Nat) (a b : Da), a.ok n = true → b.ok n = true → PyData.eqv a.py b.py = Da.eqv a b
  | n, .non, b, ha, hb => by cases b <;> first | (simp [Da.py, PyData.eqv, Da.eqv]; done) | (cases n <;> simp [Da.ok] at hb)
  | n, .bl _, b, ha, hb => by cases b <;> first | (simp [Da.py, PyData.eqv, Da.eqv]; done) | (cases n <;> simp [Da.ok] at hb)
  | n, .int _, b, ha, hb => by cases b <;> first | (simp [Da.py, PyData.eqv, Da.eqv]; done) | (cases n <;> simp [Da.ok] at hb)
  | n, .str _, b, ha, hb => by cases b <;> first | (simp [Da.py, PyData.eqv, Da.eqv]; done) | (cases n <;> simp [Da.ok] at hb)
  | 0, .tup _, b, ha, hb => by simp [Da.ok] at ha
  | 0, .lst _, b, ha, hb => by simp [Da.ok] at ha
  | n + 1, .tup xs, b, ha, hb => by
    cases b with
    | tup ys =>
      simp only [Da.py, PyData.eqv, Da.eqv]
      exact eqvs_py n xs ys (by simpa only [Da.ok] using ha) (by simpa only [Da.ok] using hb)
    | _ => first | (simp [Da.py, PyData.eqv, Da.eqv]; done) | simp [Da.ok] at hb
  | n + 1, .lst xs, b, ha, hb => by
    cases b with
    | lst ys =>
      simp only [Da.py, PyData.eqv, Da.eqv]
      exact eqvs_py n xs ys (by simpa only [Da.ok] using ha) (by simpa only [Da.ok] using hb)
    | _ => first | (simp [Da.py, PyData.eqv, Da.eqv]; done) | simp [Da.ok] at hb
  | n, .obj _ _ _, b, ha, hb => by cases n <;> simp [Da.ok] at ha
  | n, .scr _, b, ha, hb => by cases n <;> simp [Da.ok] at ha
theorem eqvs_py : ∀ (n : Nat) (xs ys : List Da), xs.all (Da.ok n) = true → ys.all (Da.ok n) = true → PyData.eqvAll (Da.pys xs) (Da.pys ys) = Da.eqvs xs ys
  | n, [], [], _, _ => by simp [Da.pys, PyData.eqvAll, Da.eqvs]
  | n, [], _ :: _, _, _ => by simp [Da.pys, PyData.eqvAll, Da.eqvs]
  | n, _ :: _, [], _, _ => by simp [Da.pys, PyData.eqvAll, Da.eqvs]
  | n, x :: xs, y :: ys, ha, hb => by
    simp only [List.all_cons, Bool.and_eq_true] at ha hb
    simp only [Da.pys, PyData.eqvAll, Da.eqvs, eqv_py n x y ha.1 hb.1, eqvs_py n xs ys ha.2 hb.2]
end
mutual
theorem rep_dp {K : PySem.W.Frag} {L : Addr → Prop} {H : Hp} : ∀ (n : Nat) (d : Da) (v : V), d.ok n = true → Rep K L H d v → Dp K H v d.py
  | n, .non, v, h, r => by rw [rep_non.mp r]; exact .non
  | n, .bl b, v, h, r => by rw [rep_bl'.mp r]; exact .bl b
  | n, .int i, v, h, r => by rw [rep_int.mp r]; exact .int i
  | n, .str s, v, h, r => by rw [rep_str.mp r]; exact .str s
  | 0, .tup _, v, h, r => by simp [Da.ok] at h
  | 0, .lst _, v, h, r => by simp [Da.ok] at h
  | n + 1, .tup ds, v, h, r => by
    obtain ⟨a, xs, e, q, _, rs⟩ := rep_tup.mp r
    subst e
    exact .tup q (reps_dp n ds xs (by simpa only [Da.ok] using h) rs)
  | n + 1, .lst ds, v, h, r => by
    obtain ⟨a, xs, e, q, _, rs⟩ := rep_lst.mp r
    subst e
    exact .lst (.of q.1) (reps_dp n ds xs (by simpa only [Da.ok] using h) rs)
  | n, .obj _ _ _, v, h, r => by cases n <;> simp [Da.ok] at h
  | n, .scr _, v, h, r => by cases n <;> simp [Da.ok] at h
theorem reps_dp {K : PySem.W.Frag} {L : Addr → Prop} {H : Hp} : ∀ (n : Nat) (ds : List Da) (vs : List V), ds.all (Da.ok n) = true → Reps K L H ds vs → DpAll K H vs (Da.pys ds)
  | n, [], vs, _, r => by simp only [Reps] at r; subst r; exact .nil
  | n, d :: ds, vs, h, r => by
    simp only [Reps] at r
    obtain ⟨x, ys, e, r1, r2⟩ := r
    subst e
    simp only [List.all_cons, Bool.and_eq_true] at h
    exact .cons (rep_dp n d x h.1 r1) (reps_dp n ds ys h.2 r2)
end
def dEq (a b : Da) : Option Da := if a.ok 60 = true ∧ b.ok 60 = true then some (.bl (a.eqv b)) else none
def dNe (a b : Da) : Option Da := if a.ok 60 = true ∧ b.ok 60 = true then some (.bl (!a.eqv b)) else none
theorem f_eq {K : PySem.W.Frag} : Op2 K (rEqD K) dEq := by
  intro L H dx dy d a b Q ra rb e q
  unfold dEq at e
  split at e
  · rename_i h
    cases e
    exact ⟨_, _, rep_dp 60 _ _ h.1 ra, rep_dp 60 _ _ h.2 rb, ok_shaped h.1, ok_shaped h.2, by rw [eqv_py 60 _ _ h.1 h.2]; exact q _ H same_ok (rep_bl'.mpr rfl)⟩
  · cases e
theorem f_ne {K : PySem.W.Frag} : Op2 K (rNeD K) dNe := by
  intro L H dx dy d a b Q ra rb e q
  unfold dNe at e
  split at e
  · rename_i h
    cases e
    exact ⟨_, _, rep_dp 60 _ _ h.1 ra, rep_dp 60 _ _ h.2 rb, ok_shaped h.1, ok_shaped h.2, by rw [eqv_py 60 _ _ h.1 h.2]; exact q _ H same_ok (rep_bl'.mpr rfl)⟩
  · cases e
/-! is None -/
def Da.isNon : Da → Bool
  | .non => true
  | _ => false
def dIsN (a b : Da) : Option Da := if b.isNon = true then some (.bl a.isNon) else none
def dNotN (a b : Da) : Option Da := if b.isNon = true then some (.bl (!a.isNon)) else none
theorem isNon_v {K : PySem.W.Frag} {L : Addr → Prop} {H : Hp} {d : Da} {v : V} (r : Rep K L H d v) : decide (v = .non) = d.isNon := by
  cases d with
  | non => rw [rep_non.mp r]; rfl
  | bl b => rw [rep_bl'.mp r]; rfl
  | int i => rw [rep_int.mp r]; rfl
  | str s => rw [rep_str.mp r]; rfl
  | tup ds => obtain ⟨a, _, e, _⟩ := rep_tup.mp r; rw [e]; rfl
  | lst ds => obtain ⟨a, _, e, _⟩ := rep_lst.mp r; rw [e]; rfl
  | obj c ns ds => simp only [Rep] at r; obtain ⟨a, _, _, e, _⟩ := r; rw [e]; rfl
  | scr ns => simp only [Rep] at r; obtain ⟨a, e, _⟩ := r; rw [e]; rfl
theorem f_isN {K : PySem.W.Frag} : Op2 K (fun x y H Q => y = .non ∧ Q (.bl (decide (x = .non))) H) dIsN := by
  intro L H dx dy d a b Q ra rb e q
  unfold dIsN at e
  split at e
  · rename_i h
    cases e
    have hb := isNon_v rb
    rw [h] at hb
    exact ⟨of_decide_eq_true hb, by rw [isNon_v ra]; exact q _ H same_ok (rep_bl'.mpr rfl)⟩
  · cases e
theorem f_notN {K : PySem.W.Frag} : Op2 K (fun x y H Q => y = .non ∧ Q (.bl (!decide (x = .non))) H) dNotN := by
  intro L H dx dy d a b Q ra rb e q
  unfold dNotN at e
  split at e
  · rename_i h
    cases e
    have hb := isNon_v rb
    rw [h] at hb
    exact ⟨of_decide_eq_true hb, by rw [isNon_v ra]; exact q _ H same_ok (rep_bl'.mpr rfl)⟩
  · cases e
/-! in -/
def Da.flat : Da → Bool
  | .non => true
  | .bl _ => true
  | .int _ => true
  | .str _ => true
  | _ => false
def dIn (neg : Bool) (a b : Da) : Option Da := match b with
  | .tup ds => if a.flat = true ∧ ds.all Da.flat = true then some (.bl (xor neg (ds.any fun z => z.eqv a))) else none
  | .lst ds => if a.flat = true ∧ ds.all Da.flat = true then some (.bl (xor neg (ds.any fun z => z.eqv a))) else if a.ok 50 = true ∧ ds.all (Da.ok 50) = true then some (.bl (xor neg (ds.any fun z => z.eqv a))) else none
  | _ => none
theorem flat_v {K : PySem.W.Frag} {L : Addr → Prop} {H : Hp} {d : Da} {v : V} (r : Rep K L H d v) (h : d.flat = true) : flatV v = true := by
  cases d <;> simp [Da.flat] at h
  · rw [rep_non.mp r]; rfl
  · rw [rep_bl'.mp r]; rfl
  · rw [rep_int.mp r]; rfl
  · rw [rep_str.mp r]; rfl
theorem eqV_flat {K : PySem.W.Frag} {L : Addr → Prop} {H : Hp} {d e : Da} {v w : V} (r : Rep K L H d v) (q : Rep K L H e w) (h : d.flat = true) (g : e.flat = true) : eqV v w = d.eqv e := by
  cases d <;> simp [Da.flat] at h <;> cases e <;> simp [Da.flat] at g <;> simp only [Rep] at r q <;> subst r <;> subst q <;> simp [eqV, Da.eqv]
theorem inV_flat {K : PySem.W.Frag} {L : Addr → Prop} {H : Hp} {a : Da} {v : V} (ra : Rep K L H a v) (ha : a.flat = true) : ∀ {ds : List Da} {vs : List V}, Reps K L H ds vs → ds.all Da.flat = true → vs.all flatV = true ∧ inV v vs = ds.any fun z => z.eqv a
  | [], vs, r, _ => by simp only [Reps] at r; subst r; exact ⟨rfl, rfl⟩
  | d :: ds, vs, r, h => by
    simp only [Reps] at r
    obtain ⟨x, ys, e, r1, r2⟩ := r
    subst e
    simp only [List.all_cons, Bool.and_eq_true] at h
    obtain ⟨h1, h2⟩ := inV_flat ra ha r2 h.2
    refine ⟨by rw [List.all_cons, flat_v r1 h.1, h1]; rfl, ?_⟩
    unfold inV at h2 ⊢
    rw [List.any_cons, List.any_cons, eqV_flat r1 ra h.1 ha, h2]
def rInA (K : PySem.W.Frag) (neg : Bool) : R2 := fun x y H Q => rIn K neg x y H Q ∨ (if neg then rNotInD K x y H Q else rInD K x y H Q)
theorem o_in {X : Cx} (hu : X.A.units + 65 < cLine) : OpR X (compareOp .In) (rInA X.K false) := op_in_seq.or (op_inD hu)
theorem o_notin {X : Cx} (hu : X.A.units + 65 < cLine) : OpR X (compareOp .NotIn) (rInA X.K true) := op_notIn_seq.or (op_notInD hu)
theorem any_py {a : Da} (ha : a.ok 50 = true) : ∀ {ds : List Da}, ds.all (Da.ok 50) = true → ((Da.pys ds).any fun z => PyData.eqv z a.py) = ds.any fun z => z.eqv a
  | [], _ => rfl
  | d :: ds, h => by
    simp only [List.all_cons, Bool.and_eq_true] at h
    simp only [Da.pys, List.any_cons, eqv_py 50 d a h.1 ha, any_py ha h.2]
theorem ok_mono : ∀ {n m : Nat} {d : Da}, n ≤ m → d.ok n = true → d.ok m = true
  | n, m, .non, _, _ => by cases m <;> simp [Da.ok]
  | n, m, .bl _, _, _ => by cases m <;> simp [Da.ok]
  | n, m, .int _, _, _ => by cases m <;> simp [Da.ok]
  | n, m, .str s, _, h => by
    have h' : PyData.strOk s = true := by cases n <;> simpa [Da.ok] using h
    cases m <;> simpa [Da.ok] using h'
  | 0, m, .tup _, _, h => by simp [Da.ok] at h
  | 0, m, .lst _, _, h => by simp [Da.ok] at h
  | n + 1, 0, .tup _, z, h => by omega
  | n + 1, 0, .lst _, z, h => by omega
  | n + 1, m + 1, .tup ds, z, h => by
    simp only [Da.ok, List.all_eq_true] at h ⊢
    exact fun x hx => ok_mono (by omega) (h x hx)
  | n + 1, m + 1, .lst ds, z, h => by
    simp only [Da.ok, List.all_eq_true] at h ⊢
    exact fun x hx => ok_mono (by omega) (h x hx)
  | n, m, .obj _ _ _, _, h => by cases n <;> simp [Da.ok] at h
  | n, m, .scr _, _, h => by cases n <;> simp [Da.ok] at h
theorem f_in {K : PySem.W.Frag} {neg : Bool} : Op2 K (rInA K neg) (dIn neg) := by
  intro L H dx dy d a b Q ra rb e q
  have fin : ∀ {k : Bool}, (if neg = true then !k else k) = xor neg k := fun {k} => by cases neg <;> cases k <;> rfl
  unfold dIn at e
  split at e
  · split at e
    · rename_i h
      cases e
      obtain ⟨p, xs, e1, hq, _, rs⟩ := rep_tup.mp rb
      obtain ⟨h1, h2⟩ := inV_flat ra h.1 rs h.2
      exact .inl ⟨p, xs, e1, .inr hq, flat_v ra h.1, h1, by rw [h2, fin]; exact q _ H same_ok (rep_bl'.mpr rfl)⟩
    · cases e
  · rename_i ds
    split at e
    · rename_i h
      cases e
      obtain ⟨p, xs, e1, hq, _, rs⟩ := rep_lst.mp rb
      obtain ⟨h1, h2⟩ := inV_flat ra h.1 rs h.2
      exact .inl ⟨p, xs, e1, .inl (.of hq.1), flat_v ra h.1, h1, by rw [h2, fin]; exact q _ H same_ok (rep_bl'.mpr rfl)⟩
    · split at e
      · rename_i h
        cases e
        have okb : (Da.lst ds).ok 51 = true := by simpa only [Da.ok] using h.2
        have db := rep_dp 51 _ _ okb rb
        have sb := ok_shaped (ok_mono (by omega) okb : (Da.lst ds).ok 60 = true)
        refine .inr ?_
        cases neg with
        | false => exact ⟨_, _, rep_dp 50 _ _ h.1 ra, db, ok_shaped (ok_mono (by omega) h.1), sb, by rw [any_py h.1 h.2]; simpa using q _ H same_ok (rep_bl'.mpr rfl)⟩
        | true => exact ⟨_, _, rep_dp 50 _ _ h.1 ra, db, ok_shaped (ok_mono (by omega) h.1), sb, by rw [any_py h.1 h.2]; simpa using q _ H same_ok (rep_bl'.mpr rfl)⟩
      · cases e
  · cases e
end Pu
end

section
namespace Pu
open PySem PySem.Spec PyProof.Rows L2

/-! ### places and slices -/
def dIdx (a b : Da) : Option Da := match b with
  | .int i => match a with
    | .tup ds => atI ds i
    | .lst ds => atI ds i
    | .str z => if z.length ≤ sizeLine then (atI z.cps.toList i).map fun c => .str ⟨#[c]⟩ else none
    | _ => none
  | _ => none
section
variable {K : PySem.W.Frag} {L : Addr → Prop} {H : Hp}
theorem atI_rep {ds : List Da} {xs : List V} {i : Int} {d : Da} (r : Reps K L H ds xs) (h : atI ds i = some d) : ∃ x, atI xs i = some x ∧ Rep K L H d x := by
  unfold atI at h ⊢
  rw [r.length]
  cases e : ixN ds.length i with
  | none => rw [e] at h; cases h
  | some j =>
    rw [e] at h
    exact r.getD h
theorem f_idx : Op2 K (rIx K) dIdx := by
  intro L H dx dy d a b Q ra rb e q
  unfold dIdx at e
  split at e
  · split at e
    · obtain ⟨p, xs, e1, hq, _, rs⟩ := rep_tup.mp ra
      obtain ⟨y, h1, h2⟩ := atI_rep rs e
      exact .inr (.inl ⟨p, xs, _, y, e1, rep_int.mp rb, hq, h1, q _ H same_ok h2.or⟩)
    · obtain ⟨p, xs, e1, hq, _, rs⟩ := rep_lst.mp ra
      obtain ⟨y, h1, h2⟩ := atI_rep rs e
      exact .inl ⟨p, xs, _, y, e1, rep_int.mp rb, .of hq.1, h1, q _ H same_ok h2.or⟩
    · split at e
      · rename_i hz
        simp only [Option.map_eq_some_iff] at e
        obtain ⟨c, h1, rfl⟩ := e
        exact .inr (.inr ⟨_, _, c, rep_str.mp ra, rep_int.mp rb, hz, h1, q _ H same_ok (rep_str.mpr rfl)⟩)
      · cases e
    · cases e
  · cases e
def cutD (ds : List Da) (lo hi : Option Int) : List Da := (ds.drop (HT.sIx ds.length 0 lo)).take (HT.sIx ds.length ds.length hi - HT.sIx ds.length 0 lo)
theorem cutD_rep {ds : List Da} {xs : List V} {lo hi : Option Int} (r : Reps K L H ds xs) : Reps K L H (cutD ds lo hi) (cutV xs lo hi) := by
  unfold cutD cutV
  rw [r.length]
  exact (r.drop _).take _
theorem cutD_len {ds : List Da} {lo hi : Option Int} : (cutD ds lo hi).length ≤ ds.length := by
  unfold cutD
  rw [List.length_take, List.length_drop]
  omega
theorem cutD_whole {ds : List Da} {lo hi : Option Int} (h : HT.sIx ds.length 0 lo = 0 ∧ HT.sIx ds.length ds.length hi = ds.length) : cutD ds lo hi = ds := by
  unfold cutD
  rw [h.1, h.2]
  simp
end
def dSl (a : Da) (lo hi : Option Int) : Option Da := match a with
  | .tup ds => some (.tup (cutD ds lo hi))
  | .lst ds => some (.lst (cutD ds lo hi))
  | .str z => if z.length ≤ sizeLine then some (.str (cutS z lo hi)) else none
  | _ => none
def rSl (K : PySem.W.Frag) : V → Option Int → Option Int → Hp → VK → Prop := fun x lo hi H Q => (rSlL K x lo hi H Q ∨ rSlA K x lo hi H Q) ∨ rSlS x lo hi H Q
theorem sl_any {X : Cx} : SlR X (rSl X.K) := (sl_list.or sl_tupA).or sl_str
section
variable {X : Cx} {G : Gc} {x : Ex → En → Prop}
def tpo (K : PySem.W.Frag) (G : Gc) (x : Ex → En → Prop) (m : W (Option Int)) : TO := fun σ H Q => ∃ ρ pe, Sd K G σ ρ pe H ∧ m.wp ρ (fun o ρ' => ∀ H', Sd K G σ ρ' pe H' → Q o H') x
def oNone : W (Option Int) := W.ret none
def oSome (m : W Da) : W (Option Int) := m.bind fun d => (W.opt (asI d)).bind fun i => W.ret (some i)
theorem _root_.L2.PO.of {e : Option Expr} {t t' : TO} (h : PO X e t) (w : ∀ σ H Q, t' σ H Q → t σ H Q) : PO X e t' := ⟨fun pins s σ H Q I q => h.run pins s σ H Q I (w σ H Q q)⟩
theorem o_none : PO X none (tpo X.K G x oNone) := po_none.of fun σ H Q ⟨ρ, pe, S, q⟩ => q H S
theorem o_some {e : Expr} {m : W Da} (h : PE X e (tp X.K G x m)) : PO X (some e) (tpo X.K G x (oSome m)) := (po_some h).of fun σ H Q ⟨ρ, pe, S, q⟩ => ⟨ρ, pe, S, m.mono (fun d ρ1 q v H1 ⟨O, S1⟩ => by
  obtain ⟨i, e, q⟩ := W.opt_wp (o := asI d) q
  have e' := of_asI e
  subst e'
  exact ⟨i, rep_int.mp S1.top, q H1 ⟨O, S1.pop⟩⟩) (fun _ _ z => z) q⟩
def eIdx (a b : W Da) : W Da := eOp2 dIdx a b
def eSl (a : W Da) (lo hi : W (Option Int)) : W Da := a.bind fun d => lo.bind fun l => hi.bind fun h => W.opt (dSl d l h)
theorem p_idx {a b : Expr} {pos : Pos} {ma mb : W Da} (ha : PE X a (tp X.K G x ma)) (hb : PE X b (tp X.K G x mb)) (hs : PlainIx b := by exact fun _ _ => rfl) : PE X (.Subscript a b pos) (tp X.K G x (eIdx ma mb)) :=
  (pe_ix ix_seq ha hb hs).of fun _ _ _ q => tp2 f_idx q
theorem p_sl {e : Expr} {lo hi : Option Expr} {p2 pos : Pos} {m : W Da} {ml mh : W (Option Int)} (he : PE X e (tp X.K G x m)) (hl : PO X lo (tpo X.K G x ml)) (hu : PO X hi (tpo X.K G x mh)) : PE X (.Subscript e (.Slice lo hi none p2) pos) (tp X.K G x (eSl m ml mh)) :=
  (pe_slice sl_any he hl hu).of fun σ H Q ⟨ρ, pe, S, q⟩ => by
    refine ⟨ρ, pe, S, m.mono (fun d ρ1 q v H1 S1 => ⟨ρ1, _, S1, ml.mono (fun l ρ2 q H2 S2 => ⟨ρ2, _, S2, mh.mono (fun h ρ3 q H3 S3 => ?_) (fun _ _ z => z) q⟩) (fun _ _ z => z) q⟩) (fun _ _ z => z) q⟩
    obtain ⟨r, er, q⟩ := W.opt_wp q
    obtain ⟨O, S3⟩ := S3
    have rd := S3.top
    unfold dSl at er
    split at er
    · rename_i ds
      cases er
      obtain ⟨a, xs, e1, hq, z, rs⟩ := rep_tup.mp rd
      have hl := rs.length
      refine .inl (.inr ⟨a, xs, e1, hq, fun w => ?_, fun _ p np => q _ _ ⟨O, S3.pop.result (keep_upd np) (rep_newT np (Nat.le_trans cutD_len z) (cutD_rep rs))⟩⟩)
      rw [hl] at w
      rw [cutD_whole w] at q
      exact q _ _ ⟨O, by rw [← e1]; exact S3⟩
    · cases er
      obtain ⟨a, xs, e1, hq, z, rs⟩ := rep_lst.mp rd
      exact .inl (.inl ⟨a, xs, e1, .of hq.1, fun p np => q _ _ ⟨O, S3.pop.result (keep_upd np) (rep_newL np (Nat.le_trans cutD_len z) (cutD_rep rs))⟩⟩)
    · split at er
      · rename_i hz
        cases er
        exact .inr ⟨_, rep_str.mp rd, hz, q _ _ ⟨O, S3.pop.pushD (rep_str.mpr rfl)⟩⟩
      · cases er
    · cases er
end

/-! ### built-in functions -/
def dLen : List Da → Option Da
  | [.tup ds] => some (.int ds.length)
  | [.lst ds] => some (.int ds.length)
  | [.str z] => if z.length ≤ sizeLine then some (.int z.length) else none
  | _ => none
def rLen (K : PySem.W.Frag) : List V → Hp → VK → Prop := fun xs H Q => (∃ p ys, xs = [.ref p] ∧ (SqL K H p ys ∨ SqT K H p ys) ∧ Q (.int ys.length) H) ∨ ∃ z, xs = [.str z] ∧ z.length ≤ sizeLine ∧ Q (.int z.length) H
theorem c_len {X : Cx} : CallR X (.builtin "len") (rLen X.K) := call_len_seq.or call_len_str
section
variable {K : PySem.W.Frag} {L : Addr → Prop} {H : Hp}
theorem reps1 {d : Da} {vs : List V} (r : Reps K L H [d] vs) : ∃ v, vs = [v] ∧ Rep K L H d v := by
  simp only [Reps] at r
  obtain ⟨v, ys, e, r, rfl⟩ := r
  exact ⟨v, e, r⟩
theorem reps2 {d e : Da} {vs : List V} (r : Reps K L H [d, e] vs) : ∃ v w, vs = [v, w] ∧ Rep K L H d v ∧ Rep K L H e w := by
  simp only [Reps] at r
  obtain ⟨v, ys, e1, r1, w, zs, e2, r2, rfl⟩ := r
  subst e2
  exact ⟨v, w, e1, r1, r2⟩
theorem f_len : OpN K (rLen K) dLen := by
  intro L H ds d vs Q r e q
  unfold dLen at e
  split at e
  · obtain ⟨v, rfl, rv⟩ := reps1 r
    cases e
    obtain ⟨p, xs, e1, hq, _, rs⟩ := rep_tup.mp rv
    subst e1
    exact .inl ⟨p, xs, rfl, .inr hq, by rw [rs.length]; exact q _ H same_ok (rep_int.mpr rfl)⟩
  · obtain ⟨v, rfl, rv⟩ := reps1 r
    cases e
    obtain ⟨p, xs, e1, hq, _, rs⟩ := rep_lst.mp rv
    subst e1
    exact .inl ⟨p, xs, rfl, .inl (.of hq.1), by rw [rs.length]; exact q _ H same_ok (rep_int.mpr rfl)⟩
  · obtain ⟨v, rfl, rv⟩ := reps1 r
    split at e
    · rename_i hz
      cases e
      exact .inr ⟨_, by rw [rep_str.mp rv], hz, q _ H same_ok (rep_int.mpr rfl)⟩
    · cases e
  · cases e
def iabs (i : Int) : Int := if i < 0 then -i else i
def dAbs : List Da → Option Da
  | [.int i] => some (.int (iabs i))
  | _ => none
theorem f_abs : OpN K (fun xs H Q => ∃ i, xs = [.int i] ∧ Q (.int (if i < 0 then -i else i)) H) dAbs := by
  intro L H ds d vs Q r e q
  unfold dAbs at e
  split at e
  · obtain ⟨v, rfl, rv⟩ := reps1 r
    cases e
    exact ⟨_, by rw [rep_int.mp rv], q _ H same_ok (rep_int.mpr rfl)⟩
  · cases e
def dInt : List Da → Option Da
  | [.int i] => some (.int i)
  | [.bl b] => some (.int (if b then 1 else 0))
  | _ => none
theorem f_int : OpN K (fun xs H Q => (∃ i, xs = [.int i] ∧ Q (.int i) H) ∨ ∃ k, xs = [.bl k] ∧ Q (.int (if k then 1 else 0)) H) dInt := by
  intro L H ds d vs Q r e q
  unfold dInt at e
  split at e
  · obtain ⟨v, rfl, rv⟩ := reps1 r
    cases e
    exact .inl ⟨_, by rw [rep_int.mp rv], q _ H same_ok (rep_int.mpr rfl)⟩
  · obtain ⟨v, rfl, rv⟩ := reps1 r
    cases e
    exact .inr ⟨_, by rw [rep_bl'.mp rv], q _ H same_ok (rep_int.mpr rfl)⟩
  · cases e
def dTuple : List Da → Option Da
  | [.tup ds] => some (.tup ds)
  | [.lst ds] => some (.tup ds)
  | _ => none
theorem f_tuple : OpN K (fun xs H Q => ∃ p ys, xs = [.ref p] ∧ ((SqL K H p ys ∧ ∀ l, H l = none → Q (.ref l) (upd H l (.tup ys))) ∨ (SqT K H p ys ∧ Q (.ref p) H))) dTuple := by
  intro L H ds d vs Q r e q
  unfold dTuple at e
  split at e
  · obtain ⟨v, rfl, rv⟩ := reps1 r
    cases e
    obtain ⟨p, xs, e1, hq, _, rs⟩ := rep_tup.mp rv
    subst e1
    exact ⟨p, xs, rfl, .inr ⟨hq, q _ H same_ok rv.or⟩⟩
  · obtain ⟨v, rfl, rv⟩ := reps1 r
    cases e
    obtain ⟨p, xs, e1, hq, z, rs⟩ := rep_lst.mp rv
    subst e1
    exact ⟨p, xs, rfl, .inl ⟨.of hq.1, fun l nl => q _ _ (keep_upd nl) (rep_newT nl z rs)⟩⟩
  · cases e
/-- a list's items, if all are boolL, intL -/
def boolL : List Da → Option (List Bool)
  | [] => some []
  | .bl b :: r => (boolL r).map (b :: ·)
  | _ => none
def intL : List Da → Option (List Int)
  | [] => some []
  | .int i :: r => (intL r).map (i :: ·)
  | _ => none
theorem boolL_rep : ∀ {ds : List Da} {bs : List Bool} {vs : List V}, boolL ds = some bs → Reps K L H ds vs → vs = bs.map V.bl
  | [], bs, vs, h, r => by
    cases h
    simp only [Reps] at r
    subst r
    rfl
  | .bl b :: ds, bs, vs, h, r => by
    simp only [boolL, Option.map_eq_some_iff] at h
    obtain ⟨bs', h, rfl⟩ := h
    simp only [Reps] at r
    obtain ⟨v, ys, rfl, r1, r2⟩ := r
    rw [rep_bl'.mp r1, boolL_rep h r2]
    rfl
theorem intL_rep : ∀ {ds : List Da} {ns : List Int} {vs : List V}, intL ds = some ns → Reps K L H ds vs → vs = ns.map V.int
  | [], ns, vs, h, r => by
    cases h
    simp only [Reps] at r
    subst r
    rfl
  | .int b :: ds, ns, vs, h, r => by
    simp only [intL, Option.map_eq_some_iff] at h
    obtain ⟨ns', h, rfl⟩ := h
    simp only [Reps] at r
    obtain ⟨v, ys, rfl, r1, r2⟩ := r
    rw [rep_int.mp r1, intL_rep h r2]
    rfl
@[simp] theorem boolL_map (bs : List Bool) : boolL (bs.map Da.bl) = some bs := by
  induction bs with
  | nil => rfl
  | cons b bs ih => simp [boolL, ih]
@[simp] theorem intL_map (ns : List Int) : intL (ns.map Da.int) = some ns := by
  induction ns with
  | nil => rfl
  | cons b bs ih => simp [intL, ih]
def dAll : List Da → Option Da
  | [.lst ds] => (boolL ds).map fun bs => .bl (bs.all id)
  | _ => none
def dAny : List Da → Option Da
  | [.lst ds] => (boolL ds).map fun bs => .bl (bs.any id)
  | _ => none
def dSum : List Da → Option Da
  | [.lst ds] => (intL ds).map fun ns => .int ns.sum
  | _ => none
theorem f_all : OpN K (rAll K) dAll := by
  intro L H ds d vs Q r e q
  unfold dAll at e
  split at e
  · obtain ⟨v, rfl, rv⟩ := reps1 r
    simp only [Option.map_eq_some_iff] at e
    obtain ⟨bs, hb, rfl⟩ := e
    obtain ⟨p, xs, e1, hq, z, rs⟩ := rep_lst.mp rv
    subst e1
    rw [boolL_rep hb rs] at hq
    exact ⟨p, bs, rfl, .of hq.1, q _ H same_ok (rep_bl'.mpr rfl)⟩
  · cases e
theorem f_any : OpN K (rAny K) dAny := by
  intro L H ds d vs Q r e q
  unfold dAny at e
  split at e
  · obtain ⟨v, rfl, rv⟩ := reps1 r
    simp only [Option.map_eq_some_iff] at e
    obtain ⟨bs, hb, rfl⟩ := e
    obtain ⟨p, xs, e1, hq, z, rs⟩ := rep_lst.mp rv
    subst e1
    rw [boolL_rep hb rs] at hq
    exact ⟨p, bs, rfl, .of hq.1, q _ H same_ok (rep_bl'.mpr rfl)⟩
  · cases e
theorem f_sum : OpN K (rSum K) dSum := by
  intro L H ds d vs Q r e q
  unfold dSum at e
  split at e
  · obtain ⟨v, rfl, rv⟩ := reps1 r
    simp only [Option.map_eq_some_iff] at e
    obtain ⟨bs, hb, rfl⟩ := e
    obtain ⟨p, xs, e1, hq, z, rs⟩ := rep_lst.mp rv
    subst e1
    rw [intL_rep hb rs] at hq
    exact ⟨p, bs, rfl, .of hq.1, q _ H same_ok (rep_int.mpr rfl)⟩
  · cases e
end

section
variable {X : Cx} {G : Gc} {x : Ex → En → Prop}
/-- list(e): a list of our own -/
def asSeq : Da → Option (List Da)
  | .tup ds => some ds
  | .lst ds => some ds
  | .scr ns => some (ns.map Da.int)
  | _ => none
def eList (m : W Da) : W (List Da) := m.bind fun d => W.opt (asSeq d)
theorem intL_reps {K : PySem.W.Frag} {L : Addr → Prop} {H : Hp} : ∀ ns : List Int, Reps K L H (ns.map Da.int) (ns.map V.int)
  | [] => rfl
  | n :: ns => by
    simp only [List.map_cons, Reps]
    exact ⟨_, _, rfl, rep_int.mpr rfl, intL_reps ns⟩
/-- isinstance(e, T) -/
def tyD : Da → Option String
  | .non => some "NoneType"
  | .bl _ => some "bool"
  | .int _ => some "int"
  | .str _ => some "str"
  | .tup _ => some "tuple"
  | .lst _ => some "list"
  | _ => none
def isiS (t c : String) : Bool := t == c || (t == "bool" && c == "int")
theorem isi_ok {t c : String} (ht : t ∈ ["NoneType", "bool", "int", "str", "tuple", "list"]) (hc : c ∈ ["bool", "int", "str", "tuple", "list"]) : kitB t c = some (isiS t c) := by
  simp only [List.mem_cons, List.not_mem_nil, or_false] at ht hc
  rcases ht with rfl | rfl | rfl | rfl | rfl | rfl <;> rcases hc with rfl | rfl | rfl | rfl | rfl <;> decide +kernel
theorem tyD_mem {d : Da} {t : String} (h : tyD d = some t) : t ∈ ["NoneType", "bool", "int", "str", "tuple", "list"] := by
  cases d <;> simp [tyD] at h <;> subst h <;> simp
theorem tyD_ty {K : PySem.W.Frag} {L : Addr → Prop} {H : Hp} {d : Da} {v : V} {t : String} (r : Rep K L H d v) (h : tyD d = some t) : TyX K H v (.type t) := by
  cases d <;> simp [tyD] at h <;> subst h
  · rw [rep_non.mp r]; exact .base .non
  · rw [rep_bl'.mp r]; exact .base (.bl _)
  · rw [rep_int.mp r]; exact .base (.int _)
  · rw [rep_str.mp r]; exact .base (.str _)
  · obtain ⟨a, xs, e, q, _⟩ := rep_tup.mp r
    subst e
    rcases q with (q | ⟨o, q⟩) | ⟨o, its, n, q, c, _⟩
    · exact .base (.tup q)
    · exact .fTuple q
    · exact .kTuple q c
  · obtain ⟨a, xs, e, q, _⟩ := rep_lst.mp r
    subst e
    exact .base (.lst q.1)
def eIsi (c : String) (m : W Da) : W Da := m.bind fun d => (W.opt (tyD d)).bind fun t => W.ret (.bl (isiS t c))
theorem p_isi {e : Expr} {p p2 pos : Pos} {m : W Da} {c : String} {cn : Str} (hg : Gl X "isinstance") (hm : X.mg "isinstance" = none) (hv : bootBuiltins "isinstance" = some (.builtin "isinstance")) (he : PE X e (tp X.K G x m))
    (hc : PE X (.Name cn p2) (tC (.ty c))) (hmem : c ∈ ["bool", "int", "str", "tuple", "list"]) (hs0 : starEach [e, .Name cn p2] X.env = (false, eval e X.env) :: starEach [.Name cn p2] X.env := by rfl)
    (hs : starEach [.Name cn p2] X.env = (false, eval (.Name cn p2) X.env) :: starEach [] X.env := by rfl) (hpl : (backTo pos (starEach [.Name cn p2] X.env)).any (·.1) = false := by rfl) :
    PE X (.Call (.Name "isinstance" p) [e, .Name cn p2] [] pos) (tp X.K G x (eIsi c m)) :=
  (pe_callB call_isi hg hm hv (pa_cons he (pa_cons hc pa_nil hs) hs0) (by decide) (by decide) hs0 hpl).of fun σ H Q ⟨ρ, pe, S, q⟩ => ⟨ρ, pe, S, m.mono (fun d ρ1 q v H1 ⟨O, S1⟩ => by
    obtain ⟨t, e, q⟩ := W.opt_wp (o := tyD d) q
    exact ⟨v, .ty c, .type t, .type c, isiS t c, rfl, .ty c, tyD_ty S1.top e, kit_ty (isi_ok (tyD_mem e) hmem), q _ H1 ⟨O, S1.pop.pushD (rep_bl'.mpr rfl)⟩⟩) (fun _ _ z => z) q⟩

/-! ### our own lists are changed -/
def sAppend (i : Nat) (m : W Da) : Sx := ⟨fun ρ E => ∃ ds0, lookOwn ρ i = some ds0 ∧ m.wp ρ (fun d ρ' => ∃ ds, lookOwn ρ' i = some ds ∧ ds.length < 16777216 ∧ E.nx (ρ'.set i (some (.own (ds ++ [d]))))) E.ex,
  fun l ⟨ds0, e0, h⟩ => ⟨ds0, e0, m.mono (fun d ρ' ⟨ds, e, z, q⟩ => ⟨ds, e, z, l.nx _ q⟩) l.ex h⟩⟩
def asL : Da → Option (List Da)
  | .lst ds => some ds
  | _ => none
theorem of_asL {d : Da} {ds : List Da} (h : asL d = some ds) : d = .lst ds := by
  cases d <;> simp [asL] at h
  subst h
  rfl
@[simp] theorem asL_lst (ds : List Da) : asL (.lst ds) = some ds := rfl
def sExtend (i : Nat) (m : W Da) : Sx := ⟨fun ρ E => ∃ ds0, lookOwn ρ i = some ds0 ∧ m.wp ρ (fun d ρ' => ∃ ds es, lookOwn ρ' i = some ds ∧ asL d = some es ∧ ds.length + es.length ≤ 16777216 ∧ E.nx (ρ'.set i (some (.own (ds ++ es))))) E.ex,
  fun l ⟨ds0, e0, h⟩ => ⟨ds0, e0, m.mono (fun d ρ' ⟨ds, es, e, e2, z, q⟩ => ⟨ds, es, e, e2, z, l.nx _ q⟩) l.ex h⟩⟩
theorem s_append {o e : Expr} {i : Nat} {apos cpos pos : Pos} {m : W Da} (ho : PE X o (tVar i)) (he : PE X e (tp X.K G x m)) (hbase : attributeBase o "append" X.env (eval o X.env) = eval o X.env := by rfl)
    (hfew : ((backTo cpos (starEach [e] X.env)).all (fun x => !x.1) && (backToKw cpos (keywordEach [] X.env)).all (fun x => x.1.isSome) && decide ([e].length + ([] : List Keyword).length + (if ([] : List Keyword).isEmpty then 0 else 1) < 30)) = true := by rfl)
    (hline : (apos.endLine == cpos.line) = true := by rfl) (hs : starEach [e] X.env = (false, eval e X.env) :: starEach [] X.env := by rfl) (hsw : swapsWith (.Call (.Attribute o "append" apos) [e] [] cpos) none pos.line X.env = pure false := by rfl) :
    PS X (.Expr (.Call (.Attribute o "append" apos) [e] [] cpos) pos) (ts X.K G x (sAppend i m)) :=
  (ps_expr (pe_bm PySem.F.plainAttrs_list PySem.F.slot_list_append PySem.F.type_list_append mt_append ho (pa_cons he pa_nil hs) hbase hfew hline hs) hsw).of fun D σ H ⟨ρ, pe, ⟨O, S⟩, ds0, e0, q⟩ => by
    obtain ⟨v, hv, p, xs, ev, op, hp, _⟩ := S.slots i _ (of_lookOwn e0)
    subst ev
    refine ⟨_, hv, .inl ⟨rfl, xs, .of hp⟩, ρ, pe, ⟨O, S⟩, m.mono (fun d ρ1 ⟨ds, e1, hz, q⟩ w H1 ⟨O1, S1⟩ => ?_) (fun _ _ z => z) q⟩
    obtain ⟨v', hv', p', xs', ev', op', hp', _, rs, _⟩ := S1.slots i _ (of_lookOwn e1)
    rw [hv] at hv'
    cases hv'
    cases ev'
    have hl := rs.length
    exact ⟨p, xs', w, rfl, rfl, hp', by rw [line_eq]; omega, q σ _ ⟨O1, S1.pop.change (xs := xs') (of_lookOwn e1) hv op' (by rw [line_eq]; simp; omega) (rs.snoc S1.top)⟩⟩
theorem s_extend {o e : Expr} {i : Nat} {apos cpos pos : Pos} {m : W Da} (ho : PE X o (tVar i)) (he : PE X e (tp X.K G x m)) (hbase : attributeBase o "extend" X.env (eval o X.env) = eval o X.env := by rfl)
    (hfew : ((backTo cpos (starEach [e] X.env)).all (fun x => !x.1) && (backToKw cpos (keywordEach [] X.env)).all (fun x => x.1.isSome) && decide ([e].length + ([] : List Keyword).length + (if ([] : List Keyword).isEmpty then 0 else 1) < 30)) = true := by rfl)
    (hline : (apos.endLine == cpos.line) = true := by rfl) (hs : starEach [e] X.env = (false, eval e X.env) :: starEach [] X.env := by rfl) (hsw : swapsWith (.Call (.Attribute o "extend" apos) [e] [] cpos) none pos.line X.env = pure false := by rfl) :
    PS X (.Expr (.Call (.Attribute o "extend" apos) [e] [] cpos) pos) (ts X.K G x (sExtend i m)) :=
  (ps_expr (pe_bm PySem.F.plainAttrs_list PySem.F.slot_list_extend PySem.F.type_list_extend mt_extend ho (pa_cons he pa_nil hs) hbase hfew hline hs) hsw).of fun D σ H ⟨ρ, pe, ⟨O, S⟩, ds0, e0, q⟩ => by
    obtain ⟨v, hv, p, xs, ev, op, hp, _⟩ := S.slots i _ (of_lookOwn e0)
    subst ev
    refine ⟨_, hv, .inl ⟨rfl, xs, .of hp⟩, ρ, pe, ⟨O, S⟩, m.mono (fun d ρ1 ⟨ds, es, e1, e2, hz, q⟩ w H1 ⟨O1, S1⟩ => ?_) (fun _ _ z => z) q⟩
    have ed := of_asL e2
    subst ed
    obtain ⟨v', hv', p', xs', ev', op', hp', _, rs, _⟩ := S1.slots i _ (of_lookOwn e1)
    rw [hv] at hv'
    cases hv'
    cases ev'
    obtain ⟨b, ys, e3, hb, _, rs2⟩ := rep_lst.mp S1.top
    subst e3
    have hl := rs.length
    have hl2 := rs2.length
    exact ⟨p, b, xs', ys, rfl, rfl, hp', hb.1, by rw [line_eq]; omega, q σ _ ⟨O1, S1.pop.change (xs := xs') (of_lookOwn e1) hv op' (by rw [line_eq]; simp; omega) (rs.app rs2)⟩⟩
end
end Pu
end

section
set_option maxHeartbeats 2000000
/-! Us1: sets whose members are tuples of flat items (numbers, truth values, texts, None), by leafKind. -/
namespace Us
open PySem PySem.Spec PyProof.Rows L2

abbrev Ky := List Int
abbrev lf (k : Ky) : List Leaf := k.map Leaf.num
abbrev IsU (P : Program) (w : World) (h : Heap) (k : Ky) (a : Addr) : Prop := IsTupleKey (leafKind P w) h (lf k) a
abbrev hU (P : Program) (w : World) (k : Ky) : Int := tupleKeyHash (leafKind P w) (lf k)
theorem lf_iff {j k : Ky} : lf j = lf k ↔ j = k := by
  refine ⟨fun e => ?_, fun e => by rw [e]⟩
  induction j generalizing k with
  | nil => cases k with
    | nil => rfl
    | cons y k => cases e
  | cons x j ih => cases k with
    | nil => cases e
    | cons y k =>
      simp only [lf, List.map_cons, List.cons.injEq, Leaf.num.injEq] at e
      rw [e.1, ih e.2]
abbrev Mem := List (Addr × Ky)

section small
variable {P : Program} {w : World} {A : Around} {E : Value → Shared → Prop} {s : Shared}

theorem leaf_flat {k : Int} {v : Value} (e : Leaf.isOf (.num k) v = true) : (∀ n, ofAClassStatement n v = pure false) ∧ ∀ n, hashByValue n v = pure true := by
  have q := Leaf.nested (h := default) e
  cases q with
  | int _ t => exact ⟨fun n => by cases n <;> rfl, fun n => by cases n <;> rfl⟩
  | bool => exact ⟨fun n => by cases n <;> rfl, fun n => by cases n <;> rfl⟩
theorem items_flat : ∀ {k : Ky} {vs : List Value} (h : ItemsAre (leafKind P w) (lf k) vs), ∀ v ∈ vs, (∀ n, ofAClassStatement n v = pure false) ∧ ∀ n, hashByValue n v = pure true
  | [], _, h, v, hv => by cases h; cases hv
  | k :: ks, _, h, v, hv => by
    cases h with
    | cons h1 h2 =>
      cases hv with
      | head => exact leaf_flat h1
      | tail _ hv => exact items_flat h2 v hv

theorem noClass {k : Ky} {b : Addr} {Q : Bool → Shared → Prop} (x : IsU P w s.heap k b) (q : Q false s) : wpAny (model P w) A (ofAClassStatement 8 (.ref b)) Q E s := by
  have ty := x.typeIs
  obtain ⟨ob, its, n, g1, _, g2, g3⟩ := x
  have flat := items_flat g3
  unfold ofAClassStatement
  refine wpAny_bind (wpAny_typeOf ty ?_)
  dsimp only
  simp only [show (("tuple" : String) == "tuple") = true by decide, if_true, Bool.not_true, Bool.false_eq_true, if_false]
  try refine wpAny_bind (wpAny_pure ?_)
  try simp only [Bool.not_true, Bool.false_eq_true, if_false]
  show wpAny _ _ (seqItems? (.ref b) >>= _) _ _ s
  refine wpAny_bind (wpAny_seqItems g1 g2 ?_)
  dsimp only
  refine wpAny_bind ?_
  show wpAny _ _ (forIn its _ _) _ _ s
  rw [← Array.forIn_toList]
  refine wpAny_forIn_list _ (fun todo r s' => r.1 = none ∧ s' = s ∧ ∀ v ∈ todo, (∀ n, ofAClassStatement n v = pure false)) _ ?_ ?_ _ _ ⟨rfl, rfl, fun v hv => (flat v hv).1⟩
  · rintro v todo r s' ⟨e1, rfl, al⟩
    rw [al v List.mem_cons_self]
    refine wpAny_bind (wpAny_pure ?_)
    simp only [Bool.false_eq_true, if_false]
    exact wpAny_pure ⟨rfl, rfl, fun u z => al u (List.mem_cons_of_mem _ z)⟩
  · rintro ⟨r1, r2⟩ s' ⟨e1, rfl, _⟩
    simp only at e1
    subst e1
    exact wpAny_pure q
theorem byVal {k : Ky} {b : Addr} {Q : Bool → Shared → Prop} (x : IsU P w s.heap k b) (q : Q true s) : wpAny (model P w) A (hashByValue 8 (.ref b)) Q E s := by
  have ty := x.typeIs
  obtain ⟨ob, its, n, g1, _, g2, g3⟩ := x
  have flat := items_flat g3
  unfold hashByValue
  refine wpAny_bind (wpAny_specialOf ty F.slot_tuple_hash.lookup ?_)
  show wpAny _ _ (seqItems? (.ref b) >>= _) _ _ s
  refine wpAny_bind (wpAny_seqItems g1 g2 ?_)
  refine wpAny_bind ?_
  show wpAny _ _ (forIn its _ _) _ _ s
  rw [← Array.forIn_toList]
  refine wpAny_forIn_list _ (fun todo r s' => r.1 = none ∧ s' = s ∧ ∀ v ∈ todo, (∀ n, hashByValue n v = pure true)) _ ?_ ?_ _ _ ⟨rfl, rfl, fun v hv => (flat v hv).2⟩
  · rintro v todo r s' ⟨e1, rfl, al⟩
    rw [al v List.mem_cons_self]
    refine wpAny_bind (wpAny_pure ?_)
    simp only [Bool.not_true, Bool.false_eq_true, if_false]
    exact wpAny_pure ⟨rfl, rfl, fun u z => al u (List.mem_cons_of_mem _ z)⟩
  · rintro ⟨r1, r2⟩ s' ⟨e1, rfl, _⟩
    simp only at e1
    subst e1
    exact wpAny_pure q
theorem unseen {k : Ky} {b : Addr} {Q : Bool → Shared → Prop} (x : IsU P w s.heap k b) {ys : List Value} (hy : ∀ y ∈ ys, ∃ j c, y = Value.ref c ∧ IsU P w s.heap j c) (q : Q false s) :
    wpAny (model P w) A (searchCouldBeSeen (.ref b) ys) Q E s := by
  unfold searchCouldBeSeen
  refine wpAny_bind ?_
  refine wpAny_forIn_list _ (fun todo r s' => r.1 = none ∧ s' = s ∧ ∀ y ∈ todo, ∃ j c, y = Value.ref c ∧ IsU P w s.heap j c) _ ?_ ?_ _ _ ⟨rfl, rfl, hy⟩
  · rintro v todo r s' ⟨e1, rfl, al⟩
    obtain ⟨j, c, rfl, hc⟩ := al v List.mem_cons_self
    have more : ∀ y ∈ todo, ∃ j c, y = Value.ref c ∧ IsU P w s'.heap j c := fun u z => al u (List.mem_cons_of_mem _ z)
    dsimp only
    by_cases cv : (b == c || (carriedByValue (.ref b) && carriedByValue (.ref c))) = true
    · exact wp_if_pos cv (wpAny_pure ⟨rfl, rfl, more⟩)
    · refine wp_if_neg cv (wpAny_bind (wpAny_eqIsQuiet_tuple x ?_))
      simp only [Bool.not_true, Bool.false_eq_true, if_false]
      refine wpAny_bind (wpAny_eqIsQuiet_tuple hc ?_)
      simp only [Bool.not_true, Bool.false_eq_true, if_false]
      refine wpAny_bind (noClass x ?_)
      simp only [Bool.false_eq_true, if_false]
      refine wpAny_bind (noClass hc ?_)
      simp only [Bool.false_eq_true, if_false]
      exact wpAny_pure ⟨rfl, rfl, more⟩
  · rintro ⟨r1, r2⟩ s' ⟨e1, rfl, _⟩
    simp only at e1
    subst e1
    exact wpAny_pure q
end small

/-! ### the set -/
def rows (P : Program) (w : World) (M : Mem) : List (Int × Value) := M.map fun p => (hU P w p.2, Value.ref p.1)
abbrev hs (P : Program) (w : World) (M : Mem) : List Int := M.map fun p => hU P w p.2
structure SetU (P : Program) (w : World) (h : Heap) (a : Addr) (M : Mem) (xs : Array (Int × Value)) (ep : Nat) (tb : SetTable) : Prop where
  ob : ∃ o, h.get? a = some o ∧ o.ExactSet ∧ o.data = .set xs ep tb
  rw' : xs.toList = rows P w M
  tab : TabOk tb (hs P w M)
  nd : (M.map (·.2)).Nodup
  isu : ∀ p ∈ M, IsU P w h p.2 p.1
  plain : tb.plain = true
  led : w.params.followText "set-order" = true ∨ tb.led = true
  room : M.length * 5 < tb.mask * 3
  few : M.length < 64

section
variable {P : Program} {w : World} {A : Around} {E : Value → Shared → Prop} {s : Shared} {a : Addr} {M : Mem} {xs : Array (Int × Value)} {ep : Nat} {tb : SetTable}
theorem rows_len (M : Mem) : (rows P w M).length = M.length := by unfold rows; rw [List.length_map]
theorem size_of {M : Mem} {xs : Array (Int × Value)} (r : xs.toList = rows P w M) : xs.size = M.length := by
  rw [← Array.length_toList, r, rows_len]
theorem row_at {M : Mem} {xs : Array (Int × Value)} (r : xs.toList = rows P w M) {i : Nat} {p : Addr × Ky} (e : M[i]? = some p) : xs[i]? = some (hU P w p.2, Value.ref p.1) := by
  rw [← Array.getElem?_toList, r]
  unfold rows
  rw [List.getElem?_map, e] <;> rfl
theorem SetU.fits (R : SetU P w s.heap a M xs ep tb) : tb.fits xs.size = true := by
  have e1 := R.tab.sz
  rw [List.length_map] at e1
  have e2 := size_of R.rw'
  have e3 := R.room
  unfold SetTable.fits SetTable.fill
  rw [R.tab.dm, Bool.and_eq_true, beq_iff_eq, decide_eq_true_eq]
  show tb.place.size = xs.size ∧ tb.place.size + 0 ≤ tb.mask
  omega
theorem SetU.kept (R : SetU P w s.heap a M xs ep tb) : ¬ tb.gaveWay = true := by
  unfold SetTable.gaveWay
  rw [mask_odd R.tab.mok]
  decide
theorem hash_at (r : xs.toList = rows P w M) {i : Nat} {p : Addr × Ky} (e : M[i]? = some p) : (xs[i]?.map (·.1)).getD 0 = hU P w p.2 := by
  rw [row_at r e] <;> rfl

/-- the state of the search at its c-th step -/
abbrev stp (tb : SetTable) (h : Int) (c : Nat) : SetTable.Probe := nth tb.mask (runAt tb.mask (SetTable.bits h % (tb.mask + 1)) (SetTable.bits h)) c
theorem stp_add (tb : SetTable) (h : Int) (c q : Nat) : nth tb.mask (stp tb h c) q = stp tb h (c + q) := (nth_add tb.mask c _ q).symm
theorem stp_clean (tb : SetTable) (h : Int) (c : Nat) : (stp tb h c).dummy = none := by
  have key : ∀ (n : Nat) (p : SetTable.Probe), p.dummy = none → (nth tb.mask p n).dummy = none := by
    intro n
    induction n with
    | zero => exact fun p e => e
    | succ n ih =>
      intro p e
      refine ih (adv tb.mask p) ?_
      unfold adv
      split <;> exact e
  exact key c _ rfl

theorem find_from (R : SetU P w s.heap a M xs ep tb) {x : Addr} {k : Ky} (hx : IsU P w s.heap k x) (hu : A.units < cLine) {K : Nat} (k1 : K < 10 * SetTable.turns tb.mask)
    (k2 : way tb.mask (hU P w k) K ∉ tb.place.toList) (k3 : ∀ c, c < K → way tb.mask (hU P w k) c ∈ tb.place.toList) {Q : SetFound → Shared → Prop}
    (qin : k ∈ M.map (·.2) → Q (.there none) s) (qout : k ∉ M.map (·.2) → Q (.free (way tb.mask (hU P w k) K) false) s) :
    ∀ (f c : Nat) (stand : Option SetTable.Probe), stand.getD (tb.probeStart (hU P w k)) = stp tb (hU P w k) c → c ≤ K → K - c < f →
      (∀ (i : Nat) p, M[i]? = some p → p.2 = k → ∃ d, c ≤ d ∧ d < K ∧ tb.place.toList[i]? = some (way tb.mask (hU P w k) d)) →
      wpAny (model P w) A (setSearchFrom a (.ref x) (hU P w k) true f stand) Q E s
  | 0, c, stand, _, _, z, _ => absurd z (Nat.not_lt_zero _)
  | f + 1, c, stand, hst, hc, hf, hre => by
    obtain ⟨ob, g1, gx, g2⟩ := R.ob
    have gf := R.fits
    rw [setSearchFrom_succ]
    refine wpAny_bind (wpAny_setState_of g1 g2 gf ?_)
    dsimp only
    refine wp_if_neg R.kept ?_
    try refine wpAny_bind (wpAny_pure ?_)
    have jj : ∀ q, (nth tb.mask (stp tb (hU P w k) c) q).j = way tb.mask (hU P w k) (c + q) := fun q => congrArg SetTable.Probe.j (stp_add tb _ c q)
    have lands : (nth tb.mask (stp tb (hU P w k) c) (K - c)).j = way tb.mask (hU P w k) K := by rw [jj, show c + (K - c) = K by omega]
    rcases go_spec tb R.tab.ris R.tab.dm (fun i => (xs[i]?.map (·.1)).getD 0) (hU P w k) (10 * SetTable.turns tb.mask) (K - c) _ (stp_clean tb _ c) (by omega)
      (fun q hq => by rw [jj]; exact k3 (c + q) (by omega)) (by rw [lands]; exact k2) with ⟨q, i, hq, hi, hh, first, pr⟩ | ⟨first, pr⟩
    · have pr' : tb.probe (fun i => (xs[i]?.map (·.1)).getD 0) (hU P w k) (stand.getD (tb.probeStart (hU P w k))) = some (.candidate (way tb.mask (hU P w k) (c + q)) i (stp tb (hU P w k) (c + (q + 1)))) := by
        rw [hst, ← jj, ← stp_add]
        exact pr
      rw [pr']
      dsimp only
      rw [jj] at hi
      have il : i < M.length := by
        have z1 : i < tb.place.toList.length := (List.getElem?_eq_some_iff.mp hi).1
        have z2 := R.tab.sz
        rw [List.length_map] at z2
        rw [Array.length_toList, z2] at z1
        exact z1
      obtain ⟨p, ep1⟩ : ∃ p, M[i]? = some p := ⟨_, List.getElem?_eq_getElem il⟩
      have pin : p ∈ M := List.mem_of_getElem? ep1
      have pis := R.isu p pin
      have onwards : wpAny (model P w) A (searchRest a (.ref x) (hU P w k) true f xs tb (way tb.mask (hU P w k) (c + q)) i (stp tb (hU P w k) (c + (q + 1)))) Q E s := by
        unfold searchRest
        rw [row_at R.rw' ep1]
        dsimp only
        refine wpAny_bind (wpAny_holding (wpAny_eqBool_tuple hu pis hx ?_))
        refine wpAny_bind (wpAny_setState_of g1 g2 gf ?_)
        dsimp only
        by_cases same : p.2 = k
        · exact wp_if_pos (by simp [lf_iff, same]) (wpAny_pure (qin (List.mem_map.mpr ⟨p, pin, same⟩)))
        · refine wp_if_neg (by simp [lf_iff, same]) ?_
          try refine wpAny_bind (wpAny_pure ?_)
          rw [sameMem]
          dsimp only
          have live : tb.slot (way tb.mask (hU P w k) (c + q)) = .live i := slot_live R.tab.ris hi
          simp only [if_true, live, row_at R.rw' ep1]
          refine wpAny_bind (wpAny_isSame_ref_self (wpAny_bind (wpAny_pure ?_)))
          simp only [if_true]
          refine wp_if_neg (by simp [lf_iff, same]) ?_
          refine find_from R hx hu k1 k2 k3 qin qout f (c + (q + 1)) _ rfl (by omega) (by omega) fun i0 p0 m0 e0 => ?_
          obtain ⟨d, d1, d2, d3⟩ := hre i0 p0 m0 e0
          refine ⟨d, ?_, d2, d3⟩
          rcases Nat.lt_trichotomy d (c + q) with z | z | z
          · exfalso
            exact first (d - c) i0 (by omega) (by rw [jj, show c + (d - c) = d by omega]; exact d3) ((hash_at R.rw' m0).trans (congrArg (hU P w) e0))
          · exfalso
            rw [z] at d3
            have l2 := slot_live R.tab.ris d3
            rw [live] at l2
            injection l2 with l2
            rw [← l2, ep1] at m0
            exact same ((congrArg Prod.snd (Option.some.inj m0)).trans e0)
          · omega
      by_cases tl : tb.led = true
      · refine wp_if_neg (by simp [tl]) ?_
        try refine wpAny_bind (wpAny_pure ?_)
        exact onwards
      · refine wp_if_pos (by simp [tl]) (wpAny_bind (unseen hx (fun y hy => ?_) ?_))
        · obtain ⟨e, e1, e2⟩ := List.mem_map.mp hy
          have e3 : e ∈ xs ∧ e.1 = hU P w k := by simpa using e1
          have e4 : e ∈ xs.toList := by simpa using e3.1
          rw [R.rw'] at e4
          obtain ⟨r, r1, r2⟩ := List.mem_map.mp e4
          exact ⟨r.2, r.1, by rw [← e2, ← r2], R.isu r r1⟩
        · refine wp_if_neg (by decide) ?_
          try refine wpAny_bind (wpAny_pure ?_)
          exact onwards
    · have pr' : tb.probe (fun i => (xs[i]?.map (·.1)).getD 0) (hU P w k) (stand.getD (tb.probeStart (hU P w k))) = some (.empty (way tb.mask (hU P w k) K) none) := by
        rw [hst, ← lands]
        exact pr
      rw [pr']
      dsimp only
      refine wpAny_pure (qout fun hm => ?_)
      obtain ⟨p0, m1, e0⟩ := List.mem_map.mp hm
      obtain ⟨i0, l0, m2⟩ := List.getElem_of_mem m1
      have m0 : M[i0]? = some p0 := by rw [List.getElem?_eq_getElem l0, m2]
      obtain ⟨d, d1, d2, d3⟩ := hre i0 p0 m0 e0
      exact first (d - c) i0 (by omega) (by rw [jj, show c + (d - c) = d by omega]; exact d3) ((hash_at R.rw' m0).trans (congrArg (hU P w) e0))

theorem find_at (R : SetU P w s.heap a M xs ep tb) {x : Addr} {k : Ky} (hx : IsU P w s.heap k x) (hu : A.units < cLine) {Q : SetFound → Shared → Prop}
    (qin : k ∈ M.map (·.2) → Q (.there none) s)
    (qout : ∀ K, k ∉ M.map (·.2) → way tb.mask (hU P w k) K ∉ tb.place.toList → (∀ c, c < K → way tb.mask (hU P w k) c ∈ tb.place.toList) → Q (.free (way tb.mask (hU P w k) K) false) s) :
    wpAny (model P w) A (setSearch a (.ref x) (hU P w k) true) Q E s := by
  have rm := R.room
  obtain ⟨K, k1, k2, k3⟩ := R.tab.first (by rw [List.length_map]; omega) (hU P w k)
  have big : K < 100000 := by
    have : 10 * SetTable.turns tb.mask ≤ 1420 := by
      unfold SetTable.turns
      rcases R.tab.mok with e | e | e <;> omega
    omega
  unfold setSearch
  refine find_from R hx hu k1 k2 k3 qin (fun z => qout K z k2 k3) 100000 0 none rfl (Nat.zero_le _) (by omega) fun i p e1 e2 => ?_
  have i1 : (hs P w M)[i]? = some (hU P w k) := by rw [List.getElem?_map, e1, ← e2] <;> rfl
  have i2 : i < tb.place.toList.length := by
    have z1 : i < M.length := (List.getElem?_eq_some_iff.mp e1).1
    have z2 := R.tab.sz
    rw [List.length_map] at z2
    rw [Array.length_toList, z2]
    exact z1
  obtain ⟨c, c1, c2⟩ := R.tab.before k2 i1 (List.getElem?_eq_getElem i2)
  exact ⟨c, Nat.zero_le _, c1, by rw [List.getElem?_eq_getElem i2, c2]⟩

/-! ### adding -/
theorem isU_same {h h' : Heap} {k : Ky} {a b : Addr} {o : Obj} {xs : Array (Int × Value)} {ep : Nat} {tb : SetTable} (x : IsU P w h k b) (g : h.get? a = some o) (gd : o.data = .set xs ep tb) (sb : Heap.SameBut a h h') : IsU P w h' k b := by
  obtain ⟨ob, its, n, e1, e2, e3, e4⟩ := x
  have ne : b ≠ a := fun z => by
    rw [z, g] at e1
    rw [← Option.some.inj e1, gd] at e3
    cases e3
  exact ⟨ob, its, n, (sb.2 b ne).trans e1, e2, e3, e4⟩
theorem isU_grow {h h' : Heap} {k : Ky} {b : Addr} (x : IsU P w h k b) (g : ∀ c o, h.get? c = some o → h'.get? c = some o) : IsU P w h' k b := by
  obtain ⟨ob, its, n, e1, r⟩ := x
  exact ⟨ob, its, n, g b ob e1, r⟩
theorem rows_ins (M : Mem) (i : Nat) (x : Addr) (k : Ky) : rows P w (M.take i ++ (x, k) :: M.drop i) = (rows P w M).take i ++ (hU P w k, Value.ref x) :: (rows P w M).drop i := by
  simp only [rows, List.map_append, List.map_cons, List.map_take, List.map_drop]

theorem filter_range {α : Type} (M : List α) : (List.range M.length).filterMap (fun i => M[i]?) = M := by
  have key : ∀ (pre M : List α), (List.range' pre.length M.length).filterMap (fun i => (pre ++ M)[i]?) = M := by
    intro pre M
    induction M generalizing pre with
    | nil => rfl
    | cons x M ih =>
      have q := ih (pre ++ [x])
      rw [List.length_append, List.length_singleton, List.append_assoc] at q
      rw [List.length_cons, List.range'_succ]
      rw [List.filterMap_cons_some (b := x) (by simp), show ([x] ++ M : List α) = x :: M from rfl] at *
      exact congrArg _ q
  have z := key [] M
  rw [List.length_nil, List.nil_append, ← List.range_eq_range'] at z
  exact z
/-- the rows in another order -/
theorem rows_order (M : Mem) (xs : Array (Int × Value)) (order : Array Nat) (r : xs.toList = rows P w M) (p : order.toList.Perm (List.range M.length)) :
    ∃ M2, (order.filterMap (xs[·]?)).toList = rows P w M2 ∧ M2.Perm M ∧ hs P w M2 = order.toList.map fun i => (xs.map (·.1)).getD i 0 := by
  have key : ∀ l : List Nat, (∀ i ∈ l, i < M.length) → l.filterMap (fun i => xs[i]?) = rows P w (l.filterMap fun i => M[i]?) ∧ hs P w (l.filterMap fun i => M[i]?) = l.map fun i => (xs.map (·.1)).getD i 0 := by
    intro l
    induction l with
    | nil => exact fun _ => ⟨rfl, rfl⟩
    | cons i l ih =>
      intro al
      obtain ⟨i1, i2⟩ := ih fun j z => al j (List.mem_cons_of_mem _ z)
      obtain ⟨p, e1⟩ : ∃ p, M[i]? = some p := ⟨_, List.getElem?_eq_getElem (al i List.mem_cons_self)⟩
      have e2 := row_at r e1
      have e3 : (xs.map (·.1)).getD i 0 = hU P w p.2 := by simp [Array.getD_eq_getD_getElem?, Array.getElem?_map, e2]
      refine ⟨?_, ?_⟩
      · rw [List.filterMap_cons_some e2, List.filterMap_cons_some e1, i1] <;> rfl
      · rw [List.filterMap_cons_some e1, List.map_cons, e3, ← i2] <;> rfl
  obtain ⟨k1, k2⟩ := key order.toList fun i z => List.mem_range.mp (p.mem_iff.mp z)
  refine ⟨_, by rw [Array.toList_filterMap]; exact k1, ?_, k2⟩
  have z := p.filterMap (fun i => M[i]?)
  rw [filter_range] at z
  exact z

theorem lay_again {o : Obj} (g1 : s.heap.get? a = some o) (gx : o.ExactSet) (g2 : o.data = .set xs ep tb) (r : xs.toList = rows P w M) (tsz : tb.place.size = xs.size) (tdm : tb.dummies = #[]) (tm : xs.size ≤ tb.mask)
    (nd : (M.map (·.2)).Nodup) (al : ∀ p ∈ M, IsU P w s.heap p.2 p.1) (pl : tb.plain = true) (ld : w.params.followText "set-order" = true ∨ tb.led = true) (few : M.length < 64) {wanted m : Nat}
    (w1 : SetTable.sizeAbove wanted - 1 = m) (mk : MaskOk m) (w2 : SetTable.sizeAbove wanted ≤ 128) (w3 : M.length * 5 < m * 3) {Q : Unit → Shared → Prop}
    (q : ∀ h' M' xs' ep' tb', Heap.SameBut a s.heap h' → SetU P w h' a M' xs' ep' tb' → M'.Perm M → Q () { s with heap := h' }) : wpAny (model P w) A (setRelay a wanted) Q E s := by
  have sz := size_of r
  have tf : tb.fits xs.size = true := by
    unfold SetTable.fits SetTable.fill
    rw [tdm, Bool.and_eq_true, beq_iff_eq, decide_eq_true_eq]
    show tb.place.size = xs.size ∧ tb.place.size + 0 ≤ tb.mask
    omega
  obtain ⟨t', order, e, op, T, em, el, ep', ed⟩ := relaid_ok tb (hs := xs.map (·.1)) (wanted := wanted) w1 mk (by rw [Array.size_map, sz]; omega)
  rw [Array.size_map, sz] at op
  obtain ⟨M2, r1, r2, r3⟩ := rows_order M xs order r op
  rw [← r3] at T
  have s2 : (order.filterMap (xs[·]?)).size = xs.size := by rw [size_of r1, r2.length_eq, sz]
  rw [setRelay_eq]
  refine wpAny_bind (wpAny_setState_of g1 g2 tf ?_)
  dsimp only
  refine wp_if_neg (by rw [sizeLine_eq]; omega) ?_
  try refine wpAny_bind (wpAny_pure ?_)
  rw [e]
  dsimp only
  refine wpAny_bind (wp_if_neg (by rw [s2]; simp) ?_)
  try refine wpAny_bind (wpAny_pure ?_)
  refine wpAny_pure ?_
  dsimp only
  refine wpAny_storeSet_of g1 g2 ?_ (by rw [s2, sz, sizeLine_eq]; omega)
  have sb : Heap.SameBut a s.heap (s.heap.update a (Obj.putSet (order.filterMap (xs[·]?)) t')) := Heap.SameBut.update ..
  refine q _ M2 (order.filterMap (xs[·]?)) (ep + 1) t' sb ⟨⟨_, store_at g1 g2, ⟨gx.1, gx.2.1, gx.2.2⟩, rfl⟩, r1, T, (r2.map (·.2)).nodup_iff.mpr nd, fun p z => isU_same (al p (r2.mem_iff.mp z)) g1 g2 sb, ep'.trans pl, by rw [el]; exact ld, ?_, by rw [r2.length_eq]; exact few⟩ r2
  rw [r2.length_eq, em]
  exact w3

theorem add_one (R : SetU P w s.heap a M xs ep tb) {x : Addr} {k : Ky} (hx : IsU P w s.heap k x) (hu : A.units < cLine) (few : M.length + 1 < 64) {Q : Bool → Shared → Prop}
    (q : ∀ b h' M' xs' ep' tb', Heap.SameBut a s.heap h' → SetU P w h' a M' xs' ep' tb' → (k ∈ M.map (·.2) → M' = M) → (k ∉ M.map (·.2) → M'.Perm ((x, k) :: M)) → Q b { s with heap := h' }) :
    wpAny (model P w) A (setAddHashed a (.ref x) (hU P w k)) Q E s := by
  obtain ⟨ob, g1, gx, g2⟩ := R.ob
  have sz := size_of R.rw'
  have rm := R.room
  have gf := R.fits
  unfold setAddHashed
  refine wpAny_holding ?_
  rw [show (100000 : Nat) = 99999 + 1 from rfl, setAddHashedIn_succ]
  refine wpAny_bind (wpAny_setState_of g1 g2 gf ?_)
  dsimp only
  refine wp_if_neg (by simp [byScan, Value.scannable]) ?_
  try refine wpAny_bind (wpAny_pure ?_)
  refine wpAny_bind (find_at R hx hu (fun hm => ?_) fun K hm k2 k3 => ?_)
  · dsimp only
    exact wpAny_pure (q false s.heap M xs ep tb (Heap.SameBut.refl a s.heap) R (fun _ => rfl) fun z => absurd hm z)
  · dsimp only
    refine wpAny_bind (wpAny_setState_of g1 g2 gf ?_)
    dsimp only
    obtain ⟨q1, q2, q3, q4, q5, q6, q7, q8, q9⟩ := R.tab.put k2 k3
    have pl : (tb.put (way tb.mask (hU P w k) K)).1.plain = true := q6.trans R.plain
    generalize hpt : tb.put (way tb.mask (hU P w k) K) = pt at q1 q3 q4 q5 q6 q7 q8 q9 pl ⊢
    obtain ⟨t1, i⟩ := pt
    dsimp only at q1 q3 q4 q5 q6 q7 q8 q9 pl ⊢
    subst q1
    first
      | (refine wpAny_bind ?_; refine wp_if_pos pl ?_; refine byVal hx ?_)
      | refine wp_if_pos pl (wpAny_bind (byVal hx ?_))
    simp only [if_true]
    have rr : (SetTable.insertAt xs (SetTable.below tb.place (way tb.mask (hU P w k) K)) (hU P w k, Value.ref x)).toList = rows P w (M.take (SetTable.below tb.place (way tb.mask (hU P w k) K)) ++ (x, k) :: M.drop (SetTable.below tb.place (way tb.mask (hU P w k) K))) := by
      rw [SetTable.toList_insertAt, rows_ins, R.rw']
    generalize SetTable.below tb.place (way tb.mask (hU P w k) K) = i at q2 q3 rr ⊢
    have pm := put_perm M i (x, k)
    have hl : (M.take i ++ (x, k) :: M.drop i).length = M.length + 1 := pm.length_eq
    rw [show (hs P w M).take i ++ hU P w k :: (hs P w M).drop i = hs P w (M.take i ++ (x, k) :: M.drop i) by simp only [hs, List.map_append, List.map_cons, List.map_take, List.map_drop]] at q3
    have nd1 : ((M.take i ++ (x, k) :: M.drop i).map (·.2)).Nodup := (pm.map (·.2)).nodup_iff.mpr (List.nodup_cons.mpr ⟨hm, R.nd⟩)
    have sz1 := (size_of rr).trans hl
    generalize SetTable.insertAt xs i (hU P w k, Value.ref x) = xs1 at rr sz1 ⊢
    generalize M.take i ++ (x, k) :: M.drop i = M1 at pm hl q3 nd1 rr
    refine wpAny_bind (wpAny_storeSet_of g1 g2 ?_ (by rw [sz1, sizeLine_eq]; omega))
    have sb : Heap.SameBut a s.heap (s.heap.update a (Obj.putSet xs1 t1)) := Heap.SameBut.update ..
    have g3 := store_at (es' := xs1) (t' := t1) g1 g2
    generalize s.heap.update a (Obj.putSet xs1 t1) = h1 at sb g3 ⊢
    have al1 : ∀ p ∈ M1, IsU P w h1 p.2 p.1 := fun p z => by
      rcases List.mem_cons.mp (pm.mem_iff.mp z) with e | z
      · rw [e]; exact isU_same hx g1 g2 sb
      · exact isU_same (R.isu p z) g1 g2 sb
    have ld1 : w.params.followText "set-order" = true ∨ t1.led = true := by rw [q5]; exact R.led
    have full_iff : t1.tooFull = decide ((M.length + 1) * 5 ≥ t1.mask * 3) := by
      unfold SetTable.tooFull
      rw [q9, List.length_map]
    by_cases tf : t1.tooFull = true
    · first
        | (refine wpAny_bind ?_; refine wp_if_pos (by simp [tf]) ?_)
        | (refine wp_if_pos (by simp [tf]) ?_; refine wpAny_bind ?_)
      have full : (M.length + 1) * 5 ≥ t1.mask * 3 := by
        rw [full_iff, decide_eq_true_eq] at tf
        exact tf
      rw [sz]
      have tsz : t1.place.size = xs1.size := by
        have z := q3.sz
        rw [List.length_map, hl] at z
        rw [z, sz1]
      rw [q4] at full
      have go : ∀ m, SetTable.sizeAbove (SetTable.grown (M.length + 1)) - 1 = m → MaskOk m → SetTable.sizeAbove (SetTable.grown (M.length + 1)) ≤ 128 → (M.length + 1) * 5 < m * 3 → M.length + 1 ≤ tb.mask →
          wpAny (model P w) A (setRelay a (SetTable.grown (M.length + 1))) (fun _ s' => wpAny (model P w) A (pure true) Q E s') E { s with heap := h1 } := fun m a1 a2 a3 a4 a5 => by
        refine lay_again (s := { s with heap := h1 }) g3 ⟨gx.1, gx.2.1, gx.2.2⟩ rfl rr tsz q3.dm (by rw [sz1, q4]; exact a5) nd1 al1 pl ld1 (by rw [hl]; exact few) a1 a2 a3 (by rw [hl]; exact a4) fun h2 M2 xs2 ep2 t2 sb2 R2 pm2 => ?_
        exact wpAny_pure (q true h2 M2 xs2 ep2 t2 (sb.trans sb2) R2 (fun z => absurd z hm) fun _ => pm2.trans pm)
      rcases R.tab.mok with e | e | e
      · rw [e] at full rm
        have e2 : M.length = 4 := by omega
        exact go 31 (by rw [e2, size_20]) (.inr (.inl rfl)) (by rw [e2, size_20]; decide) (by omega) (by omega)
      · rw [e] at full rm
        have e2 : M.length = 18 := by omega
        exact go 127 (by rw [e2, size_76]) (.inr (.inr rfl)) (by rw [e2, size_76]; decide) (by omega) (by omega)
      · exfalso
        rw [e] at full
        omega
    · first
        | refine wp_if_neg (by simp [tf]) ?_
        | (refine wpAny_bind ?_; refine wp_if_neg (by simp [tf]) ?_; refine wpAny_pure ?_)
      refine wpAny_pure (q true h1 M1 xs1 (ep + 1) t1 sb ⟨⟨_, g3, ⟨gx.1, gx.2.1, gx.2.2⟩, rfl⟩, rr, q3, nd1, al1, pl, ld1, ?_, by rw [hl]; exact few⟩ (fun z => absurd z hm) fun _ => pm)
      rw [full_iff, decide_eq_true_eq] at tf
      rw [hl]
      omega

/-- S.add(x) -/
theorem call_add (R : SetU P w s.heap a M xs ep tb) {x : Addr} {k : Ky} (hx : IsU P w s.heap k x) (hu : A.units + 4 < cLine) (few : M.length + 1 < 64) {Q : Value → Shared → Prop}
    (q : ∀ h' tk M' xs' ep' tb', Heap.SameBut a s.heap h' → SetU P w h' a M' xs' ep' tb' → (k ∈ M.map (·.2) → M' = M) → (k ∉ M.map (·.2) → M'.Perm ((x, k) :: M)) → Q .none { s with heap := h', toks := tk }) :
    wpAny (model P w) A (call (.builtin "set.add") [.ref a, .ref x]) Q E s := by
  have ty : s.TypeIs (.ref a) "set" := by
    obtain ⟨o, g1, gx, _⟩ := R.ob
    exact ⟨o, g1, gx.1⟩
  refine wpAny_call_entry F.slot_set_add ty F.entry_set_add ?_ (F.args_set_add_2 _ _)
  unfold Builtin.«set.add» Builtin.Frozenset.oneOther
  simp only [List.isEmpty_nil, bind_assoc]
  unfold Builtin.Frozenset.addrOf setAdd
  refine wpAny_bind (wpAny_pure ?_)
  try dsimp only
  refine wpAny_bind (wpAny_pure ?_)
  try dsimp only
  have hu1 : A.in1.units < cLine := by show A.units + 1 < cLine; omega
  refine wpAny_bind (wpAny_holding (wpAny_bind (wpAny_pyHash_tuple hu1 hx ?_)))
  refine add_one (s := { s with toks := s.toks + ((lf k).length + 1) }) R hx hu1 few fun b h' M' xs' ep' tb' sb R' c1 c2 => ?_
  show wpAny _ _ (ret Value.none) _ _ _
  exact wpAny_pure ⟨_, rfl, q h' _ M' xs' ep' tb' sb R' c1 c2⟩
end
end Us
end

section
set_option maxHeartbeats 2000000
/-! Us2: the same sets in the walk: adding, sorted. -/
namespace Us
open PySem PySem.Spec PyProof.Rows L2 PySem.W

theorem hU_eq (P : Program) (w : World) (k : Ky) : hU P w k = L2.thash P w k := by
  show reduceHash (Builtin.Tuple.tupleHashOf ((lf k).map (leafKind P w).hash)) = reduceHash (Builtin.Tuple.tupleHashOf (k.map (intKind P w).hash))
  rw [show (lf k).map (leafKind P w).hash = k.map (intKind P w).hash by
    rw [lf, List.map_map]
    exact List.map_congr_left fun i _ => rfl]
theorem hs_eq (P : Program) (w : World) (M : Mem) : hs P w M = M.map fun p => L2.thash P w p.2 := List.map_congr_left fun p _ => hU_eq P w p.2
theorem rows_eq (P : Program) (w : World) (M : Mem) : rows P w M = L2.rowsOf P w M := List.map_congr_left fun p _ => by rw [hU_eq]
theorem SetU.t0 {P : Program} {w : World} {h : Heap} {a : Addr} {M : Mem} {xs : Array (Int × Value)} {ep : Nat} {tb : SetTable} (R : SetU P w h a M xs ep tb) : SetT0 P w h a M :=
  ⟨xs, ep, tb, R.ob, by rw [← rows_eq]; exact R.rw', by rw [← hs_eq]; exact R.tab, R.nd, R.plain, R.led, R.room, R.few⟩
theorem full {P : Program} {w : World} {h : Heap} {a : Addr} {M : Mem} (R : SetT0 P w h a M) (al : ∀ p ∈ M, IsU P w h p.2 p.1) : ∃ xs ep tb, SetU P w h a M xs ep tb := by
  obtain ⟨xs, ep, tb, h1, h2, h3, h4, h5, h6, h7, h8⟩ := R.ex
  exact ⟨xs, ep, tb, h1, by rw [rows_eq]; exact h2, by rw [hs_eq]; exact h3, h4, al, h5, h6, h7, h8⟩

/-- a flat item's number -/
def vk : V → Option Int
  | .int n => some n
  | .bl b => some (if b = true then 1 else 0)
  | _ => none
def venc : V → PyData
  | .int n => .int n
  | .bl b => .bool b
  | _ => .none
def Flat (xs : List V) (k : Ky) : Prop := xs.map vk = k.map some
def enc (xs : List V) : PyData := .tuple (xs.map venc)
theorem vk_is {P : Program} {w : World} {x : V} {n : Int} {u : Value} (r : L2.RelV x u) (e : vk x = some n) : (leafKind P w).is (.num n) u = true := by
  cases x <;> try (exfalso; simp [vk] at e; done)
  case int m =>
    obtain ⟨t, rfl⟩ := r
    exact decide_eq_true (by simpa [vk] using e)
  case bl b =>
    cases r
    exact decide_eq_true (by simpa [vk] using e)
theorem flat_items {P : Program} {w : World} : ∀ {xs : List V} {k : Ky} {us : List Value}, Flat xs k → Vals xs us → ItemsAre (leafKind P w) (lf k) us
  | [], [], _, _, .nil => .nil
  | [], _ :: _, _, e, _ => by cases e
  | _ :: _, [], _, e, _ => by cases e
  | x :: xs, n :: k, _, e, .cons r t => by
    have e' : vk x = some n ∧ xs.map vk = k.map some := by simpa [Flat] using e
    exact .cons (vk_is r e'.1) (flat_items e'.2 t)
theorem flat_reads {h : Heap} : ∀ {xs : List V} {k : Ky} {us : List Value}, Flat xs k → Vals xs us → ReadsAll h us (xs.map venc) []
  | [], [], _, _, .nil => .nil
  | [], _ :: _, _, e, _ => by cases e
  | _ :: _, [], _, e, _ => by cases e
  | x :: xs, n :: k, _, e, .cons r t => by
    have e' : vk x = some n ∧ xs.map vk = k.map some := by simpa [Flat] using e
    have q := flat_reads (h := h) e'.2 t
    have e1 := e'.1
    cases x <;> try (exfalso; simp [vk] at e1; done)
    case int m =>
      obtain ⟨t, rfl⟩ := r
      exact ReadsAll.cons (as := []) (bs := []) (.int _ _) q
    case bl b =>
      cases r
      exact ReadsAll.cons (as := []) (bs := []) (.bool _) q

theorem perm_map {α β : Type} {f : α → β} {a b : List β} (p : a.Perm b) : ∀ M : List α, b = M.map f → ∃ M1 : List α, M1.Perm M ∧ a = M1.map f := by
  induction p with
  | nil => exact fun M e => ⟨M, .refl _, e⟩
  | cons x _ ih =>
    intro M e
    cases M with
    | nil => cases e
    | cons m M =>
      injection e with e1 e2
      obtain ⟨M1, p1, q1⟩ := ih M e2
      exact ⟨m :: M1, p1.cons m, by rw [List.map_cons, e1, q1]⟩
  | swap x y l =>
    intro M e
    cases M with
    | nil => cases e
    | cons m M => cases M with
      | nil => cases e
      | cons m' M =>
        injection e with e1 e2
        injection e2 with e2 e3
        exact ⟨m' :: m :: M, .swap m m' M, by rw [List.map_cons, List.map_cons, e1, e2, e3]⟩
  | trans _ _ ih1 ih2 =>
    intro M e
    obtain ⟨M1, p1, q1⟩ := ih2 M e
    obtain ⟨M2, p2, q2⟩ := ih1 M1 q1
    exact ⟨M2, p2.trans p1, q2⟩

section
variable {X : Cx}
theorem isU_of {pins : List (Addr × Obj)} {σ : L2.St} {H : Hp} {s : Shared} {b : Addr} {xs : List V} {k : Ky} (I : Inv X pins σ H s) (h : SqT X.K H b xs) (e : Flat xs k) : IsU X.prog X.w s.heap k b := by
  obtain ⟨its, r, ⟨o, ho, hc, n, hd⟩, _⟩ := I.tuple h
  exact ⟨o, its.toArray, n, ho, hc, hd, by simpa using flat_items e r⟩
theorem reads_of {pins : List (Addr × Obj)} {σ : L2.St} {H : Hp} {s : Shared} {b : Addr} {xs : List V} {k : Ky} (I : Inv X pins σ H s) (h : SqT X.K H b xs) (e : Flat xs k) : Reads s.heap (.ref b) (enc xs) [] := by
  obtain ⟨its, r, ⟨o, ho, hc, n, hd⟩, _⟩ := I.tuple h
  exact .tuple ho hc hd (by simpa using flat_reads e r)
/-- what the set's members are -/
def Mems (K : PySem.W.Frag) (H : Hp) (M : Mem) : Prop := ∀ p ∈ M, ∃ xs, SqT K H p.1 xs ∧ Flat xs p.2
theorem Mems.isU {pins : List (Addr × Obj)} {σ : L2.St} {H : Hp} {s : Shared} {M : Mem} (h : Mems X.K H M) (I : Inv X pins σ H s) : ∀ p ∈ M, IsU X.prog X.w s.heap p.2 p.1 := fun p hp => by
  obtain ⟨xs, h1, h2⟩ := h p hp
  exact isU_of I h1 h2

theorem addU_ok {pins : List (Addr × Obj)} {σ : L2.St} {H : Hp} {s : Shared} {E : Value → Shared → Prop} {D x : Addr} {M : Mem} {k : Ky} {xs : List V} {Q : Value → Shared → Prop} (I : Inv X pins σ H s) (hD : H D = some (SetTO X.prog X.w D M)) (hm : Mems X.K H M)
    (hx : SqT X.K H x xs) (hk : Flat xs k) (few : M.length + 1 < 64) (hu : X.A.units + 4 < cLine)
    (h : ∀ M' s', (k ∈ M.map (·.2) → M' = M) → (k ∉ M.map (·.2) → M'.Perm ((x, k) :: M)) → Inv X pins σ (upd H D (SetTO X.prog X.w D M')) s' → Q .none s') : wpAny (model X.prog X.w) X.A (call (.builtin "set.add") [.ref D, .ref x]) Q E s := by
  have R0 : SetT0 X.prog X.w s.heap D M := (I.hok D _ hD).1
  obtain ⟨xs', ep, tb, R⟩ := full R0 (hm.isU I)
  refine call_add R (isU_of I hx hk) hu few fun h' tk M' xs2 ep2 tb2 sb R2 c1 c2 => ?_
  have he : ∃ u, h'.get? D = some u := by
    obtain ⟨o, ho, _⟩ := R2.ob
    exact ⟨o, ho⟩
  exact h M' _ c1 c2 (I.write (e := D) (t' := tk) (by rw [hD]; trivial) (.inl rfl) (fun b u hb hu => (sb.2 b hb).trans hu) he (setTO_new R2.t0))

/-- sorted(set): bs the members, g their place and key, e their data -/
def rSortedU (β : Type) (K : PySem.W.Frag) (P : Program) (w : World) : List V → Hp → VK → Prop := fun vs H Q => ∃ (a : Addr) (bs : List β) (g : β → Addr × Ky) (e : β → PyData), vs = [V.ref a] ∧ H a = some (SetTO P w a (bs.map g)) ∧
  (∀ b ∈ bs, ∃ xs, SqT K H (g b).1 xs ∧ Flat xs (g b).2 ∧ e b = enc xs ∧ xs ≠ []) ∧ AllAlike (bs.map e) ∧
  ∀ (bs' : List β) (l : Addr), bs'.Perm bs → H l = none → Q (.ref l) (upd H l (.lst ((bs'.mergeSort (dataLe false e)).map fun b => V.ref (g b).1)))

theorem each_self {α β : Type} (g : β → α) : ∀ l : List β, EachIs (fun a b => a = g b) (l.map g) l
  | [] => .nil
  | x :: l => .cons rfl (each_self g l)
theorem each_eq {α β : Type} {g : β → α} : ∀ {as : List α} {l : List β}, EachIs (fun a b => a = g b) as l → as = l.map g
  | _, _, .nil => rfl
  | _, _, .cons e t => by rw [e, each_eq t, List.map_cons]
theorem each_all {α β : Type} {R R' : α → β → Prop} : ∀ {as : List α} {l : List β}, EachIs R as l → (∀ a b, b ∈ l → R a b → R' a b) → EachIs R' as l
  | _, _, .nil, _ => .nil
  | _, _, .cons e t, h => .cons (h _ _ List.mem_cons_self e) (each_all t fun a b hb r => h a b (List.mem_cons_of_mem _ hb) r)
theorem depth_enc (xs : List V) : (enc xs).depth ≤ 1 := by
  have key : ∀ xs : List V, PyData.depthAll (xs.map venc) = 0 := by
    intro xs
    induction xs with
    | nil => simp [PyData.depthAll]
    | cons x xs ih =>
      show PyData.depthAll (venc x :: xs.map venc) = 0
      rw [PyData.depthAll, ih]
      cases x <;> simp [venc, PyData.depth]
  unfold enc
  rw [PyData.depth, key xs]
  first | exact Nat.le_refl _ | decide | simp

theorem vals_refs {β : Type} (g : β → Addr × Ky) : ∀ l : List β, Vals (l.map fun b => V.ref (g b).1) (l.map fun b => Value.ref (g b).1)
  | [] => .nil
  | b :: l => .cons rfl (vals_refs g l)
theorem cr_sortedU {β : Type} (hc : X.calm = true) (hu : X.A.units + 8 < cLine) : CallR X (.builtin "sorted") (rSortedU β X.K X.prog X.w) := by
  intro pins s σ H vs us Q I r h
  obtain ⟨a, bs, g, en, rfl, ha, hm, hal, q⟩ := h
  have R0 : SetT0 X.prog X.w s.heap a (bs.map g) := (I.hok a _ ha).1
  obtain ⟨xs, ep, tb, R⟩ := full R0 (Mems.isU (fun p hp => by
    obtain ⟨b, hb, e⟩ := List.mem_map.mp hp
    obtain ⟨xs, x1, x2, _⟩ := hm b hb
    exact ⟨xs, by rw [← e]; exact x1, by rw [← e]; exact x2⟩) I)
  rw [Vals.ref1 r]
  obtain ⟨o, g1, gx, g2⟩ := R.ob
  have sz := size_of R.rw'
  have few := R.few
  rw [List.length_map] at few
  refine Calls.call_function_entry kind_sorted plain_sorted entry_sorted (args_sorted1 _) ?_
  unfold Builtin.«sorted»
  refine wpAny_bind (m := checkCount "sorted" 1 1 _) (wpAny_pure ?_)
  refine wpAny_bind (collect_set (A := X.A.in1) (I.ok.hd hc) ⟨o, g1, gx.1, g2⟩ R.fits (by unfold scanBound; rw [List.length_map] at sz; omega) R.tab.ris R.led fun s1 vs k1 hz ge os pm => ?_)
  have e1 : xs.toList.map (·.2) = bs.map fun b => Value.ref (g b).1 := by
    rw [R.rw']
    unfold rows
    rw [List.map_map, List.map_map] <;> rfl
  rw [e1] at pm
  obtain ⟨M1, pM, rfl⟩ := perm_map pm bs rfl
  have l1 : (M1.map fun b => Value.ref (g b).1).length < 64 := by rw [List.length_map, pM.length_eq]; exact few
  refine wpAny_bind (wpAny_newList ?_ (by rw [sizeLine_eq]; omega))
  have oL : (s1.heap.push (seqObj "list" (M1.map fun b => Value.ref (g b).1).toArray 0)).get? s1.heap.objs.size = some (seqObj "list" (M1.map fun b => Value.ref (g b).1).toArray 0) := Heap.get?_push_size _ rfl
  have rd : EachIs (fun v (p : β) => ∃ as, Reads (s1.heap.push (seqObj "list" (M1.map fun b => Value.ref (g b).1).toArray 0)) v (en p) as ∧ s1.heap.objs.size ∉ as) (M1.map fun b => Value.ref (g b).1) M1 :=
    each_all (each_self (fun p : β => Value.ref (g p).1) M1) fun v p hp e => by
      have hp' := pM.mem_iff.mp hp
      obtain ⟨ys, y1, y2, y3, _⟩ := hm p hp'
      refine ⟨[], ?_, fun z => nomatch z⟩
      rw [e, y3]
      exact PyProof.Rows.Reads.keeps (fun b o z => Heap.get?_push_of_some _ (k1 b o z)) (reads_of I y1 y2)
  have al1 : AllAlike (M1.map en) := fun d hd d' hd' => hal d ((pM.map en).mem_iff.mp hd) d' ((pM.map en).mem_iff.mp hd')
  have so : Sortable (M1.map en) := .inl fun d hd => by
    obtain ⟨p, hp, e⟩ := List.mem_map.mp hd
    obtain ⟨ys, _, _, y3, y4⟩ := hm p (pM.mem_iff.mp hp)
    cases ys with
    | nil => exact absurd rfl y4
    | cons x r => exact ⟨venc x, r.map venc, by rw [← e, y3] <;> rfl⟩
  refine wpAny_bind (wpAny_holding (list_sort_data (s := { s1 with heap := s1.heap.push (seqObj "list" (M1.map fun b => Value.ref (g b).1).toArray 0) }) (R := fun v (p : β) => v = Value.ref (g p).1) oL (each_self _ M1) rd al1 so (by rw [sizeLine_eq, pM.length_eq]; omega) (fun p hp => ?_) fun out ol eo => ?_))
  · obtain ⟨ys, _, _, y3, _⟩ := hm p (pM.mem_iff.mp hp)
    have z := depth_enc ys
    rw [← y3] at z
    show X.A.units + 1 + 1 + _ < _
    omega
  · rw [each_eq eo]
    obtain ⟨c, hcg⟩ := sortedHeap_at (vs := M1.map fun b => Value.ref (g b).1) (out := ((M1.mergeSort (dataLe false en)).map fun b => Value.ref (g b).1).toArray) oL
    have hn : H s1.heap.objs.size = none := I.hok.fresh hz
    have k2 : ∀ b u, s.heap.get? b = some u → (sortedHeap (s1.heap.push (seqObj "list" (M1.map fun b => Value.ref (g b).1).toArray 0)) s1.heap.objs.size (M1.map fun b => Value.ref (g b).1) ((M1.mergeSort (dataLe false en)).map fun b => Value.ref (g b).1).toArray).get? b = some u := fun b u e => by
      have e2 := k1 b u e
      have lt := Heap.lt_size e2
      rw [sortedHeap_old (Nat.ne_of_lt lt) (by rw [size_push']; exact Nat.lt_succ_of_lt lt)]
      exact Heap.get?_push_of_some _ e2
    have ml : (M1.mergeSort (dataLe false en)).length = bs.length := by rw [List.length_mergeSort, pM.length_eq]
    have J : Inv X pins σ (upd H s1.heap.objs.size (.lst ((M1.mergeSort (dataLe false en)).map fun b => V.ref (g b).1))) { s with heap := sortedHeap (s1.heap.push (seqObj "list" (M1.map fun b => Value.ref (g b).1).toArray 0)) s1.heap.objs.size (M1.map fun b => Value.ref (g b).1) ((M1.mergeSort (dataLe false en)).map fun b => Value.ref (g b).1).toArray, gens := s1.gens, drawn := s1.drawn, toks := s1.toks } :=
      I.call (ch := []) (Un.laid k2 hz hn) (I.hok.laid k2 hz ⟨by rw [List.length_map, ml, sizeLine_eq]; omega, (M1.mergeSort (dataLe false en)).map fun b => Value.ref (g b).1, c, by simpa using vals_refs g _, hcg⟩) (by rw [ge]; exact I.bare) (fun _ z => nomatch z)
    have e : ({ s1 with heap := sortedHeap (s1.heap.push (seqObj "list" (M1.map fun b => Value.ref (g b).1).toArray 0)) s1.heap.objs.size (M1.map fun b => Value.ref (g b).1) ((M1.mergeSort (dataLe false en)).map fun b => Value.ref (g b).1).toArray } : Shared) = { s with heap := sortedHeap (s1.heap.push (seqObj "list" (M1.map fun b => Value.ref (g b).1).toArray 0)) s1.heap.objs.size (M1.map fun b => Value.ref (g b).1) ((M1.mergeSort (dataLe false en)).map fun b => Value.ref (g b).1).toArray, gens := s1.gens, drawn := s1.drawn, toks := s1.toks } := by
      cases s1
      cases s
      cases os
      rfl
    refine wpAny_pure ⟨_, rfl, ?_⟩
    show ∃ _, _
    rw [e]
    exact ⟨.ref s1.heap.objs.size, _, J, rfl, q M1 _ pM hn⟩
end
end Us
end

section
set_option maxHeartbeats 2000000
/-! Us3: the set comprehension, whatever adding to the new set means. -/
namespace Us
open PySem PySem.Spec PyProof.Rows L2

/-- the wish that y can be added to the set D, and that Nx holds of the heap behind -/
abbrev Addx := Addr → V → Hp → (Hp → Prop) → Prop
structure Adds (X : Cx) (Ad : Addx) : Prop where
  run : ∀ (X' : Cx) (pn : List (Addr × Obj)) (τ : L2.St) (H : Hp) (s : Shared) (D : Addr) (y : V) (u : Value) (Nx : Hp → Prop) (E : Value → Shared → Prop), X'.prog = X.prog → X'.w = X.w → X'.K = X.K → X'.A = X.A → Inv X' pn τ H s → RelV y u → Ad D y H Nx →
    wpAny (model X.prog X.w) X.A (call (.builtin "set.add") [.ref D, u]) (fun _ s' => ∃ H', Inv X' pn τ H' s' ∧ Nx H') E s
/-- {elt for tg in it if ..}: D the new set, o its first look -/
def tSC (o : Addr → HO) (Ad : Addx) (wi : TI) (g : TG) (tt : TT) (te : TE) (vs : List Nat) : TE := fun σ H Q => wi σ H fun J H1 => ∀ D, H1 D = none → ∃ St : Nat → Nat → Hp → Prop, (∃ m, St 0 m (upd H1 D (o D))) ∧ ∀ i m Hi, St i m Hi →
  (J.stop i Hi ∧ Q (.ref D) Hi) ∨ (J.go i Hi ∧ ∃ Nx : Hp → Prop, (∀ H', Nx H' → ∃ m', m' < m ∧ St (i + 1) m' H') ∧ ∀ x H', J.yld i Hi x H' → g x (wipe σ vs) H' fun σ2 H2 => wipe σ2 vs = wipe σ vs ∧ tt σ2 H2 fun b H3 =>
    if b = true then te σ2 H3 fun y H4 => Ad D y H4 Nx else Nx H3)
section
variable {X : Cx}
abbrev bare0 (w : World) : Obj := { cls := .type "set", dict := none, data := .set #[] 0 (.fresh 0 0 (!w.params.followText "set-order")) }
theorem pe_SC {elt tg it : Expr} {ifs : List Expr} {scope : Scope} {own : List (PySem.Str × Nat)} {pos : Pos} {wi : TI} {g : TG} {tt : TT} {te : TE} {o : Addr → HO} {Ad : Addx} (hc : X.calm = true) (hN : X.N.Nodup) (hi : PI X tg it wi) (ok : BlkOk X.N X.env.scope scope own) (ads : Adds X Ad)
    (new : ∀ (H : Hp) (h : Heap) (a : Addr), h.get? a = some (bare0 X.w) → ObjOk X.prog X.w H h a (o a))
    (hg : ∀ (s : Shared) (H : Hp) (C : Addr) (cl : List (PySem.Str × Addr)) (fp : List Addr), PG (X.blk s H scope (compEnvC scope cl C X.env) fp) tg g) (ht : ∀ (s : Shared) (H : Hp) (C : Addr) (cl : List (PySem.Str × Addr)) (fp : List Addr), PTs (X.blk s H scope (compEnvC scope cl C X.env) fp) ifs tt)
    (he : ∀ (s : Shared) (H : Hp) (C : Addr) (cl : List (PySem.Str × Addr)) (fp : List Addr), PE (X.blk s H scope (compEnvC scope cl C X.env) fp) elt te) (hs : ∀ x, foldedSetIterable it X.env x = pure x := by intro _; rfl) :
    PE X (.SetComp elt [⟨tg, it, ifs, 0⟩] scope pos) (tSC o Ad wi g tt te (own.map (·.2))) := by
  refine ⟨fun pn s τ H Q I want => ?_⟩
  rw [PpSet.eval_SetComp]
  have frees : ∀ y ∈ scope.names, y.2 = .free → ∃ c, X.env.cells.lookup y.1 = some c := fun y hy e => I.ok.has _ (ok.free y hy e)
  refine wpAny_comprehension_free (use := none) rfl hs (closure_ok frees) ok.kind (fun y hy e => by rw [ok.uniq y hy, e]) (thn (hi.run pn s τ H _ I want) fun xv s1 hx => thn hx fun itv s2 h2 => ?_)
  obtain ⟨j, fp, tn, J, H2, e, I2, T, st2, f2, body⟩ := h2
  subst e
  refine PpSet.newSet_ok (newEnv_comp ?_)
  obtain ⟨D, hD⟩ : ∃ D, s2.heap.objs.size = D := ⟨_, rfl⟩
  rw [hD]
  have freeD : H2 D = none := I2.hok.fresh (Nat.le_of_eq hD)
  obtain ⟨St, ⟨m0, st0⟩, turn⟩ := body D freeD
  have up3 : ∀ b u, s2.heap.get? b = some u → (s2.heap.push (bare0 X.w)).get? b = some u := fun b u e => Heap.get?_push_of_some _ e
  have I3 : Inv X pn τ (upd H2 D (o D)) { s2 with heap := s2.heap.push (bare0 X.w) } := I2.laid (t' := s2.toks) up3 (Nat.le_of_eq hD) (new _ _ _ (by rw [← hD]; exact Heap.get?_push_size _ rfl))
  have small : ∀ b ∈ fp, b < s2.heap.objs.size := fun b hb => by
    obtain ⟨u, e, _⟩ := T.obj _ _ st2 b hb
    exact Heap.lt_size e
  have sz3 : (s2.heap.push (bare0 X.w)).objs.size = s2.heap.objs.size + 1 := Heap.size_push ..
  have f3 : ∀ b ∈ fp, FpOk X pn (upd H2 D (o D)) b ∧ b < (s2.heap.push (bare0 X.w)).objs.size := fun b hb => by
    have lt := small b hb
    have q := f2 b hb
    refine ⟨⟨?_, q.2⟩, by rw [sz3]; exact Nat.lt_succ_of_lt lt⟩
    rw [upd_ne (by rw [← hD]; exact Nat.ne_of_lt lt)]
    exact q.1
  have st3 : tn 0 (s2.heap.push (bare0 X.w)) := T.keep _ _ _ st2 fun b _ u e => up3 b u e
  have I4 := block_start I3 ok hN f3
  obtain ⟨ce, hce⟩ : ∃ ce, compEnvC scope (cellsFrom ((s2.heap.push (bare0 X.w)).objs.size + 1) scope.names (cloFrom X.env.cells scope.names [])) (s2.heap.push (bare0 X.w)).objs.size X.env = ce := ⟨_, rfl⟩
  have pg : PG (X.blk { s2 with heap := s2.heap.push (bare0 X.w) } (upd H2 D (o D)) scope ce fp) tg g := by rw [← hce]; exact hg ..
  have pt : PTs (X.blk { s2 with heap := s2.heap.push (bare0 X.w) } (upd H2 D (o D)) scope ce fp) ifs tt := by rw [← hce]; exact ht ..
  have pe : PE (X.blk { s2 with heap := s2.heap.push (bare0 X.w) } (upd H2 D (o D)) scope ce fp) elt te := by rw [← hce]; exact he ..
  show codeAny _ _ (.compStart (.SetComp elt [⟨tg, it, ifs, 0⟩] scope pos) 0 (.ref j) (.ref D) (compEnvC scope (cellsFrom ((s2.heap.push (bare0 X.w)).objs.size + 1) scope.names (cloFrom X.env.cells scope.names [])) (s2.heap.push (bare0 X.w)).objs.size X.env))
    (compPost (model X.prog X.w) X.A X.xe none (fun v s' => ∃ y H', Inv X pn τ H' s' ∧ RelV y v ∧ Q y H') (.ref D) (s2.heap.push (bare0 X.w)).objs.size) { s2 with heap := pushCells ((s2.heap.push (bare0 X.w)).push { cls := .type "dict", data := .dict #[] }) scope.names }
  rw [hce]
  have I4' : Inv (X.blk { s2 with heap := s2.heap.push (bare0 X.w) } (upd H2 D (o D)) scope ce fp) [] (wipe τ (own.map (·.2))) (upd H2 D (o D)) { s2 with heap := pushCells ((s2.heap.push (bare0 X.w)).push { cls := .type "dict", data := .dict #[] }) scope.names } := by rw [← hce]; exact I4
  have ceL : ce.locals = (s2.heap.push (bare0 X.w)).objs.size := by rw [← hce] <;> rfl
  clear I4 hce
  obtain ⟨s3, hs3⟩ : ∃ s3 : Shared, ({ s2 with heap := s2.heap.push (bare0 X.w) } : Shared) = s3 := ⟨_, rfl⟩
  obtain ⟨H3, hH3⟩ : ∃ H3, upd H2 D (o D) = H3 := ⟨_, rfl⟩
  obtain ⟨s4, hs4⟩ : ∃ s4 : Shared, ({ s2 with heap := pushCells ((s2.heap.push (bare0 X.w)).push { cls := .type "dict", data := .dict #[] }) scope.names } : Shared) = s4 := ⟨_, rfl⟩
  obtain ⟨n3, hn3⟩ : ∃ n, (s2.heap.push (bare0 X.w)).objs.size = n := ⟨_, rfl⟩
  have st4 : tn 0 s4.heap := by
    rw [← hs4]
    exact T.keep _ _ _ st3 fun b _ u e => pushCells_keeps _ _ _ _ (Heap.get?_push_of_some _ e)
  rw [hs3, hH3] at I3
  rw [hs3, hH3, hs4] at I4'
  rw [hs3, hH3] at pg pt pe
  rw [hH3] at st0 f3
  rw [hs4]
  rw [hn3] at ceL f3 ⊢
  have free3 : ∀ b ∈ fp, H3 b = none := fun b hb => (f3 b hb).1.1
  have fpok : ∀ {τ' : L2.St} {Hx : Hp} {sx : Shared}, Inv (X.blk s3 H3 scope ce fp) [] τ' Hx sx → (∀ b ∈ fp, Hx b = none) → ∀ b ∈ fp, FpOk (X.blk s3 H3 scope ce fp) [] Hx b := fun {τ' Hx sx} Ix nx b hb =>
    ⟨nx b hb, (Ix.ok.exf b hb).1, Ix.ok.exfs b hb, .inl hb, fun x c e => (Ix.ok.exf b hb).2 x c e, fun p hp => absurd (show p ∈ ([] : List (Addr × Obj)) ++ [] from hp) (by simp)⟩
  have run : codeAny (model X.prog X.w) X.A (.compLoop (.SetComp elt [⟨tg, it, ifs, 0⟩] scope pos) 0 (.ref j) (.ref D) ce) (compPost (model X.prog X.w) X.A X.xe none (fun v s' => ∃ y H', Inv X pn τ H' s' ∧ RelV y v ∧ Q y H') (.ref D) n3) s4 := by
    refine PpSet.compLoopS_any (fun n sx => ∃ i Hx, Inv (X.blk s3 H3 scope ce fp) [] (wipe τ (own.map (·.2))) Hx sx ∧ tn i sx.heap ∧ (∀ b ∈ fp, Hx b = none) ∧ St i n Hx) ?_ m0 ⟨0, H3, I4', st4, free3, st0⟩
    rintro n s5 ⟨i, H5, I5, st5, free5, w5⟩
    rcases turn i n H5 w5 with ⟨stop, fin⟩ | ⟨go, Nx, less, step⟩
    · refine thnF (T.done (X.blk s3 H3 scope ce fp) rfl rfl rfl hc i [] s5 _ H5 (fun _ _ => False) I5 (fpok I5 free5) st5 stop) fun r s6 ⟨hr, I6⟩ => ?_
      subst hr
      have I7 : Inv X pn τ H5 s6 := I3.call' (ch := fp) I6.os I6.base I6.hok I6.bare fun b hb => ⟨(f3 b hb).1.2.2.2.1, (f3 b hb).1.2.1, (f3 b hb).1.2.2.2.2.1, (f3 b hb).1.2.2.2.2.2⟩
      have freeC : H5 n3 = none := by rw [← ceL]; exact I6.free
      obtain ⟨k, ns, _⟩ := I6.loc
      have ns : s6.heap.Ns n3 k := by rw [← ceL]; exact ns
      have sz : s3.heap.objs.size ≤ n3 := by rw [← hs3]; exact Nat.le_of_eq hn3
      obtain ⟨f0, f1, f2', f3', f4, f5⟩ := I3.fpOk sz freeC
      exact ⟨k, ns, fun h'' sb => ⟨.ref D, H5, I7.turned (t' := s6.toks) (fun b u hb e => (sb.2 b hb).trans e) f0 f1 f3' f4 f5, rfl, fin⟩⟩
    · refine thnF (T.item (X.blk s3 H3 scope ce fp) rfl rfl rfl hc i [] s5 _ H5 (fun _ _ => False) I5 (fpok I5 free5) st5 go) fun r s6 ⟨u, hr, h6⟩ => ?_
      subst hr
      refine thnF h6 fun _ s7 ⟨x, H7, I7, r7, y7, st7, free7⟩ => ?_
      refine thnF (pg.run _ s7 _ H7 x u _ (I7.pinned (fpok I7 free7) (T.obj _ _ st7)) r7 (step x H7 y7)) fun _ s8 ⟨τ8, H8, I8, wp8, q8⟩ => ?_
      refine thnF (pt.run _ s8 τ8 H8 _ I8 q8) fun b s9 ⟨H9, I9, q9⟩ => ?_
      have again : ∀ {sx : Shared} {Hx : Hp}, Inv (X.blk s3 H3 scope ce fp) ([] ++ pinsAt fp s7.heap) τ8 Hx sx → Nx Hx → ∃ m, m < n ∧ ∃ i Hx, Inv (X.blk s3 H3 scope ce fp) [] (wipe τ (own.map (·.2))) Hx sx ∧ tn i sx.heap ∧ (∀ b ∈ fp, Hx b = none) ∧ St i m Hx := fun {sx Hx} Ix nx => by
        obtain ⟨m', lt, wx⟩ := less Hx nx
        have pin : ∀ b ∈ fp, ∀ u, s7.heap.get? b = some u → sx.heap.get? b = some u ∧ Hx b = none := fun b hb u e => by
          have z := Ix.pin (b, u) (List.mem_append_right _ (List.mem_append_right _ (mem_pinsAt hb e)))
          exact ⟨z.1, z.2.1⟩
        refine ⟨m', lt, i + 1, Hx, (Ix.unpinned (pins := [])).weak (by rw [← wp8, wipe_length]) (fun k v e => ?_), T.keep _ _ _ st7 fun b hb u e => (pin b hb u e).1, fun b hb => ?_, wx⟩
        · rw [← wp8] at e
          exact (wipe_some e).1
        · obtain ⟨u, e, _⟩ := T.obj _ _ st7 b hb
          exact (pin b hb u e).2
      cases b with
      | false =>
        simp only [Bool.false_eq_true, if_false] at q9 ⊢
        exact again I9 q9
      | true =>
        simp only [if_true] at q9 ⊢
        refine thnF (pe.run _ s9 τ8 H9 _ I9 q9) fun z s10 ⟨y, H10, I10, r10, add⟩ => ?_
        exact thn (ads.run (X.blk s3 H3 scope ce fp) _ τ8 H10 s10 D y z Nx _ rfl rfl rfl rfl I10 r10 add) fun _ s11 ⟨H11, I11, nx⟩ => again I11 nx
  exact PpSet.codeAny_compStart_set run (T.self X.A 0 _ _ _ st4 run)
end
end Us
end

section
set_option maxHeartbeats 2000000
namespace Pu
open PySem PySem.Spec PyProof.Rows L2 Us PySem.W

section
variable {K : PySem.W.Frag} {G : Gc} {O : Addr → Option Tg} {σ σ' : L2.St} {ρ ρ' : En} {pe : Pend} {H H' : Hp} {v : V} {d : Da}
/-- the owners behind a new object on top -/
def own1 (O : Addr → Option Tg) (p : Addr) (n : Nat) : Addr → Option Tg := fun a => if a = p then some (.pend n) else clr O (.pend n) a
theorem own1_at {p : Addr} {n : Nat} : own1 O p n p = some (.pend n) := if_pos rfl
/-- a new object of our own -/
theorem StO.pushNew {o : HO} {p : Addr} {c : Ce} (S : StO K G O σ ρ pe H) (np : H p = none) (ch : Chg o) (hc : CeOk K G (own1 O p pe.length) (upd H p o) (.pend pe.length) (.ref p) c) : StO K G (own1 O p pe.length) σ ρ ((.ref p, c) :: pe) (upd H p o) := by
  have ne : ∀ {b : Addr} {u : HO}, H b = some u → b ≠ p := fun {b u} e => ne_of_none e np
  have hk : Keep (Lof G O) H (upd H p o) := fun b u e _ => keep_upd np b u e
  have hl : ∀ b u, H b = some u → Lof G O b → Lof G (own1 O p pe.length) b := fun b u e h => ⟨(if_neg (ne e)).trans (clr_none h.1), h.2⟩
  have ow : ∀ {q t}, O q = some t → t ≠ .pend pe.length → upd H p o q = H q ∧ own1 O p pe.length q = some t := fun {q t} e n => by
    obtain ⟨u, hu, _⟩ := S.own q t e
    exact ⟨upd_ne (ne hu), (if_neg (ne hu)).trans (clr_ne e n)⟩
  refine ⟨fun b u e n => ?_, fun q t h => ?_, fun q hq => ?_, S.len, fun i c e => ?_, hc, ?_⟩
  · obtain ⟨h1, h2⟩ := S.frame b u e n
    exact ⟨keep_upd np b u h1, (if_neg (ne h1)).trans (clr_none h2)⟩
  · by_cases e : q = p
    · subst e
      exact ⟨_, upd_same, ch⟩
    · unfold own1 at h
      rw [if_neg e] at h
      obtain ⟨u, hu, c⟩ := S.own q t (of_clr h).1
      exact ⟨u, keep_upd np q u hu, c⟩
  · obtain ⟨h, n⟩ := S.pools q hq
    have h' := h
    obtain ⟨_, _, _, _, _, _, _, e, _⟩ := h'
    exact ⟨h.mono hk hl (upd_ne (ne e)), n⟩
  · obtain ⟨w, h1, h2⟩ := S.slots i c e
    exact ⟨w, h1, h2.mono hk hl fun q e => ow e (fun z => by cases z)⟩
  · exact S.pends.mono hk hl fun j hj q e => ow e (fun z => by cases z; omega)
theorem StO.notP {o : HO} {p : Addr} (S : StO K G O σ ρ pe H) (np : H p = none) : ¬ G.P0 p := fun hp => by
  obtain ⟨⟨_, _, _, _, _, _, _, e, _⟩, _⟩ := S.pools p hp
  rw [np] at e
  cases e
theorem StO.lof1 {p : Addr} {b : Addr} {u : HO} (S : StO K G O σ ρ pe H) (np : H p = none) (e : H b = some u) (h : Lof G O b) : Lof G (own1 O p pe.length) b := ⟨(if_neg (ne_of_none e np)).trans (clr_none h.1), h.2⟩
/-- the object of our own on top changes -/
theorem StO.turnTop {c c' : Ce} {p : Addr} {o o' : HO} (S : StO K G O σ ρ ((.ref p, c) :: pe) H) (ot : O p = some (.pend pe.length)) (hp : H p = some o) (ch : Chg o) (np : ¬ G.P0 p) (ch' : Chg o')
    (hc : Keep (Lof G O) H (upd H p o') → CeOk K G O (upd H p o') (.pend pe.length) (.ref p) c') : StO K G O σ ρ ((.ref p, c') :: pe) (upd H p o') ∧ Keep (Lof G O) H (upd H p o') := by
  have hk : Keep (Lof G O) H (upd H p o') := fun b x e k => by
    rw [upd_ne]
    · exact e
    · rintro rfl
      rcases k with k | k
      · have k1 := k.1
        rw [ot] at k1
        cases k1
      · rw [hp] at e
        cases e
        exact k ch
  have hl : ∀ b x, H b = some x → Lof G O b → Lof G O b := fun _ _ _ h => h
  refine ⟨⟨fun b x e n => ⟨?_, (S.frame b x e n).2⟩, fun q t h => ?_, fun q hq => ⟨(S.pools q hq).1.mono hk hl (upd_ne fun e => np (e ▸ hq)), (S.pools q hq).2⟩, S.len, fun j c h => ?_, hc hk, ?_⟩, hk⟩
  · rw [upd_ne]
    · exact (S.frame b x e n).1
    · rintro rfl
      have f := (S.frame b x e n).2
      rw [ot] at f
      cases f
  · by_cases e : q = p
    · subst e
      exact ⟨_, upd_same, ch'⟩
    · rw [upd_ne e]
      exact S.own q t h
  · obtain ⟨w, h1, h2⟩ := S.slots j c h
    exact ⟨w, h1, h2.mono hk hl (fun q e => ⟨upd_ne (fun q' => by
      rw [q', ot] at e
      cases e), e⟩)⟩
  · exact S.pends.2.mono hk hl (fun j hj q e => ⟨upd_ne (fun q' => by
      rw [q', ot] at e
      cases e
      omega), e⟩)
end

/-! ### members -/
def numsOf (ds : List Da) : Option (List Int) := ds.mapM Da.num
theorem nums_flat {K : PySem.W.Frag} {L : Addr → Prop} {H : Hp} : ∀ {ds : List Da} {k : List Int} {vs : List V}, ds.mapM Da.num = some k → Reps K L H ds vs → Flat vs k ∧ vs.map venc = Da.pys ds
  | [], k, vs, e, r => by
    simp only [List.mapM_nil] at e
    cases e
    simp only [Reps] at r
    subst r
    exact ⟨rfl, rfl⟩
  | d :: ds, k, vs, e, r => by
    simp only [Reps] at r
    obtain ⟨v, ws, rfl, r1, r2⟩ := r
    simp only [List.mapM_cons, Option.pure_def, Option.bind_eq_bind, Option.bind_eq_some_iff, Option.some.injEq] at e
    obtain ⟨n, e1, ns, e2, rfl⟩ := e
    obtain ⟨h1, h2⟩ := nums_flat e2 r2
    have q : vk v = some n ∧ venc v = d.py := by
      cases d <;> simp [Da.num] at e1
      · rw [rep_bl'.mp r1]
        exact ⟨by simp [vk, e1], rfl⟩
      · rw [rep_int.mp r1]
        exact ⟨by simp [vk, e1], rfl⟩
    exact ⟨by unfold Flat at h1 ⊢; rw [List.map_cons, List.map_cons, q.1, h1], by rw [List.map_cons, q.2, h2, Da.pys]⟩
/-- a keyed datum is a tuple -/
theorem key_rep {K : PySem.W.Frag} {L : Addr → Prop} {H : Hp} {d : Da} {k : List Int} {v : V} (e : Da.key d = some k) (r : Rep K L H d v) : ∃ a vs, v = .ref a ∧ SqT K H a vs ∧ Flat vs k ∧ d.py = enc vs ∧ vs ≠ [] := by
  unfold Da.key at e
  split at e
  · rename_i d0 ds
    obtain ⟨a, vs, e1, q, z, rs⟩ := rep_tup.mp r
    obtain ⟨h1, h2⟩ := nums_flat e rs
    refine ⟨a, vs, e1, q, h1, by rw [Da.py, enc, h2], fun z => ?_⟩
    have l := rs.length
    rw [z] at l
    cases l
  · cases e

section
variable {X : Cx} {G : Gc} {x : Ex → En → Prop}
/-- the reading of an expression whose value is a new set of our own -/
def tst (K : PySem.W.Frag) (G : Gc) (x : Ex → En → Prop) (m : W (List Da)) : TE := fun σ H Q => ∃ ρ pe, Sd K G σ ρ pe H ∧ m.wp ρ (fun ds ρ' => ∀ v H', Sd K G σ ρ' ((v, .set ds) :: pe) H' → Q v H') x
def eKey (e : W Da) : W Da := e.bind fun y => (W.req ((Da.key y).isSome = true)).bind fun _ => W.ret y
/-- {e for t in m if c} -/
def eSC (vs : List Nat) (m : W (List Da)) (t : Tt) (c : W Bool) (e : W Da) : W (List Da) :=
  ⟨fun ρ k x => m.wp ρ (fun ds ρ1 => ds.length < 60 ∧ wipeE ρ1 vs = ρ1 ∧ lcW t c (eKey e) ds [] ρ1 (fun acc => k acc ρ1)) x, fun hk hx h => m.mono (fun _ _ ⟨h0, h1, h2⟩ => ⟨h0, h1, lcW_mono (fun _ z => hk _ _ z) h2⟩) hx h⟩

/-- adding a datum, told of the members -/
def addD (P : Program) (w : World) (K : PySem.W.Frag) : Addx := fun D y H Nx => ∃ (a : Addr) (M : Mem) (k : Ky) (xs : List V), y = .ref a ∧ H D = some (SetTO P w D M) ∧ Mems K H M ∧ SqT K H a xs ∧ Flat xs k ∧ M.length + 1 < 64 ∧
  ∀ M', (k ∈ M.map (·.2) → M' = M) → (k ∉ M.map (·.2) → M'.Perm ((a, k) :: M)) → Nx (upd H D (SetTO P w D M'))
theorem addD_adds (hu : X.A.units + 4 < cLine) : Adds X (addD X.prog X.w X.K) := ⟨fun X' pn τ H s D y u Nx E e1 e2 e3 e4 I r h => by
  obtain ⟨a, M, k, xs, rfl, hD, hm, hx, hk, few, nx⟩ := h
  cases r
  rw [← e1, ← e2] at hD nx
  rw [← e3] at hm hx
  rw [← e4] at hu
  rw [← e1, ← e2, ← e4]
  exact addU_ok I hD hm hx hk few hu fun M' s' c1 c2 I' => ⟨_, I', nx M' c1 c2⟩⟩
theorem fresh_set {P : Program} {w : World} (H : Hp) (h : Heap) (a : Addr) (e : h.get? a = some (bare0 w)) : ObjOk P w H h a (SetTO P w a []) := setTO_new (setTR_fresh e).t0

theorem perm_pull {β : Type} (g : β → Addr × Ky) {M' : Mem} {b : β} {bs : List β} (p : M'.Perm (g b :: bs.map g)) : ∃ bs' : List β, bs'.Perm (b :: bs) ∧ M' = bs'.map g := perm_map p (b :: bs) rfl
theorem setOf_old {ds ms : List Da} {d : Da} (h : SetOf ds ms) (hd : Da.key d ∈ ms.map Da.key) : SetOf (ds ++ [d]) ms :=
  ⟨h.1, fun e he => List.mem_append_left _ (h.2.1 e he), fun e he => (List.mem_append.mp he).elim (h.2.2 e) fun z => by rw [List.mem_singleton.mp z]; exact hd⟩
theorem setOf_new {ds ms ms' : List Da} {d : Da} (h : SetOf ds ms) (hd : Da.key d ∉ ms.map Da.key) (p : ms'.Perm (d :: ms)) : SetOf (ds ++ [d]) ms' := by
  refine ⟨(p.map Da.key).nodup_iff.mpr (List.nodup_cons.mpr ⟨hd, h.1⟩), fun e he => ?_, fun e he => ?_⟩
  · rcases List.mem_cons.mp (p.mem_iff.mp he) with z | z
    · rw [z]; exact List.mem_append_right _ (List.mem_singleton.mpr rfl)
    · exact List.mem_append_left _ (h.2.1 e z)
  · refine (p.map Da.key).mem_iff.mpr ?_
    rcases List.mem_append.mp he with z | z
    · exact List.mem_cons_of_mem _ (h.2.2 e z)
    · rw [List.mem_singleton.mp z]; exact List.mem_cons_self

theorem sc_run {vs : List Nat} {m : W (List Da)} {t : Tt} {c : W Bool} {n : W Da} (so : G.so = SetTO X.prog X.w) (hv : ∀ i ∈ t.slots, i ∈ vs) {σ : L2.St} {H : Hp} {Q : VK} (q : tst X.K G x (eSC vs m t c n) σ H Q) :
    tSC (fun D => SetTO X.prog X.w D []) (addD X.prog X.w X.K) (tit X.K G x m) (tgg X.K G t) (ttt X.K G noEx c) (tp X.K G noEx n) vs σ H Q := by
  obtain ⟨ρ, pe, S, q⟩ := q
  refine ⟨ρ, pe, S, m.mono (fun ds ρ1 q J src H1 iok hz S1 D nD => ?_) (fun _ _ z => z) q⟩
  obtain ⟨few, hw, q⟩ := q
  obtain ⟨O, S1⟩ := S1
  obtain ⟨S2, rs⟩ := S1.popD
  have hkeep : Keep (Lof G O) H1 (upd H1 D (SetTO X.prog X.w D [])) := fun b u e _ => keep_upd nD b u e
  have S3 : StO X.K G (own1 O D pe.length) σ ρ1 ((.ref D, .set []) :: pe) (upd H1 D (SetTO X.prog X.w D [])) := S2.pushNew nD trivial ⟨D, [], rfl, own1_at, by rw [so]; exact upd_same, S2.notP (o := .lst []) nD, Nat.le_refl _, ⟨List.nodup_nil, fun _ h => (nomatch h), fun _ h => (nomatch h)⟩, fun _ h => (nomatch h)⟩
  have S4 := S3.pushDs (l := src) fun p hp => Rep.mono hkeep (fun b u e z => S2.lof1 nD e z) _ _ (rs p hp)
  refine ⟨fun i k H' => k = ds.length - i ∧ i ≤ ds.length ∧ ∃ acc, acc.length ≤ i ∧ Sd X.K G (wipe σ vs) ρ1 (dats src ++ ((.ref D, .set acc) :: pe)) H' ∧
    lcW t c (eKey n) (ds.drop i) acc ρ1 (fun acc => ∀ v H', Sd X.K G σ ρ1 ((v, .set acc) :: pe) H' → Q v H'), ⟨_, rfl, Nat.zero_le _, [], Nat.le_refl _, ⟨_, S4.wiped hw⟩, q⟩, ?_⟩
  rintro i k H' ⟨rfl, hi, acc, ha, ⟨O5, S5⟩, q5⟩
  obtain ⟨S6, rs6⟩ := S5.popD
  have io := iok (Lof G O5) H' rs6 i
  by_cases hlt : i < ds.length
  · obtain ⟨g, y⟩ := io.1 ds[i] (List.getElem?_eq_getElem hlt)
    rw [List.drop_eq_getElem_cons hlt] at q5
    refine .inr ⟨g, fun H'' => ∃ acc, acc.length ≤ i + 1 ∧ Sd X.K G (wipe σ vs) ρ1 (dats src ++ ((.ref D, .set acc) :: pe)) H'' ∧
      lcW t c (eKey n) (ds.drop (i + 1)) acc ρ1 (fun acc => ∀ v H', Sd X.K G σ ρ1 ((v, .set acc) :: pe) H' → Q v H'), fun H'' ⟨acc', h1, h2, h3⟩ => ⟨ds.length - (i + 1), by omega, rfl, hlt, acc', h1, h2, h3⟩, fun w H'' hy => ?_⟩
    obtain ⟨kk, rw'⟩ := y w H'' hy
    obtain ⟨ρ2, hb, qc⟩ := q5
    have S7 : StO X.K G O5 (wipe σ vs) ρ1 ((w, .dat ds[i]) :: (dats src ++ ((.ref D, .set acc) :: pe))) H'' := (S5.heap kk).pushD (Rep.mono (fun _ _ e _ => e) (fun b u e z => z.elim id fun z => S5.fresh z) _ _ rw')
    refine ⟨ρ1, _, _, ρ2, ⟨O5, S7⟩, hb, fun σ2 H2 bt S8 => ⟨wipe_but bt hv, ?_⟩⟩
    refine ⟨ρ2, _, S8, c.mono (fun b ρ3 hq H3 S9 => ?_) (fun _ _ z => z) qc⟩
    obtain ⟨e3, q9⟩ := hq
    subst e3
    have toOld : ∀ {pe' : Pend} {Hx : Hp}, Sd X.K G σ2 ρ3 pe' Hx → Sd X.K G (wipe σ vs) ρ1 pe' Hx := fun {pe' Hx} ⟨Oy, Sy⟩ => by
      obtain ⟨bl, bo⟩ := bind_but hb
      refine ⟨Oy, Sy.weak (by rw [← bl, Sy.len, bt.1]) fun j cc ej => ?_⟩
      have nj : j ∉ vs := fun z => wipeE_none z cc (hw.symm ▸ ej)
      have nt : j ∉ t.slots := fun z => nj (hv j z)
      exact ⟨(bo j nt).trans ej, (bt.2 j nt).symm⟩
    cases b with
    | false =>
      refine iteF ⟨acc, Nat.le_succ_of_le ha, toOld S9, ?_⟩
      exact (show (if false = true then _ else lcW t c (eKey n) (ds.drop (i + 1)) acc ρ1 _) from q9)
    | true =>
      have q9' : (eKey n).wp ρ3 _ noEx := (show (if true = true then _ else _) from q9)
      refine iteT ⟨ρ3, _, S9, n.mono (fun yd ρ4 hq yv H4 S10 => ?_) (fun _ _ z => z) (show n.wp ρ3 _ noEx from q9')⟩
      obtain ⟨hkey, e4, q10⟩ := hq
      subst e4
      obtain ⟨Oz, Sz⟩ := S10
      have ry := Sz.top
      obtain ⟨Sw, rsw⟩ := Sz.pop.popD
      obtain ⟨p, bs, ep, op, hp, np, hlen, hset, hall⟩ := Sw.pends.1
      cases ep
      obtain ⟨ky, ek⟩ := Option.isSome_iff_exists.mp hkey
      obtain ⟨a, xs, ea, hsq, hfl, _, _⟩ := key_rep ek ry
      subst ea
      rw [so] at hp
      refine ⟨a, _, ky, xs, rfl, hp, fun r hr => ?_, hsq, hfl, by rw [List.length_map]; omega, fun M' c1 c2 => ?_⟩
      · obtain ⟨b, hb', e⟩ := List.mem_map.mp hr
        obtain ⟨h1, h2⟩ := hall b hb'
        obtain ⟨a', xs', ea', s1, s2, _⟩ := key_rep h2 h1
        cases ea'
        exact ⟨xs', by rw [← e]; exact s1, by rw [← e]; exact s2⟩
      · have same : Da.key yd ∈ (bs.map (·.2.2)).map Da.key ↔ ky ∈ (bs.map fun b => (b.1, b.2.1)).map (·.2) := by
          rw [ek, List.map_map, List.map_map]
          simp only [List.mem_map, Function.comp_apply]
          constructor
          · rintro ⟨b, hb', e⟩
            rw [(hall b hb').2] at e
            exact ⟨b, hb', Option.some.inj e⟩
          · rintro ⟨b, hb', e⟩
            exact ⟨b, hb', by rw [(hall b hb').2, e]⟩
        obtain ⟨Sq, kq⟩ := Sw.turnTop (c' := .set (acc ++ [yd])) (o' := SetTO X.prog X.w D M') op hp trivial np trivial (fun kq => by
          by_cases hin : ky ∈ (bs.map fun b => (b.1, b.2.1)).map (·.2)
          · exact ⟨D, bs, rfl, op, by rw [so, c1 hin]; exact upd_same, np, by simp; omega, setOf_old hset (same.mpr hin), fun b hb' => ⟨Rep.mono kq (fun _ _ _ z => z) _ _ (hall b hb').1, (hall b hb').2⟩⟩
          · obtain ⟨bs', p', e'⟩ := perm_pull (fun b : Addr × List Int × Da => (b.1, b.2.1)) (b := (a, ky, yd)) (c2 hin)
            refine ⟨D, bs', rfl, op, by rw [so, ← e']; exact upd_same, np, ?_, setOf_new hset (fun z => hin (same.mp z)) (p'.map (·.2.2)), fun b hb' => ?_⟩
            · have l := p'.length_eq
              simp only [List.length_cons, List.length_append, List.length_nil] at l ⊢
              omega
            · rcases List.mem_cons.mp (p'.mem_iff.mp hb') with z | z
              · rw [z]
                exact ⟨Rep.mono kq (fun _ _ _ z => z) _ _ ry, ek⟩
              · exact ⟨Rep.mono kq (fun _ _ _ z => z) _ _ (hall b z).1, (hall b z).2⟩)
        exact ⟨acc ++ [yd], by simp; omega, toOld ⟨Oz, Sq.pushDs fun p hp => Rep.mono kq (fun _ _ _ z => z) _ _ (rsw p hp)⟩, q10⟩
  · have e : i = ds.length := by omega
    subst e
    refine .inl ⟨io.2 (Nat.le_refl _), ?_⟩
    rw [List.drop_length] at q5
    exact q5 _ _ ⟨_, S6.unwiped hw⟩
theorem p_sc {tg e it : Expr} {ifs : List Expr} {scope : Scope} {own : List (Str × Nat)} {pos : Pos} {m : W (List Da)} {t : Tt} {c : W Bool} {n : W Da} (so : G.so = SetTO X.prog X.w) (hu : X.A.units + 4 < cLine) (hc : X.calm = true) (hN : X.N.Nodup) (hi : PI X tg it (tit X.K G x m)) (ok : BlkOk X.N X.env.scope scope own)
    (hg : ∀ (s : Shared) (H : Hp) (C : Addr) (cl : List (Str × Addr)) (fp : List Addr), PG (X.blk s H scope (compEnvC scope cl C X.env) fp) tg (tgg X.K G t))
    (ht : ∀ (s : Shared) (H : Hp) (C : Addr) (cl : List (Str × Addr)) (fp : List Addr), PTs (X.blk s H scope (compEnvC scope cl C X.env) fp) ifs (ttt X.K G noEx c))
    (he : ∀ (s : Shared) (H : Hp) (C : Addr) (cl : List (Str × Addr)) (fp : List Addr), PE (X.blk s H scope (compEnvC scope cl C X.env) fp) e (tp X.K G noEx n))
    (hv : ∀ i ∈ t.slots, i ∈ own.map (·.2)) (hs : ∀ y, foldedSetIterable it X.env y = pure y := by intro _; rfl) :
    PE X (.SetComp e [⟨tg, it, ifs, 0⟩] scope pos) (tst X.K G x (eSC (own.map (·.2)) m t c n)) :=
  (pe_SC hc hN hi ok (addD_adds hu) (fun H h a e => fresh_set H h a e) hg ht he hs).of fun _ _ _ q => sc_run so hv q

/-! ### sorted(set) -/
def alikeD (ds : List Da) : Prop := ∀ a ∈ ds, ∀ b ∈ ds, alike a.py b.py = true
def sortD (ds : List Da) : List Da := ds.mergeSort (dataLe false Da.py)
def eSortS (m : W (List Da)) : W (List Da) := m.bind fun ds => ⟨fun ρ k x => alikeD ds ∧ ds.length ≤ 1000 ∧ ∀ ms, SetOf ds ms → k (sortD ms) ρ, fun hk hx h => ⟨h.1, h.2.1, fun ms hm => hk _ _ (h.2.2 ms hm)⟩⟩

theorem ms_map {α β : Type} {f : α → β} {le : β → β → Bool} (l : List α) : (l.map f).mergeSort le = (l.mergeSort fun a b => le (f a) (f b)).map f := by
  rw [List.map_mergeSort]
  exact fun _ _ _ _ => rfl
theorem reps_of {K : PySem.W.Frag} {L : Addr → Prop} {H : Hp} {β : Type} (f : β → V) (g : β → Da) : ∀ {l : List β}, (∀ b ∈ l, Rep K L H (g b) (f b)) → Reps K L H (l.map g) (l.map f)
  | [], _ => rfl
  | b :: l, h => by
    simp only [List.map_cons, Reps]
    exact ⟨_, _, rfl, h b List.mem_cons_self, reps_of f g fun c hc => h c (List.mem_cons_of_mem _ hc)⟩
theorem p_sortS {e : Expr} {p pos : Pos} {m : W (List Da)} (so : G.so = SetTO X.prog X.w) (hu : X.A.units + 8 < cLine) (hc : X.calm = true) (hg : Gl X "sorted") (hm : X.mg "sorted" = none) (he : PE X e (tst X.K G x m))
    (hs : starEach [e] X.env = (false, eval e X.env) :: starEach [] X.env := by rfl) : PE X (.Call (.Name "sorted" p) [e] [] pos) (tow X.K G x (eSortS m)) :=
  (pe_callB (cr_sortedU (β := Addr × List Int × Da) hc hu) hg hm rfl (pa_cons he pa_nil hs) (by decide) (by decide) hs).of fun σ H Q ⟨ρ, pe, S, q⟩ => by
  refine ⟨ρ, pe, S, m.mono (fun ds ρ1 q v H1 S1 => ?_) (fun _ _ z => z) q⟩
  obtain ⟨hal, h1000, q⟩ := q
  obtain ⟨O, S1⟩ := S1
  obtain ⟨p, bs, ep, op, hp, np, hlen, hset, hall⟩ := S1.pends.1
  subst ep
  rw [so] at hp
  refine ⟨p, bs, fun b => (b.1, b.2.1), fun b => b.2.2.py, rfl, hp, fun b hb => ?_, ?_, fun bs' l pm nl => ?_⟩
  · obtain ⟨h1, h2⟩ := hall b hb
    obtain ⟨a, xs, ea, s1, s2, s3, s4⟩ := key_rep h2 h1
    cases ea
    exact ⟨xs, s1, s2, s3, s4⟩
  · intro d hd d' hd'
    obtain ⟨b, hb, rfl⟩ := List.mem_map.mp hd
    obtain ⟨b', hb', rfl⟩ := List.mem_map.mp hd'
    exact hal _ (hset.2.1 _ (List.mem_map.mpr ⟨b, hb, rfl⟩)) _ (hset.2.1 _ (List.mem_map.mpr ⟨b', hb', rfl⟩))
  · have pm2 := pm.map (·.2.2)
    have hset' : SetOf ds (bs'.map (·.2.2)) := ⟨(pm2.map Da.key).nodup_iff.mpr hset.1, fun d hd => hset.2.1 d (pm2.mem_iff.mp hd), fun d hd => (pm2.map Da.key).mem_iff.mpr (hset.2.2 d hd)⟩
    have eq : sortD (bs'.map (·.2.2)) = (bs'.mergeSort (dataLe false fun b => b.2.2.py)).map (·.2.2) := ms_map (f := fun b : Addr × List Int × Da => b.2.2) (le := dataLe false Da.py) bs'
    refine q _ hset' _ _ ⟨_, S1.pop.pushOwn (p := l) nl ?_ ?_⟩
    · rw [eq, List.length_map, List.length_mergeSort, pm.length_eq, line_eq]
      omega
    · rw [eq]
      exact reps_of _ _ fun b hb => (hall b (pm.mem_iff.mp (List.mem_mergeSort.mp hb))).1
end
end Pu
end

section
set_option maxHeartbeats 2000000
namespace Pu
open PySem PySem.Spec PyProof.Rows L2 Us PySem.W

/-! ### set(list of tuples of ints), list(e) -/
def intsD : List Da → Option (List Int)
  | [] => some []
  | .int i :: r => (intsD r).map (i :: ·)
  | _ => none
def intKey : Da → Option (List Int)
  | .tup (d :: ds) => intsD (d :: ds)
  | _ => none
theorem intsD_nums : ∀ {ds : List Da} {k : List Int}, intsD ds = some k → ds = k.map Da.int ∧ ds.mapM Da.num = some k
  | [], k, e => by cases e; exact ⟨rfl, rfl⟩
  | d :: ds, k, e => by
    cases d <;> simp [intsD] at e
    obtain ⟨k', e1, rfl⟩ := e
    obtain ⟨h1, h2⟩ := intsD_nums e1
    exact ⟨by rw [h1]; rfl, by simp [List.mapM_cons, h2, Da.num]⟩
theorem intKey_key {d : Da} {k : List Int} (e : intKey d = some k) : Da.key d = some k ∧ d = .tup (k.map Da.int) := by
  unfold intKey at e
  split at e
  · obtain ⟨h1, h2⟩ := intsD_nums e
    exact ⟨h2, by rw [h1]⟩
  · cases e
theorem ints_vs {K : PySem.W.Frag} {L : Addr → Prop} {H : Hp} : ∀ {k : List Int} {vs : List V}, Reps K L H (k.map Da.int) vs → vs = k.map V.int
  | [], vs, r => by simpa [Reps] using r
  | n :: k, vs, r => by
    simp only [List.map_cons, Reps] at r
    obtain ⟨v, ws, rfl, r1, r2⟩ := r
    rw [rep_int.mp r1, ints_vs r2, List.map_cons]
theorem intKey_rep {K : PySem.W.Frag} {L : Addr → Prop} {H : Hp} {d : Da} {k : List Int} {v : V} (e : intKey d = some k) (r : Rep K L H d v) : ∃ a, v = .ref a ∧ SqT K H a (k.map V.int) := by
  obtain ⟨_, h⟩ := intKey_key e
  subst h
  obtain ⟨a, vs, e1, q, z, rs⟩ := rep_tup.mp r
  rw [ints_vs rs] at q
  exact ⟨a, e1, q⟩
/-- a choice for each of a list -/
theorem list_choice {α β : Type} {R : α → β → Prop} : ∀ {l : List α}, (∀ a ∈ l, ∃ b, R a b) → ∃ bs : List (α × β), l = bs.map (·.1) ∧ ∀ p ∈ bs, R p.1 p.2
  | [], _ => ⟨[], rfl, fun _ h => nomatch h⟩
  | a :: l, h => by
    obtain ⟨b, hb⟩ := h a List.mem_cons_self
    obtain ⟨bs, e, hr⟩ := list_choice (l := l) fun c hc => h c (List.mem_cons_of_mem _ hc)
    refine ⟨(a, b) :: bs, by rw [List.map_cons, ← e], fun p hp => ?_⟩
    rcases List.mem_cons.mp hp with z | z
    · rw [z]; exact hb
    · exact hr p z
theorem keyed_list {K : PySem.W.Frag} {L : Addr → Prop} {H : Hp} : ∀ {ds : List Da} {vs : List V}, (∀ d ∈ ds, (intKey d).isSome = true) → Reps K L H ds vs →
    ∃ bs : List (Addr × List Int × Da), vs = bs.map (fun b => V.ref b.1) ∧ ds = bs.map (·.2.2) ∧ ∀ b ∈ bs, intKey b.2.2 = some b.2.1 ∧ Rep K L H b.2.2 (.ref b.1) ∧ SqT K H b.1 (b.2.1.map V.int)
  | [], vs, _, r => ⟨[], by simpa [Reps] using r, rfl, fun _ h => nomatch h⟩
  | d :: ds, vs, h, r => by
    simp only [Reps] at r
    obtain ⟨v, ws, rfl, r1, r2⟩ := r
    obtain ⟨k, hk⟩ := Option.isSome_iff_exists.mp (h d List.mem_cons_self)
    obtain ⟨a, rfl, q⟩ := intKey_rep hk r1
    obtain ⟨bs, e1, e2, hb⟩ := keyed_list (fun c hc => h c (List.mem_cons_of_mem _ hc)) r2
    refine ⟨(a, k, d) :: bs, by rw [List.map_cons, ← e1], by rw [List.map_cons, ← e2], fun b hp => ?_⟩
    rcases List.mem_cons.mp hp with z | z
    · rw [z]; exact ⟨hk, r1, q⟩
    · exact hb b z

section
variable {X : Cx} {G : Gc} {x : Ex → En → Prop}
/-- set(xs), with the members' keys apart -/
def rSetU (K : PySem.W.Frag) (P : Program) (w : World) : List V → Hp → VK → Prop := fun xs H Q => ∃ (l : Addr) (ks : List (Addr × List Int)), xs = [V.ref l] ∧ SqL K H l (ks.map fun p => V.ref p.1) ∧ (∀ p ∈ ks, SqT K H p.1 (p.2.map V.int)) ∧ ks.length < 64 ∧
  ∀ a L, H a = none → (L.map (·.2)).Nodup → L.length ≤ ks.length → (∀ p ∈ L, p ∈ ks) → (∀ p ∈ ks, p.2 ∈ L.map (·.2)) → Q (.ref a) (upd H a (SetTO P w a L))
theorem cr_setU (hc : X.calm = true) (hu : X.A.units + 64 < cLine) : CallR X (.type "set") (rSetU X.K X.prog X.w) := by
  intro pn s τ H xs us Q I r h
  obtain ⟨l, ks, rfl, hl, hk, few, q⟩ := h
  rw [Vals.ref1 r]
  obtain ⟨its, rv, pl, _⟩ := I.list hl
  have fr : H s.heap.objs.size = none := I.hok.fresh (Nat.le_refl _)
  refine call_set_tups (P := X.prog) (w := X.w) ks (I.ok.hd hc) pl.isList (by simpa using refs_of_vals rv) (fun p hp => I.isT (hk p hp)) few (by omega) fun h' tk L es ep t R g k => ?_
  refine ⟨.ref s.heap.objs.size, _, I.laid (t' := tk) k (Nat.le_refl _) (setTO_new R.t0), rfl, q _ L fr R.nd g.len (fun p hp => List.mem_of_mem_take (g.sub p hp)) fun p hp => g.all p ?_⟩
  rw [List.take_length]
  exact hp
def eSetOf (m : W (List Da)) : W (List Da) := m.bind fun ds => (W.req (ds.length < 60 ∧ ∀ d ∈ ds, (intKey d).isSome = true)).bind fun _ => W.ret ds
theorem p_setOf {e : Expr} {p pos : Pos} {m : W (List Da)} (so : G.so = SetTO X.prog X.w) (hu : X.A.units + 64 < cLine) (hc : X.calm = true) (hg : Gl X "set") (hm : X.mg "set" = none) (he : PE X e (tow X.K G x m))
    (hs : starEach [e] X.env = (false, eval e X.env) :: starEach [] X.env := by rfl) : PE X (.Call (.Name "set" p) [e] [] pos) (tst X.K G x (eSetOf m)) :=
  (pe_callTy (cr_setU hc hu) hg hm rfl (pa_cons he pa_nil hs) (by decide) (by decide) hs).of fun σ H Q ⟨ρ, pe, S, q⟩ => by
  refine ⟨ρ, pe, S, m.mono (fun ds ρ1 q v H1 S1 => ?_) (fun _ _ z => z) q⟩
  obtain ⟨⟨hl, hk⟩, q⟩ := q
  obtain ⟨O, S1⟩ := S1
  obtain ⟨p, xs, ep, op, hp, z, rs, np⟩ := S1.pends.1
  subst ep
  obtain ⟨bs, e1, e2, hb⟩ := keyed_list hk rs
  refine ⟨p, bs.map fun b => (b.1, b.2.1), rfl, .inl (.inl (by rw [hp, e1, List.map_map] <;> rfl)), fun r hr => ?_, by rw [e2, List.length_map] at hl; rw [List.length_map]; omega, fun a L na nd ll hsub hall => ?_⟩
  · obtain ⟨b, hb', e⟩ := List.mem_map.mp hr
    rw [← e]
    exact (hb b hb').2.2
  · obtain ⟨cs, ec, hcs⟩ := list_choice (R := fun (r : Addr × List Int) (b : Addr × List Int × Da) => b ∈ bs ∧ (b.1, b.2.1) = r) (l := L) fun r hr => List.mem_map.mp (hsub r hr)
    -- the members
    have em : L = (cs.map (·.2)).map fun b => (b.1, b.2.1) := by
      rw [ec, List.map_map]
      exact List.map_congr_left fun c hc => (hcs c hc).2.symm
    have hms : ∀ b ∈ cs.map (·.2), b ∈ bs := fun b hb' => by
      obtain ⟨c, hc, e⟩ := List.mem_map.mp hb'
      rw [← e]; exact (hcs c hc).1
    have keys : ((cs.map (·.2)).map (·.2.2)).map Da.key = (L.map (·.2)).map some := by
      rw [em]
      generalize hcs2 : cs.map (·.2) = cs2 at hms
      rw [List.map_map, List.map_map, List.map_map]
      exact List.map_congr_left fun b hb' => (intKey_key (hb b (hms b hb')).1).1
    refine q _ _ ⟨_, S1.pop.pushNew (p := a) (c := .set ds) na trivial ⟨a, cs.map (·.2), rfl, own1_at, by rw [so, ← em]; exact upd_same, S1.pop.notP (o := .lst []) na, ?_, ⟨?_, fun d hd => ?_, fun d hd => ?_⟩, fun b hb' => ?_⟩⟩
    · rw [em, List.length_map, List.length_map, List.length_map] at ll
      rw [List.length_map, e2, List.length_map]
      exact ll
    · rw [keys]
      exact nd.map some (fun a b hne e => hne (Option.some.inj e))
    · obtain ⟨b, hb', e⟩ := List.mem_map.mp hd
      rw [← e, e2]
      exact List.mem_map.mpr ⟨b, hms b hb', rfl⟩
    · rw [keys]
      rw [e2] at hd
      obtain ⟨b, hb', e⟩ := List.mem_map.mp hd
      rw [← e, (intKey_key (hb b hb').1).1]
      exact List.mem_map.mpr ⟨_, hall _ (List.mem_map.mpr ⟨b, hb', rfl⟩), rfl⟩
    · have h := hb b (hms b hb')
      exact ⟨Rep.mono (fun b u e _ => keep_upd na b u e) (fun b u e z => S1.pop.lof1 na e z) _ _ h.2.1, (intKey_key h.1).1⟩

/-! ### list(e) -/
theorem p_list {e : Expr} {p pos : Pos} {m : W Da} (hg : Gl X "list") (hm : X.mg "list" = none) (he : PE X e (tp X.K G x m))
    (hs : starEach [e] X.env = (false, eval e X.env) :: starEach [] X.env := by rfl) : PE X (.Call (.Name "list" p) [e] [] pos) (tow X.K G x (eList m)) :=
  (pe_callTy call_list_of hg hm rfl (pa_cons he pa_nil hs) (by decide) (by decide) hs).of fun σ H Q ⟨ρ, pe, S, q⟩ => by
  refine ⟨ρ, pe, S, m.mono (fun d ρ1 q v H1 S1 => ?_) (fun _ _ z => z) q⟩
  obtain ⟨ds, e, q⟩ := W.opt_wp q
  obtain ⟨O, S1⟩ := S1
  have r := S1.top
  cases d with
  | tup es =>
    cases e
    obtain ⟨a, vs, rfl, hq, z, rs⟩ := rep_tup.mp r
    exact ⟨a, vs, rfl, .inr hq, fun l nl => q _ _ ⟨_, S1.pop.pushOwn nl z rs⟩⟩
  | lst es =>
    cases e
    obtain ⟨a, vs, rfl, hq, z, rs⟩ := rep_lst.mp r
    exact ⟨a, vs, rfl, .inl (LAt.sq hq), fun l nl => q _ _ ⟨_, S1.pop.pushOwn nl z rs⟩⟩
  | scr ns =>
    cases e
    simp only [Rep] at r
    obtain ⟨a, rfl, hq, z⟩ := r
    exact ⟨a, _, rfl, .inl hq.1, fun l nl => q _ _ ⟨_, S1.pop.pushOwn nl (by rw [List.length_map, line_eq]; omega) (intL_reps ns)⟩⟩
  | _ => cases e
end
end Pu
end

section
set_option maxHeartbeats 4000000
/-! Ex1: __init__ of an exception class of the program's own, over another such class: super().__init__(f'..'), self.fld = arg. -/
namespace Ex
open PySem PySem.Spec PyProof.Rows L2 PySem.W

/-- the parts of the f-string -/
inductive Part (arg : Str) : Expr → Prop where
  | text (x : Str) (j p) (h : x.length ≤ 1000) : Part arg (.Constant (.str x) j p)
  | fmt (p p') : Part arg (.FormattedValue (.Name arg p) (-1) none p')
/-- the argument: a short text or a small number -/
def Arg0 (y : V) : Prop := (∃ z : Str, y = .str z ∧ z.length ≤ 1000) ∨ ∃ i : Int, y = .int i ∧ i.natAbs.log2 < 1920 ∧ (PySem.Str.ofString (toString i)).length ≤ 1000
section
variable {P : Program} {w : World} {A : Around} {E : Value → Shared → Prop} {s : Shared} {env : Env} {m : Str → Option Value} {arg : Str} {y : V} {u : Value}
theorem part_ok {e : Expr} {Q : Value → Shared → Prop} (hp : Part arg e) (hy : Arg0 y) (r : RelV y u) (hn : s.heap.Ns env.locals m) (hv : m arg = some u) (hk : env.scope.kind = .function) (hl : env.kindOf arg = some .local) (hd : (arg == ("__debug__" : Str)) = false)
    (q : ∀ (x : Str) t n, x.length ≤ 1000 → Q (.str x t) { s with toks := n }) : wpAny (model P w) A (eval e env) Q E s := by
  cases hp with
  | text x j p h => exact Calls.Constant_str (q x _ _ h)
  | fmt p p' =>
    refine wpAny_FormattedValue_plain (wpAny_Name (wpAny_loadName_local hk hl hn hv ?_) hd)
    rcases hy with ⟨z, rfl, hz⟩ | ⟨i, rfl, h1, h2⟩
    · obtain ⟨t, rfl⟩ := r
      refine wpAny_formatField_str ?_ (q z _ _ hz) (by rw [sizeLine_eq]; omega)
      have h := q z t s.toks hz
      exact h
    · obtain ⟨t, rfl⟩ := r
      exact wpAny_formatField_int h1 (q _ _ _ h2)
theorem parts_ok {Q : Str → Shared → Prop} (hy : Arg0 y) (r : RelV y u) (hv : m arg = some u) (hk : env.scope.kind = .function) (hl : env.kindOf arg = some .local) (hd : (arg == ("__debug__" : Str)) = false) :
    ∀ (es : List Expr) (acc : Str) (s : Shared), (∀ e ∈ es, Part arg e) → acc.length + 1000 * es.length ≤ 1000000 → s.heap.Ns env.locals m → (∀ out n, out.length ≤ 1000000 → Q out { s with toks := n }) →
      Joins (model P w) A E (evalEach es env) acc Q s
  | [], acc, s, _, hz, _, q => by
    rw [show evalEach [] env = [] by first | rfl | simp [evalEach]]
    exact q acc s.toks (by simpa using hz)
  | e :: es, acc, s, hp, hz, hn, q => by
    rw [show evalEach (e :: es) env = eval e env :: evalEach es env by first | rfl | simp [evalEach]]
    refine part_ok (hp e List.mem_cons_self) hy r hn hv hk hl hd fun x t n hx => ?_
    have hz2 : (acc ++ x).length + 1000 * es.length ≤ 1000000 := by
      rw [strLen_append]
      rw [List.length_cons] at hz
      omega
    exact ⟨x, t, rfl, by rw [sizeLine_eq]; omega, parts_ok hy r hv hk hl hd es (acc ++ x) { s with toks := n } (fun c hc => hp c (List.mem_cons_of_mem _ hc)) hz2 hn fun out n' ho => q out n' ho⟩
end

/-- how the call is evaluated (by rfl, once the places are there) -/
def SupEv (p0 p1 p2 p3 p4 : Pos) (v1 v2 : Expr) (vs : List Expr) : Prop := ∀ env : Env, ∃ pl : Sem Bool, eval (.Call (.Attribute (.Call (.Name "super" p0) [] [] p1) "__init__" p2) [.JoinedStr (v1 :: v2 :: vs) p3] [] p4) env = (do
  let ov ← attributeBase (.Call (.Name "super" p0) [] [] p1) "__init__" env (eval (.Call (.Name "super" p0) [] [] p1) env)
  standAt p2.atName
  let (f, first) ← holding [ov] (getMethod ov "__init__" pl)
  callWith p4 f first (backTo p4 (starEach [.JoinedStr (v1 :: v2 :: vs) p3] env)) [])
/-- the class and its __init__, as they stand in the written part -/
structure Ini (P : Program) (K : Frag) (mg : Str → Option Value) (f C : Addr) (fd : FuncData) (arg fld : Str) : Prop where
  oex : OexC K C
  noFld : findIn K (.ref C) fld = some none
  fn : ∃ (name qual : Str) (params : Arguments) (scope : Scope) (dV kV doc pm ct oc : Value) (an od : Option Addr) (osl : Array (Option Value)) (cda cc : Addr) (p0 p1 p2 p3 p4 p5 p6 p7 p8 p9 : Pos) (v1 v2 : Expr) (vs : List Expr),
    fd = ksFn name qual params [.Expr (.Call (.Attribute (.Call (.Name "super" p0) [] [] p1) "__init__" p2) [.JoinedStr (v1 :: v2 :: vs) p3] [] p4) p5, .Assign [.Attribute (.Name "self" p6) fld p7] (.Name arg p8) p9] scope dV kV doc pm an (.ref cda) ct cc ∧
    K.lookup f = some ⟨oc, od, .func fd, osl⟩ ∧ codeIn K (.ref cda) qual = true ∧ (∀ e ∈ v1 :: v2 :: vs, Part arg e) ∧ (v1 :: v2 :: vs).length ≤ 900 ∧
    (∃ ar, (params.posonlyargs ++ params.args).head? = some ar ∧ ar.arg = "self") ∧
    (∃ (ccl : Value) (cdd : Option Addr) (xs : Array Value) (csl : Array (Option Value)) (file : Str) (tf : Tok), K.lookup cda = some ⟨ccl, cdd, .fields xs, csl⟩ ∧ xs[2]? = some (.str file tf) ∧ ((P.main.file : Str) == file) = true) ∧
    (∃ (cl : Value) (cld : Option Addr) (csl : Array (Option Value)), K.lookup cc = some ⟨cl, cld, .cell (some (.ref C)), csl⟩) ∧
    scope.names.lookup ("self" : Str) = some .local ∧ scope.names.lookup arg = some .local ∧ scope.names.lookup ("super" : Str) = some .globalImplicit ∧ scope.names.lookup ("__class__" : Str) = some .free ∧ (∀ x ∈ scope.names, x.2 ≠ .cell) ∧
    scope.isCoroutine = false ∧ scope.isGenerator = false ∧ scope.kind = .function ∧ SupEv p0 p1 p2 p3 p4 v1 v2 vs
  argD : (arg == ("__debug__" : Str)) = false
  argS : arg ≠ "self"
  top : (P.main.scope.names.lookup ("super" : Str)).isSome = false
  sup : mg "super" = none
  mro : mroIn K C (.ref C) = some true
  base : ks_superIn K C C "__init__" = some (some (.builtin "ValueError.__init__"))
  subV : subIn K (.ref C) (.type "ValueError") = some true
  third : nsIn K cStatics "thirdparty.any" = some none

/-- what such an __init__ promises -/
def spI (K : Frag) (C : Addr) (fld : Str) : Sp := fun vs H Q _ => ∃ (a : Addr) (y : V), vs = [.ref a, y] ∧ Arg0 y ∧ H a = some (exo a C none) ∧ ∀ dx, H dx = none → dx ≠ a → Q .non (upd (upd H dx (exd dx [(fld, y)])) a (exo a C (some dx)))

theorem boot_super : bootBuiltins "super" = some (.type "super") := by first | rfl | decide +kernel | kernel_rfl
section
variable {P : Program} {w : World} {K : Frag} {mg : Str → Option Value} {base : Heap} {f C : Addr} {fd : FuncData} {arg fld : Str} {CX : CXT}

/-- the call of what super() found -/
theorem call_mw {A : Around} {E : Value → Shared → Prop} {h : Heap} {g : Array GenState} {d : Drawn} {t : Nat} {os : OsState} {nm q : Str} {N : Addr} {bs bm : List Value} {hd : Bool} {sn : List Str} {sub : List Value} {ab : Bool} {col : Option Bool} {dd : Option Addr} {k0 k1 k2 k3 k5 : Option Value} {u e t0 : Addr} {rest : List Value} {Q : Value → Shared → Prop}
    (hC : h.get? C = some (excClassObj nm q C N bs bm hd sn sub ab col dd k0 k1 k2 k3 k5 "ValueError.__new__")) (he : h.get? e = some ({ cls := .ref C, dict := none, data := .fields #[.ref t0, .none, .none, .none, .bool false, .none] } : Obj)) (hu : h.get? u = some (kxs_mw "ValueError.__init__" e)) (hz : rest.length ≤ sizeLine)
    (fin : ∀ h' t1, (∀ b o, b ≠ e → h.get? b = some o → h'.get? b = some o) → h'.get? e = some ({ cls := .ref C, dict := none, data := .fields #[.ref t1, .none, .none, .none, .bool false, .none] } : Obj) → Q .none ⟨h', g, d, t, os⟩) :
    wpAny (model P w) A (call (.ref u) rest) Q E ⟨h, g, d, t, os⟩ := by
  have FB := F.excBase_ValueError
  refine wpAny_call (codeAny_of_tree ?_)
  show wpAny _ A.in1 (callAny (.ref u) ⟨rest, []⟩) _ _ _
  simp only [callAny]
  refine wpAny_bind (wpAny_load hu ?_)
  simp only [kxs_mw, show (Value.type "method-wrapper" == Value.type "method" || Value.type "method-wrapper" == Value.type "builtin_function_or_method" || Value.type "method-wrapper" == Value.type "method-wrapper") = true by decide, if_true]
  refine KFB.if_so (by decide) ?_
  refine wpAny_bind (check_bound_init FB.toExcCallFacts hC he rfl ?_)
  refine wpAny_bind (wpAny_pure (wpAny_pure ?_))
  refine ⟨plainId_quiet FB.init.plain _, codeAny_builtin FB.initEntry ?_⟩
  exact exc_init_tree (cls := .ref C) (t0 := t0) (dv := none) (c2 := .none) (c3 := .none) (b4 := .bool false) he hz fun h' k e' _ => fin h' _ k e'

theorem init_ok (J : Ini P K mg f C fd arg fld) (k : Nat) : FnOk P w K mg base CX (k + 1) f fd ["self", arg] (spI K C fld) := by
  refine ⟨fun vs H Q E ⟨a, y, e, _⟩ => by rw [e]; rfl, fun A outer s H args us vs Q E hr e0 hb r hsp => ?_⟩
  obtain ⟨a, y, rfl, hy, ha, q⟩ := hsp
  obtain ⟨name, qual, params, scope, dV, kV, doc, pm, ct, oc, an, od, osl, cda, cc, p0, p1, p2, p3, p4, p5, p6, p7, p8, p9, v1, v2, es, rfl, lk, hcode, hparts, hlen, ⟨ar, har, hself⟩, ⟨ccl, cdd, xs, csl, file, tf, hcda, hx2, hfile⟩, ⟨cl, cld, csl2, hcell⟩, n1, n2, n3, n4, ncell, nco, ngen, nk, hev⟩ := J.fn
  cases r with
  | cons ra r => cases r with
    | cons ry r =>
      cases r
      cases ra
      rename_i u
      obtain ⟨nm, qn, N, bs, bm, sn, sub, ab, col, dd, k0, k1, k2, k3, k5, hC, hbm⟩ := J.oex.cls
      have hcl : clsIn K C = some { name := nm, bases := bs, mro := .ref C :: bm, ns := N, qualname := qn, hasDict := true, slotNames := sn, subclasses := sub, abstract := ab, collection := col, hasDel := false } := by unfold clsIn; rw [hC] <;> rfl
      obtain ⟨t1, ho⟩ := exo_at e0.hok ha
      have bk : ∀ b o, base.get? b = some o → s.heap.get? b = some o := fun b o e => (e0.bs b o e).1
      have KX : K.In s.heap := e0.mod.kin.keeps bk
      have lim : s.heap.NoLimit := e0.mod.nolimit.keeps bk
      obtain ⟨mb, hb1, hb2⟩ := e0.mod.blt
      refine ks_codeAny_call_defAt hr.depth (KX _ _ lk) rfl lim (codeRec_of KX hcode) rfl hb ncell (fun z hz => ?_) (fun h0 hns hk0 => ?_) nco ngen nk
      · have hz' : z = (("self" : Str), Value.ref a) ∨ z = (arg, u) := by simpa using hz
        rcases hz' with e | e
        · rw [e]; exact n1
        · rw [e]; exact n2
      have vself : (([("self" : Str), arg].zip [Value.ref a, u]).reverse).lookup ("self" : Str) = some (Value.ref a) := by
        show [(arg, u), (("self" : Str), Value.ref a)].lookup ("self" : Str) = _
        rw [List.lookup_cons, show (("self" : Str) == arg) = false from beq_false_of_ne (Ne.symm J.argS)]
        simp
      have varg : (([("self" : Str), arg].zip [Value.ref a, u]).reverse).lookup arg = some u := by
        show [(arg, u), (("self" : Str), Value.ref a)].lookup arg = _
        simp
      obtain ⟨hh, g, d, tk, os⟩ := s
      dsimp only at hns hk0 ⊢
      have kb0 : ∀ b o, base.get? b = some o → h0.get? b = some o := fun b o e => hk0 b o (bk b o e)
      have X0 : K.In h0 := e0.mod.kin.keeps kb0
      have ho0 := hk0 _ _ ho
      have lk0 := X0 _ _ lk
      have hC0 := X0 _ _ hC
      -- super()
      refine ks_wpAt_execs_cons ?_
      refine ks_wpAt_Expr_any ?_ (hi := by unfold interactive; show (scope.kind == .module && _) = false; rw [nk]; rfl)
      obtain ⟨pl, hev⟩ := hev (callEnv (ksFn name qual params _ scope dV kV doc pm an (.ref cda) ct cc) hh.objs.size f)
      refine ks_wpAt_MethodCall ?_ hev
      refine ks_wpAt_super_base (env := callEnv _ _ _) n3 n4 (by decide) rfl lk0 rfl har rfl (X0 _ _ hcda) rfl hx2 hfile J.top ?_
      refine ks_loadName_global nk n3 (Calls.loadGlobal_builtin (env := callEnv _ _ _) (mg := mg) (mb := mb) (e0.mod.glob.keeps kb0) J.sup (hb1.keeps kb0) ((hb2 _ (by decide)).trans boot_super) ⟨rfl, ?_⟩)
      refine wpAny_loadName_free nk n4 rfl ⟨_, X0 _ _ hcell, rfl⟩ ?_
      rw [hself]
      refine wpAny_loadName_local nk n1 hns vself ?_
      refine ks_wpAny_isType_cls hC0 rfl ⟨rfl, ?_⟩
      refine ks_wpAny_call_super hC0 rfl ho0 rfl (fun c e => by cases e) (looks_mroIn X0 J.mro) (fun h1 hso hk1 => ?_)
      have X1 : K.In h1 := X0.keeps hk1
      have ho1 := hk1 _ _ ho0
      have I1 : InstAt h1 a _ C none := ⟨ho1, rfl, rfl, trivial⟩
      have base1 := J.base
      unfold ks_superIn at base1
      rw [hcl] at base1
      refine kxs_getMethod kxs_ValueError hso (looks_opaque X1 J.third) (l₀ := .ref C :: bm) ((looks_clsIn X1 hcl).andThen .now) rfl X1 base1 (I1.type.andThen (looks_subIn X1 J.subV)) (ks_ne X1 I1 hcl) (by decide) ?_
      have mw : (h1.push (kxs_mw "ValueError.__init__" a)).get? h1.objs.size = some (kxs_mw "ValueError.__init__" a) := Heap.get?_push_at rfl rfl
      have hk2 : ∀ b o, h1.get? b = some o → (h1.push (kxs_mw "ValueError.__init__" a)).get? b = some o := fun b o e => Heap.get?_push_of_some _ e
      have hns2 : (h1.push (kxs_mw "ValueError.__init__" a)).Ns hh.objs.size (fun x => (([("self" : Str), arg].zip [Value.ref a, u]).reverse).lookup x) := (hns.keeps hk1).keeps hk2
      refine kxs_callWith (i := "ValueError.__init__") (x := a) rfl ?_
      refine Calls.evalArgs_plain (Calls.spliced_cons ?_)
      show wpAny _ _ (eval (.JoinedStr (v1 :: v2 :: es) p3) _) _ _ _
      refine wpAny_JoinedStr (parts_ok (env := callEnv (ksFn name qual params _ scope dV kV doc pm an (.ref cda) ct cc) hh.objs.size f) hy ry varg nk n2 J.argD _ _ _ hparts ?_ hns2 fun out n hout => ?_)
      · show 0 + 1000 * _ ≤ 1000000
        omega
      refine ⟨by rw [sizeLine_eq]; omega, Calls.spliced_nil ⟨mw, ?_⟩⟩
      refine call_mw (hk2 _ _ (X1 _ _ hC)) (hk2 _ _ ho1) mw (by rw [sizeLine_eq]; exact (show (1 : Nat) ≤ 16777216 by decide)) fun h3 t3 hk3 ho3 => ?_
      -- self.fld = arg
      have X3 : K.In h3 := fun b o e => hk3 b o (fun z => by
        have e1 := X0 _ _ e
        rw [z, ho0] at e1
        have e2 := Option.some.inj e1
        have lt : ∃ o, base.get? a = some o := ⟨_, by rw [← z]; exact e0.mod.kin _ _ e⟩
        obtain ⟨o', e3⟩ := lt
        have := (e0.bs a o' e3).2
        rw [ha] at this
        cases this) (hk2 _ _ (X1 _ _ e))
      have nL : hh.objs.size ≠ a := fun z => absurd (Heap.lt_size ho) (by rw [← z]; exact Nat.lt_irrefl _)
      have hns3 : h3.Ns hh.objs.size (fun x => (([("self" : Str), arg].zip [Value.ref a, u]).reverse).lookup x) := by
        obtain ⟨oL, e1, ep, e2, r⟩ := hns2
        exact ⟨oL, e1, ep, hk3 _ _ nL e2, r⟩
      refine ks_wpAt_execs_cons (wpAt_of_wpAny ?_)
      refine plainObj_wpAny_Assign_Attribute (wpAny_Name (wpAny_loadName_local nk n2 hns3 varg ?_) J.argD) rfl
      refine wpAny_Name (wpAny_loadName_local nk n1 hns3 vself ?_) (by decide)
      refine set_plain X3 (ox := { cls := .ref C, dict := none, data := .fields #[.ref t3, .none, .none, .none, .bool false, .none] }) (od := none) ⟨ho3, rfl, rfl, trivial⟩ J.oex.sa ?_
      refine PySem.HandSPX.exc_osa X3 ho3 hcl (show PySem.HandSPX.refsVE (.ref C :: bm) = true from hbm) rfl J.noFld (fun h4 tk4 dx hk4 dn dne hx hn => ?_)
      refine wpAt_of_wpAny (wpAny_execs_nil ?_)
      -- the end
      have kk : ∀ b o, b ≠ a → hh.get? b = some o → h4.get? b = some o := fun b o n e => hk4 b o n (hk3 b o n (hk2 b o (hk1 b o (hk0 b o e))))
      have szs : hh.objs.size ≤ dx := by
        obtain ⟨oL, e1, ep, e2, _⟩ := hns3
        exact Nat.le_of_lt (Nat.lt_of_lt_of_le (Heap.lt_size e2) dn)
      have fr : H dx = none := e0.hok.fresh szs
      have nd : ∀ {b : Addr} {o : Obj}, hh.get? b = some o → b ≠ dx := fun {b o} z => Nat.ne_of_lt (Nat.lt_of_lt_of_le (Heap.lt_size z) szs)
      have na : ∀ {b : Addr}, H b = none → b ≠ a := fun {b} n z => by
        rw [z, ha] at n
        cases n
      refine ⟨.non, _, rfl, e0.bare, ⟨fun b o z n _ _ => kk b o (na n) z, fun b o z n _ _ => ⟨o.slots, kk b o (na n) z⟩, fun b o z n _ => ?_, fun b o z _ => ?_, fun b ys z => ?_, fun b o v z => ?_, fun b ps z => ⟨#[], ?_⟩⟩, fun b o z => ?_, rfl, q dx fr dne⟩
      · rw [upd_ne (na n), upd_ne (nd z)]
        exact n
      · by_cases hb : b = a
        · exact ⟨_, by rw [hb]; exact hx⟩
        · exact ⟨o, kk b o hb z⟩
      · rw [upd_ne (at_ne ha z exo_tup), upd_ne (ne_of_none z fr)]
        exact z
      · rw [upd_ne (at_ne ha z exo_frz), upd_ne (ne_of_none z fr)]
        exact z
      · rw [upd_ne (at_ne ha z exo_tbl), upd_ne (ne_of_none z fr), z]
        simp
      · by_cases hb : b = a
        · subst hb
          rw [upd_same] at z
          cases z
          exact exo_ok hx
        · rw [upd_ne hb] at z
          by_cases hd' : b = dx
          · subst hd'
            rw [upd_same] at z
            cases z
            exact exd_ok hn (relO_put (fs := []) ry fun _ => True.intro)
          · rw [upd_ne hd'] at z
            refine (e0.hok b o z).stay (fun c v hc y => kk c v ?_ y) (fun c hc => ?_) (fun c ys hc => ?_)
            · rcases hc with hc | hc
              · rw [hc]; exact hb
              · exact at_ne ha hc exo_own
            · rw [upd_ne (at_ne ha hc exo_own), upd_ne (ne_of_none hc fr)]
              exact hc
            · rw [upd_ne (at_ne ha hc exo_tup), upd_ne (ne_of_none hc fr)]
              exact hc
end
end Ex
end

section
set_option maxHeartbeats 2000000
namespace Pu
open PySem PySem.Spec PyProof.Rows L2

/-! ### raise C(e) -/
/-- what an exception may be made with -/
def ArgD : Da → Prop
  | .str z => z.length ≤ 1000
  | .int i => i.natAbs.log2 < 1920 ∧ (PySem.Str.ofString (toString i)).length ≤ 1000
  | _ => False
theorem argD_arg {K : PySem.W.Frag} {L : Addr → Prop} {H : Hp} {d : Da} {y : V} (h : ArgD d) (r : Rep K L H d y) : Ex.Arg0 y := by
  cases d <;> first | exact h.elim | skip
  · rw [rep_int.mp r]
    exact .inr ⟨_, rfl, h.1, h.2⟩
  · rw [rep_str.mp r]
    exact .inl ⟨_, rfl, h⟩
def sRaise (nm fld : Str) (m : W Da) : Sx := ⟨fun ρ E => m.wp ρ (fun d ρ' => ArgD d ∧ E.ex ⟨nm, fld, d⟩ ρ') E.ex, fun l h => m.mono (fun d ρ' q => ⟨q.1, l.ex _ _ q.2⟩) l.ex h⟩
section
variable {X : Cx} {G : Gc} {x : Ex → En → Prop}
theorem s_raise {C fI : Addr} {k : Nat} {fd : FuncData} {nm arg fld : Str} {e : Expr} {p pos pos' : Pos} {m : W Da} (xo : XOk X G x) (hc : X.calm = true) (T : OexC X.K C) (iC : PySem.W.findIn X.K (.ref C) "__init__" = some (some (.ref fI)))
    (tI : PySem.W.typeIn X.K (.ref fI) = some (.type "function")) (fo : FnOk X.prog X.w X.K X.mg X.base (L2.CX X.prog X.w) k fI fd ["self", arg] (Ex.spI X.K C fld)) (hr : Room (k + 1) X.A) (hb : Binds X.K fd ["self", arg] []) (hg : Gl X nm) (hm : X.mg nm = some (.ref C))
    (ha : PE X e (tp X.K G x m)) (hdb : (nm == ("__debug__" : Str)) = false := by decide) (he : starEach [e] X.env = (false, eval e X.env) :: starEach [] X.env := by rfl) :
    PS X (.Raise (some (.Call (.Name nm p) [e] [] pos)) none pos') (ts X.K G x (sRaise nm fld m)) := by
  obtain ⟨Wx, tk, hW⟩ := xo.ex
  refine (ps_raise hc tk (pmk_oex T iC tI fo hr hb .nil passL hg hm (pa_cons ha pa_nil he) hdb he)).of fun D σ H ⟨ρ, pe, S, q⟩ => ?_
  refine ⟨ρ, pe, S, m.mono (fun d ρ1 q v H1 S1 => ?_) (fun _ _ z => z) q⟩
  obtain ⟨hd, q⟩ := q
  obtain ⟨O, S1⟩ := S1
  refine ⟨show (1 : Nat) ≤ 1000 by decide, fun a na => ?_⟩
  have r := S1.top
  refine ⟨a, v, rfl, argD_arg hd r, upd_same, fun dx nx ne => ?_⟩
  have nx1 : H1 dx = none := by rw [upd_ne ne] at nx; exact nx
  refine ⟨rfl, dx, [(fld, v)], upd_same, ?_, nx1, ?_⟩
  · rw [upd_ne ne]
    exact upd_same
  · have kk : ∀ b u, H1 b = some u → upd (del (upd (upd (upd H1 a (exo a C none)) dx (exd dx [(fld, v)])) a (exo a C (some dx))) a) dx (.xd [(fld, v)]) b = some u := fun b u e => by
      rw [upd_ne (ne_of_none e nx1), del_ne (ne_of_none e na), upd_ne (ne_of_none e na), upd_ne (ne_of_none e nx1), upd_ne (ne_of_none e na)]
      exact e
    exact hW _ ρ1 σ _ _ O C dx q (S1.heap kk) hm ⟨v, upd_same, Rep.mono (fun b u e _ => kk b u e) (fun _ _ _ z => z) _ _ r⟩

/-! ### a def's body from its start: nothing is pending -/
def ts0 (K : PySem.W.Frag) (G : Gc) (x : Ex → En → Prop) (S : Sx) : TS := fun D σ H => ∃ ρ, Sd K G σ ρ [] H ∧ S.wp ρ (flOf K G x σ [] D)
theorem s0 {st : Stmt} {a : Sx} (h : PS X st (ts X.K G x a)) : PS X st (ts0 X.K G x a) := h.of fun D σ H ⟨ρ, S, q⟩ => ⟨ρ, [], S, q⟩
theorem ss0 {st : List Stmt} {a : Sx} (h : PSs X st (ts X.K G x a)) : PSs X st (ts0 X.K G x a) := h.of fun D σ H ⟨ρ, S, q⟩ => ⟨ρ, [], S, q⟩
theorem ss_cons0 {st : Stmt} {rest : List Stmt} {a b : Sx} (h1 : PS X st (ts0 X.K G x a)) (h2 : PSs X rest (ts0 X.K G x b)) : PSs X (st :: rest) (ts0 X.K G x (sSeq a b)) := (pss_cons h1 h2).of fun D σ H ⟨ρ, S, q⟩ =>
  ⟨ρ, S, a.mono (E := { flOf X.K G x σ [] D with nx := fun ρ' => b.wp ρ' (flOf X.K G x σ [] D) }) ⟨fun ρ' q σ' H' S' => ⟨ρ', S', q⟩, fun _ _ z => z, fun _ z => z, fun _ z => z, fun _ _ z => z⟩ q⟩
theorem ss_one0 {st : Stmt} {a : Sx} (h1 : PS X st (ts0 X.K G x a)) : PSs X [st] (ts0 X.K G x a) := pss_one h1
theorem StO.bare {K : PySem.W.Frag} {O : Addr → Option Tg} {σ : L2.St} {ρ : En} {pe : Pend} {H : Hp} (S : StO K G O σ ρ pe H) : StO K G O σ ρ [] H := ⟨S.frame, S.own, S.pools, S.len, S.slots, trivial⟩

/-! ### try: .. except C as n: .. -/
def NoExn (ρ : En) : Prop := ∀ (i : Nat) f w, ρ[i]? ≠ some (some (.exn f w))
theorem StO.exnOf {K : PySem.W.Frag} {O : Addr → Option Tg} {σ : L2.St} {ρ : En} {H : Hp} (S : StO K G O σ ρ [] H) (n : NoExn ρ) (xa : Option (Addr × Addr)) : StO K { G with xa := xa } O σ ρ [] H := by
  refine ⟨S.frame, S.own, S.pools, S.len, fun i c e => ?_, trivial⟩
  obtain ⟨v, h1, h2⟩ := S.slots i c e
  refine ⟨v, h1, ?_⟩
  cases c with
  | dat d => exact h2
  | own ds => exact h2
  | pool => exact h2
  | set ds => exact h2
  | plv po => exact h2
  | exn f w => exact absurd e (n i f w)
theorem StO.exnTo {K : PySem.W.Frag} {O : Addr → Option Tg} {σ : L2.St} {ρ : En} {H : Hp} {xa : Option (Addr × Addr)} (S : StO K { G with xa := xa } O σ ρ [] H) (n : NoExn ρ) : StO K G O σ ρ [] H := by
  refine ⟨S.frame, S.own, S.pools, S.len, fun i c e => ?_, trivial⟩
  obtain ⟨v, h1, h2⟩ := S.slots i c e
  refine ⟨v, h1, ?_⟩
  cases c with
  | dat d => exact h2
  | own ds => exact h2
  | pool => exact h2
  | set ds => exact h2
  | plv po => exact h2
  | exn f w => exact absurd e (n i f w)
/-- a body with a suite for the exceptions that cat names; slot i is the exception's -/
def sufl (i : Nat) (E : Fl) : Fl := ⟨fun ρ => NoExn (ρ.set i none) ∧ E.nx (ρ.set i none), fun d ρ => NoExn (ρ.set i none) ∧ E.rt d (ρ.set i none), fun ρ => NoExn (ρ.set i none) ∧ E.bk (ρ.set i none), fun ρ => NoExn (ρ.set i none) ∧ E.ct (ρ.set i none), fun _ _ => False⟩
theorem sufl_le {i : Nat} {E E' : Fl} (l : Fl.Le E E') : Fl.Le (sufl i E) (sufl i E') := ⟨fun _ q => ⟨q.1, l.nx _ q.2⟩, fun _ _ q => ⟨q.1, l.rt _ _ q.2⟩, fun _ q => ⟨q.1, l.bk _ q.2⟩, fun _ q => ⟨q.1, l.ct _ q.2⟩, fun _ _ z => z⟩
def tryEx (cat : Str → Option Bool) (i : Nat) (s : Sx) (E : Fl) : Ex → En → Prop := fun e ρ => match cat e.name with
  | some true => NoExn ρ ∧ s.wp (ρ.set i (some (.exn e.fld e.what))) (sufl i E)
  | some false => E.ex e ρ
  | none => False
theorem tryEx_mono {cat : Str → Option Bool} {i : Nat} {s : Sx} {E E' : Fl} (l : Fl.Le E E') (e : Ex) (ρ : En) (h : tryEx cat i s E e ρ) : tryEx cat i s E' e ρ := by
  unfold tryEx at h ⊢
  split
  · rename_i q
    rw [q] at h
    exact ⟨h.1, s.mono (sufl_le l) h.2⟩
  · rename_i q
    rw [q] at h
    exact l.ex _ _ h
  · rename_i q
    rw [q] at h
    exact h
def sTry (cat : Str → Option Bool) (i : Nat) (b s : Sx) : Sx := ⟨fun ρ E => b.wp ρ { E with ex := tryEx cat i s E }, fun {ρ E E'} l h => b.mono (E := { E with ex := tryEx cat i s E }) ⟨l.nx, l.rt, l.bk, l.ct, fun e ρ q => tryEx_mono l e ρ q⟩ h⟩

def lookExn (ρ : En) (i : Nat) (f : Str) : Option Da := match ρ[i]? with
  | some (some (.exn g w)) => if g = f then some w else none
  | _ => none
def eExn (i : Nat) (f : Str) : W Da := W.env.bind fun ρ => W.opt (lookExn ρ i f)
theorem of_lookExn {ρ : En} {i : Nat} {f : Str} {d : Da} (h : lookExn ρ i f = some d) : ρ[i]? = some (some (.exn f d)) := by
  unfold lookExn at h
  split at h
  · rename_i g w e
    split at h
    · rename_i eg
      cases h
      rw [e, eg]
    · cases h
  · cases h
/-- e.f in a suite -/
theorem p_exn {a dd C : Addr} {oe : Obj} {pn : List (Addr × Obj)} {i : Nat} {e : Expr} {f : Str} {pos : Pos} {x : Ex → En → Prop} (T : XfC X.K C) (hno : PySem.W.findIn X.K (.ref C) f = some none) (hz : Zc (.ref C) (some dd) oe) (hf : ∃ vs, oe.data = .fields vs)
    (he : PE (X.suite a ((a, oe) :: pn)) e (tVar i)) (hb : attributeBase e f X.env (eval e X.env) = eval e X.env := by rfl) : PE (X.suite a ((a, oe) :: pn)) (.Attribute e f pos) (tp X.K { G with xa := some (a, dd) } x (eExn i f)) :=
  (pe_xf T hno hz hf he hb).of fun σ H Q ⟨ρ, pe, ⟨O, S⟩, q⟩ => by
    obtain ⟨d, ed, q⟩ := W.opt_wp q
    obtain ⟨v, hv, a', d', y, ev, exa, hd, r⟩ := S.slots i _ (of_lookExn ed)
    subst ev
    cases exa
    exact ⟨_, hv, rfl, rfl, dd, [(f, y)], y, rfl, hd, by simp, q y H ⟨O, S.pushD r⟩⟩

theorem s_try {cn n : Str} {c : Value} {i : Nat} {body suite : List Stmt} {b₀ : Stmt} {np pos pos' : Pos} {cat : Str → Option Bool} {fld : Str} {b s : Sx} (xo : XOk X G x) (hs : X.stack = X.env :: X.outer) (hf : X.env.frame = some X.env.locals) (hN : X.N.Nodup) (hi : X.N[i]? = some n)
    (hln : X.env.kindOf n = some .local) (hc : Names X cn c)
    (hcat : ∀ (nm : Str) (C : Addr), X.mg nm = some (.ref C) → (cat nm = some true → XfC X.K C ∧ PySem.W.findIn X.K (.ref C) fld = some none ∧ PySem.W.exmOne X.K (.ref C) c = some true) ∧ (cat nm = some false → PySem.W.exmOne X.K (.ref C) c = some false))
    (hb : ∀ (pn : List (Addr × Obj)) (xe : Value → Shared → Prop) (x' : Ex → En → Prop), XOk (X.tr pn xe) G x' → PassesOwn (model X.prog X.w) X.A X.env xe → PSs (X.tr pn xe) body (ts0 X.K G x' b))
    (hsu : ∀ (a dd C : Addr) (oe : Obj) (pn : List (Addr × Obj)), XfC X.K C → PySem.W.findIn X.K (.ref C) fld = some none → Zc (.ref C) (some dd) oe → (∃ vs, oe.data = .fields vs) → PSs (X.suite a ((a, oe) :: pn)) (b₀ :: suite) (ts0 X.K { G with xa := some (a, dd) } noEx s)) :
    PS X (.Try body [.ExceptHandler (some (.Name cn np)) (some n) (b₀ :: suite) pos'] [] [] pos) (ts0 X.K G x (sTry cat i b s)) := by
  obtain ⟨Wx, tk, hW⟩ := xo.ex
  have big := ps_try_as (X := X) (x := cn) (n := n) (c := c) (i := i) (body := body) (suite := suite) (b₀ := b₀) (np := np) (pos := pos) (pos' := pos')
    (tb := fun Wt D σ H => ∃ x' : Ex → En → Prop, (∀ (e : Ex) (ρ : En) (σ : L2.St) (pe : Pend) (H : Hp) (O : Addr → Option Tg) (C d : Addr), x' e ρ → StO X.K G O σ ρ pe H → X.mg e.name = some (.ref C) → XdAt X.K (Lof G O) H d e → Wt (.ref C) (some d) σ H) ∧ ts0 X.K G x' b D σ H)
    (ts := fun a cls d D σ H => ∃ C dd, cls = .ref C ∧ d = some dd ∧ XfC X.K C ∧ PySem.W.findIn X.K (.ref C) fld = some none ∧ ts0 X.K { G with xa := some (a, dd) } noEx s D σ H)
    (Wout := Wx) hs hf hN hi hln hc tk (fun Wt pn xe tk' po => ⟨fun pins s1 σ H D I ⟨x', hx', q⟩ => (hb pn xe x' ⟨xo.so, Wt, tk', hx'⟩ po).run pins s1 σ H D I q⟩)
    (fun a oe cls d pn hz hfi => ⟨fun pins s1 σ H D I ⟨C, dd, ec, ed, T, hno, q⟩ => by
      subst ec
      subst ed
      exact (hsu a dd C oe pn T hno hz hfi).run pins s1 σ H D I q⟩)
  refine big.of fun D σ H ⟨ρ, S, q⟩ => ?_
  refine ⟨tryEx cat i s (flOf X.K G x σ [] D), fun e ρ1 σ1 pe1 H1 O1 C d h S1 hC hd => ?_, ρ, S, q⟩
  unfold tryEx at h
  split at h
  · rename_i hcat'
    obtain ⟨nex, h⟩ := h
    obtain ⟨T, hno, hex⟩ := (hcat _ _ hC).1 hcat'
    refine ⟨true, hex, fun _ a na => ?_, fun z => Bool.noConfusion z⟩
    obtain ⟨y, hdx, ry⟩ := hd
    have S2 := (S1.bare.exnOf nex (some (a, d))).forget i (some (.ref a))
    have S3 : StO X.K { G with xa := some (a, d) } (clr O1 (.slot i)) (σ1.set i (some (.ref a))) (ρ1.set i (some (.exn e.fld e.what))) [] H1 := by
      refine ⟨S2.frame, S2.own, S2.pools, by have := S1.len; simpa using this, fun j cc ej => ?_, trivial⟩
      rcases getset ej with ⟨e1, e2, hl⟩ | ⟨nj, ej⟩
      · subst e1
        cases e2
        exact ⟨.ref a, List.getElem?_set_self (by rw [← S1.len]; exact hl), a, d, y, rfl, rfl, hdx, Rep.mono (fun _ _ e _ => e) (fun _ _ _ z => lof_clr z) _ _ ry⟩
      · exact S2.slots j cc (by rw [List.getElem?_set_ne nj]; exact ej)
    refine ⟨C, d, rfl, rfl, T, hno, _, ⟨_, S3⟩, s.mono (E := sufl i (flOf X.K G x σ [] D)) ⟨fun ρ2 q2 σ' H' ⟨O', S'⟩ => ?_, fun dv ρ2 q2 v σ' H' ⟨O', S'⟩ => ?_, fun ρ2 q2 σ' H' ⟨O', S'⟩ => ?_, fun ρ2 q2 σ' H' ⟨O', S'⟩ => ?_, fun _ _ z => z⟩ h⟩
    · exact q2.2 _ H' ⟨_, (S'.forget i none).exnTo q2.1⟩
    · refine q2.2 v σ' H' ⟨O', ?_⟩
      have S4 : StO X.K { G with xa := some (a, d) } O' σ' (ρ2.set i none) [] H' := S'.bare.weak (by have := S'.len; simpa using this) fun j cc ej => by
        rcases getset ej with ⟨_, e, _⟩ | ⟨_, e⟩
        · cases e
        · exact ⟨e, rfl⟩
      exact (S4.exnTo q2.1).pushD S'.top
    · exact q2.2 _ H' ⟨_, (S'.forget i none).exnTo q2.1⟩
    · exact q2.2 _ H' ⟨_, (S'.forget i none).exnTo q2.1⟩
  · rename_i hcat'
    exact ⟨false, (hcat _ _ hC).2 hcat', fun z => absurd z Bool.false_ne_true, fun _ => hW e ρ1 σ1 pe1 H1 O1 C d h S1 hC hd⟩
  · exact h.elim
end

/-- okD for a body that is judged from its start -/
theorem okD0 {P : Program} {w : World} {K : PySem.W.Frag} {mg : Str → Option Value} {base : Heap} {x qual : Str} {st : Stmt} {f : Addr} {fd : FuncData} {N ps : List Str} {k n : Nat} {F : Fn} {b : Sx} (Fu : Fun K x qual st f fd) (S : FnScope N ps (defScope st)) (hn : ps.length = n)
    (hb : ∀ (cdv : Value) (A : Around) (outer : List Env) (s : Shared) (H : Hp) (E : XK) (G : Gc) (xw : Ex → En → Prop), Room k (A.deeper (envOfC qual (defScope st) s.heap.objs.size f cdv)) →
      XOk (cxOf (L2.CX P w) P w K mg base N qual (defScope st) f cdv A outer s H E) G xw → PSs (cxOf (L2.CX P w) P w K mg base N qual (defScope st) f cdv A outer s H E) (defBody st) (ts0 K G xw b))
    (hw : Keeps n N.length F b) : FnOk P w K mg base (L2.CX P w) (k + 1) f fd ps (spD K mg n F) := by
  refine Fu.okX S (fun vs H Q E h => (spD_len vs H Q E h).trans hn.symm) fun cdv A outer s H vs Q E hr ⟨La, ds, l, r, q⟩ => ?_
  refine ⟨_, hb cdv A outer s H E ⟨H, fun _ => False, La, none, SetTO P w⟩ (fun e _ => ∀ C d H', mg e.name = some (.ref C) → (∀ b x, H b = some x → H' b = some x) → XdAt K (fun c => La c ∨ H c = none) H' d e → E (.ref C) (some d) H') hr
    ⟨rfl, fun cls d _ H' => E cls d H', takes_of rfl rfl rfl rfl, fun e ρ σ pe H' O C d hx S' hC hd => hx C d H' hC (fun b y z => (S'.frame b y z fun h => h).1) (hd.mono fun b z => z.2)⟩, ?_⟩
  have hle := scope_le S
  have hvl := r.length
  refine ⟨startE N.length ds, ⟨fun _ => none, ⟨fun b y e _ => ⟨e, rfl⟩, fun p t e => (by cases e), fun p h => h.elim, ?_, fun i c e => ?_, trivial⟩⟩, b.mono (E := flFn _ _) ⟨fun ρ q σ H' ⟨O, S'⟩ => ?_, fun d ρ q v σ H' ⟨O, S'⟩ => ?_, fun _ z => z.elim, fun _ z => z.elim, fun _ _ z => z⟩ (hw ds _ _ l q)⟩
  · rw [startE_len (by omega), start_len (by omega)]
  · obtain ⟨d, h1, rfl⟩ := startE_get e
    obtain ⟨v, h2, h3⟩ := r.getD h1
    exact ⟨v, start_get h2, Rep.mono (fun _ _ e _ => e) (fun _ _ _ z => ⟨rfl, .inl z⟩) _ _ h3⟩
  · exact q .non H' (fun b y z => (S'.frame b y z fun h => h).1) (by simp [Rep])
  · exact q v H' (fun b y z => (S'.frame b y z fun h => h).1) (Rep.mono (fun _ _ e _ => e) (fun _ _ _ z => z.2) _ _ S'.top)
end Pu
end

section
set_option maxHeartbeats 2000000
namespace Pu
open PySem PySem.Spec PyProof.Rows L2

/-! ### own lists in place -/
/-- x[e], len(x): x a list of our own in slot i -/
def eIxO (i : Nat) (m : W Da) : W Da := W.env.bind fun ρ0 => (W.req ((lookOwn ρ0 i).isSome = true)).bind fun _ => m.bind fun d => W.env.bind fun ρ => (W.opt (lookOwn ρ i)).bind fun ds => W.opt (dIdx (.lst ds) d)
def eLenO (i : Nat) : W Da := W.env.bind fun ρ => (W.opt (lookOwn ρ i)).bind fun ds => W.ret (.int ds.length)
/-- e in x, e not in x -/
def eInO (neg : Bool) (i : Nat) (m : W Da) : W Da := m.bind fun d => W.env.bind fun ρ => (W.opt (lookOwn ρ i)).bind fun ds => W.opt (dIn neg d (.lst ds))
/-- x[e1] = e2 -/
def sPut (i : Nat) (m1 m2 : W Da) : Sx := ⟨fun ρ E => m2.wp ρ (fun d ρ1 => (lookOwn ρ1 i).isSome = true ∧ m1.wp ρ1 (fun k ρ2 => ∃ j ds n, asI k = some j ∧ lookOwn ρ2 i = some ds ∧ ixN ds.length j = some n ∧ E.nx (ρ2.set i (some (.own (ds.set n d))))) E.ex) E.ex,
  fun l h => m2.mono (fun d ρ1 q => ⟨q.1, m1.mono (fun k ρ2 ⟨j, ds, n, e1, e2, e3, q⟩ => ⟨j, ds, n, e1, e2, e3, l.nx _ q⟩) l.ex q.2⟩) l.ex h⟩
section
variable {X : Cx} {G : Gc} {x : Ex → En → Prop}
theorem own_slot {K : PySem.W.Frag} {O : Addr → Option Tg} {σ : L2.St} {ρ : En} {pe : Pend} {H : Hp} {i : Nat} (S : StO K G O σ ρ pe H) (h : (lookOwn ρ i).isSome = true) : ∃ p, σ[i]? = some (some (.ref p)) := by
  obtain ⟨ds, e⟩ := Option.isSome_iff_exists.mp h
  obtain ⟨v, hv, p, xs, ev, _⟩ := S.slots i _ (of_lookOwn e)
  exact ⟨p, by rw [hv, ev]⟩
theorem own_at {K : PySem.W.Frag} {O : Addr → Option Tg} {σ : L2.St} {ρ : En} {pe : Pend} {H : Hp} {i : Nat} {p : Addr} {ds : List Da} (S : StO K G O σ ρ pe H) (hp : σ[i]? = some (some (.ref p))) (e : lookOwn ρ i = some ds) :
    ∃ xs, O p = some (.slot i) ∧ H p = some (.lst xs) ∧ ds.length ≤ sizeLine ∧ Reps K (Lof G O) H ds xs ∧ ¬ G.P0 p := by
  obtain ⟨v, hv, p', xs, ev, op, h, z, r, np⟩ := S.slots i _ (of_lookOwn e)
  rw [hp] at hv
  cases hv
  cases ev
  exact ⟨xs, op, h, z, r, np⟩
theorem p_ixOwn {i : Nat} {a b : Expr} {pos : Pos} {m : W Da} (ha : PE X a (tVar i)) (hb : PE X b (tp X.K G x m)) (hs : PlainIx b := by exact fun _ _ => rfl) : PE X (.Subscript a b pos) (tp X.K G x (eIxO i m)) := by
  refine (pe_ix (ix_list (X := X)) ha hb hs).of fun σ H Q ⟨ρ, pe, ⟨O, S⟩, q0, q⟩ => ?_
  obtain ⟨p, hp⟩ := own_slot S q0
  refine ⟨.ref p, hp, ρ, pe, ⟨O, S⟩, m.mono (fun d ρ1 q w H1 ⟨O1, S1⟩ => ?_) (fun _ _ z => z) q⟩
  obtain ⟨ds, e1, q⟩ := W.opt_wp q
  obtain ⟨r, e2, q2⟩ := W.opt_wp (o := dIdx (.lst ds) d) q
  obtain ⟨xs, op, h, z, rs, np⟩ := own_at S1 hp e1
  unfold dIdx at e2
  split at e2
  · obtain ⟨y, h1, h2⟩ := atI_rep rs e2
    exact ⟨p, xs, _, y, rfl, rep_int.mp S1.top, .inl (.inl h), h1, q2 _ _ ⟨O1, S1.pop.pushD h2⟩⟩
  · cases e2
theorem g_put {i : Nat} {a b e : Expr} {pos pos' : Pos} {m1 m2 : W Da} (ha : PE X a (tVar i)) (hb : PE X b (tp X.K G x m1)) (he : PE X e (tp X.K G x m2))
    (hx : ∀ v, assign (.Subscript a b pos) X.env v = (do
      let ov ← holding [v] (eval a X.env)
      let iv ← holding [v, ov] (eval b X.env)
      standAt pos
      holding [v, ov, iv] (setItem ov iv v)
      release [v, ov, iv] []) := by intro _; rfl)
    (hs : swapsWithSole [.Subscript a b pos] e pos'.line X.env = pure false := by rfl) (hw : swappedStores [.Subscript a b pos] e X.env = pure none := by rfl)
    (h1 : (assignEach [.Subscript a b pos] X.env).map (·.2) = [assign (.Subscript a b pos) X.env] := by rfl) : PS X (.Assign [.Subscript a b pos] e pos') (ts X.K G x (sPut i m1 m2)) :=
  (ps_asg he (pg_sub ha hb set_list hx) hs hw h1).of fun D σ H ⟨ρ, pe, S, q⟩ => by
    refine ⟨ρ, pe, S, m2.mono (fun d ρ1 q v H1 ⟨O1, S1⟩ => ?_) (fun _ _ z => z) q⟩
    obtain ⟨q0, q⟩ := q
    obtain ⟨p, hp⟩ := own_slot S1 q0
    refine ⟨.ref p, hp, ρ1, _, ⟨O1, S1⟩, m1.mono (fun k ρ2 q w H2 ⟨O2, S2⟩ => ?_) (fun _ _ z => z) q⟩
    obtain ⟨j, ds, n, e1, e2, e3, q⟩ := q
    have e1 := of_asI e1
    subst e1
    obtain ⟨xs, op, h, z, rs, np⟩ := own_at S2 hp e2
    have rv : Rep X.K (Lof G O2) H2 d v := S2.pop.top
    refine ⟨p, xs, j, n, rfl, rep_int.mp S2.top, h, by rw [rs.length]; exact e3, q σ _ ⟨O2, S2.pop.pop.change (xs := xs) (of_lookOwn e2) hp op (by rw [List.length_set]; exact z) (rs.set n rv)⟩⟩
end

/-! ### the pool, made and drawn from -/
def sPool (i : Nat) (s : Sx) : Sx := ⟨fun ρ E => ∃ ns a b c d e, lookOwn ρ i = some (poolD ns a b c d e) ∧ 0 ≤ a ∧ 0 ≤ c ∧ c < 2147483647 ∧ ns.length ≤ 1000 ∧ s.wp (ρ.set i (some .pool)) E, fun l ⟨ns, a, b, c, d, e, h1, h2, h3, h4, h5, h⟩ => ⟨ns, a, b, c, d, e, h1, h2, h3, h4, h5, s.mono l h⟩⟩
theorem poolD_reps {K : PySem.W.Frag} {L : Addr → Prop} {H : Hp} {ns : List Int} {a b c d e : Int} {xs : List V} (r : Reps K L H (poolD ns a b c d e) xs) : ∃ q, xs = [.ref q, .int a, .int b, .int c, .int d, .int e] ∧ LAt K L H q (ns.map V.int) := by
  simp only [poolD, Reps] at r
  obtain ⟨v0, x0, rfl, r0, v1, x1, rfl, r1, v2, x2, rfl, r2, v3, x3, rfl, r3, v4, x4, rfl, r4, v5, x5, rfl, r5, rfl⟩ := r
  obtain ⟨q, ys, e, hq, _, rs⟩ := rep_lst.mp r0
  rw [ints_vs rs] at hq
  exact ⟨q, by rw [e, rep_int.mp r1, rep_int.mp r2, rep_int.mp r3, rep_int.mp r4, rep_int.mp r5], hq⟩
theorem reps_poolD {K : PySem.W.Frag} {L : Addr → Prop} {H : Hp} {ns : List Int} {a b c d e : Int} {q : Addr} (h : LAt K L H q (ns.map V.int)) (hl : ns.length ≤ 1000) : Reps K L H (poolD ns a b c d e) [.ref q, .int a, .int b, .int c, .int d, .int e] := by
  simp only [poolD, Reps]
  exact ⟨_, _, rfl, rep_lst.mpr ⟨q, _, rfl, h, by rw [List.length_map, line_eq]; omega, intL_reps ns⟩, _, _, rfl, rep_int.mpr rfl, _, _, rfl, rep_int.mpr rfl, _, _, rfl, rep_int.mpr rfl, _, _, rfl, rep_int.mpr rfl, _, _, rfl, rep_int.mpr rfl, rfl⟩
section
variable {X : Cx} {G : Gc} {x : Ex → En → Prop}
theorem StO.toPool {K : PySem.W.Frag} {O : Addr → Option Tg} {σ : L2.St} {ρ : En} {pe : Pend} {H : Hp} {i : Nat} {ns : List Int} {a b c d e : Int} (S : StO K G O σ ρ pe H) (h1 : lookOwn ρ i = some (poolD ns a b c d e)) (h2 : 0 ≤ a) (h3 : 0 ≤ c) (h4 : c < 2147483647) (h5 : ns.length ≤ 1000) :
    StO K G O σ (ρ.set i (some .pool)) pe H := by
  obtain ⟨v, hv, p, xs, ev, op, hp, z, rs, np⟩ := S.slots i _ (of_lookOwn h1)
  obtain ⟨q, rfl, hq⟩ := poolD_reps rs
  refine ⟨S.frame, S.own, S.pools, by simpa using S.len, fun j cc ej => ?_, S.pends⟩
  rcases getset ej with ⟨e1, e2, hl⟩ | ⟨nj, ej⟩
  · subst e1
    cases e2
    exact ⟨v, hv, p, ev, op, q, ns, a, b, c, d, e, hp, hq, h2, h3, h4, h5⟩
  · exact S.slots j cc ej
theorem ss_pool {st : List Stmt} {s : Sx} (i : Nat) (h : PSs X st (ts X.K G x s)) : PSs X st (ts X.K G x (sPool i s)) := h.of fun D σ H ⟨ρ, pe, ⟨O, S⟩, ns, a, b, c, d, e, h1, h2, h3, h4, h5, q⟩ => ⟨_, pe, ⟨O, S.toPool h1 h2 h3 h4 h5⟩, q⟩
end

/-! ### a def that hands out a new list: return e -/
def spO (K : PySem.W.Frag) (n : Nat) (F : List Da → (List Da → Prop) → Prop) : Sp := fun vs H Q _ => ∃ (La : Addr → Prop) (ds : List Da), ds.length = n ∧ Reps K La H ds vs ∧
  F ds (fun es => ∀ p xs H', H p = none → (∀ b x, H b = some x → H' b = some x) → H' p = some (.lst xs) → es.length ≤ sizeLine → Reps K (fun c => (La c ∨ H c = none) ∧ c ≠ p) H' es xs → Q (.ref p) H')
theorem spO_len {K : PySem.W.Frag} {n : Nat} {F : List Da → (List Da → Prop) → Prop} : ∀ vs H Q E, spO K n F vs H Q E → vs.length = n := fun vs H Q E ⟨_, ds, l, r, _⟩ => r.length.trans l
theorem okO {P : Program} {w : World} {K : PySem.W.Frag} {mg : Str → Option Value} {base : Heap} {x qual : Str} {st : Stmt} {f : Addr} {fd : FuncData} {N ps : List Str} {k n : Nat} {F : List Da → (List Da → Prop) → Prop} {e : Expr} {pos : Pos} {m : W (List Da)} (Fu : Fun K x qual st f fd) (S : FnScope N ps (defScope st)) (hn : ps.length = n)
    (hst : defBody st = [.Return (some e) pos])
    (hb : ∀ (cdv : Value) (A : Around) (outer : List Env) (s : Shared) (H : Hp) (E : XK) (G : Gc) (xw : Ex → En → Prop), Room k (A.deeper (envOfC qual (defScope st) s.heap.objs.size f cdv)) →
      XOk (cxOf (L2.CX P w) P w K mg base N qual (defScope st) f cdv A outer s H E) G xw → PE (cxOf (L2.CX P w) P w K mg base N qual (defScope st) f cdv A outer s H E) e (tow K G xw m))
    (hw : ∀ ds k, ds.length = n → F ds k → m.wp (startE N.length ds) (fun es _ => k es) noEx) : FnOk P w K mg base (L2.CX P w) (k + 1) f fd ps (spO K n F) := by
  refine Fu.okX S (fun vs H Q E h => (spO_len vs H Q E h).trans hn.symm) fun cdv A outer s H vs Q E hr ⟨La, ds, l, r, q⟩ => ?_
  rw [hst]
  refine ⟨_, pss_one (ps_ret (hb cdv A outer s H E ⟨H, fun _ => False, La, none, SetTO P w⟩ noEx hr (XOk.no rfl))), ?_⟩
  have hle := scope_le S
  have hvl := r.length
  refine ⟨startE N.length ds, [], ⟨fun _ => none, ⟨fun b y e _ => ⟨e, rfl⟩, fun p t e => (by cases e), fun p h => h.elim, ?_, fun i c e => ?_, trivial⟩⟩, m.mono (fun es ρ q v H' ⟨O, S'⟩ => ?_) (fun _ _ z => z) (hw ds _ l q)⟩
  · rw [startE_len (by omega), start_len (by omega)]
  · obtain ⟨d, h1, rfl⟩ := startE_get e
    obtain ⟨v, h2, h3⟩ := r.getD h1
    exact ⟨v, start_get h2, Rep.mono (fun _ _ e _ => e) (fun _ _ _ z => ⟨rfl, .inl z⟩) _ _ h3⟩
  · obtain ⟨p, xs, ev, op, hp, z, rs, np⟩ := S'.pends.1
    subst ev
    have h0 : H p = none := by
      cases e : H p with
      | none => rfl
      | some o =>
        have z := (S'.frame p o e fun h => h).2
        rw [op] at z
        cases z
    exact q p xs H' h0 (fun b y z => (S'.frame b y z fun h => h).1) hp z (Reps.mono (fun _ _ e _ => e) (fun b _ _ z => ⟨z.2, fun e => by
      have z1 := z.1
      rw [e, op] at z1
      cases z1⟩) _ _ rs)
/-- f(..) that hands out a new list -/
def eCallO (F : List Da → (List Da → Prop) → Prop) (hF : ∀ as k k', (∀ d, k d → k' d) → F as k → F as k') (n : Nat) (a : W (List Da)) : W (List Da) := a.bind fun ds => (W.req (ds.length = n)).bind fun _ => ⟨fun ρ k x => F ds (fun es => k es ρ), fun hk hx h => hF _ _ _ (fun es q => hk _ _ q) h⟩
section
variable {X : Cx} {G : Gc} {x : Ex → En → Prop} {k : Nat} {f : Addr} {fd : FuncData} {ps : List Str} {n : Nat} {nm : Str} {p pos : Pos} {e : Expr} {es : List Expr} {ma : W (List Da)} {F : List Da → (List Da → Prop) → Prop}
theorem StO.pushH {K : PySem.W.Frag} {O : Addr → Option Tg} {σ : L2.St} {ρ : En} {pe : Pend} {H H' : Hp} {p : Addr} {ds : List Da} {xs : List V} (S : StO K G O σ ρ pe H) (np : H p = none) (kk : ∀ b x, H b = some x → H' b = some x) (hp : H' p = some (.lst xs)) (z : ds.length ≤ sizeLine)
    (r : Reps K (fun c => (Lof G O c ∨ H c = none) ∧ c ≠ p) H' ds xs) : StO K G (own1 O p pe.length) σ ρ ((.ref p, .own ds) :: pe) H' := by
  have ne : ∀ {b : Addr} {u : HO}, H b = some u → b ≠ p := fun {b u} e => ne_of_none e np
  have hk : Keep (Lof G O) H H' := fun b u e _ => kk b u e
  have l1 : ∀ {b}, Lof G O b → b ≠ p → Lof G (own1 O p pe.length) b := fun {b} h n => ⟨(if_neg n).trans (clr_none h.1), h.2⟩
  have hl : ∀ b u, H b = some u → Lof G O b → Lof G (own1 O p pe.length) b := fun b u e h => l1 h (ne e)
  have ow : ∀ {q t}, O q = some t → t ≠ .pend pe.length → H' q = H q ∧ own1 O p pe.length q = some t := fun {q t} e n => by
    obtain ⟨u, hu, _⟩ := S.own q t e
    exact ⟨(kk q u hu).trans hu.symm, (if_neg (ne hu)).trans (clr_ne e n)⟩
  refine ⟨fun b u e n => ?_, fun q t h => ?_, fun q hq => ?_, S.len, fun i c e => ?_, ⟨p, xs, rfl, own1_at, hp, z, Reps.mono (fun _ _ e _ => e) (fun b _ _ z => ?_) _ _ r, S.notP (o := .lst []) np⟩, ?_⟩
  · obtain ⟨h1, h2⟩ := S.frame b u e n
    exact ⟨kk b u h1, (if_neg (ne h1)).trans (clr_none h2)⟩
  · by_cases e : q = p
    · subst e
      exact ⟨_, hp, trivial⟩
    · unfold own1 at h
      rw [if_neg e] at h
      obtain ⟨u, hu, c⟩ := S.own q t (of_clr h).1
      exact ⟨u, kk q u hu, c⟩
  · obtain ⟨h, n⟩ := S.pools q hq
    have h' := h
    obtain ⟨_, _, _, _, _, _, _, e, _⟩ := h'
    exact ⟨h.mono hk hl (by rw [e]; exact kk _ _ e), n⟩
  · obtain ⟨w, h1, h2⟩ := S.slots i c e
    exact ⟨w, h1, h2.mono hk hl fun q e => ow e (fun z => by cases z)⟩
  · exact z.1.elim (fun z1 => l1 z1 z.2) (fun z1 => l1 (S.fresh z1) z.2)
  · exact S.pends.mono hk hl fun j hj q e => ow e (fun z => by cases z; omega)
theorem p_callO {hF} (fo : FnOk X.prog X.w X.K X.mg X.base (L2.CX X.prog X.w) k f fd ps (spO X.K n F)) (hr : Room k X.A) (hg : Gl X nm) (hm : X.mg nm = some (.ref f)) (hk : PySem.W.keepIn X.K (.ref f) = true) (hb : Binds X.K fd ps [])
    (ha : PA X (e :: es) (tar X.K G x ma)) (hdb : (nm == ("__debug__" : Str)) = false := by decide) (he : starEach (e :: es) X.env = (false, eval e X.env) :: starEach es X.env := by rfl) (hpl : (backTo pos (starEach es X.env)).any (·.1) = false := by rfl) :
    PE X (.Call (.Name nm p) (e :: es) [] pos) (tow X.K G x (eCallO F hF n ma)) :=
  (pe_call fo hr hg hm hk hb .nil passL ha hdb he hpl).of fun σ H Q ⟨ρ, pe, S, q⟩ => by
    refine ⟨ρ, pe, S, ma.mono (fun ds ρ1 ⟨hl, q⟩ vs H1 l ⟨O, S1⟩ => ?_) (fun _ _ z => z) q⟩
    obtain ⟨S2, rs⟩ := pushAll_pop l S1
    show spO X.K n F (vs ++ []) H1 Q E0
    rw [List.append_nil]
    exact ⟨Lof G O, ds, hl, rs, hF _ _ _ (fun es q p xs H' np kk hp z r => q _ H' ⟨_, S2.pushH np kk hp z r⟩) q⟩
end

/-! ### the pool in slot i, opened -/
def lookP (ρ : En) (i : Nat) : Option (List Da) := match ρ[i]? with
  | some (some (.plv po)) => some po
  | _ => none
theorem of_lookP {ρ : En} {i : Nat} {po : List Da} (h : lookP ρ i = some po) : ρ[i]? = some (some (.plv po)) := by
  unfold lookP at h
  split at h
  · cases h; assumption
  · cases h
def eIxP (i : Nat) (m : W Da) : W Da := W.env.bind fun ρ0 => (W.req ((lookP ρ0 i).isSome = true)).bind fun _ => m.bind fun d => W.env.bind fun ρ => (W.opt (lookP ρ i)).bind fun ds => W.opt (dIdx (.lst ds) d)
def sPutP (i : Nat) (m1 m2 : W Da) : Sx := ⟨fun ρ E => m2.wp ρ (fun d ρ1 => (lookP ρ1 i).isSome = true ∧ m1.wp ρ1 (fun k ρ2 => ∃ j ds n, asI k = some j ∧ lookP ρ2 i = some ds ∧ ixN ds.length j = some n ∧ PoolOk (ds.set n d) ∧ E.nx (ρ2.set i (some (.plv (ds.set n d))))) E.ex) E.ex,
  fun l h => m2.mono (fun d ρ1 q => ⟨q.1, m1.mono (fun k ρ2 ⟨j, ds, n, e1, e2, e3, e4, q⟩ => ⟨j, ds, n, e1, e2, e3, e4, l.nx _ q⟩) l.ex q.2⟩) l.ex h⟩
def sOpen (i : Nat) (s : Sx) : Sx := ⟨fun ρ E => ρ[i]? = some (some .pool) ∧ ∀ po, PoolOk po → s.wp (ρ.set i (some (.plv po))) E, fun l h => ⟨h.1, fun po ok => s.mono l (h.2 po ok)⟩⟩
section
variable {X : Cx} {G : Gc} {x : Ex → En → Prop}
theorem plv_at {K : PySem.W.Frag} {O : Addr → Option Tg} {σ : L2.St} {ρ : En} {pe : Pend} {H : Hp} {i : Nat} {p : Addr} {ds : List Da} (S : StO K G O σ ρ pe H) (hp : σ[i]? = some (some (.ref p))) (e : lookP ρ i = some ds) :
    ∃ xs, O p = some (.slot i) ∧ H p = some (.lst xs) ∧ Reps K (Lof G O) H ds xs ∧ PoolOk ds := by
  obtain ⟨v, hv, p', xs, ev, op, h, r, ok⟩ := S.slots i _ (of_lookP e)
  rw [hp] at hv
  cases hv
  cases ev
  exact ⟨xs, op, h, r, ok⟩
theorem plv_slot {K : PySem.W.Frag} {O : Addr → Option Tg} {σ : L2.St} {ρ : En} {pe : Pend} {H : Hp} {i : Nat} (S : StO K G O σ ρ pe H) (h : (lookP ρ i).isSome = true) : ∃ p, σ[i]? = some (some (.ref p)) := by
  obtain ⟨ds, e⟩ := Option.isSome_iff_exists.mp h
  obtain ⟨v, hv, p, xs, ev, _⟩ := S.slots i _ (of_lookP e)
  exact ⟨p, by rw [hv, ev]⟩
theorem p_ixP {i : Nat} {a b : Expr} {pos : Pos} {m : W Da} (ha : PE X a (tVar i)) (hb : PE X b (tp X.K G x m)) (hs : PlainIx b := by exact fun _ _ => rfl) : PE X (.Subscript a b pos) (tp X.K G x (eIxP i m)) := by
  refine (pe_ix (ix_list (X := X)) ha hb hs).of fun σ H Q ⟨ρ, pe, ⟨O, S⟩, q0, q⟩ => ?_
  obtain ⟨p, hp⟩ := plv_slot S q0
  refine ⟨.ref p, hp, ρ, pe, ⟨O, S⟩, m.mono (fun d ρ1 q w H1 ⟨O1, S1⟩ => ?_) (fun _ _ z => z) q⟩
  obtain ⟨ds, e1, q⟩ := W.opt_wp q
  obtain ⟨r, e2, q2⟩ := W.opt_wp (o := dIdx (.lst ds) d) q
  obtain ⟨xs, op, h, rs, _⟩ := plv_at S1 hp e1
  unfold dIdx at e2
  split at e2
  · obtain ⟨y, h1, h2⟩ := atI_rep rs e2
    exact ⟨p, xs, _, y, rfl, rep_int.mp S1.top, .inl (.inl h), h1, q2 _ _ ⟨O1, S1.pop.pushD h2⟩⟩
  · cases e2
theorem pool_of {K : PySem.W.Frag} {L : Addr → Prop} {H : Hp} {po : List Da} {xs : List V} {p : Addr} (hp : H p = some (.lst xs)) (r : Reps K L H po xs) (ok : PoolOk po) : PoolAt K L H p := by
  obtain ⟨ns, a, b, c, d, e, rfl, h1, h2, h3, h4⟩ := ok
  obtain ⟨q, rfl, hq⟩ := poolD_reps r
  exact ⟨q, ns, a, b, c, d, e, hp, hq, h1, h2, h3, h4⟩
theorem StO.changeP {K : PySem.W.Frag} {O : Addr → Option Tg} {σ : L2.St} {ρ : En} {pe : Pend} {H : Hp} {ds es : List Da} {i : Nat} {p : Addr} {ys : List V} (S : StO K G O σ ρ pe H) (h : lookP ρ i = some ds) (hv : σ[i]? = some (some (.ref p)))
    (ok : PoolOk es) (r : Reps K (Lof G O) H es ys) : StO K G O σ (ρ.set i (some (.plv es))) pe (upd H p (.lst ys)) := by
  obtain ⟨xs, op, hp, _, _⟩ := plv_at S hv h
  have hk : Keep (Lof G O) H (upd H p (.lst ys)) := fun b x e k => by
    rw [upd_ne]
    · exact e
    · rintro rfl
      rcases k with k | k
      · have k1 := k.1
        rw [op] at k1
        cases k1
      · rw [hp] at e
        cases e
        exact k trivial
  have hl : ∀ b x, H b = some x → Lof G O b → Lof G O b := fun _ _ _ h => h
  have r' : Reps K (Lof G O) (upd H p (.lst ys)) es ys := Reps.mono hk hl _ _ r
  refine ⟨fun b x e n => ⟨?_, (S.frame b x e n).2⟩, fun q t h => ?_, fun q hq => ?_, by simpa using S.len, fun j c h => ?_, ?_⟩
  · rw [upd_ne]
    · exact (S.frame b x e n).1
    · rintro rfl
      rw [(S.frame b x e n).2] at op
      cases op
  · by_cases e : q = p
    · subst e
      exact ⟨_, upd_same, trivial⟩
    · rw [upd_ne e]
      exact S.own q t h
  · obtain ⟨h1, h2⟩ := S.pools q hq
    by_cases e : q = p
    · subst e
      exact ⟨pool_of upd_same r' ok, h2⟩
    · exact ⟨h1.mono hk hl (upd_ne e), h2⟩
  · rcases getset h with ⟨e1, e2, _⟩ | ⟨n, h⟩
    · subst e1
      cases e2
      exact ⟨_, hv, p, ys, rfl, op, upd_same, r', ok⟩
    · obtain ⟨w, h1, h2⟩ := S.slots j c h
      exact ⟨w, h1, h2.mono hk hl (fun q e => ⟨upd_ne (fun q' => by
        rw [q', op] at e
        cases e
        exact n rfl), e⟩)⟩
  · exact S.pends.mono hk hl (fun j hj q e => ⟨upd_ne (fun q' => by
      rw [q', op] at e
      cases e), e⟩)
theorem g_putP {i : Nat} {a b e : Expr} {pos pos' : Pos} {m1 m2 : W Da} (ha : PE X a (tVar i)) (hb : PE X b (tp X.K G x m1)) (he : PE X e (tp X.K G x m2))
    (hx : ∀ v, assign (.Subscript a b pos) X.env v = (do
      let ov ← holding [v] (eval a X.env)
      let iv ← holding [v, ov] (eval b X.env)
      standAt pos
      holding [v, ov, iv] (setItem ov iv v)
      release [v, ov, iv] []) := by intro _; rfl)
    (hs : swapsWithSole [.Subscript a b pos] e pos'.line X.env = pure false := by rfl) (hw : swappedStores [.Subscript a b pos] e X.env = pure none := by rfl)
    (h1 : (assignEach [.Subscript a b pos] X.env).map (·.2) = [assign (.Subscript a b pos) X.env] := by rfl) : PS X (.Assign [.Subscript a b pos] e pos') (ts X.K G x (sPutP i m1 m2)) :=
  (ps_asg he (pg_sub ha hb set_list hx) hs hw h1).of fun D σ H ⟨ρ, pe, S, q⟩ => by
    refine ⟨ρ, pe, S, m2.mono (fun d ρ1 q v H1 ⟨O1, S1⟩ => ?_) (fun _ _ z => z) q⟩
    obtain ⟨q0, q⟩ := q
    obtain ⟨p, hp⟩ := plv_slot S1 q0
    refine ⟨.ref p, hp, ρ1, _, ⟨O1, S1⟩, m1.mono (fun k ρ2 q w H2 ⟨O2, S2⟩ => ?_) (fun _ _ z => z) q⟩
    obtain ⟨j, ds, n, e1, e2, e3, e4, q⟩ := q
    have e1 := of_asI e1
    subst e1
    obtain ⟨xs, op, h, rs, ok⟩ := plv_at S2 hp e2
    have rv : Rep X.K (Lof G O2) H2 d v := S2.pop.top
    refine ⟨p, xs, j, n, rfl, rep_int.mp S2.top, h, by rw [rs.length]; exact e3, q σ _ ⟨O2, S2.pop.pop.changeP e2 hp e4 (rs.set n rv)⟩⟩
theorem ss_open {st : List Stmt} {s : Sx} (i : Nat) (h : PSs X st (ts X.K G x s)) : PSs X st (ts X.K G x (sOpen i s)) := h.of fun D σ H ⟨ρ, pe, ⟨O, S⟩, h0, q⟩ => by
  obtain ⟨v, hv, p, ev, op, q0, ns, a, b, c, d, e, hp, hq, h1, h2, h3, h4⟩ := S.slots i _ h0
  refine ⟨_, pe, ⟨O, S.frame, S.own, S.pools, by simpa using S.len, fun j cc ej => ?_, S.pends⟩, q (poolD ns a b c d e) ⟨ns, a, b, c, d, e, rfl, h1, h2, h3, h4⟩⟩
  rcases getset ej with ⟨e1, e2, hl⟩ | ⟨nj, ej⟩
  · subst e1
    cases e2
    exact ⟨v, hv, p, _, ev, op, hp, reps_poolD hq h4, ns, a, b, c, d, e, rfl, h1, h2, h3, h4⟩
  · exact S.slots j cc ej
end
end Pu
end

section
set_option maxHeartbeats 4000000
namespace K00
open PySem PySem.Spec PyProof.Rows L2 Pu
def topS (i : Nat) : Stmt := PySem.Challenge.pw_coresprice_k00_whole_clauses.main.body.getD i (.Pass ⟨0, 0, 0, 0⟩)
theorem units_of {A : Around} {k n : Nat} (hr : Room k A) (h : n ≤ 200) : A.units + n < cLine := by
  have := hr.un
  omega

abbrev s_ordered : Stmt := topS 5
abbrev N_ordered : List Str := [(PySem.Str.ofString "literals"), (PySem.Str.ofString "own"), (PySem.Str.ofString "literal")]
theorem sc_ordered : FnScope N_ordered [(PySem.Str.ofString "literals")] (defScope s_ordered) := ⟨rfl, rfl, rfl, by decide +kernel, rfl, by decide +kernel, by decide +kernel⟩
def S_ordered  : Sx := sRet (eFrz (eLC [1] (iSeq (eFrz (eSortS (eSC [2] (iSeq (eVar 0)) (.name 2) bYes (eTup (eCons (eOpN dAbs (eCons (eVar 2) (eNil))) (eCons (eOp2 dLt (eVar 2) (eC (.int 0))) (eCons (eVar 2) (eNil))))))))) (.name 1) bYes (eIdx (eVar 1) (eC (.int 2)))))
theorem ok_ordered {P : Program} {w : World} {K : PySem.W.Frag} {mg : Str → Option Value} {base : Heap} {a0 : Addr} {d0 : FuncData}  {F : Fn} (Fu : Fun K (PySem.Str.ofString "ordered") (PySem.Str.ofString "ordered") s_ordered a0 d0) (m_sorted : mg (PySem.Str.ofString "sorted") = none) (m_abs : mg (PySem.Str.ofString "abs") = none) (hw : Keeps 1 N_ordered.length F (S_ordered )) : FnOk P w K mg base (L2.CX P w) (0 + 1) a0 d0 [(PySem.Str.ofString "literals")] (spD K mg 1 F) :=
  okD Fu sc_ordered rfl (fun cdv A outer s H E G xw hr xo => have nd := sc_ordered.nd; (ss_one (s_ret (p_frz (p_lc rfl nd (i_seq (p_frz (p_sortS xo.so (units_of hr (by decide)) rfl (by rfl) m_sorted (p_sc xo.so (units_of hr (by decide)) rfl nd (i_seq (p_var 0 (pv 0))) (blkOk_by (own := [((PySem.Str.ofString "literal"), 2)]) (N := N_ordered) (sc := defScope (s_ordered)) (by decide +kernel)) (fun _ _ _ _ _ => (g_name 2 (pg_name (i := 2) nd rfl (by first | exact .inl rfl | exact .inr rfl)))) (fun _ _ _ _ _ => ts_nil) (fun _ _ _ _ _ => (p_tup (pa_cons' (p_callB call_abs f_abs (by rfl) m_abs rfl (pa_cons' (p_var 2 (pv 2)) pa_nil')) (pa_cons' (p_cmp op_lt f_lt (p_var 2 (pv 2)) p_int (by first | exact nomark _ | rfl)) (pa_cons' (p_var 2 (pv 2)) pa_nil'))))) (by decide))))) (blkOk_by (own := [((PySem.Str.ofString "own"), 1)]) (N := N_ordered) (sc := defScope (s_ordered)) (by decide +kernel)) (fun _ _ _ _ _ => (g_name 1 (pg_name (i := 1) nd rfl (by first | exact .inl rfl | exact .inr rfl)))) (fun _ _ _ _ _ => ts_nil) (fun _ _ _ _ _ => (p_idx (p_var 1 (pv 1)) p_int)) (by decide)))))) hw
abbrev s_clause_of : Stmt := topS 6
abbrev N_clause_of : List Str := [(PySem.Str.ofString "literals"), (PySem.Str.ofString "found"), (PySem.Str.ofString "literal"), (PySem.Str.ofString "one"), (PySem.Str.ofString "two")]
theorem sc_clause_of : FnScope N_clause_of [(PySem.Str.ofString "literals")] (defScope s_clause_of) := ⟨rfl, rfl, rfl, by decide +kernel, rfl, by decide +kernel, by decide +kernel⟩
def S_clause_of (F_ordered : Fn) : Sx := sSeq (sSet 1 (eCall F_ordered 1 (eCons (eVar 0) (eNil)))) (sSeq (sIf (bNot (bT (eOpN dAll (eCons (eFrz (eLC [2] (iSeq (eVar 1)) (.name 2) bYes (eAnd (eOp2 dNe (eVar 2) (eC (.int 0))) (eOp2 dLe (eOpN dAbs (eCons (eVar 2) (eNil))) (eC (.int 1000000)))))) (eNil))))) (sRaise (PySem.Str.ofString "BadClause") (PySem.Str.ofString "what") (eC (.str (PySem.Str.ofString "literal")))) (sPass)) (sSeq (sIf (bT (eOpN dAny (eCons (eFrz (eLC [3, 4] (iZip (eVar 1) (eSl (eVar 1) (oSome (eC (.int 1))) (oNone))) (.tup [.name 3, .name 4]) bYes (eOp2 dEq (eOpN dAbs (eCons (eVar 3) (eNil))) (eOpN dAbs (eCons (eVar 4) (eNil)))))) (eNil)))) (sRaise (PySem.Str.ofString "BadClause") (PySem.Str.ofString "what") (eC (.str (PySem.Str.ofString "opposites")))) (sPass)) (sRet (eOpN dTuple (eCons (eVar 1) (eNil))))))
theorem ok_clause_of {P : Program} {w : World} {K : PySem.W.Frag} {mg : Str → Option Value} {base : Heap} {a0 : Addr} {d0 : FuncData} (F_ordered : Fn) {F : Fn} (Fu : Fun K (PySem.Str.ofString "clause_of") (PySem.Str.ofString "clause_of") s_clause_of a0 d0) (m_any : mg (PySem.Str.ofString "any") = none) (m_tuple : mg (PySem.Str.ofString "tuple") = none) (m_all : mg (PySem.Str.ofString "all") = none) (m_abs : mg (PySem.Str.ofString "abs") = none) (m_zip : mg (PySem.Str.ofString "zip") = none) {tk_MOST_VARIABLE : Tok} (m_MOST_VARIABLE : mg (PySem.Str.ofString "MOST_VARIABLE") = some (.int 1000000 tk_MOST_VARIABLE)) {a_ordered : Addr} {d_ordered : FuncData} (fordered : FnOk P w K mg base (L2.CX P w) 1 a_ordered d_ordered [(PySem.Str.ofString "literals")] (spD K mg 1 F_ordered)) (gordered : mg (PySem.Str.ofString "ordered") = some (.ref a_ordered)) (kordered : PySem.W.keepIn K (.ref a_ordered) = true) (bordered : Binds K d_ordered [(PySem.Str.ofString "literals")] []) {C_BadClause a_BadClause : Addr} {d_BadClause : FuncData} (oBadClause : OexC K C_BadClause) (iBadClause : PySem.W.findIn K (.ref C_BadClause) "__init__" = some (some (.ref a_BadClause))) (tBadClause : PySem.W.typeIn K (.ref a_BadClause) = some (.type "function")) (FBadClause : FnOk P w K mg base (L2.CX P w) 1 a_BadClause d_BadClause [(PySem.Str.ofString "self"), (PySem.Str.ofString "what")] (Ex.spI K C_BadClause (PySem.Str.ofString "what"))) (bBadClause : Binds K d_BadClause [(PySem.Str.ofString "self"), (PySem.Str.ofString "what")] []) (gBadClause : mg (PySem.Str.ofString "BadClause") = some (.ref C_BadClause)) (hw : Keeps 1 N_clause_of.length F (S_clause_of F_ordered)) : FnOk P w K mg base (L2.CX P w) (2 + 1) a0 d0 [(PySem.Str.ofString "literals")] (spD K mg 1 F) :=
  okD Fu sc_clause_of rfl (fun cdv A outer s H E G xw hr xo => have nd := sc_clause_of.nd; (ss_cons (s_set (i := 1) nd rfl (by first | exact .inl rfl | exact .inr rfl) (p_call xo (fordered.mono (by first | decide | exact Nat.le_refl _)) (hr.mono (by first | decide | exact Nat.le_refl _)) (by rfl) gordered kordered bordered (pa_cons' (p_var 0 (pv 0)) pa_nil'))) (ss_cons (s_if (t_not (t_truth (p_callB (cr_all rfl) f_all (by rfl) m_all rfl (pa_cons' (p_frz (p_lc rfl nd (i_seq (p_var 1 (pv 1))) (blkOk_by (own := [((PySem.Str.ofString "literal"), 2)]) (N := N_clause_of) (sc := defScope (s_clause_of)) (by decide +kernel)) (fun _ _ _ _ _ => (g_name 2 (pg_name (i := 2) nd rfl (by first | exact .inl rfl | exact .inr rfl)))) (fun _ _ _ _ _ => ts_nil) (fun _ _ _ _ _ => (p_and (p_cmp (op_neD (units_of hr (by decide))) f_ne (p_var 2 (pv 2)) p_int (by first | exact nomark _ | rfl)) (p_one (p_cmp op_le f_le (p_callB call_abs f_abs (by rfl) m_abs rfl (pa_cons' (p_var 2 (pv 2)) pa_nil')) (p_const (pe_glob (v := .int 1000000) (by rfl) m_MOST_VARIABLE ⟨_, rfl⟩) fun _ _ _ => by simp [Rep]) (by first | exact nomark _ | rfl))))) (by decide))) pa_nil')))) (ss_one (s_raise xo rfl oBadClause iBadClause tBadClause (FBadClause.mono (by first | decide | exact Nat.le_refl _)) (hr.mono (by first | decide | exact Nat.le_refl _)) bBadClause (by rfl) gBadClause p_str)) ss_nil) (ss_cons (s_if (t_truth (p_callB (cr_any rfl) f_any (by rfl) m_any rfl (pa_cons' (p_frz (p_lc rfl nd (i_zip (by rfl) m_zip (p_var 1 (pv 1)) (p_sl (p_var 1 (pv 1)) (o_some p_int) o_none)) (blkOk_by (own := [((PySem.Str.ofString "one"), 3), ((PySem.Str.ofString "two"), 4)]) (N := N_clause_of) (sc := defScope (s_clause_of)) (by decide +kernel)) (fun _ _ _ _ _ => (g_tup rfl (gs_cons (g_name 3 (pg_name (i := 3) nd rfl (by first | exact .inl rfl | exact .inr rfl))) (gs_cons (g_name 4 (pg_name (i := 4) nd rfl (by first | exact .inl rfl | exact .inr rfl))) gs_nil)))) (fun _ _ _ _ _ => ts_nil) (fun _ _ _ _ _ => (p_cmp (op_eqD (units_of hr (by decide))) f_eq (p_callB call_abs f_abs (by rfl) m_abs rfl (pa_cons' (p_var 3 (pv 3)) pa_nil')) (p_callB call_abs f_abs (by rfl) m_abs rfl (pa_cons' (p_var 4 (pv 4)) pa_nil')) (by first | exact nomark _ | rfl))) (by decide))) pa_nil'))) (ss_one (s_raise xo rfl oBadClause iBadClause tBadClause (FBadClause.mono (by first | decide | exact Nat.le_refl _)) (hr.mono (by first | decide | exact Nat.le_refl _)) bBadClause (by rfl) gBadClause p_str)) ss_nil) (ss_one (s_ret (p_callTy call_tuple_of f_tuple (by rfl) m_tuple rfl (pa_cons' (p_var 1 (pv 1)) pa_nil')))))))) hw
abbrev s_is_clause : Stmt := topS 7
abbrev N_is_clause : List Str := [(PySem.Str.ofString "clause"), (PySem.Str.ofString "count"), (PySem.Str.ofString "literal"), (PySem.Str.ofString "one"), (PySem.Str.ofString "two")]
theorem sc_is_clause : FnScope N_is_clause [(PySem.Str.ofString "clause"), (PySem.Str.ofString "count")] (defScope s_is_clause) := ⟨rfl, rfl, rfl, by decide +kernel, rfl, by decide +kernel, by decide +kernel⟩
def S_is_clause  : Sx := sSeq (sIf (bNot (bT (eOpN dAll (eCons (eFrz (eLC [2] (iSeq (eVar 0)) (.name 2) bYes (eAnd (eOp2 dNe (eVar 2) (eC (.int 0))) (eOp2 dLe (eOpN dAbs (eCons (eVar 2) (eNil))) (eVar 1))))) (eNil))))) (sRet (eC (.bl false))) (sPass)) (sRet (eOpN dAll (eCons (eFrz (eLC [3, 4] (iZip (eVar 0) (eSl (eVar 0) (oSome (eC (.int 1))) (oNone))) (.tup [.name 3, .name 4]) bYes (eOp2 dLt (eOpN dAbs (eCons (eVar 3) (eNil))) (eOpN dAbs (eCons (eVar 4) (eNil)))))) (eNil))))
theorem ok_is_clause {P : Program} {w : World} {K : PySem.W.Frag} {mg : Str → Option Value} {base : Heap} {a0 : Addr} {d0 : FuncData}  {F : Fn} (Fu : Fun K (PySem.Str.ofString "is_clause") (PySem.Str.ofString "is_clause") s_is_clause a0 d0) (m_all : mg (PySem.Str.ofString "all") = none) (m_abs : mg (PySem.Str.ofString "abs") = none) (m_zip : mg (PySem.Str.ofString "zip") = none) (hw : Keeps 2 N_is_clause.length F (S_is_clause )) : FnOk P w K mg base (L2.CX P w) (0 + 1) a0 d0 [(PySem.Str.ofString "clause"), (PySem.Str.ofString "count")] (spD K mg 2 F) :=
  okD Fu sc_is_clause rfl (fun cdv A outer s H E G xw hr xo => have nd := sc_is_clause.nd; (ss_cons (s_if (t_not (t_truth (p_callB (cr_all rfl) f_all (by rfl) m_all rfl (pa_cons' (p_frz (p_lc rfl nd (i_seq (p_var 0 (pv 0))) (blkOk_by (own := [((PySem.Str.ofString "literal"), 2)]) (N := N_is_clause) (sc := defScope (s_is_clause)) (by decide +kernel)) (fun _ _ _ _ _ => (g_name 2 (pg_name (i := 2) nd rfl (by first | exact .inl rfl | exact .inr rfl)))) (fun _ _ _ _ _ => ts_nil) (fun _ _ _ _ _ => (p_and (p_cmp (op_neD (units_of hr (by decide))) f_ne (p_var 2 (pv 2)) p_int (by first | exact nomark _ | rfl)) (p_one (p_cmp op_le f_le (p_callB call_abs f_abs (by rfl) m_abs rfl (pa_cons' (p_var 2 (pv 2)) pa_nil')) (p_var 1 (pv 1)) (by first | exact nomark _ | rfl))))) (by decide))) pa_nil')))) (ss_one (s_ret p_bl)) ss_nil) (ss_one (s_ret (p_callB (cr_all rfl) f_all (by rfl) m_all rfl (pa_cons' (p_frz (p_lc rfl nd (i_zip (by rfl) m_zip (p_var 0 (pv 0)) (p_sl (p_var 0 (pv 0)) (o_some p_int) o_none)) (blkOk_by (own := [((PySem.Str.ofString "one"), 3), ((PySem.Str.ofString "two"), 4)]) (N := N_is_clause) (sc := defScope (s_is_clause)) (by decide +kernel)) (fun _ _ _ _ _ => (g_tup rfl (gs_cons (g_name 3 (pg_name (i := 3) nd rfl (by first | exact .inl rfl | exact .inr rfl))) (gs_cons (g_name 4 (pg_name (i := 4) nd rfl (by first | exact .inl rfl | exact .inr rfl))) gs_nil)))) (fun _ _ _ _ _ => ts_nil) (fun _ _ _ _ _ => (p_cmp op_lt f_lt (p_callB call_abs f_abs (by rfl) m_abs rfl (pa_cons' (p_var 3 (pv 3)) pa_nil')) (p_callB call_abs f_abs (by rfl) m_abs rfl (pa_cons' (p_var 4 (pv 4)) pa_nil')) (by first | exact nomark _ | rfl))) (by decide))) pa_nil')))))) hw
abbrev s_is_true : Stmt := topS 8
abbrev N_is_true : List Str := [(PySem.Str.ofString "literal"), (PySem.Str.ofString "values")]
theorem sc_is_true : FnScope N_is_true [(PySem.Str.ofString "literal"), (PySem.Str.ofString "values")] (defScope s_is_true) := ⟨rfl, rfl, rfl, by decide +kernel, rfl, by decide +kernel, by decide +kernel⟩
def S_is_true  : Sx := sRet (eOp2 dEq (eIdx (eVar 1) (eOp2 dSub (eOpN dAbs (eCons (eVar 0) (eNil))) (eC (.int 1)))) (eOpN dInt (eCons (eOp2 dGt (eVar 0) (eC (.int 0))) (eNil))))
theorem ok_is_true {P : Program} {w : World} {K : PySem.W.Frag} {mg : Str → Option Value} {base : Heap} {a0 : Addr} {d0 : FuncData}  {F : Fn} (Fu : Fun K (PySem.Str.ofString "is_true") (PySem.Str.ofString "is_true") s_is_true a0 d0) (m_int : mg (PySem.Str.ofString "int") = none) (m_abs : mg (PySem.Str.ofString "abs") = none) (hw : Keeps 2 N_is_true.length F (S_is_true )) : FnOk P w K mg base (L2.CX P w) (0 + 1) a0 d0 [(PySem.Str.ofString "literal"), (PySem.Str.ofString "values")] (spD K mg 2 F) :=
  okD Fu sc_is_true rfl (fun cdv A outer s H E G xw hr xo => have nd := sc_is_true.nd; (ss_one (s_ret (p_cmp (op_eqD (units_of hr (by decide))) f_eq (p_idx (p_var 1 (pv 1)) (p_op op_sub f_sub (p_callB call_abs f_abs (by rfl) m_abs rfl (pa_cons' (p_var 0 (pv 0)) pa_nil')) p_int)) (p_callTy call_int1 f_int (by rfl) m_int rfl (pa_cons' (p_cmp op_gt f_gt (p_var 0 (pv 0)) p_int (by first | exact nomark _ | rfl)) pa_nil')) (by first | exact nomark _ | rfl))))) hw
abbrev s_holds : Stmt := topS 9
abbrev N_holds : List Str := [(PySem.Str.ofString "clause"), (PySem.Str.ofString "values"), (PySem.Str.ofString "literal")]
theorem sc_holds : FnScope N_holds [(PySem.Str.ofString "clause"), (PySem.Str.ofString "values")] (defScope s_holds) := ⟨rfl, rfl, rfl, by decide +kernel, rfl, by decide +kernel, by decide +kernel⟩
def S_holds (F_is_true : Fn) : Sx := sRet (eOpN dAny (eCons (eFrz (eLC [2] (iSeq (eVar 0)) (.name 2) bYes (eCall F_is_true 2 (eCons (eVar 2) (eCons (eVar 1) (eNil)))))) (eNil)))
theorem ok_holds {P : Program} {w : World} {K : PySem.W.Frag} {mg : Str → Option Value} {base : Heap} {a0 : Addr} {d0 : FuncData} (F_is_true : Fn) {F : Fn} (Fu : Fun K (PySem.Str.ofString "holds") (PySem.Str.ofString "holds") s_holds a0 d0) (m_any : mg (PySem.Str.ofString "any") = none) {a_is_true : Addr} {d_is_true : FuncData} (fis_true : FnOk P w K mg base (L2.CX P w) 1 a_is_true d_is_true [(PySem.Str.ofString "literal"), (PySem.Str.ofString "values")] (spD K mg 2 F_is_true)) (gis_true : mg (PySem.Str.ofString "is_true") = some (.ref a_is_true)) (kis_true : PySem.W.keepIn K (.ref a_is_true) = true) (bis_true : Binds K d_is_true [(PySem.Str.ofString "literal"), (PySem.Str.ofString "values")] []) (hw : Keeps 2 N_holds.length F (S_holds F_is_true)) : FnOk P w K mg base (L2.CX P w) (1 + 1) a0 d0 [(PySem.Str.ofString "clause"), (PySem.Str.ofString "values")] (spD K mg 2 F) :=
  okD Fu sc_holds rfl (fun cdv A outer s H E G xw hr xo => have nd := sc_holds.nd; (ss_one (s_ret (p_callB (cr_any rfl) f_any (by rfl) m_any rfl (pa_cons' (p_frz (p_lc rfl nd (i_seq (p_var 0 (pv 0))) (blkOk_by (own := [((PySem.Str.ofString "literal"), 2)]) (N := N_holds) (sc := defScope (s_holds)) (by decide +kernel)) (fun _ _ _ _ _ => (g_name 2 (pg_name (i := 2) nd rfl (by first | exact .inl rfl | exact .inr rfl)))) (fun _ _ _ _ _ => ts_nil) (fun _ _ _ _ _ => (p_call (XOk.no xo.so) (fis_true.mono (by first | decide | exact Nat.le_refl _)) (hr.mono (by first | decide | exact Nat.le_refl _)) (by rfl) gis_true kis_true bis_true (pa_cons' (p_var 2 (pv 2)) (pa_cons' (p_var 1 (pv 1)) pa_nil')))) (by decide))) pa_nil'))))) hw
abbrev s_subsumes : Stmt := topS 10
abbrev N_subsumes : List Str := [(PySem.Str.ofString "one"), (PySem.Str.ofString "two"), (PySem.Str.ofString "literal")]
theorem sc_subsumes : FnScope N_subsumes [(PySem.Str.ofString "one"), (PySem.Str.ofString "two")] (defScope s_subsumes) := ⟨rfl, rfl, rfl, by decide +kernel, rfl, by decide +kernel, by decide +kernel⟩
def S_subsumes  : Sx := sRet (eOpN dAll (eCons (eFrz (eLC [2] (iSeq (eVar 0)) (.name 2) bYes (eOp2 (dIn false) (eVar 2) (eVar 1)))) (eNil)))
theorem ok_subsumes {P : Program} {w : World} {K : PySem.W.Frag} {mg : Str → Option Value} {base : Heap} {a0 : Addr} {d0 : FuncData}  {F : Fn} (Fu : Fun K (PySem.Str.ofString "subsumes") (PySem.Str.ofString "subsumes") s_subsumes a0 d0) (m_all : mg (PySem.Str.ofString "all") = none) (hw : Keeps 2 N_subsumes.length F (S_subsumes )) : FnOk P w K mg base (L2.CX P w) (0 + 1) a0 d0 [(PySem.Str.ofString "one"), (PySem.Str.ofString "two")] (spD K mg 2 F) :=
  okD Fu sc_subsumes rfl (fun cdv A outer s H E G xw hr xo => have nd := sc_subsumes.nd; (ss_one (s_ret (p_callB (cr_all rfl) f_all (by rfl) m_all rfl (pa_cons' (p_frz (p_lc rfl nd (i_seq (p_var 0 (pv 0))) (blkOk_by (own := [((PySem.Str.ofString "literal"), 2)]) (N := N_subsumes) (sc := defScope (s_subsumes)) (by decide +kernel)) (fun _ _ _ _ _ => (g_name 2 (pg_name (i := 2) nd rfl (by first | exact .inl rfl | exact .inr rfl)))) (fun _ _ _ _ _ => ts_nil) (fun _ _ _ _ _ => (p_cmp (o_in (units_of hr (by decide))) f_in (p_var 2 (pv 2)) (p_var 1 (pv 1)) (by first | exact nomark _ | rfl))) (by decide))) pa_nil'))))) hw
abbrev s_resolved : Stmt := topS 11
abbrev N_resolved : List Str := [(PySem.Str.ofString "one"), (PySem.Str.ofString "two"), (PySem.Str.ofString "variable"), (PySem.Str.ofString "rest"), (PySem.Str.ofString "literal")]
theorem sc_resolved : FnScope N_resolved [(PySem.Str.ofString "one"), (PySem.Str.ofString "two"), (PySem.Str.ofString "variable")] (defScope s_resolved) := ⟨rfl, rfl, rfl, by decide +kernel, rfl, by decide +kernel, by decide +kernel⟩
def S_resolved (F_clause_of : Fn) : Sx := sSeq (sIf (bOr (bV (eOp2 (dIn true) (eVar 2) (eVar 0))) (bV (eOp2 (dIn true) (eOp2 dSub (eC (.int 0)) (eVar 2)) (eVar 1)))) (sRaise (PySem.Str.ofString "BadClause") (PySem.Str.ofString "what") (eC (.str (PySem.Str.ofString "variable")))) (sPass)) (sSeq (sOwn 3 (eLC [4] (iSeq (eVar 0)) (.name 4) (bV (eOp2 dNe (eVar 4) (eVar 2))) (eVar 4))) (sSeq (sExtend 3 (eFrz (eLC [4] (iSeq (eVar 1)) (.name 4) (bV (eOp2 dNe (eVar 4) (eOp2 dSub (eC (.int 0)) (eVar 2)))) (eVar 4)))) (sFreeze 3 (sSeq (sIf (bT (eOpN dAny (eCons (eFrz (eLC [4] (iSeq (eVar 3)) (.name 4) bYes (eOp2 (dIn false) (eOp2 dSub (eC (.int 0)) (eVar 4)) (eVar 3)))) (eNil)))) (sRet (eC .non)) (sPass)) (sRet (eCall F_clause_of 1 (eCons (eVar 3) (eNil))))))))
theorem ok_resolved {P : Program} {w : World} {K : PySem.W.Frag} {mg : Str → Option Value} {base : Heap} {a0 : Addr} {d0 : FuncData} (F_clause_of : Fn) {F : Fn} (Fu : Fun K (PySem.Str.ofString "resolved") (PySem.Str.ofString "resolved") s_resolved a0 d0) (m_any : mg (PySem.Str.ofString "any") = none) {a_clause_of : Addr} {d_clause_of : FuncData} (fclause_of : FnOk P w K mg base (L2.CX P w) 3 a_clause_of d_clause_of [(PySem.Str.ofString "literals")] (spD K mg 1 F_clause_of)) (gclause_of : mg (PySem.Str.ofString "clause_of") = some (.ref a_clause_of)) (kclause_of : PySem.W.keepIn K (.ref a_clause_of) = true) (bclause_of : Binds K d_clause_of [(PySem.Str.ofString "literals")] []) {C_BadClause a_BadClause : Addr} {d_BadClause : FuncData} (oBadClause : OexC K C_BadClause) (iBadClause : PySem.W.findIn K (.ref C_BadClause) "__init__" = some (some (.ref a_BadClause))) (tBadClause : PySem.W.typeIn K (.ref a_BadClause) = some (.type "function")) (FBadClause : FnOk P w K mg base (L2.CX P w) 1 a_BadClause d_BadClause [(PySem.Str.ofString "self"), (PySem.Str.ofString "what")] (Ex.spI K C_BadClause (PySem.Str.ofString "what"))) (bBadClause : Binds K d_BadClause [(PySem.Str.ofString "self"), (PySem.Str.ofString "what")] []) (gBadClause : mg (PySem.Str.ofString "BadClause") = some (.ref C_BadClause)) (hw : Keeps 3 N_resolved.length F (S_resolved F_clause_of)) : FnOk P w K mg base (L2.CX P w) (3 + 1) a0 d0 [(PySem.Str.ofString "one"), (PySem.Str.ofString "two"), (PySem.Str.ofString "variable")] (spD K mg 3 F) :=
  okD Fu sc_resolved rfl (fun cdv A outer s H E G xw hr xo => have nd := sc_resolved.nd; (ss_cons (s_if (PW.pt (t_or (t_cmp (o_notin (units_of hr (by decide))) f_in (p_var 2 (pv 2)) (p_var 0 (pv 0)) (by first | exact nomark _ | rfl)) (t_or1 (t_cmp (o_notin (units_of hr (by decide))) f_in (p_op op_sub f_sub p_int (p_var 2 (pv 2))) (p_var 1 (pv 1)) (by first | exact nomark _ | rfl))))) (ss_one (s_raise xo rfl oBadClause iBadClause tBadClause (FBadClause.mono (by first | decide | exact Nat.le_refl _)) (hr.mono (by first | decide | exact Nat.le_refl _)) bBadClause (by rfl) gBadClause p_str)) ss_nil) (ss_cons (s_own (i := 3) nd rfl (by first | exact .inl rfl | exact .inr rfl) (p_lc rfl nd (i_seq (p_var 0 (pv 0))) (blkOk_by (own := [((PySem.Str.ofString "literal"), 4)]) (N := N_resolved) (sc := defScope (s_resolved)) (by decide +kernel)) (fun _ _ _ _ _ => (g_name 4 (pg_name (i := 4) nd rfl (by first | exact .inl rfl | exact .inr rfl)))) (fun _ _ _ _ _ => (ts_one (t_cmp (op_neD (units_of hr (by decide))) f_ne (p_var 4 (pv 4)) (p_var 2 (pv 2)) (by first | exact nomark _ | rfl)))) (fun _ _ _ _ _ => (p_var 4 (pv 4))) (by decide))) (ss_cons (s_extend (pv 3) (p_frz (p_lc rfl nd (i_seq (p_var 1 (pv 1))) (blkOk_by (own := [((PySem.Str.ofString "literal"), 4)]) (N := N_resolved) (sc := defScope (s_resolved)) (by decide +kernel)) (fun _ _ _ _ _ => (g_name 4 (pg_name (i := 4) nd rfl (by first | exact .inl rfl | exact .inr rfl)))) (fun _ _ _ _ _ => (ts_one (t_cmp (op_neD (units_of hr (by decide))) f_ne (p_var 4 (pv 4)) (p_op op_sub f_sub p_int (p_var 2 (pv 2))) (by first | exact nomark _ | rfl)))) (fun _ _ _ _ _ => (p_var 4 (pv 4))) (by decide)))) (ss_freeze 3 (ss_cons (s_if (t_truth (p_callB (cr_any rfl) f_any (by rfl) m_any rfl (pa_cons' (p_frz (p_lc rfl nd (i_seq (p_var 3 (pv 3))) (blkOk_by (own := [((PySem.Str.ofString "literal"), 4)]) (N := N_resolved) (sc := defScope (s_resolved)) (by decide +kernel)) (fun _ _ _ _ _ => (g_name 4 (pg_name (i := 4) nd rfl (by first | exact .inl rfl | exact .inr rfl)))) (fun _ _ _ _ _ => ts_nil) (fun _ _ _ _ _ => (p_cmp (o_in (units_of hr (by decide))) f_in (p_op op_sub f_sub p_int (p_var 4 (pv 4))) (p_var 3 (pv 3)) (by first | exact nomark _ | rfl))) (by decide))) pa_nil'))) (ss_one (s_ret p_non)) ss_nil) (ss_one (s_ret (p_call xo (fclause_of.mono (by first | decide | exact Nat.le_refl _)) (hr.mono (by first | decide | exact Nat.le_refl _)) (by rfl) gclause_of kclause_of bclause_of (pa_cons' (p_var 3 (pv 3)) pa_nil')))))))))) hw
abbrev s__law_pool : Stmt := topS 13
abbrev N__law_pool : List Str := [(PySem.Str.ofString "script"), (PySem.Str.ofString "budget")]
theorem sc__law_pool : FnScope N__law_pool [(PySem.Str.ofString "script"), (PySem.Str.ofString "budget")] (defScope s__law_pool) := ⟨rfl, rfl, rfl, by decide +kernel, rfl, by decide +kernel, by decide +kernel⟩
def S__law_pool  : W (List Da) := eDisp (eCons (eFrz (eList (eVar 0))) (eCons (eC (.int 0)) (eCons (eC (.int 0)) (eCons (eC (.int 1)) (eCons (eC (.int 0)) (eCons (eVar 1) (eNil)))))))
theorem ok__law_pool {P : Program} {w : World} {K : PySem.W.Frag} {mg : Str → Option Value} {base : Heap} {a0 : Addr} {d0 : FuncData}  {F : List Da → (List Da → Prop) → Prop} (Fu : Fun K (PySem.Str.ofString "_law_pool") (PySem.Str.ofString "_law_pool") s__law_pool a0 d0) (m_list : mg (PySem.Str.ofString "list") = none) (hw : ∀ ds k, ds.length = 2 → F ds k → (S__law_pool ).wp (startE N__law_pool.length ds) (fun es _ => k es) noEx) : FnOk P w K mg base (L2.CX P w) (0 + 1) a0 d0 [(PySem.Str.ofString "script"), (PySem.Str.ofString "budget")] (spO K 2 F) :=
  okO Fu sc__law_pool rfl rfl (fun cdv A outer s H E G xw hr xo => have nd := sc__law_pool.nd; (p_disp (pa_cons' (p_frz (p_list (by rfl) m_list (p_var 0 (pv 0)))) (pa_cons' p_int (pa_cons' p_int (pa_cons' p_int (pa_cons' p_int (pa_cons' (p_var 1 (pv 1)) pa_nil')))))))) hw
abbrev s__law_draw : Stmt := topS 14
abbrev N__law_draw : List Str := [(PySem.Str.ofString "pool"), (PySem.Str.ofString "size"), (PySem.Str.ofString "cell"), (PySem.Str.ofString "value")]
theorem sc__law_draw : FnScope N__law_draw [(PySem.Str.ofString "pool"), (PySem.Str.ofString "size")] (defScope s__law_draw) := ⟨rfl, rfl, rfl, by decide +kernel, rfl, by decide +kernel, by decide +kernel⟩
def S__law_draw  : Sx := sOpen 0 (sSeq (sIf (bAnd (bV (eOp2 dLe (eIxP 0 (eC (.int 2))) (eC (.int 0)))) (bAnd (bV (eOp2 dLe (eIxP 0 (eC (.int 4))) (eC (.int 0)))) (bV (eOp2 dLt (eIxP 0 (eC (.int 1))) (eOpN dLen (eCons (eIxP 0 (eC (.int 0))) (eNil))))))) (sSeq (sSet 2 (eIdx (eIxP 0 (eC (.int 0))) (eIxP 0 (eC (.int 1))))) (sSeq (sPutP 0 (eC (.int 1)) (eOp2 dAdd (eIxP 0 (eC (.int 1))) (eC (.int 1)))) (sSeq (sPutP 0 (eC (.int 3)) (eOp2 dMod (eOpN dInt (eCons (eOp2 dAdd (eOp2 dMul (eIxP 0 (eC (.int 3))) (eC (.int 31))) (eVar 2)) (eNil))) (eC (.int 2147483647)))) (sSeq (sPutP 0 (eC (.int 4)) (eC (.int 7))) (sIf (bV (eOp2 dGe (eVar 2) (eOp2 dPow (eC (.int 10)) (eC (.int 18))))) (sPutP 0 (eC (.int 2)) (eVar 2)) (sPass)))))) (sPass)) (sSeq (sIf (bV (eOp2 dGt (eIxP 0 (eC (.int 2))) (eC (.int 0)))) (sSeq (sSet 3 (eOp2 dMod (eOpN dInt (eCons (eIxP 0 (eC (.int 2))) (eNil))) (eVar 1))) (sSeq (sPutP 0 (eC (.int 2)) (eOp2 dDiv (eIxP 0 (eC (.int 2))) (eVar 1))) (sSeq (sPutP 0 (eC (.int 4)) (eC (.int 0))) (sRet (eVar 3))))) (sPass)) (sSeq (sPutP 0 (eC (.int 4)) (eOp2 dSub (eIxP 0 (eC (.int 4))) (eC (.int 1)))) (sSeq (sPutP 0 (eC (.int 3)) (eOp2 dMod (eOpN dInt (eCons (eOp2 dAdd (eOp2 dMul (eIxP 0 (eC (.int 3))) (eC (.int 48271))) (eC (.int 12345))) (eNil))) (eC (.int 2147483647)))) (sRet (eOp2 dMod (eOp2 dMod (eOpN dInt (eCons (eOp2 dAdd (eOp2 dMul (eIxP 0 (eC (.int 3))) (eC (.int 69621))) (eC (.int 7919))) (eNil))) (eC (.int 2147483647))) (eVar 1)))))))
theorem ok__law_draw {P : Program} {w : World} {K : PySem.W.Frag} {mg : Str → Option Value} {base : Heap} {a0 : Addr} {d0 : FuncData}  {F : Fn} (Fu : Fun K (PySem.Str.ofString "_law_draw") (PySem.Str.ofString "_law_draw") s__law_draw a0 d0) (m_int : mg (PySem.Str.ofString "int") = none) (m_len : mg (PySem.Str.ofString "len") = none) (hw : KeepsP 1 N__law_draw.length F (S__law_draw )) : FnOk P w K mg base (L2.CX P w) (0 + 1) a0 d0 [(PySem.Str.ofString "pool"), (PySem.Str.ofString "size")] (spL K mg 1 F) :=
  okL Fu sc__law_draw rfl (fun cdv A outer s H E G xw hr xo => have nd := sc__law_draw.nd; (ss_open 0 (ss_cons (s_if (PW.pt (t_and (t_cmp op_le f_le (p_ixP (pv 0) p_int) p_int (by first | exact nomark _ | rfl)) (t_and (t_cmp op_le f_le (p_ixP (pv 0) p_int) p_int (by first | exact nomark _ | rfl)) (t_and1 (t_cmp op_lt f_lt (p_ixP (pv 0) p_int) (p_callB c_len f_len (by rfl) m_len rfl (pa_cons' (p_ixP (pv 0) p_int) pa_nil')) (by first | exact nomark _ | rfl)))))) (ss_cons (s_set (i := 2) nd rfl (by first | exact .inl rfl | exact .inr rfl) (p_idx (p_ixP (pv 0) p_int) (p_ixP (pv 0) p_int))) (ss_cons (g_putP (pv 0) p_int (p_op o_add f_add (p_ixP (pv 0) p_int) p_int)) (ss_cons (g_putP (pv 0) p_int (p_op op_mod f_mod (p_callTy call_int1 f_int (by rfl) m_int rfl (pa_cons' (p_op o_add f_add (p_op op_mul f_mul (p_ixP (pv 0) p_int) p_int) (p_var 2 (pv 2))) pa_nil')) p_int)) (ss_cons (g_putP (pv 0) p_int p_int) (ss_one (s_if (t_cmp op_ge f_ge (p_var 2 (pv 2)) (p_op op_pow f_pow p_int p_int) (by first | exact nomark _ | rfl)) (ss_one (g_putP (pv 0) p_int (p_var 2 (pv 2)))) ss_nil)))))) ss_nil) (ss_cons (s_if (t_cmp op_gt f_gt (p_ixP (pv 0) p_int) p_int (by first | exact nomark _ | rfl)) (ss_cons (s_set (i := 3) nd rfl (by first | exact .inl rfl | exact .inr rfl) (p_op op_mod f_mod (p_callTy call_int1 f_int (by rfl) m_int rfl (pa_cons' (p_ixP (pv 0) p_int) pa_nil')) (p_var 1 (pv 1)))) (ss_cons (g_putP (pv 0) p_int (p_op op_fdiv f_div (p_ixP (pv 0) p_int) (p_var 1 (pv 1)))) (ss_cons (g_putP (pv 0) p_int p_int) (ss_one (s_ret (p_var 3 (pv 3))))))) ss_nil) (ss_cons (g_putP (pv 0) p_int (p_op op_sub f_sub (p_ixP (pv 0) p_int) p_int)) (ss_cons (g_putP (pv 0) p_int (p_op op_mod f_mod (p_callTy call_int1 f_int (by rfl) m_int rfl (pa_cons' (p_op o_add f_add (p_op op_mul f_mul (p_ixP (pv 0) p_int) p_int) p_int) pa_nil')) p_int)) (ss_one (s_ret (p_op op_mod f_mod (p_op op_mod f_mod (p_callTy call_int1 f_int (by rfl) m_int rfl (pa_cons' (p_op o_add f_add (p_op op_mul f_mul (p_ixP (pv 0) p_int) p_int) p_int) pa_nil')) p_int) (p_var 1 (pv 1))))))))))) hw
abbrev s__law_same : Stmt := topS 15
abbrev N__law_same : List Str := [(PySem.Str.ofString "actual"), (PySem.Str.ofString "due"), (PySem.Str.ofString "k")]
theorem sc__law_same : FnScope N__law_same [(PySem.Str.ofString "actual"), (PySem.Str.ofString "due")] (defScope s__law_same) := ⟨rfl, rfl, rfl, by decide +kernel, rfl, by decide +kernel, by decide +kernel⟩
def S__law_same (F__law_same : Fn) : Sx := sSeq (sIf (bOr (bT (eIsi "tuple" (eVar 1))) (bT (eIsi "list" (eVar 1)))) (sSeq (sIf (bOr (bV (eOp2 dNe (eIsi "tuple" (eVar 1)) (eIsi "tuple" (eVar 0)))) (bV (eOp2 dNe (eIsi "list" (eVar 1)) (eIsi "list" (eVar 0))))) (sRet (eC (.bl false))) (sPass)) (sSeq (sIf (bV (eOp2 dNe (eOpN dLen (eCons (eVar 0) (eNil))) (eOpN dLen (eCons (eVar 1) (eNil))))) (sRet (eC (.bl false))) (sPass)) (sSeq (sFor (iRange1 (eOpN dLen (eCons (eVar 1) (eNil)))) (.name 2) (sIf (bNot (bT (eCall F__law_same 2 (eCons (eIdx (eVar 0) (eVar 2)) (eCons (eIdx (eVar 1) (eVar 2)) (eNil)))))) (sRet (eC (.bl false))) (sPass))) (sRet (eC (.bl true)))))) (sPass)) (sSeq (sIf (bOr (bV (eOp2 dIsN (eVar 1) (eC .non))) (bT (eIsi "bool" (eVar 1)))) (sRet (eAnd (eOp2 dEq (eOp2 dIsN (eVar 0) (eC .non)) (eOp2 dIsN (eVar 1) (eC .non))) (eAnd (eOr (eOp2 dIsN (eVar 1) (eC .non)) (eIsi "bool" (eVar 0))) (eOp2 dEq (eVar 0) (eVar 1))))) (sPass)) (sSeq (sIf (bT (eIsi "int" (eVar 1))) (sRet (eAnd (eIsi "int" (eVar 0)) (eAnd (eNot (eIsi "bool" (eVar 0))) (eOp2 dEq (eVar 0) (eVar 1))))) (sPass)) (sRet (eAnd (eIsi "str" (eVar 0)) (eOp2 dEq (eVar 0) (eVar 1))))))
theorem ok__law_same {P : Program} {w : World} {K : PySem.W.Frag} {mg : Str → Option Value} {base : Heap} {kk : Nat} {a0 : Addr} {d0 : FuncData} (F__law_same : Fn) {F : Fn} (Fu : Fun K (PySem.Str.ofString "_law_same") (PySem.Str.ofString "_law_same") s__law_same a0 d0) (m_isinstance : mg (PySem.Str.ofString "isinstance") = none) (m_int : mg (PySem.Str.ofString "int") = none) (m_tuple : mg (PySem.Str.ofString "tuple") = none) (m_list : mg (PySem.Str.ofString "list") = none) (m_range : mg (PySem.Str.ofString "range") = none) (m_bool : mg (PySem.Str.ofString "bool") = none) (m_str : mg (PySem.Str.ofString "str") = none) (m_len : mg (PySem.Str.ofString "len") = none) {a__law_same : Addr} {d__law_same : FuncData} (f_law_same : FnOk P w K mg base (L2.CX P w) kk a__law_same d__law_same [(PySem.Str.ofString "actual"), (PySem.Str.ofString "due")] (spD K mg 2 F__law_same)) (g_law_same : mg (PySem.Str.ofString "_law_same") = some (.ref a__law_same)) (k_law_same : PySem.W.keepIn K (.ref a__law_same) = true) (b_law_same : Binds K d__law_same [(PySem.Str.ofString "actual"), (PySem.Str.ofString "due")] []) (hw : Keeps 2 N__law_same.length F (S__law_same F__law_same)) : FnOk P w K mg base (L2.CX P w) (kk + 1) a0 d0 [(PySem.Str.ofString "actual"), (PySem.Str.ofString "due")] (spD K mg 2 F) :=
  okD Fu sc__law_same rfl (fun cdv A outer s H E G xw hr xo => have nd := sc__law_same.nd; (ss_cons (s_if (PW.pt (t_or (t_truth (p_isi (by rfl) m_isinstance rfl (p_var 1 (pv 1)) (pe_bltn (by rfl) m_tuple rfl rfl) (by simp))) (t_or1 (t_truth (p_isi (by rfl) m_isinstance rfl (p_var 1 (pv 1)) (pe_bltn (by rfl) m_list rfl rfl) (by simp)))))) (ss_cons (s_if (PW.pt (t_or (t_cmp (op_neD (units_of hr (by decide))) f_ne (p_isi (by rfl) m_isinstance rfl (p_var 1 (pv 1)) (pe_bltn (by rfl) m_tuple rfl rfl) (by simp)) (p_isi (by rfl) m_isinstance rfl (p_var 0 (pv 0)) (pe_bltn (by rfl) m_tuple rfl rfl) (by simp)) (by first | exact nomark _ | rfl)) (t_or1 (t_cmp (op_neD (units_of hr (by decide))) f_ne (p_isi (by rfl) m_isinstance rfl (p_var 1 (pv 1)) (pe_bltn (by rfl) m_list rfl rfl) (by simp)) (p_isi (by rfl) m_isinstance rfl (p_var 0 (pv 0)) (pe_bltn (by rfl) m_list rfl rfl) (by simp)) (by first | exact nomark _ | rfl))))) (ss_one (s_ret p_bl)) ss_nil) (ss_cons (s_if (t_cmp (op_neD (units_of hr (by decide))) f_ne (p_callB c_len f_len (by rfl) m_len rfl (pa_cons' (p_var 0 (pv 0)) pa_nil')) (p_callB c_len f_len (by rfl) m_len rfl (pa_cons' (p_var 1 (pv 1)) pa_nil')) (by first | exact nomark _ | rfl)) (ss_one (s_ret p_bl)) ss_nil) (ss_cons (s_for (passes_of rfl) rfl (i_range1 (by rfl) m_range (p_callB c_len f_len (by rfl) m_len rfl (pa_cons' (p_var 1 (pv 1)) pa_nil'))) (g_name 2 (pg_name (i := 2) nd rfl (by first | exact .inl rfl | exact .inr rfl))) (ss_one (s_if (t_not (t_truth (p_call xo (f_law_same.mono (by first | decide | exact Nat.le_refl _)) (hr.mono (by first | decide | exact Nat.le_refl _)) (by rfl) g_law_same k_law_same b_law_same (pa_cons' (p_idx (p_var 0 (pv 0)) (p_var 2 (pv 2))) (pa_cons' (p_idx (p_var 1 (pv 1)) (p_var 2 (pv 2))) pa_nil'))))) (ss_one (s_ret p_bl)) ss_nil))) (ss_one (s_ret p_bl))))) ss_nil) (ss_cons (s_if (PW.pt (t_or (t_cmp op_isN f_isN (p_var 1 (pv 1)) p_non (by first | exact nomark _ | rfl)) (t_or1 (t_truth (p_isi (by rfl) m_isinstance rfl (p_var 1 (pv 1)) (pe_bltn (by rfl) m_bool rfl rfl) (by simp)))))) (ss_one (s_ret (p_and (p_cmp (op_eqD (units_of hr (by decide))) f_eq (p_cmp op_isN f_isN (p_var 0 (pv 0)) p_non (by first | exact nomark _ | rfl)) (p_cmp op_isN f_isN (p_var 1 (pv 1)) p_non (by first | exact nomark _ | rfl)) (by first | exact nomark _ | rfl)) (p_and (p_or (p_cmp op_isN f_isN (p_var 1 (pv 1)) p_non (by first | exact nomark _ | rfl)) (p_one (p_isi (by rfl) m_isinstance rfl (p_var 0 (pv 0)) (pe_bltn (by rfl) m_bool rfl rfl) (by simp)))) (p_one (p_cmp (op_eqD (units_of hr (by decide))) f_eq (p_var 0 (pv 0)) (p_var 1 (pv 1)) (by first | exact nomark _ | rfl))))))) ss_nil) (ss_cons (s_if (t_truth (p_isi (by rfl) m_isinstance rfl (p_var 1 (pv 1)) (pe_bltn (by rfl) m_int rfl rfl) (by simp))) (ss_one (s_ret (p_and (p_isi (by rfl) m_isinstance rfl (p_var 0 (pv 0)) (pe_bltn (by rfl) m_int rfl rfl) (by simp)) (p_and (p_not (p_isi (by rfl) m_isinstance rfl (p_var 0 (pv 0)) (pe_bltn (by rfl) m_bool rfl rfl) (by simp))) (p_one (p_cmp (op_eqD (units_of hr (by decide))) f_eq (p_var 0 (pv 0)) (p_var 1 (pv 1)) (by first | exact nomark _ | rfl))))))) ss_nil) (ss_one (s_ret (p_and (p_isi (by rfl) m_isinstance rfl (p_var 0 (pv 0)) (pe_bltn (by rfl) m_str rfl rfl) (by simp)) (p_one (p_cmp (op_eqD (units_of hr (by decide))) f_eq (p_var 0 (pv 0)) (p_var 1 (pv 1)) (by first | exact nomark _ | rfl)))))))))) hw
abbrev s__law_drawn : Stmt := topS 16
abbrev N__law_drawn : List Str := [(PySem.Str.ofString "pool"), (PySem.Str.ofString "found"), (PySem.Str.ofString "k"), (PySem.Str.ofString "own")]
theorem sc__law_drawn : FnScope N__law_drawn [(PySem.Str.ofString "pool")] (defScope s__law_drawn) := ⟨rfl, rfl, rfl, by decide +kernel, rfl, by decide +kernel, by decide +kernel⟩
def S__law_drawn (F__law_draw : Fn) : Sx := sSeq (sOwn 1 (eDisp (eNil))) (sSeq (sFor (iRange1 (eCallP 0 F__law_draw 1 (eCons (eC (.int 6)) (eNil)))) (.name 2) (sSeq (sSet 3 (eOp2 dAdd (eC (.int 1)) (eCallP 0 F__law_draw 1 (eCons (eC (.int 6)) (eNil))))) (sSeq (sIf (bV (eOp2 dEq (eCallP 0 F__law_draw 1 (eCons (eC (.int 20)) (eNil))) (eC (.int 0)))) (sSet 3 (eIdx (eTup (eCons (eC (.int 0)) (eCons (eOp2 dPow (eC (.int 10)) (eC (.int 6))) (eCons (eOp2 dAdd (eOp2 dPow (eC (.int 10)) (eC (.int 6))) (eC (.int 1))) (eNil))))) (eCallP 0 F__law_draw 1 (eCons (eC (.int 3)) (eNil))))) (sPass)) (sAppend 1 (eIdx (eTup (eCons (eVar 3) (eCons (eOp2 dSub (eC (.int 0)) (eVar 3)) (eNil)))) (eCallP 0 F__law_draw 1 (eCons (eC (.int 2)) (eNil)))))))) (sFreeze 1 (sRet (eVar 1))))
theorem ok__law_drawn {P : Program} {w : World} {K : PySem.W.Frag} {mg : Str → Option Value} {base : Heap} {a0 : Addr} {d0 : FuncData} (F__law_draw : Fn) {F : Fn} (Fu : Fun K (PySem.Str.ofString "_law_drawn") (PySem.Str.ofString "_law_drawn") s__law_drawn a0 d0) (m_range : mg (PySem.Str.ofString "range") = none) {a__law_draw : Addr} {d__law_draw : FuncData} (f_law_draw : FnOk P w K mg base (L2.CX P w) 1 a__law_draw d__law_draw [(PySem.Str.ofString "pool"), (PySem.Str.ofString "size")] (spL K mg 1 F__law_draw)) (g_law_draw : mg (PySem.Str.ofString "_law_draw") = some (.ref a__law_draw)) (k_law_draw : PySem.W.keepIn K (.ref a__law_draw) = true) (b_law_draw : Binds K d__law_draw [(PySem.Str.ofString "pool"), (PySem.Str.ofString "size")] []) (hw : KeepsP 0 N__law_drawn.length F (S__law_drawn F__law_draw)) : FnOk P w K mg base (L2.CX P w) (1 + 1) a0 d0 [(PySem.Str.ofString "pool")] (spL K mg 0 F) :=
  okL Fu sc__law_drawn rfl (fun cdv A outer s H E G xw hr xo => have nd := sc__law_drawn.nd; (ss_cons (s_own (i := 1) nd rfl (by first | exact .inl rfl | exact .inr rfl) (p_disp pa_nil')) (ss_cons (s_for (passes_of rfl) rfl (i_range1 (by rfl) m_range (p_callP (i := 0) (f_law_draw.mono (by first | decide | exact Nat.le_refl _)) (hr.mono (by first | decide | exact Nat.le_refl _)) (by rfl) g_law_draw k_law_draw b_law_draw (pv 0) (pa_cons' p_int pa_nil'))) (g_name 2 (pg_name (i := 2) nd rfl (by first | exact .inl rfl | exact .inr rfl))) (ss_cons (s_set (i := 3) nd rfl (by first | exact .inl rfl | exact .inr rfl) (p_op o_add f_add p_int (p_callP (i := 0) (f_law_draw.mono (by first | decide | exact Nat.le_refl _)) (hr.mono (by first | decide | exact Nat.le_refl _)) (by rfl) g_law_draw k_law_draw b_law_draw (pv 0) (pa_cons' p_int pa_nil')))) (ss_cons (s_if (t_cmp (op_eqD (units_of hr (by decide))) f_eq (p_callP (i := 0) (f_law_draw.mono (by first | decide | exact Nat.le_refl _)) (hr.mono (by first | decide | exact Nat.le_refl _)) (by rfl) g_law_draw k_law_draw b_law_draw (pv 0) (pa_cons' p_int pa_nil')) p_int (by first | exact nomark _ | rfl)) (ss_one (s_set (i := 3) nd rfl (by first | exact .inl rfl | exact .inr rfl) (p_idx (p_tup (pa_cons' p_int (pa_cons' (p_op op_pow f_pow p_int p_int) (pa_cons' (p_op o_add f_add (p_op op_pow f_pow p_int p_int) p_int) pa_nil')))) (p_callP (i := 0) (f_law_draw.mono (by first | decide | exact Nat.le_refl _)) (hr.mono (by first | decide | exact Nat.le_refl _)) (by rfl) g_law_draw k_law_draw b_law_draw (pv 0) (pa_cons' p_int pa_nil'))))) ss_nil) (ss_one (s_append (pv 1) (p_idx (p_tup (pa_cons' (p_var 3 (pv 3)) (pa_cons' (p_op op_sub f_sub p_int (p_var 3 (pv 3))) pa_nil'))) (p_callP (i := 0) (f_law_draw.mono (by first | decide | exact Nat.le_refl _)) (hr.mono (by first | decide | exact Nat.le_refl _)) (by rfl) g_law_draw k_law_draw b_law_draw (pv 0) (pa_cons' p_int pa_nil')))))))) (ss_freeze 1 (ss_one (s_ret (p_var 1 (pv 1)))))))) hw
abbrev s__law_told : Stmt := topS 17
abbrev N__law_told : List Str := [(PySem.Str.ofString "way"), (PySem.Str.ofString "one"), (PySem.Str.ofString "two"), (PySem.Str.ofString "variable"), (PySem.Str.ofString "e")]
theorem sc__law_told : FnScope N__law_told [(PySem.Str.ofString "way"), (PySem.Str.ofString "one"), (PySem.Str.ofString "two"), (PySem.Str.ofString "variable")] (defScope s__law_told) := ⟨rfl, rfl, rfl, by decide +kernel, rfl, by decide +kernel, by decide +kernel⟩
def S__law_told (F_resolved : Fn) (F_clause_of : Fn) (cat__law_told : Str → Option Bool) : Sx := sTry cat__law_told 4 (sSeq (sIf (bV (eOp2 dEq (eVar 0) (eC (.int 0)))) (sRet (eCall F_clause_of 1 (eCons (eVar 1) (eNil)))) (sPass)) (sRet (eCall F_resolved 3 (eCons (eVar 1) (eCons (eVar 2) (eCons (eVar 3) (eNil))))))) (sRet (eExn 4 (PySem.Str.ofString "what")))
theorem ok__law_told {P : Program} {w : World} {K : PySem.W.Frag} {mg : Str → Option Value} {base : Heap} {a0 : Addr} {d0 : FuncData} (F_resolved : Fn) (F_clause_of : Fn) (cat__law_told : Str → Option Bool) {F : Fn} (Fu : Fun K (PySem.Str.ofString "_law_told") (PySem.Str.ofString "_law_told") s__law_told a0 d0) {a_resolved : Addr} {d_resolved : FuncData} (fresolved : FnOk P w K mg base (L2.CX P w) 4 a_resolved d_resolved [(PySem.Str.ofString "one"), (PySem.Str.ofString "two"), (PySem.Str.ofString "variable")] (spD K mg 3 F_resolved)) (gresolved : mg (PySem.Str.ofString "resolved") = some (.ref a_resolved)) (kresolved : PySem.W.keepIn K (.ref a_resolved) = true) (bresolved : Binds K d_resolved [(PySem.Str.ofString "one"), (PySem.Str.ofString "two"), (PySem.Str.ofString "variable")] []) {a_clause_of : Addr} {d_clause_of : FuncData} (fclause_of : FnOk P w K mg base (L2.CX P w) 3 a_clause_of d_clause_of [(PySem.Str.ofString "literals")] (spD K mg 1 F_clause_of)) (gclause_of : mg (PySem.Str.ofString "clause_of") = some (.ref a_clause_of)) (kclause_of : PySem.W.keepIn K (.ref a_clause_of) = true) (bclause_of : Binds K d_clause_of [(PySem.Str.ofString "literals")] []) {C_BadClause : Addr} (gBadClause : mg (PySem.Str.ofString "BadClause") = some (.ref C_BadClause)) (c__law_told : ∀ (nm : Str) (C : Addr), mg nm = some (.ref C) → (cat__law_told nm = some true → XfC K C ∧ PySem.W.findIn K (.ref C) (PySem.Str.ofString "what") = some none ∧ PySem.W.exmOne K (.ref C) (.ref C_BadClause) = some true) ∧ (cat__law_told nm = some false → PySem.W.exmOne K (.ref C) (.ref C_BadClause) = some false)) (hw : Keeps 4 N__law_told.length F (S__law_told F_resolved F_clause_of cat__law_told)) : FnOk P w K mg base (L2.CX P w) (4 + 1) a0 d0 [(PySem.Str.ofString "way"), (PySem.Str.ofString "one"), (PySem.Str.ofString "two"), (PySem.Str.ofString "variable")] (spD K mg 4 F) :=
  okD0 Fu sc__law_told rfl (fun cdv A outer s H E G xw hr xo => have nd := sc__law_told.nd; (ss_one0 (s_try xo rfl rfl nd rfl rfl ⟨by rfl, by decide, .inl gBadClause⟩ c__law_told (fun pn xe x' xo' po' => (ss_cons0 (s0 (s_if (t_cmp (op_eqD (units_of hr (by decide))) f_eq (p_var 0 (pv 0)) p_int (by first | exact nomark _ | rfl)) (ss_one (s_ret (p_call xo' (fclause_of.mono (by first | decide | exact Nat.le_refl _)) (hr.mono (by first | decide | exact Nat.le_refl _)) (by rfl) gclause_of kclause_of bclause_of (pa_cons' (p_var 1 (pv 1)) pa_nil')))) ss_nil)) (ss_one0 (s0 (s_ret (p_call xo' (fresolved.mono (by first | decide | exact Nat.le_refl _)) (hr.mono (by first | decide | exact Nat.le_refl _)) (by rfl) gresolved kresolved bresolved (pa_cons' (p_var 1 (pv 1)) (pa_cons' (p_var 2 (pv 2)) (pa_cons' (p_var 3 (pv 3)) pa_nil'))))))))) (fun a dd C oe pn T hno hz hfi => (ss_one0 (s0 (s_ret (p_exn T hno hz hfi (pv 4))))))))) hw
abbrev s__law_due : Stmt := topS 18
abbrev N__law_due : List Str := [(PySem.Str.ofString "literals"), (PySem.Str.ofString "literal"), (PySem.Str.ofString "own")]
theorem sc__law_due : FnScope N__law_due [(PySem.Str.ofString "literals")] (defScope s__law_due) := ⟨rfl, rfl, rfl, by decide +kernel, rfl, by decide +kernel, by decide +kernel⟩
def S__law_due  : Sx := sSeq (sIf (bV (eOp2 dNe (eFrz (eLC [1] (iSeq (eVar 0)) (.name 1) (bOr (bV (eOp2 dEq (eVar 1) (eC (.int 0)))) (bV (eOp2 dGt (eOpN dAbs (eCons (eVar 1) (eNil))) (eOp2 dPow (eC (.int 10)) (eC (.int 6)))))) (eVar 1))) (eFrz (eDisp (eNil))))) (sRet (eC (.str (PySem.Str.ofString "literal")))) (sPass)) (sSeq (sIf (bV (eOp2 dNe (eFrz (eLC [1] (iSeq (eVar 0)) (.name 1) (bV (eOp2 (dIn false) (eOp2 dSub (eC (.int 0)) (eVar 1)) (eVar 0))) (eVar 1))) (eFrz (eDisp (eNil))))) (sRet (eC (.str (PySem.Str.ofString "opposites")))) (sPass)) (sRet (eOpN dTuple (eCons (eFrz (eLC [2] (iSeq (eFrz (eSortS (eSetOf (eLC [1] (iSeq (eVar 0)) (.name 1) bYes (eTup (eCons (eOpN dAbs (eCons (eVar 1) (eNil))) (eCons (eVar 1) (eNil))))))))) (.name 2) bYes (eIdx (eVar 2) (eC (.int 1))))) (eNil)))))
theorem ok__law_due {P : Program} {w : World} {K : PySem.W.Frag} {mg : Str → Option Value} {base : Heap} {a0 : Addr} {d0 : FuncData}  {F : Fn} (Fu : Fun K (PySem.Str.ofString "_law_due") (PySem.Str.ofString "_law_due") s__law_due a0 d0) (m_tuple : mg (PySem.Str.ofString "tuple") = none) (m_sorted : mg (PySem.Str.ofString "sorted") = none) (m_set : mg (PySem.Str.ofString "set") = none) (m_abs : mg (PySem.Str.ofString "abs") = none) (hw : Keeps 1 N__law_due.length F (S__law_due )) : FnOk P w K mg base (L2.CX P w) (0 + 1) a0 d0 [(PySem.Str.ofString "literals")] (spD K mg 1 F) :=
  okD Fu sc__law_due rfl (fun cdv A outer s H E G xw hr xo => have nd := sc__law_due.nd; (ss_cons (s_if (t_cmp (op_neD (units_of hr (by decide))) f_ne (p_frz (p_lc rfl nd (i_seq (p_var 0 (pv 0))) (blkOk_by (own := [((PySem.Str.ofString "literal"), 1)]) (N := N__law_due) (sc := defScope (s__law_due)) (by decide +kernel)) (fun _ _ _ _ _ => (g_name 1 (pg_name (i := 1) nd rfl (by first | exact .inl rfl | exact .inr rfl)))) (fun _ _ _ _ _ => (ts_one (PW.pt (t_or (t_cmp (op_eqD (units_of hr (by decide))) f_eq (p_var 1 (pv 1)) p_int (by first | exact nomark _ | rfl)) (t_or1 (t_cmp op_gt f_gt (p_callB call_abs f_abs (by rfl) m_abs rfl (pa_cons' (p_var 1 (pv 1)) pa_nil')) (p_op op_pow f_pow p_int p_int) (by first | exact nomark _ | rfl))))))) (fun _ _ _ _ _ => (p_var 1 (pv 1))) (by decide))) (p_frz (p_disp pa_nil')) (by first | exact nomark _ | rfl)) (ss_one (s_ret p_str)) ss_nil) (ss_cons (s_if (t_cmp (op_neD (units_of hr (by decide))) f_ne (p_frz (p_lc rfl nd (i_seq (p_var 0 (pv 0))) (blkOk_by (own := [((PySem.Str.ofString "literal"), 1)]) (N := N__law_due) (sc := defScope (s__law_due)) (by decide +kernel)) (fun _ _ _ _ _ => (g_name 1 (pg_name (i := 1) nd rfl (by first | exact .inl rfl | exact .inr rfl)))) (fun _ _ _ _ _ => (ts_one (t_cmp (o_in (units_of hr (by decide))) f_in (p_op op_sub f_sub p_int (p_var 1 (pv 1))) (p_var 0 (pv 0)) (by first | exact nomark _ | rfl)))) (fun _ _ _ _ _ => (p_var 1 (pv 1))) (by decide))) (p_frz (p_disp pa_nil')) (by first | exact nomark _ | rfl)) (ss_one (s_ret p_str)) ss_nil) (ss_one (s_ret (p_callTy call_tuple_of f_tuple (by rfl) m_tuple rfl (pa_cons' (p_frz (p_lc rfl nd (i_seq (p_frz (p_sortS xo.so (units_of hr (by decide)) rfl (by rfl) m_sorted (p_setOf xo.so (units_of hr (by decide)) rfl (by rfl) m_set (p_lc rfl nd (i_seq (p_var 0 (pv 0))) (blkOk_by (own := [((PySem.Str.ofString "literal"), 1)]) (N := N__law_due) (sc := defScope (s__law_due)) (by decide +kernel)) (fun _ _ _ _ _ => (g_name 1 (pg_name (i := 1) nd rfl (by first | exact .inl rfl | exact .inr rfl)))) (fun _ _ _ _ _ => ts_nil) (fun _ _ _ _ _ => (p_tup (pa_cons' (p_callB call_abs f_abs (by rfl) m_abs rfl (pa_cons' (p_var 1 (pv 1)) pa_nil')) (pa_cons' (p_var 1 (pv 1)) pa_nil')))) (by decide)))))) (blkOk_by (own := [((PySem.Str.ofString "own"), 2)]) (N := N__law_due) (sc := defScope (s__law_due)) (by decide +kernel)) (fun _ _ _ _ _ => (g_name 2 (pg_name (i := 2) nd rfl (by first | exact .inl rfl | exact .inr rfl)))) (fun _ _ _ _ _ => ts_nil) (fun _ _ _ _ _ => (p_idx (p_var 2 (pv 2)) p_int)) (by decide))) pa_nil'))))))) hw
abbrev s__law_is : Stmt := topS 19
abbrev N__law_is : List Str := [(PySem.Str.ofString "clause"), (PySem.Str.ofString "count"), (PySem.Str.ofString "k")]
theorem sc__law_is : FnScope N__law_is [(PySem.Str.ofString "clause"), (PySem.Str.ofString "count")] (defScope s__law_is) := ⟨rfl, rfl, rfl, by decide +kernel, rfl, by decide +kernel, by decide +kernel⟩
def S__law_is  : Sx := sSeq (sFor (iRange1 (eOpN dLen (eCons (eVar 0) (eNil)))) (.name 2) (sIf (bOr (bV (eOp2 dEq (eIdx (eVar 0) (eVar 2)) (eC (.int 0)))) (bOr (bV (eOp2 dGt (eOpN dAbs (eCons (eIdx (eVar 0) (eVar 2)) (eNil))) (eVar 1))) (bAnd (bV (eOp2 dGt (eVar 2) (eC (.int 0)))) (bV (eOp2 dGe (eOpN dAbs (eCons (eIdx (eVar 0) (eOp2 dSub (eVar 2) (eC (.int 1)))) (eNil))) (eOpN dAbs (eCons (eIdx (eVar 0) (eVar 2)) (eNil)))))))) (sRet (eC (.bl false))) (sPass))) (sRet (eC (.bl true)))
theorem ok__law_is {P : Program} {w : World} {K : PySem.W.Frag} {mg : Str → Option Value} {base : Heap} {a0 : Addr} {d0 : FuncData}  {F : Fn} (Fu : Fun K (PySem.Str.ofString "_law_is") (PySem.Str.ofString "_law_is") s__law_is a0 d0) (m_range : mg (PySem.Str.ofString "range") = none) (m_len : mg (PySem.Str.ofString "len") = none) (m_abs : mg (PySem.Str.ofString "abs") = none) (hw : Keeps 2 N__law_is.length F (S__law_is )) : FnOk P w K mg base (L2.CX P w) (0 + 1) a0 d0 [(PySem.Str.ofString "clause"), (PySem.Str.ofString "count")] (spD K mg 2 F) :=
  okD Fu sc__law_is rfl (fun cdv A outer s H E G xw hr xo => have nd := sc__law_is.nd; (ss_cons (s_for (passes_of rfl) rfl (i_range1 (by rfl) m_range (p_callB c_len f_len (by rfl) m_len rfl (pa_cons' (p_var 0 (pv 0)) pa_nil'))) (g_name 2 (pg_name (i := 2) nd rfl (by first | exact .inl rfl | exact .inr rfl))) (ss_one (s_if (PW.pt (t_or (t_cmp (op_eqD (units_of hr (by decide))) f_eq (p_idx (p_var 0 (pv 0)) (p_var 2 (pv 2))) p_int (by first | exact nomark _ | rfl)) (t_or (t_cmp op_gt f_gt (p_callB call_abs f_abs (by rfl) m_abs rfl (pa_cons' (p_idx (p_var 0 (pv 0)) (p_var 2 (pv 2))) pa_nil')) (p_var 1 (pv 1)) (by first | exact nomark _ | rfl)) (t_or1 (PW.pt (t_and (t_cmp op_gt f_gt (p_var 2 (pv 2)) p_int (by first | exact nomark _ | rfl)) (t_and1 (t_cmp op_ge f_ge (p_callB call_abs f_abs (by rfl) m_abs rfl (pa_cons' (p_idx (p_var 0 (pv 0)) (p_op op_sub f_sub (p_var 2 (pv 2)) p_int)) pa_nil')) (p_callB call_abs f_abs (by rfl) m_abs rfl (pa_cons' (p_idx (p_var 0 (pv 0)) (p_var 2 (pv 2))) pa_nil')) (by first | exact nomark _ | rfl))))))))) (ss_one (s_ret p_bl)) ss_nil))) (ss_one (s_ret p_bl)))) hw
abbrev s__law_clause : Stmt := topS 20
abbrev N__law_clause : List Str := [(PySem.Str.ofString "pool"), (PySem.Str.ofString "found"), (PySem.Str.ofString "variable")]
theorem sc__law_clause : FnScope N__law_clause [(PySem.Str.ofString "pool")] (defScope s__law_clause) := ⟨rfl, rfl, rfl, by decide +kernel, rfl, by decide +kernel, by decide +kernel⟩
def S__law_clause (F__law_draw : Fn) : Sx := sSeq (sOwn 1 (eDisp (eNil))) (sSeq (sFor (iRange2 (eC (.int 1)) (eC (.int 7))) (.name 2) (sIf (bV (eOp2 dEq (eCallP 0 F__law_draw 1 (eCons (eC (.int 2)) (eNil))) (eC (.int 0)))) (sAppend 1 (eIdx (eTup (eCons (eVar 2) (eCons (eOp2 dSub (eC (.int 0)) (eVar 2)) (eNil)))) (eCallP 0 F__law_draw 1 (eCons (eC (.int 2)) (eNil))))) (sPass))) (sFreeze 1 (sRet (eOpN dTuple (eCons (eVar 1) (eNil))))))
theorem ok__law_clause {P : Program} {w : World} {K : PySem.W.Frag} {mg : Str → Option Value} {base : Heap} {a0 : Addr} {d0 : FuncData} (F__law_draw : Fn) {F : Fn} (Fu : Fun K (PySem.Str.ofString "_law_clause") (PySem.Str.ofString "_law_clause") s__law_clause a0 d0) (m_range : mg (PySem.Str.ofString "range") = none) (m_tuple : mg (PySem.Str.ofString "tuple") = none) {a__law_draw : Addr} {d__law_draw : FuncData} (f_law_draw : FnOk P w K mg base (L2.CX P w) 1 a__law_draw d__law_draw [(PySem.Str.ofString "pool"), (PySem.Str.ofString "size")] (spL K mg 1 F__law_draw)) (g_law_draw : mg (PySem.Str.ofString "_law_draw") = some (.ref a__law_draw)) (k_law_draw : PySem.W.keepIn K (.ref a__law_draw) = true) (b_law_draw : Binds K d__law_draw [(PySem.Str.ofString "pool"), (PySem.Str.ofString "size")] []) (hw : KeepsP 0 N__law_clause.length F (S__law_clause F__law_draw)) : FnOk P w K mg base (L2.CX P w) (1 + 1) a0 d0 [(PySem.Str.ofString "pool")] (spL K mg 0 F) :=
  okL Fu sc__law_clause rfl (fun cdv A outer s H E G xw hr xo => have nd := sc__law_clause.nd; (ss_cons (s_own (i := 1) nd rfl (by first | exact .inl rfl | exact .inr rfl) (p_disp pa_nil')) (ss_cons (s_for (passes_of rfl) rfl (i_range2 (by rfl) m_range p_int p_int) (g_name 2 (pg_name (i := 2) nd rfl (by first | exact .inl rfl | exact .inr rfl))) (ss_one (s_if (t_cmp (op_eqD (units_of hr (by decide))) f_eq (p_callP (i := 0) (f_law_draw.mono (by first | decide | exact Nat.le_refl _)) (hr.mono (by first | decide | exact Nat.le_refl _)) (by rfl) g_law_draw k_law_draw b_law_draw (pv 0) (pa_cons' p_int pa_nil')) p_int (by first | exact nomark _ | rfl)) (ss_one (s_append (pv 1) (p_idx (p_tup (pa_cons' (p_var 2 (pv 2)) (pa_cons' (p_op op_sub f_sub p_int (p_var 2 (pv 2))) pa_nil'))) (p_callP (i := 0) (f_law_draw.mono (by first | decide | exact Nat.le_refl _)) (hr.mono (by first | decide | exact Nat.le_refl _)) (by rfl) g_law_draw k_law_draw b_law_draw (pv 0) (pa_cons' p_int pa_nil'))))) ss_nil))) (ss_freeze 1 (ss_one (s_ret (p_callTy call_tuple_of f_tuple (by rfl) m_tuple rfl (pa_cons' (p_var 1 (pv 1)) pa_nil')))))))) hw
abbrev s_law : Stmt := topS 21
abbrev N_law : List Str := [(PySem.Str.ofString "script"), (PySem.Str.ofString "pool"), (PySem.Str.ofString "turn"), (PySem.Str.ofString "literals"), (PySem.Str.ofString "count"), (PySem.Str.ofString "one"), (PySem.Str.ofString "two"), (PySem.Str.ofString "values"), (PySem.Str.ofString "k"), (PySem.Str.ofString "held"), (PySem.Str.ofString "literal"), (PySem.Str.ofString "variable"), (PySem.Str.ofString "due")]
theorem sc_law : FnScope N_law [(PySem.Str.ofString "script")] (defScope s_law) := ⟨rfl, rfl, rfl, by decide +kernel, rfl, by decide +kernel, by decide +kernel⟩
def S_law {F__law_pool : List Da → (List Da → Prop) → Prop} (hF__law_pool : ∀ as k k', (∀ d, k d → k' d) → F__law_pool as k → F__law_pool as k') (F__law_drawn : Fn) (F__law_draw : Fn) (F__law_same : Fn) (F__law_clause : Fn) (F__law_due : Fn) (F__law_told : Fn) (F_is_clause : Fn) (F__law_is : Fn) (F_holds : Fn) (F_subsumes : Fn) : Sx := sSeq (sOwn 1 (eCallO F__law_pool hF__law_pool 2 (eCons (eVar 0) (eCons (eC (.int 0)) (eNil))))) (sPool 1 (sSeq (sFor (iRange1 (eC (.int 4))) (.name 2) (sSeq (sSet 3 (eCallP 1 F__law_drawn 0 (eNil))) (sSeq (sIf (bNot (bT (eCall F__law_same 2 (eCons (eCall F__law_told 4 (eCons (eC (.int 0)) (eCons (eVar 3) (eCons (eC .non) (eCons (eC .non) (eNil)))))) (eCons (eCall F__law_due 1 (eCons (eVar 3) (eNil))) (eNil)))))) (sRet (eC (.bl false))) (sPass)) (sSeq (sSet 4 (eCallP 1 F__law_draw 1 (eCons (eC (.int 8)) (eNil)))) (sSeq (sIf (bNot (bT (eCall F__law_same 2 (eCons (eCall F_is_clause 2 (eCons (eOpN dTuple (eCons (eVar 3) (eNil))) (eCons (eVar 4) (eNil)))) (eCons (eCall F__law_is 2 (eCons (eVar 3) (eCons (eVar 4) (eNil)))) (eNil)))))) (sRet (eC (.bl false))) (sPass)) (sSeq (sAsg (eTup (eCons (eCallP 1 F__law_clause 0 (eNil)) (eCons (eCallP 1 F__law_clause 0 (eNil)) (eNil)))) (.tup [.name 5, .name 6])) (sSeq (sSet 7 (eOpN dTuple (eCons (eFrz (eLC [8] (iRange1 (eC (.int 6))) (.name 8) bYes (eCallP 1 F__law_draw 1 (eCons (eC (.int 2)) (eNil))))) (eNil)))) (sSeq (sSet 9 (eOp2 dNe (eFrz (eLC [10] (iSeq (eVar 5)) (.name 10) (bV (eOp2 dEq (eIdx (eVar 7) (eOp2 dSub (eOpN dAbs (eCons (eVar 10) (eNil))) (eC (.int 1)))) (eOpN dInt (eCons (eOp2 dGt (eVar 10) (eC (.int 0))) (eNil))))) (eVar 10))) (eFrz (eDisp (eNil))))) (sSeq (sIf (bNot (bT (eCall F__law_same 2 (eCons (eFrz (eDisp (eCons (eCall F_holds 2 (eCons (eVar 5) (eCons (eVar 7) (eNil)))) (eCons (eCall F_subsumes 2 (eCons (eVar 5) (eCons (eVar 6) (eNil)))) (eCons (eCall F_subsumes 2 (eCons (eVar 5) (eCons (eVar 5) (eNil)))) (eNil)))))) (eCons (eFrz (eDisp (eCons (eVar 9) (eCons (eOp2 dEq (eFrz (eLC [10] (iSeq (eVar 5)) (.name 10) (bV (eOp2 (dIn true) (eVar 10) (eVar 6))) (eVar 10))) (eFrz (eDisp (eNil)))) (eCons (eC (.bl true)) (eNil)))))) (eNil)))))) (sRet (eC (.bl false))) (sPass)) (sSeq (sSet 11 (eOp2 dAdd (eC (.int 1)) (eCallP 1 F__law_draw 1 (eCons (eC (.int 6)) (eNil))))) (sSeq (sSet 12 (eC (.str (PySem.Str.ofString "variable")))) (sSeq (sIf (bAnd (bV (eOp2 (dIn false) (eVar 11) (eVar 5))) (bV (eOp2 (dIn false) (eOp2 dSub (eC (.int 0)) (eVar 11)) (eVar 6)))) (sSeq (sSet 12 (eCall F__law_due 1 (eCons (eOp2 dAdd (eFrz (eLC [10] (iSeq (eVar 5)) (.name 10) (bV (eOp2 dNe (eVar 10) (eVar 11))) (eVar 10))) (eFrz (eLC [10] (iSeq (eVar 6)) (.name 10) (bV (eOp2 dNe (eVar 10) (eOp2 dSub (eC (.int 0)) (eVar 11)))) (eVar 10)))) (eNil)))) (sIf (bV (eOp2 dEq (eVar 12) (eC (.str (PySem.Str.ofString "opposites"))))) (sSet 12 (eC .non)) (sPass))) (sPass)) (sIf (bNot (bT (eCall F__law_same 2 (eCons (eCall F__law_told 4 (eCons (eC (.int 1)) (eCons (eVar 5) (eCons (eVar 6) (eCons (eVar 11) (eNil)))))) (eCons (eVar 12) (eNil)))))) (sRet (eC (.bl false))) (sPass)))))))))))))) (sRet (eC (.bl true)))))
theorem ok_law {P : Program} {w : World} {K : PySem.W.Frag} {mg : Str → Option Value} {base : Heap} {a0 : Addr} {d0 : FuncData} {F__law_pool : List Da → (List Da → Prop) → Prop} (hF__law_pool : ∀ as k k', (∀ d, k d → k' d) → F__law_pool as k → F__law_pool as k') (F__law_drawn : Fn) (F__law_draw : Fn) (F__law_same : Fn) (F__law_clause : Fn) (F__law_due : Fn) (F__law_told : Fn) (F_is_clause : Fn) (F__law_is : Fn) (F_holds : Fn) (F_subsumes : Fn) {F : Fn} (Fu : Fun K (PySem.Str.ofString "law") (PySem.Str.ofString "law") s_law a0 d0) (m_range : mg (PySem.Str.ofString "range") = none) (m_tuple : mg (PySem.Str.ofString "tuple") = none) (m_int : mg (PySem.Str.ofString "int") = none) (m_abs : mg (PySem.Str.ofString "abs") = none) {a__law_pool : Addr} {d__law_pool : FuncData} (f_law_pool : FnOk P w K mg base (L2.CX P w) 1 a__law_pool d__law_pool [(PySem.Str.ofString "script"), (PySem.Str.ofString "budget")] (spO K 2 F__law_pool)) (g_law_pool : mg (PySem.Str.ofString "_law_pool") = some (.ref a__law_pool)) (k_law_pool : PySem.W.keepIn K (.ref a__law_pool) = true) (b_law_pool : Binds K d__law_pool [(PySem.Str.ofString "script"), (PySem.Str.ofString "budget")] []) {a__law_drawn : Addr} {d__law_drawn : FuncData} (f_law_drawn : FnOk P w K mg base (L2.CX P w) 2 a__law_drawn d__law_drawn [(PySem.Str.ofString "pool")] (spL K mg 0 F__law_drawn)) (g_law_drawn : mg (PySem.Str.ofString "_law_drawn") = some (.ref a__law_drawn)) (k_law_drawn : PySem.W.keepIn K (.ref a__law_drawn) = true) (b_law_drawn : Binds K d__law_drawn [(PySem.Str.ofString "pool")] []) {a__law_draw : Addr} {d__law_draw : FuncData} (f_law_draw : FnOk P w K mg base (L2.CX P w) 1 a__law_draw d__law_draw [(PySem.Str.ofString "pool"), (PySem.Str.ofString "size")] (spL K mg 1 F__law_draw)) (g_law_draw : mg (PySem.Str.ofString "_law_draw") = some (.ref a__law_draw)) (k_law_draw : PySem.W.keepIn K (.ref a__law_draw) = true) (b_law_draw : Binds K d__law_draw [(PySem.Str.ofString "pool"), (PySem.Str.ofString "size")] []) {a__law_same : Addr} {d__law_same : FuncData} (f_law_same : FnOk P w K mg base (L2.CX P w) 4 a__law_same d__law_same [(PySem.Str.ofString "actual"), (PySem.Str.ofString "due")] (spD K mg 2 F__law_same)) (g_law_same : mg (PySem.Str.ofString "_law_same") = some (.ref a__law_same)) (k_law_same : PySem.W.keepIn K (.ref a__law_same) = true) (b_law_same : Binds K d__law_same [(PySem.Str.ofString "actual"), (PySem.Str.ofString "due")] []) {a__law_clause : Addr} {d__law_clause : FuncData} (f_law_clause : FnOk P w K mg base (L2.CX P w) 2 a__law_clause d__law_clause [(PySem.Str.ofString "pool")] (spL K mg 0 F__law_clause)) (g_law_clause : mg (PySem.Str.ofString "_law_clause") = some (.ref a__law_clause)) (k_law_clause : PySem.W.keepIn K (.ref a__law_clause) = true) (b_law_clause : Binds K d__law_clause [(PySem.Str.ofString "pool")] []) {a__law_due : Addr} {d__law_due : FuncData} (f_law_due : FnOk P w K mg base (L2.CX P w) 1 a__law_due d__law_due [(PySem.Str.ofString "literals")] (spD K mg 1 F__law_due)) (g_law_due : mg (PySem.Str.ofString "_law_due") = some (.ref a__law_due)) (k_law_due : PySem.W.keepIn K (.ref a__law_due) = true) (b_law_due : Binds K d__law_due [(PySem.Str.ofString "literals")] []) {a__law_told : Addr} {d__law_told : FuncData} (f_law_told : FnOk P w K mg base (L2.CX P w) 5 a__law_told d__law_told [(PySem.Str.ofString "way"), (PySem.Str.ofString "one"), (PySem.Str.ofString "two"), (PySem.Str.ofString "variable")] (spD K mg 4 F__law_told)) (g_law_told : mg (PySem.Str.ofString "_law_told") = some (.ref a__law_told)) (k_law_told : PySem.W.keepIn K (.ref a__law_told) = true) (b_law_told : Binds K d__law_told [(PySem.Str.ofString "way"), (PySem.Str.ofString "one"), (PySem.Str.ofString "two"), (PySem.Str.ofString "variable")] []) {a_is_clause : Addr} {d_is_clause : FuncData} (fis_clause : FnOk P w K mg base (L2.CX P w) 1 a_is_clause d_is_clause [(PySem.Str.ofString "clause"), (PySem.Str.ofString "count")] (spD K mg 2 F_is_clause)) (gis_clause : mg (PySem.Str.ofString "is_clause") = some (.ref a_is_clause)) (kis_clause : PySem.W.keepIn K (.ref a_is_clause) = true) (bis_clause : Binds K d_is_clause [(PySem.Str.ofString "clause"), (PySem.Str.ofString "count")] []) {a__law_is : Addr} {d__law_is : FuncData} (f_law_is : FnOk P w K mg base (L2.CX P w) 1 a__law_is d__law_is [(PySem.Str.ofString "clause"), (PySem.Str.ofString "count")] (spD K mg 2 F__law_is)) (g_law_is : mg (PySem.Str.ofString "_law_is") = some (.ref a__law_is)) (k_law_is : PySem.W.keepIn K (.ref a__law_is) = true) (b_law_is : Binds K d__law_is [(PySem.Str.ofString "clause"), (PySem.Str.ofString "count")] []) {a_holds : Addr} {d_holds : FuncData} (fholds : FnOk P w K mg base (L2.CX P w) 2 a_holds d_holds [(PySem.Str.ofString "clause"), (PySem.Str.ofString "values")] (spD K mg 2 F_holds)) (gholds : mg (PySem.Str.ofString "holds") = some (.ref a_holds)) (kholds : PySem.W.keepIn K (.ref a_holds) = true) (bholds : Binds K d_holds [(PySem.Str.ofString "clause"), (PySem.Str.ofString "values")] []) {a_subsumes : Addr} {d_subsumes : FuncData} (fsubsumes : FnOk P w K mg base (L2.CX P w) 1 a_subsumes d_subsumes [(PySem.Str.ofString "one"), (PySem.Str.ofString "two")] (spD K mg 2 F_subsumes)) (gsubsumes : mg (PySem.Str.ofString "subsumes") = some (.ref a_subsumes)) (ksubsumes : PySem.W.keepIn K (.ref a_subsumes) = true) (bsubsumes : Binds K d_subsumes [(PySem.Str.ofString "one"), (PySem.Str.ofString "two")] []) (hw : Keeps 1 N_law.length F (S_law hF__law_pool F__law_drawn F__law_draw F__law_same F__law_clause F__law_due F__law_told F_is_clause F__law_is F_holds F_subsumes)) : FnOk P w K mg base (L2.CX P w) (5 + 1) a0 d0 [(PySem.Str.ofString "script")] (spD K mg 1 F) :=
  okD Fu sc_law rfl (fun cdv A outer s H E G xw hr xo => have nd := sc_law.nd; (ss_cons (s_own (i := 1) nd rfl (by first | exact .inl rfl | exact .inr rfl) (p_callO (f_law_pool.mono (by first | decide | exact Nat.le_refl _)) (hr.mono (by first | decide | exact Nat.le_refl _)) (by rfl) g_law_pool k_law_pool b_law_pool (pa_cons' (p_var 0 (pv 0)) (pa_cons' p_int pa_nil')))) (ss_pool 1 (ss_cons (s_for (passes_of rfl) rfl (i_range1 (by rfl) m_range p_int) (g_name 2 (pg_name (i := 2) nd rfl (by first | exact .inl rfl | exact .inr rfl))) (ss_cons (s_set (i := 3) nd rfl (by first | exact .inl rfl | exact .inr rfl) (p_callP (i := 1) (f_law_drawn.mono (by first | decide | exact Nat.le_refl _)) (hr.mono (by first | decide | exact Nat.le_refl _)) (by rfl) g_law_drawn k_law_drawn b_law_drawn (pv 1) pa_nil')) (ss_cons (s_if (t_not (t_truth (p_call xo (f_law_same.mono (by first | decide | exact Nat.le_refl _)) (hr.mono (by first | decide | exact Nat.le_refl _)) (by rfl) g_law_same k_law_same b_law_same (pa_cons' (p_call xo (f_law_told.mono (by first | decide | exact Nat.le_refl _)) (hr.mono (by first | decide | exact Nat.le_refl _)) (by rfl) g_law_told k_law_told b_law_told (pa_cons' p_int (pa_cons' (p_var 3 (pv 3)) (pa_cons' p_non (pa_cons' p_non pa_nil'))))) (pa_cons' (p_call xo (f_law_due.mono (by first | decide | exact Nat.le_refl _)) (hr.mono (by first | decide | exact Nat.le_refl _)) (by rfl) g_law_due k_law_due b_law_due (pa_cons' (p_var 3 (pv 3)) pa_nil')) pa_nil'))))) (ss_one (s_ret p_bl)) ss_nil) (ss_cons (s_set (i := 4) nd rfl (by first | exact .inl rfl | exact .inr rfl) (p_callP (i := 1) (f_law_draw.mono (by first | decide | exact Nat.le_refl _)) (hr.mono (by first | decide | exact Nat.le_refl _)) (by rfl) g_law_draw k_law_draw b_law_draw (pv 1) (pa_cons' p_int pa_nil'))) (ss_cons (s_if (t_not (t_truth (p_call xo (f_law_same.mono (by first | decide | exact Nat.le_refl _)) (hr.mono (by first | decide | exact Nat.le_refl _)) (by rfl) g_law_same k_law_same b_law_same (pa_cons' (p_call xo (fis_clause.mono (by first | decide | exact Nat.le_refl _)) (hr.mono (by first | decide | exact Nat.le_refl _)) (by rfl) gis_clause kis_clause bis_clause (pa_cons' (p_callTy call_tuple_of f_tuple (by rfl) m_tuple rfl (pa_cons' (p_var 3 (pv 3)) pa_nil')) (pa_cons' (p_var 4 (pv 4)) pa_nil'))) (pa_cons' (p_call xo (f_law_is.mono (by first | decide | exact Nat.le_refl _)) (hr.mono (by first | decide | exact Nat.le_refl _)) (by rfl) g_law_is k_law_is b_law_is (pa_cons' (p_var 3 (pv 3)) (pa_cons' (p_var 4 (pv 4)) pa_nil'))) pa_nil'))))) (ss_one (s_ret p_bl)) ss_nil) (ss_cons (s_asg (p_tup (pa_cons' (p_callP (i := 1) (f_law_clause.mono (by first | decide | exact Nat.le_refl _)) (hr.mono (by first | decide | exact Nat.le_refl _)) (by rfl) g_law_clause k_law_clause b_law_clause (pv 1) pa_nil') (pa_cons' (p_callP (i := 1) (f_law_clause.mono (by first | decide | exact Nat.le_refl _)) (hr.mono (by first | decide | exact Nat.le_refl _)) (by rfl) g_law_clause k_law_clause b_law_clause (pv 1) pa_nil') pa_nil'))) (g_tup rfl (gs_cons (g_name 5 (pg_name (i := 5) nd rfl (by first | exact .inl rfl | exact .inr rfl))) (gs_cons (g_name 6 (pg_name (i := 6) nd rfl (by first | exact .inl rfl | exact .inr rfl))) gs_nil)))) (ss_cons (s_set (i := 7) nd rfl (by first | exact .inl rfl | exact .inr rfl) (p_callTy call_tuple_of f_tuple (by rfl) m_tuple rfl (pa_cons' (p_frz (p_lc rfl nd (i_range1 (by rfl) m_range p_int) (blkOk_by (own := [((PySem.Str.ofString "k"), 8)]) (N := N_law) (sc := defScope (s_law)) (by decide +kernel)) (fun _ _ _ _ _ => (g_name 8 (pg_name (i := 8) nd rfl (by first | exact .inl rfl | exact .inr rfl)))) (fun _ _ _ _ _ => ts_nil) (fun _ _ _ _ _ => (p_callP (i := 1) (f_law_draw.mono (by first | decide | exact Nat.le_refl _)) (hr.mono (by first | decide | exact Nat.le_refl _)) (by rfl) g_law_draw k_law_draw b_law_draw (pv 1) (pa_cons' p_int pa_nil'))) (by decide))) pa_nil'))) (ss_cons (s_set (i := 9) nd rfl (by first | exact .inl rfl | exact .inr rfl) (p_cmp (op_neD (units_of hr (by decide))) f_ne (p_frz (p_lc rfl nd (i_seq (p_var 5 (pv 5))) (blkOk_by (own := [((PySem.Str.ofString "literal"), 10)]) (N := N_law) (sc := defScope (s_law)) (by decide +kernel)) (fun _ _ _ _ _ => (g_name 10 (pg_name (i := 10) nd rfl (by first | exact .inl rfl | exact .inr rfl)))) (fun _ _ _ _ _ => (ts_one (t_cmp (op_eqD (units_of hr (by decide))) f_eq (p_idx (p_var 7 (pv 7)) (p_op op_sub f_sub (p_callB call_abs f_abs (by rfl) m_abs rfl (pa_cons' (p_var 10 (pv 10)) pa_nil')) p_int)) (p_callTy call_int1 f_int (by rfl) m_int rfl (pa_cons' (p_cmp op_gt f_gt (p_var 10 (pv 10)) p_int (by first | exact nomark _ | rfl)) pa_nil')) (by first | exact nomark _ | rfl)))) (fun _ _ _ _ _ => (p_var 10 (pv 10))) (by decide))) (p_frz (p_disp pa_nil')) (by first | exact nomark _ | rfl))) (ss_cons (s_if (t_not (t_truth (p_call xo (f_law_same.mono (by first | decide | exact Nat.le_refl _)) (hr.mono (by first | decide | exact Nat.le_refl _)) (by rfl) g_law_same k_law_same b_law_same (pa_cons' (p_frz (p_disp (pa_cons' (p_call xo (fholds.mono (by first | decide | exact Nat.le_refl _)) (hr.mono (by first | decide | exact Nat.le_refl _)) (by rfl) gholds kholds bholds (pa_cons' (p_var 5 (pv 5)) (pa_cons' (p_var 7 (pv 7)) pa_nil'))) (pa_cons' (p_call xo (fsubsumes.mono (by first | decide | exact Nat.le_refl _)) (hr.mono (by first | decide | exact Nat.le_refl _)) (by rfl) gsubsumes ksubsumes bsubsumes (pa_cons' (p_var 5 (pv 5)) (pa_cons' (p_var 6 (pv 6)) pa_nil'))) (pa_cons' (p_call xo (fsubsumes.mono (by first | decide | exact Nat.le_refl _)) (hr.mono (by first | decide | exact Nat.le_refl _)) (by rfl) gsubsumes ksubsumes bsubsumes (pa_cons' (p_var 5 (pv 5)) (pa_cons' (p_var 5 (pv 5)) pa_nil'))) pa_nil'))))) (pa_cons' (p_frz (p_disp (pa_cons' (p_var 9 (pv 9)) (pa_cons' (p_cmp (op_eqD (units_of hr (by decide))) f_eq (p_frz (p_lc rfl nd (i_seq (p_var 5 (pv 5))) (blkOk_by (own := [((PySem.Str.ofString "literal"), 10)]) (N := N_law) (sc := defScope (s_law)) (by decide +kernel)) (fun _ _ _ _ _ => (g_name 10 (pg_name (i := 10) nd rfl (by first | exact .inl rfl | exact .inr rfl)))) (fun _ _ _ _ _ => (ts_one (t_cmp (o_notin (units_of hr (by decide))) f_in (p_var 10 (pv 10)) (p_var 6 (pv 6)) (by first | exact nomark _ | rfl)))) (fun _ _ _ _ _ => (p_var 10 (pv 10))) (by decide))) (p_frz (p_disp pa_nil')) (by first | exact nomark _ | rfl)) (pa_cons' p_bl pa_nil'))))) pa_nil'))))) (ss_one (s_ret p_bl)) ss_nil) (ss_cons (s_set (i := 11) nd rfl (by first | exact .inl rfl | exact .inr rfl) (p_op o_add f_add p_int (p_callP (i := 1) (f_law_draw.mono (by first | decide | exact Nat.le_refl _)) (hr.mono (by first | decide | exact Nat.le_refl _)) (by rfl) g_law_draw k_law_draw b_law_draw (pv 1) (pa_cons' p_int pa_nil')))) (ss_cons (s_set (i := 12) nd rfl (by first | exact .inl rfl | exact .inr rfl) p_str) (ss_cons (s_if (PW.pt (t_and (t_cmp (o_in (units_of hr (by decide))) f_in (p_var 11 (pv 11)) (p_var 5 (pv 5)) (by first | exact nomark _ | rfl)) (t_and1 (t_cmp (o_in (units_of hr (by decide))) f_in (p_op op_sub f_sub p_int (p_var 11 (pv 11))) (p_var 6 (pv 6)) (by first | exact nomark _ | rfl))))) (ss_cons (s_set (i := 12) nd rfl (by first | exact .inl rfl | exact .inr rfl) (p_call xo (f_law_due.mono (by first | decide | exact Nat.le_refl _)) (hr.mono (by first | decide | exact Nat.le_refl _)) (by rfl) g_law_due k_law_due b_law_due (pa_cons' (p_op o_add f_add (p_frz (p_lc rfl nd (i_seq (p_var 5 (pv 5))) (blkOk_by (own := [((PySem.Str.ofString "literal"), 10)]) (N := N_law) (sc := defScope (s_law)) (by decide +kernel)) (fun _ _ _ _ _ => (g_name 10 (pg_name (i := 10) nd rfl (by first | exact .inl rfl | exact .inr rfl)))) (fun _ _ _ _ _ => (ts_one (t_cmp (op_neD (units_of hr (by decide))) f_ne (p_var 10 (pv 10)) (p_var 11 (pv 11)) (by first | exact nomark _ | rfl)))) (fun _ _ _ _ _ => (p_var 10 (pv 10))) (by decide))) (p_frz (p_lc rfl nd (i_seq (p_var 6 (pv 6))) (blkOk_by (own := [((PySem.Str.ofString "literal"), 10)]) (N := N_law) (sc := defScope (s_law)) (by decide +kernel)) (fun _ _ _ _ _ => (g_name 10 (pg_name (i := 10) nd rfl (by first | exact .inl rfl | exact .inr rfl)))) (fun _ _ _ _ _ => (ts_one (t_cmp (op_neD (units_of hr (by decide))) f_ne (p_var 10 (pv 10)) (p_op op_sub f_sub p_int (p_var 11 (pv 11))) (by first | exact nomark _ | rfl)))) (fun _ _ _ _ _ => (p_var 10 (pv 10))) (by decide)))) pa_nil'))) (ss_one (s_if (t_cmp (op_eqD (units_of hr (by decide))) f_eq (p_var 12 (pv 12)) p_str (by first | exact nomark _ | rfl)) (ss_one (s_set (i := 12) nd rfl (by first | exact .inl rfl | exact .inr rfl) p_non)) ss_nil))) ss_nil) (ss_one (s_if (t_not (t_truth (p_call xo (f_law_same.mono (by first | decide | exact Nat.le_refl _)) (hr.mono (by first | decide | exact Nat.le_refl _)) (by rfl) g_law_same k_law_same b_law_same (pa_cons' (p_call xo (f_law_told.mono (by first | decide | exact Nat.le_refl _)) (hr.mono (by first | decide | exact Nat.le_refl _)) (by rfl) g_law_told k_law_told b_law_told (pa_cons' p_int (pa_cons' (p_var 5 (pv 5)) (pa_cons' (p_var 6 (pv 6)) (pa_cons' (p_var 11 (pv 11)) pa_nil'))))) (pa_cons' (p_var 12 (pv 12)) pa_nil'))))) (ss_one (s_ret p_bl)) ss_nil)))))))))))))) (ss_one (s_ret p_bl)))))) hw
end K00
end

section
set_option maxHeartbeats 2000000
namespace K00
open PySem PySem.Spec PyProof.Rows L2 Pu PySem.W

/-! ### sorted sets of encoded numbers -/
theorem uniq {lt : Int → Int → Prop} (as : ∀ a b, lt a b → lt b a → False) : ∀ {a b : List Int}, (∀ x, x ∈ a ↔ x ∈ b) → a.Pairwise lt → b.Pairwise lt → a = b
  | [], [], _, _, _ => rfl
  | [], y :: b, h, _, _ => absurd ((h y).mpr List.mem_cons_self) (by simp)
  | x :: a, [], h, _, _ => absurd ((h x).mp List.mem_cons_self) (by simp)
  | x :: a, y :: b, h, pa, pb => by
    rw [List.pairwise_cons] at pa pb
    have e : x = y := by
      by_cases e : x = y
      · exact e
      · have h1 : x ∈ b := (List.mem_cons.mp ((h x).mp List.mem_cons_self)).resolve_left e
        have h2 : y ∈ a := (List.mem_cons.mp ((h y).mpr List.mem_cons_self)).resolve_left (Ne.symm e)
        exact (as _ _ (pa.1 y h2) (pb.1 x h1)).elim
    subst e
    refine congrArg _ (uniq as (fun z => ⟨fun hz => ?_, fun hz => ?_⟩) pa.2 pb.2)
    · rcases List.mem_cons.mp ((h z).mp (List.mem_cons_of_mem _ hz)) with e | e
      · rw [e] at hz
        exact (as _ _ (pa.1 _ hz) (pa.1 _ hz)).elim
      · exact e
    · rcases List.mem_cons.mp ((h z).mpr (List.mem_cons_of_mem _ hz)) with e | e
      · rw [e] at hz
        exact (as _ _ (pb.1 _ hz) (pb.1 _ hz)).elim
      · exact e
theorem map_pre {α β : Type} {f : α → β} : ∀ {l : List β}, (∀ b ∈ l, ∃ a, f a = b) → ∃ xs : List α, l = xs.map f
  | [], _ => ⟨[], rfl⟩
  | b :: l, h => by
    obtain ⟨a, e⟩ := h b List.mem_cons_self
    obtain ⟨xs, e2⟩ := map_pre (l := l) fun c hc => h c (List.mem_cons_of_mem _ hc)
    exact ⟨a :: xs, by rw [List.map_cons, e, ← e2]⟩
theorem ordE {enc : Int → Da} {R : Int → Int → Prop} [∀ a b, Decidable (R a b)] (hk : ∀ x y, Da.key (enc x) = Da.key (enc y) → x = y) (hle : ∀ a b, dataLe false Da.py (enc a) (enc b) = decide (R a b))
    (tr : ∀ a b c, R a b → R b c → R a c) (tot : ∀ a b, R a b ∨ R b a) {ls : List Int} {ms : List Da} (h : SetOf (ls.map enc) ms) : ∃ out : List Int, (∀ x, x ∈ out ↔ x ∈ ls) ∧ out.Pairwise R ∧ out.Nodup ∧ sortD ms = out.map enc := by
  obtain ⟨nd, sub, all⟩ := h
  obtain ⟨xs, rfl⟩ := map_pre (f := enc) (l := ms) fun b hb => by
    obtain ⟨a, _, e⟩ := List.mem_map.mp (sub b hb)
    exact ⟨a, e⟩
  have inj : ∀ x y, enc x = enc y → x = y := fun x y e => hk x y (by rw [e])
  have ndx : xs.Nodup := by
    rw [List.map_map] at nd
    exact List.Pairwise.of_map _ (fun a b hne e => hne (by rw [e])) nd
  refine ⟨xs.mergeSort (fun a b => dataLe false Da.py (enc a) (enc b)), fun x => ?_, ?_, ?_, ms_map xs⟩
  · rw [List.mem_mergeSort]
    constructor
    · intro hx
      obtain ⟨y, hy, e⟩ := List.mem_map.mp (sub _ (List.mem_map.mpr ⟨x, hx, rfl⟩))
      rw [← inj _ _ e]
      exact hy
    · intro hx
      have z := all _ (List.mem_map.mpr ⟨x, hx, rfl⟩)
      rw [List.map_map] at z
      obtain ⟨y, hy, e⟩ := List.mem_map.mp z
      rw [← hk _ _ e]
      exact hy
  · have p := List.pairwise_mergeSort (le := fun a b => dataLe false Da.py (enc a) (enc b)) (fun a b c h1 h2 => by
      rw [hle] at h1 h2 ⊢
      exact decide_eq_true (tr a b c (of_decide_eq_true h1) (of_decide_eq_true h2))) (fun a b => by
      rw [hle, hle]
      rcases tot a b with z | z
      · simp [z]
      · simp [z]) xs
    exact p.imp fun {a b} z => by
      rw [hle] at z
      exact of_decide_eq_true z
  · exact (List.mergeSort_perm xs _).nodup_iff.mpr ndx

def enc3 (x : Int) : Da := .tup [.int (iabs x), .bl (decide (x < 0)), .int x]
def enc2 (x : Int) : Da := .tup [.int (iabs x), .int x]
def R3 (a b : Int) : Prop := iabs a < iabs b ∨ (iabs a = iabs b ∧ b ≤ a)
def R2 (a b : Int) : Prop := iabs a < iabs b ∨ (iabs a = iabs b ∧ a ≤ b)
instance (a b : Int) : Decidable (R3 a b) := by unfold R3; exact inferInstance
instance (a b : Int) : Decidable (R2 a b) := by unfold R2; exact inferInstance
theorem iabs_eq (x : Int) : iabs x = if x < 0 then -x else x := rfl
theorem key3 (x y : Int) (h : Da.key (enc3 x) = Da.key (enc3 y)) : x = y := by
  simp [enc3, Da.key, Da.num, List.mapM_cons] at h
  exact h.2.2
theorem key2 (x y : Int) (h : Da.key (enc2 x) = Da.key (enc2 y)) : x = y := by
  simp [enc2, Da.key, Da.num, List.mapM_cons] at h
  exact h.2
theorem le2 (a b : Int) : dataLe false Da.py (enc2 a) (enc2 b) = decide (R2 a b) := by
  show (!dataLt (.tuple [.int (iabs b), .int b]) (.tuple [.int (iabs a), .int a])) = _
  rw [dataLt_ii]
  by_cases h : R2 a b
  · have h' : ¬ (iabs b < iabs a ∨ (iabs b = iabs a ∧ b < a)) := by unfold R2 at h; omega
    simp [h, h']
  · have h' : iabs b < iabs a ∨ (iabs b = iabs a ∧ b < a) := by unfold R2 at h; omega
    simp [h, h']
theorem lt3 (a b : Int) : dataLt (.tuple [.int (iabs b), .bool (decide (b < 0)), .int b]) (.tuple [.int (iabs a), .bool (decide (a < 0)), .int a]) = decide (iabs b < iabs a ∨ (iabs b = iabs a ∧ a < b)) := by
  rw [dataLt_tuple, dataLt_cons (by simp [alike]), dataLt_cons (by simp [alike]), dataLt_cons (by simp [alike]), dataLt_int, dataLt_int, dataLt_bool]
  have e0 : PyProof.Rows.lexLt itemOrd (keyToksAll []) (keyToksAll []) = false := lex_irrefl _
  rw [e0]
  simp only [PyData.eqv, beq_iff_eq, iabs_eq, b2i]
  by_cases h1 : b < 0 <;> by_cases h2 : a < 0 <;> simp [h1, h2] <;> (try split) <;> (try split) <;> first | omega | (rw [Bool.eq_iff_iff]; simp only [Bool.and_eq_true, Bool.or_eq_true, decide_eq_true_eq, Bool.not_eq_true', decide_eq_false_iff_not]; omega) | (simp; omega)
theorem le3 (a b : Int) : dataLe false Da.py (enc3 a) (enc3 b) = decide (R3 a b) := by
  show (!dataLt (.tuple [.int (iabs b), .bool (decide (b < 0)), .int b]) (.tuple [.int (iabs a), .bool (decide (a < 0)), .int a])) = _
  rw [lt3]
  by_cases h : R3 a b
  · have h' : ¬ (iabs b < iabs a ∨ (iabs b = iabs a ∧ a < b)) := by unfold R3 at h; omega
    simp [h, h']
  · have h' : iabs b < iabs a ∨ (iabs b = iabs a ∧ a < b) := by unfold R3 at h; omega
    simp [h, h']
theorem ord3 {ls : List Int} {ms : List Da} (h : SetOf (ls.map enc3) ms) : ∃ out : List Int, (∀ x, x ∈ out ↔ x ∈ ls) ∧ out.Pairwise R3 ∧ out.Nodup ∧ sortD ms = out.map enc3 :=
  ordE key3 le3 (fun a b c h1 h2 => by unfold R3 at *; omega) (fun a b => by unfold R3; omega) h
theorem ord2 {ls : List Int} {ms : List Da} (h : SetOf (ls.map enc2) ms) : ∃ out : List Int, (∀ x, x ∈ out ↔ x ∈ ls) ∧ out.Pairwise R2 ∧ out.Nodup ∧ sortD ms = out.map enc2 :=
  ordE key2 le2 (fun a b c h1 h2 => by unfold R2 at *; omega) (fun a b => by unfold R2; omega) h
end K00
end

section
set_option maxHeartbeats 2000000
namespace K00
open PySem PySem.Spec PyProof.Rows L2 Pu PySem.W

/-! ### comprehensions whose steps are plain -/
theorem lcW_of {α : Type} {t : Tt} {c : W Bool} {e : W Da} {ρ : En} {k : List Da → Prop} (f : α → Da) (p : α → Bool) (g : α → Da) : ∀ (xs : List α) (acc : List Da),
    (∀ x ∈ xs, ∃ ρ', t.bind (f x) ρ = some ρ' ∧ (∀ K : Bool → En → Prop, K (p x) ρ' → c.wp ρ' K noEx) ∧ (p x = true → ∀ K : Da → En → Prop, K (g x) ρ' → e.wp ρ' K noEx)) → k (acc ++ (xs.filter p).map g) → lcW t c e (xs.map f) acc ρ k
  | [], acc, _, h => by simpa [lcW] using h
  | x :: xs, acc, hs, h => by
    obtain ⟨ρ', hb, hc, he⟩ := hs x List.mem_cons_self
    rw [List.map_cons]
    unfold lcW
    refine ⟨ρ', hb, hc _ ⟨rfl, ?_⟩⟩
    by_cases hp : p x = true
    · rw [if_pos hp]
      refine he hp _ ⟨rfl, lcW_of f p g xs _ (fun y hy => hs y (List.mem_cons_of_mem _ hy)) ?_⟩
      rw [List.filter_cons_of_pos hp, List.map_cons] at h
      simpa using h
    · rw [if_neg hp]
      refine lcW_of f p g xs _ (fun y hy => hs y (List.mem_cons_of_mem _ hy)) ?_
      rw [List.filter_cons_of_neg hp] at h
      exact h
theorem lcW_all {α : Type} {t : Tt} {e : W Da} {ρ : En} {k : List Da → Prop} (f : α → Da) (g : α → Da) (xs : List α) (acc : List Da)
    (hs : ∀ x ∈ xs, ∃ ρ', t.bind (f x) ρ = some ρ' ∧ ∀ K : Da → En → Prop, K (g x) ρ' → e.wp ρ' K noEx) (h : k (acc ++ xs.map g)) : lcW t bYes e (xs.map f) acc ρ k :=
  lcW_of f (fun _ => true) g xs acc (fun x hx => by
    obtain ⟨ρ', h1, h2⟩ := hs x hx
    exact ⟨ρ', h1, fun K z => z, fun _ => h2⟩) (by rw [List.filter_eq_self.mpr (fun _ _ => rfl)]; exact h)

def dis (l : List Int) : List Da := l.map Da.int
/-- a list or a tuple of these -/
def seqD (ls : List Int) (d : Da) : Prop := d = .lst (dis ls) ∨ d = .tup (dis ls)
theorem seq_items {ls : List Int} {d : Da} (h : seqD ls d) : itemsOf d = some (dis ls) := by rcases h with rfl | rfl <;> rfl

/-! ### ordered -/
def F_ordered : Fn := ⟨fun ds k _ => ∃ (ls : List Int) (d : Da), ds = [d] ∧ seqD ls d ∧ ls.length < 60 ∧ ∀ out : List Int, (∀ x, x ∈ out ↔ x ∈ ls) → out.Pairwise R3 → out.Nodup → k (.lst (dis out)),
  fun hk _ ⟨ls, d, e, h1, h2, h3⟩ => ⟨ls, d, e, h1, h2, fun out a b c => hk _ (h3 out a b c)⟩⟩
theorem k_ordered : Keeps 1 N_ordered.length F_ordered S_ordered := by
  rintro ds k x hl ⟨ls, d, rfl, hd, hlen, h⟩
  show (S_ordered).wp [some (.dat d), none, none] _
  simp only [S_ordered, sRet, eFrz, W.bind_wp, eLC, iSeq, eSortS, eSC, eVar, W.env_wp, look, List.getElem?_cons_zero, W.opt_some, W.ret_wp, seq_items hd]
  refine ⟨by simpa [dis] using hlen, rfl, lcW_all Da.int enc3 ls [] (fun y hy => ?_) ?_⟩
  · exact ⟨_, rfl, fun K hK => by simpa [eKey, eTup, eCons, eNil, eOpN, eOp2, dAbs, dLt, dI2, eC, eVar, look, W.bind_wp, enc3, Da.key, Da.num, iabs] using hK⟩
  · rw [List.nil_append]
    refine ⟨fun a ha b hb => ?_, by simp; omega, fun ms hm => ?_⟩
    · obtain ⟨y, _, rfl⟩ := List.mem_map.mp ha
      obtain ⟨z, _, rfl⟩ := List.mem_map.mp hb
      simp [enc3, Da.py, Da.pys, alike, alikeAll]
    · obtain ⟨out, o1, o2, o3, e⟩ := ord3 hm
      rw [e]
      refine ⟨rfl, lcW_all enc3 Da.int out [] (fun y hy => ?_) ?_⟩
      · exact ⟨_, rfl, fun K hK => by simpa [eIdx, eOp2, eVar, eC, look, dIdx, enc3, atI, ixN] using hK⟩
      · exact h out o1 o2 o3
end K00
end

section
set_option maxHeartbeats 2000000
namespace K00
open PySem PySem.Spec PyProof.Rows L2 Pu PySem.W

theorem opt_of {α : Type} {o : Option α} {a : α} {ρ : En} {k : α → En → Prop} {x : Ex → En → Prop} (e : o = some a) (h : k a ρ) : (W.opt o).wp ρ k x := by
  rw [e]
  exact h
theorem boolL_map {α : Type} (p : α → Bool) : ∀ xs : List α, boolL (xs.map fun x => Da.bl (p x)) = some (xs.map p)
  | [] => rfl
  | x :: xs => by simp [boolL, boolL_map p xs]
theorem dAll_map {α : Type} (p : α → Bool) (xs : List α) : dAll [.lst (xs.map fun x => Da.bl (p x))] = some (.bl (xs.all p)) := by
  simp only [dAll, boolL_map, Option.map_some, List.all_map]
  rfl
theorem dAny_map {α : Type} (p : α → Bool) (xs : List α) : dAny [.lst (xs.map fun x => Da.bl (p x))] = some (.bl (xs.any p)) := by
  simp only [dAny, boolL_map, Option.map_some, List.any_map]
  rfl
@[simp] theorem dEq_int (a b : Int) : dEq (.int a) (.int b) = some (.bl (decide (a = b))) := by
  simp [dEq, Da.ok, Da.eqv]
  by_cases h : a = b <;> simp [h]
@[simp] theorem dNe_int (a b : Int) : dNe (.int a) (.int b) = some (.bl (decide (a ≠ b))) := by
  simp [dNe, Da.ok, Da.eqv]
  by_cases h : a = b <;> simp [h]
theorem flat_dis (ls : List Int) : (dis ls).all Da.flat = true := by
  unfold dis
  rw [List.all_map, List.all_eq_true]
  exact fun _ _ => rfl
theorem any_dis (a : Int) (ls : List Int) : ((dis ls).any fun z => z.eqv (.int a)) = decide (a ∈ ls) := by
  unfold dis
  rw [List.any_map]
  induction ls with
  | nil => simp
  | cons x ls ih =>
    rw [List.any_cons, ih]
    simp only [Function.comp_apply, Da.eqv, List.mem_cons]
    by_cases h : a = x
    · simp [h]
    · have h' : (x == a) = false := by simpa using fun e => h e.symm
      simp [h, h']
theorem dIn_lst (neg : Bool) (a : Int) (ls : List Int) : dIn neg (.int a) (.lst (dis ls)) = some (.bl (xor neg (decide (a ∈ ls)))) := by
  show (if Da.flat (.int a) = true ∧ (dis ls).all Da.flat = true then _ else _) = _
  rw [if_pos ⟨rfl, flat_dis ls⟩, any_dis]
theorem dIn_tup (neg : Bool) (a : Int) (ls : List Int) : dIn neg (.int a) (.tup (dis ls)) = some (.bl (xor neg (decide (a ∈ ls)))) := by
  show (if Da.flat (.int a) = true ∧ (dis ls).all Da.flat = true then _ else _) = _
  rw [if_pos ⟨rfl, flat_dis ls⟩, any_dis]
theorem dIn_seq (neg : Bool) (a : Int) {ls : List Int} {d : Da} (h : seqD ls d) : dIn neg (.int a) d = some (.bl (xor neg (decide (a ∈ ls)))) := by
  rcases h with rfl | rfl
  · exact dIn_lst neg a ls
  · exact dIn_tup neg a ls

/-! ### neighbours -/
theorem cut1 (ds : List Da) : Pu.cutD ds (some 1) none = ds.drop 1 := by
  unfold Pu.cutD
  rw [show HT.sIx ds.length 0 (some 1) = min 1 ds.length from HT.sIx_nat ds.length 0 1, HT.sIx_none]
  cases ds with
  | nil => rfl
  | cons x r =>
    rw [show min 1 (x :: r).length = 1 by
      rw [List.length_cons]
      omega]
    show (List.take ((x :: r).length - 1) r) = r
    rw [List.length_cons, Nat.add_sub_cancel]
    exact List.take_length
def pair (p : Int × Int) : Da := .tup [.int p.1, .int p.2]
theorem zip_dis : ∀ a b : List Int, zipD (dis a) (dis b) = (a.zip b).map pair
  | [], b => by simp [dis, zipD]
  | x :: a, [] => by simp [dis, zipD]
  | x :: a, y :: b => by
    have ih := zip_dis a b
    simp only [dis] at ih
    simp [dis, zipD, ih, pair]
theorem zip_items {d : Da} {ls : List Int} (h : seqD ls d) : ∃ d', dSl d (some 1) none = some d' ∧ zip2 d d' = some ((ls.zip (ls.drop 1)).map pair) := by
  rcases h with rfl | rfl
  · refine ⟨.lst (dis (ls.drop 1)), ?_, ?_⟩
    · show some (Da.lst (Pu.cutD (dis ls) (some 1) none)) = _
      rw [cut1]
      simp [dis, List.map_drop]
    · show some (zipD (dis ls) (dis (ls.drop 1))) = _
      rw [zip_dis]
  · refine ⟨.tup (dis (ls.drop 1)), ?_, ?_⟩
    · show some (Da.tup (Pu.cutD (dis ls) (some 1) none)) = _
      rw [cut1]
      simp [dis, List.map_drop]
    · show some (zipD (dis ls) (dis (ls.drop 1))) = _
      rw [zip_dis]
/-- a relation of neighbours -/
theorem adj_all {R : Int → Int → Prop} [∀ a b, Decidable (R a b)] (tr : ∀ a b c, R a b → R b c → R a c) : ∀ ls : List Int, ((ls.zip (ls.drop 1)).all fun p => decide (R p.1 p.2)) = true ↔ ls.Pairwise R
  | [] => by simp
  | [x] => by simp
  | x :: y :: r => by
    have ih := adj_all tr (y :: r)
    rw [List.drop_succ_cons, List.drop_zero] at ih ⊢
    rw [List.zip_cons_cons, List.all_cons, Bool.and_eq_true, ih, decide_eq_true_eq, List.pairwise_cons (a := x)]
    constructor
    · rintro ⟨h1, h2⟩
      refine ⟨fun z hz => ?_, h2⟩
      rcases List.mem_cons.mp hz with e | hz
      · rw [e]; exact h1
      · exact tr _ _ _ h1 ((List.pairwise_cons.mp h2).1 z hz)
    · rintro ⟨h1, h2⟩
      exact ⟨h1 y List.mem_cons_self, h2⟩

/-! ### clause_of -/
def bad (ls : List Int) : Prop := ∃ x ∈ ls, x = 0 ∨ 1000000 < iabs x
def opp (ls : List Int) : Prop := ∃ x ∈ ls, -x ∈ ls
def lta (a b : Int) : Prop := iabs a < iabs b
instance (a b : Int) : Decidable (lta a b) := by unfold lta; exact inferInstance
abbrev eLit : Ex := ⟨(PySem.Str.ofString "BadClause"), (PySem.Str.ofString "what"), .str (PySem.Str.ofString "literal")⟩
abbrev eOpp : Ex := ⟨(PySem.Str.ofString "BadClause"), (PySem.Str.ofString "what"), .str (PySem.Str.ofString "opposites")⟩
def F_clause_of : Fn := ⟨fun ds k x => ∃ (ls : List Int) (d : Da), ds = [d] ∧ seqD ls d ∧ ls.length < 60 ∧ (bad ls → x eLit) ∧ (¬ bad ls → opp ls → x eOpp) ∧
    (¬ bad ls → ¬ opp ls → ∀ out : List Int, (∀ x, x ∈ out ↔ x ∈ ls) → out.Pairwise lta → k (.tup (dis out))),
  fun hk hx ⟨ls, d, e, h1, h2, h3, h4, h5⟩ => ⟨ls, d, e, h1, h2, fun b => hx _ (h3 b), fun b o => hx _ (h4 b o), fun b o out a c => hk _ (h5 b o out a c)⟩⟩
theorem lit_len : (PySem.Str.ofString "literal").length ≤ 1000 := by decide +kernel
theorem opp_len : (PySem.Str.ofString "opposites").length ≤ 1000 := by decide +kernel
theorem lc_cast {t : Tt} {c : W Bool} {e : W Da} {ds ds' acc : List Da} {ρ : En} {k : List Da → Prop} (h : ds = ds') (q : lcW t c e ds' acc ρ k) : lcW t c e ds acc ρ k := by
  rw [h]
  exact q
theorem zip_cut (out : List Int) : zipD (dis out) (Pu.cutD (dis out) (some 1) none) = (out.zip (out.drop 1)).map pair := by
  rw [cut1, show (dis out).drop 1 = dis (out.drop 1) by simp [dis, List.map_drop], zip_dis]
theorem lta_tr (a b c : Int) (h1 : lta a b) (h2 : lta b c) : lta a c := by unfold lta at *; omega
theorem R3_tr (a b c : Int) (h1 : R3 a b) (h2 : R3 b c) : R3 a c := by unfold R3 at *; omega
theorem any_eq {out : List Int} (h : out.Pairwise R3) : ((out.zip (out.drop 1)).any fun p => decide (iabs p.1 = iabs p.2)) = true ↔ ¬ out.Pairwise lta := by
  have r := (adj_all (R := R3) R3_tr out).mpr h
  rw [← adj_all (R := lta) lta_tr out, List.all_eq_true] at *
  rw [List.any_eq_true]
  constructor
  · rintro ⟨p, hp, e⟩ al
    have e := of_decide_eq_true e
    have := of_decide_eq_true (al p hp)
    unfold lta at this
    omega
  · intro n
    refine Classical.byContradiction fun m => n fun p hp => decide_eq_true ?_
    have q := of_decide_eq_true (r p hp)
    have : iabs p.1 ≠ iabs p.2 := fun e => m ⟨p, hp, decide_eq_true e⟩
    unfold R3 at q
    unfold lta
    omega
theorem iabs_neg (x : Int) : iabs (-x) = iabs x := by unfold iabs; split <;> split <;> omega
theorem iabs_two {x y : Int} (h : iabs x = iabs y) : x = y ∨ y = -x := by unfold iabs at h; split at h <;> split at h <;> omega
theorem pw_two {R : Int → Int → Prop} : ∀ {l : List Int} {x y : Int}, l.Pairwise R → x ∈ l → y ∈ l → x ≠ y → R x y ∨ R y x
  | z :: l, x, y, h, hx, hy, n => by
    rw [List.pairwise_cons] at h
    rcases List.mem_cons.mp hx with e | hx
    · rcases List.mem_cons.mp hy with e' | hy
      · exact absurd (e.trans e'.symm) n
      · rw [e]; exact .inl (h.1 y hy)
    · rcases List.mem_cons.mp hy with e' | hy
      · rw [e']; exact .inr (h.1 x hx)
      · exact pw_two h.2 hx hy n
theorem opp_iff {ls out : List Int} (o1 : ∀ x, x ∈ out ↔ x ∈ ls) (o2 : out.Pairwise R3) (o3 : out.Nodup) (nb : ¬ bad ls) : ¬ out.Pairwise lta ↔ opp ls := by
  constructor
  · intro n
    refine Classical.byContradiction fun no => n ?_
    refine (List.Pairwise.and o2 o3).imp_of_mem fun {a b} ha hb ⟨h1, h2⟩ => ?_
    unfold lta
    rcases h1 with h1 | ⟨h1, _⟩
    · exact h1
    · rcases iabs_two h1 with e | e
      · exact absurd e h2
      · exact absurd ⟨a, (o1 a).mp ha, by rw [← e]; exact (o1 b).mp hb⟩ no
  · rintro ⟨x, hx, hy⟩ p
    have n : x ≠ -x := fun e => nb ⟨x, hx, .inl (by omega)⟩
    have q := pw_two p ((o1 x).mpr hx) ((o1 _).mpr hy) n
    unfold lta at q
    rw [iabs_neg] at q
    omega
theorem k_clause_of : Keeps 1 N_clause_of.length F_clause_of (S_clause_of F_ordered) := by
  rintro ds k x hl ⟨ls, d, rfl, hd, hlen, hb, ho, hk⟩
  show (S_clause_of F_ordered).wp [some (.dat d), none, none, none, none] _
  refine ⟨rfl, ls, d, rfl, hd, hlen, fun out o1 o2 o3 => ?_⟩
  have hbad : (out.all fun y => (decide (y ≠ 0) && decide (iabs y ≤ 1000000))) = true ↔ ¬ bad ls := by
    rw [List.all_eq_true]
    constructor
    · rintro h ⟨y, hy, z⟩
      have := h y ((o1 y).mpr hy)
      simp at this
      omega
    · intro h y hy
      have : ¬ (y = 0 ∨ 1000000 < iabs y) := fun z => h ⟨y, (o1 y).mp hy, z⟩
      simp
      omega
  refine ⟨rfl, lcW_all Da.int (fun y => Da.bl (decide (y ≠ 0) && decide (iabs y ≤ 1000000))) out [] (fun y hy => ⟨_, rfl, fun K hK => ?_⟩) ?_⟩
  · by_cases h0 : y = 0
    · simpa [eAnd, bV, eOp2, eOpN, eCons, eNil, eVar, eC, look, dAbs, dLe, dI2, asB, h0] using hK
    · simpa [eAnd, bV, eOp2, eOpN, eCons, eNil, eVar, eC, look, dAbs, dLe, dI2, asB, h0] using hK
  refine opt_of (dAll_map _ out) ?_
  by_cases hbd : bad ls
  · have e : (out.all fun y => (decide (y ≠ 0) && decide (iabs y ≤ 1000000))) = false := by
      rw [Bool.eq_false_iff]
      exact fun z => (hbad.mp z) hbd
    show (if (!(out.all fun y => (decide (y ≠ 0) && decide (iabs y ≤ 1000000)))) = true then _ else _)
    rw [e, if_pos (show (!false) = true from rfl)]
    exact ⟨lit_len, hb hbd⟩
  · have e := hbad.mpr hbd
    show (if (!(out.all fun y => (decide (y ≠ 0) && decide (iabs y ≤ 1000000)))) = true then _ else _)
    rw [e, if_neg (show ¬ (!true) = true from by decide)]
    refine ⟨rfl, lc_cast (zip_cut out) (lcW_all pair (fun p => Da.bl (decide (iabs p.1 = iabs p.2))) (out.zip (out.drop 1)) [] (fun p hp => ⟨_, rfl, fun K hK => ?_⟩) ?_)⟩
    · simpa [eOp2, eOpN, eCons, eNil, eVar, look, dAbs] using hK
    refine opt_of (dAny_map _ (out.zip (out.drop 1))) ?_
    have h1 := any_eq o2
    have h2 := opp_iff o1 o2 o3 hbd
    by_cases hop : opp ls
    · have e := h1.mpr (h2.mpr hop)
      show (if ((out.zip (out.drop 1)).any fun p => decide (iabs p.1 = iabs p.2)) = true then _ else _)
      rw [if_pos e]
      exact ⟨opp_len, ho hbd hop⟩
    · have e : ¬ ((out.zip (out.drop 1)).any fun p => decide (iabs p.1 = iabs p.2)) = true := fun z => hop (h2.mp (h1.mp z))
      show (if ((out.zip (out.drop 1)).any fun p => decide (iabs p.1 = iabs p.2)) = true then _ else _)
      rw [if_neg e]
      exact hk hbd hop out o1 (Classical.byContradiction fun z => hop (h2.mp z))
end K00
end

section
set_option maxHeartbeats 4000000
namespace K00
open PySem PySem.Spec PyProof.Rows L2 Pu PySem.W

/-! ### is_clause -/
def isC (ls : List Int) (n : Int) : Prop := (∀ x ∈ ls, x ≠ 0 ∧ iabs x ≤ n) ∧ ls.Pairwise lta
noncomputable def isCb (ls : List Int) (n : Int) : Bool := @decide (isC ls n) (Classical.propDecidable _)
theorem isCb_true {ls : List Int} {n : Int} (h : isC ls n) : isCb ls n = true := @decide_eq_true _ (Classical.propDecidable _) h
theorem isCb_false {ls : List Int} {n : Int} (h : ¬ isC ls n) : isCb ls n = false := @decide_eq_false _ (Classical.propDecidable _) h
def F_is_clause : Fn := ⟨fun ds k _ => ∃ (ls : List Int) (d : Da) (n : Int), ds = [d, .int n] ∧ seqD ls d ∧ ls.length < 60 ∧ k (.bl (isCb ls n)), fun hk _ ⟨ls, d, n, e, h1, h0, h2⟩ => ⟨ls, d, n, e, h1, h0, hk _ h2⟩⟩
theorem k_is_clause : Keeps 2 N_is_clause.length F_is_clause S_is_clause := by
  rintro ds k x hl ⟨ls, d, n, rfl, hd, hlen, h⟩
  show S_is_clause.wp [some (.dat d), some (.dat (.int n)), none, none, none] _
  refine opt_of (seq_items hd) ⟨rfl, lcW_all Da.int (fun y => Da.bl (decide (y ≠ 0) && decide (iabs y ≤ n))) ls [] (fun y hy => ⟨_, rfl, fun K hK => ?_⟩) ?_⟩
  · by_cases h0 : y = 0
    · simpa [eOp2, eOp1, eOpN, eCons, eNil, eTup, eFrz, eIdx, bV, bT, bNot, bAnd, bOr, eAnd, eOr, eNot, eIf, asB, truth, dAbs, dLt, dLe, dGt, dGe, dSub, dI2, eVar, eC, look, h0] using hK
    · simpa [eOp2, eOp1, eOpN, eCons, eNil, eTup, eFrz, eIdx, bV, bT, bNot, bAnd, bOr, eAnd, eOr, eNot, eIf, asB, truth, dAbs, dLt, dLe, dGt, dGe, dSub, dI2, eVar, eC, look, h0] using hK
  refine opt_of (dAll_map _ ls) ?_
  by_cases ha : (ls.all fun y => (decide (y ≠ 0) && decide (iabs y ≤ n))) = true
  · show (if (!(ls.all fun y => (decide (y ≠ 0) && decide (iabs y ≤ n)))) = true then _ else _)
    rw [ha, if_neg (show ¬ (!true) = true by decide)]
    obtain ⟨d', e1, e2⟩ := zip_items hd
    refine opt_of e1 (opt_of e2 ⟨rfl, lcW_all pair (fun p => Da.bl (decide (lta p.1 p.2))) (ls.zip (ls.drop 1)) [] (fun p hp => ⟨_, rfl, fun K hK => ?_⟩) ?_⟩)
    · have e : (decide (lta p.1 p.2)) = decide (iabs p.1 < iabs p.2) := rfl
      rw [e] at hK
      simpa [eOp2, eOp1, eOpN, eCons, eNil, eTup, eFrz, eIdx, bV, bT, bNot, bAnd, bOr, eAnd, eOr, eNot, eIf, asB, truth, dAbs, dLt, dLe, dGt, dGe, dSub, dI2, eVar, eC, look] using hK
    · refine opt_of (dAll_map _ (ls.zip (ls.drop 1))) ?_
      have e : ((ls.zip (ls.drop 1)).all fun p => decide (lta p.1 p.2)) = isCb ls n := by
        have hA : ∀ x ∈ ls, x ≠ 0 ∧ iabs x ≤ n := fun y hy => by
          have := List.all_eq_true.mp ha y hy
          simpa using this
        by_cases hp : ls.Pairwise lta
        · rw [(adj_all lta_tr ls).mpr hp, isCb_true ⟨hA, hp⟩]
        · rw [isCb_false (fun z => hp z.2), Bool.eq_false_iff]
          exact fun z => hp ((adj_all lta_tr ls).mp z)
      show k (.bl _)
      rw [e]
      exact h
  · show (if (!(ls.all fun y => (decide (y ≠ 0) && decide (iabs y ≤ n)))) = true then _ else _)
    rw [Bool.eq_false_iff.mpr ha, if_pos (show (!false) = true from rfl)]
    have e : isCb ls n = false := isCb_false fun z => ha (List.all_eq_true.mpr fun y hy => by simpa using z.1 y hy)
    rw [e] at h
    exact h

/-! ### is_true, holds, subsumes -/
def tv (vs : List Int) (x : Int) : Bool := decide (vs.getD ((iabs x).toNat - 1) 0 = if 0 < x then 1 else 0)
def F_is_true : Fn := ⟨fun ds k _ => ∃ (x : Int) (vs : List Int), ds = [.int x, .tup (dis vs)] ∧ 1 ≤ iabs x ∧ iabs x ≤ vs.length ∧ k (.bl (tv vs x)), fun hk _ ⟨x, vs, e, h1, h2, h3⟩ => ⟨x, vs, e, h1, h2, hk _ h3⟩⟩
theorem atI_dis {vs : List Int} {x : Int} (h1 : 1 ≤ iabs x) (h2 : iabs x ≤ vs.length) : atI (dis vs) (iabs x - 1) = some (.int (vs.getD ((iabs x).toNat - 1) 0)) := by
  have e : iabs x - 1 = (((iabs x).toNat - 1 : Nat) : Int) := by omega
  rw [e]
  refine atI_nat ?_
  unfold dis
  rw [List.getElem?_map, List.getD_eq_getElem?_getD, List.getElem?_eq_getElem (by omega)]
  rfl
theorem k_is_true : Keeps 2 N_is_true.length F_is_true S_is_true := by
  rintro ds k x hl ⟨y, vs, rfl, h1, h2, h⟩
  show S_is_true.wp [some (.dat (.int y)), some (.dat (.tup (dis vs)))] _
  refine opt_of (o := dIdx (.tup (dis vs)) (.int (iabs y - 1))) (a := .int (vs.getD ((iabs y).toNat - 1) 0)) (atI_dis h1 h2) ?_
  have e : k (.bl (decide (vs.getD ((iabs y).toNat - 1) 0 = if decide (0 < y) = true then 1 else 0))) := by
    unfold tv at h
    simpa using h
  show (W.opt (dInt [.bl (decide (0 < y))])).wp [some (.dat (.int y)), some (.dat (.tup (dis vs)))] (fun e ρ => (W.opt (dEq (.int (vs.getD ((iabs y).toNat - 1) 0)) e)).wp ρ (fun d _ => k d) (fun e _ => x e)) (fun e _ => x e)
  refine opt_of (a := .int (if decide (0 < y) = true then 1 else 0)) rfl (opt_of (dEq_int _ _) ?_)
  exact e
def F_holds : Fn := ⟨fun ds k _ => ∃ (ls vs : List Int) (d : Da), ds = [d, .tup (dis vs)] ∧ seqD ls d ∧ (∀ x ∈ ls, 1 ≤ iabs x ∧ iabs x ≤ vs.length) ∧ k (.bl (ls.any (tv vs))), fun hk _ ⟨ls, vs, d, e, h1, h2, h3⟩ => ⟨ls, vs, d, e, h1, h2, hk _ h3⟩⟩
theorem k_holds : Keeps 2 N_holds.length F_holds (S_holds F_is_true) := by
  rintro ds k x hl ⟨ls, vs, d, rfl, hd, h2, h⟩
  show (S_holds F_is_true).wp [some (.dat d), some (.dat (.tup (dis vs))), none] _
  refine opt_of (seq_items hd) ⟨rfl, lcW_all Da.int (fun y => Da.bl (tv vs y)) ls [] (fun y hy => ⟨_, rfl, fun K hK => ⟨rfl, y, vs, rfl, (h2 y hy).1, (h2 y hy).2, hK⟩⟩) ?_⟩
  exact opt_of (dAny_map _ ls) h
def F_subsumes : Fn := ⟨fun ds k _ => ∃ (ls ms : List Int) (d e : Da), ds = [d, e] ∧ seqD ls d ∧ seqD ms e ∧ k (.bl (ls.all fun x => decide (x ∈ ms))), fun hk _ ⟨ls, vs, d, e, e', h1, h2, h3⟩ => ⟨ls, vs, d, e, e', h1, h2, hk _ h3⟩⟩
theorem k_subsumes : Keeps 2 N_subsumes.length F_subsumes S_subsumes := by
  rintro ds k x hl ⟨ls, ms, d, e, rfl, hd, he, h⟩
  show S_subsumes.wp [some (.dat d), some (.dat e), none] _
  refine opt_of (seq_items hd) ⟨rfl, lcW_all Da.int (fun y => Da.bl (decide (y ∈ ms))) ls [] (fun y hy => ⟨_, rfl, fun K hK => opt_of (dIn_seq false y he) (by simpa using hK)⟩) ?_⟩
  exact opt_of (dAll_map _ ls) h

/-! ### resolved -/
abbrev eVarb : Ex := ⟨(PySem.Str.ofString "BadClause"), (PySem.Str.ofString "what"), .str (PySem.Str.ofString "variable")⟩
theorem var_len : (PySem.Str.ofString "variable").length ≤ 1000 := by decide +kernel
def rest (a b : List Int) (v : Int) : List Int := a.filter (fun x => decide (x ≠ v)) ++ b.filter (fun x => decide (x ≠ 0 - v))
def F_resolved : Fn := ⟨fun ds k x => ∃ (a b : List Int) (da db : Da) (v : Int), ds = [da, db, .int v] ∧ seqD a da ∧ seqD b db ∧ a.length + b.length < 60 ∧ (¬ (v ∈ a ∧ 0 - v ∈ b) → x eVarb) ∧
    (v ∈ a → 0 - v ∈ b → (opp (rest a b v) → k .non) ∧ (¬ opp (rest a b v) → (bad (rest a b v) → x eLit) ∧ (¬ bad (rest a b v) → ∀ out : List Int, (∀ x, x ∈ out ↔ x ∈ rest a b v) → out.Pairwise lta → k (.tup (dis out))))),
  fun hk hx ⟨a, b, da, db, v, e, h1, h2, h3, h4, h5⟩ => ⟨a, b, da, db, v, e, h1, h2, h3, fun z => hx _ (h4 z), fun y z => ⟨fun o => hk _ ((h5 y z).1 o), fun o => ⟨fun bb => hx _ (((h5 y z).2 o).1 bb), fun bb out m p => hk _ (((h5 y z).2 o).2 bb out m p)⟩⟩⟩⟩
theorem rest_len (a b : List Int) (v : Int) : (rest a b v).length ≤ a.length + b.length := by
  unfold rest
  rw [List.length_append]
  exact Nat.add_le_add (List.length_filter_le ..) (List.length_filter_le ..)
theorem k_resolved : Keeps 3 N_resolved.length F_resolved (S_resolved F_clause_of) := by
  rintro ds k x hl ⟨a, b, da, db, v, rfl, ha, hb, hlen, h4, h5⟩
  show (S_resolved F_clause_of).wp [some (.dat da), some (.dat db), some (.dat (.int v)), none, none] _
  refine opt_of (dIn_seq true v ha) ?_
  by_cases h1 : v ∈ a
  · by_cases h2 : 0 - v ∈ b
    · show (if (xor true (decide (v ∈ a))) = true then _ else _ : W Bool).wp _ _ _
      rw [decide_eq_true h1, if_neg (show ¬ (xor true true) = true by decide)]
      refine opt_of (dIn_seq true (0 - v) hb) ?_
      show (if (xor true (decide (0 - v ∈ b))) = true then _ else _)
      rw [decide_eq_true h2, if_neg (show ¬ (xor true true) = true by decide)]
      refine opt_of (seq_items ha) ⟨rfl, lcW_of Da.int (fun y => decide (y ≠ v)) Da.int a [] (fun y hy => ⟨_, rfl, fun K hK => by simpa [eOp2, eOp1, eOpN, eCons, eNil, eTup, eFrz, eIdx, bV, bT, bNot, bAnd, bOr, eAnd, eOr, eNot, eIf, asB, truth, dAbs, dLt, dLe, dGt, dGe, dSub, dI2, eVar, eC, look] using hK, fun _ K hK => hK⟩) ?_⟩
      refine ⟨_, rfl, opt_of (seq_items hb) ⟨rfl, lcW_of Da.int (fun y => decide (y ≠ 0 - v)) Da.int b [] (fun y hy => ⟨_, rfl, fun K hK => by simpa [eOp2, eOp1, eOpN, eCons, eNil, eTup, eFrz, eIdx, bV, bT, bNot, bAnd, bOr, eAnd, eOr, eNot, eIf, asB, truth, dAbs, dLt, dLe, dGt, dGe, dSub, dI2, eVar, eC, look] using hK, fun _ K hK => hK⟩) ?_⟩⟩
      have lz := rest_len a b v
      refine ⟨_, _, rfl, rfl, ?_, ?_⟩
      · have l1 := List.length_filter_le (fun y => decide (y ≠ v)) a
        have l2 := List.length_filter_le (fun y => decide (y ≠ 0 - v)) b
        rw [List.nil_append, List.nil_append, List.length_map, List.length_map]
        omega
      · have er : ([] ++ (a.filter fun y => decide (y ≠ v)).map Da.int) ++ ([] ++ (b.filter fun y => decide (y ≠ 0 - v)).map Da.int) = dis (rest a b v) := by
          simp [dis, rest, List.map_append]
        rw [er]
        refine ⟨dis (rest a b v), rfl, ?_⟩
        have sq : seqD (rest a b v) (.lst (dis (rest a b v))) := .inl rfl
        obtain ⟨hno, hyes⟩ := h5 h1 h2
        refine ⟨rfl, lcW_all Da.int (fun y => Da.bl (decide (0 - y ∈ rest a b v))) (rest a b v) [] (fun y hy => ⟨_, rfl, fun K hK => opt_of (dIn_lst false (0 - y) (rest a b v)) (by simpa using hK)⟩) ?_⟩
        refine opt_of (dAny_map _ (rest a b v)) ?_
        have eo : ((rest a b v).any fun y => decide (0 - y ∈ rest a b v)) = true ↔ opp (rest a b v) := by
          rw [List.any_eq_true]
          unfold opp
          simp
        by_cases ho : opp (rest a b v)
        · show (if ((rest a b v).any fun y => decide (0 - y ∈ rest a b v)) = true then _ else _)
          rw [if_pos (eo.mpr ho)]
          exact hno ho
        · show (if ((rest a b v).any fun y => decide (0 - y ∈ rest a b v)) = true then _ else _)
          rw [if_neg (fun z => ho (eo.mp z))]
          obtain ⟨hb1, hb2⟩ := hyes ho
          exact ⟨rfl, rest a b v, _, rfl, sq, by omega, hb1, fun _ o => absurd o ho, fun nb _ out m p => hb2 nb out m p⟩
    · show (if (xor true (decide (v ∈ a))) = true then _ else _ : W Bool).wp _ _ _
      rw [decide_eq_true h1, if_neg (show ¬ (xor true true) = true by decide)]
      refine opt_of (dIn_seq true (0 - v) hb) ?_
      show (if (xor true (decide (0 - v ∈ b))) = true then _ else _)
      rw [decide_eq_false h2, if_pos (show (xor true false) = true from rfl)]
      exact ⟨var_len, h4 fun z => h2 z.2⟩
  · show (if (xor true (decide (v ∈ a))) = true then _ else _ : W Bool).wp _ _ _
    rw [decide_eq_false h1, if_pos (show (xor true false) = true from rfl)]
    exact ⟨var_len, h4 fun z => h1 z.1⟩

/-! ### the pool -/
def F__law_pool (ds : List Da) (k : List Da → Prop) : Prop := ∃ (ns : List Int) (b : Int), ds = [.scr ns, .int b] ∧ k (poolD ns 0 0 1 0 b)
theorem hF__law_pool : ∀ as k k', (∀ d, k d → k' d) → F__law_pool as k → F__law_pool as k' := fun as k k' h ⟨ns, b, e, q⟩ => ⟨ns, b, e, h _ q⟩
theorem k__law_pool : ∀ ds k, ds.length = 2 → F__law_pool ds k → S__law_pool.wp (startE N__law_pool.length ds) (fun es _ => k es) noEx := by
  rintro ds k hl ⟨ns, b, rfl, h⟩
  show S__law_pool.wp [some (.dat (.scr ns)), some (.dat (.int b))] _ _
  exact ⟨show (6 : Nat) ≤ 1000 by decide, h⟩
end K00
end

section
set_option maxHeartbeats 4000000
namespace K00
open PySem PySem.Spec PyProof.Rows L2 Pu PySem.W

/-! ### _law_draw -/
def F__law_draw : Fn := ⟨fun ds k _ => ∃ n : Int, ds = [.int n] ∧ 1 ≤ n ∧ n < 1073741824 ∧ ∀ r : Int, 0 ≤ r → r < n → k (.int r), fun hk _ ⟨n, e, h1, h2, h⟩ => ⟨n, e, h1, h2, fun r a b => hk _ (h r a b)⟩⟩
def drA : Sx := (sIf (bAnd (bV (eOp2 dLe (eIxP 0 (eC (.int 2))) (eC (.int 0)))) (bAnd (bV (eOp2 dLe (eIxP 0 (eC (.int 4))) (eC (.int 0)))) (bV (eOp2 dLt (eIxP 0 (eC (.int 1))) (eOpN dLen (eCons (eIxP 0 (eC (.int 0))) (eNil))))))) (sSeq (sSet 2 (eIdx (eIxP 0 (eC (.int 0))) (eIxP 0 (eC (.int 1))))) (sSeq (sPutP 0 (eC (.int 1)) (eOp2 dAdd (eIxP 0 (eC (.int 1))) (eC (.int 1)))) (sSeq (sPutP 0 (eC (.int 3)) (eOp2 dMod (eOpN dInt (eCons (eOp2 dAdd (eOp2 dMul (eIxP 0 (eC (.int 3))) (eC (.int 31))) (eVar 2)) (eNil))) (eC (.int 2147483647)))) (sSeq (sPutP 0 (eC (.int 4)) (eC (.int 7))) (sIf (bV (eOp2 dGe (eVar 2) (eOp2 dPow (eC (.int 10)) (eC (.int 18))))) (sPutP 0 (eC (.int 2)) (eVar 2)) (sPass)))))) (sPass))
def drB : Sx := (sSeq (sIf (bV (eOp2 dGt (eIxP 0 (eC (.int 2))) (eC (.int 0)))) (sSeq (sSet 3 (eOp2 dMod (eOpN dInt (eCons (eIxP 0 (eC (.int 2))) (eNil))) (eVar 1))) (sSeq (sPutP 0 (eC (.int 2)) (eOp2 dDiv (eIxP 0 (eC (.int 2))) (eVar 1))) (sSeq (sPutP 0 (eC (.int 4)) (eC (.int 0))) (sRet (eVar 3))))) (sPass)) (sSeq (sPutP 0 (eC (.int 4)) (eOp2 dSub (eIxP 0 (eC (.int 4))) (eC (.int 1)))) (sSeq (sPutP 0 (eC (.int 3)) (eOp2 dMod (eOpN dInt (eCons (eOp2 dAdd (eOp2 dMul (eIxP 0 (eC (.int 3))) (eC (.int 48271))) (eC (.int 12345))) (eNil))) (eC (.int 2147483647)))) (sRet (eOp2 dMod (eOp2 dMod (eOpN dInt (eCons (eOp2 dAdd (eOp2 dMul (eIxP 0 (eC (.int 3))) (eC (.int 69621))) (eC (.int 7919))) (eNil))) (eC (.int 2147483647))) (eVar 1))))))
theorem po_ok {ns : List Int} {a b c d e : Int} (h1 : 0 ≤ a) (h2 : 0 ≤ c) (h3 : c < 2147483647) (h4 : ns.length ≤ 1000) : PoolOk (poolD ns a b c d e) := ⟨ns, a, b, c, d, e, rfl, h1, h2, h3, h4⟩
abbrev dst (ns : List Int) (a b c d e n : Int) (x2 : Option Ce) : En := [some (.plv (poolD ns a b c d e)), some (.dat (.int n)), x2, none]
theorem ix_po {ns : List Int} {a b c d e n j : Int} {x2 : Option Ce} {y : Da} {k : Da → En → Prop} {x : Ex → En → Prop} (h : atI (poolD ns a b c d e) j = some y) (q : k y (dst ns a b c d e n x2)) : (eIxP 0 (eC (.int j))).wp (dst ns a b c d e n x2) k x := ⟨rfl, opt_of h q⟩
theorem mulok {c z : Int} (h1 : 0 ≤ c) (h2 : c < 2147483647) : CMul c z := .inl (by omega)
theorem modok (x : Int) : 0 ≤ x % 2147483647 ∧ x % 2147483647 < 2147483647 := ⟨Int.emod_nonneg _ (by decide), Int.emod_lt_of_pos _ (by decide)⟩
theorem one_of {f : List Da → Option Da} {m : W Da} {ρ : En} {k : Da → En → Prop} {x : Ex → En → Prop} (h : m.wp ρ (fun d ρ1 => ∃ r, f [d] = some r ∧ k r ρ1) x) : (eOpN f (eCons m eNil)).wp ρ k x :=
  m.mono (fun d ρ1 ⟨r, e, q⟩ => opt_of e q) (fun _ _ z => z) h
theorem two_of {f : Da → Da → Option Da} {a b : W Da} {ρ : En} {k : Da → En → Prop} {x : Ex → En → Prop} (h : a.wp ρ (fun d ρ1 => b.wp ρ1 (fun e ρ2 => ∃ r, f d e = some r ∧ k r ρ2) x) x) : (eOp2 f a b).wp ρ k x :=
  a.mono (fun d ρ1 q => b.mono (fun e ρ2 ⟨r, h1, h2⟩ => opt_of h1 h2) (fun _ _ z => z) q) (fun _ _ z => z) h
theorem seqP {i : Nat} {m1 m2 : W Da} {b : Sx} {ρ : En} {E : Fl} (h : m2.wp ρ (fun d ρ1 => (lookP ρ1 i).isSome = true ∧ m1.wp ρ1 (fun k ρ2 => ∃ j ds n, asI k = some j ∧ lookP ρ2 i = some ds ∧ ixN ds.length j = some n ∧ PoolOk (ds.set n d) ∧ b.wp (ρ2.set i (some (.plv (ds.set n d)))) E) E.ex) E.ex) :
    (sSeq (sPutP i m1 m2) b).wp ρ E := h
theorem retS {m : W Da} {ρ : En} {E : Fl} (h : m.wp ρ E.rt E.ex) : (sRet m).wp ρ E := h
theorem ifS {c : W Bool} {a b : Sx} {ρ : En} {E : Fl} (h : c.wp ρ (fun k ρ' => if k = true then a.wp ρ' E else b.wp ρ' E) E.ex) : (sIf c a b).wp ρ E := h
theorem bV_of {m : W Da} {ρ : En} {k : Bool → En → Prop} {x : Ex → En → Prop} (h : m.wp ρ (fun d ρ1 => ∃ b, d = .bl b ∧ k b ρ1) x) : (bV m).wp ρ k x := m.mono (fun d ρ1 ⟨b, e, q⟩ => by
  subst e
  exact q) (fun _ _ z => z) h
theorem dPow_10_18 : dPow (.int 10) (.int 18) = some (.int (10 ^ 18)) := rfl
theorem var_of {i : Nat} {ρ : En} {d : Da} {k : Da → En → Prop} {x : Ex → En → Prop} (h : look ρ i = some d) (q : k d ρ) : (eVar i).wp ρ k x := opt_of h q
theorem dMod_int {i j : Int} (h : 0 < j) : dMod (.int i) (.int j) = some (.int (i % j)) := by simp [dMod, dI2, h]
theorem dDiv_int {i j : Int} (h : CDiv i j) : dDiv (.int i) (.int j) = some (.int (i / j)) := by simp [dDiv, dI2, h]
theorem dMul_int {i j : Int} (h : CMul i j) : dMul (.int i) (.int j) = some (.int (i * j)) := by simp [dMul, dI2, h]
theorem drB_ok {ns : List Int} {a b c d e n : Int} {x2 : Option Ce} {E : Fl} (ha : 0 ≤ a) (hc : 0 ≤ c) (hc2 : c < 2147483647) (hn : ns.length ≤ 1000) (h1 : 1 ≤ n) (h2 : n < 1073741824) (h : ∀ r ρ, 0 ≤ r → r < n → E.rt (.int r) ρ) :
    drB.wp (dst ns a b c d e n x2) E := by
  have hd : CDiv b n := ⟨by omega, h2⟩
  have h0 : 0 < n := by omega
  refine ⟨rfl, ?_⟩
  show (if decide (0 < b) = true then _ else _)
  by_cases hb : 0 < b
  · rw [if_pos (decide_eq_true hb)]
    refine ⟨rfl, ?_⟩
    show (W.opt (dMod (.int b) (.int n))).wp (dst ns a b c d e n x2) _ _
    refine opt_of (dMod_int h0) ?_
    refine ⟨rfl, ?_⟩
    show (W.opt (dDiv (.int b) (.int n))).wp _ _ _
    refine opt_of (dDiv_int hd) ?_
    refine ⟨rfl, 2, _, 2, rfl, rfl, rfl, po_ok ha hc hc2 hn, rfl, 4, _, 4, rfl, rfl, rfl, po_ok ha hc hc2 hn, ?_⟩
    exact h _ _ (Int.emod_nonneg _ (by omega)) (Int.emod_lt_of_pos _ h0)
  · rw [if_neg (fun z => hb (of_decide_eq_true z))]
    refine ⟨rfl, rfl, 4, _, 4, rfl, rfl, rfl, po_ok ha hc hc2 hn, ?_⟩
    dsimp only
    refine seqP (two_of (one_of (two_of (two_of ?_))))
    refine ⟨rfl, _, dMul_int (mulok hc hc2), _, rfl, _, rfl, _, dMod_int (i := c * 48271 + 12345) (by decide), ?_⟩
    refine ⟨rfl, 3, _, 3, rfl, rfl, rfl, po_ok ha (modok _).1 (modok _).2 hn, ?_⟩
    refine retS (two_of (two_of (one_of (two_of (two_of ?_)))))
    refine ⟨rfl, _, dMul_int (mulok (modok _).1 (modok _).2), _, rfl, _, rfl, _, dMod_int (i := (c * 48271 + 12345) % 2147483647 * 69621 + 7919) (by decide), _, dMod_int h0, ?_⟩
    exact h _ _ (Int.emod_nonneg _ (by omega)) (Int.emod_lt_of_pos _ h0)
/-- the first part: at most the pool's numbers change -/
theorem drA_ok {ns : List Int} {a b c d e n : Int} {E : Fl} (ha : 0 ≤ a) (hc : 0 ≤ c) (hc2 : c < 2147483647) (hn : ns.length ≤ 1000)
    (h : ∀ a b c d e x2, 0 ≤ a → 0 ≤ c → c < 2147483647 → E.nx (dst ns a b c d e n x2)) : drA.wp (dst ns a b c d e n none) E := by
  refine ⟨rfl, ?_⟩
  show (if decide (b ≤ 0) = true then _ else _ : W Bool).wp _ _ _
  by_cases hb : b ≤ 0
  · rw [if_pos (decide_eq_true hb)]
    refine ⟨rfl, ?_⟩
    show (if decide (d ≤ 0) = true then _ else _ : W Bool).wp _ _ _
    by_cases hd : d ≤ 0
    · rw [if_pos (decide_eq_true hd)]
      refine ⟨rfl, rfl, ?_⟩
      show (if decide (a < ((ns.map Da.int).length : Int)) = true then _ else _)
      by_cases hl : a < ((ns.map Da.int).length : Int)
      · rw [if_pos (decide_eq_true hl)]
        rw [List.length_map] at hl
        obtain ⟨y, hy⟩ : ∃ y, atI (ns.map Da.int) a = some (.int y) := by
          have e : a = ((a.toNat : Nat) : Int) := by omega
          rw [e]
          exact ⟨ns[a.toNat]'(by omega), atI_nat (by rw [List.getElem?_map, List.getElem?_eq_getElem (by omega)]; rfl)⟩
        refine ⟨rfl, rfl, ?_⟩
        refine opt_of (o := dIdx (.lst (ns.map Da.int)) (.int a)) hy ?_
        refine ⟨rfl, rfl, 1, _, 1, rfl, rfl, rfl, po_ok (a := a + 1) (by omega) hc hc2 hn, ?_⟩
        dsimp only
        refine seqP (two_of (one_of (two_of (two_of ?_))))
        refine ⟨rfl, _, dMul_int (mulok hc hc2), _, rfl, _, rfl, _, dMod_int (i := c * 31 + y) (by decide), ?_⟩
        refine ⟨rfl, 3, _, 3, rfl, rfl, rfl, po_ok (a := a + 1) (by omega) (modok _).1 (modok _).2 hn, ?_⟩
        refine ⟨rfl, 4, _, 4, rfl, rfl, rfl, po_ok (a := a + 1) (by omega) (modok _).1 (modok _).2 hn, ?_⟩
        dsimp only
        refine ifS (bV_of (two_of ?_))
        refine var_of (d := .int y) rfl ?_
        refine two_of (x := E.ex) ?_
        refine ⟨_, dPow_10_18, _, rfl, _, rfl, ?_⟩
        show (if decide ((10 : Int) ^ 18 ≤ y) = true then _ else _)
        by_cases hy2 : (10 : Int) ^ 18 ≤ y
        · rw [if_pos (decide_eq_true hy2)]
          exact ⟨rfl, 2, _, 2, rfl, rfl, rfl, po_ok (a := a + 1) (by omega) (modok _).1 (modok _).2 hn, h (a + 1) y _ 7 e _ (by omega) (modok _).1 (modok _).2⟩
        · rw [if_neg (fun z => hy2 (of_decide_eq_true z))]
          exact h (a + 1) b _ 7 e _ (by omega) (modok _).1 (modok _).2
      · rw [if_neg (fun z => hl (of_decide_eq_true z))]
        exact h a b c d e none ha hc hc2
    · rw [if_neg (fun z => hd (of_decide_eq_true z))]
      exact h a b c d e none ha hc hc2
  · rw [if_neg (fun z => hb (of_decide_eq_true z))]
    exact h a b c d e none ha hc hc2
theorem k__law_draw : KeepsP 1 N__law_draw.length F__law_draw S__law_draw := by
  rintro ds k hl ⟨n, rfl, h1, h2, h⟩
  refine ⟨rfl, ?_⟩
  rintro po ⟨ns, a, b, c, d, e, rfl, ha, hc, hc2, hn⟩
  exact drA_ok (n := n) ha hc hc2 hn fun a b c d e x2 ha hc hc2 => drB_ok ha hc hc2 hn h1 h2 fun r ρ h3 h4 => h r h3 h4
end K00
end

section
set_option maxHeartbeats 4000000
namespace K00
open PySem PySem.Spec PyProof.Rows L2 Pu PySem.W

/-! ### _law_same: the same thing on both sides -/
def pl : Nat → Da → Prop
  | _, .non => True
  | _, .bl _ => True
  | _, .int _ => True
  | _, .str s => PyData.strOk s = true
  | n + 1, .tup ds => ds.length ≤ 1000000 ∧ ∀ d ∈ ds, pl n d
  | n + 1, .lst ds => ds.length ≤ 1000000 ∧ ∀ d ∈ ds, pl n d
  | _, _ => False
def F_same : Nat → Fn
  | 0 => ⟨fun _ _ _ => False, fun _ _ z => z⟩
  | n + 1 => ⟨fun ds k _ => ∃ d, ds = [d, d] ∧ pl n d ∧ k (.bl true), fun hk _ ⟨d, e, h, q⟩ => ⟨d, e, h, hk _ q⟩⟩
theorem atI_at {ds : List Da} {i : Nat} {d : Da} (h : ds[i]? = some d) : atI ds ((i : Nat) : Int) = some d := atI_nat h
theorem same_loop {n : Nat} {d : Da} {ds : List Da} {E : Fl} (hd : itemsOf d = some ds) (hi : ∀ i : Nat, dIdx d (.int i) = atI ds i) (hp : ∀ x ∈ ds, pl n x) (hE : ∀ ρ, E.nx ρ) : ∀ (m j : Nat) (s2 : Option Ce), j + m = ds.length →
    forW (.name 2) (sIf (bNot (bT (eCall (F_same (n + 1)) 2 (eCons (eIdx (eVar 0) (eVar 2)) (eCons (eIdx (eVar 1) (eVar 2)) (eNil)))))) (sRet (eC (.bl false))) (sPass)) ((List.range' j m).map fun i : Nat => Da.int (0 + (i : Int))) [some (.dat d), some (.dat d), s2] E
  | 0, j, s2, _ => hE _
  | m + 1, j, s2, e => by
    rw [List.range'_succ, List.map_cons]
    have hx : atI ds ((j : Nat) : Int) = some ds[j] := atI_at (List.getElem?_eq_getElem (by omega))
    have hx' : dIdx d (.int (0 + ((j : Nat) : Int))) = some ds[j] := by rw [Int.zero_add, hi, hx]
    refine ⟨_, rfl, ?_⟩
    refine opt_of hx' ?_
    refine opt_of hx' ?_
    refine ⟨rfl, ds[j], rfl, hp _ (List.getElem_mem _), ?_⟩
    exact same_loop hd hi hp hE m (j + 1) _ (by omega)
theorem same_loop0 {n : Nat} {d : Da} {ds : List Da} {E : Fl} (hd : itemsOf d = some ds) (hi : ∀ i : Nat, dIdx d (.int i) = atI ds i) (hp : ∀ x ∈ ds, pl n x) (hE : ∀ ρ, E.nx ρ) :
    forW (.name 2) (sIf (bNot (bT (eCall (F_same (n + 1)) 2 (eCons (eIdx (eVar 0) (eVar 2)) (eCons (eIdx (eVar 1) (eVar 2)) (eNil)))))) (sRet (eC (.bl false))) (sPass)) (rangeD 0 ds.length) [some (.dat d), some (.dat d), none] E := by
  unfold rangeD
  rw [List.range_eq_range']
  exact same_loop hd hi hp hE ds.length 0 none (by omega)
theorem dEq_bl (a b : Bool) : dEq (.bl a) (.bl b) = some (.bl (a == b)) := by cases a <;> cases b <;> rfl
theorem dNe_bl (a b : Bool) : dNe (.bl a) (.bl b) = some (.bl (a != b)) := by cases a <;> cases b <;> rfl
theorem dEq_non : dEq .non .non = some (.bl true) := rfl
theorem dEq_str {s : Str} (h : PyData.strOk s = true) : dEq (.str s) (.str s) = some (.bl true) := by
  have e : Da.ok 60 (.str s) = true := h
  have e2 : Da.eqv (.str s) (.str s) = true := by
    show (s == s) = true
    simp
  unfold dEq
  rw [if_pos ⟨e, e⟩, e2]
theorem k__law_same (n : Nat) : Keeps 2 N__law_same.length (F_same (n + 1)) (S__law_same (F_same n)) := by
  rintro ds k x hl ⟨d, rfl, hd, h⟩
  show (S__law_same (F_same n)).wp [some (.dat d), some (.dat d), none] _
  cases d with
  | non => simpa [S__law_same, sSeq, sIf, sRet, eOp2, eOp1, eOpN, eCons, eNil, eTup, eFrz, eIdx, bV, bT, bNot, bAnd, bOr, eAnd, eOr, eNot, eIf, asB, truth, dAbs, dLt, dLe, dGt, dGe, dSub, dI2, eVar, eC, look, eIsi, tyD, isiS, dIsN, Da.isNon, dEq_bl, dNe_bl, dEq_non, sPass, flFn] using h
  | bl b => simpa [S__law_same, sSeq, sIf, sRet, eOp2, eOp1, eOpN, eCons, eNil, eTup, eFrz, eIdx, bV, bT, bNot, bAnd, bOr, eAnd, eOr, eNot, eIf, asB, truth, dAbs, dLt, dLe, dGt, dGe, dSub, dI2, eVar, eC, look, eIsi, tyD, isiS, dIsN, Da.isNon, dEq_bl, dNe_bl, dEq_non, sPass, flFn] using h
  | int i => simpa [S__law_same, sSeq, sIf, sRet, eOp2, eOp1, eOpN, eCons, eNil, eTup, eFrz, eIdx, bV, bT, bNot, bAnd, bOr, eAnd, eOr, eNot, eIf, asB, truth, dAbs, dLt, dLe, dGt, dGe, dSub, dI2, eVar, eC, look, eIsi, tyD, isiS, dIsN, Da.isNon, dEq_bl, dNe_bl, dEq_non, sPass, flFn] using h
  | str s =>
    have hs : PyData.strOk s = true := by cases n <;> exact hd
    simpa [S__law_same, sSeq, sIf, sRet, eOp2, eOp1, eOpN, eCons, eNil, eTup, eFrz, eIdx, bV, bT, bNot, bAnd, bOr, eAnd, eOr, eNot, eIf, asB, truth, dAbs, dLt, dLe, dGt, dGe, dSub, dI2, eVar, eC, look, eIsi, tyD, isiS, dIsN, Da.isNon, dEq_bl, dNe_bl, dEq_non, dEq_str hs, sPass, flFn] using h
  | tup es =>
    cases n with
    | zero => exact hd.elim
    | succ n =>
      obtain ⟨h1, h2⟩ := hd
      simp [S__law_same, sSeq, sIf, sRet, eOp2, eOp1, eOpN, eCons, eNil, eTup, eFrz, eIdx, bV, bT, bNot, bAnd, bOr, eAnd, eOr, eNot, eIf, asB, truth, dAbs, dLt, dLe, dGt, dGe, dSub, dI2, eVar, eC, look, eIsi, tyD, isiS, dNe_bl, sPass, dLen, sFor, iRange1]
      exact ⟨by omega, same_loop0 (d := .tup es) rfl (fun i => rfl) h2 (fun ρ => h)⟩
  | lst es =>
    cases n with
    | zero => exact hd.elim
    | succ n =>
      obtain ⟨h1, h2⟩ := hd
      simp [S__law_same, sSeq, sIf, sRet, eOp2, eOp1, eOpN, eCons, eNil, eTup, eFrz, eIdx, bV, bT, bNot, bAnd, bOr, eAnd, eOr, eNot, eIf, asB, truth, dAbs, dLt, dLe, dGt, dGe, dSub, dI2, eVar, eC, look, eIsi, tyD, isiS, dNe_bl, sPass, dLen, sFor, iRange1]
      exact ⟨by omega, same_loop0 (d := .lst es) rfl (fun i => rfl) h2 (fun ρ => h)⟩
  | obj c ns es => cases n <;> exact hd.elim
  | scr ns => cases n <;> exact hd.elim

/-! ### _law_is -/
def st1 (y z n : Int) (j : Nat) : Bool := decide (y = 0) || (decide (n < iabs y) || (decide (0 < j) && decide (iabs y ≤ iabs z)))
def stC (ls : List Int) (n : Int) (j : Nat) : Bool := st1 (ls.getD j 0) (ls.getD (j - 1) 0) n j
def F__law_is : Fn := ⟨fun ds k _ => ∃ (ls : List Int) (d : Da) (n : Int), ds = [d, .int n] ∧ seqD ls d ∧ ls.length < 60 ∧ k (.bl (isCb ls n)), fun hk _ ⟨ls, d, n, e, h1, h0, h2⟩ => ⟨ls, d, n, e, h1, h0, hk _ h2⟩⟩
theorem idx_seq {ls : List Int} {d : Da} (h : seqD ls d) {j : Nat} (hj : j < ls.length) : dIdx d (.int ((j : Nat) : Int)) = some (.int (ls.getD j 0)) := by
  have e : atI (dis ls) ((j : Nat) : Int) = some (.int (ls.getD j 0)) := atI_at (by
    unfold dis
    rw [List.getElem?_map, List.getD_eq_getElem?_getD, List.getElem?_eq_getElem hj]
    rfl)
  rcases h with rfl | rfl <;> exact e
theorem isC_iff (ls : List Int) (n : Int) : isC ls n ↔ ∀ j < ls.length, stC ls n j = false := by
  have key : ∀ (ls : List Int), ls.Pairwise lta ↔ ∀ j, j + 1 < ls.length → iabs (ls.getD j 0) < iabs (ls.getD (j + 1) 0) := by
    intro ls
    induction ls with
    | nil => simp
    | cons x ls ih =>
      cases ls with
      | nil => simp
      | cons y r =>
        rw [List.pairwise_cons, ih]
        constructor
        · rintro ⟨h1, h2⟩ j hj
          cases j with
          | zero => exact h1 y List.mem_cons_self
          | succ j => simpa using h2 j (by simpa using hj)
        · intro h
          have h2 : ∀ j, j + 1 < (y :: r).length → iabs ((y :: r).getD j 0) < iabs ((y :: r).getD (j + 1) 0) := fun j hj => by simpa using h (j + 1) (by simpa using hj)
          refine ⟨fun z hz => ?_, h2⟩
          have hxy : iabs x < iabs y := by simpa using h 0 (by simp)
          rcases List.mem_cons.mp hz with e | hz
          · rw [e]; exact hxy
          · have := (List.pairwise_cons.mp (ih.mpr h2)).1 z hz
            unfold lta at *
            omega
  constructor
  · rintro ⟨h1, h2⟩ j hj
    have hm : ls.getD j 0 ∈ ls := by
      rw [List.getD_eq_getElem?_getD, List.getElem?_eq_getElem hj]
      exact List.getElem_mem _
    obtain ⟨a1, a2⟩ := h1 _ hm
    unfold stC st1
    have h3 : 0 < j → iabs (ls.getD (j - 1) 0) < iabs (ls.getD j 0) := fun hp => by
      have := (key ls).mp h2 (j - 1) (by omega)
      rwa [show j - 1 + 1 = j by omega] at this
    rw [Bool.or_eq_false_iff, Bool.or_eq_false_iff, Bool.and_eq_false_iff]
    refine ⟨decide_eq_false a1, decide_eq_false (by omega), ?_⟩
    by_cases hp : 0 < j
    · have := h3 hp
      exact .inr (decide_eq_false (by omega))
    · exact .inl (decide_eq_false hp)
  · intro h
    have st : ∀ j, j < ls.length → ls.getD j 0 ≠ 0 ∧ iabs (ls.getD j 0) ≤ n ∧ (0 < j → iabs (ls.getD (j - 1) 0) < iabs (ls.getD j 0)) := fun j hj => by
      have q := h j hj
      unfold stC st1 at q
      simp only [Bool.or_eq_false_iff, Bool.and_eq_false_iff, decide_eq_false_iff_not] at q
      exact ⟨q.1, by omega, fun hp => by omega⟩
    refine ⟨fun y hy => ?_, (key ls).mpr fun j hj => ?_⟩
    · obtain ⟨j, hj, e⟩ := List.getElem_of_mem hy
      have q := st j hj
      rw [List.getD_eq_getElem?_getD, List.getElem?_eq_getElem hj, Option.getD_some, e] at q
      exact ⟨q.1, q.2.1⟩
    · have := (st (j + 1) hj).2.2 (by omega)
      simpa using this
theorem is_loop {ls : List Int} {d : Da} {n : Int} (hd : seqD ls d) {E : Fl} (hE : ∀ ρ, (∀ j < ls.length, stC ls n j = false) → E.nx ρ) (hF : ∀ ρ, (∃ j, j < ls.length ∧ stC ls n j = true) → E.rt (.bl false) ρ) : ∀ (m j : Nat) (s2 : Option Ce), j + m = ls.length → (∀ i < j, stC ls n i = false) →
    forW (.name 2) (sIf (bOr (bV (eOp2 dEq (eIdx (eVar 0) (eVar 2)) (eC (.int 0)))) (bOr (bV (eOp2 dGt (eOpN dAbs (eCons (eIdx (eVar 0) (eVar 2)) (eNil))) (eVar 1))) (bAnd (bV (eOp2 dGt (eVar 2) (eC (.int 0)))) (bV (eOp2 dGe (eOpN dAbs (eCons (eIdx (eVar 0) (eOp2 dSub (eVar 2) (eC (.int 1)))) (eNil))) (eOpN dAbs (eCons (eIdx (eVar 0) (eVar 2)) (eNil)))))))) (sRet (eC (.bl false))) (sPass))
      ((List.range' j m).map fun i : Nat => Da.int (0 + (i : Int))) [some (.dat d), some (.dat (.int n)), s2] E
  | 0, j, s2, e, hp => hE _ fun i hi => hp i (by omega)
  | m + 1, j, s2, e, hp => by
    rw [List.range'_succ, List.map_cons]
    have hj : j < ls.length := by omega
    have hx := idx_seq hd hj
    have hx' : dIdx d (.int (0 + ((j : Nat) : Int))) = some (.int (ls.getD j 0)) := by rw [Int.zero_add, hx]
    have nxt : stC ls n j = false → forW (.name 2) _ ((List.range' (j + 1) m).map fun i : Nat => Da.int (0 + (i : Int))) [some (.dat d), some (.dat (.int n)), some (.dat (.int (0 + ((j : Nat) : Int))))] E := fun q =>
      is_loop hd hE hF m (j + 1) (some (.dat (.int (0 + ((j : Nat) : Int))))) (by omega) fun i hi => (Nat.lt_succ_iff_lt_or_eq.mp hi).elim (hp i) fun z => by rw [z]; exact q
    have hy : 0 < j → dIdx d (.int (((j : Nat) : Int) - 1)) = some (.int (ls.getD (j - 1) 0)) := fun h3 => by
      have := idx_seq hd (j := j - 1) (by omega)
      rwa [show (((j - 1 : Nat)) : Int) = ((j : Nat) : Int) - 1 by omega] at this
    have bad1 := hF [some (.dat d), some (.dat (.int n)), some (.dat (.int (0 + ((j : Nat) : Int))))]
    refine ⟨_, rfl, ?_⟩
    have hst : stC ls n j = st1 (ls.getD j 0) (ls.getD (j - 1) 0) n j := rfl
    generalize ls.getD j 0 = y at hx hst
    generalize ls.getD (j - 1) 0 = z at hy hst
    by_cases h1 : y = 0
    · have q := bad1 ⟨j, hj, by rw [hst]; simp [st1, h1]⟩
      simpa [sIf, sRet, eOp2, eOp1, eOpN, eCons, eNil, eTup, eFrz, eIdx, bV, bT, bNot, bAnd, bOr, eAnd, eOr, eNot, eIf, asB, truth, dAbs, dLt, dLe, dGt, dGe, dSub, dI2, eVar, eC, look, hx, h1] using q
    by_cases h2 : n < iabs y
    · have q := bad1 ⟨j, hj, by rw [hst]; simp [st1, h2]⟩
      simpa [sIf, sRet, eOp2, eOp1, eOpN, eCons, eNil, eTup, eFrz, eIdx, bV, bT, bNot, bAnd, bOr, eAnd, eOr, eNot, eIf, asB, truth, dAbs, dLt, dLe, dGt, dGe, dSub, dI2, eVar, eC, look, hx, h1, h2] using q
    by_cases h3 : 0 < j
    · have hy := hy h3
      by_cases h4 : iabs y ≤ iabs z
      · have q := bad1 ⟨j, hj, by rw [hst]; simp [st1, h3, h4]⟩
        simpa [sIf, sRet, eOp2, eOp1, eOpN, eCons, eNil, eTup, eFrz, eIdx, bV, bT, bNot, bAnd, bOr, eAnd, eOr, eNot, eIf, asB, truth, dAbs, dLt, dLe, dGt, dGe, dSub, dI2, eVar, eC, look, hx, hy, h1, h2, h3, h4] using q
      · have q := nxt (by rw [hst]; simp [st1, h1, h2, h4])
        simpa [sIf, sRet, sPass, eOp2, eOp1, eOpN, eCons, eNil, eTup, eFrz, eIdx, bV, bT, bNot, bAnd, bOr, eAnd, eOr, eNot, eIf, asB, truth, dAbs, dLt, dLe, dGt, dGe, dSub, dI2, eVar, eC, look, hx, hy, h1, h2, h3, h4] using q
    · have q := nxt (by rw [hst]; simp [st1, h1, h2, h3])
      simpa [sIf, sRet, sPass, eOp2, eOp1, eOpN, eCons, eNil, eTup, eFrz, eIdx, bV, bT, bNot, bAnd, bOr, eAnd, eOr, eNot, eIf, asB, truth, dAbs, dLt, dLe, dGt, dGe, dSub, dI2, eVar, eC, look, hx, h1, h2, h3] using q
theorem k__law_is : Keeps 2 N__law_is.length F__law_is S__law_is := by
  rintro ds k x hl ⟨ls, d, n, rfl, hd, hlen, h⟩
  show S__law_is.wp [some (.dat d), some (.dat (.int n)), none] _
  have e : dLen [d] = some (.int ls.length) := by rcases hd with rfl | rfl <;> simp [dLen, dis]
  refine opt_of e ⟨by omega, ?_⟩
  show forW _ _ (rangeD 0 ((ls.length : Int)).toNat) _ _
  unfold rangeD
  rw [List.range_eq_range', Int.toNat_natCast]
  refine is_loop hd (fun ρ z => ?_) (fun ρ ⟨j, hj, z⟩ => ?_) ls.length 0 none (by omega) (fun i hi => absurd hi (Nat.not_lt_zero _))
  · rw [isCb_true ((isC_iff ls n).mpr z)] at h
    exact h
  · rw [isCb_false (fun y => by
      have := (isC_iff ls n).mp y j hj
      rw [z] at this
      cases this)] at h
    exact h
end K00
end

section
set_option maxHeartbeats 4000000
namespace K00
open PySem PySem.Spec PyProof.Rows L2 Pu PySem.W

/-! ### _law_due -/
theorem ok_dis (ls : List Int) : Da.ok 60 (.lst (dis ls)) = true := by
  show (dis ls).all (Da.ok 59) = true
  unfold dis
  rw [List.all_map, List.all_eq_true]
  exact fun _ _ => rfl
theorem eqv_nil (ls : List Int) : Da.eqv (.lst (dis ls)) (.lst []) = ls.isEmpty := by
  cases ls with
  | nil => rfl
  | cons x ls => rfl
theorem dNe_nil (ls : List Int) : dNe (.lst (dis ls)) (.lst []) = some (.bl (!ls.isEmpty)) := by
  unfold dNe
  rw [if_pos ⟨ok_dis ls, rfl⟩, eqv_nil]
theorem dEq_nil (ls : List Int) : dEq (.lst (dis ls)) (.lst []) = some (.bl ls.isEmpty) := by
  unfold dEq
  rw [if_pos ⟨ok_dis ls, rfl⟩, eqv_nil]
def Told (ls : List Int) (k : Da → Prop) : Prop := (bad ls → k (.str (PySem.Str.ofString "literal"))) ∧ (¬ bad ls → opp ls → k (.str (PySem.Str.ofString "opposites"))) ∧
    (¬ bad ls → ¬ opp ls → ∀ out : List Int, (∀ x, x ∈ out ↔ x ∈ ls) → out.Pairwise lta → k (.tup (dis out)))
theorem Told.mono {ls : List Int} {k k' : Da → Prop} (hk : ∀ d, k d → k' d) (h : Told ls k) : Told ls k' := ⟨fun b => hk _ (h.1 b), fun b o => hk _ (h.2.1 b o), fun b o out m p => hk _ (h.2.2 b o out m p)⟩
def F__law_due : Fn := ⟨fun ds k _ => ∃ (ls : List Int) (d : Da), ds = [d] ∧ seqD ls d ∧ ls.length < 60 ∧ Told ls k, fun hk _ ⟨ls, d, e, h1, h2, h3⟩ => ⟨ls, d, e, h1, h2, h3.mono hk⟩⟩
theorem dPow_10_6 : dPow (.int 10) (.int 6) = some (.int 1000000) := rfl
theorem lta_of2 {ls out : List Int} (o1 : ∀ x, x ∈ out ↔ x ∈ ls) (o2 : out.Pairwise R2) (o3 : out.Nodup) (no : ¬ opp ls) : out.Pairwise lta := by
  refine (List.Pairwise.and o2 o3).imp_of_mem fun {a b} ha hb ⟨h1, h2⟩ => ?_
  unfold lta
  rcases h1 with h1 | ⟨h1, _⟩
  · exact h1
  · rcases iabs_two h1 with e | e
    · exact absurd e h2
    · exact absurd ⟨a, (o1 a).mp ha, by rw [← e]; exact (o1 b).mp hb⟩ no
theorem filt_bad (ls : List Int) : (ls.filter fun y => decide (y = 0) || decide (1000000 < iabs y)).isEmpty = false ↔ bad ls := by
  rw [Bool.eq_false_iff, ne_eq, List.isEmpty_iff, List.filter_eq_nil_iff]
  unfold bad
  constructor
  · intro h
    refine Classical.byContradiction fun n => h fun y hy z => n ⟨y, hy, ?_⟩
    simpa using z
  · rintro ⟨y, hy, z⟩ h
    exact h y hy (by simpa using z)
theorem filt_opp (ls : List Int) : (ls.filter fun y => decide (0 - y ∈ ls)).isEmpty = false ↔ opp ls := by
  rw [Bool.eq_false_iff, ne_eq, List.isEmpty_iff, List.filter_eq_nil_iff]
  unfold opp
  constructor
  · intro h
    refine Classical.byContradiction fun n => h fun y hy z => n ⟨y, hy, ?_⟩
    simpa using z
  · rintro ⟨y, hy, z⟩ h
    exact h y hy (by simpa using z)
theorem k__law_due : Keeps 1 N__law_due.length F__law_due S__law_due := by
  rintro ds k x hl ⟨ls, d, rfl, hd, hlen, hb, ho, hk⟩
  show S__law_due.wp [some (.dat d), none, none] _
  refine opt_of (seq_items hd) ⟨rfl, lcW_of Da.int (fun y => decide (y = 0) || decide (1000000 < iabs y)) Da.int ls [] (fun y hy => ⟨_, rfl, fun K hK => ?_, fun _ K hK => hK⟩) ?_⟩
  · by_cases h0 : y = 0
    · simpa [eOp2, eOp1, eOpN, eCons, eNil, eTup, eFrz, eIdx, bV, bT, bNot, bAnd, bOr, eAnd, eOr, eNot, eIf, asB, truth, dAbs, dLt, dLe, dGt, dGe, dSub, dI2, eVar, eC, look, h0] using hK
    · simpa [eOp2, eOp1, eOpN, eCons, eNil, eTup, eFrz, eIdx, bV, bT, bNot, bAnd, bOr, eAnd, eOr, eNot, eIf, asB, truth, dAbs, dLt, dLe, dGt, dGe, dSub, dI2, eVar, eC, look, dPow_10_6, h0] using hK
  refine ⟨show (0 : Nat) ≤ 1000 by decide, opt_of (dNe_nil (ls.filter fun y => decide (y = 0) || decide (1000000 < iabs y))) ?_⟩
  show (if (!(ls.filter fun y => decide (y = 0) || decide (1000000 < iabs y)).isEmpty) = true then _ else _)
  by_cases hbd : bad ls
  · rw [(filt_bad ls).mpr hbd, if_pos (show (!false) = true from rfl)]
    exact hb hbd
  · have e : (ls.filter fun y => decide (y = 0) || decide (1000000 < iabs y)).isEmpty = true := by
      cases q : (ls.filter fun y => decide (y = 0) || decide (1000000 < iabs y)).isEmpty with
      | true => rfl
      | false => exact absurd ((filt_bad ls).mp q) hbd
    rw [e, if_neg (show ¬ (!true) = true by decide)]
    refine opt_of (seq_items hd) ⟨rfl, lcW_of Da.int (fun y => decide (0 - y ∈ ls)) Da.int ls [] (fun y hy => ⟨_, rfl, fun K hK => opt_of (dIn_seq false (0 - y) hd) (by simpa using hK), fun _ K hK => hK⟩) ?_⟩
    refine ⟨show (0 : Nat) ≤ 1000 by decide, opt_of (dNe_nil (ls.filter fun y => decide (0 - y ∈ ls))) ?_⟩
    show (if (!(ls.filter fun y => decide (0 - y ∈ ls)).isEmpty) = true then _ else _)
    by_cases hop : opp ls
    · rw [(filt_opp ls).mpr hop, if_pos (show (!false) = true from rfl)]
      exact ho hbd hop
    · have e : (ls.filter fun y => decide (0 - y ∈ ls)).isEmpty = true := by
        cases q : (ls.filter fun y => decide (0 - y ∈ ls)).isEmpty with
        | true => rfl
        | false => exact absurd ((filt_opp ls).mp q) hop
      rw [e, if_neg (show ¬ (!true) = true by decide)]
      refine opt_of (seq_items hd) ⟨rfl, lcW_all Da.int enc2 ls [] (fun y hy => ⟨_, rfl, fun K hK => ?_⟩) ?_⟩
      · simpa [eOp2, eOp1, eOpN, eCons, eNil, eTup, eFrz, eIdx, bV, bT, bNot, bAnd, bOr, eAnd, eOr, eNot, eIf, asB, truth, dAbs, dLt, dLe, dGt, dGe, dSub, dI2, eVar, eC, look, enc2] using hK
      rw [List.nil_append]
      refine ⟨⟨by simp; omega, fun y hy => ?_⟩, fun a ha b hb' => ?_, by simp; omega, fun ms hm => ?_⟩
      · obtain ⟨z, _, rfl⟩ := List.mem_map.mp hy
        rfl
      · obtain ⟨y, _, rfl⟩ := List.mem_map.mp ha
        obtain ⟨z, _, rfl⟩ := List.mem_map.mp hb'
        simp [enc2, Da.py, Da.pys, alike, alikeAll]
      · obtain ⟨out, o1, o2, o3, e⟩ := ord2 hm
        rw [e]
        refine ⟨rfl, lcW_all enc2 Da.int out [] (fun y hy => ⟨_, rfl, fun K hK => ?_⟩) ?_⟩
        · simpa [eOp2, eOp1, eOpN, eCons, eNil, eTup, eFrz, eIdx, bV, bT, bNot, bAnd, bOr, eAnd, eOr, eNot, eIf, asB, truth, dAbs, dLt, dLe, dGt, dGe, dSub, dI2, eVar, eC, look, dIdx, enc2, atI, ixN] using hK
        · exact hk hbd hop out o1 (lta_of2 o1 o2 o3 hop)

/-! ### _law_told -/
def cat00 (nm : Str) : Option Bool := if nm = (PySem.Str.ofString "BadClause") then some true else none
def Told1 (a b : List Int) (v : Int) (k : Da → Prop) : Prop := (¬ (v ∈ a ∧ 0 - v ∈ b) → k (.str (PySem.Str.ofString "variable"))) ∧
    (v ∈ a → 0 - v ∈ b → (opp (rest a b v) → k .non) ∧ (¬ opp (rest a b v) → (bad (rest a b v) → k (.str (PySem.Str.ofString "literal"))) ∧ (¬ bad (rest a b v) → ∀ out : List Int, (∀ x, x ∈ out ↔ x ∈ rest a b v) → out.Pairwise lta → k (.tup (dis out)))))
theorem Told1.mono {a b : List Int} {v : Int} {k k' : Da → Prop} (hk : ∀ d, k d → k' d) (h : Told1 a b v k) : Told1 a b v k' :=
  ⟨fun z => hk _ (h.1 z), fun y z => ⟨fun o => hk _ ((h.2 y z).1 o), fun o => ⟨fun bb => hk _ (((h.2 y z).2 o).1 bb), fun bb out m p => hk _ (((h.2 y z).2 o).2 bb out m p)⟩⟩⟩
def F__law_told : Fn := ⟨fun ds k _ => (∃ (ls : List Int) (d : Da), ds = [.int 0, d, .non, .non] ∧ seqD ls d ∧ ls.length < 60 ∧ Told ls k) ∨ (∃ (a b : List Int) (da db : Da) (v : Int), ds = [.int 1, da, db, .int v] ∧ seqD a da ∧ seqD b db ∧ a.length + b.length < 60 ∧ Told1 a b v k),
  fun hk _ h => h.elim (fun ⟨ls, d, e, h1, h2, h3⟩ => .inl ⟨ls, d, e, h1, h2, h3.mono hk⟩) (fun ⟨a, b, da, db, v, e, h1, h2, h3, h4⟩ => .inr ⟨a, b, da, db, v, e, h1, h2, h3, h4.mono hk⟩)⟩
theorem told_ex {s : Sx} {E : Fl} {e : Ex} {ρ : En} {i : Nat} (he : e.name = (PySem.Str.ofString "BadClause")) (n : NoExn ρ) (h : s.wp (ρ.set i (some (.exn e.fld e.what))) (sufl i E)) : tryEx cat00 i s E e ρ := by
  have hc : cat00 e.name = some true := by unfold cat00; rw [if_pos he]
  unfold tryEx
  rw [hc]
  exact ⟨n, h⟩
theorem noEx4 {a b c d : Da} : NoExn [some (.dat a), some (.dat b), some (.dat c), some (.dat d), none] := by
  intro i f w h
  match i, h with
  | 0, h => cases h
  | 1, h => cases h
  | 2, h => cases h
  | 3, h => cases h
  | 4, h => cases h
  | i + 5, h => simp at h
theorem told_leaf {a b c d : Da} {k : Da → Prop} {x : Ex → Prop} {w : Da} (h : k w) : tryEx cat00 4 (sRet (eExn 4 (PySem.Str.ofString "what"))) (flFn k x) ⟨(PySem.Str.ofString "BadClause"), (PySem.Str.ofString "what"), w⟩ [some (.dat a), some (.dat b), some (.dat c), some (.dat d), none] := by
  refine told_ex rfl noEx4 ?_
  show (W.opt (lookExn [some (.dat a), some (.dat b), some (.dat c), some (.dat d), some (.exn (PySem.Str.ofString "what") w)] 4 (PySem.Str.ofString "what"))).wp [some (.dat a), some (.dat b), some (.dat c), some (.dat d), some (.exn (PySem.Str.ofString "what") w)]
    (fun dv ρ => NoExn (ρ.set 4 none) ∧ k dv) (fun _ _ => False)
  refine opt_of (a := w) (by simp [lookExn]) ⟨?_, h⟩
  exact noEx4
theorem tryS {cat : Str → Option Bool} {i : Nat} {b s : Sx} {ρ : En} {E : Fl} (h : b.wp ρ { E with ex := tryEx cat i s E }) : (sTry cat i b s).wp ρ E := h
theorem seqS {a b : Sx} {ρ : En} {E : Fl} (h : a.wp ρ { E with nx := fun ρ' => b.wp ρ' E }) : (sSeq a b).wp ρ E := h
theorem k__law_told : Keeps 4 N__law_told.length F__law_told (S__law_told F_resolved F_clause_of cat00) := by
  rintro ds k x hl (⟨ls, d, rfl, hd, hlen, hb, ho, hk⟩ | ⟨a, b, da, db, v, rfl, ha, hb, hlen, h1, h2⟩)
  · show (S__law_told F_resolved F_clause_of cat00).wp [some (.dat (.int 0)), some (.dat d), some (.dat .non), some (.dat .non), none] _
    refine tryS (seqS (ifS (bV_of (two_of ?_))))
    refine var_of (d := .int 0) rfl ⟨_, dEq_int 0 0, _, rfl, ?_⟩
    rw [if_pos (show decide ((0 : Int) = 0) = true from rfl)]
    refine ⟨rfl, ls, d, rfl, hd, hlen, fun b => told_leaf (hb b), fun b o => told_leaf (ho b o), fun b o out m p => hk b o out m p⟩
  · show (S__law_told F_resolved F_clause_of cat00).wp [some (.dat (.int 1)), some (.dat da), some (.dat db), some (.dat (.int v)), none] _
    refine tryS (seqS (ifS (bV_of (two_of ?_))))
    refine var_of (d := .int 1) rfl ⟨_, dEq_int 1 0, _, rfl, ?_⟩
    rw [if_neg (show ¬ decide ((1 : Int) = 0) = true by decide)]
    refine ⟨rfl, a, b, da, db, v, rfl, ha, hb, hlen, fun z => told_leaf (h1 z), fun y z => ⟨fun o => (h2 y z).1 o, fun o => ⟨fun bb => told_leaf (((h2 y z).2 o).1 bb), fun bb out m p => ((h2 y z).2 o).2 bb out m p⟩⟩⟩
end K00
end

section
set_option maxHeartbeats 4000000
namespace K00
open PySem PySem.Spec PyProof.Rows L2 Pu PySem.W

theorem draw_of {i : Nat} {n : Int} {ρ : En} {k : Da → En → Prop} {x : Ex → En → Prop} (hp : ρ[i]? = some (some .pool)) (h1 : 1 ≤ n) (h2 : n < 1073741824) (h : ∀ r : Int, 0 ≤ r → r < n → k (.int r) ρ) :
    (eCallP i F__law_draw 1 (eCons (eC (.int n)) (eNil))).wp ρ k x := ⟨hp, ⟨rfl, hp⟩, n, rfl, h1, h2, h⟩
theorem pick2 {a b : Da} {r : Int} (h1 : 0 ≤ r) (h2 : r < 2) : dIdx (.tup [a, b]) (.int r) = some (if r = 0 then a else b) := by
  have : r = 0 ∨ r = 1 := by omega
  rcases this with rfl | rfl <;> rfl
theorem pick3 {a b c : Da} {r : Int} (h1 : 0 ≤ r) (h2 : r < 3) : dIdx (.tup [a, b, c]) (.int r) = some (if r = 0 then a else if r = 1 then b else c) := by
  have : r = 0 ∨ r = 1 ∨ r = 2 := by omega
  rcases this with rfl | rfl | rfl <;> rfl
theorem dis_snoc (ls : List Int) (y : Int) : dis ls ++ [.int y] = dis (ls ++ [y]) := by simp [dis]

/-! ### _law_drawn -/
def F__law_drawn : Fn := ⟨fun ds k _ => ds = [] ∧ ∀ ls : List Int, ls.length ≤ 5 → (∀ x ∈ ls, iabs x ≤ 1000001) → k (.lst (dis ls)), fun hk _ ⟨e, h⟩ => ⟨e, fun ls a b => hk _ (h ls a b)⟩⟩
abbrev dwB : Sx := sSeq (sSet 3 (eOp2 dAdd (eC (.int 1)) (eCallP 0 F__law_draw 1 (eCons (eC (.int 6)) (eNil))))) (sSeq (sIf (bV (eOp2 dEq (eCallP 0 F__law_draw 1 (eCons (eC (.int 20)) (eNil))) (eC (.int 0)))) (sSet 3 (eIdx (eTup (eCons (eC (.int 0)) (eCons (eOp2 dPow (eC (.int 10)) (eC (.int 6))) (eCons (eOp2 dAdd (eOp2 dPow (eC (.int 10)) (eC (.int 6))) (eC (.int 1))) (eNil))))) (eCallP 0 F__law_draw 1 (eCons (eC (.int 3)) (eNil))))) (sPass)) (sAppend 1 (eIdx (eTup (eCons (eVar 3) (eCons (eOp2 dSub (eC (.int 0)) (eVar 3)) (eNil)))) (eCallP 0 F__law_draw 1 (eCons (eC (.int 2)) (eNil))))))
theorem app_ok {ls : List Int} {y : Int} {s2 : Option Ce} {E : Fl} (hl : ls.length ≤ 1000) (h : ∀ z, iabs z = iabs y → E.nx [some .pool, some (.own (dis (ls ++ [z]))), s2, some (.dat (.int y))]) :
    (sAppend 1 (eIdx (eTup (eCons (eVar 3) (eCons (eOp2 dSub (eC (.int 0)) (eVar 3)) (eNil)))) (eCallP 0 F__law_draw 1 (eCons (eC (.int 2)) (eNil))))).wp [some .pool, some (.own (dis ls)), s2, some (.dat (.int y))] E := by
  refine ⟨dis ls, rfl, show (2 : Nat) ≤ 1000 by decide, draw_of rfl (by decide) (by decide) fun r h1 h2 => ?_⟩
  refine opt_of (pick2 h1 h2) ⟨dis ls, rfl, by simp [dis]; omega, ?_⟩
  have e : (if r = 0 then Da.int y else Da.int (0 - y)) = Da.int (if r = 0 then y else 0 - y) := by split <;> rfl
  rw [e, dis_snoc]
  refine h _ ?_
  split
  · rfl
  · rw [Int.zero_sub, iabs_neg]
theorem body_ok {ls : List Int} {s2 s3 : Option Ce} {E : Fl} (hl : ls.length ≤ 1000) (h : ∀ z s3, iabs z ≤ 1000001 → E.nx [some .pool, some (.own (dis (ls ++ [z]))), s2, s3]) :
    dwB.wp [some .pool, some (.own (dis ls)), s2, s3] E := by
  refine seqS ?_
  refine (draw_of (i := 0) (n := 6) (ρ := [some .pool, some (.own (dis ls)), s2, s3]) rfl (by decide) (by decide) fun r h1 h2 => ?_ : (eCallP 0 F__law_draw 1 (eCons (eC (.int 6)) (eNil))).wp [some .pool, some (.own (dis ls)), s2, s3] _ E.ex)
  refine opt_of (o := dAdd (.int 1) (.int r)) (a := .int (1 + r)) rfl ?_
  dsimp only
  refine seqS (ifS (bV_of (two_of ?_)))
  refine draw_of (i := 0) (n := 20) rfl (by decide) (by decide) fun q h3 h4 => ?_
  refine ⟨_, dEq_int q 0, _, rfl, ?_⟩
  have a1 : iabs (1 + r) ≤ 1000001 := by unfold iabs; split <;> omega
  by_cases hq : q = 0
  · rw [if_pos (decide_eq_true hq)]
    refine ⟨show (3 : Nat) ≤ 1000 by decide, draw_of (i := 0) (n := 3) rfl (by decide) (by decide) fun t h5 h6 => ?_⟩
    refine opt_of (pick3 (a := .int 0) (b := .int 1000000) (c := .int 1000001) h5 h6) ?_
    have e : (if t = 0 then Da.int 0 else if t = 1 then Da.int 1000000 else Da.int 1000001) = Da.int (if t = 0 then 0 else if t = 1 then 1000000 else 1000001) := by
      split
      · rfl
      · split <;> rfl
    rw [e]
    refine app_ok hl fun z hz => h z _ ?_
    rw [hz]
    split
    · decide
    · split <;> decide
  · rw [if_neg (fun z => hq (of_decide_eq_true z))]
    exact app_ok hl fun z hz => h z _ (by rw [hz]; exact a1)
theorem drawn_loop {E : Fl} : ∀ (ds : List Da) (ls : List Int) (s2 s3 : Option Ce), ls.length + ds.length ≤ 1000 → (∀ x ∈ ls, iabs x ≤ 1000001) →
    (∀ ls' s2 s3, ls'.length = ls.length + ds.length → (∀ x ∈ ls', iabs x ≤ 1000001) → E.nx [some .pool, some (.own (dis ls')), s2, s3]) → forW (.name 2) dwB ds [some .pool, some (.own (dis ls)), s2, s3] E
  | [], ls, s2, s3, _, hx, hE => hE ls s2 s3 rfl hx
  | d :: ds, ls, s2, s3, hl, hx, hE => by
    rw [List.length_cons] at hl hE
    refine ⟨_, rfl, body_ok (by omega) fun z s3' hz => ?_⟩
    refine drawn_loop ds (ls ++ [z]) _ s3' (by simp; omega) (fun x h => ?_) fun ls' s2 s3 e hx' => hE ls' s2 s3 (by rw [e]; simp; omega) hx'
    rcases List.mem_append.mp h with h | h
    · exact hx x h
    · rw [List.mem_singleton.mp h]; exact hz
theorem k__law_drawn : KeepsP 0 N__law_drawn.length F__law_drawn (S__law_drawn F__law_draw) := by
  rintro ds k hl ⟨rfl, h⟩
  show (S__law_drawn F__law_draw).wp [some .pool, none, none, none] _
  refine ⟨show (0 : Nat) ≤ 1000 by decide, ?_⟩
  refine draw_of (i := 0) (n := 6) (ρ := [some .pool, some (.own []), none, none]) rfl (by decide) (by decide) fun r h1 h2 => ⟨⟨by omega, by omega⟩, ?_⟩
  refine drawn_loop (rangeD 0 r.toNat) [] none none (by simp [rangeD]; omega) (fun x h => by cases h) fun ls s2 s3 e hx => ?_
  exact ⟨dis ls, rfl, h ls (by rw [e]; simp [rangeD]; omega) hx⟩

/-! ### _law_clause -/
def ClOk (ls : List Int) : Prop := ls.length ≤ 6 ∧ ls.Pairwise lta ∧ ∀ x ∈ ls, 1 ≤ iabs x ∧ iabs x ≤ 6
def F__law_clause : Fn := ⟨fun ds k _ => ds = [] ∧ ∀ ls : List Int, ClOk ls → k (.tup (dis ls)), fun hk _ ⟨e, h⟩ => ⟨e, fun ls a => hk _ (h ls a)⟩⟩
abbrev clB : Sx := sIf (bV (eOp2 dEq (eCallP 0 F__law_draw 1 (eCons (eC (.int 2)) (eNil))) (eC (.int 0)))) (sAppend 1 (eIdx (eTup (eCons (eVar 2) (eCons (eOp2 dSub (eC (.int 0)) (eVar 2)) (eNil)))) (eCallP 0 F__law_draw 1 (eCons (eC (.int 2)) (eNil))))) (sPass)
theorem clause_loop {E : Fl} : ∀ (m j : Nat) (ls : List Int) (s2 : Option Ce), 1 ≤ j → ls.length < j → ls.Pairwise lta → (∀ x ∈ ls, 1 ≤ iabs x ∧ iabs x < j) → j + m ≤ 1000 →
    (∀ ls' s2, ls'.length < j + m → ls'.Pairwise lta → (∀ x ∈ ls', 1 ≤ iabs x ∧ iabs x < ((j + m : Nat) : Int)) → E.nx [some .pool, some (.own (dis ls')), s2]) →
    forW (.name 2) clB ((List.range' j m).map fun i : Nat => Da.int ((i : Nat) : Int)) [some .pool, some (.own (dis ls)), s2] E
  | 0, j, ls, s2, _, hl, hp, hx, _, hE => hE ls s2 hl hp hx
  | m + 1, j, ls, s2, hj, hl, hp, hx, hz, hE => by
    rw [List.range'_succ, List.map_cons]
    have hE' : ∀ ls' s2, ls'.length < (j + 1) + m → ls'.Pairwise lta → (∀ x ∈ ls', 1 ≤ iabs x ∧ iabs x < (((j + 1) + m : Nat) : Int)) → E.nx [some .pool, some (.own (dis ls')), s2] := fun ls' s2 h1 h2 h3 =>
      hE ls' s2 (by omega) h2 fun x hx => by
        have := h3 x hx
        omega
    refine ⟨_, rfl, ?_⟩
    refine ifS (bV_of (two_of ?_))
    refine draw_of (i := 0) (n := 2) rfl (by decide) (by decide) fun q h3 h4 => ?_
    refine ⟨_, dEq_int q 0, _, rfl, ?_⟩
    by_cases hq : q = 0
    · rw [if_pos (decide_eq_true hq)]
      refine ⟨dis ls, rfl, show (2 : Nat) ≤ 1000 by decide, draw_of (i := 0) (n := 2) rfl (by decide) (by decide) fun r h1 h2 => ?_⟩
      refine opt_of (pick2 (a := .int ((j : Nat) : Int)) (b := .int (0 - ((j : Nat) : Int))) h1 h2) ⟨dis ls, rfl, by simp [dis]; omega, ?_⟩
      have e : (if r = 0 then Da.int ((j : Nat) : Int) else Da.int (0 - ((j : Nat) : Int))) = Da.int (if r = 0 then ((j : Nat) : Int) else 0 - ((j : Nat) : Int)) := by split <;> rfl
      rw [e, dis_snoc]
      have ez : iabs (if r = 0 then ((j : Nat) : Int) else 0 - ((j : Nat) : Int)) = j := by
        unfold iabs
        split <;> split <;> omega
      generalize (if r = 0 then ((j : Nat) : Int) else 0 - ((j : Nat) : Int)) = z at ez
      refine clause_loop m (j + 1) (ls ++ [z]) (some (.dat (.int ((j : Nat) : Int)))) (by omega) (by simp; omega) ?_ (fun x h => ?_) (by omega) hE'
      · rw [List.pairwise_append]
        refine ⟨hp, List.pairwise_singleton _ _, fun a ha b hb => ?_⟩
        rw [List.mem_singleton.mp hb]
        have := hx a ha
        unfold lta
        omega
      · rcases List.mem_append.mp h with h | h
        · have := hx x h
          omega
        · rw [List.mem_singleton.mp h]
          omega
    · rw [if_neg (fun z => hq (of_decide_eq_true z))]
      exact clause_loop m (j + 1) ls (some (.dat (.int ((j : Nat) : Int)))) (by omega) (by omega) hp (fun x h => by have := hx x h; omega) (by omega) hE'
theorem k__law_clause : KeepsP 0 N__law_clause.length F__law_clause (S__law_clause F__law_draw) := by
  rintro ds k hl ⟨rfl, h⟩
  show (S__law_clause F__law_draw).wp [some .pool, none, none] _
  refine ⟨show (0 : Nat) ≤ 1000 by decide, ⟨⟨by decide, by decide⟩, by decide, by decide⟩, ?_⟩
  have er : rangeD 1 ((7 : Int) - 1).toNat = (List.range' 1 6).map fun i : Nat => Da.int ((i : Nat) : Int) := rfl
  show forW _ _ (rangeD 1 ((7 : Int) - 1).toNat) _ _
  rw [er]
  refine clause_loop 6 1 [] none (by decide) (by decide) List.Pairwise.nil (fun x h => by cases h) (by decide) fun ls s2 h1 h2 h3 => ?_
  exact ⟨dis ls, rfl, h ls ⟨by omega, h2, fun x hx => by have := h3 x hx; omega⟩⟩
end K00
end

section
set_option maxHeartbeats 4000000
namespace K00
open PySem PySem.Spec PyProof.Rows L2 Pu PySem.W

abbrev P1 : Sx := sSet 3 (eCallP 1 F__law_drawn 0 (eNil))
abbrev P2 : Sx := sIf (bNot (bT (eCall (F_same 2) 2 (eCons (eCall F__law_told 4 (eCons (eC (.int 0)) (eCons (eVar 3) (eCons (eC .non) (eCons (eC .non) (eNil)))))) (eCons (eCall F__law_due 1 (eCons (eVar 3) (eNil))) (eNil)))))) (sRet (eC (.bl false))) (sPass)
abbrev P3 : Sx := sSet 4 (eCallP 1 F__law_draw 1 (eCons (eC (.int 8)) (eNil)))
abbrev P4 : Sx := sIf (bNot (bT (eCall (F_same 2) 2 (eCons (eCall F_is_clause 2 (eCons (eOpN dTuple (eCons (eVar 3) (eNil))) (eCons (eVar 4) (eNil)))) (eCons (eCall F__law_is 2 (eCons (eVar 3) (eCons (eVar 4) (eNil)))) (eNil)))))) (sRet (eC (.bl false))) (sPass)
abbrev P5 : Sx := sAsg (eTup (eCons (eCallP 1 F__law_clause 0 (eNil)) (eCons (eCallP 1 F__law_clause 0 (eNil)) (eNil)))) (.tup [.name 5, .name 6])
abbrev P6 : Sx := sSet 7 (eOpN dTuple (eCons (eFrz (eLC [8] (iRange1 (eC (.int 6))) (.name 8) bYes (eCallP 1 F__law_draw 1 (eCons (eC (.int 2)) (eNil))))) (eNil)))
abbrev P7 : Sx := sSet 9 (eOp2 dNe (eFrz (eLC [10] (iSeq (eVar 5)) (.name 10) (bV (eOp2 dEq (eIdx (eVar 7) (eOp2 dSub (eOpN dAbs (eCons (eVar 10) (eNil))) (eC (.int 1)))) (eOpN dInt (eCons (eOp2 dGt (eVar 10) (eC (.int 0))) (eNil))))) (eVar 10))) (eFrz (eDisp (eNil))))
abbrev P8 : Sx := sIf (bNot (bT (eCall (F_same 2) 2 (eCons (eFrz (eDisp (eCons (eCall F_holds 2 (eCons (eVar 5) (eCons (eVar 7) (eNil)))) (eCons (eCall F_subsumes 2 (eCons (eVar 5) (eCons (eVar 6) (eNil)))) (eCons (eCall F_subsumes 2 (eCons (eVar 5) (eCons (eVar 5) (eNil)))) (eNil)))))) (eCons (eFrz (eDisp (eCons (eVar 9) (eCons (eOp2 dEq (eFrz (eLC [10] (iSeq (eVar 5)) (.name 10) (bV (eOp2 (dIn true) (eVar 10) (eVar 6))) (eVar 10))) (eFrz (eDisp (eNil)))) (eCons (eC (.bl true)) (eNil)))))) (eNil)))))) (sRet (eC (.bl false))) (sPass)
abbrev P9 : Sx := sSet 11 (eOp2 dAdd (eC (.int 1)) (eCallP 1 F__law_draw 1 (eCons (eC (.int 6)) (eNil))))
abbrev P10 : Sx := sSet 12 (eC (.str (PySem.Str.ofString "variable")))
abbrev P11 : Sx := sIf (bAnd (bV (eOp2 (dIn false) (eVar 11) (eVar 5))) (bV (eOp2 (dIn false) (eOp2 dSub (eC (.int 0)) (eVar 11)) (eVar 6)))) (sSeq (sSet 12 (eCall F__law_due 1 (eCons (eOp2 dAdd (eFrz (eLC [10] (iSeq (eVar 5)) (.name 10) (bV (eOp2 dNe (eVar 10) (eVar 11))) (eVar 10))) (eFrz (eLC [10] (iSeq (eVar 6)) (.name 10) (bV (eOp2 dNe (eVar 10) (eOp2 dSub (eC (.int 0)) (eVar 11)))) (eVar 10)))) (eNil)))) (sIf (bV (eOp2 dEq (eVar 12) (eC (.str (PySem.Str.ofString "opposites"))))) (sSet 12 (eC .non)) (sPass))) (sPass)
abbrev P12 : Sx := sIf (bNot (bT (eCall (F_same 2) 2 (eCons (eCall F__law_told 4 (eCons (eC (.int 1)) (eCons (eVar 5) (eCons (eVar 6) (eCons (eVar 11) (eNil)))))) (eCons (eVar 12) (eNil)))))) (sRet (eC (.bl false))) (sPass)
abbrev lawB : Sx := sSeq P1 (sSeq P2 (sSeq P3 (sSeq P4 (sSeq P5 (sSeq P6 (sSeq P7 (sSeq P8 (sSeq P9 (sSeq P10 (sSeq P11 (P12)))))))))))

theorem nodup_len : ∀ (l D : List Int), l.Nodup → (∀ x ∈ l, x ∈ D) → l.length ≤ D.length
  | [], _, _, _ => Nat.zero_le _
  | x :: l, D, h, hs => by
    have hx : x ∈ D := hs x List.mem_cons_self
    have q := nodup_len l (D.erase x) (List.nodup_cons.mp h).2 fun y hy => (List.mem_erase_of_ne (fun e => (List.nodup_cons.mp h).1 (by rw [← e]; exact hy))).2 (hs y (List.mem_cons_of_mem _ hy))
    rw [List.length_erase_of_mem hx] at q
    have : 0 < D.length := List.length_pos_of_mem hx
    rw [List.length_cons]
    omega
theorem lta_asym (a b : Int) (h1 : lta a b) (h2 : lta b a) : False := by unfold lta at *; omega
theorem lta_nodup {l : List Int} (h : l.Pairwise lta) : l.Nodup := h.imp fun {a b} z e => by
  rw [e] at z
  exact lta_asym _ _ z z
theorem pl_str {s : Str} (h : PyData.strOk s = true) : pl 1 (.str s) := h
theorem pl_dis {out : List Int} (h : out.length ≤ 1000000) : pl 1 (.tup (dis out)) := ⟨by simpa [dis] using h, fun d hd => by
  obtain ⟨x, _, rfl⟩ := List.mem_map.mp hd
  trivial⟩
theorem ok_lit : PyData.strOk (PySem.Str.ofString "literal") = true := by decide +kernel
theorem ok_opp : PyData.strOk (PySem.Str.ofString "opposites") = true := by decide +kernel
theorem ok_var : PyData.strOk (PySem.Str.ofString "variable") = true := by decide +kernel
/-- both sides tell the same -/
theorem told_two {ls : List Int} (hl : ls.length < 60) : Told ls (fun d => Told ls fun d' => d = d' ∧ pl 1 d) := by
  refine ⟨fun b => ⟨fun _ => ⟨rfl, pl_str ok_lit⟩, fun n => absurd b n, fun n => absurd b n⟩, fun n o => ⟨fun b => absurd b n, fun _ _ => ⟨rfl, pl_str ok_opp⟩, fun _ no => absurd o no⟩, fun n no out m p => ⟨fun b => absurd b n, fun _ o => absurd o no, fun _ _ out' m' p' => ?_⟩⟩
  have e : out = out' := uniq lta_asym (fun x => (m x).trans (m' x).symm) p p'
  subst e
  refine ⟨rfl, pl_dis ?_⟩
  have := nodup_len out ls (lta_nodup p) fun x hx => (m x).mp hx
  omega

section
variable {ns : List Int}
abbrev st (ns : List Int) (t l c o w v h va du : Option Ce) : En := [some (.dat (.scr ns)), some .pool, t, l, c, o, w, v, none, h, none, va, du]
abbrev Dl (ls : List Int) : Option Ce := some (.dat (.lst (dis ls)))
abbrev Dt (ls : List Int) : Option Ce := some (.dat (.tup (dis ls)))
variable {t l c o w v h va du : Option Ce} {E : Fl}
theorem ok1 (q : ∀ ls : List Int, ls.length ≤ 5 → E.nx (st ns t (Dl ls) c o w v h va du)) : P1.wp (st ns t l c o w v h va du) E :=
  ⟨rfl, ⟨rfl, rfl⟩, rfl, fun ls h1 _ => q ls h1⟩
theorem ok2 {ls : List Int} (hl : ls.length < 60) (q : E.nx (st ns t (Dl ls) c o w v h va du)) : P2.wp (st ns t (Dl ls) c o w v h va du) E := by
  refine ⟨rfl, .inl ⟨ls, _, rfl, .inl rfl, hl, Told.mono (fun d hd => ?_) (told_two hl)⟩⟩
  refine ⟨rfl, ls, _, rfl, .inl rfl, hl, Told.mono (fun d' hd' => ?_) hd⟩
  obtain ⟨rfl, hp⟩ := hd'
  exact ⟨rfl, d, rfl, hp, q⟩
theorem ok3 (q : ∀ n : Int, E.nx (st ns t l (some (.dat (.int n))) o w v h va du)) : P3.wp (st ns t l c o w v h va du) E :=
  draw_of (i := 1) (n := 8) (ρ := st ns t l c o w v h va du) rfl (by decide) (by decide) fun r _ _ => q r
theorem ok4 {ls : List Int} {n : Int} (hl : ls.length < 60) (q : E.nx (st ns t (Dl ls) (some (.dat (.int n))) o w v h va du)) : P4.wp (st ns t (Dl ls) (some (.dat (.int n))) o w v h va du) E := by
  refine ⟨rfl, ls, .tup (dis ls), n, rfl, .inr rfl, hl, ?_⟩
  refine ⟨rfl, ls, .lst (dis ls), n, rfl, .inl rfl, hl, ?_⟩
  exact ⟨rfl, .bl (isCb ls n), rfl, trivial, q⟩
theorem ok5 (q : ∀ a b : List Int, ClOk a → ClOk b → E.nx (st ns t l c (Dt a) (Dt b) v h va du)) : P5.wp (st ns t l c o w v h va du) E :=
  ⟨rfl, ⟨rfl, rfl⟩, rfl, fun a ha => ⟨rfl, ⟨rfl, rfl⟩, rfl, fun b hb => ⟨show (2 : Nat) ≤ 1000 by decide, _, rfl, q a b ha hb⟩⟩⟩
theorem draws {ρ : En} {k : List Da → Prop} (hw : ∀ d : Da, (ρ.set 8 (some (.dat d)))[1]? = some (some .pool)) : ∀ (ds : List Da) (vs : List Int), (∀ vs' : List Int, vs'.length = vs.length + ds.length → k (dis vs')) → lcW (.name 8) bYes (eCallP 1 F__law_draw 1 (eCons (eC (.int 2)) (eNil))) ds (dis vs) ρ k
  | [], vs, h => h vs rfl
  | d :: ds, vs, h => by
    refine ⟨_, rfl, rfl, ?_⟩
    rw [if_pos rfl]
    refine draw_of (i := 1) (n := 2) (hw d) (by decide) (by decide) fun r _ _ => ⟨rfl, ?_⟩
    rw [dis_snoc]
    exact draws hw ds (vs ++ [r]) fun vs' e => h vs' (by rw [e]; simp; omega)
theorem ok6 (q : ∀ vs : List Int, vs.length = 6 → E.nx (st ns t l c o w (Dt vs) h va du)) : P6.wp (st ns t l c o w v h va du) E := by
  refine ⟨⟨by decide, by decide⟩, rfl, draws (fun d => rfl) (rangeD 0 6) [] fun vs e => ?_⟩
  exact q vs (by rw [e]; rfl)
theorem filt_any (p : Int → Bool) (a : List Int) : (!(a.filter p).isEmpty) = a.any p := by
  induction a with
  | nil => rfl
  | cons x a ih =>
    by_cases h : p x = true
    · rw [List.filter_cons_of_pos h]
      simp [h]
    · rw [List.filter_cons_of_neg h, ih]
      simp [h]
theorem filt_all (p : Int → Bool) (a : List Int) : (a.filter fun x => !p x).isEmpty = a.all p := by
  have := filt_any (fun x => !p x) a
  rw [List.all_eq_not_any_not, ← this]
  simp
theorem ok7 {a vs : List Int} (ha : ClOk a) (hv : vs.length = 6) (q : E.nx (st ns t l c (Dt a) w (Dt vs) (some (.dat (.bl (a.any (tv vs))))) va du)) : P7.wp (st ns t l c (Dt a) w (Dt vs) h va du) E := by
  refine ⟨rfl, lcW_of Da.int (tv vs) Da.int a [] (fun y hy => ⟨_, rfl, fun K hK => ?_, fun _ K hK => hK⟩) ?_⟩
  · have h6 := ha.2.2 y hy
    refine bV_of (two_of ?_)
    refine opt_of (o := dIdx (.tup (dis vs)) (.int (iabs y - 1))) (a := .int (vs.getD ((iabs y).toNat - 1) 0)) (atI_dis h6.1 (by omega)) ?_
    refine ⟨_, dEq_int _ _, _, rfl, ?_⟩
    unfold tv at hK
    simpa using hK
  · refine ⟨show (0 : Nat) ≤ 1000 by decide, opt_of (dNe_nil (a.filter (tv vs))) ?_⟩
    rw [filt_any]
    exact q
theorem ok8 {a b vs : List Int} (ha : ClOk a) (hv : vs.length = 6) (q : E.nx (st ns t l c (Dt a) (Dt b) (Dt vs) (some (.dat (.bl (a.any (tv vs))))) va du)) : P8.wp (st ns t l c (Dt a) (Dt b) (Dt vs) (some (.dat (.bl (a.any (tv vs))))) va du) E := by
  refine ⟨rfl, a, vs, _, rfl, .inr rfl, fun x hx => ?_, ?_⟩
  · have := ha.2.2 x hx
    omega
  refine ⟨rfl, a, b, _, _, rfl, .inr rfl, .inr rfl, ?_⟩
  refine ⟨rfl, a, a, _, _, rfl, .inr rfl, .inr rfl, ?_⟩
  refine ⟨show (3 : Nat) ≤ 1000 by decide, ?_⟩
  refine ⟨rfl, lcW_of Da.int (fun y => !decide (y ∈ b)) Da.int a [] (fun y hy => ⟨_, rfl, fun K hK => opt_of (dIn_tup true y b) (by simpa using hK), fun _ K hK => hK⟩) ?_⟩
  refine ⟨show (0 : Nat) ≤ 1000 by decide, opt_of (dEq_nil (a.filter fun y => !decide (y ∈ b))) ?_⟩
  rw [filt_all]
  refine ⟨show (3 : Nat) ≤ 1000 by decide, ?_⟩
  have e : (a.all fun x => decide (x ∈ a)) = true := List.all_eq_true.mpr fun x hx => decide_eq_true hx
  refine ⟨rfl, .lst [.bl (a.any (tv vs)), .bl (a.all fun x => decide (x ∈ b)), .bl true], ?_, ⟨show (3 : Nat) ≤ 1000000 by decide, fun d hd => ?_⟩, q⟩
  · rw [e]
  · simp only [List.mem_cons, List.not_mem_nil, or_false] at hd
    rcases hd with rfl | rfl | rfl <;> trivial
theorem ok9 (q : ∀ n : Int, E.nx (st ns t l c o w v h (some (.dat (.int n))) du)) : P9.wp (st ns t l c o w v h va du) E := by
  refine (draw_of (i := 1) (n := 6) (ρ := st ns t l c o w v h va du) rfl (by decide) (by decide) fun r h1 h2 => ?_ : (eCallP 1 F__law_draw 1 (eCons (eC (.int 6)) (eNil))).wp (st ns t l c o w v h va du) _ E.ex)
  exact q (1 + r)
theorem ok10 (q : E.nx (st ns t l c o w v h va (some (.dat (.str (PySem.Str.ofString "variable")))))) : P10.wp (st ns t l c o w v h va du) E := q

theorem rest_ok {a b : List Int} {x : Int} (ha : ClOk a) (hb : ClOk b) : ¬ bad (rest a b x) ∧ (rest a b x).length < 60 ∧ a.length + b.length < 60 := by
  have h1 := rest_len a b x
  have h2 := ha.1
  have h3 := hb.1
  refine ⟨?_, by omega, by omega⟩
  rintro ⟨y, hy, z⟩
  unfold rest at hy
  rcases List.mem_append.mp hy with hy | hy
  · have := ha.2.2 y (List.mem_filter.mp hy).1
    have z0 : iabs 0 = 0 := rfl
    rcases z with z | z
    · rw [z] at this; omega
    · omega
  · have := hb.2.2 y (List.mem_filter.mp hy).1
    have z0 : iabs 0 = 0 := rfl
    rcases z with z | z
    · rw [z] at this; omega
    · omega
theorem dEq_ts (out : List Int) {s : Str} (h : PyData.strOk s = true) : dEq (.tup (dis out)) (.str s) = some (.bl false) := by
  have e : Da.ok 60 (.tup (dis out)) = true := ok_dis out
  have e2 : Da.ok 60 (.str s) = true := h
  unfold dEq
  rw [if_pos ⟨e, e2⟩]
  rfl
/-- what the law takes to be due -/
def Due (a b : List Int) (x : Int) (d : Da) : Prop := (¬ (x ∈ a ∧ 0 - x ∈ b) ∧ d = .str (PySem.Str.ofString "variable")) ∨ (x ∈ a ∧ 0 - x ∈ b ∧ opp (rest a b x) ∧ d = .non) ∨
    (x ∈ a ∧ 0 - x ∈ b ∧ ¬ opp (rest a b x) ∧ ∃ out : List Int, (∀ y, y ∈ out ↔ y ∈ rest a b x) ∧ out.Pairwise lta ∧ d = .tup (dis out))
theorem ok11 {a b : List Int} {x : Int} (ha : ClOk a) (hb : ClOk b) (q : ∀ d, Due a b x d → E.nx (st ns t l c (Dt a) (Dt b) v h (some (.dat (.int x))) (some (.dat d)))) :
    P11.wp (st ns t l c (Dt a) (Dt b) v h (some (.dat (.int x))) (some (.dat (.str (PySem.Str.ofString "variable"))))) E := by
  obtain ⟨nb, hl, _⟩ := rest_ok (x := x) ha hb
  refine opt_of (dIn_tup false x a) ?_
  show (if (xor false (decide (x ∈ a))) = true then _ else _ : W Bool).wp _ _ _
  by_cases h1 : x ∈ a
  · rw [decide_eq_true h1, if_pos (show (xor false true) = true from rfl)]
    refine opt_of (dIn_tup false (0 - x) b) ?_
    show (if (xor false (decide (0 - x ∈ b))) = true then _ else _)
    by_cases h2 : 0 - x ∈ b
    · rw [decide_eq_true h2, if_pos (show (xor false true) = true from rfl)]
      refine ⟨rfl, lcW_of Da.int (fun y => decide (y ≠ x)) Da.int a [] (fun y hy => ⟨_, rfl, fun K hK => by simpa [eOp2, eOp1, eOpN, eCons, eNil, eTup, eFrz, eIdx, bV, bT, bNot, bAnd, bOr, eAnd, eOr, eNot, eIf, asB, truth, dAbs, dLt, dLe, dGt, dGe, dSub, dI2, eVar, eC, look] using hK, fun _ K hK => hK⟩) ?_⟩
      refine ⟨rfl, lcW_of Da.int (fun y => decide (y ≠ 0 - x)) Da.int b [] (fun y hy => ⟨_, rfl, fun K hK => by simpa [eOp2, eOp1, eOpN, eCons, eNil, eTup, eFrz, eIdx, bV, bT, bNot, bAnd, bOr, eAnd, eOr, eNot, eIf, asB, truth, dAbs, dLt, dLe, dGt, dGe, dSub, dI2, eVar, eC, look] using hK, fun _ K hK => hK⟩) ?_⟩
      have ez : dAdd (.lst ((a.filter fun y => decide (y ≠ x)).map Da.int)) (.lst ((b.filter fun y => decide (y ≠ 0 - x)).map Da.int)) = some (.lst (dis (rest a b x))) := by
        have hz := hl
        unfold rest at hz
        rw [List.length_append] at hz
        show (if _ then _ else _) = _
        rw [if_pos (by rw [List.length_map, List.length_map, line_eq]; omega)]
        simp [dis, rest, List.map_append]
      refine opt_of ez ⟨rfl, rest a b x, _, rfl, .inl rfl, hl, fun bb => absurd bb nb, fun _ ho => ?_, fun _ no out m p => ?_⟩
      · refine opt_of (dEq_str ok_opp) ?_
        exact q .non (.inr (.inl ⟨h1, h2, ho, rfl⟩))
      · refine opt_of (dEq_ts out ok_opp) ?_
        exact q _ (.inr (.inr ⟨h1, h2, no, out, m, p, rfl⟩))
    · rw [decide_eq_false h2, if_neg (show ¬ (xor false false) = true by decide)]
      exact q _ (.inl ⟨fun z => h2 z.2, rfl⟩)
  · rw [decide_eq_false h1, if_neg (show ¬ (xor false false) = true by decide)]
    exact q _ (.inl ⟨fun z => h1 z.1, rfl⟩)
theorem ok12 {a b : List Int} {x : Int} {d : Da} (ha : ClOk a) (hb : ClOk b) (hd : Due a b x d) (q : E.nx (st ns t l c (Dt a) (Dt b) v h (some (.dat (.int x))) (some (.dat d)))) : P12.wp (st ns t l c (Dt a) (Dt b) v h (some (.dat (.int x))) (some (.dat d))) E := by
  obtain ⟨nb, hl, hl2⟩ := rest_ok (x := x) ha hb
  refine ⟨rfl, .inr ⟨a, b, _, _, x, rfl, .inr rfl, .inr rfl, hl2, Told1.mono (k := fun d' => d' = d ∧ pl 1 d) (fun d' hd' => ?_) ?_⟩⟩
  · obtain ⟨rfl, hp⟩ := hd'
    exact ⟨rfl, d', rfl, hp, q⟩
  · rcases hd with ⟨n, rfl⟩ | ⟨h1, h2, ho, rfl⟩ | ⟨h1, h2, no, out, m, p, rfl⟩
    · exact ⟨fun _ => ⟨rfl, pl_str ok_var⟩, fun y z => absurd ⟨y, z⟩ n⟩
    · exact ⟨fun n => absurd ⟨h1, h2⟩ n, fun _ _ => ⟨fun _ => ⟨rfl, trivial⟩, fun no => absurd ho no⟩⟩
    · refine ⟨fun n => absurd ⟨h1, h2⟩ n, fun _ _ => ⟨fun o => absurd o no, fun _ => ⟨fun bb => absurd bb nb, fun _ out' m' p' => ?_⟩⟩⟩
      have e : out' = out := uniq lta_asym (fun y => (m' y).trans (m y).symm) p' p
      subst e
      refine ⟨rfl, pl_dis ?_⟩
      have := nodup_len out' _ (lta_nodup p) fun y hy => (m y).mp hy
      omega
theorem okB (q : ∀ l c o w v h va du, E.nx (st ns t l c o w v h va du)) : lawB.wp (st ns t l c o w v h va du) E := by
  refine seqS (ok1 fun ls hls => ?_)
  refine seqS (ok2 (by omega) ?_)
  refine seqS (ok3 fun n => ?_)
  refine seqS (ok4 (by omega) ?_)
  refine seqS (ok5 fun a b ha hb => ?_)
  refine seqS (ok6 fun vs hv => ?_)
  refine seqS (ok7 ha hv ?_)
  refine seqS (ok8 ha hv ?_)
  refine seqS (ok9 fun x => ?_)
  dsimp only
  refine seqS (ok10 ?_)
  dsimp only
  refine seqS (ok11 ha hb fun d hd => ?_)
  exact ok12 ha hb hd (q ..)
theorem law_loop (q : ∀ t l c o w v h va du, E.nx (st ns t l c o w v h va du)) : ∀ (ds : List Da) (t l c o w v h va du : Option Ce), forW (.name 2) lawB ds (st ns t l c o w v h va du) E
  | [], t, l, c, o, w, v, h, va, du => q ..
  | d :: ds, t, l, c, o, w, v, h, va, du => ⟨st ns (some (.dat d)) l c o w v h va du, rfl, okB fun l c o w v h va du => law_loop q ds _ l c o w v h va du⟩
end
def F_law : Fn := ⟨fun ds k _ => ∃ ns : List Int, ds = [.scr ns] ∧ ns.length ≤ 1000 ∧ k (.bl true), fun hk _ ⟨ns, e, h0, h⟩ => ⟨ns, e, h0, hk _ h⟩⟩
theorem k_law : Keeps 1 N_law.length F_law (S_law hF__law_pool F__law_drawn F__law_draw (F_same 2) F__law_clause F__law_due F__law_told F_is_clause F__law_is F_holds F_subsumes) := by
  rintro ds k x hl ⟨ns, rfl, h0, h⟩
  show (S_law hF__law_pool F__law_drawn F__law_draw (F_same 2) F__law_clause F__law_due F__law_told F_is_clause F__law_is F_holds F_subsumes).wp [some (.dat (.scr ns)), none, none, none, none, none, none, none, none, none, none, none, none] _
  refine ⟨rfl, ns, 0, rfl, ?_⟩
  refine ⟨ns, 0, 0, 1, 0, 0, rfl, by decide, by decide, by decide, h0, ?_⟩
  refine ⟨⟨by decide, by decide⟩, ?_⟩
  exact law_loop (fun t l c o w v h' va du => h) (rangeD 0 4) none none none none none none none none none
end K00
end

section
set_option maxHeartbeats 4000000
namespace K00
open PySem PySem.Spec PyProof.Rows L2 Pu PySem.W

/-! ### the facts of the top, the end -/
theorem sqF_of {K : Frag} {H : Hp} {a : Addr} {xs : List V} (hO : Only H) (hS : SqL K H a xs) : SqF K H a xs := by
  refine ⟨hS, fun H' k => ?_⟩
  rcases hS with (h | ⟨o, h⟩) | h
  · rcases hO a with z | ⟨o, ys, z⟩
    · rw [z] at h
      cases h
    · rw [z] at h
      have h' : HO.frz o (.lst ys) = HO.lst xs := Option.some.inj h
      cases h'
  · exact .inl (.inr ⟨o, k _ _ h (fun z => z)⟩)
  · exact .inr h
/-- the law's promise, without the module's names -/
def spLaw (K : Frag) : Sp := spD K (fun _ => none) 1 F_law
theorem spLaw_ok {K : Frag} {H : Hp} {a : Addr} {ns : List Int} (hl : ns.length ≤ 63) (hO : Only H) (hS : SqL K H a (ns.map V.int)) : spLaw K [.ref a] H (fun v _ => v = .bl true) (fun _ _ _ => False) := by
  refine ⟨fun _ => False, [.scr ns], rfl, ?_, ns, rfl, by omega, fun v H' _ r => rep_bl'.mp r⟩
  simp only [Reps, Rep]
  exact ⟨.ref a, [], rfl, ⟨a, rfl, sqF_of hO hS, by omega⟩, rfl⟩
theorem noCX {P : Program} {w : World} {H : Hp} {s : Shared} {e : Value} {s' : Shared} (h : L2.CX P w [] H s (fun _ _ _ => False) e s') : False := by
  obtain ⟨_, _, _, _, _, _, _, _, _, _, _, _, z⟩ := h
  exact z
theorem same0 {P : Program} {w : World} {K : Frag} {mg : Str → Option Value} {base : Heap} {CX : CXT} {f : Addr} {fd : FuncData} {ps : List Str} : FnOk P w K mg base CX 0 f fd ps (spD K mg 2 (F_same 0)) :=
  ⟨fun vs H Q E ⟨_, _, _, _, h⟩ => h.elim, fun A outer s H args us vs Q E hr e0 hb r ⟨_, _, _, _, h⟩ => h.elim⟩
theorem cat_ok {K : Frag} {mg : Str → Option Value} {C : Addr} (hC : mg (PySem.Str.ofString "BadClause") = some (.ref C)) (x : XfC K C) (h1 : findIn K (.ref C) (PySem.Str.ofString "what") = some none) (h2 : exmOne K (.ref C) (.ref C) = some true) :
    ∀ (nm : Str) (C' : Addr), mg nm = some (.ref C') → (cat00 nm = some true → XfC K C' ∧ findIn K (.ref C') (PySem.Str.ofString "what") = some none ∧ exmOne K (.ref C') (.ref C) = some true) ∧ (cat00 nm = some false → exmOne K (.ref C') (.ref C) = some false) := by
  intro nm C' h
  unfold cat00
  by_cases e : nm = (PySem.Str.ofString "BadClause")
  · subst e
    rw [hC] at h
    cases h
    rw [if_pos rfl]
    exact ⟨fun _ => ⟨x, h1, h2⟩, fun z => Bool.noConfusion (Option.some.inj z)⟩
  · rw [if_neg e]
    exact ⟨fun z => absurd z (by simp), fun z => absurd z (by simp)⟩

theorem all_mk {P : Program} {w : World} {K : Frag} {h : Heap} {mg : Str → Option Value} {fa C aI cda cc : Addr} {a_ordered a_clause_of a_is_clause a_is_true a_holds a_subsumes a_resolved a__law_pool a__law_draw a__law_same a__law_drawn a__law_told a__law_due a__law_is a__law_clause a_law : Addr} {od_ordered an_ordered od_clause_of an_clause_of od_is_clause an_is_clause od_is_true an_is_true od_holds an_holds od_subsumes an_subsumes od_resolved an_resolved od__law_pool an__law_pool od__law_draw an__law_draw od__law_same an__law_same od__law_drawn an__law_drawn od__law_told an__law_told od__law_due an__law_due od__law_is an__law_is od__law_clause an__law_clause od_law an_law : Option Addr} {sl_ordered sl_clause_of sl_is_clause sl_is_true sl_holds sl_subsumes sl_resolved sl__law_pool sl__law_draw sl__law_same sl__law_drawn sl__law_told sl__law_due sl__law_is sl__law_clause sl_law : Array (Option Value)} {oc_ordered kV_ordered dc_ordered pm_ordered cd_ordered ct_ordered oc_clause_of kV_clause_of dc_clause_of pm_clause_of cd_clause_of ct_clause_of oc_is_clause kV_is_clause dc_is_clause pm_is_clause cd_is_clause ct_is_clause oc_is_true kV_is_true dc_is_true pm_is_true cd_is_true ct_is_true oc_holds kV_holds dc_holds pm_holds cd_holds ct_holds oc_subsumes kV_subsumes dc_subsumes pm_subsumes cd_subsumes ct_subsumes oc_resolved kV_resolved dc_resolved pm_resolved cd_resolved ct_resolved oc__law_pool kV__law_pool dc__law_pool pm__law_pool cd__law_pool ct__law_pool oc__law_draw kV__law_draw dc__law_draw pm__law_draw cd__law_draw ct__law_draw oc__law_same kV__law_same dc__law_same pm__law_same cd__law_same ct__law_same oc__law_drawn kV__law_drawn dc__law_drawn pm__law_drawn cd__law_drawn ct__law_drawn oc__law_told kV__law_told dc__law_told pm__law_told cd__law_told ct__law_told oc__law_due kV__law_due dc__law_due pm__law_due cd__law_due ct__law_due oc__law_is kV__law_is dc__law_is pm__law_is cd__law_is ct__law_is oc__law_clause kV__law_clause dc__law_clause pm__law_clause cd__law_clause ct__law_clause oc_law kV_law dc_law pm_law cd_law ct_law : Value} {tkM : Tok} {nm qn : Str} {N : Addr} {bs bm sub : List Value} {sn : List Str} {ab : Bool} {col : Option Bool} {dd : Option Addr} {k0 k1 k2 k3 k5 : Option Value} {iname iqual : Str} {iparams : Arguments} {iscope : Scope} {idV ikV idoc ipm ict ioc : Value} {ian iod : Option Addr} {iosl : Array (Option Value)} {p0 p1 p2 p3 p4 p5 p6 p7 p8 p9 : Pos} {v1 v2 : Expr} {vs : List Expr} {ar : Arg} {ccl : Value} {cdd : Option Addr} {xs : Array Value} {csl : Array (Option Value)} {file : Str} {tf : Tok} {cl : Value} {cld : Option Addr} {csl2 : Array (Option Value)} (X : K.In h) (G : h.Ns mainGlobals mg) (hfa : mg "law" = some (.ref fa))
    (n_ordered : nsIn K mainGlobals (PySem.Str.ofString "ordered") = some (some (.ref a_ordered)))
    (l_ordered : K.lookup a_ordered = some ⟨oc_ordered, od_ordered, .func (fnOf (PySem.Str.ofString "ordered") (PySem.Str.ofString "ordered") (defArgs s_ordered) (defBody s_ordered) (defScope s_ordered) .none kV_ordered dc_ordered pm_ordered an_ordered cd_ordered ct_ordered), sl_ordered⟩)
    (c_ordered : codeIn K cd_ordered (PySem.Str.ofString "ordered") = true)
    (k_ordered : keepIn K (.ref a_ordered) = true)
    (n_clause_of : nsIn K mainGlobals (PySem.Str.ofString "clause_of") = some (some (.ref a_clause_of)))
    (l_clause_of : K.lookup a_clause_of = some ⟨oc_clause_of, od_clause_of, .func (fnOf (PySem.Str.ofString "clause_of") (PySem.Str.ofString "clause_of") (defArgs s_clause_of) (defBody s_clause_of) (defScope s_clause_of) .none kV_clause_of dc_clause_of pm_clause_of an_clause_of cd_clause_of ct_clause_of), sl_clause_of⟩)
    (c_clause_of : codeIn K cd_clause_of (PySem.Str.ofString "clause_of") = true)
    (k_clause_of : keepIn K (.ref a_clause_of) = true)
    (n_is_clause : nsIn K mainGlobals (PySem.Str.ofString "is_clause") = some (some (.ref a_is_clause)))
    (l_is_clause : K.lookup a_is_clause = some ⟨oc_is_clause, od_is_clause, .func (fnOf (PySem.Str.ofString "is_clause") (PySem.Str.ofString "is_clause") (defArgs s_is_clause) (defBody s_is_clause) (defScope s_is_clause) .none kV_is_clause dc_is_clause pm_is_clause an_is_clause cd_is_clause ct_is_clause), sl_is_clause⟩)
    (c_is_clause : codeIn K cd_is_clause (PySem.Str.ofString "is_clause") = true)
    (k_is_clause : keepIn K (.ref a_is_clause) = true)
    (n_is_true : nsIn K mainGlobals (PySem.Str.ofString "is_true") = some (some (.ref a_is_true)))
    (l_is_true : K.lookup a_is_true = some ⟨oc_is_true, od_is_true, .func (fnOf (PySem.Str.ofString "is_true") (PySem.Str.ofString "is_true") (defArgs s_is_true) (defBody s_is_true) (defScope s_is_true) .none kV_is_true dc_is_true pm_is_true an_is_true cd_is_true ct_is_true), sl_is_true⟩)
    (c_is_true : codeIn K cd_is_true (PySem.Str.ofString "is_true") = true)
    (k_is_true : keepIn K (.ref a_is_true) = true)
    (n_holds : nsIn K mainGlobals (PySem.Str.ofString "holds") = some (some (.ref a_holds)))
    (l_holds : K.lookup a_holds = some ⟨oc_holds, od_holds, .func (fnOf (PySem.Str.ofString "holds") (PySem.Str.ofString "holds") (defArgs s_holds) (defBody s_holds) (defScope s_holds) .none kV_holds dc_holds pm_holds an_holds cd_holds ct_holds), sl_holds⟩)
    (c_holds : codeIn K cd_holds (PySem.Str.ofString "holds") = true)
    (k_holds : keepIn K (.ref a_holds) = true)
    (n_subsumes : nsIn K mainGlobals (PySem.Str.ofString "subsumes") = some (some (.ref a_subsumes)))
    (l_subsumes : K.lookup a_subsumes = some ⟨oc_subsumes, od_subsumes, .func (fnOf (PySem.Str.ofString "subsumes") (PySem.Str.ofString "subsumes") (defArgs s_subsumes) (defBody s_subsumes) (defScope s_subsumes) .none kV_subsumes dc_subsumes pm_subsumes an_subsumes cd_subsumes ct_subsumes), sl_subsumes⟩)
    (c_subsumes : codeIn K cd_subsumes (PySem.Str.ofString "subsumes") = true)
    (k_subsumes : keepIn K (.ref a_subsumes) = true)
    (n_resolved : nsIn K mainGlobals (PySem.Str.ofString "resolved") = some (some (.ref a_resolved)))
    (l_resolved : K.lookup a_resolved = some ⟨oc_resolved, od_resolved, .func (fnOf (PySem.Str.ofString "resolved") (PySem.Str.ofString "resolved") (defArgs s_resolved) (defBody s_resolved) (defScope s_resolved) .none kV_resolved dc_resolved pm_resolved an_resolved cd_resolved ct_resolved), sl_resolved⟩)
    (c_resolved : codeIn K cd_resolved (PySem.Str.ofString "resolved") = true)
    (k_resolved : keepIn K (.ref a_resolved) = true)
    (n__law_pool : nsIn K mainGlobals (PySem.Str.ofString "_law_pool") = some (some (.ref a__law_pool)))
    (l__law_pool : K.lookup a__law_pool = some ⟨oc__law_pool, od__law_pool, .func (fnOf (PySem.Str.ofString "_law_pool") (PySem.Str.ofString "_law_pool") (defArgs s__law_pool) (defBody s__law_pool) (defScope s__law_pool) .none kV__law_pool dc__law_pool pm__law_pool an__law_pool cd__law_pool ct__law_pool), sl__law_pool⟩)
    (c__law_pool : codeIn K cd__law_pool (PySem.Str.ofString "_law_pool") = true)
    (k__law_pool : keepIn K (.ref a__law_pool) = true)
    (n__law_draw : nsIn K mainGlobals (PySem.Str.ofString "_law_draw") = some (some (.ref a__law_draw)))
    (l__law_draw : K.lookup a__law_draw = some ⟨oc__law_draw, od__law_draw, .func (fnOf (PySem.Str.ofString "_law_draw") (PySem.Str.ofString "_law_draw") (defArgs s__law_draw) (defBody s__law_draw) (defScope s__law_draw) .none kV__law_draw dc__law_draw pm__law_draw an__law_draw cd__law_draw ct__law_draw), sl__law_draw⟩)
    (c__law_draw : codeIn K cd__law_draw (PySem.Str.ofString "_law_draw") = true)
    (k__law_draw : keepIn K (.ref a__law_draw) = true)
    (n__law_same : nsIn K mainGlobals (PySem.Str.ofString "_law_same") = some (some (.ref a__law_same)))
    (l__law_same : K.lookup a__law_same = some ⟨oc__law_same, od__law_same, .func (fnOf (PySem.Str.ofString "_law_same") (PySem.Str.ofString "_law_same") (defArgs s__law_same) (defBody s__law_same) (defScope s__law_same) .none kV__law_same dc__law_same pm__law_same an__law_same cd__law_same ct__law_same), sl__law_same⟩)
    (c__law_same : codeIn K cd__law_same (PySem.Str.ofString "_law_same") = true)
    (k__law_same : keepIn K (.ref a__law_same) = true)
    (n__law_drawn : nsIn K mainGlobals (PySem.Str.ofString "_law_drawn") = some (some (.ref a__law_drawn)))
    (l__law_drawn : K.lookup a__law_drawn = some ⟨oc__law_drawn, od__law_drawn, .func (fnOf (PySem.Str.ofString "_law_drawn") (PySem.Str.ofString "_law_drawn") (defArgs s__law_drawn) (defBody s__law_drawn) (defScope s__law_drawn) .none kV__law_drawn dc__law_drawn pm__law_drawn an__law_drawn cd__law_drawn ct__law_drawn), sl__law_drawn⟩)
    (c__law_drawn : codeIn K cd__law_drawn (PySem.Str.ofString "_law_drawn") = true)
    (k__law_drawn : keepIn K (.ref a__law_drawn) = true)
    (n__law_told : nsIn K mainGlobals (PySem.Str.ofString "_law_told") = some (some (.ref a__law_told)))
    (l__law_told : K.lookup a__law_told = some ⟨oc__law_told, od__law_told, .func (fnOf (PySem.Str.ofString "_law_told") (PySem.Str.ofString "_law_told") (defArgs s__law_told) (defBody s__law_told) (defScope s__law_told) .none kV__law_told dc__law_told pm__law_told an__law_told cd__law_told ct__law_told), sl__law_told⟩)
    (c__law_told : codeIn K cd__law_told (PySem.Str.ofString "_law_told") = true)
    (k__law_told : keepIn K (.ref a__law_told) = true)
    (n__law_due : nsIn K mainGlobals (PySem.Str.ofString "_law_due") = some (some (.ref a__law_due)))
    (l__law_due : K.lookup a__law_due = some ⟨oc__law_due, od__law_due, .func (fnOf (PySem.Str.ofString "_law_due") (PySem.Str.ofString "_law_due") (defArgs s__law_due) (defBody s__law_due) (defScope s__law_due) .none kV__law_due dc__law_due pm__law_due an__law_due cd__law_due ct__law_due), sl__law_due⟩)
    (c__law_due : codeIn K cd__law_due (PySem.Str.ofString "_law_due") = true)
    (k__law_due : keepIn K (.ref a__law_due) = true)
    (n__law_is : nsIn K mainGlobals (PySem.Str.ofString "_law_is") = some (some (.ref a__law_is)))
    (l__law_is : K.lookup a__law_is = some ⟨oc__law_is, od__law_is, .func (fnOf (PySem.Str.ofString "_law_is") (PySem.Str.ofString "_law_is") (defArgs s__law_is) (defBody s__law_is) (defScope s__law_is) .none kV__law_is dc__law_is pm__law_is an__law_is cd__law_is ct__law_is), sl__law_is⟩)
    (c__law_is : codeIn K cd__law_is (PySem.Str.ofString "_law_is") = true)
    (k__law_is : keepIn K (.ref a__law_is) = true)
    (n__law_clause : nsIn K mainGlobals (PySem.Str.ofString "_law_clause") = some (some (.ref a__law_clause)))
    (l__law_clause : K.lookup a__law_clause = some ⟨oc__law_clause, od__law_clause, .func (fnOf (PySem.Str.ofString "_law_clause") (PySem.Str.ofString "_law_clause") (defArgs s__law_clause) (defBody s__law_clause) (defScope s__law_clause) .none kV__law_clause dc__law_clause pm__law_clause an__law_clause cd__law_clause ct__law_clause), sl__law_clause⟩)
    (c__law_clause : codeIn K cd__law_clause (PySem.Str.ofString "_law_clause") = true)
    (k__law_clause : keepIn K (.ref a__law_clause) = true)
    (n_law : nsIn K mainGlobals (PySem.Str.ofString "law") = some (some (.ref a_law)))
    (l_law : K.lookup a_law = some ⟨oc_law, od_law, .func (fnOf (PySem.Str.ofString "law") (PySem.Str.ofString "law") (defArgs s_law) (defBody s_law) (defScope s_law) .none kV_law dc_law pm_law an_law cd_law ct_law), sl_law⟩)
    (c_law : codeIn K cd_law (PySem.Str.ofString "law") = true)
    (k_law : keepIn K (.ref a_law) = true)
    (z_sorted : nsIn K mainGlobals (PySem.Str.ofString "sorted") = some none)
    (z_abs : nsIn K mainGlobals (PySem.Str.ofString "abs") = some none)
    (z_all : nsIn K mainGlobals (PySem.Str.ofString "all") = some none)
    (z_any : nsIn K mainGlobals (PySem.Str.ofString "any") = some none)
    (z_zip : nsIn K mainGlobals (PySem.Str.ofString "zip") = some none)
    (z_tuple : nsIn K mainGlobals (PySem.Str.ofString "tuple") = some none)
    (z_int : nsIn K mainGlobals (PySem.Str.ofString "int") = some none)
    (z_list : nsIn K mainGlobals (PySem.Str.ofString "list") = some none)
    (z_len : nsIn K mainGlobals (PySem.Str.ofString "len") = some none)
    (z_range : nsIn K mainGlobals (PySem.Str.ofString "range") = some none)
    (z_isinstance : nsIn K mainGlobals (PySem.Str.ofString "isinstance") = some none)
    (z_bool : nsIn K mainGlobals (PySem.Str.ofString "bool") = some none)
    (z_str : nsIn K mainGlobals (PySem.Str.ofString "str") = some none)
    (z_set : nsIn K mainGlobals (PySem.Str.ofString "set") = some none)
    (z_super : nsIn K mainGlobals (PySem.Str.ofString "super") = some none)
    (z_MOST : nsIn K mainGlobals (PySem.Str.ofString "MOST_VARIABLE") = some (some (.int 1000000 tkM)))
    (e_n : nsIn K mainGlobals (PySem.Str.ofString "BadClause") = some (some (.ref C)))
    (e_l : K.lookup C = some (excClassObj nm qn C N bs bm true sn sub ab col dd k0 k1 k2 k3 k5 "ValueError.__new__"))
    (e_r : PySem.HandSPX.refsVE bm = true)
    (e_sa : findIn K (.ref C) "__setattr__" = some (some (.builtin "object.__setattr__")))
    (e_ga : findIn K (.ref C) "__getattribute__" = some (some (.builtin "BaseException.__getattribute__")))
    (e_gg : findIn K (.ref C) "__getattr__" = some none)
    (e_ex : subIn K (.ref C) (.type "BaseException") = some true)
    (e_ve : subIn K (.ref C) (.type "ValueError") = some true)
    (e_ty : typeIn K (.ref C) = some (.type "type"))
    (e_k : keepIn K (.ref C) = true)
    (e_hd : hasDictIn K C = true)
    (e_w : findIn K (.ref C) (PySem.Str.ofString "what") = some none)
    (e_i : findIn K (.ref C) "__init__" = some (some (.ref aI)))
    (e_ti : typeIn K (.ref aI) = some (.type "function"))
    (e_m0 : subIn K (.ref C) (.ref C) = some true)
    (e_mro : mroIn K C (.ref C) = some true)
    (e_3 : nsIn K cStatics "thirdparty.any" = some none)
    (e_s : ks_superIn K C C "__init__" = some (some (.builtin "ValueError.__init__")))
    (i_l : K.lookup aI = some ⟨ioc, iod, .func (ksFn iname iqual iparams [.Expr (.Call (.Attribute (.Call (.Name "super" p0) [] [] p1) "__init__" p2) [.JoinedStr (v1 :: v2 :: vs) p3] [] p4) p5, .Assign [.Attribute (.Name "self" p6) (PySem.Str.ofString "what") p7] (.Name (PySem.Str.ofString "what") p8) p9] iscope idV ikV idoc ipm ian (.ref cda) ict cc), iosl⟩)
    (i_c : codeIn K (.ref cda) iqual = true)
    (i_d : K.lookup cda = some ⟨ccl, cdd, .fields xs, csl⟩)
    (i_x : xs[2]? = some (.str file tf))
    (i_f : ((P.main.file : Str) == file) = true)
    (i_e : K.lookup cc = some ⟨cl, cld, .cell (some (.ref C)), csl2⟩)
    (i_a : (iparams.posonlyargs ++ iparams.args).head? = some ar)
    (i_a2 : ar.arg = "self")
    (i_p : ∀ e ∈ v1 :: v2 :: vs, Ex.Part (PySem.Str.ofString "what") e)
    (i_pl : (v1 :: v2 :: vs).length ≤ 900)
    (s1 : iscope.names.lookup ("self" : Str) = some .local)
    (s2 : iscope.names.lookup (PySem.Str.ofString "what") = some .local)
    (s3 : iscope.names.lookup ("super" : Str) = some .globalImplicit)
    (s4 : iscope.names.lookup ("__class__" : Str) = some .free)
    (s5 : decide (∀ x ∈ iscope.names, x.2 ≠ .cell) = true)
    (s6 : iscope.isCoroutine = false)
    (s7 : iscope.isGenerator = false)
    (s8 : iscope.kind = .function)
    (s9 : Ex.SupEv p0 p1 p2 p3 p4 v1 v2 vs)
    (s10 : (P.main.scope.names.lookup ("super" : Str)).isSome = false)
    (b_i : ∀ us : List Value, us.length = 2 → bindArgs (ksFn iname iqual iparams [.Expr (.Call (.Attribute (.Call (.Name "super" p0) [] [] p1) "__init__" p2) [.JoinedStr (v1 :: v2 :: vs) p3] [] p4) p5, .Assign [.Attribute (.Name "self" p6) (PySem.Str.ofString "what") p7] (.Name (PySem.Str.ofString "what") p8) p9] iscope idV ikV idoc ipm ian (.ref cda) ict cc) ⟨us, []⟩ = pure ([(PySem.Str.ofString "self"), (PySem.Str.ofString "what")].zip us)) :
    ∃ fd : FuncData, (∀ (s : Shared) (v : Value), BindsTo s fd ⟨[v], []⟩ [("script", v)]) ∧ ∀ base : Heap, K.In base → base.Ns mainGlobals mg → FnOk P w K mg base (L2.CX P w) 6 fa fd [(PySem.Str.ofString "script")] (spLaw K) := by
  have e := hfa.symm.trans (mg_of X G n_law)
  cases e
  have U_ordered := fun_mk (st := s_ordered) l_ordered c_ordered k_ordered
  have b_ordered := U_ordered.binds (ps := [(PySem.Str.ofString "literals")]) fun _ _ _ _ _ _ us hl => match us, hl with | [_], _ => rfl
  have g_ordered := mg_of X G n_ordered
  have U_clause_of := fun_mk (st := s_clause_of) l_clause_of c_clause_of k_clause_of
  have b_clause_of := U_clause_of.binds (ps := [(PySem.Str.ofString "literals")]) fun _ _ _ _ _ _ us hl => match us, hl with | [_], _ => rfl
  have g_clause_of := mg_of X G n_clause_of
  have U_is_clause := fun_mk (st := s_is_clause) l_is_clause c_is_clause k_is_clause
  have b_is_clause := U_is_clause.binds (ps := [(PySem.Str.ofString "clause"), (PySem.Str.ofString "count")]) fun _ _ _ _ _ _ us hl => match us, hl with | [_, _], _ => rfl
  have g_is_clause := mg_of X G n_is_clause
  have U_is_true := fun_mk (st := s_is_true) l_is_true c_is_true k_is_true
  have b_is_true := U_is_true.binds (ps := [(PySem.Str.ofString "literal"), (PySem.Str.ofString "values")]) fun _ _ _ _ _ _ us hl => match us, hl with | [_, _], _ => rfl
  have g_is_true := mg_of X G n_is_true
  have U_holds := fun_mk (st := s_holds) l_holds c_holds k_holds
  have b_holds := U_holds.binds (ps := [(PySem.Str.ofString "clause"), (PySem.Str.ofString "values")]) fun _ _ _ _ _ _ us hl => match us, hl with | [_, _], _ => rfl
  have g_holds := mg_of X G n_holds
  have U_subsumes := fun_mk (st := s_subsumes) l_subsumes c_subsumes k_subsumes
  have b_subsumes := U_subsumes.binds (ps := [(PySem.Str.ofString "one"), (PySem.Str.ofString "two")]) fun _ _ _ _ _ _ us hl => match us, hl with | [_, _], _ => rfl
  have g_subsumes := mg_of X G n_subsumes
  have U_resolved := fun_mk (st := s_resolved) l_resolved c_resolved k_resolved
  have b_resolved := U_resolved.binds (ps := [(PySem.Str.ofString "one"), (PySem.Str.ofString "two"), (PySem.Str.ofString "variable")]) fun _ _ _ _ _ _ us hl => match us, hl with | [_, _, _], _ => rfl
  have g_resolved := mg_of X G n_resolved
  have U__law_pool := fun_mk (st := s__law_pool) l__law_pool c__law_pool k__law_pool
  have b__law_pool := U__law_pool.binds (ps := [(PySem.Str.ofString "script"), (PySem.Str.ofString "budget")]) fun _ _ _ _ _ _ us hl => match us, hl with | [_, _], _ => rfl
  have g__law_pool := mg_of X G n__law_pool
  have U__law_draw := fun_mk (st := s__law_draw) l__law_draw c__law_draw k__law_draw
  have b__law_draw := U__law_draw.binds (ps := [(PySem.Str.ofString "pool"), (PySem.Str.ofString "size")]) fun _ _ _ _ _ _ us hl => match us, hl with | [_, _], _ => rfl
  have g__law_draw := mg_of X G n__law_draw
  have U__law_same := fun_mk (st := s__law_same) l__law_same c__law_same k__law_same
  have b__law_same := U__law_same.binds (ps := [(PySem.Str.ofString "actual"), (PySem.Str.ofString "due")]) fun _ _ _ _ _ _ us hl => match us, hl with | [_, _], _ => rfl
  have g__law_same := mg_of X G n__law_same
  have U__law_drawn := fun_mk (st := s__law_drawn) l__law_drawn c__law_drawn k__law_drawn
  have b__law_drawn := U__law_drawn.binds (ps := [(PySem.Str.ofString "pool")]) fun _ _ _ _ _ _ us hl => match us, hl with | [_], _ => rfl
  have g__law_drawn := mg_of X G n__law_drawn
  have U__law_told := fun_mk (st := s__law_told) l__law_told c__law_told k__law_told
  have b__law_told := U__law_told.binds (ps := [(PySem.Str.ofString "way"), (PySem.Str.ofString "one"), (PySem.Str.ofString "two"), (PySem.Str.ofString "variable")]) fun _ _ _ _ _ _ us hl => match us, hl with | [_, _, _, _], _ => rfl
  have g__law_told := mg_of X G n__law_told
  have U__law_due := fun_mk (st := s__law_due) l__law_due c__law_due k__law_due
  have b__law_due := U__law_due.binds (ps := [(PySem.Str.ofString "literals")]) fun _ _ _ _ _ _ us hl => match us, hl with | [_], _ => rfl
  have g__law_due := mg_of X G n__law_due
  have U__law_is := fun_mk (st := s__law_is) l__law_is c__law_is k__law_is
  have b__law_is := U__law_is.binds (ps := [(PySem.Str.ofString "clause"), (PySem.Str.ofString "count")]) fun _ _ _ _ _ _ us hl => match us, hl with | [_, _], _ => rfl
  have g__law_is := mg_of X G n__law_is
  have U__law_clause := fun_mk (st := s__law_clause) l__law_clause c__law_clause k__law_clause
  have b__law_clause := U__law_clause.binds (ps := [(PySem.Str.ofString "pool")]) fun _ _ _ _ _ _ us hl => match us, hl with | [_], _ => rfl
  have g__law_clause := mg_of X G n__law_clause
  have U_law := fun_mk (st := s_law) l_law c_law k_law
  have b_law := U_law.binds (ps := [(PySem.Str.ofString "script")]) fun _ _ _ _ _ _ us hl => match us, hl with | [_], _ => rfl
  have g_law := mg_of X G n_law
  have m_sorted := mg_none_of X G z_sorted
  have m_abs := mg_none_of X G z_abs
  have m_all := mg_none_of X G z_all
  have m_any := mg_none_of X G z_any
  have m_zip := mg_none_of X G z_zip
  have m_tuple := mg_none_of X G z_tuple
  have m_int := mg_none_of X G z_int
  have m_list := mg_none_of X G z_list
  have m_len := mg_none_of X G z_len
  have m_range := mg_none_of X G z_range
  have m_isinstance := mg_none_of X G z_isinstance
  have m_bool := mg_none_of X G z_bool
  have m_str := mg_none_of X G z_str
  have m_set := mg_none_of X G z_set
  have m_super := mg_none_of X G z_super
  have m_MOST := mg_of X G z_MOST
  have gE := mg_of X G e_n
  have T : OexC K C := ⟨⟨nm, qn, N, bs, bm, sn, sub, ab, col, dd, k0, k1, k2, k3, k5, e_l, e_r⟩, e_sa, e_ex, e_ty, e_k⟩
  have J : Ex.Ini P K mg aI C _ (PySem.Str.ofString "what") (PySem.Str.ofString "what") := ⟨T, e_w, ⟨iname, iqual, iparams, iscope, idV, ikV, idoc, ipm, ict, ioc, ian, iod, iosl, cda, cc, p0, p1, p2, p3, p4, p5, p6, p7, p8, p9, v1, v2, vs, rfl, i_l, i_c, i_p, i_pl, ⟨ar, i_a, i_a2⟩, ⟨ccl, cdd, xs, csl, file, tf, i_d, i_x, i_f⟩, ⟨cl, cld, csl2, i_e⟩, s1, s2, s3, s4, of_decide_eq_true s5, s6, s7, s8, s9⟩, by decide, by decide, s10, m_super, e_mro, e_s, e_ve, e_3⟩
  have bI := Binds.all (K := K) (ps := [(PySem.Str.ofString "self"), (PySem.Str.ofString "what")]) b_i
  have e_m : exmOne K (.ref C) (.ref C) = some true := by
    have hcl : (clsIn K C).isSome = true := by unfold clsIn; rw [e_l] <;> rfl
    unfold exmOne
    rw [e_ex, if_pos (by decide)]
    show (if ((clsIn K C).isSome && typeIn K (.ref C) == some (.type "type")) = true then subIn K (.ref C) (.ref C) else none) = some true
    rw [if_pos (by rw [hcl, e_ty]; decide), e_m0]
  have XF : XfC K C := ⟨e_ga, e_gg, e_ex, e_hd⟩
  refine ⟨fnOf (PySem.Str.ofString "law") (PySem.Str.ofString "law") (defArgs s_law) (defBody s_law) (defScope s_law) .none kV_law dc_law pm_law an_law cd_law ct_law, fun s v => .of_eq rfl, fun base KB GB => ?_⟩
  have OI := Ex.init_ok (w := w) (base := base) (CX := L2.CX P w) J 0
  have Oordered := ok_ordered (P := P) (w := w) (mg := mg) (base := base)  U_ordered m_sorted m_abs     K00.k_ordered
  have Oclause_of := ok_clause_of (P := P) (w := w) (mg := mg) (base := base) F_ordered U_clause_of m_any m_tuple m_all m_abs m_zip m_MOST Oordered g_ordered k_ordered b_ordered T e_i e_ti OI bI gE  K00.k_clause_of
  have Ois_clause := ok_is_clause (P := P) (w := w) (mg := mg) (base := base)  U_is_clause m_all m_abs m_zip     K00.k_is_clause
  have Ois_true := ok_is_true (P := P) (w := w) (mg := mg) (base := base)  U_is_true m_int m_abs     K00.k_is_true
  have Oholds := ok_holds (P := P) (w := w) (mg := mg) (base := base) F_is_true U_holds m_any  Ois_true g_is_true k_is_true b_is_true   K00.k_holds
  have Osubsumes := ok_subsumes (P := P) (w := w) (mg := mg) (base := base)  U_subsumes m_all     K00.k_subsumes
  have Oresolved := ok_resolved (P := P) (w := w) (mg := mg) (base := base) F_clause_of U_resolved m_any  Oclause_of g_clause_of k_clause_of b_clause_of T e_i e_ti OI bI gE  K00.k_resolved
  have O_law_pool := ok__law_pool (P := P) (w := w) (mg := mg) (base := base)  U__law_pool m_list     K00.k__law_pool
  have O_law_draw := ok__law_draw (P := P) (w := w) (mg := mg) (base := base)  U__law_draw m_int m_len     K00.k__law_draw
  have O_law_same_1 : FnOk P w K mg base (L2.CX P w) 1 a__law_same _ _ (spD K mg 2 (F_same 1)) := ok__law_same (F_same 0) (F := F_same 1) U__law_same m_isinstance m_int m_tuple m_list m_range m_bool m_str m_len same0 g__law_same k__law_same b__law_same (K00.k__law_same 0)
  have O_law_same_2 : FnOk P w K mg base (L2.CX P w) 2 a__law_same _ _ (spD K mg 2 (F_same 2)) := ok__law_same (F_same 1) (F := F_same 2) U__law_same m_isinstance m_int m_tuple m_list m_range m_bool m_str m_len O_law_same_1 g__law_same k__law_same b__law_same (K00.k__law_same 1)
  have O_law_same : FnOk P w K mg base (L2.CX P w) 4 a__law_same _ _ (spD K mg 2 (F_same 2)) := O_law_same_2.mono (by decide)
  have O_law_drawn := ok__law_drawn (P := P) (w := w) (mg := mg) (base := base) F__law_draw U__law_drawn m_range  O_law_draw g__law_draw k__law_draw b__law_draw   K00.k__law_drawn
  have O_law_told := ok__law_told (P := P) (w := w) (mg := mg) (base := base) F_resolved F_clause_of cat00 U__law_told   Oresolved g_resolved k_resolved b_resolved Oclause_of g_clause_of k_clause_of b_clause_of  gE (cat_ok gE XF e_w e_m) K00.k__law_told
  have O_law_due := ok__law_due (P := P) (w := w) (mg := mg) (base := base)  U__law_due m_tuple m_sorted m_set m_abs     K00.k__law_due
  have O_law_is := ok__law_is (P := P) (w := w) (mg := mg) (base := base)  U__law_is m_range m_len m_abs     K00.k__law_is
  have O_law_clause := ok__law_clause (P := P) (w := w) (mg := mg) (base := base) F__law_draw U__law_clause m_range m_tuple  O_law_draw g__law_draw k__law_draw b__law_draw   K00.k__law_clause
  have Olaw := ok_law (P := P) (w := w) (mg := mg) (base := base) hF__law_pool F__law_drawn F__law_draw (F_same 2) F__law_clause F__law_due F__law_told F_is_clause F__law_is F_holds F_subsumes U_law m_range m_tuple m_int m_abs  O_law_pool g__law_pool k__law_pool b__law_pool O_law_drawn g__law_drawn k__law_drawn b__law_drawn O_law_draw g__law_draw k__law_draw b__law_draw O_law_same g__law_same k__law_same b__law_same O_law_clause g__law_clause k__law_clause b__law_clause O_law_due g__law_due k__law_due b__law_due O_law_told g__law_told k__law_told b__law_told Ois_clause g_is_clause k_is_clause b_is_clause O_law_is g__law_is k__law_is b__law_is Oholds g_holds k_holds b_holds Osubsumes g_subsumes k_subsumes b_subsumes   K00.k_law
  exact Olaw.imp fun vs H Q E ⟨La, ds, l, r, q⟩ => ⟨La, ds, l, r, q⟩
end K00
end

section
open PySem PySem.W PyProof.Rows
set_option maxHeartbeats 0 in
theorem PySem.Challenge.cw_coresprice_k00_whole_clauses_holds : PySem.Challenge.rw_coresprice_k00_whole_clauses.Holds := by
  w_on; o_law; k_head; (case hw => w_witness2)
  k_fill
  refine L2.walk_of (l := PySem.Challenge.rw_coresprice_k00_whole_clauses) (n := 63) (k := 6) (x := "script") (CX := fun w => L2.CX PySem.Challenge.pw_coresprice_k00_whole_clauses w) (sp := fun w => K00.spLaw _) rfl (by decide) rfl ⟨rfl, by decide, by decide⟩ (fun w h Y => PySem.W.kIn_of Y) ?F (fun w H a ns hl hO hS => K00.spLaw_ok hl hO hS) (fun w H s e s' h => K00.noCX h)
  case F =>
    intro w mg fa h KX G hmg
    refine' K00.all_mk KX G hmg ?n_ordered ?l_ordered ?c_ordered ?k_ordered ?n_clause_of ?l_clause_of ?c_clause_of ?k_clause_of ?n_is_clause ?l_is_clause ?c_is_clause ?k_is_clause ?n_is_true ?l_is_true ?c_is_true ?k_is_true ?n_holds ?l_holds ?c_holds ?k_holds ?n_subsumes ?l_subsumes ?c_subsumes ?k_subsumes ?n_resolved ?l_resolved ?c_resolved ?k_resolved ?n__law_pool ?l__law_pool ?c__law_pool ?k__law_pool ?n__law_draw ?l__law_draw ?c__law_draw ?k__law_draw ?n__law_same ?l__law_same ?c__law_same ?k__law_same ?n__law_drawn ?l__law_drawn ?c__law_drawn ?k__law_drawn ?n__law_told ?l__law_told ?c__law_told ?k__law_told ?n__law_due ?l__law_due ?c__law_due ?k__law_due ?n__law_is ?l__law_is ?c__law_is ?k__law_is ?n__law_clause ?l__law_clause ?c__law_clause ?k__law_clause ?n_law ?l_law ?c_law ?k_law ?z_sorted ?z_abs ?z_all ?z_any ?z_zip ?z_tuple ?z_int ?z_list ?z_len ?z_range ?z_isinstance ?z_bool ?z_str ?z_set ?z_super ?z_MOST ?e_n ?e_l ?e_r ?e_sa ?e_ga ?e_gg ?e_ex ?e_ve ?e_ty ?e_k ?e_hd ?e_w ?e_i ?e_ti ?e_m0 ?e_mro ?e_3 ?e_s ?i_l ?i_c ?i_d ?i_x ?i_f ?i_e ?i_a ?i_a2 ?i_p ?i_pl ?s1 ?s2 ?s3 ?s4 ?s5 ?s6 ?s7 ?s8 ?s9 ?s10 ?b_i
    (case n_ordered => k_is)
    (case l_ordered => k_is)
    (case c_ordered => k_is)
    (case k_ordered => k_is)
    (case n_clause_of => k_is)
    (case l_clause_of => k_is)
    (case c_clause_of => k_is)
    (case k_clause_of => k_is)
    (case n_is_clause => k_is)
    (case l_is_clause => k_is)
    (case c_is_clause => k_is)
    (case k_is_clause => k_is)
    (case n_is_true => k_is)
    (case l_is_true => k_is)
    (case c_is_true => k_is)
    (case k_is_true => k_is)
    (case n_holds => k_is)
    (case l_holds => k_is)
    (case c_holds => k_is)
    (case k_holds => k_is)
    (case n_subsumes => k_is)
    (case l_subsumes => k_is)
    (case c_subsumes => k_is)
    (case k_subsumes => k_is)
    (case n_resolved => k_is)
    (case l_resolved => k_is)
    (case c_resolved => k_is)
    (case k_resolved => k_is)
    (case n__law_pool => k_is)
    (case l__law_pool => k_is)
    (case c__law_pool => k_is)
    (case k__law_pool => k_is)
    (case n__law_draw => k_is)
    (case l__law_draw => k_is)
    (case c__law_draw => k_is)
    (case k__law_draw => k_is)
    (case n__law_same => k_is)
    (case l__law_same => k_is)
    (case c__law_same => k_is)
    (case k__law_same => k_is)
    (case n__law_drawn => k_is)
    (case l__law_drawn => k_is)
    (case c__law_drawn => k_is)
    (case k__law_drawn => k_is)
    (case n__law_told => k_is)
    (case l__law_told => k_is)
    (case c__law_told => k_is)
    (case k__law_told => k_is)
    (case n__law_due => k_is)
    (case l__law_due => k_is)
    (case c__law_due => k_is)
    (case k__law_due => k_is)
    (case n__law_is => k_is)
    (case l__law_is => k_is)
    (case c__law_is => k_is)
    (case k__law_is => k_is)
    (case n__law_clause => k_is)
    (case l__law_clause => k_is)
    (case c__law_clause => k_is)
    (case k__law_clause => k_is)
    (case n_law => k_is)
    (case l_law => k_is)
    (case c_law => k_is)
    (case k_law => k_is)
    (case z_sorted => k_is)
    (case z_abs => k_is)
    (case z_all => k_is)
    (case z_any => k_is)
    (case z_zip => k_is)
    (case z_tuple => k_is)
    (case z_int => k_is)
    (case z_list => k_is)
    (case z_len => k_is)
    (case z_range => k_is)
    (case z_isinstance => k_is)
    (case z_bool => k_is)
    (case z_str => k_is)
    (case z_set => k_is)
    (case z_super => k_is)
    (case z_MOST => k_is)
    (case e_n => k_is)
    (case e_l => k_is)
    (case e_r => decide +kernel)
    (case e_sa => k_is)
    (case e_ga => k_is)
    (case e_gg => k_is)
    (case e_ex => k_is)
    (case e_ve => k_is)
    (case e_ty => k_is)
    (case e_k => k_is)
    (case e_hd => k_is)
    (case e_w => k_is)
    (case e_i => k_is)
    (case e_ti => k_is)
    (case e_m0 => k_is)
    (case e_mro => k_is)
    (case e_3 => k_is)
    (case e_s => ks_is)
    (case i_l => k_is)
    (case i_c => k_is)
    (case i_d => k_is)
    (case i_x => rfl)
    (case i_f => first | rfl | decide +kernel)
    (case i_e => k_is)
    (case i_a => rfl)
    (case i_a2 => rfl)
    (case i_p => (intro e he; simp only [List.mem_cons, List.not_mem_nil, or_false] at he; rcases he with rfl | rfl | rfl <;> first | exact .text _ _ _ (by decide +kernel) | exact .fmt _ _))
    (case i_pl => decide)
    (case s1 => first | rfl | decide +kernel)
    (case s2 => first | rfl | decide +kernel)
    (case s3 => first | rfl | decide +kernel)
    (case s4 => first | rfl | decide +kernel)
    (case s5 => first | rfl | decide +kernel)
    (case s6 => rfl)
    (case s7 => rfl)
    (case s8 => rfl)
    (case s9 => (intro env; exact ⟨_, rfl⟩))
    (case s10 => first | rfl | decide +kernel)
    (case b_i => (exact fun us hl => match us, hl with | [_, _], _ => rfl))
end
