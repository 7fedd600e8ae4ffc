import PyProof.Rows.All
import Wide.All
import OpenK.AllK
import Wide.FinOn
import HandS.ForMost
import HandS.ForExc
import HandS.TryOnly
import HandS.Zip
import HandS.TupSets
import HandS.ExcField
import HandS.TryMany
import HandS.TupAny
import HandS.IsInst
import HandS.Deep
import KE.KDictCopyH
import KE.SortData
import HandS.SetBool
import HandS.ExcInit
import HandS.ExcSuper
import HandS.FStr
import KE.KExcSuper
import HandS.Codes
import PyProof.EnumMake
import PyProof.Draws
import HandS.Iter
import HandS.Exc
import HandS.TupMul
import HandS.Style
import KE.GoesEnum
import HandS.Text
import HandS.StrMore
import HandS.RaiseMore
import KE.IntTextLaws
import HandS.Dict
import HandS.Conv
import HandS.SetFor
import HandS.Strs
import PySem.Challenge.RW_coresprice_k04_whole_clauses_that_follow
set_option Elab.async false
set_option linter.all false
set_option maxRecDepth 100000
section
namespace Pu
open PySem PySem.Spec PyProof.Rows L2

/-! ### data without a heap -/
inductive Da where
  | non
  | bl (b : Bool)
  | int (i : Int)
  | str (x : Str)
  | tup (xs : List Da)
  | lst (xs : List Da)
  | obj (c : Addr) (ns : List Str) (xs : List Da)
  /-- the law's own script -/
  | scr (ns : List Int)
  /-- a dict that nobody changes any more: its keys, its values -/
  | dct (ks : List Key) (xs : List Da)

/-- whose list it is: a slot's, a pending value's -/
inductive Tg where
  | slot (i : Nat) | pend (j : Nat)
  deriving DecidableEq
/-- what is known of a slot: data for ever; a list of our own that may still be changed; the pool of draws; an exception that was caught, with its field -/
inductive Ce where
  | dat (d : Da) | own (ds : List Da) | pool | exn (fld : Str) (what : Da) | set (ds : List Da) | plv (po : List Da)
  /-- an object that its __init__ still makes: its class, its fields so far -/
  | me (c : Addr) (fs : List (Str × Da))
  /-- a dict of our own that may still be changed -/
  | odc (ks : List Key) (xs : List Da)
abbrev En := List (Option Ce)

def Chg : HO → Prop
  | .lst _ => True
  | .dK _ => True
  | .ins _ _ _ => True
  | .ext _ => True
  | _ => False
def Keep (L : Addr → Prop) (H H' : Hp) : Prop := ∀ b x, H b = some x → (L b ∨ ¬ Chg x) → H' b = some x

/-- a list at a that nobody changes any more -/
def LAt (K : PySem.W.Frag) (L : Addr → Prop) (H : Hp) (a : Addr) (xs : List V) : Prop := H a = some (.lst xs) ∧ L a
theorem LAt.sq {K L H a xs} (h : LAt K L H a xs) : SqL K H a xs := .inl (.inl h.1)
theorem LAt.mono {K L L' H H' a xs} (h : LAt K L H a xs) (k : Keep L H H') (l : ∀ b x, H b = some x → L b → L' b) : LAt K L' H' a xs := ⟨k _ _ h.1 (.inl h.2), l _ _ h.1 h.2⟩
/-- the script's list -/
def SqF (K : PySem.W.Frag) (H : Hp) (a : Addr) (xs : List V) : Prop := SqL K H a xs ∧ ∀ H' : Hp, (∀ b x, H b = some x → ¬ Chg x → H' b = some x) → SqL K H' a xs
theorem SqF.mono {K : PySem.W.Frag} {H H' : Hp} {a : Addr} {xs : List V} (h : SqF K H a xs) (k : ∀ b x, H b = some x → ¬ Chg x → H' b = some x) : SqF K H' a xs := by
  refine ⟨h.2 H' k, fun H'' k2 => h.2 H'' fun b x e n => k2 b x (k b x e n) n⟩
theorem sqT_mono {K H H' a xs} {L : Addr → Prop} (h : SqT K H a xs) (k : Keep L H H') : SqT K H' a xs := by
  rcases h with (h | ⟨o, h⟩) | h
  · exact .inl (.inl (k _ _ h (.inr fun z => z)))
  · exact .inl (.inr ⟨o, k _ _ h (.inr fun z => z)⟩)
  · exact .inr h

/-- a flat item's number; the key of a tuple of such -/
def Da.num : Da → Option Int
  | .int i => some i
  | .bl b => some (if b = true then 1 else 0)
  | _ => none
def Da.key : Da → Option (List Int)
  | .tup (d :: ds) => (d :: ds).mapM Da.num
  | _ => none
/-- the pool as a list -/
def poolD (ns : List Int) (a b c d e : Int) : List Da := [.lst (ns.map Da.int), .int a, .int b, .int c, .int d, .int e]
def PoolOk (po : List Da) : Prop := ∃ ns a b c d e, po = poolD ns a b c d e ∧ 0 ≤ a ∧ 0 ≤ c ∧ c < 2147483647 ∧ ns.length ≤ 1000
/-- the members of the set of ds -/
def SetOf (ds ms : List Da) : Prop := (ms.map Da.key).Nodup ∧ (∀ d ∈ ms, d ∈ ds) ∧ ∀ d ∈ ds, Da.key d ∈ ms.map Da.key

mutual
def Rep (K : PySem.W.Frag) (L : Addr → Prop) (H : Hp) : Da → V → Prop
  | .non, v => v = .non
  | .bl b, v => v = .bl b
  | .int i, v => v = .int i
  | .str x, v => v = .str x
  | .tup ds, v => ∃ a xs, v = .ref a ∧ SqT K H a xs ∧ ds.length ≤ sizeLine ∧ Reps K L H ds xs
  | .lst ds, v => ∃ a xs, v = .ref a ∧ LAt K L H a xs ∧ ds.length ≤ sizeLine ∧ Reps K L H ds xs
  | .obj c ns ds, v => ∃ a dx fs, v = .ref a ∧ (H a = some (.ins c dx fs) ∧ L a) ∧ fs.map (·.1) = ns ∧ Reps K L H ds (fs.map (·.2))
  | .scr ns, v => ∃ a, v = .ref a ∧ SqF K H a (ns.map V.int) ∧ ns.length ≤ 1000
  | .dct ks ds, v => ∃ a kvs, v = .ref a ∧ (H a = some (.dK kvs) ∧ L a) ∧ kvs.map (·.1) = ks ∧ Reps K L H ds (kvs.map (·.2))
def Reps (K : PySem.W.Frag) (L : Addr → Prop) (H : Hp) : List Da → List V → Prop
  | [], xs => xs = []
  | d :: ds, xs => ∃ x ys, xs = x :: ys ∧ Rep K L H d x ∧ Reps K L H ds ys
end

section
variable {K : PySem.W.Frag} {L L' : Addr → Prop} {H H' : Hp}
mutual
theorem Rep.mono (k : Keep L H H') (l : ∀ b x, H b = some x → L b → L' b) : ∀ (d : Da) (v : V), Rep K L H d v → Rep K L' H' d v
  | .non, v, h => by simpa [Rep] using h
  | .bl b, v, h => by simpa [Rep] using h
  | .int i, v, h => by simpa [Rep] using h
  | .str x, v, h => by simpa [Rep] using h
  | .tup ds, v, h => by
    simp only [Rep] at h ⊢
    obtain ⟨a, xs, e, q, z, r⟩ := h
    exact ⟨a, xs, e, sqT_mono q k, z, Reps.mono k l ds xs r⟩
  | .lst ds, v, h => by
    simp only [Rep] at h ⊢
    obtain ⟨a, xs, e, q, z, r⟩ := h
    exact ⟨a, xs, e, q.mono k l, z, Reps.mono k l ds xs r⟩
  | .obj c ns ds, v, h => by
    simp only [Rep] at h ⊢
    obtain ⟨a, dx, fs, e, q, z, r⟩ := h
    exact ⟨a, dx, fs, e, ⟨k _ _ q.1 (.inl q.2), l _ _ q.1 q.2⟩, z, Reps.mono k l ds _ r⟩
  | .scr ns, v, h => by
    simp only [Rep] at h ⊢
    obtain ⟨a, e, q, z⟩ := h
    exact ⟨a, e, q.mono fun b x e n => k b x e (.inr n), z⟩
  | .dct ks ds, v, h => by
    simp only [Rep] at h ⊢
    obtain ⟨a, kvs, e, q, z, r⟩ := h
    exact ⟨a, kvs, e, ⟨k _ _ q.1 (.inl q.2), l _ _ q.1 q.2⟩, z, Reps.mono k l ds _ r⟩
theorem Reps.mono (k : Keep L H H') (l : ∀ b x, H b = some x → L b → L' b) : ∀ (ds : List Da) (vs : List V), Reps K L H ds vs → Reps K L' H' ds vs
  | [], vs, h => by simpa [Reps] using h
  | d :: ds, vs, h => by
    simp only [Reps] at h ⊢
    obtain ⟨x, ys, e, r, rs⟩ := h
    exact ⟨x, ys, e, Rep.mono k l d x r, Reps.mono k l ds ys rs⟩
end
theorem Reps.length : ∀ {ds : List Da} {vs : List V}, Reps K L H ds vs → vs.length = ds.length
  | [], vs, h => by simp only [Reps] at h; subst h; rfl
  | d :: ds, vs, h => by
    simp only [Reps] at h
    obtain ⟨x, ys, e, _, rs⟩ := h
    subst e
    simp [Reps.length rs]
theorem Reps.get : ∀ {ds : List Da} {vs : List V} {i : Nat} {x : V}, Reps K L H ds vs → vs[i]? = some x → ∃ d, ds[i]? = some d ∧ Rep K L H d x
  | [], vs, i, x, h, e => by simp only [Reps] at h; subst h; simp at e
  | d :: ds, vs, 0, x, h, e => by
    simp only [Reps] at h
    obtain ⟨y, ys, e1, r, _⟩ := h
    subst e1
    simp at e
    subst e
    exact ⟨d, rfl, r⟩
  | d :: ds, vs, i + 1, x, h, e => by
    simp only [Reps] at h
    obtain ⟨y, ys, e1, _, rs⟩ := h
    subst e1
    obtain ⟨d', h1, h2⟩ := Reps.get (i := i) rs (by simpa using e)
    exact ⟨d', by simpa using h1, h2⟩
theorem Reps.getD {ds : List Da} {vs : List V} {i : Nat} {d : Da} (h : Reps K L H ds vs) (e : ds[i]? = some d) : ∃ x, vs[i]? = some x ∧ Rep K L H d x := by
  have hl := h.length
  have hi : i < ds.length := (List.getElem?_eq_some_iff.mp e).1
  obtain ⟨d', h1, h2⟩ := h.get (i := i) (x := vs[i]'(by omega)) (by simp)
  rw [e] at h1
  cases h1
  exact ⟨_, by simp, h2⟩
theorem Reps.snoc : ∀ {ds : List Da} {vs : List V} {d : Da} {v : V}, Reps K L H ds vs → Rep K L H d v → Reps K L H (ds ++ [d]) (vs ++ [v])
  | [], vs, d, v, h, r => by simp only [Reps] at h; subst h; simp only [List.nil_append, Reps]; exact ⟨v, [], rfl, r, rfl⟩
  | _ :: _, vs, d, v, h, r => by
    simp only [Reps] at h
    obtain ⟨y, ys, e1, q, rs⟩ := h
    subst e1
    simp only [List.cons_append, Reps]
    exact ⟨y, ys ++ [v], rfl, q, Reps.snoc rs r⟩
theorem Reps.app : ∀ {ds es : List Da} {vs ws : List V}, Reps K L H ds vs → Reps K L H es ws → Reps K L H (ds ++ es) (vs ++ ws)
  | [], es, vs, ws, h, r => by simp only [Reps] at h; subst h; exact r
  | _ :: _, es, vs, ws, h, r => by
    simp only [Reps] at h
    obtain ⟨y, ys, e1, q, rs⟩ := h
    subst e1
    simp only [List.cons_append, Reps]
    exact ⟨y, ys ++ ws, rfl, q, Reps.app rs r⟩
theorem Reps.drop : ∀ {ds : List Da} {vs : List V} (n : Nat), Reps K L H ds vs → Reps K L H (ds.drop n) (vs.drop n)
  | ds, vs, 0, h => h
  | [], vs, n + 1, h => by simp only [Reps] at h; subst h; rfl
  | d :: ds, vs, n + 1, h => by
    simp only [Reps] at h
    obtain ⟨y, ys, e1, q, rs⟩ := h
    subst e1
    exact Reps.drop n rs
theorem Reps.take : ∀ {ds : List Da} {vs : List V} (n : Nat), Reps K L H ds vs → Reps K L H (ds.take n) (vs.take n)
  | ds, vs, 0, h => rfl
  | [], vs, n + 1, h => by simp only [Reps] at h; subst h; rfl
  | d :: ds, vs, n + 1, h => by
    simp only [Reps] at h
    obtain ⟨y, ys, e1, q, rs⟩ := h
    subst e1
    simp only [List.take_succ_cons, Reps]
    exact ⟨y, _, rfl, q, Reps.take n rs⟩
theorem Reps.set : ∀ {ds : List Da} {vs : List V} {d : Da} {v : V} (i : Nat), Reps K L H ds vs → Rep K L H d v → Reps K L H (ds.set i d) (vs.set i v)
  | [], vs, d, v, i, h, r => by simp only [Reps] at h; subst h; simp [Reps]
  | _ :: _, vs, d, v, 0, h, r => by
    simp only [Reps] at h
    obtain ⟨y, ys, e1, q, rs⟩ := h
    subst e1
    simp only [List.set_cons_zero, Reps]
    exact ⟨v, ys, rfl, r, rs⟩
  | _ :: _, vs, d, v, i + 1, h, r => by
    simp only [Reps] at h
    obtain ⟨y, ys, e1, q, rs⟩ := h
    subst e1
    simp only [List.set_cons_succ, Reps]
    exact ⟨y, _, rfl, q, Reps.set i rs r⟩
end
end Pu
end

section
namespace Pu
open PySem PySem.Spec PyProof.Rows L2

/-! ### the state of a body: its slots, what is pending, the heap -/
/-- a body's fixed things: the heap at its entry, the pools that it was handed, the lists that it was handed -/
structure Gc where
  H0 : Hp
  P0 : Addr → Prop
  La : Addr → Prop
  xa : Option (Addr × Addr) := none
  so : Addr → List (Addr × List Int) → HO := fun _ _ => .lst []

def Lof (G : Gc) (O : Addr → Option Tg) : Addr → Prop := fun a => O a = none ∧ (G.La a ∨ G.H0 a = none)

/-- a pool of draws: the script's numbers, a place, and four numbers -/
def PoolAt (K : PySem.W.Frag) (L : Addr → Prop) (H : Hp) (p : Addr) : Prop :=
  ∃ (q : Addr) (ns : List Int) (a b c d e : Int), H p = some (.lst [.ref q, .int a, .int b, .int c, .int d, .int e]) ∧ LAt K L H q (ns.map V.int) ∧ 0 ≤ a ∧ 0 ≤ c ∧ c < 2147483647 ∧ ns.length ≤ 1000

def CeOk (K : PySem.W.Frag) (G : Gc) (O : Addr → Option Tg) (H : Hp) (t : Tg) (v : V) : Ce → Prop
  | .dat d => Rep K (Lof G O) H d v
  | .own ds => ∃ p xs, v = .ref p ∧ O p = some t ∧ H p = some (.lst xs) ∧ ds.length ≤ sizeLine ∧ Reps K (Lof G O) H ds xs ∧ ¬ G.P0 p
  | .pool => ∃ p, v = .ref p ∧ O p = some t ∧ PoolAt K (Lof G O) H p
  | .set ds => ∃ (p : Addr) (bs : List (Addr × List Int × Da)), v = .ref p ∧ O p = some t ∧ H p = some (G.so p (bs.map fun b => (b.1, b.2.1))) ∧ ¬ G.P0 p ∧ bs.length ≤ ds.length ∧ SetOf ds (bs.map (·.2.2)) ∧ ∀ b ∈ bs, Rep K (Lof G O) H b.2.2 (.ref b.1) ∧ Da.key b.2.2 = some b.2.1
  | .plv po => ∃ p xs, v = .ref p ∧ O p = some t ∧ H p = some (.lst xs) ∧ Reps K (Lof G O) H po xs ∧ PoolOk po
  | .me c fs => ∃ p dx vs, v = .ref p ∧ O p = some t ∧ H p = some (.ins c dx vs) ∧ vs.map (·.1) = fs.map (·.1) ∧ Reps K (Lof G O) H (fs.map (·.2)) (vs.map (·.2)) ∧ ¬ G.P0 p ∧ G.La p ∧ G.H0 p = none
  | .odc ks ds => ∃ p kvs, v = .ref p ∧ O p = some t ∧ H p = some (.dK kvs) ∧ kvs.map (·.1) = ks ∧ Reps K (Lof G O) H ds (kvs.map (·.2)) ∧ ¬ G.P0 p
  | .exn fld what => ∃ a d y, v = .ref a ∧ G.xa = some (a, d) ∧ H d = some (.xd [(fld, y)]) ∧ Rep K (Lof G O) H what y

abbrev Pend := List (V × Ce)
def PeOk (K : PySem.W.Frag) (G : Gc) (O : Addr → Option Tg) (H : Hp) : Pend → Prop
  | [] => True
  | (v, c) :: r => CeOk K G O H (.pend r.length) v c ∧ PeOk K G O H r

structure StO (K : PySem.W.Frag) (G : Gc) (O : Addr → Option Tg) (σ : L2.St) (ρ : En) (pe : Pend) (H : Hp) : Prop where
  frame : ∀ b x, G.H0 b = some x → ¬ G.P0 b → H b = some x ∧ O b = none
  own : ∀ p t, O p = some t → ∃ x, H p = some x ∧ Chg x
  pools : ∀ p, G.P0 p → PoolAt K (Lof G O) H p ∧ ¬ G.La p ∧ (G.H0 p).isSome
  len : ρ.length = σ.length
  slots : ∀ (i : Nat) c, ρ[i]? = some (some c) → ∃ v, σ[i]? = some (some v) ∧ CeOk K G O H (.slot i) v c
  pends : PeOk K G O H pe
def Sd (K : PySem.W.Frag) (G : Gc) (σ : L2.St) (ρ : En) (pe : Pend) (H : Hp) : Prop := ∃ O, StO K G O σ ρ pe H

section
variable {K : PySem.W.Frag} {G : Gc} {O O' : Addr → Option Tg} {σ σ' : L2.St} {ρ ρ' : En} {pe pe' : Pend} {H H' : Hp} {t : Tg} {v : V} {c : Ce}

theorem PoolAt.mono {L L' : Addr → Prop} {p : Addr} (h : PoolAt K L H p) (k : Keep L H H') (l : ∀ b x, H b = some x → L b → L' b) (hp : H' p = H p) : PoolAt K L' H' p := by
  obtain ⟨q, ns, a, b, c, d, e, h1, h2, r⟩ := h
  exact ⟨q, ns, a, b, c, d, e, hp.trans h1, h2.mono k l, r⟩
/-- a cell stays: what is for ever stays, and its own list, if it has one, stands with its tag -/
theorem CeOk.mono (h : CeOk K G O H t v c) (k : Keep (Lof G O) H H') (l : ∀ b x, H b = some x → Lof G O b → Lof G O' b)
    (o : ∀ p, O p = some t → H' p = H p ∧ O' p = some t) : CeOk K G O' H' t v c := by
  cases c with
  | dat d => exact Rep.mono k l d v h
  | own ds =>
    obtain ⟨p, xs, e, ot, hp, z, r, n⟩ := h
    obtain ⟨o1, o2⟩ := o p ot
    exact ⟨p, xs, e, o2, o1.trans hp, z, Reps.mono k l _ _ r, n⟩
  | pool =>
    obtain ⟨p, e, ot, hp⟩ := h
    obtain ⟨o1, o2⟩ := o p ot
    exact ⟨p, e, o2, hp.mono k l o1⟩
  | set ds =>
    obtain ⟨p, bs, e, ot, hp, np, z, so, r⟩ := h
    obtain ⟨o1, o2⟩ := o p ot
    exact ⟨p, bs, e, o2, o1.trans hp, np, z, so, fun b hb => ⟨Rep.mono k l _ _ (r b hb).1, (r b hb).2⟩⟩
  | plv po =>
    obtain ⟨p, xs, e, ot, hp, r, ok⟩ := h
    obtain ⟨o1, o2⟩ := o p ot
    exact ⟨p, xs, e, o2, o1.trans hp, Reps.mono k l _ _ r, ok⟩
  | me c fs =>
    obtain ⟨p, dx, vs, e, ot, hp, k1, r, n⟩ := h
    obtain ⟨o1, o2⟩ := o p ot
    exact ⟨p, dx, vs, e, o2, o1.trans hp, k1, Reps.mono k l _ _ r, n⟩
  | odc ks ds =>
    obtain ⟨p, kvs, e, ot, hp, k1, r, n⟩ := h
    obtain ⟨o1, o2⟩ := o p ot
    exact ⟨p, kvs, e, o2, o1.trans hp, k1, Reps.mono k l _ _ r, n⟩
  | exn fld what =>
    obtain ⟨a, d, y, e, g, h1, r⟩ := h
    exact ⟨a, d, y, e, g, k _ _ h1 (.inr fun z => z), Rep.mono k l _ _ r⟩
theorem PeOk.mono : ∀ {pe : Pend}, PeOk K G O H pe → Keep (Lof G O) H H' → (∀ b x, H b = some x → Lof G O b → Lof G O' b) →
    (∀ j, j < pe.length → ∀ p, O p = some (.pend j) → H' p = H p ∧ O' p = some (.pend j)) → PeOk K G O' H' pe
  | [], _, _, _, _ => trivial
  | (v, c) :: r, h, k, l, o => ⟨h.1.mono k l (fun p hp => o r.length (by simp) p hp), PeOk.mono h.2 k l (fun j hj p hp => o j (by simp only [List.length_cons]; omega) p hp)⟩
/-- what is new stays apart -/
theorem StO.notO (S : StO K G O σ ρ pe H) {p : Addr} (h : H p = none) : O p = none := by
  cases q : O p with
  | none => rfl
  | some t =>
    obtain ⟨x, e, _⟩ := S.own p t q
    rw [h] at e
    cases e
theorem StO.noH0 (S : StO K G O σ ρ pe H) {p : Addr} (h : H p = none) : G.H0 p = none := by
  cases q : G.H0 p with
  | none => rfl
  | some x =>
    by_cases hp : G.P0 p
    · obtain ⟨⟨_, _, _, _, _, _, _, e, _⟩, _⟩ := S.pools p hp
      rw [h] at e
      cases e
    · have e := (S.frame p x q hp).1
      rw [h] at e
      cases e
theorem StO.fresh (S : StO K G O σ ρ pe H) {p : Addr} (h : H p = none) : Lof G O p := ⟨S.notO h, .inr (S.noH0 h)⟩
/-- the heap changed, nothing of ours: all that is for ever, and all own lists, stand -/
theorem StO.heap (S : StO K G O σ ρ pe H) (k : ∀ b x, H b = some x → H' b = some x) : StO K G O σ ρ pe H' where
  frame := fun b x e n => ⟨k _ _ (S.frame b x e n).1, (S.frame b x e n).2⟩
  own := fun p t e => by
    obtain ⟨x, h, z⟩ := S.own p t e
    exact ⟨x, k _ _ h, z⟩
  pools := fun p hp => by
    obtain ⟨h, n⟩ := S.pools p hp
    refine ⟨h.mono (fun b x e _ => k b x e) (fun _ _ _ z => z) ?_, n⟩
    obtain ⟨_, _, _, _, _, _, _, e, _⟩ := h
    rw [e]
    exact k _ _ e
  len := S.len
  slots := fun i c e => by
    obtain ⟨v, h1, h2⟩ := S.slots i c e
    refine ⟨v, h1, h2.mono (fun b x e _ => k b x e) (fun _ _ _ z => z) (fun p e => ⟨?_, e⟩)⟩
    obtain ⟨x, h, _⟩ := S.own p _ e
    rw [h]
    exact k _ _ h
  pends := S.pends.mono (fun b x e _ => k b x e) (fun _ _ _ z => z) (fun j _ p e => ⟨by
    obtain ⟨x, h, _⟩ := S.own p _ e
    rw [h]
    exact k _ _ h, e⟩)
theorem keep_upd {p : Addr} {o : HO} (h : H p = none) : ∀ b x, H b = some x → upd H p o b = some x := fun b x e => by
  rw [upd_ne (ne_of_none e h)]
  exact e
theorem StO.alloc (S : StO K G O σ ρ pe H) {p : Addr} {o : HO} (h : H p = none) : StO K G O σ ρ pe (upd H p o) := S.heap (keep_upd h)
/-- a value more is pending -/
theorem StO.push (S : StO K G O σ ρ pe H) (h : CeOk K G O H (.pend pe.length) v c) : StO K G O σ ρ ((v, c) :: pe) H :=
  ⟨S.frame, S.own, S.pools, S.len, S.slots, ⟨h, S.pends⟩⟩
theorem StO.pushD {d : Da} (S : StO K G O σ ρ pe H) (h : Rep K (Lof G O) H d v) : StO K G O σ ρ ((v, .dat d) :: pe) H := S.push h
theorem StO.top {d : Da} (S : StO K G O σ ρ ((v, .dat d) :: pe) H) : Rep K (Lof G O) H d v := S.pends.1
theorem StO.pop (S : StO K G O σ ρ ((v, c) :: pe) H) : StO K G O σ ρ pe H := ⟨S.frame, S.own, S.pools, S.len, S.slots, S.pends.2⟩
theorem Sd.pop (S : Sd K G σ ρ ((v, c) :: pe) H) : Sd K G σ ρ pe H := let ⟨O, S⟩ := S; ⟨O, S.pop⟩
/-- the tag t is given up -/
def clr (O : Addr → Option Tg) (t : Tg) : Addr → Option Tg := fun a => if O a = some t then none else O a
theorem clr_none {a : Addr} (h : O a = none) : clr O t a = none := by
  unfold clr
  rw [h]
  simp
theorem clr_ne {a : Addr} {u : Tg} (h : O a = some u) (n : u ≠ t) : clr O t a = some u := by
  unfold clr
  rw [h, if_neg]
  intro e
  exact n (Option.some.inj e)
theorem of_clr {a : Addr} {u : Tg} (h : clr O t a = some u) : O a = some u ∧ u ≠ t := by
  unfold clr at h
  by_cases e : O a = some t
  · rw [if_pos e] at h
    cases h
  · rw [if_neg e] at h
    exact ⟨h, fun q => e (q ▸ h)⟩
theorem clr_same {a : Addr} (h : O a = some t) : clr O t a = none := by
  unfold clr
  rw [if_pos h]
theorem lof_clr {a : Addr} (h : Lof G O a) : Lof G (clr O t) a := ⟨clr_none h.1, h.2⟩
/-- an own list becomes data -/
theorem StO.freeze {ds : List Da} (S : StO K G O σ ρ ((v, .own ds) :: pe) H) : StO K G (clr O (.pend pe.length)) σ ρ ((v, .dat (.lst ds)) :: pe) H := by
  obtain ⟨p, xs, e, ot, hp, z, r, n⟩ := S.pends.1
  have hk : Keep (Lof G O) H H := fun _ _ e _ => e
  have hl : ∀ b x, H b = some x → Lof G O b → Lof G (clr O (.pend pe.length)) b := fun _ _ _ h => lof_clr h
  have hP : ∀ q, O q = some (.pend pe.length) → ¬ G.P0 q → G.H0 q = none := fun q hq n => by
    cases w : G.H0 q with
    | none => rfl
    | some x =>
      have := (S.frame q x w n).2
      rw [hq] at this
      cases this
  refine ⟨fun b x e n => ⟨(S.frame b x e n).1, clr_none (S.frame b x e n).2⟩, fun q t h => S.own q t (of_clr h).1, fun q hq => ⟨(S.pools q hq).1.mono hk hl rfl, (S.pools q hq).2⟩, S.len, fun i c h => ?_, ?_, ?_⟩
  · obtain ⟨w, h1, h2⟩ := S.slots i c h
    exact ⟨w, h1, h2.mono hk hl (fun q e => ⟨rfl, clr_ne e (fun z => by cases z)⟩)⟩
  · show Rep K _ H (.lst ds) v
    simp only [Rep]
    refine ⟨p, xs, e, ⟨hp, clr_same ot, ?_⟩, z, Reps.mono hk hl _ _ r⟩
    exact .inr (hP p ot n)
  · exact S.pends.2.mono hk hl (fun j hj q e => ⟨rfl, clr_ne e (fun z => by
      cases z
      omega)⟩)

/-! ### storing -/
theorem getset {α : Type} {l : List α} {i j : Nat} {x y : α} (h : (l.set i x)[j]? = some y) : (i = j ∧ y = x ∧ i < l.length) ∨ (i ≠ j ∧ l[j]? = some y) := by
  by_cases e : i = j
  · subst e
    by_cases hi : i < l.length
    · rw [List.getElem?_set_self hi] at h
      exact .inl ⟨rfl, (Option.some.inj h).symm, hi⟩
    · rw [List.getElem?_eq_none (by simpa using hi)] at h
      cases h
  · rw [List.getElem?_set_ne e] at h
    exact .inr ⟨e, h⟩
/-- a slot is forgotten -/
theorem StO.forget (S : StO K G O σ ρ pe H) (i : Nat) (x : Option V) : StO K G (clr O (.slot i)) (σ.set i x) (ρ.set i none) pe H := by
  have hk : Keep (Lof G O) H H := fun _ _ e _ => e
  have hl : ∀ b x, H b = some x → Lof G O b → Lof G (clr O (.slot i)) b := fun _ _ _ h => lof_clr h
  refine ⟨fun b x e n => ⟨(S.frame b x e n).1, clr_none (S.frame b x e n).2⟩, fun q t h => S.own q t (of_clr h).1, fun q hq => ⟨(S.pools q hq).1.mono hk hl rfl, (S.pools q hq).2⟩, by simp [S.len], fun j c h => ?_, ?_⟩
  · rcases getset h with ⟨_, e, _⟩ | ⟨n, h⟩
    · cases e
    · obtain ⟨w, h1, h2⟩ := S.slots j c h
      exact ⟨w, by rw [List.getElem?_set_ne n]; exact h1, h2.mono hk hl (fun q e => ⟨rfl, clr_ne e (fun z => by cases z; exact n rfl)⟩)⟩
  · exact S.pends.mono hk hl (fun j hj q e => ⟨rfl, clr_ne e (fun z => by cases z)⟩)
/-- what is pending is stored -/
theorem StO.store {d : Da} (S : StO K G O σ ρ ((v, .dat d) :: pe) H) (i : Nat) : StO K G (clr O (.slot i)) (σ.set i (some v)) (ρ.set i (some (.dat d))) pe H := by
  have F := S.pop.forget i (some v)
  have hk : Keep (Lof G O) H H := fun _ _ e _ => e
  have hl : ∀ b x, H b = some x → Lof G O b → Lof G (clr O (.slot i)) b := fun _ _ _ h => lof_clr h
  refine ⟨F.frame, F.own, F.pools, by simpa using F.len, fun j c h => ?_, F.pends⟩
  rcases getset h with ⟨e1, e2, hi⟩ | ⟨n, h⟩
  · subst e1
    cases e2
    exact ⟨v, List.getElem?_set_self (by have := S.len; omega), Rep.mono hk hl _ _ S.top⟩
  · exact F.slots j c (by rw [List.getElem?_set_ne n]; exact h)
/-- the tag t becomes u -/
def ren (O : Addr → Option Tg) (t u : Tg) : Addr → Option Tg := fun a => if O a = some t then some u else clr O u a
/-- a list of our own is stored -/
theorem StO.storeOwn {ds : List Da} (S : StO K G O σ ρ ((v, .own ds) :: pe) H) (i : Nat) : StO K G (ren O (.pend pe.length) (.slot i)) (σ.set i (some v)) (ρ.set i (some (.own ds))) pe H := by
  obtain ⟨p, xs, e, ot, hp, z, r, np⟩ := S.pends.1
  have hk : Keep (Lof G O) H H := fun _ _ e _ => e
  have rn : ∀ {a}, O a = none → ren O (.pend pe.length) (.slot i) a = none := fun {a} h => by
    unfold ren
    rw [h, if_neg (by simp)]
    exact clr_none h
  have rk : ∀ {a u}, O a = some u → u ≠ .pend pe.length → u ≠ .slot i → ren O (.pend pe.length) (.slot i) a = some u := fun {a u} h n m => by
    unfold ren
    rw [h, if_neg (fun q => n (Option.some.inj q))]
    exact clr_ne h m
  have ro : ∀ {a u}, ren O (.pend pe.length) (.slot i) a = some u → ∃ t, O a = some t := fun {a u} h => by
    unfold ren at h
    by_cases q : O a = some (.pend pe.length)
    · exact ⟨_, q⟩
    · rw [if_neg q] at h
      exact ⟨_, (of_clr h).1⟩
  have hl : ∀ b x, H b = some x → Lof G O b → Lof G (ren O (.pend pe.length) (.slot i)) b := fun _ _ _ h => ⟨rn h.1, h.2⟩
  refine ⟨fun b x e n => ⟨(S.frame b x e n).1, rn (S.frame b x e n).2⟩, fun q t h => ?_, fun q hq => ⟨(S.pools q hq).1.mono hk hl rfl, (S.pools q hq).2⟩, by simp [S.len], fun j c h => ?_, ?_⟩
  · obtain ⟨t', h'⟩ := ro h
    exact S.own q t' h'
  · rcases getset h with ⟨e1, e2, hi⟩ | ⟨n, h⟩
    · subst e1
      cases e2
      exact ⟨v, List.getElem?_set_self (by have := S.len; omega), p, xs, e, by unfold ren; rw [if_pos ot], hp, z, Reps.mono hk hl _ _ r, np⟩
    · obtain ⟨w, h1, h2⟩ := S.slots j c h
      exact ⟨w, by rw [List.getElem?_set_ne n]; exact h1, h2.mono hk hl (fun q e => ⟨rfl, rk e (fun z => by cases z) (fun z => by cases z; exact n rfl)⟩)⟩
  · exact S.pends.2.mono hk hl (fun j hj q e => ⟨rfl, rk e (fun z => by cases z; omega) (fun z => by cases z)⟩)
/-- slot i's own list as data -/
theorem StO.freezeSlot {ds : List Da} {i : Nat} (S : StO K G O σ ρ pe H) (h : ρ[i]? = some (some (.own ds))) : StO K G (clr O (.slot i)) σ (ρ.set i (some (.dat (.lst ds)))) pe H := by
  obtain ⟨v, hv, p, xs, e, ot, hp, z, r, np⟩ := S.slots i _ h
  have hk : Keep (Lof G O) H H := fun _ _ e _ => e
  have hl : ∀ b x, H b = some x → Lof G O b → Lof G (clr O (.slot i)) b := fun _ _ _ h => lof_clr h
  have h0 : G.H0 p = none := by
    cases w : G.H0 p with
    | none => rfl
    | some x =>
      have := (S.frame p x w np).2
      rw [ot] at this
      cases this
  refine ⟨fun b x e n => ⟨(S.frame b x e n).1, clr_none (S.frame b x e n).2⟩, fun q t h => S.own q t (of_clr h).1, fun q hq => ⟨(S.pools q hq).1.mono hk hl rfl, (S.pools q hq).2⟩, by simp [S.len], fun j c h => ?_, ?_⟩
  · rcases getset h with ⟨e1, e2, _⟩ | ⟨n, h⟩
    · subst e1
      cases e2
      refine ⟨v, hv, ?_⟩
      show Rep K _ H (.lst ds) v
      simp only [Rep]
      exact ⟨p, xs, e, ⟨hp, clr_same ot, .inr h0⟩, z, Reps.mono hk hl _ _ r⟩
    · obtain ⟨w, h1, h2⟩ := S.slots j c h
      exact ⟨w, h1, h2.mono hk hl (fun q e => ⟨rfl, clr_ne e (fun z => by cases z; exact n rfl)⟩)⟩
  · exact S.pends.mono hk hl (fun j hj q e => ⟨rfl, clr_ne e (fun z => by cases z)⟩)
/-- slot i's own list is changed -/
theorem StO.change {ds es : List Da} {i : Nat} {p : Addr} {xs ys : List V} (S : StO K G O σ ρ pe H) (h : ρ[i]? = some (some (.own ds))) (hv : σ[i]? = some (some (.ref p))) (hp : O p = some (.slot i))
    (z : es.length ≤ sizeLine) (r : Reps K (Lof G O) H es ys) : StO K G O σ (ρ.set i (some (.own es))) pe (upd H p (.lst ys)) := by
  obtain ⟨v, hv', p', xs', e, ot, hp', z', r', np⟩ := S.slots i _ h
  rw [hv] at hv'
  cases hv'
  cases e
  have hk : Keep (Lof G O) H (upd H p (.lst ys)) := fun b x e k => by
    rw [upd_ne]
    · exact e
    · rintro rfl
      rcases k with k | k
      · have k1 := k.1
        rw [hp] at k1
        cases k1
      · rw [hp'] at e
        cases e
        exact k trivial
  have hl : ∀ b x, H b = some x → Lof G O b → Lof G O b := fun _ _ _ h => h
  refine ⟨fun b x e n => ⟨?_, (S.frame b x e n).2⟩, fun q t h => ?_, fun q hq => ⟨(S.pools q hq).1.mono hk hl ?_, (S.pools q hq).2⟩, by simp [S.len], fun j c h => ?_, ?_⟩
  · rw [upd_ne]
    · exact (S.frame b x e n).1
    · rintro rfl
      rw [(S.frame b x e n).2] at hp
      cases hp
  · by_cases e : q = p
    · subst e
      exact ⟨_, upd_same, trivial⟩
    · rw [upd_ne e]
      exact S.own q t h
  · exact upd_ne (fun e => np (e ▸ hq))
  · rcases getset h with ⟨e1, e2, _⟩ | ⟨n, h⟩
    · subst e1
      cases e2
      exact ⟨_, hv, p, ys, rfl, hp, upd_same, z, Reps.mono hk hl _ _ r, np⟩
    · obtain ⟨w, h1, h2⟩ := S.slots j c h
      exact ⟨w, h1, h2.mono hk hl (fun q e => ⟨upd_ne (fun q' => by
        rw [q', hp] at e
        cases e
        exact n rfl), e⟩)⟩
  · exact S.pends.mono hk hl (fun j hj q e => ⟨upd_ne (fun q' => by
      rw [q', hp] at e
      cases e), e⟩)
end
end Pu
end

section
namespace Pu
open PySem PySem.Spec PyProof.Rows L2

/-! ### what is wanted behind a piece of code, said of data alone -/
/-- an exception: its class's name, its one field's name and value -/
structure Ex where
  name : Str
  fld : Str
  what : Da
structure W (α : Type) where
  wp : En → (α → En → Prop) → (Ex → En → Prop) → Prop
  mono : ∀ {ρ : En} {k k' : α → En → Prop} {x x' : Ex → En → Prop}, (∀ a ρ, k a ρ → k' a ρ) → (∀ e ρ, x e ρ → x' e ρ) → wp ρ k x → wp ρ k' x'
namespace W
variable {α β γ : Type}
def ret (a : α) : W α := ⟨fun ρ k _ => k a ρ, fun hk _ h => hk _ _ h⟩
def bind (m : W α) (f : α → W β) : W β := ⟨fun ρ k x => m.wp ρ (fun a ρ1 => (f a).wp ρ1 k x) x, fun hk hx h => m.mono (fun a ρ1 q => (f a).mono hk hx q) hx h⟩
def fail : W α := ⟨fun _ _ _ => False, fun _ _ h => h⟩
def opt : Option α → W α
  | some a => ret a
  | none => fail
/-- a wish of the code's own -/
def req (p : Prop) : W Unit := ⟨fun ρ k _ => p ∧ k () ρ, fun hk _ h => ⟨h.1, hk _ _ h.2⟩⟩
/-- any value of some kind -/
def any (p : α → Prop) : W α := ⟨fun ρ k _ => ∀ a, p a → k a ρ, fun hk _ h a pa => hk _ _ (h a pa)⟩
def env : W En := ⟨fun ρ k _ => k ρ ρ, fun hk _ h => hk _ _ h⟩
def put (ρ' : En) : W Unit := ⟨fun _ k _ => k () ρ', fun hk _ h => hk _ _ h⟩
def ite (b : Bool) (m n : W α) : W α := if b then m else n
@[simp] theorem ret_wp (a : α) (ρ : En) (k : α → En → Prop) (x : Ex → En → Prop) : (ret a).wp ρ k x = k a ρ := rfl
@[simp] theorem bind_wp (m : W α) (f : α → W β) (ρ : En) (k : β → En → Prop) (x : Ex → En → Prop) : (bind m f).wp ρ k x = m.wp ρ (fun a ρ1 => (f a).wp ρ1 k x) x := rfl
@[simp] theorem fail_wp (ρ : En) (k : α → En → Prop) (x : Ex → En → Prop) : (fail : W α).wp ρ k x = False := rfl
@[simp] theorem opt_some (a : α) : opt (some a) = ret a := rfl
@[simp] theorem opt_none : opt (none : Option α) = fail := rfl
@[simp] theorem req_wp (p : Prop) (ρ : En) (k : Unit → En → Prop) (x : Ex → En → Prop) : (req p).wp ρ k x = (p ∧ k () ρ) := rfl
@[simp] theorem any_wp (p : α → Prop) (ρ : En) (k : α → En → Prop) (x : Ex → En → Prop) : (any p).wp ρ k x = ∀ a, p a → k a ρ := rfl
@[simp] theorem env_wp (ρ : En) (k : En → En → Prop) (x : Ex → En → Prop) : env.wp ρ k x = k ρ ρ := rfl
@[simp] theorem put_wp (ρ ρ' : En) (k : Unit → En → Prop) (x : Ex → En → Prop) : (put ρ').wp ρ k x = k () ρ' := rfl
theorem opt_wp {o : Option α} {ρ : En} {k : α → En → Prop} {x : Ex → En → Prop} (h : (opt o).wp ρ k x) : ∃ a, o = some a ∧ k a ρ := by
  cases o with
  | none => exact h.elim
  | some a => exact ⟨a, rfl, h⟩
end W

/-- nothing is raised -/
abbrev noEx : Ex → En → Prop := fun _ _ => False

section
variable (K : PySem.W.Frag) (G : Gc) (x : Ex → En → Prop)
/-- the readings -/
def tp (m : W Da) : TE := fun σ H Q => ∃ ρ pe, Sd K G σ ρ pe H ∧ m.wp ρ (fun d ρ' => ∀ v H', Sd K G σ ρ' ((v, .dat d) :: pe) H' → Q v H') x
def tow (m : W (List Da)) : TE := fun σ H Q => ∃ ρ pe, Sd K G σ ρ pe H ∧ m.wp ρ (fun ds ρ' => ∀ v H', Sd K G σ ρ' ((v, .own ds) :: pe) H' → Q v H') x
def ttt (m : W Bool) : TT := fun σ H Q => ∃ ρ pe, Sd K G σ ρ pe H ∧ m.wp ρ (fun b ρ' => ∀ H', Sd K G σ ρ' pe H' → Q b H') x
def pushAll : List V → List Da → Pend → Pend
  | v :: vs, d :: ds, pe => pushAll vs ds ((v, .dat d) :: pe)
  | _, _, pe => pe
def tar (m : W (List Da)) : TA := fun σ H Q => ∃ ρ pe, Sd K G σ ρ pe H ∧ m.wp ρ (fun ds ρ' => ∀ vs H', vs.length = ds.length → Sd K G σ ρ' (pushAll vs ds pe) H' → Q vs H') x
end

section
variable {X : Cx} {G : Gc} {x : Ex → En → Prop}
theorem _root_.L2.PE.of {e : Expr} {t t' : TE} (h : PE X e t) (w : ∀ σ H Q, t' σ H Q → t σ H Q) : PE X e t' := ⟨fun pins s σ H Q I q => h.run pins s σ H Q I (w σ H Q q)⟩
theorem _root_.L2.PT.of {e : Expr} {t t' : TT} (h : PT X e t) (w : ∀ σ H Q, t' σ H Q → t σ H Q) : PT X e t' := ⟨fun pins s σ H Q I q => h.run pins s σ H Q I (w σ H Q q)⟩
theorem _root_.L2.PA.of {es : List Expr} {t t' : TA} (h : PA X es t) (w : ∀ σ H Q, t' σ H Q → t σ H Q) : PA X es t' := ⟨fun pos pins s σ H Q I q => h.run pos pins s σ H Q I (w σ H Q q)⟩
theorem _root_.L2.PS.of {st : Stmt} {t t' : TS} (h : PS X st t) (w : ∀ D σ H, t' D σ H → t D σ H) : PS X st t' := ⟨fun pins s σ H D I q => h.run pins s σ H D I (w D σ H q)⟩
theorem _root_.L2.PSs.of {st : List Stmt} {t t' : TS} (h : PSs X st t) (w : ∀ D σ H, t' D σ H → t D σ H) : PSs X st t' := ⟨fun pins s σ H D I q => h.run pins s σ H D I (w D σ H q)⟩

/-! ### names and constants -/
def look (ρ : En) (i : Nat) : Option Da := match ρ[i]? with
  | some (some (.dat d)) => some d
  | _ => none
def lookOwn (ρ : En) (i : Nat) : Option (List Da) := match ρ[i]? with
  | some (some (.own ds)) => some ds
  | _ => none
theorem of_look {ρ : En} {i : Nat} {d : Da} (h : look ρ i = some d) : ρ[i]? = some (some (.dat d)) := by
  unfold look at h
  split at h
  · cases h; assumption
  · cases h
theorem of_lookOwn {ρ : En} {i : Nat} {ds : List Da} (h : lookOwn ρ i = some ds) : ρ[i]? = some (some (.own ds)) := by
  unfold lookOwn at h
  split at h
  · cases h; assumption
  · cases h
def eVar (i : Nat) : W Da := W.env.bind fun ρ => W.opt (look ρ i)
def eC (d : Da) : W Da := W.ret d
theorem p_var {e : Expr} (i : Nat) (h : PE X e (tVar i)) : PE X e (tp X.K G x (eVar i)) := h.of fun σ H Q ⟨ρ, pe, ⟨O, S⟩, q⟩ => by
  obtain ⟨d, e, q⟩ := W.opt_wp q
  obtain ⟨v, hv, r⟩ := S.slots i _ (of_look e)
  exact ⟨v, hv, q v H ⟨O, S.push r⟩⟩
theorem p_const {e : Expr} {v : V} {d : Da} (h : PE X e (tC v)) (r : ∀ K L H, Rep K L H d v) : PE X e (tp X.K G x (eC d)) := h.of fun σ H Q ⟨ρ, pe, ⟨O, S⟩, q⟩ => q v H ⟨O, S.push (r _ _ _)⟩
theorem p_int {i j pos} : PE X (.Constant (.int i) j pos) (tp X.K G x (eC (.int i))) := p_const pe_int fun _ _ _ => by simp [Rep]
theorem p_bl {b j pos} : PE X (.Constant (.bool b) j pos) (tp X.K G x (eC (.bl b))) := p_const pe_bl fun _ _ _ => by simp [Rep]
theorem p_non {j pos} : PE X (.Constant .none j pos) (tp X.K G x (eC .non)) := p_const pe_non fun _ _ _ => by simp [Rep]
theorem p_str {s j pos} : PE X (.Constant (.str s) j pos) (tp X.K G x (eC (.str s))) := p_const pe_str fun _ _ _ => by simp [Rep]

/-! ### operations by values -/
/-- a two-place operation that at most lays new objects -/
def Op2 (K : PySem.W.Frag) (r : R2) (f : Da → Da → Option Da) : Prop := ∀ (L : Addr → Prop) (H : Hp) (dx dy d : Da) (a b : V) (Q : VK), Rep K L H dx a → Rep K L H dy b → f dx dy = some d →
  (∀ v H', (∀ c u, H c = some u → H' c = some u) → Rep K (fun c => L c ∨ H c = none) H' d v → Q v H') → r a b H Q
def Op1 (K : PySem.W.Frag) (r : V → Hp → VK → Prop) (f : Da → Option Da) : Prop := ∀ (L : Addr → Prop) (H : Hp) (dx d : Da) (a : V) (Q : VK), Rep K L H dx a → f dx = some d →
  (∀ v H', (∀ c u, H c = some u → H' c = some u) → Rep K (fun c => L c ∨ H c = none) H' d v → Q v H') → r a H Q
def OpN (K : PySem.W.Frag) (r : List V → Hp → VK → Prop) (f : List Da → Option Da) : Prop := ∀ (L : Addr → Prop) (H : Hp) (ds : List Da) (d : Da) (vs : List V) (Q : VK), Reps K L H ds vs → f ds = some d →
  (∀ v H', (∀ c u, H c = some u → H' c = some u) → Rep K (fun c => L c ∨ H c = none) H' d v → Q v H') → r vs H Q
def eOp2 (f : Da → Da → Option Da) (a b : W Da) : W Da := a.bind fun d => b.bind fun e => W.opt (f d e)
def eOp1 (f : Da → Option Da) (a : W Da) : W Da := a.bind fun d => W.opt (f d)
def eOpN (f : List Da → Option Da) (a : W (List Da)) : W Da := a.bind fun d => W.opt (f d)

theorem StO.result {K : PySem.W.Frag} {O : Addr → Option Tg} {σ : L2.St} {ρ : En} {pe : Pend} {H H' : Hp} {d : Da} {v : V} (S : StO K G O σ ρ pe H) (k : ∀ c u, H c = some u → H' c = some u)
    (r : Rep K (fun c => Lof G O c ∨ H c = none) H' d v) : StO K G O σ ρ ((v, .dat d) :: pe) H' :=
  (S.heap k).push (Rep.mono (fun _ _ e _ => e) (fun b _ _ z => z.elim id fun z => S.fresh z) _ _ r)

theorem tp2 {r : R2} {f : Da → Da → Option Da} {ma mb : W Da} (h : Op2 X.K r f) {σ : L2.St} {H : Hp} {Q : VK} (q : tp X.K G x (eOp2 f ma mb) σ H Q) : tOp r (tp X.K G x ma) (tp X.K G x mb) σ H Q := by
  obtain ⟨ρ, pe, S, q⟩ := q
  refine ⟨ρ, pe, S, ma.mono (fun d ρ1 q v H1 S1 => ⟨ρ1, _, S1, mb.mono (fun e ρ2 q w H2 S2 => ?_) (fun _ _ z => z) q⟩) (fun _ _ z => z) q⟩
  obtain ⟨u, e, q⟩ := W.opt_wp q
  obtain ⟨O, S2⟩ := S2
  exact h (Lof G O) H2 _ _ _ v w Q S2.pop.top S2.top e fun v' H' k r => q v' H' ⟨O, S2.pop.pop.result k r⟩
theorem p_op {op : Operator} {r : R2} {f : Da → Da → Option Da} {a b : Expr} {pos : Pos} {ma mb : W Da} (ho : OpR X (binaryOp op) r) (h : Op2 X.K r f) (ha : PE X a (tp X.K G x ma)) (hb : PE X b (tp X.K G x mb)) :
    PE X (.BinOp a op b pos) (tp X.K G x (eOp2 f ma mb)) := (pe_op ho ha hb).of fun _ _ _ q => tp2 h q
theorem p_cmp {op : CmpOp} {r : R2} {f : Da → Da → Option Da} {a b : Expr} {pos : Pos} {ma mb : W Da} (ho : OpR X (compareOp op) r) (h : Op2 X.K r f) (ha : PE X a (tp X.K G x ma)) (hb : PE X b (tp X.K G x mb)) (hm : behindInMarks op b = false) :
    PE X (.Compare a [op] [b] pos) (tp X.K G x (eOp2 f ma mb)) := (pe_cmpR ho ha hb hm).of fun _ _ _ q => tp2 h q
theorem tp1 {r : V → Hp → VK → Prop} {f : Da → Option Da} {ma : W Da} (h : Op1 X.K r f) {σ : L2.St} {H : Hp} {Q : VK} (q : tp X.K G x (eOp1 f ma) σ H Q) : tUn r (tp X.K G x ma) σ H Q := by
  obtain ⟨ρ, pe, S, q⟩ := q
  refine ⟨ρ, pe, S, ma.mono (fun d ρ1 q v H1 S1 => ?_) (fun _ _ z => z) q⟩
  obtain ⟨u, e, q⟩ := W.opt_wp q
  obtain ⟨O, S1⟩ := S1
  exact h (Lof G O) H1 _ _ v Q S1.top e fun v' H' k r => q v' H' ⟨O, S1.pop.result k r⟩
theorem p_un {op : UnaryOp} {r : V → Hp → VK → Prop} {f : Da → Option Da} {a : Expr} {pos : Pos} {ma : W Da} (ho : UnR X (unaryOp op) r) (h : Op1 X.K r f) (ha : PE X a (tp X.K G x ma)) :
    PE X (.UnaryOp op a pos) (tp X.K G x (eOp1 f ma)) := (pe_un ho ha).of fun _ _ _ q => tp1 h q

/-! ### argument lists -/
def eNil : W (List Da) := W.ret []
def eCons (a : W Da) (r : W (List Da)) : W (List Da) := a.bind fun d => r.bind fun ds => W.ret (d :: ds)
theorem pa_nil' : PA X [] (tar X.K G x eNil) := pa_nil.of fun σ H Q ⟨ρ, pe, S, q⟩ => q [] H rfl S
theorem pa_cons' {e : Expr} {es : List Expr} {ma : W Da} {mr : W (List Da)} (ha : PE X e (tp X.K G x ma)) (hr : PA X es (tar X.K G x mr)) (hs : starEach (e :: es) X.env = (false, eval e X.env) :: starEach es X.env := by rfl) :
    PA X (e :: es) (tar X.K G x (eCons ma mr)) := (pa_cons ha hr hs).of fun σ H Q ⟨ρ, pe, S, q⟩ =>
  ⟨ρ, pe, S, ma.mono (fun d ρ1 q v H1 S1 => ⟨ρ1, _, S1, mr.mono (fun ds ρ2 q vs H2 l S2 => q (v :: vs) H2 (by simp [l]) S2) (fun _ _ z => z) q⟩) (fun _ _ z => z) q⟩
theorem pushAll_pop {K : PySem.W.Frag} {O : Addr → Option Tg} {σ : L2.St} {ρ : En} {H : Hp} : ∀ {vs : List V} {ds : List Da} {pe : Pend}, vs.length = ds.length → StO K G O σ ρ (pushAll vs ds pe) H → StO K G O σ ρ pe H ∧ Reps K (Lof G O) H ds vs
  | [], [], pe, _, S => ⟨S, by simp [Reps]⟩
  | v :: vs, d :: ds, pe, l, S => by
    obtain ⟨S1, r⟩ := pushAll_pop (vs := vs) (ds := ds) (by simpa using l) S
    refine ⟨S1.pop, ?_⟩
    simp only [Reps]
    exact ⟨v, vs, rfl, S1.top, r⟩
  | [], _ :: _, _, l, _ => by simp at l
  | _ :: _, [], _, l, _ => by simp at l
theorem tpN {r : List V → Hp → VK → Prop} {f : List Da → Option Da} {ma : W (List Da)} (h : OpN X.K r f) {σ : L2.St} {H : Hp} {Q : VK} (q : tp X.K G x (eOpN f ma) σ H Q) : tCB r (tar X.K G x ma) σ H Q := by
  obtain ⟨ρ, pe, S, q⟩ := q
  refine ⟨ρ, pe, S, ma.mono (fun ds ρ1 q vs H1 l S1 => ?_) (fun _ _ z => z) q⟩
  obtain ⟨u, e, q⟩ := W.opt_wp q
  obtain ⟨O, S1⟩ := S1
  obtain ⟨S2, rs⟩ := pushAll_pop l S1
  exact h (Lof G O) H1 _ _ vs Q rs e fun v' H' k r => q v' H' ⟨O, S2.result k r⟩
theorem p_callB {id : String} {r : List V → Hp → VK → Prop} {f : List Da → Option Da} {n : Str} {p pos : Pos} {e : Expr} {es : List Expr} {ma : W (List Da)} (hc : CallR X (.builtin id) r) (h : OpN X.K r f) (hg : Gl X n) (hm : X.mg n = none)
    (hv : bootBuiltins n = some (.builtin id)) (ha : PA X (e :: es) (tar X.K G x ma)) (hn : n ≠ "__name__" := by decide) (hdb : (n == ("__debug__" : Str)) = false := by decide)
    (he : starEach (e :: es) X.env = (false, eval e X.env) :: starEach es X.env := by rfl) (hpl : (backTo pos (starEach es X.env)).any (·.1) = false := by rfl) : PE X (.Call (.Name n p) (e :: es) [] pos) (tp X.K G x (eOpN f ma)) :=
  (pe_callB hc hg hm hv ha hn hdb he hpl).of fun _ _ _ q => tpN h q
theorem p_callTy {T : String} {r : List V → Hp → VK → Prop} {f : List Da → Option Da} {n : Str} {p pos : Pos} {e : Expr} {es : List Expr} {ma : W (List Da)} (hc : CallR X (.type T) r) (h : OpN X.K r f) (hg : Gl X n) (hm : X.mg n = none)
    (hv : bootBuiltins n = some (.type T)) (ha : PA X (e :: es) (tar X.K G x ma)) (hn : n ≠ "__name__" := by decide) (hdb : (n == ("__debug__" : Str)) = false := by decide)
    (he : starEach (e :: es) X.env = (false, eval e X.env) :: starEach es X.env := by rfl) (hpl : (backTo pos (starEach es X.env)).any (·.1) = false := by rfl) : PE X (.Call (.Name n p) (e :: es) [] pos) (tp X.K G x (eOpN f ma)) :=
  (pe_callTy hc hg hm hv ha hn hdb he hpl).of fun _ _ _ q => tpN h q

/-! ### displays -/
def eTup (a : W (List Da)) : W Da := a.bind fun ds => (W.req (ds.length ≤ 1000)).bind fun _ => W.ret (.tup ds)
def eDisp (a : W (List Da)) : W (List Da) := a.bind fun ds => (W.req (ds.length ≤ 1000)).bind fun _ => W.ret ds
def eFrz (a : W (List Da)) : W Da := a.bind fun ds => W.ret (.lst ds)
theorem le_line {n : Nat} (h : n ≤ 1000) : n ≤ sizeLine := Nat.le_of_lt (small1000 h)
theorem p_tup {es : List Expr} {k pos} {ma : W (List Da)} (ha : PA X es (tar X.K G x ma)) : PE X (.Tuple es k pos) (tp X.K G x (eTup ma)) := (pe_tup ha).of fun σ H Q ⟨ρ, pe, S, q⟩ => by
  refine ⟨ρ, pe, S, ma.mono (fun ds ρ1 q vs H1 l S1 => ?_) (fun _ _ z => z) q⟩
  obtain ⟨z, q⟩ := q
  obtain ⟨O, S1⟩ := S1
  obtain ⟨S2, rs⟩ := pushAll_pop l S1
  refine ⟨by rw [l]; exact le_line z, fun p np => q _ _ ⟨O, S2.result (keep_upd np) ?_⟩⟩
  simp only [Rep]
  exact ⟨p, vs, rfl, .of upd_same, le_line z, Reps.mono (fun b u e _ => keep_upd np b u e) (fun _ _ _ z => .inl z) _ _ rs⟩
theorem StO.pushOwn {K : PySem.W.Frag} {O : Addr → Option Tg} {σ : L2.St} {ρ : En} {pe : Pend} {H : Hp} {ds : List Da} {vs : List V} {p : Addr} (S : StO K G O σ ρ pe H) (np : H p = none) (z : ds.length ≤ sizeLine) (r : Reps K (Lof G O) H ds vs) :
    StO K G (fun a => if a = p then some (.pend pe.length) else clr O (.pend pe.length) a) σ ρ ((.ref p, .own ds) :: pe) (upd H p (.lst vs)) := by
  have S1 := S.alloc (o := .lst vs) np
  have ne : ∀ {b : Addr} {u : HO}, H b = some u → b ≠ p := fun {b u} e => ne_of_none e np
  have hk : Keep (Lof G O) H (upd H p (.lst vs)) := fun b u e _ => keep_upd np b u e
  have hl : ∀ b u, H b = some u → Lof G O b → Lof G (fun a => if a = p then some (.pend pe.length) else clr O (.pend pe.length) a) b := fun b u e h => ⟨(if_neg (ne e)).trans (clr_none h.1), h.2⟩
  have ow : ∀ {q t}, O q = some t → t ≠ .pend pe.length → upd H p (.lst vs) q = H q ∧ (if q = p then some (.pend pe.length) else clr O (.pend pe.length) q) = some t := fun {q t} e n => by
    obtain ⟨u, hu, _⟩ := S.own q t e
    exact ⟨upd_ne (ne hu), (if_neg (ne hu)).trans (clr_ne e n)⟩
  refine ⟨fun b u e n => ?_, fun q t h => ?_, fun q hq => ?_, S.len, fun i c e => ?_, ⟨p, vs, rfl, if_pos rfl, upd_same, z, Reps.mono hk hl _ _ r, fun hp => ?_⟩, ?_⟩
  · obtain ⟨h1, h2⟩ := S.frame b u e n
    exact ⟨keep_upd np b u h1, (if_neg (ne h1)).trans (clr_none h2)⟩
  · by_cases e : q = p
    · subst e
      exact ⟨_, upd_same, trivial⟩
    · rw [if_neg e] at h
      obtain ⟨u, hu, c⟩ := S.own q t (of_clr h).1
      exact ⟨u, keep_upd np q u hu, c⟩
  · obtain ⟨h, n⟩ := S.pools q hq
    have h' := h
    obtain ⟨_, _, _, _, _, _, _, e, _⟩ := h'
    exact ⟨h.mono hk hl (upd_ne (ne e)), n⟩
  · obtain ⟨w, h1, h2⟩ := S.slots i c e
    exact ⟨w, h1, h2.mono hk hl fun q e => ow e (fun z => by cases z)⟩
  · obtain ⟨h, _⟩ := S.pools p hp
    obtain ⟨_, _, _, _, _, _, _, e, _⟩ := h
    rw [np] at e
    cases e
  · exact S.pends.mono hk hl fun j hj q e => ow e (fun z => by cases z; omega)
theorem p_disp {es : List Expr} {pos} {ma : W (List Da)} (ha : PA X es (tar X.K G x ma)) : PE X (.List es pos) (tow X.K G x (eDisp ma)) := (pe_lst ha).of fun σ H Q ⟨ρ, pe, S, q⟩ => by
  refine ⟨ρ, pe, S, ma.mono (fun ds ρ1 q vs H1 l S1 => ?_) (fun _ _ z => z) q⟩
  obtain ⟨z, q⟩ := q
  obtain ⟨O, S1⟩ := S1
  obtain ⟨S2, rs⟩ := pushAll_pop l S1
  exact ⟨by rw [l]; exact le_line z, fun p np => q _ _ ⟨_, S2.pushOwn np (le_line z) rs⟩⟩
theorem p_frz {e : Expr} {ma : W (List Da)} (h : PE X e (tow X.K G x ma)) : PE X e (tp X.K G x (eFrz ma)) := h.of fun σ H Q ⟨ρ, pe, S, q⟩ =>
  ⟨ρ, pe, S, ma.mono (fun ds ρ1 q v H1 ⟨O, S1⟩ => q v H1 ⟨_, S1.freeze⟩) (fun _ _ z => z) q⟩
end
end Pu
end

section
namespace Pu
open PySem PySem.Spec PyProof.Rows L2

section
variable {X : Cx} {G : Gc} {x : Ex → En → Prop}
/-! ### tests -/
def asB : Da → Option Bool
  | .bl b => some b
  | _ => none
@[simp] theorem asB_bl (b : Bool) : asB (.bl b) = some b := rfl
theorem of_asB {d : Da} {b : Bool} (h : asB d = some b) : d = .bl b := by
  cases d <;> simp [asB] at h
  subst h
  rfl
def bV (m : W Da) : W Bool := m.bind fun d => W.opt (asB d)
theorem ttt_tB {m : W Da} {σ : L2.St} {H : Hp} {Q : Bool → Hp → Prop} (q : ttt X.K G x (bV m) σ H Q) : tp X.K G x m σ H fun v H1 => ∃ c, v = .bl c ∧ Q c H1 := by
  obtain ⟨ρ, pe, S, q⟩ := q
  refine ⟨ρ, pe, S, m.mono (fun d ρ1 q v H1 S1 => ?_) (fun _ _ z => z) q⟩
  obtain ⟨b, e, q⟩ := W.opt_wp q
  have e' := of_asB e
  subst e'
  obtain ⟨O, S1⟩ := S1
  have r := S1.top
  simp only [Rep] at r
  exact ⟨b, r, q H1 ⟨O, S1.pop⟩⟩
theorem t_val {e : Expr} {m : W Da} (h : PE X e (tp X.K G x m)) (he : ∀ whole, isTrue e X.env whole = (do let v ← whole; standAt e.pos; holding [v] (truthy v)) := by intro _; rfl) : PT X e (ttt X.K G x (bV m)) :=
  (pt_val h he).of fun _ _ _ q => ttt_tB q
theorem t_cmp {op : CmpOp} {r : R2} {f : Da → Da → Option Da} {a b : Expr} {pos : Pos} {ma mb : W Da} (ho : OpR X (compareOp op) r) (h : Op2 X.K r f) (ha : PE X a (tp X.K G x ma)) (hb : PE X b (tp X.K G x mb)) (hm : behindInMarks op b = false) :
    PT X (.Compare a [op] [b] pos) (ttt X.K G x (bV (eOp2 f ma mb))) := (pt_cmpR ho ha hb hm).of fun _ _ _ q => tp2 h (ttt_tB q)
/-- truth of any value -/
def truth : Da → Option Bool
  | .non => some false
  | .bl b => some b
  | .int i => some (i != 0)
  | .str y => if y.length ≤ sizeLine then some ((y.length : Int) != 0) else none
  | .tup ds => some (!ds.isEmpty)
  | .lst ds => some (!ds.isEmpty)
  | .obj _ _ _ => none
  | .scr ns => some (!ns.isEmpty)
  | .dct _ _ => none
theorem Reps.isEmpty {K : PySem.W.Frag} {L : Addr → Prop} {H : Hp} {ds : List Da} {vs : List V} (h : Reps K L H ds vs) : vs.isEmpty = ds.isEmpty := by
  cases ds with
  | nil => simp only [Reps] at h; subst h; rfl
  | cons d ds =>
    simp only [Reps] at h
    obtain ⟨_, _, e, _⟩ := h
    subst e
    rfl
theorem truth_ok {K : PySem.W.Frag} {L : Addr → Prop} {H : Hp} {d : Da} {v : V} {b : Bool} (r : Rep K L H d v) (h : truth d = some b) : TruV K v H b := by
  cases d with
  | non => simp only [Rep] at r; subst r; simpa [truth, TruV] using h.symm
  | bl c => simp only [Rep] at r; subst r; simpa [truth, TruV] using h.symm
  | int i => simp only [Rep] at r; subst r; simpa [truth, TruV] using h.symm
  | str y =>
    simp only [Rep] at r
    subst r
    simp only [truth] at h
    split at h
    · cases h
      exact ⟨by assumption, rfl⟩
    · cases h
  | tup ds =>
    simp only [Rep] at r
    obtain ⟨a, xs, e, q, _, rs⟩ := r
    subst e
    cases h
    exact .inr (.inl ⟨xs, q, by rw [rs.isEmpty]⟩)
  | lst ds =>
    simp only [Rep] at r
    obtain ⟨a, xs, e, q, _, rs⟩ := r
    subst e
    cases h
    exact .inl ⟨xs, q.sq, by rw [rs.isEmpty]⟩
  | obj c ns ds => cases h
  | scr ns =>
    simp only [Rep] at r
    obtain ⟨a, e, q⟩ := r
    subst e
    cases h
    exact .inl ⟨_, q.1.1, by cases ns <;> rfl⟩
  | dct ks ds => cases h
def bT (m : W Da) : W Bool := m.bind fun d => W.opt (truth d)
theorem t_truth {e : Expr} {m : W Da} (h : PE X e (tp X.K G x m)) (he : ∀ whole, isTrue e X.env whole = (do let v ← whole; standAt e.pos; holding [v] (truthy v)) := by intro _; rfl) : PT X e (ttt X.K G x (bT m)) :=
  (pt_truth h he).of fun σ H Q ⟨ρ, pe, S, q⟩ => by
    refine ⟨ρ, pe, S, m.mono (fun d ρ1 q v H1 S1 => ?_) (fun _ _ z => z) q⟩
    obtain ⟨b, e, q⟩ := W.opt_wp q
    obtain ⟨O, S1⟩ := S1
    exact ⟨b, truth_ok S1.top e, q H1 ⟨O, S1.pop⟩⟩
def bAnd (a b : W Bool) : W Bool := a.bind fun c => if c = true then b else W.ret false
def bOr (a b : W Bool) : W Bool := a.bind fun c => if c = true then W.ret true else b
def bNot (a : W Bool) : W Bool := a.bind fun c => W.ret (!c)
section
variable {a b : Expr} {rest : List Expr} {pos : Pos} {ma mb : W Bool} {t : TT}
theorem t_and1 (ha : PT X a (ttt X.K G x ma)) : PW X (.BoolOp .And [a] pos) (ttt X.K G x ma) := pw_and1 ha
theorem t_or1 (ha : PT X a (ttt X.K G x ma)) : PW X (.BoolOp .Or [a] pos) (ttt X.K G x ma) := pw_or1 ha
theorem _root_.L2.PW.of {e : Expr} {t t' : TT} (h : PW X e t) (w : ∀ σ H Q, t' σ H Q → t σ H Q) : PW X e t' := ⟨fun wh pins s σ H Q I q => h.run wh pins s σ H Q I (w σ H Q q)⟩
theorem t_and (ha : PT X a (ttt X.K G x ma)) (hb : PW X (.BoolOp .And (b :: rest) pos) (ttt X.K G x mb)) : PW X (.BoolOp .And (a :: b :: rest) pos) (ttt X.K G x (bAnd ma mb)) :=
  (pw_and ha hb).of fun σ H Q ⟨ρ, pe, S, q⟩ => ⟨ρ, pe, S, ma.mono (fun c ρ1 q H1 S1 => by
    cases c with
    | true => exact iteT ⟨ρ1, pe, S1, q⟩
    | false => exact iteF (q H1 S1)) (fun _ _ z => z) q⟩
theorem t_or (ha : PT X a (ttt X.K G x ma)) (hb : PW X (.BoolOp .Or (b :: rest) pos) (ttt X.K G x mb)) : PW X (.BoolOp .Or (a :: b :: rest) pos) (ttt X.K G x (bOr ma mb)) :=
  (pw_or ha hb).of fun σ H Q ⟨ρ, pe, S, q⟩ => ⟨ρ, pe, S, ma.mono (fun c ρ1 q H1 S1 => by
    cases c with
    | true => exact iteT (q H1 S1)
    | false => exact iteF ⟨ρ1, pe, S1, q⟩) (fun _ _ z => z) q⟩
theorem t_not (ha : PT X a (ttt X.K G x ma)) : PT X (.UnaryOp .Not a pos) (ttt X.K G x (bNot ma)) :=
  (pt_not ha).of fun σ H Q ⟨ρ, pe, S, q⟩ => ⟨ρ, pe, S, ma.mono (fun c ρ1 q H1 S1 => q H1 S1) (fun _ _ z => z) q⟩
end
/-! and, or, not of bools as values -/
def eAnd (a b : W Da) : W Da := (bV a).bind fun c => if c = true then b else W.ret (.bl false)
def eOr (a b : W Da) : W Da := (bV a).bind fun c => if c = true then W.ret (.bl true) else b
def eNot (a : W Da) : W Da := (bV a).bind fun c => W.ret (.bl (!c))
def eIf (c : W Bool) (a b : W Da) : W Da := c.bind fun k => if k = true then a else b
section
variable {a b c : Expr} {rest : List Expr} {pos : Pos} {ma mb : W Da}
theorem rep_bl {K : PySem.W.Frag} {L : Addr → Prop} {H : Hp} (b : Bool) : Rep K L H (.bl b) (.bl b) := by simp [Rep]
theorem asB_run {m : W Da} {ρ : En} {pe : Pend} {σ : L2.St} {R : V → Hp → Prop} {k : Bool → En → Prop} (q : (bV m).wp ρ k x) (h : ∀ c ρ1 H1, k c ρ1 → Sd X.K G σ ρ1 pe H1 → R (.bl c) H1) :
    m.wp ρ (fun d ρ' => ∀ v H', Sd X.K G σ ρ' ((v, .dat d) :: pe) H' → R v H') x := m.mono (fun d ρ1 q v H1 S1 => by
  obtain ⟨b, e, q⟩ := W.opt_wp q
  have e' := of_asB e
  subst e'
  obtain ⟨O, S1⟩ := S1
  have r := S1.top
  simp only [Rep] at r
  subst r
  exact h b ρ1 H1 q ⟨O, S1.pop⟩) (fun _ _ z => z) q
theorem p_one {op} {e : Expr} {m : W Da} (h : PE X e (tp X.K G x m)) : PE X (.BoolOp op [e] pos) (tp X.K G x m) := pe_one h
theorem p_and (ha : PE X a (tp X.K G x ma)) (hb : PE X (.BoolOp .And (b :: rest) pos) (tp X.K G x mb)) : PE X (.BoolOp .And (a :: b :: rest) pos) (tp X.K G x (eAnd ma mb)) :=
  (pe_and ha hb).of fun σ H Q ⟨ρ, pe, S, q⟩ => ⟨ρ, pe, S, asB_run q fun c ρ1 H1 q S1 => ⟨c, rfl, by
    cases c with
    | true => exact iteT ⟨ρ1, pe, S1, q⟩
    | false => exact iteF (let ⟨O, S1⟩ := S1; q _ H1 ⟨O, S1.pushD (rep_bl _)⟩)⟩⟩
theorem p_or (ha : PE X a (tp X.K G x ma)) (hb : PE X (.BoolOp .Or (b :: rest) pos) (tp X.K G x mb)) : PE X (.BoolOp .Or (a :: b :: rest) pos) (tp X.K G x (eOr ma mb)) :=
  (pe_or ha hb).of fun σ H Q ⟨ρ, pe, S, q⟩ => ⟨ρ, pe, S, asB_run q fun c ρ1 H1 q S1 => ⟨c, rfl, by
    cases c with
    | true => exact iteT (let ⟨O, S1⟩ := S1; q _ H1 ⟨O, S1.pushD (rep_bl _)⟩)
    | false => exact iteF ⟨ρ1, pe, S1, q⟩⟩⟩
theorem p_not (ha : PE X a (tp X.K G x ma)) : PE X (.UnaryOp .Not a pos) (tp X.K G x (eNot ma)) :=
  (pe_not ha).of fun σ H Q ⟨ρ, pe, S, q⟩ => ⟨ρ, pe, S, asB_run q fun c ρ1 H1 q ⟨O, S1⟩ => ⟨c, rfl, q _ H1 ⟨O, S1.pushD (rep_bl _)⟩⟩⟩
theorem p_if {mc : W Bool} (hc : PT X c (ttt X.K G x mc)) (ha : PE X a (tp X.K G x ma)) (hb : PE X b (tp X.K G x mb)) : PE X (.IfExp c a b pos) (tp X.K G x (eIf mc ma mb)) :=
  (pe_ifExp hc ha hb).of fun σ H Q ⟨ρ, pe, S, q⟩ => ⟨ρ, pe, S, mc.mono (fun c ρ1 q H1 S1 => by
    cases c with
    | true => exact iteT ⟨ρ1, pe, S1, q⟩
    | false => exact iteF ⟨ρ1, pe, S1, q⟩) (fun _ _ z => z) q⟩
/-- a op b op' c -/
def eChain (f f' : Da → Da → Option Da) (a b c : W Da) : W Da := a.bind fun d => b.bind fun e => (W.opt (f d e)).bind fun r => (W.opt (asB r)).bind fun k => if k = true then c.bind fun g => W.opt (f' e g) else W.ret (.bl false)
theorem tpChain {r r' : R2} {f f' : Da → Da → Option Da} {mc : W Da} (h : Op2 X.K r f) (h' : Op2 X.K r' f') {σ : L2.St} {H : Hp} {Q : VK} (q : tp X.K G x (eChain f f' ma mb mc) σ H Q) :
    tChain r r' (tp X.K G x ma) (tp X.K G x mb) (tp X.K G x mc) σ H Q := by
  obtain ⟨ρ, pe, S, q⟩ := q
  refine ⟨ρ, pe, S, ma.mono (fun d ρ1 q v H1 S1 => ⟨ρ1, _, S1, mb.mono (fun e ρ2 q w H2 S2 => ?_) (fun _ _ z => z) q⟩) (fun _ _ z => z) q⟩
  obtain ⟨u, eu, q⟩ := W.opt_wp q
  obtain ⟨k, ek, q⟩ := W.opt_wp q
  have ek' := of_asB ek
  subst ek'
  obtain ⟨O, S2⟩ := S2
  refine h (Lof G O) H2 _ _ _ v w _ S2.pop.top S2.top eu fun v' H' kk rr => ?_
  simp only [Rep] at rr
  subst rr
  have S3 := S2.heap kk
  refine ⟨k, rfl, ?_⟩
  cases k with
  | true =>
    refine iteT ⟨ρ2, _, ⟨O, S3⟩, mc.mono (fun g ρ3 q u' H4 S4 => ?_) (fun _ _ z => z) q⟩
    obtain ⟨y, ey, q⟩ := W.opt_wp q
    obtain ⟨O4, S4⟩ := S4
    exact h' (Lof G O4) H4 _ _ _ w u' Q S4.pop.top S4.top ey fun v5 H5 k5 r5 => q v5 H5 ⟨O4, S4.pop.pop.pop.result k5 r5⟩
  | false => exact iteF (q _ H' ⟨O, S3.pop.pop.pushD (rep_bl _)⟩)
theorem p_chain {op op' : CmpOp} {r r' : R2} {f f' : Da → Da → Option Da} {mc : W Da} (ho : OpR X (compareOp op) r) (h : Op2 X.K r f) (ho' : OpR X (compareOp op') r') (h' : Op2 X.K r' f') (ha : PE X a (tp X.K G x ma)) (hb : PE X b (tp X.K G x mb)) (hc : PE X c (tp X.K G x mc))
    (hm : lastMarks [op, op'] [b, c] = false := by with_unfolding_all rfl) : PE X (.Compare a [op, op'] [b, c] pos) (tp X.K G x (eChain f f' ma mb mc)) := (pe_chain ho ho' ha hb hc hm).of fun _ _ _ q => tpChain h h' q
theorem t_chain {op op' : CmpOp} {r r' : R2} {f f' : Da → Da → Option Da} {mc : W Da} (ho : OpR X (compareOp op) r) (h : Op2 X.K r f) (ho' : OpR X (compareOp op') r') (h' : Op2 X.K r' f') (ha : PE X a (tp X.K G x ma)) (hb : PE X b (tp X.K G x mb)) (hc : PE X c (tp X.K G x mc))
    (hm : lastMarks [op, op'] [b, c] = false := by with_unfolding_all rfl) : PT X (.Compare a [op, op'] [b, c] pos) (ttt X.K G x (bV (eChain f f' ma mb mc))) := (pt_chain ho ho' ha hb hc hm).of fun _ _ _ q => tpChain h h' (ttt_tB q)
end

/-! ### targets -/
inductive Tt where
  | name (i : Nat)
  | tup (ts : List Tt)
mutual
def Tt.bind : Tt → Da → En → Option En
  | .name i, d, ρ => some (ρ.set i (some (.dat d)))
  | .tup ts, .tup ds, ρ => Tt.binds ts ds ρ
  | .tup ts, .lst ds, ρ => Tt.binds ts ds ρ
  | .tup _, _, _ => none
def Tt.binds : List Tt → List Da → En → Option En
  | [], [], ρ => some ρ
  | t :: ts, d :: ds, ρ => (Tt.bind t d ρ).bind fun ρ' => Tt.binds ts ds ρ'
  | _, _, _ => none
end
mutual
def Tt.slots : Tt → List Nat
  | .name i => [i]
  | .tup ts => Tt.slotss ts
def Tt.slotss : List Tt → List Nat
  | [] => []
  | t :: ts => Tt.slots t ++ Tt.slotss ts
end
def pushR : List V → List Da → Pend → Pend
  | v :: vs, d :: ds, pe => (v, .dat d) :: pushR vs ds pe
  | _, _, pe => pe
/-- the slots but these are as they were -/
def But (l : List Nat) (σ σ' : L2.St) : Prop := σ'.length = σ.length ∧ ∀ i, i ∉ l → σ'[i]? = σ[i]?
theorem But.refl {l : List Nat} {σ : L2.St} : But l σ σ := ⟨rfl, fun _ _ => rfl⟩
theorem But.trans {l l' : List Nat} {σ σ' σ'' : L2.St} (h : But l σ σ') (h' : But l' σ' σ'') : But (l ++ l') σ σ'' :=
  ⟨h'.1.trans h.1, fun i n => (h'.2 i fun z => n (List.mem_append_right _ z)).trans (h.2 i fun z => n (List.mem_append_left _ z))⟩
theorem But.set {σ : L2.St} (i : Nat) (v : Option V) : But [i] σ (σ.set i v) := ⟨by simp, fun j n => List.getElem?_set_ne (fun e => n (by simp [e]))⟩
section
variable (K : PySem.W.Frag) (G : Gc)
def tgg (t : Tt) : TG := fun v σ H Q => ∃ ρ pe d ρ', Sd K G σ ρ ((v, .dat d) :: pe) H ∧ t.bind d ρ = some ρ' ∧ ∀ σ' H', But t.slots σ σ' → Sd K G σ' ρ' pe H' → Q σ' H'
def tggs (ts : List Tt) : TGs := fun vs σ H Q => ∃ ρ pe ds ρ', vs.length = ds.length ∧ Sd K G σ ρ (pushR vs ds pe) H ∧ Tt.binds ts ds ρ = some ρ' ∧ ∀ σ' H', But (Tt.slotss ts) σ σ' → Sd K G σ' ρ' pe H' → Q σ' H'
end
theorem _root_.L2.PG.of {e : Expr} {t t' : TG} (h : PG X e t) (w : ∀ v σ H Q, t' v σ H Q → t v σ H Q) : PG X e t' := ⟨fun pins s σ H v u Q I r q => h.run pins s σ H v u Q I r (w v σ H Q q)⟩
theorem _root_.L2.PGs.of {e : List Expr} {t t' : TGs} (h : PGs X e t) (w : ∀ v σ H Q, t' v σ H Q → t v σ H Q) : PGs X e t' := ⟨fun pins s σ H v u Q I r q => h.run pins s σ H v u Q I r (w v σ H Q q)⟩
theorem g_name {e : Expr} (i : Nat) (h : PG X e (gName i)) : PG X e (tgg X.K G (.name i)) := h.of fun v σ H Q ⟨ρ, pe, d, ρ', ⟨O, S⟩, e, q⟩ => by
  simp only [Tt.bind, Option.some.injEq] at e
  subst e
  exact q _ H (But.set i _) ⟨_, S.store i⟩
theorem gs_nil : PGs X [] (tggs X.K G []) := pgs_nil.of fun vs σ H Q ⟨ρ, pe, ds, ρ', l, S, e, q⟩ => by
  cases ds with
  | cons d ds => simp [Tt.binds] at e
  | nil =>
    simp only [Tt.binds, Option.some.injEq] at e
    subst e
    cases vs with
    | nil => exact ⟨rfl, q σ H But.refl S⟩
    | cons _ _ => simp at l
theorem gs_cons {e : Expr} {es : List Expr} {t : Tt} {ts : List Tt} (h1 : PG X e (tgg X.K G t)) (h2 : PGs X es (tggs X.K G ts))
    (hs : (assignEach (e :: es) X.env).map (·.2) = assign e X.env :: (assignEach es X.env).map (·.2) := by rfl) : PGs X (e :: es) (tggs X.K G (t :: ts)) :=
  (pgs_cons h1 h2 hs).of fun vs σ H Q ⟨ρ, pe, ds, ρ', l, S, e, q⟩ => by
    cases ds with
    | nil => simp [Tt.binds] at e
    | cons d ds =>
      cases vs with
      | nil => simp at l
      | cons v vs =>
        simp only [Tt.binds] at e
        cases e1 : t.bind d ρ with
        | none => rw [e1] at e; cases e
        | some ρ1 =>
          rw [e1] at e
          exact ⟨v, vs, rfl, ρ, _, d, ρ1, S, e1, fun σ1 H1 b1 S1 => ⟨ρ1, pe, ds, ρ', by simpa using l, S1, e, fun σ2 H2 b2 S2 => q σ2 H2 (b1.trans b2) S2⟩⟩
theorem pushR_push {K : PySem.W.Frag} {O : Addr → Option Tg} {σ : L2.St} {ρ : En} {H : Hp} : ∀ {vs : List V} {ds : List Da} {pe : Pend}, StO K G O σ ρ pe H → Reps K (Lof G O) H ds vs → StO K G O σ ρ (pushR vs ds pe) H
  | [], [], pe, S, _ => S
  | [], d :: ds, pe, S, r => S
  | v :: vs, [], pe, S, r => S
  | v :: vs, d :: ds, pe, S, r => by
    simp only [Reps] at r
    obtain ⟨x, ys, e, r1, r2⟩ := r
    cases e
    exact (pushR_push S r2).push r1
theorem _root_.L2.PG.or {e : Expr} {t t' : TG} (h : PG X e t) (h' : PG X e t') : PG X e (fun v σ H Q => t v σ H Q ∨ t' v σ H Q) := ⟨fun pins s σ H v u Q I r q => q.elim (fun q => h.run pins s σ H v u Q I r q) (fun q => h'.run pins s σ H v u Q I r q)⟩
theorem binds_len : ∀ {ts : List Tt} {ds : List Da} {ρ ρ' : En}, Tt.binds ts ds ρ = some ρ' → ds.length = ts.length := by
  intro ts
  induction ts with
  | nil =>
    intro ds ρ ρ' h
    cases ds with
    | nil => rfl
    | cons _ _ => simp [Tt.binds] at h
  | cons t ts ih =>
    intro ds ρ ρ' h
    cases ds with
    | nil => simp [Tt.binds] at h
    | cons d ds =>
      simp only [Tt.binds] at h
      cases e1 : t.bind d ρ with
      | none => rw [e1] at h; cases h
      | some ρ1 =>
        rw [e1] at h
        simp [ih h]
theorem g_tup {es : List Expr} {k : Nat} {ts : List Tt} (hc : X.calm = true) (h : PGs X es (tggs X.K G ts)) (hl : (assignEach es X.env).length = ts.length := by rfl) (hst : (assignEach es X.env).findIdx? (·.1) = none := by rfl) :
    PG X (.Tuple es k pos) (tgg X.K G (.tup ts)) := ((pg_tup hc h hl hst).or (pg_lst hc h hl hst)).of fun v σ H Q ⟨ρ, pe, d, ρ', ⟨O, S⟩, e, q⟩ => by
  cases d with
  | tup ds =>
    have r := S.top
    simp only [Rep] at r
    obtain ⟨a, xs, ev, hq, _, rs⟩ := r
    simp only [Tt.bind] at e
    exact .inl ⟨a, xs, ev, hq, by rw [rs.length, binds_len e], ρ, pe, ds, ρ', rs.length, ⟨O, pushR_push S.pop rs⟩, e, fun σ' H' b S' => q σ' H' (by simpa [Tt.slots] using b) S'⟩
  | lst ds =>
    have r := S.top
    simp only [Rep] at r
    obtain ⟨a, xs, ev, hq, _, rs⟩ := r
    simp only [Tt.bind] at e
    exact .inr ⟨a, xs, ev, hq.sq, by rw [rs.length, binds_len e], ρ, pe, ds, ρ', rs.length, ⟨O, pushR_push S.pop rs⟩, e, fun σ' H' b S' => q σ' H' (by simpa [Tt.slots] using b) S'⟩
  | _ => simp [Tt.bind] at e
end
end Pu
end

section
namespace Pu
open PySem PySem.Spec PyProof.Rows L2

/-! ### pending data, many at once -/
def dats (l : List (V × Da)) : Pend := l.map fun p => (p.1, .dat p.2)
section
variable {K : PySem.W.Frag} {G : Gc} {O : Addr → Option Tg} {σ σ' : L2.St} {ρ ρ' : En} {pe : Pend} {H H' : Hp} {v : V} {d : Da}
theorem StO.popD : ∀ {l : List (V × Da)}, StO K G O σ ρ (dats l ++ pe) H → StO K G O σ ρ pe H ∧ ∀ p ∈ l, Rep K (Lof G O) H p.2 p.1
  | [], S => ⟨S, fun _ h => nomatch h⟩
  | (w, e) :: l, S => by
    have S' : StO K G O σ ρ ((w, .dat e) :: (dats l ++ pe)) H := S
    obtain ⟨h1, h2⟩ := StO.popD (l := l) S'.pop
    exact ⟨h1, fun p hp => (List.mem_cons.mp hp).elim (fun z => z ▸ S'.top) (h2 p)⟩
theorem StO.pushDs : ∀ {l : List (V × Da)}, StO K G O σ ρ pe H → (∀ p ∈ l, Rep K (Lof G O) H p.2 p.1) → StO K G O σ ρ (dats l ++ pe) H
  | [], S, _ => S
  | (w, e) :: l, S, h => (StO.pushDs (l := l) S fun p hp => h p (List.mem_cons_of_mem _ hp)).pushD (h _ List.mem_cons_self)
/-- the own list on top changes -/
theorem StO.changeTop {ds es : List Da} {p : Addr} {ys : List V} (S : StO K G O σ ρ ((.ref p, .own ds) :: pe) H) (z : es.length ≤ sizeLine) (r : Reps K (Lof G O) H es ys) :
    StO K G O σ ρ ((.ref p, .own es) :: pe) (upd H p (.lst ys)) ∧ Keep (Lof G O) H (upd H p (.lst ys)) := by
  obtain ⟨p', xs', e, ot, hp', z', r', np⟩ := S.pends.1
  cases e
  have hk : Keep (Lof G O) H (upd H p (.lst ys)) := fun b x e k => by
    rw [upd_ne]
    · exact e
    · rintro rfl
      rcases k with k | k
      · have k1 := k.1
        rw [ot] at k1
        cases k1
      · rw [hp'] at e
        cases e
        exact k trivial
  have hl : ∀ b x, H b = some x → Lof G O b → Lof G O b := fun _ _ _ h => h
  refine ⟨⟨fun b x e n => ⟨?_, (S.frame b x e n).2⟩, fun q t h => ?_, fun q hq => ⟨(S.pools q hq).1.mono hk hl (upd_ne fun e => np (e ▸ hq)), (S.pools q hq).2⟩, S.len, fun j c h => ?_, ⟨p, ys, rfl, ot, upd_same, z, Reps.mono hk hl _ _ r, np⟩, ?_⟩, hk⟩
  · rw [upd_ne]
    · exact (S.frame b x e n).1
    · rintro rfl
      have f := (S.frame b x e n).2
      rw [ot] at f
      cases f
  · by_cases e : q = p
    · subst e
      exact ⟨_, upd_same, trivial⟩
    · rw [upd_ne e]
      exact S.own q t h
  · obtain ⟨w, h1, h2⟩ := S.slots j c h
    exact ⟨w, h1, h2.mono hk hl (fun q e => ⟨upd_ne (fun q' => by
      rw [q', ot] at e
      cases e), e⟩)⟩
  · exact S.pends.2.mono hk hl (fun j hj q e => ⟨upd_ne (fun q' => by
      rw [q', ot] at e
      cases e
      omega), e⟩)
/-- other slots of which nothing is known -/
theorem StO.slots' (S : StO K G O σ ρ pe H) (l : σ'.length = σ.length) (h : ∀ (i : Nat) c, ρ[i]? = some (some c) → σ'[i]? = σ[i]?) : StO K G O σ' ρ pe H :=
  ⟨S.frame, S.own, S.pools, S.len.trans l.symm, fun i c e => by rw [h i c e]; exact S.slots i c e, S.pends⟩
end

/-! ### what a loop goes over -/
def ItOk (K : PySem.W.Frag) (J : It) (src : List (V × Da)) (ds : List Da) : Prop := ∀ (L : Addr → Prop) (H : Hp), (∀ p ∈ src, Rep K L H p.2 p.1) → ∀ i : Nat,
  (∀ d, ds[i]? = some d → J.go i H ∧ ∀ x H', J.yld i H x H' → (∀ b u, H b = some u → H' b = some u) ∧ Rep K (fun c => L c ∨ H c = none) H' d x) ∧ (ds.length ≤ i → J.stop i H)
def tit (K : PySem.W.Frag) (G : Gc) (x : Ex → En → Prop) (m : W (List Da)) : TI := fun σ H R => ∃ ρ pe, Sd K G σ ρ pe H ∧
  m.wp ρ (fun ds ρ' => ∀ J src H', ItOk K J src ds → ds.length ≤ sizeLine → Sd K G σ ρ' (dats src ++ pe) H' → R J H') x

theorem _root_.L2.PI.of {X : Cx} {tg e : Expr} {t t' : TI} (h : PI X tg e t) (w : ∀ σ H R, t' σ H R → t σ H R) : PI X tg e t' := ⟨fun pins s σ H R I q => h.run pins s σ H R I (w σ H R q)⟩
section
variable {X : Cx} {G : Gc} {x : Ex → En → Prop} {tg e : Expr}
/-- signs of a text -/
def signs (z : Str) : List Da := z.cps.toList.map fun c => .str ⟨#[c]⟩
def itemsOf : Da → Option (List Da)
  | .tup ds => some ds
  | .lst ds => some ds
  | .str z => if z.length ≤ sizeLine then some (signs z) else none
  | _ => none
def iSeq (m : W Da) : W (List Da) := m.bind fun d => W.opt (itemsOf d)
theorem itOk_list {K : PySem.W.Frag} {a : Addr} {ds : List Da} : ItOk K (Itl K a) [(.ref a, .lst ds)] ds := fun L H hs i => by
  have r := hs _ List.mem_cons_self
  simp only [Rep] at r
  obtain ⟨a', xs, e, q, _, rs⟩ := r
  cases e
  refine ⟨fun d e => ?_, fun h => ⟨xs, q.sq, by rw [rs.length]; exact h⟩⟩
  obtain ⟨y, hy, ry⟩ := rs.getD e
  refine ⟨⟨xs, y, q.sq, hy⟩, fun w H' z => ?_⟩
  obtain ⟨rfl, z⟩ := z
  have e2 := z xs q.sq
  rw [hy] at e2
  cases e2
  exact ⟨fun _ _ h => h, Rep.mono (fun _ _ e _ => e) (fun _ _ _ z => .inl z) _ _ ry⟩
theorem itOk_tup {K : PySem.W.Frag} {a : Addr} {ds : List Da} : ItOk K (Itt K a) [(.ref a, .tup ds)] ds := fun L H hs i => by
  have r := hs _ List.mem_cons_self
  simp only [Rep] at r
  obtain ⟨a', xs, e, q, _, rs⟩ := r
  cases e
  refine ⟨fun d e => ?_, fun h => ⟨xs, q, by rw [rs.length]; exact h⟩⟩
  obtain ⟨y, hy, ry⟩ := rs.getD e
  refine ⟨⟨xs, y, q, hy⟩, fun w H' z => ?_⟩
  obtain ⟨rfl, z⟩ := z
  have e2 := z xs q
  rw [hy] at e2
  cases e2
  exact ⟨fun _ _ h => h, Rep.mono (fun _ _ e _ => e) (fun _ _ _ z => .inl z) _ _ ry⟩
theorem itOk_str {K : PySem.W.Frag} {z : Str} {src : List (V × Da)} : ItOk K (Its z) src (signs z) := fun L H hs i => by
  refine ⟨fun d e => ?_, fun h => by show z.cps.size ≤ i; simpa [signs] using h⟩
  simp only [signs, List.getElem?_map, Array.getElem?_toList, Option.map_eq_some_iff] at e
  obtain ⟨c, hc, e⟩ := e
  subst e
  refine ⟨(Array.getElem?_eq_some_iff.mp hc).1, fun w H' y => ?_⟩
  obtain ⟨rfl, c', hc', rfl⟩ := y
  rw [hc] at hc'
  cases hc'
  exact ⟨fun _ _ h => h, by simp [Rep]⟩
theorem itOk_range {K : PySem.W.Frag} {lo : Int} {n : Nat} {src : List (V × Da)} : ItOk K (Itr lo n) src ((List.range n).map fun i : Nat => Da.int (lo + (i : Int))) := fun L H hs i => by
  refine ⟨fun d e => ?_, fun h => by show n ≤ i; simpa using h⟩
  simp only [List.getElem?_map, Option.map_eq_some_iff] at e
  obtain ⟨j, hj, e⟩ := e
  subst e
  obtain ⟨hi, rfl⟩ := List.getElem?_eq_some_iff.mp hj
  simp only [List.length_range] at hi
  refine ⟨hi, fun w H' y => ?_⟩
  obtain ⟨rfl, rfl⟩ := y
  exact ⟨fun _ _ h => h, by simp [Rep]⟩

/-! a list, a tuple or a text is walked -/
section
variable {pins : List (Addr × Obj)} {σ : L2.St} {H : Hp} {s : Shared} {a : Addr} {xs : List V} {R : It → Hp → Prop}
theorem goes_list (I : Inv X pins σ H s) (hq : SqL X.K H a xs) (q : R (Itl X.K a) H) : wpAny (model X.prog X.w) X.A (pyIter (.ref a)) (PIE X pins σ tg R) X.xe s := by
  obtain ⟨its, _, p, _⟩ := I.list hq
  have n := I.hok.fresh (Nat.le_refl s.heap.objs.size)
  exact wpAny_pyIter_list p.isList ⟨_, [s.heap.objs.size], _, _, H, rfl, I.kept (t' := s.toks) (fun _ _ z => Heap.get?_push_of_some _ z), turn_list a s.heap.objs.size, ⟨_, Heap.get?_push_size _ rfl, rfl, rfl⟩,
    (fun b hb => by rw [List.mem_singleton.mp hb]; exact I.fpOk (Nat.le_refl _) n), q⟩
theorem goes_tup (I : Inv X pins σ H s) (hq : SqT X.K H a xs) (q : R (Itt X.K a) H) : wpAny (model X.prog X.w) X.A (pyIter (.ref a)) (PIE X pins σ tg R) X.xe s := by
  obtain ⟨its, _, p, _⟩ := I.tuple hq
  have n := I.hok.fresh (Nat.le_refl s.heap.objs.size)
  exact wpAny_pyIter_tuple (show s.heap.IsTuple a its.toArray from p) ⟨_, [s.heap.objs.size], _, _, H, rfl, I.kept (t' := s.toks) (fun _ _ z => Heap.get?_push_of_some _ z), turn_tuple a s.heap.objs.size, ⟨_, Heap.get?_push_size _ rfl, rfl, rfl⟩,
    (fun b hb => by rw [List.mem_singleton.mp hb]; exact I.fpOk (Nat.le_refl _) n), q⟩
theorem goes_str {z : Str} {t : Tok} (I : Inv X pins σ H s) (q : R (Its z) H) : wpAny (model X.prog X.w) X.A (pyIter (.str z t)) (PIE X pins σ tg R) X.xe s := by
  cases ha : z.cps.all (· < 128) with
  | false => exact wpAny_pyIter_wide ha (pi_one (tk := s.toks) I _ (turn_str _ z t "str_iterator" (.inr rfl)) ⟨_, Heap.get?_push_size _ rfl, rfl, rfl⟩ q)
  | true => exact wpAny_pyIter_ascii ha (pi_one (tk := s.toks) I _ (turn_str _ z t "str_ascii_iterator" (.inl rfl)) ⟨_, Heap.get?_push_size _ rfl, rfl, rfl⟩ q)
end
theorem i_seq {m : W Da} (h : PE X e (tp X.K G x m)) : PI X tg e (tit X.K G x (iSeq m)) := by
  refine ⟨fun pins s σ H R I ⟨ρ, pe, S, q⟩ => ?_⟩
  refine thn (h.run pins s σ H (fun v H1 => ∃ d ds ρ1, itemsOf d = some ds ∧ Sd X.K G σ ρ1 ((v, .dat d) :: pe) H1 ∧ ∀ J src H', ItOk X.K J src ds → ds.length ≤ sizeLine → Sd X.K G σ ρ1 (dats src ++ pe) H' → R J H') I
    ⟨ρ, pe, S, m.mono (fun d ρ1 q v H1 S1 => ?_) (fun _ _ z => z) q⟩) fun v s1 ⟨w, H1, I1, r1, d, ds, ρ1, e1, ⟨O, S1⟩, q1⟩ => ?_
  · obtain ⟨ds, e1, q1⟩ := W.opt_wp q
    exact ⟨d, ds, ρ1, e1, S1, q1⟩
  have rr := S1.top
  cases d with
  | tup ds' =>
    cases e1
    simp only [Rep] at rr
    obtain ⟨a, xs, e2, hq, z, rs⟩ := rr
    subst e2
    cases r1
    exact goes_tup I1 hq (q1 _ _ H1 itOk_tup z ⟨O, S1⟩)
  | lst ds' =>
    cases e1
    simp only [Rep] at rr
    obtain ⟨a, xs, e2, hq, z, rs⟩ := rr
    subst e2
    cases r1
    exact goes_list I1 hq.sq (q1 _ _ H1 itOk_list z ⟨O, S1⟩)
  | str z =>
    simp only [itemsOf] at e1
    split at e1
    · rename_i hz
      cases e1
      simp only [Rep] at rr
      subst rr
      obtain ⟨t, rfl⟩ := r1
      exact goes_str I1 (q1 _ [] H1 itOk_str (by simpa [signs, Str.length] using hz) ⟨O, S1.pop⟩)
    · cases e1
  | _ => cases e1
def asI : Da → Option Int
  | .int i => some i
  | _ => none
theorem of_asI {d : Da} {i : Int} (h : asI d = some i) : d = .int i := by
  cases d <;> simp [asI] at h
  subst h
  rfl
@[simp] theorem asI_int (i : Int) : asI (.int i) = some i := rfl
def rangeD (lo : Int) (n : Nat) : List Da := (List.range n).map fun i : Nat => Da.int (lo + (i : Int))
/-- range(n) -/
def iRange1 (a : W Da) : W (List Da) := (a.bind fun d => W.opt (asI d)).bind fun j => (W.req (j ≤ 1000000 ∧ -1000000 ≤ j)).bind fun _ => W.ret (rangeD 0 j.toNat)
def iRange2 (a b : W Da) : W (List Da) := (a.bind fun d => W.opt (asI d)).bind fun i => (b.bind fun d => W.opt (asI d)).bind fun j => (W.req ((i ≤ 1000000 ∧ -1000000 ≤ i) ∧ j ≤ 1000000 ∧ -1000000 ≤ j)).bind fun _ => W.ret (rangeD i (j - i).toNat)
theorem line_eq : sizeLine = 16777216 := sizeLine_eq
theorem i_range1 {a : Expr} {m : W Da} {p pos : Pos} (hg : Gl X "range") (hm : X.mg "range" = none) (ha : PE X a (tp X.K G x m)) (hs : starEach [a] X.env = (false, eval a X.env) :: starEach [] X.env := by rfl) :
    PI X tg (.Call (.Name "range" p) [a] [] pos) (tit X.K G x (iRange1 m)) := (pi_range1 hg hm (pa_cons ha pa_nil hs) hs).of fun σ H R ⟨ρ, pe, S, q⟩ =>
  ⟨ρ, pe, S, m.mono (fun d ρ1 q v H1 ⟨O, S1⟩ => by
    obtain ⟨j, e, q⟩ := W.opt_wp (o := asI d) q
    have e' := of_asI e
    subst e'
    obtain ⟨⟨h1, h2⟩, q⟩ := q
    have r := S1.top
    simp only [Rep] at r
    subst r
    exact ⟨j, rfl, by omega, by omega, q _ [] H1 itOk_range (by simp [rangeD, line_eq]; omega) ⟨O, S1.pop⟩⟩) (fun _ _ z => z) q⟩
theorem i_range2 {a b : Expr} {m n : W Da} {p pos : Pos} (hg : Gl X "range") (hm : X.mg "range" = none) (ha : PE X a (tp X.K G x m)) (hb : PE X b (tp X.K G x n)) (hs : starEach [a, b] X.env = (false, eval a X.env) :: starEach [b] X.env := by rfl)
    (hs2 : starEach [b] X.env = (false, eval b X.env) :: starEach [] X.env := by rfl) : PI X tg (.Call (.Name "range" p) [a, b] [] pos) (tit X.K G x (iRange2 m n)) := (pi_range2 hg hm (pa_cons ha (pa_cons hb pa_nil hs2) hs) (hs.trans (congrArg _ hs2)) hs2).of fun σ H R ⟨ρ, pe, S, q⟩ =>
  ⟨ρ, pe, S, m.mono (fun d ρ1 q v H1 ⟨O, S1⟩ => by
    obtain ⟨i, e, q⟩ := W.opt_wp q
    have e' := of_asI e
    subst e'
    have r := S1.top
    simp only [Rep] at r
    subst r
    refine ⟨ρ1, _, ⟨O, S1.pop⟩, n.mono (fun d ρ2 q v H2 ⟨O2, S2⟩ => ?_) (fun _ _ z => z) q⟩
    obtain ⟨j, e, q⟩ := W.opt_wp (o := asI d) q
    have e' := of_asI e
    subst e'
    obtain ⟨⟨h1, h2⟩, q⟩ := q
    have r := S2.top
    simp only [Rep] at r
    subst r
    exact ⟨i, j, rfl, ⟨by omega, by omega, by omega, by omega⟩, q _ [] H2 itOk_range (by simp [rangeD, line_eq]; omega) ⟨O2, S2.pop⟩⟩) (fun _ _ z => z) q⟩
/-- zip of two lists, of two tuples -/
def zipD : List Da → List Da → List Da
  | a :: as, b :: bs => .tup [a, b] :: zipD as bs
  | _, _ => []
theorem zipD_get : ∀ {as bs : List Da} {i : Nat} {d : Da}, (zipD as bs)[i]? = some d → ∃ a b, as[i]? = some a ∧ bs[i]? = some b ∧ d = .tup [a, b]
  | [], _, _, _, h => by simp [zipD] at h
  | _ :: _, [], _, _, h => by simp [zipD] at h
  | a :: as, b :: bs, 0, d, h => by
    simp [zipD] at h
    exact ⟨a, b, rfl, rfl, h.symm⟩
  | a :: as, b :: bs, i + 1, d, h => by
    obtain ⟨c, e, h1, h2, h3⟩ := zipD_get (as := as) (bs := bs) (i := i) (d := d) (by simpa [zipD] using h)
    exact ⟨c, e, by simpa using h1, by simpa using h2, h3⟩
theorem zipD_len : ∀ {as bs : List Da}, (zipD as bs).length = min as.length bs.length
  | [], _ => by simp [zipD]
  | _ :: _, [] => by simp [zipD]
  | a :: as, b :: bs => by simp [zipD, zipD_len (as := as) (bs := bs)]
def zip2 : Da → Da → Option (List Da)
  | .lst as, .lst bs => some (zipD as bs)
  | .tup as, .tup bs => some (zipD as bs)
  | _, _ => none
def iZip (a b : W Da) : W (List Da) := a.bind fun d => b.bind fun e => W.opt (zip2 d e)
theorem rep_pair {K : PySem.W.Frag} {L : Addr → Prop} {H : Hp} {T : Addr} {a b : Da} {u w : V} (nT : H T = none) (ra : Rep K L H a u) (rb : Rep K L H b w) : Rep K (fun c => L c ∨ H c = none) (upd H T (.tup [u, w])) (.tup [a, b]) (.ref T) := by
  have hk : Keep L H (upd H T (.tup [u, w])) := fun b x e _ => keep_upd nT b x e
  simp only [Rep, Reps]
  exact ⟨T, [u, w], rfl, .of upd_same, by simp [line_eq], u, [w], rfl, Rep.mono hk (fun _ _ _ z => .inl z) _ _ ra, w, [], rfl, Rep.mono hk (fun _ _ _ z => .inl z) _ _ rb, rfl⟩
theorem itOk_zipL {K : PySem.W.Frag} {a b : Addr} {as bs : List Da} : ItOk K (Itz K a b) [(.ref a, .lst as), (.ref b, .lst bs)] (zipD as bs) := fun L H hs i => by
  have r := hs (.ref a, .lst as) (by simp)
  have r' := hs (.ref b, .lst bs) (by simp)
  simp only [Rep] at r r'
  obtain ⟨a', xs, e, q, _, rs⟩ := r
  obtain ⟨b', ys, e', q', _, rs'⟩ := r'
  cases e
  cases e'
  refine ⟨fun d h => ?_, fun h => ⟨xs, ys, q.sq, q'.sq, ?_⟩⟩
  · obtain ⟨c, c', h1, h2, rfl⟩ := zipD_get h
    obtain ⟨y, hy, ry⟩ := rs.getD h1
    obtain ⟨y', hy', ry'⟩ := rs'.getD h2
    refine ⟨⟨xs, ys, y, y', q.sq, q'.sq, hy, hy'⟩, fun w H' z => ?_⟩
    obtain ⟨T, u, u', rfl, nT, rfl, f1, f2⟩ := z
    have e1 := f1 xs q.sq
    have e2 := f2 ys q'.sq
    rw [hy] at e1
    rw [hy'] at e2
    cases e1
    cases e2
    exact ⟨keep_upd nT, rep_pair nT ry ry'⟩
  · rw [zipD_len] at h
    have := rs.length
    have := rs'.length
    omega
theorem itOk_zipT {K : PySem.W.Frag} {a b : Addr} {as bs : List Da} : ItOk K (RZ.ItzT K a b) [(.ref a, .tup as), (.ref b, .tup bs)] (zipD as bs) := fun L H hs i => by
  have r := hs (.ref a, .tup as) (by simp)
  have r' := hs (.ref b, .tup bs) (by simp)
  simp only [Rep] at r r'
  obtain ⟨a', xs, e, q, _, rs⟩ := r
  obtain ⟨b', ys, e', q', _, rs'⟩ := r'
  cases e
  cases e'
  refine ⟨fun d h => ?_, fun h => ⟨xs, ys, q, q', ?_⟩⟩
  · obtain ⟨c, c', h1, h2, rfl⟩ := zipD_get h
    obtain ⟨y, hy, ry⟩ := rs.getD h1
    obtain ⟨y', hy', ry'⟩ := rs'.getD h2
    refine ⟨⟨xs, ys, y, y', q, q', hy, hy'⟩, fun w H' z => ?_⟩
    obtain ⟨T, u, u', rfl, nT, rfl, f1, f2⟩ := z
    have e1 := f1 xs q
    have e2 := f2 ys q'
    rw [hy] at e1
    rw [hy'] at e2
    cases e1
    cases e2
    exact ⟨keep_upd nT, rep_pair nT ry ry'⟩
  · rw [zipD_len] at h
    have := rs.length
    have := rs'.length
    omega
theorem i_zip {a b : Expr} {m n : W Da} {p pos tpos : Pos} {elts : List Expr} {kk : Nat} (hg : Gl X "zip") (hm : X.mg "zip" = none) (ha : PE X a (tp X.K G x m)) (hb : PE X b (tp X.K G x n))
    (hs0 : starEach [a, b] X.env = (false, eval a X.env) :: starEach [b] X.env := by rfl) (hs : starEach [b] X.env = (false, eval b X.env) :: starEach [] X.env := by rfl) (hpl : (backTo pos (starEach [b] X.env)).any (·.1) = false := by rfl) :
    PI X (.Tuple elts kk tpos) (.Call (.Name "zip" p) [a, b] [] pos) (tit X.K G x (iZip m n)) := (RZ.pi_zipA hg hm (pa_cons ha (pa_cons hb pa_nil hs) hs0) hs0 hpl).of fun σ H R ⟨ρ, pe, S, q⟩ =>
  ⟨ρ, pe, S, m.mono (fun d ρ1 q v H1 S1 => by
    refine ⟨ρ1, _, S1, n.mono (fun d' ρ2 q w H2 ⟨O2, S2⟩ => ?_) (fun _ _ z => z) q⟩
    obtain ⟨ds, e, q⟩ := W.opt_wp q
    have r1 := S2.pop.top
    have r2 := S2.top
    cases d with
    | lst as =>
      cases d' with
      | lst bs =>
        cases e
        have r1' := r1
        have r2' := r2
        simp only [Rep] at r1 r2
        obtain ⟨a', xs, e, q1, z1, rs⟩ := r1
        obtain ⟨b', ys, e', q2, z2, rs'⟩ := r2
        subst e e'
        exact ⟨a', b', xs, ys, rfl, .inl ⟨q1.sq, q2.sq, q _ _ H2 itOk_zipL (by rw [zipD_len]; omega) ⟨O2, S2.pop.pop.pushDs fun p hp => by
          rcases List.mem_cons.mp hp with rfl | hp
          · exact r1'
          · rw [List.mem_singleton.mp hp]
            exact r2'⟩⟩⟩
      | _ => cases e
    | tup as =>
      cases d' with
      | tup bs =>
        cases e
        have r1' := r1
        have r2' := r2
        simp only [Rep] at r1 r2
        obtain ⟨a', xs, e, q1, z1, rs⟩ := r1
        obtain ⟨b', ys, e', q2, z2, rs'⟩ := r2
        subst e e'
        exact ⟨a', b', xs, ys, rfl, .inr ⟨q1, q2, q _ _ H2 itOk_zipT (by rw [zipD_len]; omega) ⟨O2, S2.pop.pop.pushDs fun p hp => by
          rcases List.mem_cons.mp hp with rfl | hp
          · exact r1'
          · rw [List.mem_singleton.mp hp]
            exact r2'⟩⟩⟩
      | _ => cases e
    | _ => cases e) (fun _ _ z => z) q⟩
end
end Pu
end

section
namespace Pu
open PySem PySem.Spec PyProof.Rows L2

/-! ### list comprehensions -/
def wipeE (ρ : En) : List Nat → En
  | [] => ρ
  | v :: vs => (wipeE ρ vs).set v none
def lcW (t : Tt) (c : W Bool) (e : W Da) : List Da → List Da → En → (List Da → Prop) → Prop
  | [], acc, _, k => k acc
  | d :: ds, acc, ρ, k => ∃ ρ', t.bind d ρ = some ρ' ∧ c.wp ρ' (fun b ρ1 => ρ1 = ρ' ∧ if b = true then e.wp ρ' (fun y ρ2 => ρ2 = ρ' ∧ lcW t c e ds (acc ++ [y]) ρ k) noEx else lcW t c e ds acc ρ k) noEx
theorem lcW_mono {t : Tt} {c : W Bool} {e : W Da} {ρ : En} {k k' : List Da → Prop} (hk : ∀ a, k a → k' a) : ∀ {ds acc : List Da}, lcW t c e ds acc ρ k → lcW t c e ds acc ρ k'
  | [], acc, h => hk _ h
  | d :: ds, acc, ⟨ρ', h1, h2⟩ => ⟨ρ', h1, c.mono (fun b ρ1 ⟨e1, q⟩ => ⟨e1, by
    cases b with
    | true => exact iteT (e.mono (fun y ρ2 ⟨e2, q⟩ => ⟨e2, lcW_mono hk q⟩) (fun _ _ z => z) (show (if true = true then _ else _) from q))
    | false => exact iteF (lcW_mono hk (show (if false = true then _ else lcW t c e ds acc ρ k) from q))⟩) (fun _ _ z => z) h2⟩
/-- vs: the slots of the comprehension's own names -/
def eLC (vs : List Nat) (m : W (List Da)) (t : Tt) (c : W Bool) (e : W Da) : W (List Da) :=
  ⟨fun ρ k x => m.wp ρ (fun ds ρ1 => wipeE ρ1 vs = ρ1 ∧ lcW t c e ds [] ρ1 (fun acc => k acc ρ1)) x, fun hk hx h => m.mono (fun _ _ ⟨h1, h2⟩ => ⟨h1, lcW_mono (fun _ z => hk _ _ z) h2⟩) hx h⟩
def bYes : W Bool := W.ret true

section
variable {K : PySem.W.Frag} {G : Gc} {O : Addr → Option Tg} {σ σ' : L2.St} {ρ ρ' : En} {pe : Pend} {H H' : Hp}
theorem wipe_get {σ : L2.St} {i : Nat} : ∀ {vs : List Nat}, i ∉ vs → (wipe σ vs)[i]? = σ[i]?
  | [], _ => rfl
  | v :: vs, h => by
    unfold wipe
    rw [List.getElem?_set_ne (fun e => h (by simp [e])), wipe_get fun z => h (List.mem_cons_of_mem _ z)]
theorem wipeE_none {ρ : En} {i : Nat} : ∀ {vs : List Nat}, i ∈ vs → ∀ c, (wipeE ρ vs)[i]? ≠ some (some c)
  | v :: vs, h, c => by
    unfold wipeE
    intro q
    rcases getset q with ⟨_, e, _⟩ | ⟨n, q⟩
    · cases e
    · rcases List.mem_cons.mp h with e | h
      · exact n e.symm
      · exact wipeE_none h c q
theorem StO.wiped {vs : List Nat} (S : StO K G O σ ρ pe H) (h : wipeE ρ vs = ρ) : StO K G O (wipe σ vs) ρ pe H :=
  S.slots' (wipe_length _ _) fun i c e => by
    by_cases hi : i ∈ vs
    · exact absurd (h ▸ e) (wipeE_none hi c)
    · exact wipe_get hi
theorem StO.unwiped {vs : List Nat} (S : StO K G O (wipe σ vs) ρ pe H) (h : wipeE ρ vs = ρ) : StO K G O σ ρ pe H :=
  S.slots' (wipe_length _ _).symm fun i c e => by
    by_cases hi : i ∈ vs
    · exact absurd (h ▸ e) (wipeE_none hi c)
    · exact (wipe_get hi).symm
theorem ext_get {α : Type} {l l' : List α} (h : ∀ i : Nat, l[i]? = l'[i]?) : l = l' := List.ext_getElem? h
theorem wipe_in {i : Nat} : ∀ {vs : List Nat} {σ : L2.St}, i ∈ vs → (wipe σ vs)[i]? = if i < σ.length then some none else none
  | v :: vs, σ, h => by
    unfold wipe
    by_cases e : v = i
    · subst e
      by_cases hl : v < σ.length
      · rw [List.getElem?_set_self (by rw [wipe_length]; exact hl), if_pos hl]
      · rw [List.getElem?_eq_none (by rw [List.length_set, wipe_length]; omega), if_neg hl]
    · rw [List.getElem?_set_ne e]
      exact wipe_in ((List.mem_cons.mp h).elim (fun z => absurd z.symm e) id)
theorem wipe_but {vs l : List Nat} (b : But l (wipe σ vs) σ') (hl : ∀ i ∈ l, i ∈ vs) : wipe σ' vs = wipe σ vs := ext_get fun i => by
  by_cases hi : i ∈ vs
  · rw [wipe_in hi, wipe_in hi, b.1, wipe_length]
  · rw [wipe_get hi, b.2 i fun z => hi (hl i z)]
end

mutual
theorem bind_but : ∀ {t : Tt} {d : Da} {ρ ρ' : En}, t.bind d ρ = some ρ' → ρ'.length = ρ.length ∧ ∀ i, i ∉ t.slots → ρ'[i]? = ρ[i]?
  | .name i, d, ρ, ρ', h => by
    simp only [Tt.bind, Option.some.injEq] at h
    subst h
    exact ⟨by simp, fun j n => List.getElem?_set_ne (fun e => n (by simp [Tt.slots, e]))⟩
  | .tup ts, .tup ds, ρ, ρ', h => by
    simp only [Tt.bind] at h
    simpa [Tt.slots] using binds_but (ts := ts) h
  | .tup ts, .non, ρ, ρ', h => by simp [Tt.bind] at h
  | .tup ts, .bl _, ρ, ρ', h => by simp [Tt.bind] at h
  | .tup ts, .int _, ρ, ρ', h => by simp [Tt.bind] at h
  | .tup ts, .str _, ρ, ρ', h => by simp [Tt.bind] at h
  | .tup ts, .lst ds, ρ, ρ', h => by
    simp only [Tt.bind] at h
    simpa [Tt.slots] using binds_but (ts := ts) h
  | .tup ts, .obj _ _ _, ρ, ρ', h => by simp [Tt.bind] at h
  | .tup ts, .scr _, ρ, ρ', h => by simp [Tt.bind] at h
  | .tup ts, .dct _ _, ρ, ρ', h => by simp [Tt.bind] at h
theorem binds_but : ∀ {ts : List Tt} {ds : List Da} {ρ ρ' : En}, Tt.binds ts ds ρ = some ρ' → ρ'.length = ρ.length ∧ ∀ i, i ∉ Tt.slotss ts → ρ'[i]? = ρ[i]?
  | [], [], ρ, ρ', h => by
    simp only [Tt.binds, Option.some.injEq] at h
    subst h
    exact ⟨rfl, fun _ _ => rfl⟩
  | [], _ :: _, ρ, ρ', h => by simp [Tt.binds] at h
  | _ :: _, [], ρ, ρ', h => by simp [Tt.binds] at h
  | t :: ts, d :: ds, ρ, ρ', h => by
    simp only [Tt.binds] at h
    cases e1 : t.bind d ρ with
    | none => rw [e1] at h; cases h
    | some ρ1 =>
      rw [e1] at h
      obtain ⟨a1, a2⟩ := bind_but (t := t) e1
      obtain ⟨b1, b2⟩ := binds_but (ts := ts) (ρ := ρ1) h
      refine ⟨b1.trans a1, fun i n => ?_⟩
      simp only [Tt.slotss, List.mem_append, not_or] at n
      exact (b2 i n.2).trans (a2 i n.1)
end
theorem StO.weak {K : PySem.W.Frag} {G : Gc} {O : Addr → Option Tg} {σ σ' : L2.St} {ρ ρ' : En} {pe : Pend} {H : Hp} (S : StO K G O σ ρ pe H) (l : ρ'.length = σ'.length)
    (h : ∀ (i : Nat) c, ρ'[i]? = some (some c) → ρ[i]? = some (some c) ∧ σ'[i]? = σ[i]?) : StO K G O σ' ρ' pe H :=
  ⟨S.frame, S.own, S.pools, l, fun i c e => by
    obtain ⟨h1, h2⟩ := h i c e
    rw [h2]
    exact S.slots i c h1, S.pends⟩
section
variable {X : Cx} {G : Gc} {x : Ex → En → Prop} {tg e it : Expr} {ifs : List Expr}
theorem ts_nil : PTs X [] (ttt X.K G x bYes) := ⟨fun pins s σ H Q I ⟨ρ, pe, S, q⟩ => pts_nil.run pins s σ H Q I (q H S)⟩
theorem ts_one {c : Expr} {m : W Bool} (h : PT X c (ttt X.K G x m)) : PTs X [c] (ttt X.K G x m) := pts_one h
/-- the reading of a comprehension: the new list is our own -/
theorem lc_run {vs : List Nat} {m : W (List Da)} {t : Tt} {c : W Bool} {n : W Da} (hv : ∀ i ∈ t.slots, i ∈ vs) {σ : L2.St} {H : Hp} {Q : VK} (q : tow X.K G x (eLC vs m t c n) σ H Q) :
    tLc (tit X.K G x m) (tgg X.K G t) (ttt X.K G noEx c) (tp X.K G noEx n) vs σ H Q := by
  obtain ⟨ρ, pe, S, q⟩ := q
  refine ⟨ρ, pe, S, m.mono (fun ds ρ1 q J src H1 iok hz S1 D nD => ?_) (fun _ _ z => z) q⟩
  obtain ⟨hw, q⟩ := q
  obtain ⟨O, S1⟩ := S1
  obtain ⟨S2, rs⟩ := S1.popD
  have hkeep : Keep (Lof G O) H1 (upd H1 D (.lst [])) := fun b u e _ => keep_upd nD b u e
  have S3 := S2.pushOwn (ds := []) (vs := []) nD (Nat.zero_le _) (by simp [Reps])
  have nb : ∀ {b u}, H1 b = some u → b ≠ D := fun h => ne_of_none h nD
  have S4 := S3.pushDs (l := src) fun p hp => Rep.mono hkeep (fun b u e z => ⟨(if_neg (nb e)).trans (clr_none z.1), z.2⟩) _ _ (rs p hp)
  refine ⟨fun i k H' => k = ds.length - i ∧ i ≤ ds.length ∧ ∃ acc, acc.length ≤ i ∧ Sd X.K G (wipe σ vs) ρ1 (dats src ++ ((.ref D, .own acc) :: pe)) H' ∧
    lcW t c n (ds.drop i) acc ρ1 (fun acc => ∀ v H', Sd X.K G σ ρ1 ((v, .own acc) :: pe) H' → Q v H'), ⟨_, rfl, Nat.zero_le _, [], Nat.le_refl _, ⟨_, S4.wiped hw⟩, q⟩, ?_⟩
  rintro i k H' ⟨rfl, hi, acc, ha, ⟨O5, S5⟩, q5⟩
  obtain ⟨S6, rs6⟩ := S5.popD
  have io := iok (Lof G O5) H' rs6 i
  by_cases hlt : i < ds.length
  · obtain ⟨g, y⟩ := io.1 ds[i] (List.getElem?_eq_getElem hlt)
    rw [List.drop_eq_getElem_cons hlt] at q5
    refine .inr ⟨g, fun H'' => ∃ acc, acc.length ≤ i + 1 ∧ Sd X.K G (wipe σ vs) ρ1 (dats src ++ ((.ref D, .own acc) :: pe)) H'' ∧
      lcW t c n (ds.drop (i + 1)) acc ρ1 (fun acc => ∀ v H', Sd X.K G σ ρ1 ((v, .own acc) :: pe) H' → Q v H'), fun H'' ⟨acc', h1, h2, h3⟩ => ⟨ds.length - (i + 1), by omega, rfl, hlt, acc', h1, h2, h3⟩, fun w H'' hy => ?_⟩
    obtain ⟨kk, rw'⟩ := y w H'' hy
    obtain ⟨ρ2, hb, qc⟩ := q5
    have S7 : StO X.K G O5 (wipe σ vs) ρ1 ((w, .dat ds[i]) :: (dats src ++ ((.ref D, .own acc) :: pe))) H'' := (S5.heap kk).pushD (Rep.mono (fun _ _ e _ => e) (fun b u e z => z.elim id fun z => S5.fresh z) _ _ rw')
    refine ⟨ρ1, _, _, ρ2, ⟨O5, S7⟩, hb, fun σ2 H2 bt S8 => ⟨wipe_but bt hv, ?_⟩⟩
    refine ⟨ρ2, _, S8, c.mono (fun b ρ3 hq H3 S9 => ?_) (fun _ _ z => z) qc⟩
    obtain ⟨e3, q9⟩ := hq
    subst e3
    -- back to the block's slots
    have toOld : ∀ {pe' : Pend} {Hx : Hp}, Sd X.K G σ2 ρ3 pe' Hx → Sd X.K G (wipe σ vs) ρ1 pe' Hx := fun {pe' Hx} ⟨Oy, Sy⟩ => by
      obtain ⟨bl, bo⟩ := bind_but hb
      refine ⟨Oy, Sy.weak (by rw [← bl, Sy.len, bt.1]) fun j cc ej => ?_⟩
      have nj : j ∉ vs := fun z => wipeE_none z cc (hw.symm ▸ ej)
      have nt : j ∉ t.slots := fun z => nj (hv j z)
      exact ⟨(bo j nt).trans ej, (bt.2 j nt).symm⟩
    cases b with
    | false =>
      refine iteF ⟨acc, Nat.le_succ_of_le ha, toOld S9, ?_⟩
      exact (show (if false = true then _ else lcW t c n (ds.drop (i + 1)) acc ρ1 _) from q9)
    | true =>
      refine iteT ⟨ρ3, _, S9, n.mono (fun yd ρ4 hq yv H4 S10 => ?_) (fun _ _ z => z) (show (if true = true then _ else _) from q9)⟩
      obtain ⟨e4, q10⟩ := hq
      subst e4
      obtain ⟨Oz, Sz⟩ := S10
      have ry := Sz.top
      obtain ⟨Sw, rsw⟩ := Sz.pop.popD
      obtain ⟨p, accv, ep, _, hp, _, ra, _⟩ := Sw.pends.1
      cases ep
      have la := ra.length
      obtain ⟨Sq, kq⟩ := Sw.changeTop (es := acc ++ [yd]) (ys := accv ++ [yv]) (by simp; omega) (ra.snoc ry)
      refine ⟨accv, hp, by omega, acc ++ [yd], by simp; omega, toOld ⟨Oz, Sq.pushDs fun p hp => Rep.mono kq (fun _ _ _ z => z) _ _ (rsw p hp)⟩, q10⟩
  · have e : i = ds.length := by omega
    subst e
    refine .inl ⟨io.2 (Nat.le_refl _), ?_⟩
    rw [List.drop_length] at q5
    exact q5 _ _ ⟨_, S6.unwiped hw⟩
theorem p_lc {elt : Expr} {scope : Scope} {own : List (Str × Nat)} {pos : Pos} {m : W (List Da)} {t : Tt} {c : W Bool} {n : W Da} (hc : X.calm = true) (hN : X.N.Nodup) (hi : PI X tg it (tit X.K G x m)) (ok : BlkOk X.N X.env.scope scope own)
    (hg : ∀ (s : Shared) (H : Hp) (C : Addr) (cl : List (Str × Addr)) (fp : List Addr), PG (X.blk s H scope (compEnvC scope cl C X.env) fp) tg (tgg X.K G t))
    (ht : ∀ (s : Shared) (H : Hp) (C : Addr) (cl : List (Str × Addr)) (fp : List Addr), PTs (X.blk s H scope (compEnvC scope cl C X.env) fp) ifs (ttt X.K G noEx c))
    (he : ∀ (s : Shared) (H : Hp) (C : Addr) (cl : List (Str × Addr)) (fp : List Addr), PE (X.blk s H scope (compEnvC scope cl C X.env) fp) elt (tp X.K G noEx n))
    (hv : ∀ i ∈ t.slots, i ∈ own.map (·.2)) (hs : ∀ y, foldedSetIterable it X.env y = pure y := by intro _; rfl) :
    PE X (.ListComp elt [⟨tg, it, ifs, 0⟩] scope pos) (tow X.K G x (eLC (own.map (·.2)) m t c n)) := (pe_lc hc hN hi ok hg ht he hs).of fun _ _ _ q => lc_run hv q
end
end Pu
end

section
namespace Pu
open PySem PySem.Spec PyProof.Rows L2

/-! ### statements -/
structure Fl where
  nx : En → Prop
  rt : Da → En → Prop
  bk : En → Prop
  ct : En → Prop
  ex : Ex → En → Prop
structure Fl.Le (E E' : Fl) : Prop where
  nx : ∀ ρ, E.nx ρ → E'.nx ρ
  rt : ∀ d ρ, E.rt d ρ → E'.rt d ρ
  bk : ∀ ρ, E.bk ρ → E'.bk ρ
  ct : ∀ ρ, E.ct ρ → E'.ct ρ
  ex : ∀ e ρ, E.ex e ρ → E'.ex e ρ
structure Sx where
  wp : En → Fl → Prop
  mono : ∀ {ρ : En} {E E' : Fl}, Fl.Le E E' → wp ρ E → wp ρ E'
def flOf (K : PySem.W.Frag) (G : Gc) (x : Ex → En → Prop) (σ0 : L2.St) (pe : Pend) (D : Ends) : Fl :=
  ⟨fun ρ => ∀ σ H, Sd K G σ ρ pe H → D.nx σ H, fun d ρ => ∀ v σ H, Sd K G σ ρ ((v, .dat d) :: pe) H → D.rt v H, fun ρ => ∀ σ H, Sd K G σ ρ pe H → D.bk σ H, fun ρ => ∀ σ H, Sd K G σ ρ pe H → D.ct σ H, x⟩
def ts (K : PySem.W.Frag) (G : Gc) (x : Ex → En → Prop) (S : Sx) : TS := fun D σ H => ∃ ρ pe, Sd K G σ ρ pe H ∧ S.wp ρ (flOf K G x σ pe D)

def sPass : Sx := ⟨fun ρ E => E.nx ρ, fun l h => l.nx _ h⟩
def sBreak : Sx := ⟨fun ρ E => E.bk ρ, fun l h => l.bk _ h⟩
def sCont : Sx := ⟨fun ρ E => E.ct ρ, fun l h => l.ct _ h⟩
def sSeq (a b : Sx) : Sx := ⟨fun ρ E => a.wp ρ { E with nx := fun ρ' => b.wp ρ' E }, fun {ρ E E'} l h => a.mono (E := { E with nx := fun ρ' => b.wp ρ' E }) ⟨fun ρ' q => b.mono l q, l.rt, l.bk, l.ct, l.ex⟩ h⟩
def sIf (c : W Bool) (a b : Sx) : Sx := ⟨fun ρ E => c.wp ρ (fun k ρ' => if k = true then a.wp ρ' E else b.wp ρ' E) E.ex, fun l h => c.mono (fun k ρ' q => by
  cases k with
  | true => exact iteT (a.mono l (show (if true = true then _ else _) from q))
  | false => exact iteF (b.mono l (show (if false = true then _ else b.wp ρ' _) from q))) l.ex h⟩
def sExpr (m : W Da) : Sx := ⟨fun ρ E => m.wp ρ (fun _ ρ' => E.nx ρ') E.ex, fun l h => m.mono (fun _ ρ' q => l.nx _ q) l.ex h⟩
def sRet (m : W Da) : Sx := ⟨fun ρ E => m.wp ρ E.rt E.ex, fun l h => m.mono l.rt l.ex h⟩
def sRetN : Sx := ⟨fun ρ E => E.rt .non ρ, fun l h => l.rt _ _ h⟩
def sAsg (m : W Da) (t : Tt) : Sx := ⟨fun ρ E => m.wp ρ (fun d ρ' => ∃ ρ2, t.bind d ρ' = some ρ2 ∧ E.nx ρ2) E.ex, fun l h => m.mono (fun d ρ' ⟨ρ2, e, q⟩ => ⟨ρ2, e, l.nx _ q⟩) l.ex h⟩
def sSet (i : Nat) (m : W Da) : Sx := ⟨fun ρ E => m.wp ρ (fun d ρ' => E.nx (ρ'.set i (some (.dat d)))) E.ex, fun l h => m.mono (fun d ρ' q => l.nx _ q) l.ex h⟩
def sOwn (i : Nat) (m : W (List Da)) : Sx := ⟨fun ρ E => m.wp ρ (fun ds ρ' => E.nx (ρ'.set i (some (.own ds)))) E.ex, fun l h => m.mono (fun d ρ' q => l.nx _ q) l.ex h⟩
def sAug (i : Nat) (f : Da → Da → Option Da) (m : W Da) : Sx := ⟨fun ρ E => ∃ a, look ρ i = some a ∧ m.wp ρ (fun d ρ' => ∃ r, f a d = some r ∧ E.nx (ρ'.set i (some (.dat r)))) E.ex, fun l ⟨a, e, h⟩ => ⟨a, e, m.mono (fun d ρ' ⟨r, e, q⟩ => ⟨r, e, l.nx _ q⟩) l.ex h⟩⟩
/-- what the proof does between two statements: a slot is forgotten, an own list becomes data -/
def sForget (i : Nat) (s : Sx) : Sx := ⟨fun ρ E => s.wp (ρ.set i none) E, fun l h => s.mono l h⟩
def sFreeze (i : Nat) (s : Sx) : Sx := ⟨fun ρ E => ∃ ds, lookOwn ρ i = some ds ∧ s.wp (ρ.set i (some (.dat (.lst ds)))) E, fun l ⟨ds, e, h⟩ => ⟨ds, e, s.mono l h⟩⟩
def forW (t : Tt) (b : Sx) : List Da → En → Fl → Prop
  | [], ρ, E => E.nx ρ
  | d :: ds, ρ, E => ∃ ρ', t.bind d ρ = some ρ' ∧ b.wp ρ' { nx := fun ρ1 => forW t b ds ρ1 E, rt := E.rt, bk := E.nx, ct := fun ρ1 => forW t b ds ρ1 E, ex := E.ex }
theorem forW_mono {t : Tt} {b : Sx} {E E' : Fl} (l : Fl.Le E E') : ∀ {ds : List Da} {ρ : En}, forW t b ds ρ E → forW t b ds ρ E'
  | [], _, h => l.nx _ h
  | d :: ds, ρ, ⟨ρ', e, h⟩ => ⟨ρ', e, b.mono (E := { nx := fun ρ1 => forW t b ds ρ1 E, rt := E.rt, bk := E.nx, ct := fun ρ1 => forW t b ds ρ1 E, ex := E.ex }) ⟨fun _ q => forW_mono l q, l.rt, l.nx, fun _ q => forW_mono l q, l.ex⟩ h⟩
def sFor (m : W (List Da)) (t : Tt) (b : Sx) : Sx := ⟨fun ρ E => m.wp ρ (fun ds ρ' => forW t b ds ρ' E) E.ex, fun l h => m.mono (fun _ _ q => forW_mono l q) l.ex h⟩
def sWhile (c : W Bool) (b : Sx) : Sx := ⟨fun ρ E => ∃ I : Nat → En → Prop, (∃ n, I n ρ) ∧ ∀ n ρ, I n ρ → c.wp ρ (fun k ρ' => if k = true then
    b.wp ρ' { nx := fun ρ1 => ∃ m, m < n ∧ I m ρ1, rt := E.rt, bk := E.nx, ct := fun ρ1 => ∃ m, m < n ∧ I m ρ1, ex := E.ex } else E.nx ρ') E.ex,
  fun {ρ E E'} l ⟨I, h0, h⟩ => ⟨I, h0, fun n ρ hi => c.mono (fun k ρ' q => by
    cases k with
    | true => exact iteT (b.mono (E := { nx := fun ρ1 => ∃ m, m < n ∧ I m ρ1, rt := E.rt, bk := E.nx, ct := fun ρ1 => ∃ m, m < n ∧ I m ρ1, ex := E.ex }) ⟨fun _ z => z, l.rt, l.nx, fun _ z => z, l.ex⟩ (show (if true = true then _ else _) from q))
    | false => exact iteF (l.nx _ (show (if false = true then _ else E.nx ρ') from q))) l.ex (h n ρ hi)⟩⟩

section
variable {X : Cx} {G : Gc} {x : Ex → En → Prop}
theorem flOf_rt {K : PySem.W.Frag} {σ : L2.St} {ρ : En} {pe : Pend} {D : Ends} {d : Da} (h : (flOf K G x σ pe D).rt d ρ) {v : V} {σ' : L2.St} {H : Hp} (S : Sd K G σ' ρ ((v, .dat d) :: pe) H) : D.rt v H := h v σ' H S
theorem s_pass {pos : Pos} : PS X (.Pass pos) (ts X.K G x sPass) := ps_pass.of fun D σ H ⟨ρ, pe, S, q⟩ => q σ H S
theorem s_break {pos : Pos} : PS X (.Break pos) (ts X.K G x sBreak) := ps_break.of fun D σ H ⟨ρ, pe, S, q⟩ => q σ H S
theorem s_cont {pos : Pos} : PS X (.Continue pos) (ts X.K G x sCont) := ps_continue.of fun D σ H ⟨ρ, pe, S, q⟩ => q σ H S
theorem ss_nil : PSs X [] (ts X.K G x sPass) := pss_nil.of fun D σ H ⟨ρ, pe, S, q⟩ => q σ H S
theorem ss_cons {st : Stmt} {rest : List Stmt} {a b : Sx} (h1 : PS X st (ts X.K G x a)) (h2 : PSs X rest (ts X.K G x b)) : PSs X (st :: rest) (ts X.K G x (sSeq a b)) := (pss_cons h1 h2).of fun D σ H ⟨ρ, pe, S, q⟩ =>
  ⟨ρ, pe, S, a.mono (E := { flOf X.K G x σ pe D with nx := fun ρ' => b.wp ρ' (flOf X.K G x σ pe D) }) ⟨fun ρ' q σ' H' S' => ⟨ρ', pe, S', q⟩, fun _ _ z => z, fun _ z => z, fun _ z => z, fun _ _ z => z⟩ q⟩
theorem ss_one {st : Stmt} {a : Sx} (h1 : PS X st (ts X.K G x a)) : PSs X [st] (ts X.K G x a) := pss_one h1
theorem s_if {c : Expr} {a b : List Stmt} {pos : Pos} {mc : W Bool} {sa sb : Sx} (hc : PT X c (ttt X.K G x mc)) (ha : PSs X a (ts X.K G x sa)) (hb : PSs X b (ts X.K G x sb)) : PS X (.If c a b pos) (ts X.K G x (sIf mc sa sb)) :=
  (ps_if hc ha hb).of fun D σ H ⟨ρ, pe, S, q⟩ => ⟨ρ, pe, S, mc.mono (fun k ρ1 q H1 S1 => by
    cases k with
    | true => exact iteT ⟨ρ1, pe, S1, q⟩
    | false => exact iteF ⟨ρ1, pe, S1, q⟩) (fun _ _ z => z) q⟩
theorem s_expr {e : Expr} {pos : Pos} {m : W Da} (he : PE X e (tp X.K G x m)) (hs : swapsWith e none pos.line X.env = pure false := by rfl) : PS X (.Expr e pos) (ts X.K G x (sExpr m)) :=
  (ps_expr he hs).of fun D σ H ⟨ρ, pe, S, q⟩ => ⟨ρ, pe, S, m.mono (fun d ρ1 q v H1 S1 => q σ H1 S1.pop) (fun _ _ z => z) q⟩
theorem s_ret {e : Expr} {pos : Pos} {m : W Da} (he : PE X e (tp X.K G x m)) : PS X (.Return (some e) pos) (ts X.K G x (sRet m)) :=
  (ps_ret he).of fun D σ H ⟨ρ, pe, S, q⟩ => ⟨ρ, pe, S, m.mono (fun d ρ1 q v H1 S1 => q v σ H1 S1) (fun _ _ z => z) q⟩
theorem s_retN {pos : Pos} : PS X (.Return none pos) (ts X.K G x sRetN) := ps_retN.of fun D σ H ⟨ρ, pe, ⟨O, S⟩, q⟩ => q .non σ H ⟨O, S.pushD (by simp [Rep])⟩
theorem s_asg {tg e : Expr} {pos : Pos} {m : W Da} {t : Tt} (he : PE X e (tp X.K G x m)) (hg : PG X tg (tgg X.K G t)) (hs : swapsWithSole [tg] e pos.line X.env = pure false := by rfl) (hw : swappedStores [tg] e X.env = pure none := by rfl)
    (h1 : (assignEach [tg] X.env).map (·.2) = [assign tg X.env] := by rfl) : PS X (.Assign [tg] e pos) (ts X.K G x (sAsg m t)) := (ps_asg he hg hs hw h1).of fun D σ H ⟨ρ, pe, S, q⟩ =>
  ⟨ρ, pe, S, m.mono (fun d ρ1 ⟨ρ2, e, q⟩ v H1 S1 => ⟨ρ1, pe, d, ρ2, S1, e, fun σ' H' _ S' => q σ' H' S'⟩) (fun _ _ z => z) q⟩
theorem s_set {i : Nat} {n : Str} {e : Expr} {pos pos' : Pos} {m : W Da} (hN : X.N.Nodup) (hi : X.N[i]? = some n) (hx : Loc X.env.scope n) (he : PE X e (tp X.K G x m)) (hs : swapsWith e (some (.Name n pos')) pos.line X.env = pure false := by rfl)
    (hf : X.fn n = true ∨ X.env.scope.names.lookup n = some .local := by first | exact .inl rfl | exact .inr rfl | assumption) : PS X (.Assign [.Name n pos'] e pos) (ts X.K G x (sSet i m)) :=
  (ps_set hN hi hx he hs hf).of fun D σ H ⟨ρ, pe, S, q⟩ => ⟨ρ, pe, S, m.mono (fun d ρ1 q v H1 ⟨O, S1⟩ => q _ H1 ⟨_, S1.store i⟩) (fun _ _ z => z) q⟩
theorem s_own {i : Nat} {n : Str} {e : Expr} {pos pos' : Pos} {m : W (List Da)} (hN : X.N.Nodup) (hi : X.N[i]? = some n) (hx : Loc X.env.scope n) (he : PE X e (tow X.K G x m)) (hs : swapsWith e (some (.Name n pos')) pos.line X.env = pure false := by rfl)
    (hf : X.fn n = true ∨ X.env.scope.names.lookup n = some .local := by first | exact .inl rfl | exact .inr rfl | assumption) : PS X (.Assign [.Name n pos'] e pos) (ts X.K G x (sOwn i m)) :=
  (ps_set hN hi hx he hs hf).of fun D σ H ⟨ρ, pe, S, q⟩ => ⟨ρ, pe, S, m.mono (fun d ρ1 q v H1 ⟨O, S1⟩ => q _ H1 ⟨_, S1.storeOwn i⟩) (fun _ _ z => z) q⟩
/-- name = [.. for ..] on one line -/
theorem s_ownLc {i : Nat} {y : Str} {py : Pos} {tg it elt : Expr} {ifs : List Expr} {scope : Scope} {own : List (Str × Nat)} {pos spos : Pos} {m : W (List Da)} {t : Tt} {c : W Bool} {n : W Da} (hc : X.calm = true) (hN : X.N.Nodup) (hy : X.N[i]? = some y)
    (hyl : X.env.scope.names.lookup y = some .local) (hsw : swapsWith (.ListComp elt [⟨tg, it, ifs, 0⟩] scope pos) (some (.Name y py)) spos.line X.env = pure true) (hi : PI X tg it (tit X.K G x m)) (ok : BlkOk X.N X.env.scope scope own)
    (hg : ∀ (s : Shared) (H : Hp) (C : Addr) (cl : List (Str × Addr)) (fp : List Addr), PG (X.blk s H scope (compEnvC scope cl C X.env) fp) tg (tgg X.K G t))
    (ht : ∀ (s : Shared) (H : Hp) (C : Addr) (cl : List (Str × Addr)) (fp : List Addr), PTs (X.blk s H scope (compEnvC scope cl C X.env) fp) ifs (ttt X.K G noEx c))
    (he : ∀ (s : Shared) (H : Hp) (C : Addr) (cl : List (Str × Addr)) (fp : List Addr), PE (X.blk s H scope (compEnvC scope cl C X.env) fp) elt (tp X.K G noEx n))
    (hv : ∀ i ∈ t.slots, i ∈ own.map (·.2)) (hs : ∀ y, foldedSetIterable it X.env y = pure y := by intro _; rfl) :
    PS X (.Assign [.Name y py] (.ListComp elt [⟨tg, it, ifs, 0⟩] scope pos) spos) (ts X.K G x (sOwn i (eLC (own.map (·.2)) m t c n))) := (ps_setLc hc hN hy hyl hsw hi ok hg ht he hs).of fun D σ H ⟨ρ, pe, S, q⟩ =>
  lc_run hv ⟨ρ, pe, S, (eLC (own.map (·.2)) m t c n).mono (ρ := ρ) (k := fun ds ρ' => (flOf X.K G x σ pe D).nx (ρ'.set i (some (.own ds)))) (x := x) (fun d ρ1 q v H1 ⟨O, S1⟩ => q _ H1 ⟨_, S1.storeOwn i⟩) (fun _ _ z => z) (show (eLC (own.map (·.2)) m t c n).wp ρ _ _ from q)⟩
theorem s_setLc {i : Nat} {y : Str} {py : Pos} {tg it elt : Expr} {ifs : List Expr} {scope : Scope} {own : List (Str × Nat)} {pos spos : Pos} {m : W (List Da)} {t : Tt} {c : W Bool} {n : W Da} (hc : X.calm = true) (hN : X.N.Nodup) (hy : X.N[i]? = some y)
    (hyl : X.env.scope.names.lookup y = some .local) (hsw : swapsWith (.ListComp elt [⟨tg, it, ifs, 0⟩] scope pos) (some (.Name y py)) spos.line X.env = pure true) (hi : PI X tg it (tit X.K G x m)) (ok : BlkOk X.N X.env.scope scope own)
    (hg : ∀ (s : Shared) (H : Hp) (C : Addr) (cl : List (Str × Addr)) (fp : List Addr), PG (X.blk s H scope (compEnvC scope cl C X.env) fp) tg (tgg X.K G t))
    (ht : ∀ (s : Shared) (H : Hp) (C : Addr) (cl : List (Str × Addr)) (fp : List Addr), PTs (X.blk s H scope (compEnvC scope cl C X.env) fp) ifs (ttt X.K G noEx c))
    (he : ∀ (s : Shared) (H : Hp) (C : Addr) (cl : List (Str × Addr)) (fp : List Addr), PE (X.blk s H scope (compEnvC scope cl C X.env) fp) elt (tp X.K G noEx n))
    (hv : ∀ i ∈ t.slots, i ∈ own.map (·.2)) (hs : ∀ y, foldedSetIterable it X.env y = pure y := by intro _; rfl) :
    PS X (.Assign [.Name y py] (.ListComp elt [⟨tg, it, ifs, 0⟩] scope pos) spos) (ts X.K G x (sSet i (eFrz (eLC (own.map (·.2)) m t c n)))) := (ps_setLc hc hN hy hyl hsw hi ok hg ht he hs).of fun D σ H ⟨ρ, pe, S, q⟩ =>
  lc_run hv ⟨ρ, pe, S, (eLC (own.map (·.2)) m t c n).mono (ρ := ρ) (k := fun ds ρ' => (flOf X.K G x σ pe D).nx (ρ'.set i (some (.dat (.lst ds))))) (x := x) (fun d ρ1 q v H1 ⟨O, S1⟩ => q _ H1 ⟨_, S1.freeze.store i⟩) (fun _ _ z => z) (show (eLC (own.map (·.2)) m t c n).wp ρ _ _ from q)⟩
theorem ss_forget {st : List Stmt} {a : Sx} (i : Nat) (h : PSs X st (ts X.K G x a)) : PSs X st (ts X.K G x (sForget i a)) := h.of fun D σ H ⟨ρ, pe, ⟨O, S⟩, q⟩ =>
  ⟨ρ.set i none, pe, ⟨O, S.weak (by simp [S.len]) fun j c e => by
    rcases getset e with ⟨_, e, _⟩ | ⟨_, e⟩
    · cases e
    · exact ⟨e, rfl⟩⟩, q⟩
theorem ss_freeze {st : List Stmt} {a : Sx} (i : Nat) (h : PSs X st (ts X.K G x a)) : PSs X st (ts X.K G x (sFreeze i a)) := h.of fun D σ H ⟨ρ, pe, ⟨O, S⟩, ds, e, q⟩ => ⟨_, pe, ⟨_, S.freezeSlot (of_lookOwn e)⟩, q⟩
theorem s_for {tg it : Expr} {body : List Stmt} {pos : Pos} {m : W (List Da)} {t : Tt} {b : Sx} (hp : PassesOwn (model X.prog X.w) X.A X.env X.xe) (hc : X.calm = true) (hi : PI X tg it (tit X.K G x m)) (hg : PG X tg (tgg X.K G t)) (hb : PSs X body (ts X.K G x b))
    (hs : ∀ y, foldedSetIterable it X.env y = pure y := by intro _; rfl) : PS X (.For tg it body [] pos) (ts X.K G x (sFor m t b)) := (ps_for hp hc hi hg hb hs).of fun D σ H ⟨ρ, pe, S, q⟩ => by
  refine ⟨ρ, pe, S, m.mono (fun ds ρ1 q J src H1 iok hz S1 => ?_) (fun _ _ z => z) q⟩
  refine ⟨fun i k σ' H' => k = ds.length - i ∧ i ≤ ds.length ∧ ∃ ρ', Sd X.K G σ' ρ' (dats src ++ pe) H' ∧ forW t b (ds.drop i) ρ' (flOf X.K G x σ pe D), ⟨_, rfl, Nat.zero_le _, ρ1, S1, q⟩, ?_⟩
  rintro i k σ' H' ⟨rfl, hi, ρ', ⟨O, S2⟩, q2⟩
  obtain ⟨S3, rs⟩ := S2.popD
  have io := iok (Lof G O) H' rs i
  by_cases hlt : i < ds.length
  · obtain ⟨g, y⟩ := io.1 ds[i] (List.getElem?_eq_getElem hlt)
    rw [List.drop_eq_getElem_cons hlt] at q2
    obtain ⟨ρ2, hb2, q3⟩ := q2
    refine .inr ⟨g, fun σ'' H'' => ∃ ρ'', Sd X.K G σ'' ρ'' (dats src ++ pe) H'' ∧ forW t b (ds.drop (i + 1)) ρ'' (flOf X.K G x σ pe D), fun σ'' H'' ⟨ρ'', h1, h2⟩ => ⟨ds.length - (i + 1), by omega, rfl, hlt, ρ'', h1, h2⟩, fun w H'' hy => ?_⟩
    obtain ⟨kk, rw'⟩ := y w H'' hy
    have S4 : StO X.K G O σ' ρ' ((w, .dat ds[i]) :: (dats src ++ pe)) H'' := (S2.heap kk).pushD (Rep.mono (fun _ _ e _ => e) (fun _ u e z => z.elim id fun z => S2.fresh z) _ _ rw')
    have pops : ∀ {σ5 : L2.St} {ρ5 : En} {H5 : Hp}, Sd X.K G σ5 ρ5 (dats src ++ pe) H5 → Sd X.K G σ5 ρ5 pe H5 := fun ⟨O5, S5⟩ => ⟨O5, S5.popD.1⟩
    refine ⟨ρ', _, _, ρ2, ⟨O, S4⟩, hb2, fun σ2 H2 _ S5 => ⟨ρ2, _, S5, b.mono (E := { nx := fun ρ1 => forW t b (ds.drop (i + 1)) ρ1 (flOf X.K G x σ pe D), rt := (flOf X.K G x σ pe D).rt, bk := (flOf X.K G x σ pe D).nx, ct := fun ρ1 => forW t b (ds.drop (i + 1)) ρ1 (flOf X.K G x σ pe D), ex := x }) ⟨fun ρ5 q5 σ5 H5 S5 => ⟨ρ5, S5, q5⟩, fun d ρ5 q5 v σ5 H5 ⟨O5, S5⟩ => ?_, fun ρ5 q5 σ5 H5 S5 => q5 σ5 H5 (pops S5), fun ρ5 q5 σ5 H5 S5 => ⟨ρ5, S5, q5⟩, fun _ _ z => z⟩ q3⟩⟩
    exact q5 v σ5 H5 ⟨O5, S5.pop.popD.1.pushD S5.top⟩
  · have e : i = ds.length := by omega
    subst e
    rw [List.drop_length] at q2
    exact .inl ⟨io.2 (Nat.le_refl _), q2 σ' H' ⟨O, S3⟩⟩
theorem s_while {c : Expr} {body : List Stmt} {pos : Pos} {mc : W Bool} {b : Sx} (hp : PassesOwn (model X.prog X.w) X.A X.env X.xe) (hc : PT X c (ttt X.K G x mc)) (hb : PSs X body (ts X.K G x b)) : PS X (.While c body [] pos) (ts X.K G x (sWhile mc b)) :=
  (ps_while hp hc hb).of fun D σ H ⟨ρ, pe, S, I, ⟨n0, h0⟩, h⟩ => ⟨fun n σ' H' => ∃ ρ', Sd X.K G σ' ρ' pe H' ∧ I n ρ', ⟨n0, ρ, S, h0⟩, fun n σ1 H1 ⟨ρ1, S1, i1⟩ => ⟨ρ1, pe, S1, mc.mono (fun k ρ2 q H2 S2 => by
    cases k with
    | true => exact iteT ⟨fun σ' H' => ∃ m, m < n ∧ ∃ ρ', Sd X.K G σ' ρ' pe H' ∧ I m ρ', fun σ' H' z => z, ρ2, pe, S2, b.mono (E := { nx := fun ρ1 => ∃ m, m < n ∧ I m ρ1, rt := (flOf X.K G x σ pe D).rt, bk := (flOf X.K G x σ pe D).nx, ct := fun ρ1 => ∃ m, m < n ∧ I m ρ1, ex := x }) ⟨fun ρ5 ⟨m, hm, z⟩ σ5 H5 S5 => ⟨m, hm, ρ5, S5, z⟩, fun _ _ z => z, fun _ z => z, fun ρ5 ⟨m, hm, z⟩ σ5 H5 S5 => ⟨m, hm, ρ5, S5, z⟩, fun _ _ z => z⟩ q⟩
    | false => exact iteF (q σ1 H2 S2)) (fun _ _ z => z) (h n ρ1 i1)⟩⟩
/-- x op= e -/
def Ip2 (t : TIp) (f : Da → Da → Option Da) (K : PySem.W.Frag) : Prop := ∀ (L : Addr → Prop) (H : Hp) (dx dy d : Da) (a b : V) (Q : VK), Rep K L H dx a → Rep K L H dy b → f dx dy = some d →
  (∀ v H', (∀ c u, H c = some u → H' c = some u) → Rep K (fun c => L c ∨ H c = none) H' d v → Q v H') → t a b H Q
theorem s_aug {i : Nat} {n : Str} {e : Expr} {op : Operator} {ti : TIp} {pos pos' : Pos} {m : W Da} {f : Da → Da → Option Da} (hN : X.N.Nodup) (hi : X.N[i]? = some n) (hx : Loc X.env.scope n) (he : PE X e (tp X.K G x m)) (ho : PIp X op ti) (h : Ip2 ti f X.K)
    (hf : X.fn n = true ∨ X.env.scope.names.lookup n = some .local := by first | exact .inl rfl | exact .inr rfl | assumption) : PS X (.AugAssign (.Name n pos') op e pos) (ts X.K G x (sAug i f m)) :=
  (ps_aug hN hi hx he ho hf).of fun D σ H ⟨ρ, pe, ⟨O, S⟩, a, ea, q⟩ => by
    obtain ⟨v, hv, r⟩ := S.slots i _ (of_look ea)
    have S1 : StO X.K G O σ ρ ((v, .dat a) :: pe) H := S.push r
    refine ⟨v, hv, ρ, _, ⟨O, S1⟩, m.mono (fun d ρ1 ⟨r, er, q⟩ w H1 ⟨O1, S2⟩ => ?_) (fun _ _ z => z) q⟩
    exact h (Lof G O1) H1 _ _ _ v w _ S2.pop.top S2.top er fun u H' k rr => q _ H' ⟨_, (S2.pop.pop.result k rr).store i⟩
end
end Pu
end

section
namespace Pu
open PySem PySem.Spec PyProof.Rows L2

/-! ### defs: what they promise, said of data alone -/
structure Fn where
  wp : List Da → (Da → Prop) → (Ex → Prop) → Prop
  mono : ∀ {as : List Da} {k k' : Da → Prop} {x x' : Ex → Prop}, (∀ d, k d → k' d) → (∀ e, x e → x' e) → wp as k x → wp as k' x'
end Pu
namespace Pu
open PySem PySem.Spec PyProof.Rows L2
/-- how an exception lies: d its dict -/
def XdAt (K : PySem.W.Frag) (L : Addr → Prop) (H : Hp) (d : Addr) (e : Ex) : Prop := ∃ y, H d = some (.xd [(e.fld, y)]) ∧ Rep K L H e.what y
/-- a def of data, n of them -/
def spD (K : PySem.W.Frag) (mg : Str → Option Value) (n : Nat) (F : Fn) : Sp := fun vs H Q E => ∃ (La : Addr → Prop) (ds : List Da), ds.length = n ∧ Reps K La H ds vs ∧
  F.wp ds (fun d => ∀ v H', (∀ b x, H b = some x → H' b = some x) → Rep K (fun c => La c ∨ H c = none) H' d v → Q v H')
    (fun e => ∀ C d H', mg e.name = some (.ref C) → (∀ b x, H b = some x → H' b = some x) → XdAt K (fun c => La c ∨ H c = none) H' d e → E (.ref C) (some d) H')
/-- a def whose first argument is the pool -/
def spL (K : PySem.W.Frag) (mg : Str → Option Value) (n : Nat) (F : Fn) : Sp := fun vs H Q E => ∃ (La : Addr → Prop) (ds : List Da) (p : Addr) (ws : List V), vs = .ref p :: ws ∧ ds.length = n ∧ Reps K La H ds ws ∧ PoolAt K La H p ∧ ¬ La p ∧
  F.wp ds (fun d => ∀ v H', (∀ b x, H b = some x → b ≠ p → H' b = some x) → PoolAt K (fun c => La c ∨ H c = none) H' p → Rep K (fun c => La c ∨ H c = none) H' d v → Q v H')
    (fun e => False)
theorem spD_len {K : PySem.W.Frag} {mg : Str → Option Value} {n : Nat} {F : Fn} : ∀ vs H Q E, spD K mg n F vs H Q E → vs.length = n := fun vs H Q E ⟨_, ds, l, r, _⟩ => r.length.trans l
theorem spL_len {K : PySem.W.Frag} {mg : Str → Option Value} {n : Nat} {F : Fn} : ∀ vs H Q E, spL K mg n F vs H Q E → vs.length = n + 1 := fun vs H Q E ⟨_, ds, p, ws, e, l, r, _⟩ => by
  subst e
  simp [r.length, l]

section
variable {K : PySem.W.Frag} {G : Gc} {O : Addr → Option Tg} {σ : L2.St} {ρ : En} {pe : Pend} {H H' : Hp} {p : Addr} {i : Nat}
/-- the pool in slot i has been drawn from -/
theorem StO.drawn (S : StO K G O σ ρ pe H) (hr : ρ[i]? = some (some .pool)) (hv : σ[i]? = some (some (.ref p))) (hp : O p = some (.slot i)) (k : ∀ b x, H b = some x → b ≠ p → H' b = some x)
    (q : PoolAt K (fun c => Lof G O c ∨ H c = none) H' p) : StO K G O σ ρ pe H' := by
  obtain ⟨w, hw, p', e, hp', q0⟩ := S.slots i _ hr
  rw [hv] at hw
  cases hw
  cases e
  have hH : ∃ xs, H p = some (.lst xs) := by
    obtain ⟨_, _, _, _, _, _, _, e, _⟩ := q0
    exact ⟨_, e⟩
  obtain ⟨xs, hH⟩ := hH
  have kp : Keep (Lof G O) H H' := fun b x e z => k b x e (fun q => by
    subst q
    rcases z with z | z
    · have z1 := z.1
      rw [hp] at z1
      cases z1
    · rw [hH] at e
      cases e
      exact z trivial)
  have kl : ∀ b x, H b = some x → Lof G O b → Lof G O b := fun _ _ _ z => z
  have q' : PoolAt K (Lof G O) H' p := q.mono (fun _ _ e _ => e) (fun _ _ _ z => z.elim id fun z => S.fresh z) rfl
  have pk : ∀ {b : Addr} {L : Addr → Prop}, PoolAt K L H b → b ≠ p → H' b = H b := fun {b L} h n => by
    obtain ⟨_, _, _, _, _, _, _, e, _⟩ := h
    rw [e]
    exact k _ _ e n
  refine ⟨fun b x e n => ⟨k b x (S.frame b x e n).1 (fun q => ?_), (S.frame b x e n).2⟩, fun b t e => ?_, fun b hb => ?_, S.len, fun j c e => ?_, ?_⟩
  · subst q
    have f := (S.frame b x e n).2
    rw [hp] at f
    cases f
  · by_cases z : b = p
    · subst z
      obtain ⟨_, _, _, _, _, _, _, e, _⟩ := q'
      exact ⟨_, e, trivial⟩
    · obtain ⟨x, h1, h2⟩ := S.own b t e
      exact ⟨x, k _ _ h1 z, h2⟩
  · obtain ⟨h1, h2⟩ := S.pools b hb
    by_cases z : b = p
    · subst z
      exact ⟨q', h2⟩
    · exact ⟨h1.mono kp kl (pk h1 z), h2⟩
  · obtain ⟨v, h1, h2⟩ := S.slots j c e
    refine ⟨v, h1, ?_⟩
    by_cases z : j = i
    · subst z
      rw [hr] at e
      cases e
      rw [hv] at h1
      cases h1
      exact ⟨p, rfl, hp, q'⟩
    · exact h2.mono kp kl fun b e => ⟨by
        have nb : b ≠ p := fun q => by
          rw [q, hp] at e
          cases e
          exact z rfl
        obtain ⟨x, h1, _⟩ := S.own b _ e
        rw [h1]
        exact k _ _ h1 nb, e⟩
  · exact S.pends.mono kp kl fun j _ b e => ⟨by
      have nb : b ≠ p := fun q => by
        rw [q, hp] at e
        cases e
      obtain ⟨x, h1, _⟩ := S.own b _ e
      rw [h1]
      exact k _ _ h1 nb, e⟩
end

/-! ### exceptions of a callee -/
/-- what the context wishes of exceptions, said of data: x -/
structure XOk (X : Cx) (G : Gc) (x : Ex → En → Prop) : Prop where
  so : G.so = SetTO X.prog X.w
  ex : ∃ W : WX, Takes X W ∧ ∀ (e : Ex) (ρ : En) (σ : L2.St) (pe : Pend) (H : Hp) (O : Addr → Option Tg) (C d : Addr), x e ρ → StO X.K G O σ ρ pe H → X.mg e.name = some (.ref C) → XdAt X.K (Lof G O) H d e → W (.ref C) (some d) σ H
theorem XOk.no {X : Cx} {G : Gc} (so : G.so = SetTO X.prog X.w) : XOk X G noEx := ⟨so, _, takes0, fun _ _ _ _ _ _ _ _ h => h.elim⟩

def eCall (F : Fn) (n : Nat) (a : W (List Da)) : W Da := a.bind fun ds => (W.req (ds.length = n)).bind fun _ => ⟨fun ρ k x => F.wp ds (fun d => k d ρ) (fun e => x e ρ), fun hk hx h => F.mono (fun d q => hk _ _ q) (fun e q => hx _ _ q) h⟩
/-- f(pool, ..), the pool in slot i -/
def eCallP (i : Nat) (F : Fn) (n : Nat) (a : W (List Da)) : W Da := W.env.bind fun ρ0 => (W.req (ρ0[i]? = some (some .pool))).bind fun _ => a.bind fun ds => W.env.bind fun ρ => (W.req (ds.length = n ∧ ρ[i]? = some (some .pool))).bind fun _ => ⟨fun ρ k _ => F.wp ds (fun d => k d ρ) (fun _ => False), fun hk hx h => F.mono (fun d q => hk _ _ q) (fun e q => q) h⟩
section
variable {X : Cx} {G : Gc} {x : Ex → En → Prop} {k : Nat} {f : Addr} {fd : FuncData} {ps : List Str} {F : Fn} {n : Nat} {nm : Str} {p pos : Pos} {e : Expr} {es : List Expr} {ma : W (List Da)}
theorem XdAt.mono {K : PySem.W.Frag} {L L' : Addr → Prop} {H : Hp} {d : Addr} {e : Ex} (h : XdAt K L H d e) (l : ∀ b, L b → L' b) : XdAt K L' H d e := by
  obtain ⟨y, h1, h2⟩ := h
  exact ⟨y, h1, Rep.mono (fun _ _ e _ => e) (fun b _ _ z => l b z) _ _ h2⟩
theorem p_call (xo : XOk X G x) (fo : FnOk X.prog X.w X.K X.mg X.base (L2.CX X.prog X.w) k f fd ps (spD X.K X.mg n F)) (hr : Room k X.A) (hg : Gl X nm) (hm : X.mg nm = some (.ref f)) (hk : PySem.W.keepIn X.K (.ref f) = true) (hb : Binds X.K fd ps [])
    (ha : PA X (e :: es) (tar X.K G x ma)) (hdb : (nm == ("__debug__" : Str)) = false := by decide)
    (he : starEach (e :: es) X.env = (false, eval e X.env) :: starEach es X.env := by rfl) (hpl : (backTo pos (starEach es X.env)).any (·.1) = false := by rfl) : PE X (.Call (.Name nm p) (e :: es) [] pos) (tp X.K G x (eCall F n ma)) := by
  obtain ⟨W, tk, hW⟩ := xo.ex
  refine (pe_callS fo hr hg hm hk hb (fun σ => passAt tk σ) ha hdb he hpl).of fun σ H Q ⟨ρ, pe, S, q⟩ => ?_
  refine ⟨ρ, pe, S, ma.mono (fun ds ρ1 ⟨hl, q⟩ vs H1 l ⟨O, S1⟩ => ?_) (fun _ _ z => z) q⟩
  obtain ⟨S2, rs⟩ := pushAll_pop l S1
  exact ⟨Lof G O, ds, hl, rs, F.mono (fun d q v H' kk r => q v H' ⟨O, S2.result kk r⟩) (fun ee q C d H' hC kk r => hW ee ρ1 σ pe H' O C d q (S2.heap kk) hC (r.mono fun b z => z.elim id fun z => S2.fresh z)) q⟩
/-- f(pool, ..) -/
theorem p_callP {i : Nat} {np : Str} {pp : Pos} (fo : FnOk X.prog X.w X.K X.mg X.base (L2.CX X.prog X.w) k f fd ps (spL X.K X.mg n F)) (hr : Room k X.A) (hg : Gl X nm) (hm : X.mg nm = some (.ref f)) (hk : PySem.W.keepIn X.K (.ref f) = true) (hb : Binds X.K fd ps [])
    (h0 : PE X (.Name np pp) (tVar i)) (ha : PA X es (tar X.K G x ma)) (hdb : (nm == ("__debug__" : Str)) = false := by decide) (he : starEach (.Name np pp :: es) X.env = (false, eval (.Name np pp) X.env) :: starEach es X.env := by rfl)
    (hpl : (backTo pos (starEach es X.env)).any (·.1) = false := by rfl) : PE X (.Call (.Name nm p) (.Name np pp :: es) [] pos) (tp X.K G x (eCallP i F n ma)) := by
  refine (pe_call fo hr hg hm hk hb .nil passL (pa_cons h0 ha he) hdb he hpl).of fun σ H Q ⟨ρ, pe, S, q⟩ => ?_
  obtain ⟨hp0, q⟩ := q
  obtain ⟨O0, S0⟩ := S
  obtain ⟨w, hv, _⟩ := S0.slots i _ hp0
  refine ⟨w, hv, ρ, pe, ⟨O0, S0⟩, ma.mono (fun ds ρ1 ⟨⟨hl, hp⟩, q⟩ vs H1 l ⟨O, S1⟩ => ?_) (fun _ _ z => z) q⟩
  obtain ⟨S2, rs⟩ := pushAll_pop l S1
  obtain ⟨w', hv', p', ew, op, pa⟩ := S2.slots i _ hp
  rw [hv] at hv'
  cases hv'
  subst ew
  have nl : ¬ Lof G O p' := fun z => by
    have z1 := z.1
    rw [op] at z1
    cases z1
  show spL X.K X.mg n F ((V.ref p' :: vs) ++ []) H1 Q E0
  rw [List.append_nil]
  exact ⟨Lof G O, ds, p', vs, rfl, hl, rs, pa, nl, F.mono (fun d q v H' kk pq r => q v H' ⟨O, (S2.drawn hp hv op kk pq).pushD (Rep.mono (fun _ _ e _ => e) (fun b _ _ z => z.elim id fun z => S2.fresh z) _ _ r)⟩) (fun _ z => z) q⟩
end
end Pu
end

section
namespace Pu
open PySem PySem.Spec PyProof.Rows L2

/-- the data at a def's entry -/
def startE (n : Nat) (ds : List Da) : En := ds.map (fun d => some (.dat d)) ++ List.replicate (n - ds.length) none
def startP (n : Nat) (ds : List Da) : En := some .pool :: startE (n - 1) ds
/-- what a def's body ends in -/
def flFn (k : Da → Prop) (x : Ex → Prop) : Fl := ⟨fun _ => k .non, fun d _ => k d, fun _ => False, fun _ => False, fun e _ => x e⟩
/-- a body keeps a def's promise -/
def Keeps (n N : Nat) (F : Fn) (b : Sx) : Prop := ∀ (ds : List Da) (k : Da → Prop) (x : Ex → Prop), ds.length = n → F.wp ds k x → b.wp (startE N ds) (flFn k x)
def KeepsP (n N : Nat) (F : Fn) (b : Sx) : Prop := ∀ (ds : List Da) (k : Da → Prop), ds.length = n → F.wp ds k (fun _ => False) → b.wp (startP N ds) (flFn k fun _ => False)

section
variable {P : Program} {w : World} {K : PySem.W.Frag} {mg : Str → Option Value} {base : Heap} {x qual : Str} {st : Stmt} {f : Addr} {fd : FuncData} {N ps : List Str} {k n : Nat} {F : Fn} {b : Sx}
theorem startE_len {m : Nat} {ds : List Da} (h : ds.length ≤ m) : (startE m ds).length = m := by
  unfold startE
  simp
  omega
theorem startE_get {m i : Nat} {ds : List Da} {c : Ce} (h : (startE m ds)[i]? = some (some c)) : ∃ d, ds[i]? = some d ∧ c = .dat d := by
  unfold startE at h
  by_cases hi : i < ds.length
  · rw [List.getElem?_append_left (by simpa using hi), List.getElem?_map] at h
    rw [List.getElem?_eq_getElem hi] at h ⊢
    exact ⟨_, rfl, (Option.some.inj (Option.some.inj h)).symm⟩
  · rw [List.getElem?_append_right (by simpa using hi), List.getElem?_replicate] at h
    split at h <;> cases h
theorem start_get {vs : List V} {i : Nat} {v : V} (h : vs[i]? = some v) : (L2.start N vs)[i]? = some (some v) := by
  unfold L2.start
  have hi := (List.getElem?_eq_some_iff.mp h).1
  rw [List.getElem?_append_left (by simpa using hi), List.getElem?_map, h]
  rfl
theorem start_len {vs : List V} (h : vs.length ≤ N.length) : (L2.start N vs).length = N.length := by
  unfold L2.start
  simp
  omega
theorem scope_le {sc : Scope} (S : FnScope N ps sc) : ps.length ≤ N.length := by
  have h := congrArg List.length S.pre
  rw [List.length_take] at h
  omega
theorem okD (Fu : Fun K x qual st f fd) (S : FnScope N ps (defScope st)) (hn : ps.length = n)
    (hb : ∀ (cdv : Value) (A : Around) (outer : List Env) (s : Shared) (H : Hp) (E : XK) (G : Gc) (xw : Ex → En → Prop), Room k (A.deeper (envOfC qual (defScope st) s.heap.objs.size f cdv)) →
      XOk (cxOf (L2.CX P w) P w K mg base N qual (defScope st) f cdv A outer s H E) G xw → PSs (cxOf (L2.CX P w) P w K mg base N qual (defScope st) f cdv A outer s H E) (defBody st) (ts K G xw b))
    (hw : Keeps n N.length F b) : FnOk P w K mg base (L2.CX P w) (k + 1) f fd ps (spD K mg n F) := by
  refine Fu.okX S (fun vs H Q E h => (spD_len vs H Q E h).trans hn.symm) fun cdv A outer s H vs Q E hr ⟨La, ds, l, r, q⟩ => ?_
  refine ⟨_, hb cdv A outer s H E ⟨H, fun _ => False, La, none, SetTO P w⟩ (fun e _ => ∀ C d H', mg e.name = some (.ref C) → (∀ b x, H b = some x → H' b = some x) → XdAt K (fun c => La c ∨ H c = none) H' d e → E (.ref C) (some d) H') hr
    ⟨rfl, fun cls d _ H' => E cls d H', takes_of rfl rfl rfl rfl, fun e ρ σ pe H' O C d hx S' hC hd => hx C d H' hC (fun b y z => (S'.frame b y z fun h => h).1) (hd.mono fun b z => z.2)⟩, ?_⟩
  have hle := scope_le S
  have hvl := r.length
  refine ⟨startE N.length ds, [], ⟨fun _ => none, ⟨fun b y e _ => ⟨e, rfl⟩, fun p t e => (by cases e), fun p h => h.elim, ?_, fun i c e => ?_, trivial⟩⟩, b.mono (E := flFn _ _) ⟨fun ρ q σ H' ⟨O, S'⟩ => ?_, fun d ρ q v σ H' ⟨O, S'⟩ => ?_, fun _ z => z.elim, fun _ z => z.elim, fun _ _ z => z⟩ (hw ds _ _ l q)⟩
  · rw [startE_len (by omega), start_len (by omega)]
  · obtain ⟨d, h1, rfl⟩ := startE_get e
    obtain ⟨v, h2, h3⟩ := r.getD h1
    exact ⟨v, start_get h2, Rep.mono (fun _ _ e _ => e) (fun _ _ _ z => ⟨rfl, .inl z⟩) _ _ h3⟩
  · exact q .non H' (fun b y z => (S'.frame b y z fun h => h).1) (by simp [Rep])
  · exact q v H' (fun b y z => (S'.frame b y z fun h => h).1) (Rep.mono (fun _ _ e _ => e) (fun _ _ _ z => z.2) _ _ S'.top)
theorem okL (Fu : Fun K x qual st f fd) (S : FnScope N ps (defScope st)) (hn : ps.length = n + 1)
    (hb : ∀ (cdv : Value) (A : Around) (outer : List Env) (s : Shared) (H : Hp) (E : XK) (G : Gc) (xw : Ex → En → Prop), Room k (A.deeper (envOfC qual (defScope st) s.heap.objs.size f cdv)) →
      XOk (cxOf (L2.CX P w) P w K mg base N qual (defScope st) f cdv A outer s H E) G xw → PSs (cxOf (L2.CX P w) P w K mg base N qual (defScope st) f cdv A outer s H E) (defBody st) (ts K G xw b))
    (hw : KeepsP n N.length F b) : FnOk P w K mg base (L2.CX P w) (k + 1) f fd ps (spL K mg n F) := by
  refine Fu.okX S (fun vs H Q E h => (spL_len vs H Q E h).trans hn.symm) fun cdv A outer s H vs Q E hr ⟨La, ds, p, ws, ev, l, r, pa, nl, q⟩ => ?_
  subst ev
  refine ⟨_, hb cdv A outer s H E ⟨H, fun a => a = p, La, none, SetTO P w⟩ (fun e _ => False) hr ⟨rfl, fun cls d _ H' => E cls d H', takes_of rfl rfl rfl rfl, fun e ρ σ pe H' O C d hx _ _ _ => hx.elim⟩, ?_⟩
  have hle := scope_le S
  have hvl := r.length
  have hps : (H p).isSome = true := by
    obtain ⟨_, _, _, _, _, _, _, e, _⟩ := pa
    rw [e]
    rfl
  have lo : ∀ {b : Addr}, La b → Lof ⟨H, fun a => a = p, La, none, SetTO P w⟩ (fun a => if a = p then some (.slot 0) else none) b := fun {b} z => ⟨if_neg (fun e : b = p => nl (e ▸ z)), .inl z⟩
  have pa' : PoolAt K (Lof ⟨H, fun a => a = p, La, none, SetTO P w⟩ (fun a => if a = p then some (.slot 0) else none)) H p := pa.mono (fun _ _ e _ => e) (fun _ _ _ z => lo z) rfl
  have fin : ∀ {O : Addr → Option Tg} {σ : L2.St} {ρ : En} {pe : Pend} {H' : Hp}, StO K ⟨H, fun a => a = p, La, none, SetTO P w⟩ O σ ρ pe H' → (∀ b y, H b = some y → b ≠ p → H' b = some y) ∧ PoolAt K (fun c => La c ∨ H c = none) H' p := fun {O σ ρ pe H'} S' =>
    ⟨fun b y z n => (S'.frame b y z n).1, (S'.pools p rfl).1.mono (fun _ _ e _ => e) (fun _ _ _ z => z.2) rfl⟩
  refine ⟨startP N.length ds, [], ⟨fun a => if a = p then some (.slot 0) else none, ⟨fun b y e n => ⟨e, if_neg n⟩, fun a t e => ?_, fun a h => ?_, ?_, fun i c e => ?_, trivial⟩⟩,
    b.mono (E := flFn _ _) ⟨fun ρ q σ H' ⟨O, S'⟩ => ?_, fun d ρ q v σ H' ⟨O, S'⟩ => ?_, fun _ z => z.elim, fun _ z => z.elim, fun _ _ z => z⟩ (hw ds _ l q)⟩
  · by_cases z : a = p
    · subst z
      obtain ⟨_, _, _, _, _, _, _, e, _⟩ := pa
      exact ⟨_, e, trivial⟩
    · rw [if_neg z] at e
      cases e
  · subst h
    exact ⟨pa', nl, hps⟩
  · unfold startP
    rw [List.length_cons, startE_len (by omega), start_len (by simp; omega)]
    omega
  · cases i with
    | zero =>
      cases e
      exact ⟨.ref p, start_get rfl, p, rfl, if_pos rfl, pa'⟩
    | succ i =>
      obtain ⟨d, h1, rfl⟩ := startE_get (show (startE (N.length - 1) ds)[i]? = some (some c) from e)
      obtain ⟨v, h2, h3⟩ := r.getD h1
      exact ⟨v, start_get (show (V.ref p :: ws)[i + 1]? = some v from h2), Rep.mono (fun _ _ e _ => e) (fun _ _ _ z => lo z) _ _ h3⟩
  · exact q .non H' (fin S').1 (fin S').2 (by simp [Rep])
  · exact q v H' (fin S').1 (fin S').2 (Rep.mono (fun _ _ e _ => e) (fun _ _ _ z => z.2) _ _ S'.top)
end
end Pu
end

section
namespace Pu
open PySem PySem.Spec PyProof.Rows L2

section
variable {K : PySem.W.Frag} {L L' : Addr → Prop} {H H' : Hp} {d : Da} {v : V}
theorem rep_int {i : Int} : Rep K L H (.int i) v ↔ v = .int i := by simp [Rep]
theorem rep_bl' {b : Bool} : Rep K L H (.bl b) v ↔ v = .bl b := by simp [Rep]
theorem rep_non : Rep K L H .non v ↔ v = .non := by simp [Rep]
theorem rep_str {s : Str} : Rep K L H (.str s) v ↔ v = .str s := by simp [Rep]
theorem rep_tup {ds : List Da} : Rep K L H (.tup ds) v ↔ ∃ a xs, v = .ref a ∧ SqT K H a xs ∧ ds.length ≤ sizeLine ∧ Reps K L H ds xs := by simp [Rep]
theorem rep_lst {ds : List Da} : Rep K L H (.lst ds) v ↔ ∃ a xs, v = .ref a ∧ (H a = some (.lst xs) ∧ L a) ∧ ds.length ≤ sizeLine ∧ Reps K L H ds xs := by simp [Rep, LAt]
theorem Rep.or (h : Rep K L H d v) : Rep K (fun c => L c ∨ H c = none) H d v := Rep.mono (fun _ _ e _ => e) (fun _ _ _ z => .inl z) _ _ h
theorem Reps.or {ds : List Da} {vs : List V} (h : Reps K L H ds vs) : Reps K (fun c => L c ∨ H c = none) H ds vs := Reps.mono (fun _ _ e _ => e) (fun _ _ _ z => .inl z) _ _ h
theorem same_ok : ∀ c u, H c = some u → H c = some u := fun _ _ h => h
theorem keep_new {p : Addr} {o : HO} (n : H p = none) : Keep L H (upd H p o) := fun b x e _ => keep_upd n b x e
/-- a new tuple, a new list -/
theorem rep_newT {p : Addr} {ds : List Da} {xs : List V} (n : H p = none) (z : ds.length ≤ sizeLine) (r : Reps K L H ds xs) : Rep K (fun c => L c ∨ H c = none) (upd H p (.tup xs)) (.tup ds) (.ref p) :=
  rep_tup.mpr ⟨p, xs, rfl, .of upd_same, z, Reps.mono (keep_new n) (fun _ _ _ z => .inl z) _ _ r⟩
theorem rep_newL {p : Addr} {ds : List Da} {xs : List V} (n : H p = none) (z : ds.length ≤ sizeLine) (r : Reps K L H ds xs) : Rep K (fun c => L c ∨ H c = none) (upd H p (.lst xs)) (.lst ds) (.ref p) :=
  rep_lst.mpr ⟨p, xs, rfl, ⟨upd_same, .inr n⟩, z, Reps.mono (keep_new n) (fun _ _ _ z => .inl z) _ _ r⟩
end

/-! ### arithmetic -/
def dAdd : Da → Da → Option Da
  | .int i, .int j => some (.int (i + j))
  | .str s, .str t => if s.length + t.length ≤ sizeLine then some (.str (s ++ t)) else none
  | .tup xs, .tup ys => if xs.length + ys.length ≤ sizeLine then some (.tup (xs ++ ys)) else none
  | .lst xs, .lst ys => if xs.length + ys.length ≤ sizeLine then some (.lst (xs ++ ys)) else none
  | _, _ => none
def rAdd (K : PySem.W.Frag) : R2 := fun x y H Q => ((∃ i j, x = .int i ∧ y = .int j ∧ Q (.int (i + j)) H) ∨ ∃ i j, x = .str i ∧ y = .str j ∧ i.length + j.length ≤ sizeLine ∧ Q (.str (i ++ j)) H) ∨ (rCatA K x y H Q ∨ rCat x y H Q)
theorem o_add {X : Cx} : OpR X (binaryOp .Add) (rAdd X.K) := (op_add.or op_add_str).or (op_catA.or op_cat)
theorem f_add {K : PySem.W.Frag} : Op2 K (rAdd K) dAdd := by
  intro L H dx dy d a b Q ra rb e q
  unfold dAdd at e
  split at e
  · cases e
    exact .inl (.inl ⟨_, _, rep_int.mp ra, rep_int.mp rb, q _ H same_ok (rep_int.mpr rfl)⟩)
  · split at e
    · cases e
      exact .inl (.inr ⟨_, _, rep_str.mp ra, rep_str.mp rb, by assumption, q _ H same_ok (rep_str.mpr rfl)⟩)
    · cases e
  · rename_i xs ys
    split at e
    · rename_i hz
      cases e
      have ra' := ra
      have rb' := rb
      obtain ⟨p, us, e1, h1, z1, r1⟩ := rep_tup.mp ra
      obtain ⟨p', us', e2, h2, z2, r2⟩ := rep_tup.mp rb
      have l1 := r1.length
      have l2 := r2.length
      refine .inr (.inl ⟨p, p', us, us', e1, e2, h1, h2, by omega, fun c => ?_, fun _ c => ?_, fun _ _ t nt => q _ _ (keep_upd nt) (rep_newT nt (by simpa using hz) (r1.app r2))⟩)
      · subst c
        cases xs with
        | nil => rw [← e2]; exact q _ H same_ok rb'.or
        | cons _ _ => cases l1
      · subst c
        cases ys with
        | nil => rw [← e1, List.append_nil] at *; exact q _ H same_ok ra'.or
        | cons _ _ => cases l2
    · cases e
  · rename_i xs ys
    split at e
    · rename_i hz
      cases e
      obtain ⟨p, us, e1, h1, z1, r1⟩ := rep_lst.mp ra
      obtain ⟨p', us', e2, h2, z2, r2⟩ := rep_lst.mp rb
      have l1 := r1.length
      have l2 := r2.length
      exact .inr (.inr ⟨p, p', us, us', e1, e2, h1.1, h2.1, by omega, fun t nt => q _ _ (keep_upd nt) (rep_newL nt (by simpa using hz) (r1.app r2))⟩)
    · cases e
  · cases e
def dI2 (f : Int → Int → Option Da) : Da → Da → Option Da
  | .int i, .int j => f i j
  | _, _ => none
@[simp] theorem dI2_int (f : Int → Int → Option Da) (i j : Int) : dI2 f (.int i) (.int j) = f i j := rfl
theorem of_dI2 {f : Int → Int → Option Da} {a b d : Da} (h : dI2 f a b = some d) : ∃ i j, a = .int i ∧ b = .int j ∧ f i j = some d := by
  unfold dI2 at h
  split at h
  · exact ⟨_, _, rfl, rfl, h⟩
  · cases h
theorem f_I0 {K : PySem.W.Frag} {g : Int → Int → Int} : Op2 K (rI0 fun i j => .int (g i j)) (dI2 fun i j => some (.int (g i j))) := by
  intro L H dx dy d a b Q ra rb e q
  obtain ⟨i, j, rfl, rfl, e⟩ := of_dI2 e
  cases e
  exact ⟨i, j, rep_int.mp ra, rep_int.mp rb, q _ H same_ok (rep_int.mpr rfl)⟩
theorem f_B0 {K : PySem.W.Frag} {g : Int → Int → Bool} : Op2 K (rI0 fun i j => .bl (g i j)) (dI2 fun i j => some (.bl (g i j))) := by
  intro L H dx dy d a b Q ra rb e q
  obtain ⟨i, j, rfl, rfl, e⟩ := of_dI2 e
  cases e
  exact ⟨i, j, rep_int.mp ra, rep_int.mp rb, q _ H same_ok (rep_bl'.mpr rfl)⟩
theorem f_IC {K : PySem.W.Frag} {C : Int → Int → Prop} [∀ i j, Decidable (C i j)] {g : Int → Int → Int} : Op2 K (rI C fun i j => .int (g i j)) (dI2 fun i j => if C i j then some (.int (g i j)) else none) := by
  intro L H dx dy d a b Q ra rb e q
  obtain ⟨i, j, rfl, rfl, e'⟩ := of_dI2 e
  clear e
  split at e'
  · cases e'
    exact ⟨i, j, rep_int.mp ra, rep_int.mp rb, by assumption, q _ H same_ok (rep_int.mpr rfl)⟩
  · cases e'
instance (i j : Int) : Decidable (CMul i j) := by unfold CMul; infer_instance
instance (i j : Int) : Decidable (CDiv i j) := by unfold CDiv; infer_instance
instance (i j : Int) : Decidable (CPow i j) := by unfold CPow; infer_instance
def dSub := dI2 fun i j => some (.int (i - j))
def dMul := dI2 fun i j => if CMul i j then some (.int (i * j)) else none
def dDiv := dI2 fun i j => if CDiv i j then some (.int (i / j)) else none
def dMod := dI2 fun i j => if 0 < j then some (.int (i % j)) else none
def dPow := dI2 fun i j => if CPow i j then some (.int (i ^ j.toNat)) else none
def dLt := dI2 fun i j => some (.bl (decide (i < j)))
def dLe := dI2 fun i j => some (.bl (decide (i ≤ j)))
def dGt := dI2 fun i j => some (.bl (decide (j < i)))
def dGe := dI2 fun i j => some (.bl (decide (j ≤ i)))
theorem f_sub {K : PySem.W.Frag} : Op2 K (rI0 fun i j => .int (i - j)) dSub := f_I0
theorem f_mul {K : PySem.W.Frag} : Op2 K (rI CMul fun i j => .int (i * j)) dMul := f_IC
theorem f_div {K : PySem.W.Frag} : Op2 K (rI CDiv fun i j => .int (i / j)) dDiv := f_IC
theorem f_mod {K : PySem.W.Frag} : Op2 K (rI (fun _ j => 0 < j) fun i j => .int (i % j)) dMod := f_IC
theorem f_pow {K : PySem.W.Frag} : Op2 K (rI CPow fun i j => .int (i ^ j.toNat)) dPow := f_IC
theorem f_lt {K : PySem.W.Frag} : Op2 K (rI0 fun i j => .bl (decide (i < j))) dLt := f_B0
theorem f_le {K : PySem.W.Frag} : Op2 K (rI0 fun i j => .bl (decide (i ≤ j))) dLe := f_B0
theorem f_gt {K : PySem.W.Frag} : Op2 K (rI0 fun i j => .bl (decide (j < i))) dGt := f_B0
theorem f_ge {K : PySem.W.Frag} : Op2 K (rI0 fun i j => .bl (decide (j ≤ i))) dGe := f_B0
def dNeg : Da → Option Da
  | .int i => some (.int (-i))
  | _ => none
theorem f_neg {K : PySem.W.Frag} : Op1 K (rU fun i => .int (-i)) dNeg := by
  intro L H dx d a Q ra e q
  cases dx <;> simp [dNeg] at e
  subst e
  exact ⟨_, rep_int.mp ra, q _ H same_ok (rep_int.mpr rfl)⟩

/-! ### == of data -/
mutual
def Da.py : Da → PyData
  | .non => .none
  | .bl b => .bool b
  | .int i => .int i
  | .str s => .str s
  | .tup ds => .tuple (Da.pys ds)
  | .lst ds => .list (Da.pys ds)
  | .obj _ _ _ => .none
  | .scr _ => .none
  | .dct _ _ => .none
def Da.pys : List Da → List PyData
  | [] => []
  | d :: ds => d.py :: Da.pys ds
end
/-- data that == and in may look at, n deep at most -/
def Da.ok : Nat → Da → Bool
  | _, .non => true
  | _, .bl _ => true
  | _, .int _ => true
  | _, .str s => PyData.strOk s
  | 0, .tup _ => false
  | 0, .lst _ => false
  | n + 1, .tup ds => ds.all (Da.ok n)
  | n + 1, .lst ds => ds.all (Da.ok n)
  | _, .obj _ _ _ => false
  | _, .scr _ => false
  | _, .dct _ _ => false
mutual
def Da.eqv : Da → Da → Bool
  | .non, .non => true
  | .bl a, .bl b => a == b
  | .bl a, .int j => (if a then 1 else 0) == j
  | .int i, .bl b => i == (if b then 1 else 0)
  | .int i, .int j => i == j
  | .str s, .str t => s == t
  | .tup xs, .tup ys => Da.eqvs xs ys
  | .lst xs, .lst ys => Da.eqvs xs ys
  | _, _ => false
def Da.eqvs : List Da → List Da → Bool
  | [], [] => true
  | x :: xs, y :: ys => Da.eqv x y && Da.eqvs xs ys
  | _, _ => false
end
theorem pys_len (ds : List Da) : Da.pys ds = ds.map Da.py := by
  induction ds with
  | nil => rfl
  | cons d ds ih => simp [Da.pys, ih]
mutual
theorem ok_shape : ∀ (n : Nat) (d : Da), d.ok n = true → d.py.canLay0 = true ∧ d.py.depth ≤ n
  | n, .non, _ => by simp [Da.py, PyData.canLay0, PyData.depth]
  | n, .bl _, _ => by simp [Da.py, PyData.canLay0, PyData.depth]
  | n, .int _, _ => by simp [Da.py, PyData.canLay0, PyData.depth]
  | n, .str s, h => by
    have h' : PyData.strOk s = true := by cases n <;> simpa [Da.ok] using h
    simp [Da.py, PyData.canLay0, PyData.depth, h']
  | 0, .tup _, h => by simp [Da.ok] at h
  | 0, .lst _, h => by simp [Da.ok] at h
  | n + 1, .tup ds, h => by
    have q := ok_shapes n ds (by simpa only [Da.ok] using h)
    simp only [Da.py, PyData.canLay0, PyData.depth, q.1, true_and]
    omega
  | n + 1, .lst ds, h => by
    have q := ok_shapes n ds (by simpa only [Da.ok] using h)
    simp only [Da.py, PyData.canLay0, PyData.depth, q.1, true_and]
    omega
  | n, .obj _ _ _, h => by cases n <;> simp [Da.ok] at h
  | n, .scr _, h => by cases n <;> simp [Da.ok] at h
  | n, .dct _ _, h => by cases n <;> simp [Da.ok] at h
theorem ok_shapes : ∀ (n : Nat) (ds : List Da), ds.all (Da.ok n) = true → PyData.canLayAll0 (Da.pys ds) = true ∧ PyData.depthAll (Da.pys ds) ≤ n
  | n, [], _ => by simp [Da.pys, PyData.canLayAll0, PyData.depthAll]
  | n, d :: ds, h => by
    simp only [List.all_cons, Bool.and_eq_true] at h
    obtain ⟨a, b⟩ := ok_shape n d h.1
    obtain ⟨a', b'⟩ := ok_shapes n ds h.2
    simp only [Da.pys, PyData.canLayAll0, PyData.depthAll, a, a', Bool.and_self, true_and]
    omega
end
theorem ok_shaped {d : Da} (h : d.ok 60 = true) : SeqAt.shaped d.py = true := by
  obtain ⟨a, b⟩ := ok_shape 60 d h
  unfold SeqAt.shaped
  rw [a, Bool.true_and]
  exact decide_eq_true (by omega)
def Da.isOb : Da → Bool
  | .obj _ _ _ => true
  | .scr _ => true
  | .dct _ _ => true
  | _ => false
theorem ok_noOb {n : Nat} {d : Da} (h : d.ok n = true) : d.isOb = false := by
  cases d <;> first | rfl | (cases n <;> simp [Da.ok] at h)
mutual
theorem eqv_py : ∀ (n : Nat) (a b : Da), a.ok n = true → b.ok n = true → PyData.eqv a.py b.py = Da.eqv a b
  | n, .non, b, ha, hb => by cases b <;> first | (simp [Da.py, PyData.eqv, Da.eqv]; done) | (cases n <;> simp [Da.ok] at hb)
  | n, .bl _, b, ha, hb => by cases b <;> first | (simp [Da.py, PyData.eqv, Da.eqv]; done) | (cases n <;> simp [Da.ok] at hb)
  | n, .int _, b, ha, hb => by cases b <;> first | (simp [Da.py, PyData.eqv, Da.eqv]; done) | (cases n <;> simp [Da.ok] at hb)
  | n, .str _, b, ha, hb => by cases b <;> first | (simp [Da.py, PyData.eqv, Da.eqv]; done) | (cases n <;> simp [Da.ok] at hb)
  | 0, .tup _, b, ha, hb => by simp [Da.ok] at ha
  | 0, .lst _, b, ha, hb => by simp [Da.ok] at ha
  | n + 1, .tup xs, b, ha, hb => by
    cases b with
    | tup ys =>
      simp only [Da.py, PyData.eqv, Da.eqv]
      exact eqvs_py n xs ys (by simpa only [Da.ok] using ha) (by simpa only [Da.ok] using hb)
    | _ => first | (simp [Da.py, PyData.eqv, Da.eqv]; done) | simp [Da.ok] at hb
  | n + 1, .lst xs, b, ha, hb => by
    cases b with
    | lst ys =>
      simp only [Da.py, PyData.eqv, Da.eqv]
      exact eqvs_py n xs ys (by simpa only [Da.ok] using ha) (by simpa only [Da.ok] using hb)
    | _ => first | (simp [Da.py, PyData.eqv, Da.eqv]; done) | simp [Da.ok] at hb
  | n, .obj _ _ _, b, ha, hb => by cases n <;> simp [Da.ok] at ha
  | n, .scr _, b, ha, hb => by cases n <;> simp [Da.ok] at ha
  | n, .dct _ _, b, ha, hb => by cases n <;> simp [Da.ok] at ha
theorem eqvs_py : ∀ (n : Nat) (xs ys : List Da), xs.all (Da.ok n) = true → ys.all (Da.ok n) = true → PyData.eqvAll (Da.pys xs) (Da.pys ys) = Da.eqvs xs ys
  | n, [], [], _, _ => by simp [Da.pys, PyData.eqvAll, Da.eqvs]
  | n, [], _ :: _, _, _ => by simp [Da.pys, PyData.eqvAll, Da.eqvs]
  | n, _ :: _, [], _, _ => by simp [Da.pys, PyData.eqvAll, Da.eqvs]
  | n, x :: xs, y :: ys, ha, hb => by
    simp only [List.all_cons, Bool.and_eq_true] at ha hb
    simp only [Da.pys, PyData.eqvAll, Da.eqvs, eqv_py n x y ha.1 hb.1, eqvs_py n xs ys ha.2 hb.2]
end
mutual
theorem rep_dp {K : PySem.W.Frag} {L : Addr → Prop} {H : Hp} : ∀ (n : Nat) (d : Da) (v : V), d.ok n = true → Rep K L H d v → Dp K H v d.py
  | n, .non, v, h, r => by rw [rep_non.mp r]; exact .non
  | n, .bl b, v, h, r => by rw [rep_bl'.mp r]; exact .bl b
  | n, .int i, v, h, r => by rw [rep_int.mp r]; exact .int i
  | n, .str s, v, h, r => by rw [rep_str.mp r]; exact .str s
  | 0, .tup _, v, h, r => by simp [Da.ok] at h
  | 0, .lst _, v, h, r => by simp [Da.ok] at h
  | n + 1, .tup ds, v, h, r => by
    obtain ⟨a, xs, e, q, _, rs⟩ := rep_tup.mp r
    subst e
    exact .tup q (reps_dp n ds xs (by simpa only [Da.ok] using h) rs)
  | n + 1, .lst ds, v, h, r => by
    obtain ⟨a, xs, e, q, _, rs⟩ := rep_lst.mp r
    subst e
    exact .lst (.of q.1) (reps_dp n ds xs (by simpa only [Da.ok] using h) rs)
  | n, .obj _ _ _, v, h, r => by cases n <;> simp [Da.ok] at h
  | n, .scr _, v, h, r => by cases n <;> simp [Da.ok] at h
  | n, .dct _ _, v, h, r => by cases n <;> simp [Da.ok] at h
theorem reps_dp {K : PySem.W.Frag} {L : Addr → Prop} {H : Hp} : ∀ (n : Nat) (ds : List Da) (vs : List V), ds.all (Da.ok n) = true → Reps K L H ds vs → DpAll K H vs (Da.pys ds)
  | n, [], vs, _, r => by simp only [Reps] at r; subst r; exact .nil
  | n, d :: ds, vs, h, r => by
    simp only [Reps] at r
    obtain ⟨x, ys, e, r1, r2⟩ := r
    subst e
    simp only [List.all_cons, Bool.and_eq_true] at h
    exact .cons (rep_dp n d x h.1 r1) (reps_dp n ds ys h.2 r2)
end
def dEq (a b : Da) : Option Da := if a.ok 60 = true ∧ b.ok 60 = true then some (.bl (a.eqv b)) else none
def dNe (a b : Da) : Option Da := if a.ok 60 = true ∧ b.ok 60 = true then some (.bl (!a.eqv b)) else none
theorem f_eq {K : PySem.W.Frag} : Op2 K (rEqD K) dEq := by
  intro L H dx dy d a b Q ra rb e q
  unfold dEq at e
  split at e
  · rename_i h
    cases e
    exact ⟨_, _, rep_dp 60 _ _ h.1 ra, rep_dp 60 _ _ h.2 rb, ok_shaped h.1, ok_shaped h.2, by rw [eqv_py 60 _ _ h.1 h.2]; exact q _ H same_ok (rep_bl'.mpr rfl)⟩
  · cases e
theorem f_ne {K : PySem.W.Frag} : Op2 K (rNeD K) dNe := by
  intro L H dx dy d a b Q ra rb e q
  unfold dNe at e
  split at e
  · rename_i h
    cases e
    exact ⟨_, _, rep_dp 60 _ _ h.1 ra, rep_dp 60 _ _ h.2 rb, ok_shaped h.1, ok_shaped h.2, by rw [eqv_py 60 _ _ h.1 h.2]; exact q _ H same_ok (rep_bl'.mpr rfl)⟩
  · cases e
/-! is None -/
def Da.isNon : Da → Bool
  | .non => true
  | _ => false
def dIsN (a b : Da) : Option Da := if b.isNon = true then some (.bl a.isNon) else none
def dNotN (a b : Da) : Option Da := if b.isNon = true then some (.bl (!a.isNon)) else none
theorem isNon_v {K : PySem.W.Frag} {L : Addr → Prop} {H : Hp} {d : Da} {v : V} (r : Rep K L H d v) : decide (v = .non) = d.isNon := by
  cases d with
  | non => rw [rep_non.mp r]; rfl
  | bl b => rw [rep_bl'.mp r]; rfl
  | int i => rw [rep_int.mp r]; rfl
  | str s => rw [rep_str.mp r]; rfl
  | tup ds => obtain ⟨a, _, e, _⟩ := rep_tup.mp r; rw [e]; rfl
  | lst ds => obtain ⟨a, _, e, _⟩ := rep_lst.mp r; rw [e]; rfl
  | obj c ns ds => simp only [Rep] at r; obtain ⟨a, _, _, e, _⟩ := r; rw [e]; rfl
  | scr ns => simp only [Rep] at r; obtain ⟨a, e, _⟩ := r; rw [e]; rfl
  | dct ks ds => simp only [Rep] at r; obtain ⟨a, _, e, _⟩ := r; rw [e]; rfl
theorem f_isN {K : PySem.W.Frag} : Op2 K (fun x y H Q => y = .non ∧ Q (.bl (decide (x = .non))) H) dIsN := by
  intro L H dx dy d a b Q ra rb e q
  unfold dIsN at e
  split at e
  · rename_i h
    cases e
    have hb := isNon_v rb
    rw [h] at hb
    exact ⟨of_decide_eq_true hb, by rw [isNon_v ra]; exact q _ H same_ok (rep_bl'.mpr rfl)⟩
  · cases e
theorem f_notN {K : PySem.W.Frag} : Op2 K (fun x y H Q => y = .non ∧ Q (.bl (!decide (x = .non))) H) dNotN := by
  intro L H dx dy d a b Q ra rb e q
  unfold dNotN at e
  split at e
  · rename_i h
    cases e
    have hb := isNon_v rb
    rw [h] at hb
    exact ⟨of_decide_eq_true hb, by rw [isNon_v ra]; exact q _ H same_ok (rep_bl'.mpr rfl)⟩
  · cases e
/-! in -/
def Da.flat : Da → Bool
  | .non => true
  | .bl _ => true
  | .int _ => true
  | .str _ => true
  | _ => false
def dIn (neg : Bool) (a b : Da) : Option Da := match b with
  | .tup ds => if a.flat = true ∧ ds.all Da.flat = true then some (.bl (xor neg (ds.any fun z => z.eqv a))) else none
  | .lst ds => if a.flat = true ∧ ds.all Da.flat = true then some (.bl (xor neg (ds.any fun z => z.eqv a))) else if a.ok 50 = true ∧ ds.all (Da.ok 50) = true then some (.bl (xor neg (ds.any fun z => z.eqv a))) else none
  | _ => none
theorem flat_v {K : PySem.W.Frag} {L : Addr → Prop} {H : Hp} {d : Da} {v : V} (r : Rep K L H d v) (h : d.flat = true) : flatV v = true := by
  cases d <;> simp [Da.flat] at h
  · rw [rep_non.mp r]; rfl
  · rw [rep_bl'.mp r]; rfl
  · rw [rep_int.mp r]; rfl
  · rw [rep_str.mp r]; rfl
theorem eqV_flat {K : PySem.W.Frag} {L : Addr → Prop} {H : Hp} {d e : Da} {v w : V} (r : Rep K L H d v) (q : Rep K L H e w) (h : d.flat = true) (g : e.flat = true) : eqV v w = d.eqv e := by
  cases d <;> simp [Da.flat] at h <;> cases e <;> simp [Da.flat] at g <;> simp only [Rep] at r q <;> subst r <;> subst q <;> simp [eqV, Da.eqv]
theorem inV_flat {K : PySem.W.Frag} {L : Addr → Prop} {H : Hp} {a : Da} {v : V} (ra : Rep K L H a v) (ha : a.flat = true) : ∀ {ds : List Da} {vs : List V}, Reps K L H ds vs → ds.all Da.flat = true → vs.all flatV = true ∧ inV v vs = ds.any fun z => z.eqv a
  | [], vs, r, _ => by simp only [Reps] at r; subst r; exact ⟨rfl, rfl⟩
  | d :: ds, vs, r, h => by
    simp only [Reps] at r
    obtain ⟨x, ys, e, r1, r2⟩ := r
    subst e
    simp only [List.all_cons, Bool.and_eq_true] at h
    obtain ⟨h1, h2⟩ := inV_flat ra ha r2 h.2
    refine ⟨by rw [List.all_cons, flat_v r1 h.1, h1]; rfl, ?_⟩
    unfold inV at h2 ⊢
    rw [List.any_cons, List.any_cons, eqV_flat r1 ra h.1 ha, h2]
def rInA (K : PySem.W.Frag) (neg : Bool) : R2 := fun x y H Q => rIn K neg x y H Q ∨ (if neg then rNotInD K x y H Q else rInD K x y H Q)
theorem o_in {X : Cx} (hu : X.A.units + 65 < cLine) : OpR X (compareOp .In) (rInA X.K false) := op_in_seq.or (op_inD hu)
theorem o_notin {X : Cx} (hu : X.A.units + 65 < cLine) : OpR X (compareOp .NotIn) (rInA X.K true) := op_notIn_seq.or (op_notInD hu)
theorem any_py {a : Da} (ha : a.ok 50 = true) : ∀ {ds : List Da}, ds.all (Da.ok 50) = true → ((Da.pys ds).any fun z => PyData.eqv z a.py) = ds.any fun z => z.eqv a
  | [], _ => rfl
  | d :: ds, h => by
    simp only [List.all_cons, Bool.and_eq_true] at h
    simp only [Da.pys, List.any_cons, eqv_py 50 d a h.1 ha, any_py ha h.2]
theorem ok_mono : ∀ {n m : Nat} {d : Da}, n ≤ m → d.ok n = true → d.ok m = true
  | n, m, .non, _, _ => by cases m <;> simp [Da.ok]
  | n, m, .bl _, _, _ => by cases m <;> simp [Da.ok]
  | n, m, .int _, _, _ => by cases m <;> simp [Da.ok]
  | n, m, .str s, _, h => by
    have h' : PyData.strOk s = true := by cases n <;> simpa [Da.ok] using h
    cases m <;> simpa [Da.ok] using h'
  | 0, m, .tup _, _, h => by simp [Da.ok] at h
  | 0, m, .lst _, _, h => by simp [Da.ok] at h
  | n + 1, 0, .tup _, z, h => by omega
  | n + 1, 0, .lst _, z, h => by omega
  | n + 1, m + 1, .tup ds, z, h => by
    simp only [Da.ok, List.all_eq_true] at h ⊢
    exact fun x hx => ok_mono (by omega) (h x hx)
  | n + 1, m + 1, .lst ds, z, h => by
    simp only [Da.ok, List.all_eq_true] at h ⊢
    exact fun x hx => ok_mono (by omega) (h x hx)
  | n, m, .obj _ _ _, _, h => by cases n <;> simp [Da.ok] at h
  | n, m, .scr _, _, h => by cases n <;> simp [Da.ok] at h
  | n, m, .dct _ _, _, h => by cases n <;> simp [Da.ok] at h
theorem f_in {K : PySem.W.Frag} {neg : Bool} : Op2 K (rInA K neg) (dIn neg) := by
  intro L H dx dy d a b Q ra rb e q
  have fin : ∀ {k : Bool}, (if neg = true then !k else k) = xor neg k := fun {k} => by cases neg <;> cases k <;> rfl
  unfold dIn at e
  split at e
  · split at e
    · rename_i h
      cases e
      obtain ⟨p, xs, e1, hq, _, rs⟩ := rep_tup.mp rb
      obtain ⟨h1, h2⟩ := inV_flat ra h.1 rs h.2
      exact .inl ⟨p, xs, e1, .inr hq, flat_v ra h.1, h1, by rw [h2, fin]; exact q _ H same_ok (rep_bl'.mpr rfl)⟩
    · cases e
  · rename_i ds
    split at e
    · rename_i h
      cases e
      obtain ⟨p, xs, e1, hq, _, rs⟩ := rep_lst.mp rb
      obtain ⟨h1, h2⟩ := inV_flat ra h.1 rs h.2
      exact .inl ⟨p, xs, e1, .inl (.of hq.1), flat_v ra h.1, h1, by rw [h2, fin]; exact q _ H same_ok (rep_bl'.mpr rfl)⟩
    · split at e
      · rename_i h
        cases e
        have okb : (Da.lst ds).ok 51 = true := by simpa only [Da.ok] using h.2
        have db := rep_dp 51 _ _ okb rb
        have sb := ok_shaped (ok_mono (by omega) okb : (Da.lst ds).ok 60 = true)
        refine .inr ?_
        cases neg with
        | false => exact ⟨_, _, rep_dp 50 _ _ h.1 ra, db, ok_shaped (ok_mono (by omega) h.1), sb, by rw [any_py h.1 h.2]; simpa using q _ H same_ok (rep_bl'.mpr rfl)⟩
        | true => exact ⟨_, _, rep_dp 50 _ _ h.1 ra, db, ok_shaped (ok_mono (by omega) h.1), sb, by rw [any_py h.1 h.2]; simpa using q _ H same_ok (rep_bl'.mpr rfl)⟩
      · cases e
  · cases e
end Pu
end

section
namespace Pu
open PySem PySem.Spec PyProof.Rows L2

/-! ### places and slices -/
def dIdx (a b : Da) : Option Da := match b with
  | .int i => match a with
    | .tup ds => atI ds i
    | .lst ds => atI ds i
    | .str z => if z.length ≤ sizeLine then (atI z.cps.toList i).map fun c => .str ⟨#[c]⟩ else none
    | _ => none
  | _ => none
section
variable {K : PySem.W.Frag} {L : Addr → Prop} {H : Hp}
theorem atI_rep {ds : List Da} {xs : List V} {i : Int} {d : Da} (r : Reps K L H ds xs) (h : atI ds i = some d) : ∃ x, atI xs i = some x ∧ Rep K L H d x := by
  unfold atI at h ⊢
  rw [r.length]
  cases e : ixN ds.length i with
  | none => rw [e] at h; cases h
  | some j =>
    rw [e] at h
    exact r.getD h
theorem f_idx : Op2 K (rIx K) dIdx := by
  intro L H dx dy d a b Q ra rb e q
  unfold dIdx at e
  split at e
  · split at e
    · obtain ⟨p, xs, e1, hq, _, rs⟩ := rep_tup.mp ra
      obtain ⟨y, h1, h2⟩ := atI_rep rs e
      exact .inr (.inl ⟨p, xs, _, y, e1, rep_int.mp rb, hq, h1, q _ H same_ok h2.or⟩)
    · obtain ⟨p, xs, e1, hq, _, rs⟩ := rep_lst.mp ra
      obtain ⟨y, h1, h2⟩ := atI_rep rs e
      exact .inl ⟨p, xs, _, y, e1, rep_int.mp rb, .of hq.1, h1, q _ H same_ok h2.or⟩
    · split at e
      · rename_i hz
        simp only [Option.map_eq_some_iff] at e
        obtain ⟨c, h1, rfl⟩ := e
        exact .inr (.inr ⟨_, _, c, rep_str.mp ra, rep_int.mp rb, hz, h1, q _ H same_ok (rep_str.mpr rfl)⟩)
      · cases e
    · cases e
  · cases e
def cutD (ds : List Da) (lo hi : Option Int) : List Da := (ds.drop (HT.sIx ds.length 0 lo)).take (HT.sIx ds.length ds.length hi - HT.sIx ds.length 0 lo)
theorem cutD_rep {ds : List Da} {xs : List V} {lo hi : Option Int} (r : Reps K L H ds xs) : Reps K L H (cutD ds lo hi) (cutV xs lo hi) := by
  unfold cutD cutV
  rw [r.length]
  exact (r.drop _).take _
theorem cutD_len {ds : List Da} {lo hi : Option Int} : (cutD ds lo hi).length ≤ ds.length := by
  unfold cutD
  rw [List.length_take, List.length_drop]
  omega
theorem cutD_whole {ds : List Da} {lo hi : Option Int} (h : HT.sIx ds.length 0 lo = 0 ∧ HT.sIx ds.length ds.length hi = ds.length) : cutD ds lo hi = ds := by
  unfold cutD
  rw [h.1, h.2]
  simp
end
def dSl (a : Da) (lo hi : Option Int) : Option Da := match a with
  | .tup ds => some (.tup (cutD ds lo hi))
  | .lst ds => some (.lst (cutD ds lo hi))
  | .str z => if z.length ≤ sizeLine then some (.str (cutS z lo hi)) else none
  | _ => none
def rSl (K : PySem.W.Frag) : V → Option Int → Option Int → Hp → VK → Prop := fun x lo hi H Q => (rSlL K x lo hi H Q ∨ rSlA K x lo hi H Q) ∨ rSlS x lo hi H Q
theorem sl_any {X : Cx} : SlR X (rSl X.K) := (sl_list.or sl_tupA).or sl_str
section
variable {X : Cx} {G : Gc} {x : Ex → En → Prop}
def tpo (K : PySem.W.Frag) (G : Gc) (x : Ex → En → Prop) (m : W (Option Int)) : TO := fun σ H Q => ∃ ρ pe, Sd K G σ ρ pe H ∧ m.wp ρ (fun o ρ' => ∀ H', Sd K G σ ρ' pe H' → Q o H') x
def oNone : W (Option Int) := W.ret none
def oSome (m : W Da) : W (Option Int) := m.bind fun d => (W.opt (asI d)).bind fun i => W.ret (some i)
theorem _root_.L2.PO.of {e : Option Expr} {t t' : TO} (h : PO X e t) (w : ∀ σ H Q, t' σ H Q → t σ H Q) : PO X e t' := ⟨fun pins s σ H Q I q => h.run pins s σ H Q I (w σ H Q q)⟩
theorem o_none : PO X none (tpo X.K G x oNone) := po_none.of fun σ H Q ⟨ρ, pe, S, q⟩ => q H S
theorem o_some {e : Expr} {m : W Da} (h : PE X e (tp X.K G x m)) : PO X (some e) (tpo X.K G x (oSome m)) := (po_some h).of fun σ H Q ⟨ρ, pe, S, q⟩ => ⟨ρ, pe, S, m.mono (fun d ρ1 q v H1 ⟨O, S1⟩ => by
  obtain ⟨i, e, q⟩ := W.opt_wp (o := asI d) q
  have e' := of_asI e
  subst e'
  exact ⟨i, rep_int.mp S1.top, q H1 ⟨O, S1.pop⟩⟩) (fun _ _ z => z) q⟩
def eIdx (a b : W Da) : W Da := eOp2 dIdx a b
def eSl (a : W Da) (lo hi : W (Option Int)) : W Da := a.bind fun d => lo.bind fun l => hi.bind fun h => W.opt (dSl d l h)
theorem p_idx {a b : Expr} {pos : Pos} {ma mb : W Da} (ha : PE X a (tp X.K G x ma)) (hb : PE X b (tp X.K G x mb)) (hs : PlainIx b := by exact fun _ _ => rfl) : PE X (.Subscript a b pos) (tp X.K G x (eIdx ma mb)) :=
  (pe_ix ix_seq ha hb hs).of fun _ _ _ q => tp2 f_idx q
theorem p_sl {e : Expr} {lo hi : Option Expr} {p2 pos : Pos} {m : W Da} {ml mh : W (Option Int)} (he : PE X e (tp X.K G x m)) (hl : PO X lo (tpo X.K G x ml)) (hu : PO X hi (tpo X.K G x mh)) : PE X (.Subscript e (.Slice lo hi none p2) pos) (tp X.K G x (eSl m ml mh)) :=
  (pe_slice sl_any he hl hu).of fun σ H Q ⟨ρ, pe, S, q⟩ => by
    refine ⟨ρ, pe, S, m.mono (fun d ρ1 q v H1 S1 => ⟨ρ1, _, S1, ml.mono (fun l ρ2 q H2 S2 => ⟨ρ2, _, S2, mh.mono (fun h ρ3 q H3 S3 => ?_) (fun _ _ z => z) q⟩) (fun _ _ z => z) q⟩) (fun _ _ z => z) q⟩
    obtain ⟨r, er, q⟩ := W.opt_wp q
    obtain ⟨O, S3⟩ := S3
    have rd := S3.top
    unfold dSl at er
    split at er
    · rename_i ds
      cases er
      obtain ⟨a, xs, e1, hq, z, rs⟩ := rep_tup.mp rd
      have hl := rs.length
      refine .inl (.inr ⟨a, xs, e1, hq, fun w => ?_, fun _ p np => q _ _ ⟨O, S3.pop.result (keep_upd np) (rep_newT np (Nat.le_trans cutD_len z) (cutD_rep rs))⟩⟩)
      rw [hl] at w
      rw [cutD_whole w] at q
      exact q _ _ ⟨O, by rw [← e1]; exact S3⟩
    · cases er
      obtain ⟨a, xs, e1, hq, z, rs⟩ := rep_lst.mp rd
      exact .inl (.inl ⟨a, xs, e1, .of hq.1, fun p np => q _ _ ⟨O, S3.pop.result (keep_upd np) (rep_newL np (Nat.le_trans cutD_len z) (cutD_rep rs))⟩⟩)
    · split at er
      · rename_i hz
        cases er
        exact .inr ⟨_, rep_str.mp rd, hz, q _ _ ⟨O, S3.pop.pushD (rep_str.mpr rfl)⟩⟩
      · cases er
    · cases er
end

/-! ### built-in functions -/
def dLen : List Da → Option Da
  | [.tup ds] => some (.int ds.length)
  | [.lst ds] => some (.int ds.length)
  | [.str z] => if z.length ≤ sizeLine then some (.int z.length) else none
  | _ => none
def rLen (K : PySem.W.Frag) : List V → Hp → VK → Prop := fun xs H Q => (∃ p ys, xs = [.ref p] ∧ (SqL K H p ys ∨ SqT K H p ys) ∧ Q (.int ys.length) H) ∨ ∃ z, xs = [.str z] ∧ z.length ≤ sizeLine ∧ Q (.int z.length) H
theorem c_len {X : Cx} : CallR X (.builtin "len") (rLen X.K) := call_len_seq.or call_len_str
section
variable {K : PySem.W.Frag} {L : Addr → Prop} {H : Hp}
theorem reps1 {d : Da} {vs : List V} (r : Reps K L H [d] vs) : ∃ v, vs = [v] ∧ Rep K L H d v := by
  simp only [Reps] at r
  obtain ⟨v, ys, e, r, rfl⟩ := r
  exact ⟨v, e, r⟩
theorem reps2 {d e : Da} {vs : List V} (r : Reps K L H [d, e] vs) : ∃ v w, vs = [v, w] ∧ Rep K L H d v ∧ Rep K L H e w := by
  simp only [Reps] at r
  obtain ⟨v, ys, e1, r1, w, zs, e2, r2, rfl⟩ := r
  subst e2
  exact ⟨v, w, e1, r1, r2⟩
theorem f_len : OpN K (rLen K) dLen := by
  intro L H ds d vs Q r e q
  unfold dLen at e
  split at e
  · obtain ⟨v, rfl, rv⟩ := reps1 r
    cases e
    obtain ⟨p, xs, e1, hq, _, rs⟩ := rep_tup.mp rv
    subst e1
    exact .inl ⟨p, xs, rfl, .inr hq, by rw [rs.length]; exact q _ H same_ok (rep_int.mpr rfl)⟩
  · obtain ⟨v, rfl, rv⟩ := reps1 r
    cases e
    obtain ⟨p, xs, e1, hq, _, rs⟩ := rep_lst.mp rv
    subst e1
    exact .inl ⟨p, xs, rfl, .inl (.of hq.1), by rw [rs.length]; exact q _ H same_ok (rep_int.mpr rfl)⟩
  · obtain ⟨v, rfl, rv⟩ := reps1 r
    split at e
    · rename_i hz
      cases e
      exact .inr ⟨_, by rw [rep_str.mp rv], hz, q _ H same_ok (rep_int.mpr rfl)⟩
    · cases e
  · cases e
def iabs (i : Int) : Int := if i < 0 then -i else i
def dAbs : List Da → Option Da
  | [.int i] => some (.int (iabs i))
  | _ => none
theorem f_abs : OpN K (fun xs H Q => ∃ i, xs = [.int i] ∧ Q (.int (if i < 0 then -i else i)) H) dAbs := by
  intro L H ds d vs Q r e q
  unfold dAbs at e
  split at e
  · obtain ⟨v, rfl, rv⟩ := reps1 r
    cases e
    exact ⟨_, by rw [rep_int.mp rv], q _ H same_ok (rep_int.mpr rfl)⟩
  · cases e
def dInt : List Da → Option Da
  | [.int i] => some (.int i)
  | [.bl b] => some (.int (if b then 1 else 0))
  | _ => none
theorem f_int : OpN K (fun xs H Q => (∃ i, xs = [.int i] ∧ Q (.int i) H) ∨ ∃ k, xs = [.bl k] ∧ Q (.int (if k then 1 else 0)) H) dInt := by
  intro L H ds d vs Q r e q
  unfold dInt at e
  split at e
  · obtain ⟨v, rfl, rv⟩ := reps1 r
    cases e
    exact .inl ⟨_, by rw [rep_int.mp rv], q _ H same_ok (rep_int.mpr rfl)⟩
  · obtain ⟨v, rfl, rv⟩ := reps1 r
    cases e
    exact .inr ⟨_, by rw [rep_bl'.mp rv], q _ H same_ok (rep_int.mpr rfl)⟩
  · cases e
def dTuple : List Da → Option Da
  | [.tup ds] => some (.tup ds)
  | [.lst ds] => some (.tup ds)
  | _ => none
theorem f_tuple : OpN K (fun xs H Q => ∃ p ys, xs = [.ref p] ∧ ((SqL K H p ys ∧ ∀ l, H l = none → Q (.ref l) (upd H l (.tup ys))) ∨ (SqT K H p ys ∧ Q (.ref p) H))) dTuple := by
  intro L H ds d vs Q r e q
  unfold dTuple at e
  split at e
  · obtain ⟨v, rfl, rv⟩ := reps1 r
    cases e
    obtain ⟨p, xs, e1, hq, _, rs⟩ := rep_tup.mp rv
    subst e1
    exact ⟨p, xs, rfl, .inr ⟨hq, q _ H same_ok rv.or⟩⟩
  · obtain ⟨v, rfl, rv⟩ := reps1 r
    cases e
    obtain ⟨p, xs, e1, hq, z, rs⟩ := rep_lst.mp rv
    subst e1
    exact ⟨p, xs, rfl, .inl ⟨.of hq.1, fun l nl => q _ _ (keep_upd nl) (rep_newT nl z rs)⟩⟩
  · cases e
/-- a list's items, if all are boolL, intL -/
def boolL : List Da → Option (List Bool)
  | [] => some []
  | .bl b :: r => (boolL r).map (b :: ·)
  | _ => none
def intL : List Da → Option (List Int)
  | [] => some []
  | .int i :: r => (intL r).map (i :: ·)
  | _ => none
theorem boolL_rep : ∀ {ds : List Da} {bs : List Bool} {vs : List V}, boolL ds = some bs → Reps K L H ds vs → vs = bs.map V.bl
  | [], bs, vs, h, r => by
    cases h
    simp only [Reps] at r
    subst r
    rfl
  | .bl b :: ds, bs, vs, h, r => by
    simp only [boolL, Option.map_eq_some_iff] at h
    obtain ⟨bs', h, rfl⟩ := h
    simp only [Reps] at r
    obtain ⟨v, ys, rfl, r1, r2⟩ := r
    rw [rep_bl'.mp r1, boolL_rep h r2]
    rfl
theorem intL_rep : ∀ {ds : List Da} {ns : List Int} {vs : List V}, intL ds = some ns → Reps K L H ds vs → vs = ns.map V.int
  | [], ns, vs, h, r => by
    cases h
    simp only [Reps] at r
    subst r
    rfl
  | .int b :: ds, ns, vs, h, r => by
    simp only [intL, Option.map_eq_some_iff] at h
    obtain ⟨ns', h, rfl⟩ := h
    simp only [Reps] at r
    obtain ⟨v, ys, rfl, r1, r2⟩ := r
    rw [rep_int.mp r1, intL_rep h r2]
    rfl
@[simp] theorem boolL_map (bs : List Bool) : boolL (bs.map Da.bl) = some bs := by
  induction bs with
  | nil => rfl
  | cons b bs ih => simp [boolL, ih]
@[simp] theorem intL_map (ns : List Int) : intL (ns.map Da.int) = some ns := by
  induction ns with
  | nil => rfl
  | cons b bs ih => simp [intL, ih]
def dAll : List Da → Option Da
  | [.lst ds] => (boolL ds).map fun bs => .bl (bs.all id)
  | _ => none
def dAny : List Da → Option Da
  | [.lst ds] => (boolL ds).map fun bs => .bl (bs.any id)
  | _ => none
def dSum : List Da → Option Da
  | [.lst ds] => (intL ds).map fun ns => .int ns.sum
  | _ => none
theorem f_all : OpN K (rAll K) dAll := by
  intro L H ds d vs Q r e q
  unfold dAll at e
  split at e
  · obtain ⟨v, rfl, rv⟩ := reps1 r
    simp only [Option.map_eq_some_iff] at e
    obtain ⟨bs, hb, rfl⟩ := e
    obtain ⟨p, xs, e1, hq, z, rs⟩ := rep_lst.mp rv
    subst e1
    rw [boolL_rep hb rs] at hq
    exact ⟨p, bs, rfl, .of hq.1, q _ H same_ok (rep_bl'.mpr rfl)⟩
  · cases e
theorem f_any : OpN K (rAny K) dAny := by
  intro L H ds d vs Q r e q
  unfold dAny at e
  split at e
  · obtain ⟨v, rfl, rv⟩ := reps1 r
    simp only [Option.map_eq_some_iff] at e
    obtain ⟨bs, hb, rfl⟩ := e
    obtain ⟨p, xs, e1, hq, z, rs⟩ := rep_lst.mp rv
    subst e1
    rw [boolL_rep hb rs] at hq
    exact ⟨p, bs, rfl, .of hq.1, q _ H same_ok (rep_bl'.mpr rfl)⟩
  · cases e
theorem f_sum : OpN K (rSum K) dSum := by
  intro L H ds d vs Q r e q
  unfold dSum at e
  split at e
  · obtain ⟨v, rfl, rv⟩ := reps1 r
    simp only [Option.map_eq_some_iff] at e
    obtain ⟨bs, hb, rfl⟩ := e
    obtain ⟨p, xs, e1, hq, z, rs⟩ := rep_lst.mp rv
    subst e1
    rw [intL_rep hb rs] at hq
    exact ⟨p, bs, rfl, .of hq.1, q _ H same_ok (rep_int.mpr rfl)⟩
  · cases e
end

section
variable {X : Cx} {G : Gc} {x : Ex → En → Prop}
/-- list(e): a list of our own -/
def asSeq : Da → Option (List Da)
  | .tup ds => some ds
  | .lst ds => some ds
  | .scr ns => some (ns.map Da.int)
  | _ => none
def eList (m : W Da) : W (List Da) := m.bind fun d => W.opt (asSeq d)
theorem intL_reps {K : PySem.W.Frag} {L : Addr → Prop} {H : Hp} : ∀ ns : List Int, Reps K L H (ns.map Da.int) (ns.map V.int)
  | [] => rfl
  | n :: ns => by
    simp only [List.map_cons, Reps]
    exact ⟨_, _, rfl, rep_int.mpr rfl, intL_reps ns⟩
/-- isinstance(e, T) -/
def tyD : Da → Option String
  | .non => some "NoneType"
  | .bl _ => some "bool"
  | .int _ => some "int"
  | .str _ => some "str"
  | .tup _ => some "tuple"
  | .lst _ => some "list"
  | _ => none
def isiS (t c : String) : Bool := t == c || (t == "bool" && c == "int")
theorem isi_ok {t c : String} (ht : t ∈ ["NoneType", "bool", "int", "str", "tuple", "list"]) (hc : c ∈ ["bool", "int", "str", "tuple", "list"]) : kitB t c = some (isiS t c) := by
  simp only [List.mem_cons, List.not_mem_nil, or_false] at ht hc
  rcases ht with rfl | rfl | rfl | rfl | rfl | rfl <;> rcases hc with rfl | rfl | rfl | rfl | rfl <;> decide +kernel
theorem tyD_mem {d : Da} {t : String} (h : tyD d = some t) : t ∈ ["NoneType", "bool", "int", "str", "tuple", "list"] := by
  cases d <;> simp [tyD] at h <;> subst h <;> simp
theorem tyD_ty {K : PySem.W.Frag} {L : Addr → Prop} {H : Hp} {d : Da} {v : V} {t : String} (r : Rep K L H d v) (h : tyD d = some t) : TyX K H v (.type t) := by
  cases d <;> simp [tyD] at h <;> subst h
  · rw [rep_non.mp r]; exact .base .non
  · rw [rep_bl'.mp r]; exact .base (.bl _)
  · rw [rep_int.mp r]; exact .base (.int _)
  · rw [rep_str.mp r]; exact .base (.str _)
  · obtain ⟨a, xs, e, q, _⟩ := rep_tup.mp r
    subst e
    rcases q with (q | ⟨o, q⟩) | ⟨o, its, n, q, c, _⟩
    · exact .base (.tup q)
    · exact .fTuple q
    · exact .kTuple q c
  · obtain ⟨a, xs, e, q, _⟩ := rep_lst.mp r
    subst e
    exact .base (.lst q.1)
def eIsi (c : String) (m : W Da) : W Da := m.bind fun d => (W.opt (tyD d)).bind fun t => W.ret (.bl (isiS t c))
theorem p_isi {e : Expr} {p p2 pos : Pos} {m : W Da} {c : String} {cn : Str} (hg : Gl X "isinstance") (hm : X.mg "isinstance" = none) (hv : bootBuiltins "isinstance" = some (.builtin "isinstance")) (he : PE X e (tp X.K G x m))
    (hc : PE X (.Name cn p2) (tC (.ty c))) (hmem : c ∈ ["bool", "int", "str", "tuple", "list"]) (hs0 : starEach [e, .Name cn p2] X.env = (false, eval e X.env) :: starEach [.Name cn p2] X.env := by rfl)
    (hs : starEach [.Name cn p2] X.env = (false, eval (.Name cn p2) X.env) :: starEach [] X.env := by rfl) (hpl : (backTo pos (starEach [.Name cn p2] X.env)).any (·.1) = false := by rfl) :
    PE X (.Call (.Name "isinstance" p) [e, .Name cn p2] [] pos) (tp X.K G x (eIsi c m)) :=
  (pe_callB call_isi hg hm hv (pa_cons he (pa_cons hc pa_nil hs) hs0) (by decide) (by decide) hs0 hpl).of fun σ H Q ⟨ρ, pe, S, q⟩ => ⟨ρ, pe, S, m.mono (fun d ρ1 q v H1 ⟨O, S1⟩ => by
    obtain ⟨t, e, q⟩ := W.opt_wp (o := tyD d) q
    exact ⟨v, .ty c, .type t, .type c, isiS t c, rfl, .ty c, tyD_ty S1.top e, kit_ty (isi_ok (tyD_mem e) hmem), q _ H1 ⟨O, S1.pop.pushD (rep_bl'.mpr rfl)⟩⟩) (fun _ _ z => z) q⟩

/-! ### our own lists are changed -/
def sAppend (i : Nat) (m : W Da) : Sx := ⟨fun ρ E => ∃ ds0, lookOwn ρ i = some ds0 ∧ m.wp ρ (fun d ρ' => ∃ ds, lookOwn ρ' i = some ds ∧ ds.length < 16777216 ∧ E.nx (ρ'.set i (some (.own (ds ++ [d]))))) E.ex,
  fun l ⟨ds0, e0, h⟩ => ⟨ds0, e0, m.mono (fun d ρ' ⟨ds, e, z, q⟩ => ⟨ds, e, z, l.nx _ q⟩) l.ex h⟩⟩
def asL : Da → Option (List Da)
  | .lst ds => some ds
  | _ => none
theorem of_asL {d : Da} {ds : List Da} (h : asL d = some ds) : d = .lst ds := by
  cases d <;> simp [asL] at h
  subst h
  rfl
@[simp] theorem asL_lst (ds : List Da) : asL (.lst ds) = some ds := rfl
def sExtend (i : Nat) (m : W Da) : Sx := ⟨fun ρ E => ∃ ds0, lookOwn ρ i = some ds0 ∧ m.wp ρ (fun d ρ' => ∃ ds es, lookOwn ρ' i = some ds ∧ asL d = some es ∧ ds.length + es.length ≤ 16777216 ∧ E.nx (ρ'.set i (some (.own (ds ++ es))))) E.ex,
  fun l ⟨ds0, e0, h⟩ => ⟨ds0, e0, m.mono (fun d ρ' ⟨ds, es, e, e2, z, q⟩ => ⟨ds, es, e, e2, z, l.nx _ q⟩) l.ex h⟩⟩
theorem s_append {o e : Expr} {i : Nat} {apos cpos pos : Pos} {m : W Da} (ho : PE X o (tVar i)) (he : PE X e (tp X.K G x m)) (hbase : attributeBase o "append" X.env (eval o X.env) = eval o X.env := by rfl)
    (hfew : ((backTo cpos (starEach [e] X.env)).all (fun x => !x.1) && (backToKw cpos (keywordEach [] X.env)).all (fun x => x.1.isSome) && decide ([e].length + ([] : List Keyword).length + (if ([] : List Keyword).isEmpty then 0 else 1) < 30)) = true := by rfl)
    (hline : (apos.endLine == cpos.line) = true := by rfl) (hs : starEach [e] X.env = (false, eval e X.env) :: starEach [] X.env := by rfl) (hsw : swapsWith (.Call (.Attribute o "append" apos) [e] [] cpos) none pos.line X.env = pure false := by rfl) :
    PS X (.Expr (.Call (.Attribute o "append" apos) [e] [] cpos) pos) (ts X.K G x (sAppend i m)) :=
  (ps_expr (pe_bm PySem.F.plainAttrs_list PySem.F.slot_list_append PySem.F.type_list_append mt_append ho (pa_cons he pa_nil hs) hbase hfew hline hs) hsw).of fun D σ H ⟨ρ, pe, ⟨O, S⟩, ds0, e0, q⟩ => by
    obtain ⟨v, hv, p, xs, ev, op, hp, _⟩ := S.slots i _ (of_lookOwn e0)
    subst ev
    refine ⟨_, hv, .inl ⟨rfl, xs, .of hp⟩, ρ, pe, ⟨O, S⟩, m.mono (fun d ρ1 ⟨ds, e1, hz, q⟩ w H1 ⟨O1, S1⟩ => ?_) (fun _ _ z => z) q⟩
    obtain ⟨v', hv', p', xs', ev', op', hp', _, rs, _⟩ := S1.slots i _ (of_lookOwn e1)
    rw [hv] at hv'
    cases hv'
    cases ev'
    have hl := rs.length
    exact ⟨p, xs', w, rfl, rfl, hp', by rw [line_eq]; omega, q σ _ ⟨O1, S1.pop.change (xs := xs') (of_lookOwn e1) hv op' (by rw [line_eq]; simp; omega) (rs.snoc S1.top)⟩⟩
theorem s_extend {o e : Expr} {i : Nat} {apos cpos pos : Pos} {m : W Da} (ho : PE X o (tVar i)) (he : PE X e (tp X.K G x m)) (hbase : attributeBase o "extend" X.env (eval o X.env) = eval o X.env := by rfl)
    (hfew : ((backTo cpos (starEach [e] X.env)).all (fun x => !x.1) && (backToKw cpos (keywordEach [] X.env)).all (fun x => x.1.isSome) && decide ([e].length + ([] : List Keyword).length + (if ([] : List Keyword).isEmpty then 0 else 1) < 30)) = true := by rfl)
    (hline : (apos.endLine == cpos.line) = true := by rfl) (hs : starEach [e] X.env = (false, eval e X.env) :: starEach [] X.env := by rfl) (hsw : swapsWith (.Call (.Attribute o "extend" apos) [e] [] cpos) none pos.line X.env = pure false := by rfl) :
    PS X (.Expr (.Call (.Attribute o "extend" apos) [e] [] cpos) pos) (ts X.K G x (sExtend i m)) :=
  (ps_expr (pe_bm PySem.F.plainAttrs_list PySem.F.slot_list_extend PySem.F.type_list_extend mt_extend ho (pa_cons he pa_nil hs) hbase hfew hline hs) hsw).of fun D σ H ⟨ρ, pe, ⟨O, S⟩, ds0, e0, q⟩ => by
    obtain ⟨v, hv, p, xs, ev, op, hp, _⟩ := S.slots i _ (of_lookOwn e0)
    subst ev
    refine ⟨_, hv, .inl ⟨rfl, xs, .of hp⟩, ρ, pe, ⟨O, S⟩, m.mono (fun d ρ1 ⟨ds, es, e1, e2, hz, q⟩ w H1 ⟨O1, S1⟩ => ?_) (fun _ _ z => z) q⟩
    have ed := of_asL e2
    subst ed
    obtain ⟨v', hv', p', xs', ev', op', hp', _, rs, _⟩ := S1.slots i _ (of_lookOwn e1)
    rw [hv] at hv'
    cases hv'
    cases ev'
    obtain ⟨b, ys, e3, hb, _, rs2⟩ := rep_lst.mp S1.top
    subst e3
    have hl := rs.length
    have hl2 := rs2.length
    exact ⟨p, b, xs', ys, rfl, rfl, hp', hb.1, by rw [line_eq]; omega, q σ _ ⟨O1, S1.pop.change (xs := xs') (of_lookOwn e1) hv op' (by rw [line_eq]; simp; omega) (rs.app rs2)⟩⟩
end
end Pu
end

section
set_option maxHeartbeats 2000000
/-! Us1: sets whose members are tuples of flat items (numbers, truth values, texts, None), by leafKind. -/
namespace Us
open PySem PySem.Spec PyProof.Rows L2

abbrev Ky := List Int
abbrev lf (k : Ky) : List Leaf := k.map Leaf.num
abbrev IsU (P : Program) (w : World) (h : Heap) (k : Ky) (a : Addr) : Prop := IsTupleKey (leafKind P w) h (lf k) a
abbrev hU (P : Program) (w : World) (k : Ky) : Int := tupleKeyHash (leafKind P w) (lf k)
theorem lf_iff {j k : Ky} : lf j = lf k ↔ j = k := by
  refine ⟨fun e => ?_, fun e => by rw [e]⟩
  induction j generalizing k with
  | nil => cases k with
    | nil => rfl
    | cons y k => cases e
  | cons x j ih => cases k with
    | nil => cases e
    | cons y k =>
      simp only [lf, List.map_cons, List.cons.injEq, Leaf.num.injEq] at e
      rw [e.1, ih e.2]
abbrev Mem := List (Addr × Ky)

section small
variable {P : Program} {w : World} {A : Around} {E : Value → Shared → Prop} {s : Shared}

theorem leaf_flat {k : Int} {v : Value} (e : Leaf.isOf (.num k) v = true) : (∀ n, ofAClassStatement n v = pure false) ∧ ∀ n, hashByValue n v = pure true := by
  have q := Leaf.nested (h := default) e
  cases q with
  | int _ t => exact ⟨fun n => by cases n <;> rfl, fun n => by cases n <;> rfl⟩
  | bool => exact ⟨fun n => by cases n <;> rfl, fun n => by cases n <;> rfl⟩
theorem items_flat : ∀ {k : Ky} {vs : List Value} (h : ItemsAre (leafKind P w) (lf k) vs), ∀ v ∈ vs, (∀ n, ofAClassStatement n v = pure false) ∧ ∀ n, hashByValue n v = pure true
  | [], _, h, v, hv => by cases h; cases hv
  | k :: ks, _, h, v, hv => by
    cases h with
    | cons h1 h2 =>
      cases hv with
      | head => exact leaf_flat h1
      | tail _ hv => exact items_flat h2 v hv

theorem noClass {k : Ky} {b : Addr} {Q : Bool → Shared → Prop} (x : IsU P w s.heap k b) (q : Q false s) : wpAny (model P w) A (ofAClassStatement 8 (.ref b)) Q E s := by
  have ty := x.typeIs
  obtain ⟨ob, its, n, g1, _, g2, g3⟩ := x
  have flat := items_flat g3
  unfold ofAClassStatement
  refine wpAny_bind (wpAny_typeOf ty ?_)
  dsimp only
  simp only [show (("tuple" : String) == "tuple") = true by decide, if_true, Bool.not_true, Bool.false_eq_true, if_false]
  try refine wpAny_bind (wpAny_pure ?_)
  try simp only [Bool.not_true, Bool.false_eq_true, if_false]
  show wpAny _ _ (seqItems? (.ref b) >>= _) _ _ s
  refine wpAny_bind (wpAny_seqItems g1 g2 ?_)
  dsimp only
  refine wpAny_bind ?_
  show wpAny _ _ (forIn its _ _) _ _ s
  rw [← Array.forIn_toList]
  refine wpAny_forIn_list _ (fun todo r s' => r.1 = none ∧ s' = s ∧ ∀ v ∈ todo, (∀ n, ofAClassStatement n v = pure false)) _ ?_ ?_ _ _ ⟨rfl, rfl, fun v hv => (flat v hv).1⟩
  · rintro v todo r s' ⟨e1, rfl, al⟩
    rw [al v List.mem_cons_self]
    refine wpAny_bind (wpAny_pure ?_)
    simp only [Bool.false_eq_true, if_false]
    exact wpAny_pure ⟨rfl, rfl, fun u z => al u (List.mem_cons_of_mem _ z)⟩
  · rintro ⟨r1, r2⟩ s' ⟨e1, rfl, _⟩
    simp only at e1
    subst e1
    exact wpAny_pure q
theorem byVal {k : Ky} {b : Addr} {Q : Bool → Shared → Prop} (x : IsU P w s.heap k b) (q : Q true s) : wpAny (model P w) A (hashByValue 8 (.ref b)) Q E s := by
  have ty := x.typeIs
  obtain ⟨ob, its, n, g1, _, g2, g3⟩ := x
  have flat := items_flat g3
  unfold hashByValue
  refine wpAny_bind (wpAny_specialOf ty F.slot_tuple_hash.lookup ?_)
  show wpAny _ _ (seqItems? (.ref b) >>= _) _ _ s
  refine wpAny_bind (wpAny_seqItems g1 g2 ?_)
  refine wpAny_bind ?_
  show wpAny _ _ (forIn its _ _) _ _ s
  rw [← Array.forIn_toList]
  refine wpAny_forIn_list _ (fun todo r s' => r.1 = none ∧ s' = s ∧ ∀ v ∈ todo, (∀ n, hashByValue n v = pure true)) _ ?_ ?_ _ _ ⟨rfl, rfl, fun v hv => (flat v hv).2⟩
  · rintro v todo r s' ⟨e1, rfl, al⟩
    rw [al v List.mem_cons_self]
    refine wpAny_bind (wpAny_pure ?_)
    simp only [Bool.not_true, Bool.false_eq_true, if_false]
    exact wpAny_pure ⟨rfl, rfl, fun u z => al u (List.mem_cons_of_mem _ z)⟩
  · rintro ⟨r1, r2⟩ s' ⟨e1, rfl, _⟩
    simp only at e1
    subst e1
    exact wpAny_pure q
theorem unseen {k : Ky} {b : Addr} {Q : Bool → Shared → Prop} (x : IsU P w s.heap k b) {ys : List Value} (hy : ∀ y ∈ ys, ∃ j c, y = Value.ref c ∧ IsU P w s.heap j c) (q : Q false s) :
    wpAny (model P w) A (searchCouldBeSeen (.ref b) ys) Q E s := by
  unfold searchCouldBeSeen
  refine wpAny_bind ?_
  refine wpAny_forIn_list _ (fun todo r s' => r.1 = none ∧ s' = s ∧ ∀ y ∈ todo, ∃ j c, y = Value.ref c ∧ IsU P w s.heap j c) _ ?_ ?_ _ _ ⟨rfl, rfl, hy⟩
  · rintro v todo r s' ⟨e1, rfl, al⟩
    obtain ⟨j, c, rfl, hc⟩ := al v List.mem_cons_self
    have more : ∀ y ∈ todo, ∃ j c, y = Value.ref c ∧ IsU P w s'.heap j c := fun u z => al u (List.mem_cons_of_mem _ z)
    dsimp only
    by_cases cv : (b == c || (carriedByValue (.ref b) && carriedByValue (.ref c))) = true
    · exact wp_if_pos cv (wpAny_pure ⟨rfl, rfl, more⟩)
    · refine wp_if_neg cv (wpAny_bind (wpAny_eqIsQuiet_tuple x ?_))
      simp only [Bool.not_true, Bool.false_eq_true, if_false]
      refine wpAny_bind (wpAny_eqIsQuiet_tuple hc ?_)
      simp only [Bool.not_true, Bool.false_eq_true, if_false]
      refine wpAny_bind (noClass x ?_)
      simp only [Bool.false_eq_true, if_false]
      refine wpAny_bind (noClass hc ?_)
      simp only [Bool.false_eq_true, if_false]
      exact wpAny_pure ⟨rfl, rfl, more⟩
  · rintro ⟨r1, r2⟩ s' ⟨e1, rfl, _⟩
    simp only at e1
    subst e1
    exact wpAny_pure q
end small

/-! ### the set -/
def rows (P : Program) (w : World) (M : Mem) : List (Int × Value) := M.map fun p => (hU P w p.2, Value.ref p.1)
abbrev hs (P : Program) (w : World) (M : Mem) : List Int := M.map fun p => hU P w p.2
structure SetU (P : Program) (w : World) (h : Heap) (a : Addr) (M : Mem) (xs : Array (Int × Value)) (ep : Nat) (tb : SetTable) : Prop where
  ob : ∃ o, h.get? a = some o ∧ o.ExactSet ∧ o.data = .set xs ep tb
  rw' : xs.toList = rows P w M
  tab : TabOk tb (hs P w M)
  nd : (M.map (·.2)).Nodup
  isu : ∀ p ∈ M, IsU P w h p.2 p.1
  plain : tb.plain = true
  led : w.params.followText "set-order" = true ∨ tb.led = true
  room : M.length * 5 < tb.mask * 3
  few : M.length < 64

section
variable {P : Program} {w : World} {A : Around} {E : Value → Shared → Prop} {s : Shared} {a : Addr} {M : Mem} {xs : Array (Int × Value)} {ep : Nat} {tb : SetTable}
theorem rows_len (M : Mem) : (rows P w M).length = M.length := by unfold rows; rw [List.length_map]
theorem size_of {M : Mem} {xs : Array (Int × Value)} (r : xs.toList = rows P w M) : xs.size = M.length := by
  rw [← Array.length_toList, r, rows_len]
theorem row_at {M : Mem} {xs : Array (Int × Value)} (r : xs.toList = rows P w M) {i : Nat} {p : Addr × Ky} (e : M[i]? = some p) : xs[i]? = some (hU P w p.2, Value.ref p.1) := by
  rw [← Array.getElem?_toList, r]
  unfold rows
  rw [List.getElem?_map, e] <;> rfl
theorem SetU.fits (R : SetU P w s.heap a M xs ep tb) : tb.fits xs.size = true := by
  have e1 := R.tab.sz
  rw [List.length_map] at e1
  have e2 := size_of R.rw'
  have e3 := R.room
  unfold SetTable.fits SetTable.fill
  rw [R.tab.dm, Bool.and_eq_true, beq_iff_eq, decide_eq_true_eq]
  show tb.place.size = xs.size ∧ tb.place.size + 0 ≤ tb.mask
  omega
theorem SetU.kept (R : SetU P w s.heap a M xs ep tb) : ¬ tb.gaveWay = true := by
  unfold SetTable.gaveWay
  rw [mask_odd R.tab.mok]
  decide
theorem hash_at (r : xs.toList = rows P w M) {i : Nat} {p : Addr × Ky} (e : M[i]? = some p) : (xs[i]?.map (·.1)).getD 0 = hU P w p.2 := by
  rw [row_at r e] <;> rfl

/-- the state of the search at its c-th step -/
abbrev stp (tb : SetTable) (h : Int) (c : Nat) : SetTable.Probe := nth tb.mask (runAt tb.mask (SetTable.bits h % (tb.mask + 1)) (SetTable.bits h)) c
theorem stp_add (tb : SetTable) (h : Int) (c q : Nat) : nth tb.mask (stp tb h c) q = stp tb h (c + q) := (nth_add tb.mask c _ q).symm
theorem stp_clean (tb : SetTable) (h : Int) (c : Nat) : (stp tb h c).dummy = none := by
  have key : ∀ (n : Nat) (p : SetTable.Probe), p.dummy = none → (nth tb.mask p n).dummy = none := by
    intro n
    induction n with
    | zero => exact fun p e => e
    | succ n ih =>
      intro p e
      refine ih (adv tb.mask p) ?_
      unfold adv
      split <;> exact e
  exact key c _ rfl

theorem find_from (R : SetU P w s.heap a M xs ep tb) {x : Addr} {k : Ky} (hx : IsU P w s.heap k x) (hu : A.units < cLine) {K : Nat} (k1 : K < 10 * SetTable.turns tb.mask)
    (k2 : way tb.mask (hU P w k) K ∉ tb.place.toList) (k3 : ∀ c, c < K → way tb.mask (hU P w k) c ∈ tb.place.toList) {Q : SetFound → Shared → Prop}
    (qin : k ∈ M.map (·.2) → Q (.there none) s) (qout : k ∉ M.map (·.2) → Q (.free (way tb.mask (hU P w k) K) false) s) :
    ∀ (f c : Nat) (stand : Option SetTable.Probe), stand.getD (tb.probeStart (hU P w k)) = stp tb (hU P w k) c → c ≤ K → K - c < f →
      (∀ (i : Nat) p, M[i]? = some p → p.2 = k → ∃ d, c ≤ d ∧ d < K ∧ tb.place.toList[i]? = some (way tb.mask (hU P w k) d)) →
      wpAny (model P w) A (setSearchFrom a (.ref x) (hU P w k) true f stand) Q E s
  | 0, c, stand, _, _, z, _ => absurd z (Nat.not_lt_zero _)
  | f + 1, c, stand, hst, hc, hf, hre => by
    obtain ⟨ob, g1, gx, g2⟩ := R.ob
    have gf := R.fits
    rw [setSearchFrom_succ]
    refine wpAny_bind (wpAny_setState_of g1 g2 gf ?_)
    dsimp only
    refine wp_if_neg R.kept ?_
    try refine wpAny_bind (wpAny_pure ?_)
    have jj : ∀ q, (nth tb.mask (stp tb (hU P w k) c) q).j = way tb.mask (hU P w k) (c + q) := fun q => congrArg SetTable.Probe.j (stp_add tb _ c q)
    have lands : (nth tb.mask (stp tb (hU P w k) c) (K - c)).j = way tb.mask (hU P w k) K := by rw [jj, show c + (K - c) = K by omega]
    rcases go_spec tb R.tab.ris R.tab.dm (fun i => (xs[i]?.map (·.1)).getD 0) (hU P w k) (10 * SetTable.turns tb.mask) (K - c) _ (stp_clean tb _ c) (by omega)
      (fun q hq => by rw [jj]; exact k3 (c + q) (by omega)) (by rw [lands]; exact k2) with ⟨q, i, hq, hi, hh, first, pr⟩ | ⟨first, pr⟩
    · have pr' : tb.probe (fun i => (xs[i]?.map (·.1)).getD 0) (hU P w k) (stand.getD (tb.probeStart (hU P w k))) = some (.candidate (way tb.mask (hU P w k) (c + q)) i (stp tb (hU P w k) (c + (q + 1)))) := by
        rw [hst, ← jj, ← stp_add]
        exact pr
      rw [pr']
      dsimp only
      rw [jj] at hi
      have il : i < M.length := by
        have z1 : i < tb.place.toList.length := (List.getElem?_eq_some_iff.mp hi).1
        have z2 := R.tab.sz
        rw [List.length_map] at z2
        rw [Array.length_toList, z2] at z1
        exact z1
      obtain ⟨p, ep1⟩ : ∃ p, M[i]? = some p := ⟨_, List.getElem?_eq_getElem il⟩
      have pin : p ∈ M := List.mem_of_getElem? ep1
      have pis := R.isu p pin
      have onwards : wpAny (model P w) A (searchRest a (.ref x) (hU P w k) true f xs tb (way tb.mask (hU P w k) (c + q)) i (stp tb (hU P w k) (c + (q + 1)))) Q E s := by
        unfold searchRest
        rw [row_at R.rw' ep1]
        dsimp only
        refine wpAny_bind (wpAny_holding (wpAny_eqBool_tuple hu pis hx ?_))
        refine wpAny_bind (wpAny_setState_of g1 g2 gf ?_)
        dsimp only
        by_cases same : p.2 = k
        · exact wp_if_pos (by simp [lf_iff, same]) (wpAny_pure (qin (List.mem_map.mpr ⟨p, pin, same⟩)))
        · refine wp_if_neg (by simp [lf_iff, same]) ?_
          try refine wpAny_bind (wpAny_pure ?_)
          rw [sameMem]
          dsimp only
          have live : tb.slot (way tb.mask (hU P w k) (c + q)) = .live i := slot_live R.tab.ris hi
          simp only [if_true, live, row_at R.rw' ep1]
          refine wpAny_bind (wpAny_isSame_ref_self (wpAny_bind (wpAny_pure ?_)))
          simp only [if_true]
          refine wp_if_neg (by simp [lf_iff, same]) ?_
          refine find_from R hx hu k1 k2 k3 qin qout f (c + (q + 1)) _ rfl (by omega) (by omega) fun i0 p0 m0 e0 => ?_
          obtain ⟨d, d1, d2, d3⟩ := hre i0 p0 m0 e0
          refine ⟨d, ?_, d2, d3⟩
          rcases Nat.lt_trichotomy d (c + q) with z | z | z
          · exfalso
            exact first (d - c) i0 (by omega) (by rw [jj, show c + (d - c) = d by omega]; exact d3) ((hash_at R.rw' m0).trans (congrArg (hU P w) e0))
          · exfalso
            rw [z] at d3
            have l2 := slot_live R.tab.ris d3
            rw [live] at l2
            injection l2 with l2
            rw [← l2, ep1] at m0
            exact same ((congrArg Prod.snd (Option.some.inj m0)).trans e0)
          · omega
      by_cases tl : tb.led = true
      · refine wp_if_neg (by simp [tl]) ?_
        try refine wpAny_bind (wpAny_pure ?_)
        exact onwards
      · refine wp_if_pos (by simp [tl]) (wpAny_bind (unseen hx (fun y hy => ?_) ?_))
        · obtain ⟨e, e1, e2⟩ := List.mem_map.mp hy
          have e3 : e ∈ xs ∧ e.1 = hU P w k := by simpa using e1
          have e4 : e ∈ xs.toList := by simpa using e3.1
          rw [R.rw'] at e4
          obtain ⟨r, r1, r2⟩ := List.mem_map.mp e4
          exact ⟨r.2, r.1, by rw [← e2, ← r2], R.isu r r1⟩
        · refine wp_if_neg (by decide) ?_
          try refine wpAny_bind (wpAny_pure ?_)
          exact onwards
    · have pr' : tb.probe (fun i => (xs[i]?.map (·.1)).getD 0) (hU P w k) (stand.getD (tb.probeStart (hU P w k))) = some (.empty (way tb.mask (hU P w k) K) none) := by
        rw [hst, ← lands]
        exact pr
      rw [pr']
      dsimp only
      refine wpAny_pure (qout fun hm => ?_)
      obtain ⟨p0, m1, e0⟩ := List.mem_map.mp hm
      obtain ⟨i0, l0, m2⟩ := List.getElem_of_mem m1
      have m0 : M[i0]? = some p0 := by rw [List.getElem?_eq_getElem l0, m2]
      obtain ⟨d, d1, d2, d3⟩ := hre i0 p0 m0 e0
      exact first (d - c) i0 (by omega) (by rw [jj, show c + (d - c) = d by omega]; exact d3) ((hash_at R.rw' m0).trans (congrArg (hU P w) e0))

theorem find_at (R : SetU P w s.heap a M xs ep tb) {x : Addr} {k : Ky} (hx : IsU P w s.heap k x) (hu : A.units < cLine) {Q : SetFound → Shared → Prop}
    (qin : k ∈ M.map (·.2) → Q (.there none) s)
    (qout : ∀ K, k ∉ M.map (·.2) → way tb.mask (hU P w k) K ∉ tb.place.toList → (∀ c, c < K → way tb.mask (hU P w k) c ∈ tb.place.toList) → Q (.free (way tb.mask (hU P w k) K) false) s) :
    wpAny (model P w) A (setSearch a (.ref x) (hU P w k) true) Q E s := by
  have rm := R.room
  obtain ⟨K, k1, k2, k3⟩ := R.tab.first (by rw [List.length_map]; omega) (hU P w k)
  have big : K < 100000 := by
    have : 10 * SetTable.turns tb.mask ≤ 1420 := by
      unfold SetTable.turns
      rcases R.tab.mok with e | e | e <;> omega
    omega
  unfold setSearch
  refine find_from R hx hu k1 k2 k3 qin (fun z => qout K z k2 k3) 100000 0 none rfl (Nat.zero_le _) (by omega) fun i p e1 e2 => ?_
  have i1 : (hs P w M)[i]? = some (hU P w k) := by rw [List.getElem?_map, e1, ← e2] <;> rfl
  have i2 : i < tb.place.toList.length := by
    have z1 : i < M.length := (List.getElem?_eq_some_iff.mp e1).1
    have z2 := R.tab.sz
    rw [List.length_map] at z2
    rw [Array.length_toList, z2]
    exact z1
  obtain ⟨c, c1, c2⟩ := R.tab.before k2 i1 (List.getElem?_eq_getElem i2)
  exact ⟨c, Nat.zero_le _, c1, by rw [List.getElem?_eq_getElem i2, c2]⟩

/-! ### adding -/
theorem isU_same {h h' : Heap} {k : Ky} {a b : Addr} {o : Obj} {xs : Array (Int × Value)} {ep : Nat} {tb : SetTable} (x : IsU P w h k b) (g : h.get? a = some o) (gd : o.data = .set xs ep tb) (sb : Heap.SameBut a h h') : IsU P w h' k b := by
  obtain ⟨ob, its, n, e1, e2, e3, e4⟩ := x
  have ne : b ≠ a := fun z => by
    rw [z, g] at e1
    rw [← Option.some.inj e1, gd] at e3
    cases e3
  exact ⟨ob, its, n, (sb.2 b ne).trans e1, e2, e3, e4⟩
theorem isU_grow {h h' : Heap} {k : Ky} {b : Addr} (x : IsU P w h k b) (g : ∀ c o, h.get? c = some o → h'.get? c = some o) : IsU P w h' k b := by
  obtain ⟨ob, its, n, e1, r⟩ := x
  exact ⟨ob, its, n, g b ob e1, r⟩
theorem rows_ins (M : Mem) (i : Nat) (x : Addr) (k : Ky) : rows P w (M.take i ++ (x, k) :: M.drop i) = (rows P w M).take i ++ (hU P w k, Value.ref x) :: (rows P w M).drop i := by
  simp only [rows, List.map_append, List.map_cons, List.map_take, List.map_drop]

theorem filter_range {α : Type} (M : List α) : (List.range M.length).filterMap (fun i => M[i]?) = M := by
  have key : ∀ (pre M : List α), (List.range' pre.length M.length).filterMap (fun i => (pre ++ M)[i]?) = M := by
    intro pre M
    induction M generalizing pre with
    | nil => rfl
    | cons x M ih =>
      have q := ih (pre ++ [x])
      rw [List.length_append, List.length_singleton, List.append_assoc] at q
      rw [List.length_cons, List.range'_succ]
      rw [List.filterMap_cons_some (b := x) (by simp), show ([x] ++ M : List α) = x :: M from rfl] at *
      exact congrArg _ q
  have z := key [] M
  rw [List.length_nil, List.nil_append, ← List.range_eq_range'] at z
  exact z
/-- the rows in another order -/
theorem rows_order (M : Mem) (xs : Array (Int × Value)) (order : Array Nat) (r : xs.toList = rows P w M) (p : order.toList.Perm (List.range M.length)) :
    ∃ M2, (order.filterMap (xs[·]?)).toList = rows P w M2 ∧ M2.Perm M ∧ hs P w M2 = order.toList.map fun i => (xs.map (·.1)).getD i 0 := by
  have key : ∀ l : List Nat, (∀ i ∈ l, i < M.length) → l.filterMap (fun i => xs[i]?) = rows P w (l.filterMap fun i => M[i]?) ∧ hs P w (l.filterMap fun i => M[i]?) = l.map fun i => (xs.map (·.1)).getD i 0 := by
    intro l
    induction l with
    | nil => exact fun _ => ⟨rfl, rfl⟩
    | cons i l ih =>
      intro al
      obtain ⟨i1, i2⟩ := ih fun j z => al j (List.mem_cons_of_mem _ z)
      obtain ⟨p, e1⟩ : ∃ p, M[i]? = some p := ⟨_, List.getElem?_eq_getElem (al i List.mem_cons_self)⟩
      have e2 := row_at r e1
      have e3 : (xs.map (·.1)).getD i 0 = hU P w p.2 := by simp [Array.getD_eq_getD_getElem?, Array.getElem?_map, e2]
      refine ⟨?_, ?_⟩
      · rw [List.filterMap_cons_some e2, List.filterMap_cons_some e1, i1] <;> rfl
      · rw [List.filterMap_cons_some e1, List.map_cons, e3, ← i2] <;> rfl
  obtain ⟨k1, k2⟩ := key order.toList fun i z => List.mem_range.mp (p.mem_iff.mp z)
  refine ⟨_, by rw [Array.toList_filterMap]; exact k1, ?_, k2⟩
  have z := p.filterMap (fun i => M[i]?)
  rw [filter_range] at z
  exact z

theorem lay_again {o : Obj} (g1 : s.heap.get? a = some o) (gx : o.ExactSet) (g2 : o.data = .set xs ep tb) (r : xs.toList = rows P w M) (tsz : tb.place.size = xs.size) (tdm : tb.dummies = #[]) (tm : xs.size ≤ tb.mask)
    (nd : (M.map (·.2)).Nodup) (al : ∀ p ∈ M, IsU P w s.heap p.2 p.1) (pl : tb.plain = true) (ld : w.params.followText "set-order" = true ∨ tb.led = true) (few : M.length < 64) {wanted m : Nat}
    (w1 : SetTable.sizeAbove wanted - 1 = m) (mk : MaskOk m) (w2 : SetTable.sizeAbove wanted ≤ 128) (w3 : M.length * 5 < m * 3) {Q : Unit → Shared → Prop}
    (q : ∀ h' M' xs' ep' tb', Heap.SameBut a s.heap h' → SetU P w h' a M' xs' ep' tb' → M'.Perm M → Q () { s with heap := h' }) : wpAny (model P w) A (setRelay a wanted) Q E s := by
  have sz := size_of r
  have tf : tb.fits xs.size = true := by
    unfold SetTable.fits SetTable.fill
    rw [tdm, Bool.and_eq_true, beq_iff_eq, decide_eq_true_eq]
    show tb.place.size = xs.size ∧ tb.place.size + 0 ≤ tb.mask
    omega
  obtain ⟨t', order, e, op, T, em, el, ep', ed⟩ := relaid_ok tb (hs := xs.map (·.1)) (wanted := wanted) w1 mk (by rw [Array.size_map, sz]; omega)
  rw [Array.size_map, sz] at op
  obtain ⟨M2, r1, r2, r3⟩ := rows_order M xs order r op
  rw [← r3] at T
  have s2 : (order.filterMap (xs[·]?)).size = xs.size := by rw [size_of r1, r2.length_eq, sz]
  rw [setRelay_eq]
  refine wpAny_bind (wpAny_setState_of g1 g2 tf ?_)
  dsimp only
  refine wp_if_neg (by rw [sizeLine_eq]; omega) ?_
  try refine wpAny_bind (wpAny_pure ?_)
  rw [e]
  dsimp only
  refine wpAny_bind (wp_if_neg (by rw [s2]; simp) ?_)
  try refine wpAny_bind (wpAny_pure ?_)
  refine wpAny_pure ?_
  dsimp only
  refine wpAny_storeSet_of g1 g2 ?_ (by rw [s2, sz, sizeLine_eq]; omega)
  have sb : Heap.SameBut a s.heap (s.heap.update a (Obj.putSet (order.filterMap (xs[·]?)) t')) := Heap.SameBut.update ..
  refine q _ M2 (order.filterMap (xs[·]?)) (ep + 1) t' sb ⟨⟨_, store_at g1 g2, ⟨gx.1, gx.2.1, gx.2.2⟩, rfl⟩, r1, T, (r2.map (·.2)).nodup_iff.mpr nd, fun p z => isU_same (al p (r2.mem_iff.mp z)) g1 g2 sb, ep'.trans pl, by rw [el]; exact ld, ?_, by rw [r2.length_eq]; exact few⟩ r2
  rw [r2.length_eq, em]
  exact w3

theorem add_one (R : SetU P w s.heap a M xs ep tb) {x : Addr} {k : Ky} (hx : IsU P w s.heap k x) (hu : A.units < cLine) (few : M.length + 1 < 64) {Q : Bool → Shared → Prop}
    (q : ∀ b h' M' xs' ep' tb', Heap.SameBut a s.heap h' → SetU P w h' a M' xs' ep' tb' → (k ∈ M.map (·.2) → M' = M) → (k ∉ M.map (·.2) → M'.Perm ((x, k) :: M)) → Q b { s with heap := h' }) :
    wpAny (model P w) A (setAddHashed a (.ref x) (hU P w k)) Q E s := by
  obtain ⟨ob, g1, gx, g2⟩ := R.ob
  have sz := size_of R.rw'
  have rm := R.room
  have gf := R.fits
  unfold setAddHashed
  refine wpAny_holding ?_
  rw [show (100000 : Nat) = 99999 + 1 from rfl, setAddHashedIn_succ]
  refine wpAny_bind (wpAny_setState_of g1 g2 gf ?_)
  dsimp only
  refine wp_if_neg (by simp [byScan, Value.scannable]) ?_
  try refine wpAny_bind (wpAny_pure ?_)
  refine wpAny_bind (find_at R hx hu (fun hm => ?_) fun K hm k2 k3 => ?_)
  · dsimp only
    exact wpAny_pure (q false s.heap M xs ep tb (Heap.SameBut.refl a s.heap) R (fun _ => rfl) fun z => absurd hm z)
  · dsimp only
    refine wpAny_bind (wpAny_setState_of g1 g2 gf ?_)
    dsimp only
    obtain ⟨q1, q2, q3, q4, q5, q6, q7, q8, q9⟩ := R.tab.put k2 k3
    have pl : (tb.put (way tb.mask (hU P w k) K)).1.plain = true := q6.trans R.plain
    generalize hpt : tb.put (way tb.mask (hU P w k) K) = pt at q1 q3 q4 q5 q6 q7 q8 q9 pl ⊢
    obtain ⟨t1, i⟩ := pt
    dsimp only at q1 q3 q4 q5 q6 q7 q8 q9 pl ⊢
    subst q1
    first
      | (refine wpAny_bind ?_; refine wp_if_pos pl ?_; refine byVal hx ?_)
      | refine wp_if_pos pl (wpAny_bind (byVal hx ?_))
    simp only [if_true]
    have rr : (SetTable.insertAt xs (SetTable.below tb.place (way tb.mask (hU P w k) K)) (hU P w k, Value.ref x)).toList = rows P w (M.take (SetTable.below tb.place (way tb.mask (hU P w k) K)) ++ (x, k) :: M.drop (SetTable.below tb.place (way tb.mask (hU P w k) K))) := by
      rw [SetTable.toList_insertAt, rows_ins, R.rw']
    generalize SetTable.below tb.place (way tb.mask (hU P w k) K) = i at q2 q3 rr ⊢
    have pm := put_perm M i (x, k)
    have hl : (M.take i ++ (x, k) :: M.drop i).length = M.length + 1 := pm.length_eq
    rw [show (hs P w M).take i ++ hU P w k :: (hs P w M).drop i = hs P w (M.take i ++ (x, k) :: M.drop i) by simp only [hs, List.map_append, List.map_cons, List.map_take, List.map_drop]] at q3
    have nd1 : ((M.take i ++ (x, k) :: M.drop i).map (·.2)).Nodup := (pm.map (·.2)).nodup_iff.mpr (List.nodup_cons.mpr ⟨hm, R.nd⟩)
    have sz1 := (size_of rr).trans hl
    generalize SetTable.insertAt xs i (hU P w k, Value.ref x) = xs1 at rr sz1 ⊢
    generalize M.take i ++ (x, k) :: M.drop i = M1 at pm hl q3 nd1 rr
    refine wpAny_bind (wpAny_storeSet_of g1 g2 ?_ (by rw [sz1, sizeLine_eq]; omega))
    have sb : Heap.SameBut a s.heap (s.heap.update a (Obj.putSet xs1 t1)) := Heap.SameBut.update ..
    have g3 := store_at (es' := xs1) (t' := t1) g1 g2
    generalize s.heap.update a (Obj.putSet xs1 t1) = h1 at sb g3 ⊢
    have al1 : ∀ p ∈ M1, IsU P w h1 p.2 p.1 := fun p z => by
      rcases List.mem_cons.mp (pm.mem_iff.mp z) with e | z
      · rw [e]; exact isU_same hx g1 g2 sb
      · exact isU_same (R.isu p z) g1 g2 sb
    have ld1 : w.params.followText "set-order" = true ∨ t1.led = true := by rw [q5]; exact R.led
    have full_iff : t1.tooFull = decide ((M.length + 1) * 5 ≥ t1.mask * 3) := by
      unfold SetTable.tooFull
      rw [q9, List.length_map]
    by_cases tf : t1.tooFull = true
    · first
        | (refine wpAny_bind ?_; refine wp_if_pos (by simp [tf]) ?_)
        | (refine wp_if_pos (by simp [tf]) ?_; refine wpAny_bind ?_)
      have full : (M.length + 1) * 5 ≥ t1.mask * 3 := by
        rw [full_iff, decide_eq_true_eq] at tf
        exact tf
      rw [sz]
      have tsz : t1.place.size = xs1.size := by
        have z := q3.sz
        rw [List.length_map, hl] at z
        rw [z, sz1]
      rw [q4] at full
      have go : ∀ m, SetTable.sizeAbove (SetTable.grown (M.length + 1)) - 1 = m → MaskOk m → SetTable.sizeAbove (SetTable.grown (M.length + 1)) ≤ 128 → (M.length + 1) * 5 < m * 3 → M.length + 1 ≤ tb.mask →
          wpAny (model P w) A (setRelay a (SetTable.grown (M.length + 1))) (fun _ s' => wpAny (model P w) A (pure true) Q E s') E { s with heap := h1 } := fun m a1 a2 a3 a4 a5 => by
        refine lay_again (s := { s with heap := h1 }) g3 ⟨gx.1, gx.2.1, gx.2.2⟩ rfl rr tsz q3.dm (by rw [sz1, q4]; exact a5) nd1 al1 pl ld1 (by rw [hl]; exact few) a1 a2 a3 (by rw [hl]; exact a4) fun h2 M2 xs2 ep2 t2 sb2 R2 pm2 => ?_
        exact wpAny_pure (q true h2 M2 xs2 ep2 t2 (sb.trans sb2) R2 (fun z => absurd z hm) fun _ => pm2.trans pm)
      rcases R.tab.mok with e | e | e
      · rw [e] at full rm
        have e2 : M.length = 4 := by omega
        exact go 31 (by rw [e2, size_20]) (.inr (.inl rfl)) (by rw [e2, size_20]; decide) (by omega) (by omega)
      · rw [e] at full rm
        have e2 : M.length = 18 := by omega
        exact go 127 (by rw [e2, size_76]) (.inr (.inr rfl)) (by rw [e2, size_76]; decide) (by omega) (by omega)
      · exfalso
        rw [e] at full
        omega
    · first
        | refine wp_if_neg (by simp [tf]) ?_
        | (refine wpAny_bind ?_; refine wp_if_neg (by simp [tf]) ?_; refine wpAny_pure ?_)
      refine wpAny_pure (q true h1 M1 xs1 (ep + 1) t1 sb ⟨⟨_, g3, ⟨gx.1, gx.2.1, gx.2.2⟩, rfl⟩, rr, q3, nd1, al1, pl, ld1, ?_, by rw [hl]; exact few⟩ (fun z => absurd z hm) fun _ => pm)
      rw [full_iff, decide_eq_true_eq] at tf
      rw [hl]
      omega

/-- S.add(x) -/
theorem call_add (R : SetU P w s.heap a M xs ep tb) {x : Addr} {k : Ky} (hx : IsU P w s.heap k x) (hu : A.units + 4 < cLine) (few : M.length + 1 < 64) {Q : Value → Shared → Prop}
    (q : ∀ h' tk M' xs' ep' tb', Heap.SameBut a s.heap h' → SetU P w h' a M' xs' ep' tb' → (k ∈ M.map (·.2) → M' = M) → (k ∉ M.map (·.2) → M'.Perm ((x, k) :: M)) → Q .none { s with heap := h', toks := tk }) :
    wpAny (model P w) A (call (.builtin "set.add") [.ref a, .ref x]) Q E s := by
  have ty : s.TypeIs (.ref a) "set" := by
    obtain ⟨o, g1, gx, _⟩ := R.ob
    exact ⟨o, g1, gx.1⟩
  refine wpAny_call_entry F.slot_set_add ty F.entry_set_add ?_ (F.args_set_add_2 _ _)
  unfold Builtin.«set.add» Builtin.Frozenset.oneOther
  simp only [List.isEmpty_nil, bind_assoc]
  unfold Builtin.Frozenset.addrOf setAdd
  refine wpAny_bind (wpAny_pure ?_)
  try dsimp only
  refine wpAny_bind (wpAny_pure ?_)
  try dsimp only
  have hu1 : A.in1.units < cLine := by show A.units + 1 < cLine; omega
  refine wpAny_bind (wpAny_holding (wpAny_bind (wpAny_pyHash_tuple hu1 hx ?_)))
  refine add_one (s := { s with toks := s.toks + ((lf k).length + 1) }) R hx hu1 few fun b h' M' xs' ep' tb' sb R' c1 c2 => ?_
  show wpAny _ _ (ret Value.none) _ _ _
  exact wpAny_pure ⟨_, rfl, q h' _ M' xs' ep' tb' sb R' c1 c2⟩
end
end Us
end

section
set_option maxHeartbeats 2000000
/-! Us2: the same sets in the walk: adding, sorted. -/
namespace Us
open PySem PySem.Spec PyProof.Rows L2 PySem.W

theorem hU_eq (P : Program) (w : World) (k : Ky) : hU P w k = L2.thash P w k := by
  show reduceHash (Builtin.Tuple.tupleHashOf ((lf k).map (leafKind P w).hash)) = reduceHash (Builtin.Tuple.tupleHashOf (k.map (intKind P w).hash))
  rw [show (lf k).map (leafKind P w).hash = k.map (intKind P w).hash by
    rw [lf, List.map_map]
    exact List.map_congr_left fun i _ => rfl]
theorem hs_eq (P : Program) (w : World) (M : Mem) : hs P w M = M.map fun p => L2.thash P w p.2 := List.map_congr_left fun p _ => hU_eq P w p.2
theorem rows_eq (P : Program) (w : World) (M : Mem) : rows P w M = L2.rowsOf P w M := List.map_congr_left fun p _ => by rw [hU_eq]
theorem SetU.t0 {P : Program} {w : World} {h : Heap} {a : Addr} {M : Mem} {xs : Array (Int × Value)} {ep : Nat} {tb : SetTable} (R : SetU P w h a M xs ep tb) : SetT0 P w h a M :=
  ⟨xs, ep, tb, R.ob, by rw [← rows_eq]; exact R.rw', by rw [← hs_eq]; exact R.tab, R.nd, R.plain, R.led, R.room, R.few⟩
theorem full {P : Program} {w : World} {h : Heap} {a : Addr} {M : Mem} (R : SetT0 P w h a M) (al : ∀ p ∈ M, IsU P w h p.2 p.1) : ∃ xs ep tb, SetU P w h a M xs ep tb := by
  obtain ⟨xs, ep, tb, h1, h2, h3, h4, h5, h6, h7, h8⟩ := R.ex
  exact ⟨xs, ep, tb, h1, by rw [rows_eq]; exact h2, by rw [hs_eq]; exact h3, h4, al, h5, h6, h7, h8⟩

/-- a flat item's number -/
def vk : V → Option Int
  | .int n => some n
  | .bl b => some (if b = true then 1 else 0)
  | _ => none
def venc : V → PyData
  | .int n => .int n
  | .bl b => .bool b
  | _ => .none
def Flat (xs : List V) (k : Ky) : Prop := xs.map vk = k.map some
def enc (xs : List V) : PyData := .tuple (xs.map venc)
theorem vk_is {P : Program} {w : World} {x : V} {n : Int} {u : Value} (r : L2.RelV x u) (e : vk x = some n) : (leafKind P w).is (.num n) u = true := by
  cases x <;> try (exfalso; simp [vk] at e; done)
  case int m =>
    obtain ⟨t, rfl⟩ := r
    exact decide_eq_true (by simpa [vk] using e)
  case bl b =>
    cases r
    exact decide_eq_true (by simpa [vk] using e)
theorem flat_items {P : Program} {w : World} : ∀ {xs : List V} {k : Ky} {us : List Value}, Flat xs k → Vals xs us → ItemsAre (leafKind P w) (lf k) us
  | [], [], _, _, .nil => .nil
  | [], _ :: _, _, e, _ => by cases e
  | _ :: _, [], _, e, _ => by cases e
  | x :: xs, n :: k, _, e, .cons r t => by
    have e' : vk x = some n ∧ xs.map vk = k.map some := by simpa [Flat] using e
    exact .cons (vk_is r e'.1) (flat_items e'.2 t)
theorem flat_reads {h : Heap} : ∀ {xs : List V} {k : Ky} {us : List Value}, Flat xs k → Vals xs us → ReadsAll h us (xs.map venc) []
  | [], [], _, _, .nil => .nil
  | [], _ :: _, _, e, _ => by cases e
  | _ :: _, [], _, e, _ => by cases e
  | x :: xs, n :: k, _, e, .cons r t => by
    have e' : vk x = some n ∧ xs.map vk = k.map some := by simpa [Flat] using e
    have q := flat_reads (h := h) e'.2 t
    have e1 := e'.1
    cases x <;> try (exfalso; simp [vk] at e1; done)
    case int m =>
      obtain ⟨t, rfl⟩ := r
      exact ReadsAll.cons (as := []) (bs := []) (.int _ _) q
    case bl b =>
      cases r
      exact ReadsAll.cons (as := []) (bs := []) (.bool _) q

theorem perm_map {α β : Type} {f : α → β} {a b : List β} (p : a.Perm b) : ∀ M : List α, b = M.map f → ∃ M1 : List α, M1.Perm M ∧ a = M1.map f := by
  induction p with
  | nil => exact fun M e => ⟨M, .refl _, e⟩
  | cons x _ ih =>
    intro M e
    cases M with
    | nil => cases e
    | cons m M =>
      injection e with e1 e2
      obtain ⟨M1, p1, q1⟩ := ih M e2
      exact ⟨m :: M1, p1.cons m, by rw [List.map_cons, e1, q1]⟩
  | swap x y l =>
    intro M e
    cases M with
    | nil => cases e
    | cons m M => cases M with
      | nil => cases e
      | cons m' M =>
        injection e with e1 e2
        injection e2 with e2 e3
        exact ⟨m' :: m :: M, .swap m m' M, by rw [List.map_cons, List.map_cons, e1, e2, e3]⟩
  | trans _ _ ih1 ih2 =>
    intro M e
    obtain ⟨M1, p1, q1⟩ := ih2 M e
    obtain ⟨M2, p2, q2⟩ := ih1 M1 q1
    exact ⟨M2, p2.trans p1, q2⟩

section
variable {X : Cx}
theorem isU_of {pins : List (Addr × Obj)} {σ : L2.St} {H : Hp} {s : Shared} {b : Addr} {xs : List V} {k : Ky} (I : Inv X pins σ H s) (h : SqT X.K H b xs) (e : Flat xs k) : IsU X.prog X.w s.heap k b := by
  obtain ⟨its, r, ⟨o, ho, hc, n, hd⟩, _⟩ := I.tuple h
  exact ⟨o, its.toArray, n, ho, hc, hd, by simpa using flat_items e r⟩
theorem reads_of {pins : List (Addr × Obj)} {σ : L2.St} {H : Hp} {s : Shared} {b : Addr} {xs : List V} {k : Ky} (I : Inv X pins σ H s) (h : SqT X.K H b xs) (e : Flat xs k) : Reads s.heap (.ref b) (enc xs) [] := by
  obtain ⟨its, r, ⟨o, ho, hc, n, hd⟩, _⟩ := I.tuple h
  exact .tuple ho hc hd (by simpa using flat_reads e r)
/-- what the set's members are -/
def Mems (K : PySem.W.Frag) (H : Hp) (M : Mem) : Prop := ∀ p ∈ M, ∃ xs, SqT K H p.1 xs ∧ Flat xs p.2
theorem Mems.isU {pins : List (Addr × Obj)} {σ : L2.St} {H : Hp} {s : Shared} {M : Mem} (h : Mems X.K H M) (I : Inv X pins σ H s) : ∀ p ∈ M, IsU X.prog X.w s.heap p.2 p.1 := fun p hp => by
  obtain ⟨xs, h1, h2⟩ := h p hp
  exact isU_of I h1 h2

theorem addU_ok {pins : List (Addr × Obj)} {σ : L2.St} {H : Hp} {s : Shared} {E : Value → Shared → Prop} {D x : Addr} {M : Mem} {k : Ky} {xs : List V} {Q : Value → Shared → Prop} (I : Inv X pins σ H s) (hD : H D = some (SetTO X.prog X.w D M)) (hm : Mems X.K H M)
    (hx : SqT X.K H x xs) (hk : Flat xs k) (few : M.length + 1 < 64) (hu : X.A.units + 4 < cLine)
    (h : ∀ M' s', (k ∈ M.map (·.2) → M' = M) → (k ∉ M.map (·.2) → M'.Perm ((x, k) :: M)) → Inv X pins σ (upd H D (SetTO X.prog X.w D M')) s' → Q .none s') : wpAny (model X.prog X.w) X.A (call (.builtin "set.add") [.ref D, .ref x]) Q E s := by
  have R0 : SetT0 X.prog X.w s.heap D M := (I.hok D _ hD).1
  obtain ⟨xs', ep, tb, R⟩ := full R0 (hm.isU I)
  refine call_add R (isU_of I hx hk) hu few fun h' tk M' xs2 ep2 tb2 sb R2 c1 c2 => ?_
  have he : ∃ u, h'.get? D = some u := by
    obtain ⟨o, ho, _⟩ := R2.ob
    exact ⟨o, ho⟩
  exact h M' _ c1 c2 (I.write (e := D) (t' := tk) (by rw [hD]; trivial) (.inl rfl) (fun b u hb hu => (sb.2 b hb).trans hu) he (setTO_new R2.t0))

/-- sorted(set): bs the members, g their place and key, e their data -/
def rSortedU (β : Type) (K : PySem.W.Frag) (P : Program) (w : World) : List V → Hp → VK → Prop := fun vs H Q => ∃ (a : Addr) (bs : List β) (g : β → Addr × Ky) (e : β → PyData), vs = [V.ref a] ∧ H a = some (SetTO P w a (bs.map g)) ∧
  (∀ b ∈ bs, ∃ xs, SqT K H (g b).1 xs ∧ Flat xs (g b).2 ∧ e b = enc xs ∧ xs ≠ []) ∧ AllAlike (bs.map e) ∧
  ∀ (bs' : List β) (l : Addr), bs'.Perm bs → H l = none → Q (.ref l) (upd H l (.lst ((bs'.mergeSort (dataLe false e)).map fun b => V.ref (g b).1)))

theorem each_self {α β : Type} (g : β → α) : ∀ l : List β, EachIs (fun a b => a = g b) (l.map g) l
  | [] => .nil
  | x :: l => .cons rfl (each_self g l)
theorem each_eq {α β : Type} {g : β → α} : ∀ {as : List α} {l : List β}, EachIs (fun a b => a = g b) as l → as = l.map g
  | _, _, .nil => rfl
  | _, _, .cons e t => by rw [e, each_eq t, List.map_cons]
theorem each_all {α β : Type} {R R' : α → β → Prop} : ∀ {as : List α} {l : List β}, EachIs R as l → (∀ a b, b ∈ l → R a b → R' a b) → EachIs R' as l
  | _, _, .nil, _ => .nil
  | _, _, .cons e t, h => .cons (h _ _ List.mem_cons_self e) (each_all t fun a b hb r => h a b (List.mem_cons_of_mem _ hb) r)
theorem depth_enc (xs : List V) : (enc xs).depth ≤ 1 := by
  have key : ∀ xs : List V, PyData.depthAll (xs.map venc) = 0 := by
    intro xs
    induction xs with
    | nil => simp [PyData.depthAll]
    | cons x xs ih =>
      show PyData.depthAll (venc x :: xs.map venc) = 0
      rw [PyData.depthAll, ih]
      cases x <;> simp [venc, PyData.depth]
  unfold enc
  rw [PyData.depth, key xs]
  first | exact Nat.le_refl _ | decide | simp

theorem vals_refs {β : Type} (g : β → Addr × Ky) : ∀ l : List β, Vals (l.map fun b => V.ref (g b).1) (l.map fun b => Value.ref (g b).1)
  | [] => .nil
  | b :: l => .cons rfl (vals_refs g l)
theorem cr_sortedU {β : Type} (hc : X.calm = true) (hu : X.A.units + 8 < cLine) : CallR X (.builtin "sorted") (rSortedU β X.K X.prog X.w) := by
  intro pins s σ H vs us Q I r h
  obtain ⟨a, bs, g, en, rfl, ha, hm, hal, q⟩ := h
  have R0 : SetT0 X.prog X.w s.heap a (bs.map g) := (I.hok a _ ha).1
  obtain ⟨xs, ep, tb, R⟩ := full R0 (Mems.isU (fun p hp => by
    obtain ⟨b, hb, e⟩ := List.mem_map.mp hp
    obtain ⟨xs, x1, x2, _⟩ := hm b hb
    exact ⟨xs, by rw [← e]; exact x1, by rw [← e]; exact x2⟩) I)
  rw [Vals.ref1 r]
  obtain ⟨o, g1, gx, g2⟩ := R.ob
  have sz := size_of R.rw'
  have few := R.few
  rw [List.length_map] at few
  refine Calls.call_function_entry kind_sorted plain_sorted entry_sorted (args_sorted1 _) ?_
  unfold Builtin.«sorted»
  refine wpAny_bind (m := checkCount "sorted" 1 1 _) (wpAny_pure ?_)
  refine wpAny_bind (collect_set (A := X.A.in1) (I.ok.hd hc) ⟨o, g1, gx.1, g2⟩ R.fits (by unfold scanBound; rw [List.length_map] at sz; omega) R.tab.ris R.led fun s1 vs k1 hz ge os pm => ?_)
  have e1 : xs.toList.map (·.2) = bs.map fun b => Value.ref (g b).1 := by
    rw [R.rw']
    unfold rows
    rw [List.map_map, List.map_map] <;> rfl
  rw [e1] at pm
  obtain ⟨M1, pM, rfl⟩ := perm_map pm bs rfl
  have l1 : (M1.map fun b => Value.ref (g b).1).length < 64 := by rw [List.length_map, pM.length_eq]; exact few
  refine wpAny_bind (wpAny_newList ?_ (by rw [sizeLine_eq]; omega))
  have oL : (s1.heap.push (seqObj "list" (M1.map fun b => Value.ref (g b).1).toArray 0)).get? s1.heap.objs.size = some (seqObj "list" (M1.map fun b => Value.ref (g b).1).toArray 0) := Heap.get?_push_size _ rfl
  have rd : EachIs (fun v (p : β) => ∃ as, Reads (s1.heap.push (seqObj "list" (M1.map fun b => Value.ref (g b).1).toArray 0)) v (en p) as ∧ s1.heap.objs.size ∉ as) (M1.map fun b => Value.ref (g b).1) M1 :=
    each_all (each_self (fun p : β => Value.ref (g p).1) M1) fun v p hp e => by
      have hp' := pM.mem_iff.mp hp
      obtain ⟨ys, y1, y2, y3, _⟩ := hm p hp'
      refine ⟨[], ?_, fun z => nomatch z⟩
      rw [e, y3]
      exact PyProof.Rows.Reads.keeps (fun b o z => Heap.get?_push_of_some _ (k1 b o z)) (reads_of I y1 y2)
  have al1 : AllAlike (M1.map en) := fun d hd d' hd' => hal d ((pM.map en).mem_iff.mp hd) d' ((pM.map en).mem_iff.mp hd')
  have so : Sortable (M1.map en) := .inl fun d hd => by
    obtain ⟨p, hp, e⟩ := List.mem_map.mp hd
    obtain ⟨ys, _, _, y3, y4⟩ := hm p (pM.mem_iff.mp hp)
    cases ys with
    | nil => exact absurd rfl y4
    | cons x r => exact ⟨venc x, r.map venc, by rw [← e, y3] <;> rfl⟩
  refine wpAny_bind (wpAny_holding (list_sort_data (s := { s1 with heap := s1.heap.push (seqObj "list" (M1.map fun b => Value.ref (g b).1).toArray 0) }) (R := fun v (p : β) => v = Value.ref (g p).1) oL (each_self _ M1) rd al1 so (by rw [sizeLine_eq, pM.length_eq]; omega) (fun p hp => ?_) fun out ol eo => ?_))
  · obtain ⟨ys, _, _, y3, _⟩ := hm p (pM.mem_iff.mp hp)
    have z := depth_enc ys
    rw [← y3] at z
    show X.A.units + 1 + 1 + _ < _
    omega
  · rw [each_eq eo]
    obtain ⟨c, hcg⟩ := sortedHeap_at (vs := M1.map fun b => Value.ref (g b).1) (out := ((M1.mergeSort (dataLe false en)).map fun b => Value.ref (g b).1).toArray) oL
    have hn : H s1.heap.objs.size = none := I.hok.fresh hz
    have k2 : ∀ b u, s.heap.get? b = some u → (sortedHeap (s1.heap.push (seqObj "list" (M1.map fun b => Value.ref (g b).1).toArray 0)) s1.heap.objs.size (M1.map fun b => Value.ref (g b).1) ((M1.mergeSort (dataLe false en)).map fun b => Value.ref (g b).1).toArray).get? b = some u := fun b u e => by
      have e2 := k1 b u e
      have lt := Heap.lt_size e2
      rw [sortedHeap_old (Nat.ne_of_lt lt) (by rw [size_push']; exact Nat.lt_succ_of_lt lt)]
      exact Heap.get?_push_of_some _ e2
    have ml : (M1.mergeSort (dataLe false en)).length = bs.length := by rw [List.length_mergeSort, pM.length_eq]
    have J : Inv X pins σ (upd H s1.heap.objs.size (.lst ((M1.mergeSort (dataLe false en)).map fun b => V.ref (g b).1))) { s with heap := sortedHeap (s1.heap.push (seqObj "list" (M1.map fun b => Value.ref (g b).1).toArray 0)) s1.heap.objs.size (M1.map fun b => Value.ref (g b).1) ((M1.mergeSort (dataLe false en)).map fun b => Value.ref (g b).1).toArray, gens := s1.gens, drawn := s1.drawn, toks := s1.toks } :=
      I.call (ch := []) (Un.laid k2 hz hn) (I.hok.laid k2 hz ⟨by rw [List.length_map, ml, sizeLine_eq]; omega, (M1.mergeSort (dataLe false en)).map fun b => Value.ref (g b).1, c, by simpa using vals_refs g _, hcg⟩) (by rw [ge]; exact I.bare) (fun _ z => nomatch z)
    have e : ({ s1 with heap := sortedHeap (s1.heap.push (seqObj "list" (M1.map fun b => Value.ref (g b).1).toArray 0)) s1.heap.objs.size (M1.map fun b => Value.ref (g b).1) ((M1.mergeSort (dataLe false en)).map fun b => Value.ref (g b).1).toArray } : Shared) = { s with heap := sortedHeap (s1.heap.push (seqObj "list" (M1.map fun b => Value.ref (g b).1).toArray 0)) s1.heap.objs.size (M1.map fun b => Value.ref (g b).1) ((M1.mergeSort (dataLe false en)).map fun b => Value.ref (g b).1).toArray, gens := s1.gens, drawn := s1.drawn, toks := s1.toks } := by
      cases s1
      cases s
      cases os
      rfl
    refine wpAny_pure ⟨_, rfl, ?_⟩
    show ∃ _, _
    rw [e]
    exact ⟨.ref s1.heap.objs.size, _, J, rfl, q M1 _ pM hn⟩
end
end Us
end

section
set_option maxHeartbeats 2000000
/-! Us3: the set comprehension, whatever adding to the new set means. -/
namespace Us
open PySem PySem.Spec PyProof.Rows L2

/-- the wish that y can be added to the set D, and that Nx holds of the heap behind -/
abbrev Addx := Addr → V → Hp → (Hp → Prop) → Prop
structure Adds (X : Cx) (Ad : Addx) : Prop where
  run : ∀ (X' : Cx) (pn : List (Addr × Obj)) (τ : L2.St) (H : Hp) (s : Shared) (D : Addr) (y : V) (u : Value) (Nx : Hp → Prop) (E : Value → Shared → Prop), X'.prog = X.prog → X'.w = X.w → X'.K = X.K → X'.A = X.A → Inv X' pn τ H s → RelV y u → Ad D y H Nx →
    wpAny (model X.prog X.w) X.A (call (.builtin "set.add") [.ref D, u]) (fun _ s' => ∃ H', Inv X' pn τ H' s' ∧ Nx H') E s
/-- {elt for tg in it if ..}: D the new set, o its first look -/
def tSC (o : Addr → HO) (Ad : Addx) (wi : TI) (g : TG) (tt : TT) (te : TE) (vs : List Nat) : TE := fun σ H Q => wi σ H fun J H1 => ∀ D, H1 D = none → ∃ St : Nat → Nat → Hp → Prop, (∃ m, St 0 m (upd H1 D (o D))) ∧ ∀ i m Hi, St i m Hi →
  (J.stop i Hi ∧ Q (.ref D) Hi) ∨ (J.go i Hi ∧ ∃ Nx : Hp → Prop, (∀ H', Nx H' → ∃ m', m' < m ∧ St (i + 1) m' H') ∧ ∀ x H', J.yld i Hi x H' → g x (wipe σ vs) H' fun σ2 H2 => wipe σ2 vs = wipe σ vs ∧ tt σ2 H2 fun b H3 =>
    if b = true then te σ2 H3 fun y H4 => Ad D y H4 Nx else Nx H3)
section
variable {X : Cx}
abbrev bare0 (w : World) : Obj := { cls := .type "set", dict := none, data := .set #[] 0 (.fresh 0 0 (!w.params.followText "set-order")) }
theorem pe_SC {elt tg it : Expr} {ifs : List Expr} {scope : Scope} {own : List (PySem.Str × Nat)} {pos : Pos} {wi : TI} {g : TG} {tt : TT} {te : TE} {o : Addr → HO} {Ad : Addx} (hc : X.calm = true) (hN : X.N.Nodup) (hi : PI X tg it wi) (ok : BlkOk X.N X.env.scope scope own) (ads : Adds X Ad)
    (new : ∀ (H : Hp) (h : Heap) (a : Addr), h.get? a = some (bare0 X.w) → ObjOk X.prog X.w H h a (o a))
    (hg : ∀ (s : Shared) (H : Hp) (C : Addr) (cl : List (PySem.Str × Addr)) (fp : List Addr), PG (X.blk s H scope (compEnvC scope cl C X.env) fp) tg g) (ht : ∀ (s : Shared) (H : Hp) (C : Addr) (cl : List (PySem.Str × Addr)) (fp : List Addr), PTs (X.blk s H scope (compEnvC scope cl C X.env) fp) ifs tt)
    (he : ∀ (s : Shared) (H : Hp) (C : Addr) (cl : List (PySem.Str × Addr)) (fp : List Addr), PE (X.blk s H scope (compEnvC scope cl C X.env) fp) elt te) (hs : ∀ x, foldedSetIterable it X.env x = pure x := by intro _; rfl) :
    PE X (.SetComp elt [⟨tg, it, ifs, 0⟩] scope pos) (tSC o Ad wi g tt te (own.map (·.2))) := by
  refine ⟨fun pn s τ H Q I want => ?_⟩
  rw [PpSet.eval_SetComp]
  have frees : ∀ y ∈ scope.names, y.2 = .free → ∃ c, X.env.cells.lookup y.1 = some c := fun y hy e => I.ok.has _ (ok.free y hy e)
  refine wpAny_comprehension_free (use := none) rfl hs (closure_ok frees) ok.kind (fun y hy e => by rw [ok.uniq y hy, e]) (thn (hi.run pn s τ H _ I want) fun xv s1 hx => thn hx fun itv s2 h2 => ?_)
  obtain ⟨j, fp, tn, J, H2, e, I2, T, st2, f2, body⟩ := h2
  subst e
  refine PpSet.newSet_ok (newEnv_comp ?_)
  obtain ⟨D, hD⟩ : ∃ D, s2.heap.objs.size = D := ⟨_, rfl⟩
  rw [hD]
  have freeD : H2 D = none := I2.hok.fresh (Nat.le_of_eq hD)
  obtain ⟨St, ⟨m0, st0⟩, turn⟩ := body D freeD
  have up3 : ∀ b u, s2.heap.get? b = some u → (s2.heap.push (bare0 X.w)).get? b = some u := fun b u e => Heap.get?_push_of_some _ e
  have I3 : Inv X pn τ (upd H2 D (o D)) { s2 with heap := s2.heap.push (bare0 X.w) } := I2.laid (t' := s2.toks) up3 (Nat.le_of_eq hD) (new _ _ _ (by rw [← hD]; exact Heap.get?_push_size _ rfl))
  have small : ∀ b ∈ fp, b < s2.heap.objs.size := fun b hb => by
    obtain ⟨u, e, _⟩ := T.obj _ _ st2 b hb
    exact Heap.lt_size e
  have sz3 : (s2.heap.push (bare0 X.w)).objs.size = s2.heap.objs.size + 1 := Heap.size_push ..
  have f3 : ∀ b ∈ fp, FpOk X pn (upd H2 D (o D)) b ∧ b < (s2.heap.push (bare0 X.w)).objs.size := fun b hb => by
    have lt := small b hb
    have q := f2 b hb
    refine ⟨⟨?_, q.2⟩, by rw [sz3]; exact Nat.lt_succ_of_lt lt⟩
    rw [upd_ne (by rw [← hD]; exact Nat.ne_of_lt lt)]
    exact q.1
  have st3 : tn 0 (s2.heap.push (bare0 X.w)) := T.keep _ _ _ st2 fun b _ u e => up3 b u e
  have I4 := block_start I3 ok hN f3
  obtain ⟨ce, hce⟩ : ∃ ce, compEnvC scope (cellsFrom ((s2.heap.push (bare0 X.w)).objs.size + 1) scope.names (cloFrom X.env.cells scope.names [])) (s2.heap.push (bare0 X.w)).objs.size X.env = ce := ⟨_, rfl⟩
  have pg : PG (X.blk { s2 with heap := s2.heap.push (bare0 X.w) } (upd H2 D (o D)) scope ce fp) tg g := by rw [← hce]; exact hg ..
  have pt : PTs (X.blk { s2 with heap := s2.heap.push (bare0 X.w) } (upd H2 D (o D)) scope ce fp) ifs tt := by rw [← hce]; exact ht ..
  have pe : PE (X.blk { s2 with heap := s2.heap.push (bare0 X.w) } (upd H2 D (o D)) scope ce fp) elt te := by rw [← hce]; exact he ..
  show codeAny _ _ (.compStart (.SetComp elt [⟨tg, it, ifs, 0⟩] scope pos) 0 (.ref j) (.ref D) (compEnvC scope (cellsFrom ((s2.heap.push (bare0 X.w)).objs.size + 1) scope.names (cloFrom X.env.cells scope.names [])) (s2.heap.push (bare0 X.w)).objs.size X.env))
    (compPost (model X.prog X.w) X.A X.xe none (fun v s' => ∃ y H', Inv X pn τ H' s' ∧ RelV y v ∧ Q y H') (.ref D) (s2.heap.push (bare0 X.w)).objs.size) { s2 with heap := pushCells ((s2.heap.push (bare0 X.w)).push { cls := .type "dict", data := .dict #[] }) scope.names }
  rw [hce]
  have I4' : Inv (X.blk { s2 with heap := s2.heap.push (bare0 X.w) } (upd H2 D (o D)) scope ce fp) [] (wipe τ (own.map (·.2))) (upd H2 D (o D)) { s2 with heap := pushCells ((s2.heap.push (bare0 X.w)).push { cls := .type "dict", data := .dict #[] }) scope.names } := by rw [← hce]; exact I4
  have ceL : ce.locals = (s2.heap.push (bare0 X.w)).objs.size := by rw [← hce] <;> rfl
  clear I4 hce
  obtain ⟨s3, hs3⟩ : ∃ s3 : Shared, ({ s2 with heap := s2.heap.push (bare0 X.w) } : Shared) = s3 := ⟨_, rfl⟩
  obtain ⟨H3, hH3⟩ : ∃ H3, upd H2 D (o D) = H3 := ⟨_, rfl⟩
  obtain ⟨s4, hs4⟩ : ∃ s4 : Shared, ({ s2 with heap := pushCells ((s2.heap.push (bare0 X.w)).push { cls := .type "dict", data := .dict #[] }) scope.names } : Shared) = s4 := ⟨_, rfl⟩
  obtain ⟨n3, hn3⟩ : ∃ n, (s2.heap.push (bare0 X.w)).objs.size = n := ⟨_, rfl⟩
  have st4 : tn 0 s4.heap := by
    rw [← hs4]
    exact T.keep _ _ _ st3 fun b _ u e => pushCells_keeps _ _ _ _ (Heap.get?_push_of_some _ e)
  rw [hs3, hH3] at I3
  rw [hs3, hH3, hs4] at I4'
  rw [hs3, hH3] at pg pt pe
  rw [hH3] at st0 f3
  rw [hs4]
  rw [hn3] at ceL f3 ⊢
  have free3 : ∀ b ∈ fp, H3 b = none := fun b hb => (f3 b hb).1.1
  have fpok : ∀ {τ' : L2.St} {Hx : Hp} {sx : Shared}, Inv (X.blk s3 H3 scope ce fp) [] τ' Hx sx → (∀ b ∈ fp, Hx b = none) → ∀ b ∈ fp, FpOk (X.blk s3 H3 scope ce fp) [] Hx b := fun {τ' Hx sx} Ix nx b hb =>
    ⟨nx b hb, (Ix.ok.exf b hb).1, Ix.ok.exfs b hb, .inl hb, fun x c e => (Ix.ok.exf b hb).2 x c e, fun p hp => absurd (show p ∈ ([] : List (Addr × Obj)) ++ [] from hp) (by simp)⟩
  have run : codeAny (model X.prog X.w) X.A (.compLoop (.SetComp elt [⟨tg, it, ifs, 0⟩] scope pos) 0 (.ref j) (.ref D) ce) (compPost (model X.prog X.w) X.A X.xe none (fun v s' => ∃ y H', Inv X pn τ H' s' ∧ RelV y v ∧ Q y H') (.ref D) n3) s4 := by
    refine PpSet.compLoopS_any (fun n sx => ∃ i Hx, Inv (X.blk s3 H3 scope ce fp) [] (wipe τ (own.map (·.2))) Hx sx ∧ tn i sx.heap ∧ (∀ b ∈ fp, Hx b = none) ∧ St i n Hx) ?_ m0 ⟨0, H3, I4', st4, free3, st0⟩
    rintro n s5 ⟨i, H5, I5, st5, free5, w5⟩
    rcases turn i n H5 w5 with ⟨stop, fin⟩ | ⟨go, Nx, less, step⟩
    · refine thnF (T.done (X.blk s3 H3 scope ce fp) rfl rfl rfl hc i [] s5 _ H5 (fun _ _ => False) I5 (fpok I5 free5) st5 stop) fun r s6 ⟨hr, I6⟩ => ?_
      subst hr
      have I7 : Inv X pn τ H5 s6 := I3.call' (ch := fp) I6.os I6.base I6.hok I6.bare fun b hb => ⟨(f3 b hb).1.2.2.2.1, (f3 b hb).1.2.1, (f3 b hb).1.2.2.2.2.1, (f3 b hb).1.2.2.2.2.2⟩
      have freeC : H5 n3 = none := by rw [← ceL]; exact I6.free
      obtain ⟨k, ns, _⟩ := I6.loc
      have ns : s6.heap.Ns n3 k := by rw [← ceL]; exact ns
      have sz : s3.heap.objs.size ≤ n3 := by rw [← hs3]; exact Nat.le_of_eq hn3
      obtain ⟨f0, f1, f2', f3', f4, f5⟩ := I3.fpOk sz freeC
      exact ⟨k, ns, fun h'' sb => ⟨.ref D, H5, I7.turned (t' := s6.toks) (fun b u hb e => (sb.2 b hb).trans e) f0 f1 f3' f4 f5, rfl, fin⟩⟩
    · refine thnF (T.item (X.blk s3 H3 scope ce fp) rfl rfl rfl hc i [] s5 _ H5 (fun _ _ => False) I5 (fpok I5 free5) st5 go) fun r s6 ⟨u, hr, h6⟩ => ?_
      subst hr
      refine thnF h6 fun _ s7 ⟨x, H7, I7, r7, y7, st7, free7⟩ => ?_
      refine thnF (pg.run _ s7 _ H7 x u _ (I7.pinned (fpok I7 free7) (T.obj _ _ st7)) r7 (step x H7 y7)) fun _ s8 ⟨τ8, H8, I8, wp8, q8⟩ => ?_
      refine thnF (pt.run _ s8 τ8 H8 _ I8 q8) fun b s9 ⟨H9, I9, q9⟩ => ?_
      have again : ∀ {sx : Shared} {Hx : Hp}, Inv (X.blk s3 H3 scope ce fp) ([] ++ pinsAt fp s7.heap) τ8 Hx sx → Nx Hx → ∃ m, m < n ∧ ∃ i Hx, Inv (X.blk s3 H3 scope ce fp) [] (wipe τ (own.map (·.2))) Hx sx ∧ tn i sx.heap ∧ (∀ b ∈ fp, Hx b = none) ∧ St i m Hx := fun {sx Hx} Ix nx => by
        obtain ⟨m', lt, wx⟩ := less Hx nx
        have pin : ∀ b ∈ fp, ∀ u, s7.heap.get? b = some u → sx.heap.get? b = some u ∧ Hx b = none := fun b hb u e => by
          have z := Ix.pin (b, u) (List.mem_append_right _ (List.mem_append_right _ (mem_pinsAt hb e)))
          exact ⟨z.1, z.2.1⟩
        refine ⟨m', lt, i + 1, Hx, (Ix.unpinned (pins := [])).weak (by rw [← wp8, wipe_length]) (fun k v e => ?_), T.keep _ _ _ st7 fun b hb u e => (pin b hb u e).1, fun b hb => ?_, wx⟩
        · rw [← wp8] at e
          exact (wipe_some e).1
        · obtain ⟨u, e, _⟩ := T.obj _ _ st7 b hb
          exact (pin b hb u e).2
      cases b with
      | false =>
        simp only [Bool.false_eq_true, if_false] at q9 ⊢
        exact again I9 q9
      | true =>
        simp only [if_true] at q9 ⊢
        refine thnF (pe.run _ s9 τ8 H9 _ I9 q9) fun z s10 ⟨y, H10, I10, r10, add⟩ => ?_
        exact thn (ads.run (X.blk s3 H3 scope ce fp) _ τ8 H10 s10 D y z Nx _ rfl rfl rfl rfl I10 r10 add) fun _ s11 ⟨H11, I11, nx⟩ => again I11 nx
  exact PpSet.codeAny_compStart_set run (T.self X.A 0 _ _ _ st4 run)
end
end Us
end

section
set_option maxHeartbeats 2000000
namespace Pu
open PySem PySem.Spec PyProof.Rows L2 Us PySem.W

section
variable {K : PySem.W.Frag} {G : Gc} {O : Addr → Option Tg} {σ σ' : L2.St} {ρ ρ' : En} {pe : Pend} {H H' : Hp} {v : V} {d : Da}
/-- the owners behind a new object on top -/
def own1 (O : Addr → Option Tg) (p : Addr) (n : Nat) : Addr → Option Tg := fun a => if a = p then some (.pend n) else clr O (.pend n) a
theorem own1_at {p : Addr} {n : Nat} : own1 O p n p = some (.pend n) := if_pos rfl
/-- a new object of our own -/
theorem StO.pushNew {o : HO} {p : Addr} {c : Ce} (S : StO K G O σ ρ pe H) (np : H p = none) (ch : Chg o) (hc : CeOk K G (own1 O p pe.length) (upd H p o) (.pend pe.length) (.ref p) c) : StO K G (own1 O p pe.length) σ ρ ((.ref p, c) :: pe) (upd H p o) := by
  have ne : ∀ {b : Addr} {u : HO}, H b = some u → b ≠ p := fun {b u} e => ne_of_none e np
  have hk : Keep (Lof G O) H (upd H p o) := fun b u e _ => keep_upd np b u e
  have hl : ∀ b u, H b = some u → Lof G O b → Lof G (own1 O p pe.length) b := fun b u e h => ⟨(if_neg (ne e)).trans (clr_none h.1), h.2⟩
  have ow : ∀ {q t}, O q = some t → t ≠ .pend pe.length → upd H p o q = H q ∧ own1 O p pe.length q = some t := fun {q t} e n => by
    obtain ⟨u, hu, _⟩ := S.own q t e
    exact ⟨upd_ne (ne hu), (if_neg (ne hu)).trans (clr_ne e n)⟩
  refine ⟨fun b u e n => ?_, fun q t h => ?_, fun q hq => ?_, S.len, fun i c e => ?_, hc, ?_⟩
  · obtain ⟨h1, h2⟩ := S.frame b u e n
    exact ⟨keep_upd np b u h1, (if_neg (ne h1)).trans (clr_none h2)⟩
  · by_cases e : q = p
    · subst e
      exact ⟨_, upd_same, ch⟩
    · unfold own1 at h
      rw [if_neg e] at h
      obtain ⟨u, hu, c⟩ := S.own q t (of_clr h).1
      exact ⟨u, keep_upd np q u hu, c⟩
  · obtain ⟨h, n⟩ := S.pools q hq
    have h' := h
    obtain ⟨_, _, _, _, _, _, _, e, _⟩ := h'
    exact ⟨h.mono hk hl (upd_ne (ne e)), n⟩
  · obtain ⟨w, h1, h2⟩ := S.slots i c e
    exact ⟨w, h1, h2.mono hk hl fun q e => ow e (fun z => by cases z)⟩
  · exact S.pends.mono hk hl fun j hj q e => ow e (fun z => by cases z; omega)
theorem StO.notP {o : HO} {p : Addr} (S : StO K G O σ ρ pe H) (np : H p = none) : ¬ G.P0 p := fun hp => by
  obtain ⟨⟨_, _, _, _, _, _, _, e, _⟩, _⟩ := S.pools p hp
  rw [np] at e
  cases e
theorem StO.lof1 {p : Addr} {b : Addr} {u : HO} (S : StO K G O σ ρ pe H) (np : H p = none) (e : H b = some u) (h : Lof G O b) : Lof G (own1 O p pe.length) b := ⟨(if_neg (ne_of_none e np)).trans (clr_none h.1), h.2⟩
/-- the object of our own on top changes -/
theorem StO.turnTop {c c' : Ce} {p : Addr} {o o' : HO} (S : StO K G O σ ρ ((.ref p, c) :: pe) H) (ot : O p = some (.pend pe.length)) (hp : H p = some o) (ch : Chg o) (np : ¬ G.P0 p) (ch' : Chg o')
    (hc : Keep (Lof G O) H (upd H p o') → CeOk K G O (upd H p o') (.pend pe.length) (.ref p) c') : StO K G O σ ρ ((.ref p, c') :: pe) (upd H p o') ∧ Keep (Lof G O) H (upd H p o') := by
  have hk : Keep (Lof G O) H (upd H p o') := fun b x e k => by
    rw [upd_ne]
    · exact e
    · rintro rfl
      rcases k with k | k
      · have k1 := k.1
        rw [ot] at k1
        cases k1
      · rw [hp] at e
        cases e
        exact k ch
  have hl : ∀ b x, H b = some x → Lof G O b → Lof G O b := fun _ _ _ h => h
  refine ⟨⟨fun b x e n => ⟨?_, (S.frame b x e n).2⟩, fun q t h => ?_, fun q hq => ⟨(S.pools q hq).1.mono hk hl (upd_ne fun e => np (e ▸ hq)), (S.pools q hq).2⟩, S.len, fun j c h => ?_, hc hk, ?_⟩, hk⟩
  · rw [upd_ne]
    · exact (S.frame b x e n).1
    · rintro rfl
      have f := (S.frame b x e n).2
      rw [ot] at f
      cases f
  · by_cases e : q = p
    · subst e
      exact ⟨_, upd_same, ch'⟩
    · rw [upd_ne e]
      exact S.own q t h
  · obtain ⟨w, h1, h2⟩ := S.slots j c h
    exact ⟨w, h1, h2.mono hk hl (fun q e => ⟨upd_ne (fun q' => by
      rw [q', ot] at e
      cases e), e⟩)⟩
  · exact S.pends.2.mono hk hl (fun j hj q e => ⟨upd_ne (fun q' => by
      rw [q', ot] at e
      cases e
      omega), e⟩)
end

/-! ### members -/
def numsOf (ds : List Da) : Option (List Int) := ds.mapM Da.num
theorem nums_flat {K : PySem.W.Frag} {L : Addr → Prop} {H : Hp} : ∀ {ds : List Da} {k : List Int} {vs : List V}, ds.mapM Da.num = some k → Reps K L H ds vs → Flat vs k ∧ vs.map venc = Da.pys ds
  | [], k, vs, e, r => by
    simp only [List.mapM_nil] at e
    cases e
    simp only [Reps] at r
    subst r
    exact ⟨rfl, rfl⟩
  | d :: ds, k, vs, e, r => by
    simp only [Reps] at r
    obtain ⟨v, ws, rfl, r1, r2⟩ := r
    simp only [List.mapM_cons, Option.pure_def, Option.bind_eq_bind, Option.bind_eq_some_iff, Option.some.injEq] at e
    obtain ⟨n, e1, ns, e2, rfl⟩ := e
    obtain ⟨h1, h2⟩ := nums_flat e2 r2
    have q : vk v = some n ∧ venc v = d.py := by
      cases d <;> simp [Da.num] at e1
      · rw [rep_bl'.mp r1]
        exact ⟨by simp [vk, e1], rfl⟩
      · rw [rep_int.mp r1]
        exact ⟨by simp [vk, e1], rfl⟩
    exact ⟨by unfold Flat at h1 ⊢; rw [List.map_cons, List.map_cons, q.1, h1], by rw [List.map_cons, q.2, h2, Da.pys]⟩
/-- a keyed datum is a tuple -/
theorem key_rep {K : PySem.W.Frag} {L : Addr → Prop} {H : Hp} {d : Da} {k : List Int} {v : V} (e : Da.key d = some k) (r : Rep K L H d v) : ∃ a vs, v = .ref a ∧ SqT K H a vs ∧ Flat vs k ∧ d.py = enc vs ∧ vs ≠ [] := by
  unfold Da.key at e
  split at e
  · rename_i d0 ds
    obtain ⟨a, vs, e1, q, z, rs⟩ := rep_tup.mp r
    obtain ⟨h1, h2⟩ := nums_flat e rs
    refine ⟨a, vs, e1, q, h1, by rw [Da.py, enc, h2], fun z => ?_⟩
    have l := rs.length
    rw [z] at l
    cases l
  · cases e

section
variable {X : Cx} {G : Gc} {x : Ex → En → Prop}
/-- the reading of an expression whose value is a new set of our own -/
def tst (K : PySem.W.Frag) (G : Gc) (x : Ex → En → Prop) (m : W (List Da)) : TE := fun σ H Q => ∃ ρ pe, Sd K G σ ρ pe H ∧ m.wp ρ (fun ds ρ' => ∀ v H', Sd K G σ ρ' ((v, .set ds) :: pe) H' → Q v H') x
def eKey (e : W Da) : W Da := e.bind fun y => (W.req ((Da.key y).isSome = true)).bind fun _ => W.ret y
/-- {e for t in m if c} -/
def eSC (vs : List Nat) (m : W (List Da)) (t : Tt) (c : W Bool) (e : W Da) : W (List Da) :=
  ⟨fun ρ k x => m.wp ρ (fun ds ρ1 => ds.length < 60 ∧ wipeE ρ1 vs = ρ1 ∧ lcW t c (eKey e) ds [] ρ1 (fun acc => k acc ρ1)) x, fun hk hx h => m.mono (fun _ _ ⟨h0, h1, h2⟩ => ⟨h0, h1, lcW_mono (fun _ z => hk _ _ z) h2⟩) hx h⟩

/-- adding a datum, told of the members -/
def addD (P : Program) (w : World) (K : PySem.W.Frag) : Addx := fun D y H Nx => ∃ (a : Addr) (M : Mem) (k : Ky) (xs : List V), y = .ref a ∧ H D = some (SetTO P w D M) ∧ Mems K H M ∧ SqT K H a xs ∧ Flat xs k ∧ M.length + 1 < 64 ∧
  ∀ M', (k ∈ M.map (·.2) → M' = M) → (k ∉ M.map (·.2) → M'.Perm ((a, k) :: M)) → Nx (upd H D (SetTO P w D M'))
theorem addD_adds (hu : X.A.units + 4 < cLine) : Adds X (addD X.prog X.w X.K) := ⟨fun X' pn τ H s D y u Nx E e1 e2 e3 e4 I r h => by
  obtain ⟨a, M, k, xs, rfl, hD, hm, hx, hk, few, nx⟩ := h
  cases r
  rw [← e1, ← e2] at hD nx
  rw [← e3] at hm hx
  rw [← e4] at hu
  rw [← e1, ← e2, ← e4]
  exact addU_ok I hD hm hx hk few hu fun M' s' c1 c2 I' => ⟨_, I', nx M' c1 c2⟩⟩
theorem fresh_set {P : Program} {w : World} (H : Hp) (h : Heap) (a : Addr) (e : h.get? a = some (bare0 w)) : ObjOk P w H h a (SetTO P w a []) := setTO_new (setTR_fresh e).t0

theorem perm_pull {β : Type} (g : β → Addr × Ky) {M' : Mem} {b : β} {bs : List β} (p : M'.Perm (g b :: bs.map g)) : ∃ bs' : List β, bs'.Perm (b :: bs) ∧ M' = bs'.map g := perm_map p (b :: bs) rfl
theorem setOf_old {ds ms : List Da} {d : Da} (h : SetOf ds ms) (hd : Da.key d ∈ ms.map Da.key) : SetOf (ds ++ [d]) ms :=
  ⟨h.1, fun e he => List.mem_append_left _ (h.2.1 e he), fun e he => (List.mem_append.mp he).elim (h.2.2 e) fun z => by rw [List.mem_singleton.mp z]; exact hd⟩
theorem setOf_new {ds ms ms' : List Da} {d : Da} (h : SetOf ds ms) (hd : Da.key d ∉ ms.map Da.key) (p : ms'.Perm (d :: ms)) : SetOf (ds ++ [d]) ms' := by
  refine ⟨(p.map Da.key).nodup_iff.mpr (List.nodup_cons.mpr ⟨hd, h.1⟩), fun e he => ?_, fun e he => ?_⟩
  · rcases List.mem_cons.mp (p.mem_iff.mp he) with z | z
    · rw [z]; exact List.mem_append_right _ (List.mem_singleton.mpr rfl)
    · exact List.mem_append_left _ (h.2.1 e z)
  · refine (p.map Da.key).mem_iff.mpr ?_
    rcases List.mem_append.mp he with z | z
    · exact List.mem_cons_of_mem _ (h.2.2 e z)
    · rw [List.mem_singleton.mp z]; exact List.mem_cons_self

theorem sc_run {vs : List Nat} {m : W (List Da)} {t : Tt} {c : W Bool} {n : W Da} (so : G.so = SetTO X.prog X.w) (hv : ∀ i ∈ t.slots, i ∈ vs) {σ : L2.St} {H : Hp} {Q : VK} (q : tst X.K G x (eSC vs m t c n) σ H Q) :
    tSC (fun D => SetTO X.prog X.w D []) (addD X.prog X.w X.K) (tit X.K G x m) (tgg X.K G t) (ttt X.K G noEx c) (tp X.K G noEx n) vs σ H Q := by
  obtain ⟨ρ, pe, S, q⟩ := q
  refine ⟨ρ, pe, S, m.mono (fun ds ρ1 q J src H1 iok hz S1 D nD => ?_) (fun _ _ z => z) q⟩
  obtain ⟨few, hw, q⟩ := q
  obtain ⟨O, S1⟩ := S1
  obtain ⟨S2, rs⟩ := S1.popD
  have hkeep : Keep (Lof G O) H1 (upd H1 D (SetTO X.prog X.w D [])) := fun b u e _ => keep_upd nD b u e
  have S3 : StO X.K G (own1 O D pe.length) σ ρ1 ((.ref D, .set []) :: pe) (upd H1 D (SetTO X.prog X.w D [])) := S2.pushNew nD trivial ⟨D, [], rfl, own1_at, by rw [so]; exact upd_same, S2.notP (o := .lst []) nD, Nat.le_refl _, ⟨List.nodup_nil, fun _ h => (nomatch h), fun _ h => (nomatch h)⟩, fun _ h => (nomatch h)⟩
  have S4 := S3.pushDs (l := src) fun p hp => Rep.mono hkeep (fun b u e z => S2.lof1 nD e z) _ _ (rs p hp)
  refine ⟨fun i k H' => k = ds.length - i ∧ i ≤ ds.length ∧ ∃ acc, acc.length ≤ i ∧ Sd X.K G (wipe σ vs) ρ1 (dats src ++ ((.ref D, .set acc) :: pe)) H' ∧
    lcW t c (eKey n) (ds.drop i) acc ρ1 (fun acc => ∀ v H', Sd X.K G σ ρ1 ((v, .set acc) :: pe) H' → Q v H'), ⟨_, rfl, Nat.zero_le _, [], Nat.le_refl _, ⟨_, S4.wiped hw⟩, q⟩, ?_⟩
  rintro i k H' ⟨rfl, hi, acc, ha, ⟨O5, S5⟩, q5⟩
  obtain ⟨S6, rs6⟩ := S5.popD
  have io := iok (Lof G O5) H' rs6 i
  by_cases hlt : i < ds.length
  · obtain ⟨g, y⟩ := io.1 ds[i] (List.getElem?_eq_getElem hlt)
    rw [List.drop_eq_getElem_cons hlt] at q5
    refine .inr ⟨g, fun H'' => ∃ acc, acc.length ≤ i + 1 ∧ Sd X.K G (wipe σ vs) ρ1 (dats src ++ ((.ref D, .set acc) :: pe)) H'' ∧
      lcW t c (eKey n) (ds.drop (i + 1)) acc ρ1 (fun acc => ∀ v H', Sd X.K G σ ρ1 ((v, .set acc) :: pe) H' → Q v H'), fun H'' ⟨acc', h1, h2, h3⟩ => ⟨ds.length - (i + 1), by omega, rfl, hlt, acc', h1, h2, h3⟩, fun w H'' hy => ?_⟩
    obtain ⟨kk, rw'⟩ := y w H'' hy
    obtain ⟨ρ2, hb, qc⟩ := q5
    have S7 : StO X.K G O5 (wipe σ vs) ρ1 ((w, .dat ds[i]) :: (dats src ++ ((.ref D, .set acc) :: pe))) H'' := (S5.heap kk).pushD (Rep.mono (fun _ _ e _ => e) (fun b u e z => z.elim id fun z => S5.fresh z) _ _ rw')
    refine ⟨ρ1, _, _, ρ2, ⟨O5, S7⟩, hb, fun σ2 H2 bt S8 => ⟨wipe_but bt hv, ?_⟩⟩
    refine ⟨ρ2, _, S8, c.mono (fun b ρ3 hq H3 S9 => ?_) (fun _ _ z => z) qc⟩
    obtain ⟨e3, q9⟩ := hq
    subst e3
    have toOld : ∀ {pe' : Pend} {Hx : Hp}, Sd X.K G σ2 ρ3 pe' Hx → Sd X.K G (wipe σ vs) ρ1 pe' Hx := fun {pe' Hx} ⟨Oy, Sy⟩ => by
      obtain ⟨bl, bo⟩ := bind_but hb
      refine ⟨Oy, Sy.weak (by rw [← bl, Sy.len, bt.1]) fun j cc ej => ?_⟩
      have nj : j ∉ vs := fun z => wipeE_none z cc (hw.symm ▸ ej)
      have nt : j ∉ t.slots := fun z => nj (hv j z)
      exact ⟨(bo j nt).trans ej, (bt.2 j nt).symm⟩
    cases b with
    | false =>
      refine iteF ⟨acc, Nat.le_succ_of_le ha, toOld S9, ?_⟩
      exact (show (if false = true then _ else lcW t c (eKey n) (ds.drop (i + 1)) acc ρ1 _) from q9)
    | true =>
      have q9' : (eKey n).wp ρ3 _ noEx := (show (if true = true then _ else _) from q9)
      refine iteT ⟨ρ3, _, S9, n.mono (fun yd ρ4 hq yv H4 S10 => ?_) (fun _ _ z => z) (show n.wp ρ3 _ noEx from q9')⟩
      obtain ⟨hkey, e4, q10⟩ := hq
      subst e4
      obtain ⟨Oz, Sz⟩ := S10
      have ry := Sz.top
      obtain ⟨Sw, rsw⟩ := Sz.pop.popD
      obtain ⟨p, bs, ep, op, hp, np, hlen, hset, hall⟩ := Sw.pends.1
      cases ep
      obtain ⟨ky, ek⟩ := Option.isSome_iff_exists.mp hkey
      obtain ⟨a, xs, ea, hsq, hfl, _, _⟩ := key_rep ek ry
      subst ea
      rw [so] at hp
      refine ⟨a, _, ky, xs, rfl, hp, fun r hr => ?_, hsq, hfl, by rw [List.length_map]; omega, fun M' c1 c2 => ?_⟩
      · obtain ⟨b, hb', e⟩ := List.mem_map.mp hr
        obtain ⟨h1, h2⟩ := hall b hb'
        obtain ⟨a', xs', ea', s1, s2, _⟩ := key_rep h2 h1
        cases ea'
        exact ⟨xs', by rw [← e]; exact s1, by rw [← e]; exact s2⟩
      · have same : Da.key yd ∈ (bs.map (·.2.2)).map Da.key ↔ ky ∈ (bs.map fun b => (b.1, b.2.1)).map (·.2) := by
          rw [ek, List.map_map, List.map_map]
          simp only [List.mem_map, Function.comp_apply]
          constructor
          · rintro ⟨b, hb', e⟩
            rw [(hall b hb').2] at e
            exact ⟨b, hb', Option.some.inj e⟩
          · rintro ⟨b, hb', e⟩
            exact ⟨b, hb', by rw [(hall b hb').2, e]⟩
        obtain ⟨Sq, kq⟩ := Sw.turnTop (c' := .set (acc ++ [yd])) (o' := SetTO X.prog X.w D M') op hp trivial np trivial (fun kq => by
          by_cases hin : ky ∈ (bs.map fun b => (b.1, b.2.1)).map (·.2)
          · exact ⟨D, bs, rfl, op, by rw [so, c1 hin]; exact upd_same, np, by simp; omega, setOf_old hset (same.mpr hin), fun b hb' => ⟨Rep.mono kq (fun _ _ _ z => z) _ _ (hall b hb').1, (hall b hb').2⟩⟩
          · obtain ⟨bs', p', e'⟩ := perm_pull (fun b : Addr × List Int × Da => (b.1, b.2.1)) (b := (a, ky, yd)) (c2 hin)
            refine ⟨D, bs', rfl, op, by rw [so, ← e']; exact upd_same, np, ?_, setOf_new hset (fun z => hin (same.mp z)) (p'.map (·.2.2)), fun b hb' => ?_⟩
            · have l := p'.length_eq
              simp only [List.length_cons, List.length_append, List.length_nil] at l ⊢
              omega
            · rcases List.mem_cons.mp (p'.mem_iff.mp hb') with z | z
              · rw [z]
                exact ⟨Rep.mono kq (fun _ _ _ z => z) _ _ ry, ek⟩
              · exact ⟨Rep.mono kq (fun _ _ _ z => z) _ _ (hall b z).1, (hall b z).2⟩)
        exact ⟨acc ++ [yd], by simp; omega, toOld ⟨Oz, Sq.pushDs fun p hp => Rep.mono kq (fun _ _ _ z => z) _ _ (rsw p hp)⟩, q10⟩
  · have e : i = ds.length := by omega
    subst e
    refine .inl ⟨io.2 (Nat.le_refl _), ?_⟩
    rw [List.drop_length] at q5
    exact q5 _ _ ⟨_, S6.unwiped hw⟩
theorem p_sc {tg e it : Expr} {ifs : List Expr} {scope : Scope} {own : List (Str × Nat)} {pos : Pos} {m : W (List Da)} {t : Tt} {c : W Bool} {n : W Da} (so : G.so = SetTO X.prog X.w) (hu : X.A.units + 4 < cLine) (hc : X.calm = true) (hN : X.N.Nodup) (hi : PI X tg it (tit X.K G x m)) (ok : BlkOk X.N X.env.scope scope own)
    (hg : ∀ (s : Shared) (H : Hp) (C : Addr) (cl : List (Str × Addr)) (fp : List Addr), PG (X.blk s H scope (compEnvC scope cl C X.env) fp) tg (tgg X.K G t))
    (ht : ∀ (s : Shared) (H : Hp) (C : Addr) (cl : List (Str × Addr)) (fp : List Addr), PTs (X.blk s H scope (compEnvC scope cl C X.env) fp) ifs (ttt X.K G noEx c))
    (he : ∀ (s : Shared) (H : Hp) (C : Addr) (cl : List (Str × Addr)) (fp : List Addr), PE (X.blk s H scope (compEnvC scope cl C X.env) fp) e (tp X.K G noEx n))
    (hv : ∀ i ∈ t.slots, i ∈ own.map (·.2)) (hs : ∀ y, foldedSetIterable it X.env y = pure y := by intro _; rfl) :
    PE X (.SetComp e [⟨tg, it, ifs, 0⟩] scope pos) (tst X.K G x (eSC (own.map (·.2)) m t c n)) :=
  (pe_SC hc hN hi ok (addD_adds hu) (fun H h a e => fresh_set H h a e) hg ht he hs).of fun _ _ _ q => sc_run so hv q

/-! ### sorted(set) -/
def alikeD (ds : List Da) : Prop := ∀ a ∈ ds, ∀ b ∈ ds, alike a.py b.py = true
def sortD (ds : List Da) : List Da := ds.mergeSort (dataLe false Da.py)
def eSortS (m : W (List Da)) : W (List Da) := m.bind fun ds => ⟨fun ρ k x => alikeD ds ∧ ds.length ≤ 1000 ∧ ∀ ms, SetOf ds ms → k (sortD ms) ρ, fun hk hx h => ⟨h.1, h.2.1, fun ms hm => hk _ _ (h.2.2 ms hm)⟩⟩

theorem ms_map {α β : Type} {f : α → β} {le : β → β → Bool} (l : List α) : (l.map f).mergeSort le = (l.mergeSort fun a b => le (f a) (f b)).map f := by
  rw [List.map_mergeSort]
  exact fun _ _ _ _ => rfl
theorem reps_of {K : PySem.W.Frag} {L : Addr → Prop} {H : Hp} {β : Type} (f : β → V) (g : β → Da) : ∀ {l : List β}, (∀ b ∈ l, Rep K L H (g b) (f b)) → Reps K L H (l.map g) (l.map f)
  | [], _ => rfl
  | b :: l, h => by
    simp only [List.map_cons, Reps]
    exact ⟨_, _, rfl, h b List.mem_cons_self, reps_of f g fun c hc => h c (List.mem_cons_of_mem _ hc)⟩
theorem p_sortS {e : Expr} {p pos : Pos} {m : W (List Da)} (so : G.so = SetTO X.prog X.w) (hu : X.A.units + 8 < cLine) (hc : X.calm = true) (hg : Gl X "sorted") (hm : X.mg "sorted" = none) (he : PE X e (tst X.K G x m))
    (hs : starEach [e] X.env = (false, eval e X.env) :: starEach [] X.env := by rfl) : PE X (.Call (.Name "sorted" p) [e] [] pos) (tow X.K G x (eSortS m)) :=
  (pe_callB (cr_sortedU (β := Addr × List Int × Da) hc hu) hg hm rfl (pa_cons he pa_nil hs) (by decide) (by decide) hs).of fun σ H Q ⟨ρ, pe, S, q⟩ => by
  refine ⟨ρ, pe, S, m.mono (fun ds ρ1 q v H1 S1 => ?_) (fun _ _ z => z) q⟩
  obtain ⟨hal, h1000, q⟩ := q
  obtain ⟨O, S1⟩ := S1
  obtain ⟨p, bs, ep, op, hp, np, hlen, hset, hall⟩ := S1.pends.1
  subst ep
  rw [so] at hp
  refine ⟨p, bs, fun b => (b.1, b.2.1), fun b => b.2.2.py, rfl, hp, fun b hb => ?_, ?_, fun bs' l pm nl => ?_⟩
  · obtain ⟨h1, h2⟩ := hall b hb
    obtain ⟨a, xs, ea, s1, s2, s3, s4⟩ := key_rep h2 h1
    cases ea
    exact ⟨xs, s1, s2, s3, s4⟩
  · intro d hd d' hd'
    obtain ⟨b, hb, rfl⟩ := List.mem_map.mp hd
    obtain ⟨b', hb', rfl⟩ := List.mem_map.mp hd'
    exact hal _ (hset.2.1 _ (List.mem_map.mpr ⟨b, hb, rfl⟩)) _ (hset.2.1 _ (List.mem_map.mpr ⟨b', hb', rfl⟩))
  · have pm2 := pm.map (·.2.2)
    have hset' : SetOf ds (bs'.map (·.2.2)) := ⟨(pm2.map Da.key).nodup_iff.mpr hset.1, fun d hd => hset.2.1 d (pm2.mem_iff.mp hd), fun d hd => (pm2.map Da.key).mem_iff.mpr (hset.2.2 d hd)⟩
    have eq : sortD (bs'.map (·.2.2)) = (bs'.mergeSort (dataLe false fun b => b.2.2.py)).map (·.2.2) := ms_map (f := fun b : Addr × List Int × Da => b.2.2) (le := dataLe false Da.py) bs'
    refine q _ hset' _ _ ⟨_, S1.pop.pushOwn (p := l) nl ?_ ?_⟩
    · rw [eq, List.length_map, List.length_mergeSort, pm.length_eq, line_eq]
      omega
    · rw [eq]
      exact reps_of _ _ fun b hb => (hall b (pm.mem_iff.mp (List.mem_mergeSort.mp hb))).1
end
end Pu
end

section
set_option maxHeartbeats 2000000
namespace Pu
open PySem PySem.Spec PyProof.Rows L2 Us PySem.W

/-! ### set(list of tuples of ints), list(e) -/
def intsD : List Da → Option (List Int)
  | [] => some []
  | .int i :: r => (intsD r).map (i :: ·)
  | _ => none
def intKey : Da → Option (List Int)
  | .tup (d :: ds) => intsD (d :: ds)
  | _ => none
theorem intsD_nums : ∀ {ds : List Da} {k : List Int}, intsD ds = some k → ds = k.map Da.int ∧ ds.mapM Da.num = some k
  | [], k, e => by cases e; exact ⟨rfl, rfl⟩
  | d :: ds, k, e => by
    cases d <;> simp [intsD] at e
    obtain ⟨k', e1, rfl⟩ := e
    obtain ⟨h1, h2⟩ := intsD_nums e1
    exact ⟨by rw [h1]; rfl, by simp [List.mapM_cons, h2, Da.num]⟩
theorem intKey_key {d : Da} {k : List Int} (e : intKey d = some k) : Da.key d = some k ∧ d = .tup (k.map Da.int) := by
  unfold intKey at e
  split at e
  · obtain ⟨h1, h2⟩ := intsD_nums e
    exact ⟨h2, by rw [h1]⟩
  · cases e
theorem ints_vs {K : PySem.W.Frag} {L : Addr → Prop} {H : Hp} : ∀ {k : List Int} {vs : List V}, Reps K L H (k.map Da.int) vs → vs = k.map V.int
  | [], vs, r => by simpa [Reps] using r
  | n :: k, vs, r => by
    simp only [List.map_cons, Reps] at r
    obtain ⟨v, ws, rfl, r1, r2⟩ := r
    rw [rep_int.mp r1, ints_vs r2, List.map_cons]
theorem intKey_rep {K : PySem.W.Frag} {L : Addr → Prop} {H : Hp} {d : Da} {k : List Int} {v : V} (e : intKey d = some k) (r : Rep K L H d v) : ∃ a, v = .ref a ∧ SqT K H a (k.map V.int) := by
  obtain ⟨_, h⟩ := intKey_key e
  subst h
  obtain ⟨a, vs, e1, q, z, rs⟩ := rep_tup.mp r
  rw [ints_vs rs] at q
  exact ⟨a, e1, q⟩
/-- a choice for each of a list -/
theorem list_choice {α β : Type} {R : α → β → Prop} : ∀ {l : List α}, (∀ a ∈ l, ∃ b, R a b) → ∃ bs : List (α × β), l = bs.map (·.1) ∧ ∀ p ∈ bs, R p.1 p.2
  | [], _ => ⟨[], rfl, fun _ h => nomatch h⟩
  | a :: l, h => by
    obtain ⟨b, hb⟩ := h a List.mem_cons_self
    obtain ⟨bs, e, hr⟩ := list_choice (l := l) fun c hc => h c (List.mem_cons_of_mem _ hc)
    refine ⟨(a, b) :: bs, by rw [List.map_cons, ← e], fun p hp => ?_⟩
    rcases List.mem_cons.mp hp with z | z
    · rw [z]; exact hb
    · exact hr p z
theorem keyed_list {K : PySem.W.Frag} {L : Addr → Prop} {H : Hp} : ∀ {ds : List Da} {vs : List V}, (∀ d ∈ ds, (intKey d).isSome = true) → Reps K L H ds vs →
    ∃ bs : List (Addr × List Int × Da), vs = bs.map (fun b => V.ref b.1) ∧ ds = bs.map (·.2.2) ∧ ∀ b ∈ bs, intKey b.2.2 = some b.2.1 ∧ Rep K L H b.2.2 (.ref b.1) ∧ SqT K H b.1 (b.2.1.map V.int)
  | [], vs, _, r => ⟨[], by simpa [Reps] using r, rfl, fun _ h => nomatch h⟩
  | d :: ds, vs, h, r => by
    simp only [Reps] at r
    obtain ⟨v, ws, rfl, r1, r2⟩ := r
    obtain ⟨k, hk⟩ := Option.isSome_iff_exists.mp (h d List.mem_cons_self)
    obtain ⟨a, rfl, q⟩ := intKey_rep hk r1
    obtain ⟨bs, e1, e2, hb⟩ := keyed_list (fun c hc => h c (List.mem_cons_of_mem _ hc)) r2
    refine ⟨(a, k, d) :: bs, by rw [List.map_cons, ← e1], by rw [List.map_cons, ← e2], fun b hp => ?_⟩
    rcases List.mem_cons.mp hp with z | z
    · rw [z]; exact ⟨hk, r1, q⟩
    · exact hb b z

section
variable {X : Cx} {G : Gc} {x : Ex → En → Prop}
/-- set(xs), with the members' keys apart -/
def rSetU (K : PySem.W.Frag) (P : Program) (w : World) : List V → Hp → VK → Prop := fun xs H Q => ∃ (l : Addr) (ks : List (Addr × List Int)), xs = [V.ref l] ∧ SqL K H l (ks.map fun p => V.ref p.1) ∧ (∀ p ∈ ks, SqT K H p.1 (p.2.map V.int)) ∧ ks.length < 64 ∧
  ∀ a L, H a = none → (L.map (·.2)).Nodup → L.length ≤ ks.length → (∀ p ∈ L, p ∈ ks) → (∀ p ∈ ks, p.2 ∈ L.map (·.2)) → Q (.ref a) (upd H a (SetTO P w a L))
theorem cr_setU (hc : X.calm = true) (hu : X.A.units + 64 < cLine) : CallR X (.type "set") (rSetU X.K X.prog X.w) := by
  intro pn s τ H xs us Q I r h
  obtain ⟨l, ks, rfl, hl, hk, few, q⟩ := h
  rw [Vals.ref1 r]
  obtain ⟨its, rv, pl, _⟩ := I.list hl
  have fr : H s.heap.objs.size = none := I.hok.fresh (Nat.le_refl _)
  refine call_set_tups (P := X.prog) (w := X.w) ks (I.ok.hd hc) pl.isList (by simpa using refs_of_vals rv) (fun p hp => I.isT (hk p hp)) few (by omega) fun h' tk L es ep t R g k => ?_
  refine ⟨.ref s.heap.objs.size, _, I.laid (t' := tk) k (Nat.le_refl _) (setTO_new R.t0), rfl, q _ L fr R.nd g.len (fun p hp => List.mem_of_mem_take (g.sub p hp)) fun p hp => g.all p ?_⟩
  rw [List.take_length]
  exact hp
def eSetOf (m : W (List Da)) : W (List Da) := m.bind fun ds => (W.req (ds.length < 60 ∧ ∀ d ∈ ds, (intKey d).isSome = true)).bind fun _ => W.ret ds
theorem p_setOf {e : Expr} {p pos : Pos} {m : W (List Da)} (so : G.so = SetTO X.prog X.w) (hu : X.A.units + 64 < cLine) (hc : X.calm = true) (hg : Gl X "set") (hm : X.mg "set" = none) (he : PE X e (tow X.K G x m))
    (hs : starEach [e] X.env = (false, eval e X.env) :: starEach [] X.env := by rfl) : PE X (.Call (.Name "set" p) [e] [] pos) (tst X.K G x (eSetOf m)) :=
  (pe_callTy (cr_setU hc hu) hg hm rfl (pa_cons he pa_nil hs) (by decide) (by decide) hs).of fun σ H Q ⟨ρ, pe, S, q⟩ => by
  refine ⟨ρ, pe, S, m.mono (fun ds ρ1 q v H1 S1 => ?_) (fun _ _ z => z) q⟩
  obtain ⟨⟨hl, hk⟩, q⟩ := q
  obtain ⟨O, S1⟩ := S1
  obtain ⟨p, xs, ep, op, hp, z, rs, np⟩ := S1.pends.1
  subst ep
  obtain ⟨bs, e1, e2, hb⟩ := keyed_list hk rs
  refine ⟨p, bs.map fun b => (b.1, b.2.1), rfl, .inl (.inl (by rw [hp, e1, List.map_map] <;> rfl)), fun r hr => ?_, by rw [e2, List.length_map] at hl; rw [List.length_map]; omega, fun a L na nd ll hsub hall => ?_⟩
  · obtain ⟨b, hb', e⟩ := List.mem_map.mp hr
    rw [← e]
    exact (hb b hb').2.2
  · obtain ⟨cs, ec, hcs⟩ := list_choice (R := fun (r : Addr × List Int) (b : Addr × List Int × Da) => b ∈ bs ∧ (b.1, b.2.1) = r) (l := L) fun r hr => List.mem_map.mp (hsub r hr)
    -- the members
    have em : L = (cs.map (·.2)).map fun b => (b.1, b.2.1) := by
      rw [ec, List.map_map]
      exact List.map_congr_left fun c hc => (hcs c hc).2.symm
    have hms : ∀ b ∈ cs.map (·.2), b ∈ bs := fun b hb' => by
      obtain ⟨c, hc, e⟩ := List.mem_map.mp hb'
      rw [← e]; exact (hcs c hc).1
    have keys : ((cs.map (·.2)).map (·.2.2)).map Da.key = (L.map (·.2)).map some := by
      rw [em]
      generalize hcs2 : cs.map (·.2) = cs2 at hms
      rw [List.map_map, List.map_map, List.map_map]
      exact List.map_congr_left fun b hb' => (intKey_key (hb b (hms b hb')).1).1
    refine q _ _ ⟨_, S1.pop.pushNew (p := a) (c := .set ds) na trivial ⟨a, cs.map (·.2), rfl, own1_at, by rw [so, ← em]; exact upd_same, S1.pop.notP (o := .lst []) na, ?_, ⟨?_, fun d hd => ?_, fun d hd => ?_⟩, fun b hb' => ?_⟩⟩
    · rw [em, List.length_map, List.length_map, List.length_map] at ll
      rw [List.length_map, e2, List.length_map]
      exact ll
    · rw [keys]
      exact nd.map some (fun a b hne e => hne (Option.some.inj e))
    · obtain ⟨b, hb', e⟩ := List.mem_map.mp hd
      rw [← e, e2]
      exact List.mem_map.mpr ⟨b, hms b hb', rfl⟩
    · rw [keys]
      rw [e2] at hd
      obtain ⟨b, hb', e⟩ := List.mem_map.mp hd
      rw [← e, (intKey_key (hb b hb').1).1]
      exact List.mem_map.mpr ⟨_, hall _ (List.mem_map.mpr ⟨b, hb', rfl⟩), rfl⟩
    · have h := hb b (hms b hb')
      exact ⟨Rep.mono (fun b u e _ => keep_upd na b u e) (fun b u e z => S1.pop.lof1 na e z) _ _ h.2.1, (intKey_key h.1).1⟩

/-! ### list(e) -/
theorem p_list {e : Expr} {p pos : Pos} {m : W Da} (hg : Gl X "list") (hm : X.mg "list" = none) (he : PE X e (tp X.K G x m))
    (hs : starEach [e] X.env = (false, eval e X.env) :: starEach [] X.env := by rfl) : PE X (.Call (.Name "list" p) [e] [] pos) (tow X.K G x (eList m)) :=
  (pe_callTy call_list_of hg hm rfl (pa_cons he pa_nil hs) (by decide) (by decide) hs).of fun σ H Q ⟨ρ, pe, S, q⟩ => by
  refine ⟨ρ, pe, S, m.mono (fun d ρ1 q v H1 S1 => ?_) (fun _ _ z => z) q⟩
  obtain ⟨ds, e, q⟩ := W.opt_wp q
  obtain ⟨O, S1⟩ := S1
  have r := S1.top
  cases d with
  | tup es =>
    cases e
    obtain ⟨a, vs, rfl, hq, z, rs⟩ := rep_tup.mp r
    exact ⟨a, vs, rfl, .inr hq, fun l nl => q _ _ ⟨_, S1.pop.pushOwn nl z rs⟩⟩
  | lst es =>
    cases e
    obtain ⟨a, vs, rfl, hq, z, rs⟩ := rep_lst.mp r
    exact ⟨a, vs, rfl, .inl (LAt.sq hq), fun l nl => q _ _ ⟨_, S1.pop.pushOwn nl z rs⟩⟩
  | scr ns =>
    cases e
    simp only [Rep] at r
    obtain ⟨a, rfl, hq, z⟩ := r
    exact ⟨a, _, rfl, .inl hq.1, fun l nl => q _ _ ⟨_, S1.pop.pushOwn nl (by rw [List.length_map, line_eq]; omega) (intL_reps ns)⟩⟩
  | _ => cases e
end
end Pu
end

section
set_option maxHeartbeats 4000000
/-! Ex1: __init__ of an exception class of the program's own, over another such class: super().__init__(f'..'), self.fld = arg. -/
namespace Ex
open PySem PySem.Spec PyProof.Rows L2 PySem.W

/-- the parts of the f-string -/
inductive Part (arg : Str) : Expr → Prop where
  | text (x : Str) (j p) (h : x.length ≤ 1000) : Part arg (.Constant (.str x) j p)
  | fmt (p p') : Part arg (.FormattedValue (.Name arg p) (-1) none p')
/-- the argument: a short text or a small number -/
def Arg0 (y : V) : Prop := (∃ z : Str, y = .str z ∧ z.length ≤ 1000) ∨ ∃ i : Int, y = .int i ∧ i.natAbs.log2 < 1920 ∧ (PySem.Str.ofString (toString i)).length ≤ 1000
section
variable {P : Program} {w : World} {A : Around} {E : Value → Shared → Prop} {s : Shared} {env : Env} {m : Str → Option Value} {arg : Str} {y : V} {u : Value}
theorem part_ok {e : Expr} {Q : Value → Shared → Prop} (hp : Part arg e) (hy : Arg0 y) (r : RelV y u) (hn : s.heap.Ns env.locals m) (hv : m arg = some u) (hk : env.scope.kind = .function) (hl : env.kindOf arg = some .local) (hd : (arg == ("__debug__" : Str)) = false)
    (q : ∀ (x : Str) t n, x.length ≤ 1000 → Q (.str x t) { s with toks := n }) : wpAny (model P w) A (eval e env) Q E s := by
  cases hp with
  | text x j p h => exact Calls.Constant_str (q x _ _ h)
  | fmt p p' =>
    refine wpAny_FormattedValue_plain (wpAny_Name (wpAny_loadName_local hk hl hn hv ?_) hd)
    rcases hy with ⟨z, rfl, hz⟩ | ⟨i, rfl, h1, h2⟩
    · obtain ⟨t, rfl⟩ := r
      refine wpAny_formatField_str ?_ (q z _ _ hz) (by rw [sizeLine_eq]; omega)
      have h := q z t s.toks hz
      exact h
    · obtain ⟨t, rfl⟩ := r
      exact wpAny_formatField_int h1 (q _ _ _ h2)
theorem parts_ok {Q : Str → Shared → Prop} (hy : Arg0 y) (r : RelV y u) (hv : m arg = some u) (hk : env.scope.kind = .function) (hl : env.kindOf arg = some .local) (hd : (arg == ("__debug__" : Str)) = false) :
    ∀ (es : List Expr) (acc : Str) (s : Shared), (∀ e ∈ es, Part arg e) → acc.length + 1000 * es.length ≤ 1000000 → s.heap.Ns env.locals m → (∀ out n, out.length ≤ 1000000 → Q out { s with toks := n }) →
      Joins (model P w) A E (evalEach es env) acc Q s
  | [], acc, s, _, hz, _, q => by
    rw [show evalEach [] env = [] by first | rfl | simp [evalEach]]
    exact q acc s.toks (by simpa using hz)
  | e :: es, acc, s, hp, hz, hn, q => by
    rw [show evalEach (e :: es) env = eval e env :: evalEach es env by first | rfl | simp [evalEach]]
    refine part_ok (hp e List.mem_cons_self) hy r hn hv hk hl hd fun x t n hx => ?_
    have hz2 : (acc ++ x).length + 1000 * es.length ≤ 1000000 := by
      rw [strLen_append]
      rw [List.length_cons] at hz
      omega
    exact ⟨x, t, rfl, by rw [sizeLine_eq]; omega, parts_ok hy r hv hk hl hd es (acc ++ x) { s with toks := n } (fun c hc => hp c (List.mem_cons_of_mem _ hc)) hz2 hn fun out n' ho => q out n' ho⟩
end

/-- how the call is evaluated (by rfl, once the places are there) -/
def SupEv (p0 p1 p2 p3 p4 : Pos) (v1 v2 : Expr) (vs : List Expr) : Prop := ∀ env : Env, ∃ pl : Sem Bool, eval (.Call (.Attribute (.Call (.Name "super" p0) [] [] p1) "__init__" p2) [.JoinedStr (v1 :: v2 :: vs) p3] [] p4) env = (do
  let ov ← attributeBase (.Call (.Name "super" p0) [] [] p1) "__init__" env (eval (.Call (.Name "super" p0) [] [] p1) env)
  standAt p2.atName
  let (f, first) ← holding [ov] (getMethod ov "__init__" pl)
  callWith p4 f first (backTo p4 (starEach [.JoinedStr (v1 :: v2 :: vs) p3] env)) [])
/-- the class and its __init__, as they stand in the written part -/
structure Ini (P : Program) (K : Frag) (mg : Str → Option Value) (f C : Addr) (fd : FuncData) (arg fld : Str) : Prop where
  oex : OexC K C
  noFld : findIn K (.ref C) fld = some none
  fn : ∃ (name qual : Str) (params : Arguments) (scope : Scope) (dV kV doc pm ct oc : Value) (an od : Option Addr) (osl : Array (Option Value)) (cda cc : Addr) (p0 p1 p2 p3 p4 p5 p6 p7 p8 p9 : Pos) (v1 v2 : Expr) (vs : List Expr),
    fd = ksFn name qual params [.Expr (.Call (.Attribute (.Call (.Name "super" p0) [] [] p1) "__init__" p2) [.JoinedStr (v1 :: v2 :: vs) p3] [] p4) p5, .Assign [.Attribute (.Name "self" p6) fld p7] (.Name arg p8) p9] scope dV kV doc pm an (.ref cda) ct cc ∧
    K.lookup f = some ⟨oc, od, .func fd, osl⟩ ∧ codeIn K (.ref cda) qual = true ∧ (∀ e ∈ v1 :: v2 :: vs, Part arg e) ∧ (v1 :: v2 :: vs).length ≤ 900 ∧
    (∃ ar, (params.posonlyargs ++ params.args).head? = some ar ∧ ar.arg = "self") ∧
    (∃ (ccl : Value) (cdd : Option Addr) (xs : Array Value) (csl : Array (Option Value)) (file : Str) (tf : Tok), K.lookup cda = some ⟨ccl, cdd, .fields xs, csl⟩ ∧ xs[2]? = some (.str file tf) ∧ ((P.main.file : Str) == file) = true) ∧
    (∃ (cl : Value) (cld : Option Addr) (csl : Array (Option Value)), K.lookup cc = some ⟨cl, cld, .cell (some (.ref C)), csl⟩) ∧
    scope.names.lookup ("self" : Str) = some .local ∧ scope.names.lookup arg = some .local ∧ scope.names.lookup ("super" : Str) = some .globalImplicit ∧ scope.names.lookup ("__class__" : Str) = some .free ∧ (∀ x ∈ scope.names, x.2 ≠ .cell) ∧
    scope.isCoroutine = false ∧ scope.isGenerator = false ∧ scope.kind = .function ∧ SupEv p0 p1 p2 p3 p4 v1 v2 vs
  argD : (arg == ("__debug__" : Str)) = false
  argS : arg ≠ "self"
  top : (P.main.scope.names.lookup ("super" : Str)).isSome = false
  sup : mg "super" = none
  mro : mroIn K C (.ref C) = some true
  base : ks_superIn K C C "__init__" = some (some (.builtin "ValueError.__init__"))
  subV : subIn K (.ref C) (.type "ValueError") = some true
  third : nsIn K cStatics "thirdparty.any" = some none

/-- what such an __init__ promises -/
def spI (K : Frag) (C : Addr) (fld : Str) : Sp := fun vs H Q _ => ∃ (a : Addr) (y : V), vs = [.ref a, y] ∧ Arg0 y ∧ H a = some (exo a C none) ∧ ∀ dx, H dx = none → dx ≠ a → Q .non (upd (upd H dx (exd dx [(fld, y)])) a (exo a C (some dx)))

theorem boot_super : bootBuiltins "super" = some (.type "super") := by first | rfl | decide +kernel | kernel_rfl
section
variable {P : Program} {w : World} {K : Frag} {mg : Str → Option Value} {base : Heap} {f C : Addr} {fd : FuncData} {arg fld : Str} {CX : CXT}

/-- the call of what super() found -/
theorem call_mw {A : Around} {E : Value → Shared → Prop} {h : Heap} {g : Array GenState} {d : Drawn} {t : Nat} {os : OsState} {nm q : Str} {N : Addr} {bs bm : List Value} {hd : Bool} {sn : List Str} {sub : List Value} {ab : Bool} {col : Option Bool} {dd : Option Addr} {k0 k1 k2 k3 k5 : Option Value} {u e t0 : Addr} {rest : List Value} {Q : Value → Shared → Prop}
    (hC : h.get? C = some (excClassObj nm q C N bs bm hd sn sub ab col dd k0 k1 k2 k3 k5 "ValueError.__new__")) (he : h.get? e = some ({ cls := .ref C, dict := none, data := .fields #[.ref t0, .none, .none, .none, .bool false, .none] } : Obj)) (hu : h.get? u = some (kxs_mw "ValueError.__init__" e)) (hz : rest.length ≤ sizeLine)
    (fin : ∀ h' t1, (∀ b o, b ≠ e → h.get? b = some o → h'.get? b = some o) → h'.get? e = some ({ cls := .ref C, dict := none, data := .fields #[.ref t1, .none, .none, .none, .bool false, .none] } : Obj) → Q .none ⟨h', g, d, t, os⟩) :
    wpAny (model P w) A (call (.ref u) rest) Q E ⟨h, g, d, t, os⟩ := by
  have FB := F.excBase_ValueError
  refine wpAny_call (codeAny_of_tree ?_)
  show wpAny _ A.in1 (callAny (.ref u) ⟨rest, []⟩) _ _ _
  simp only [callAny]
  refine wpAny_bind (wpAny_load hu ?_)
  simp only [kxs_mw, show (Value.type "method-wrapper" == Value.type "method" || Value.type "method-wrapper" == Value.type "builtin_function_or_method" || Value.type "method-wrapper" == Value.type "method-wrapper") = true by decide, if_true]
  refine KFB.if_so (by decide) ?_
  refine wpAny_bind (check_bound_init FB.toExcCallFacts hC he rfl ?_)
  refine wpAny_bind (wpAny_pure (wpAny_pure ?_))
  refine ⟨plainId_quiet FB.init.plain _, codeAny_builtin FB.initEntry ?_⟩
  exact exc_init_tree (cls := .ref C) (t0 := t0) (dv := none) (c2 := .none) (c3 := .none) (b4 := .bool false) he hz fun h' k e' _ => fin h' _ k e'

theorem init_ok (J : Ini P K mg f C fd arg fld) (k : Nat) : FnOk P w K mg base CX (k + 1) f fd ["self", arg] (spI K C fld) := by
  refine ⟨fun vs H Q E ⟨a, y, e, _⟩ => by rw [e]; rfl, fun A outer s H args us vs Q E hr e0 hb r hsp => ?_⟩
  obtain ⟨a, y, rfl, hy, ha, q⟩ := hsp
  obtain ⟨name, qual, params, scope, dV, kV, doc, pm, ct, oc, an, od, osl, cda, cc, p0, p1, p2, p3, p4, p5, p6, p7, p8, p9, v1, v2, es, rfl, lk, hcode, hparts, hlen, ⟨ar, har, hself⟩, ⟨ccl, cdd, xs, csl, file, tf, hcda, hx2, hfile⟩, ⟨cl, cld, csl2, hcell⟩, n1, n2, n3, n4, ncell, nco, ngen, nk, hev⟩ := J.fn
  cases r with
  | cons ra r => cases r with
    | cons ry r =>
      cases r
      cases ra
      rename_i u
      obtain ⟨nm, qn, N, bs, bm, sn, sub, ab, col, dd, k0, k1, k2, k3, k5, hC, hbm⟩ := J.oex.cls
      have hcl : clsIn K C = some { name := nm, bases := bs, mro := .ref C :: bm, ns := N, qualname := qn, hasDict := true, slotNames := sn, subclasses := sub, abstract := ab, collection := col, hasDel := false } := by unfold clsIn; rw [hC] <;> rfl
      obtain ⟨t1, ho⟩ := exo_at e0.hok ha
      have bk : ∀ b o, base.get? b = some o → s.heap.get? b = some o := fun b o e => (e0.bs b o e).1
      have KX : K.In s.heap := e0.mod.kin.keeps bk
      have lim : s.heap.NoLimit := e0.mod.nolimit.keeps bk
      obtain ⟨mb, hb1, hb2⟩ := e0.mod.blt
      refine ks_codeAny_call_defAt hr.depth (KX _ _ lk) rfl lim (codeRec_of KX hcode) rfl hb ncell (fun z hz => ?_) (fun h0 hns hk0 => ?_) nco ngen nk
      · have hz' : z = (("self" : Str), Value.ref a) ∨ z = (arg, u) := by simpa using hz
        rcases hz' with e | e
        · rw [e]; exact n1
        · rw [e]; exact n2
      have vself : (([("self" : Str), arg].zip [Value.ref a, u]).reverse).lookup ("self" : Str) = some (Value.ref a) := by
        show [(arg, u), (("self" : Str), Value.ref a)].lookup ("self" : Str) = _
        rw [List.lookup_cons, show (("self" : Str) == arg) = false from beq_false_of_ne (Ne.symm J.argS)]
        simp
      have varg : (([("self" : Str), arg].zip [Value.ref a, u]).reverse).lookup arg = some u := by
        show [(arg, u), (("self" : Str), Value.ref a)].lookup arg = _
        simp
      obtain ⟨hh, g, d, tk, os⟩ := s
      dsimp only at hns hk0 ⊢
      have kb0 : ∀ b o, base.get? b = some o → h0.get? b = some o := fun b o e => hk0 b o (bk b o e)
      have X0 : K.In h0 := e0.mod.kin.keeps kb0
      have ho0 := hk0 _ _ ho
      have lk0 := X0 _ _ lk
      have hC0 := X0 _ _ hC
      -- super()
      refine ks_wpAt_execs_cons ?_
      refine ks_wpAt_Expr_any ?_ (hi := by unfold interactive; show (scope.kind == .module && _) = false; rw [nk]; rfl)
      obtain ⟨pl, hev⟩ := hev (callEnv (ksFn name qual params _ scope dV kV doc pm an (.ref cda) ct cc) hh.objs.size f)
      refine ks_wpAt_MethodCall ?_ hev
      refine ks_wpAt_super_base (env := callEnv _ _ _) n3 n4 (by decide) rfl lk0 rfl har rfl (X0 _ _ hcda) rfl hx2 hfile J.top ?_
      refine ks_loadName_global nk n3 (Calls.loadGlobal_builtin (env := callEnv _ _ _) (mg := mg) (mb := mb) (e0.mod.glob.keeps kb0) J.sup (hb1.keeps kb0) ((hb2 _ (by decide)).trans boot_super) ⟨rfl, ?_⟩)
      refine wpAny_loadName_free nk n4 rfl ⟨_, X0 _ _ hcell, rfl⟩ ?_
      rw [hself]
      refine wpAny_loadName_local nk n1 hns vself ?_
      refine ks_wpAny_isType_cls hC0 rfl ⟨rfl, ?_⟩
      refine ks_wpAny_call_super hC0 rfl ho0 rfl (fun c e => by cases e) (looks_mroIn X0 J.mro) (fun h1 hso hk1 => ?_)
      have X1 : K.In h1 := X0.keeps hk1
      have ho1 := hk1 _ _ ho0
      have I1 : InstAt h1 a _ C none := ⟨ho1, rfl, rfl, trivial⟩
      have base1 := J.base
      unfold ks_superIn at base1
      rw [hcl] at base1
      refine kxs_getMethod kxs_ValueError hso (looks_opaque X1 J.third) (l₀ := .ref C :: bm) ((looks_clsIn X1 hcl).andThen .now) rfl X1 base1 (I1.type.andThen (looks_subIn X1 J.subV)) (ks_ne X1 I1 hcl) (by decide) ?_
      have mw : (h1.push (kxs_mw "ValueError.__init__" a)).get? h1.objs.size = some (kxs_mw "ValueError.__init__" a) := Heap.get?_push_at rfl rfl
      have hk2 : ∀ b o, h1.get? b = some o → (h1.push (kxs_mw "ValueError.__init__" a)).get? b = some o := fun b o e => Heap.get?_push_of_some _ e
      have hns2 : (h1.push (kxs_mw "ValueError.__init__" a)).Ns hh.objs.size (fun x => (([("self" : Str), arg].zip [Value.ref a, u]).reverse).lookup x) := (hns.keeps hk1).keeps hk2
      refine kxs_callWith (i := "ValueError.__init__") (x := a) rfl ?_
      refine Calls.evalArgs_plain (Calls.spliced_cons ?_)
      show wpAny _ _ (eval (.JoinedStr (v1 :: v2 :: es) p3) _) _ _ _
      refine wpAny_JoinedStr (parts_ok (env := callEnv (ksFn name qual params _ scope dV kV doc pm an (.ref cda) ct cc) hh.objs.size f) hy ry varg nk n2 J.argD _ _ _ hparts ?_ hns2 fun out n hout => ?_)
      · show 0 + 1000 * _ ≤ 1000000
        omega
      refine ⟨by rw [sizeLine_eq]; omega, Calls.spliced_nil ⟨mw, ?_⟩⟩
      refine call_mw (hk2 _ _ (X1 _ _ hC)) (hk2 _ _ ho1) mw (by rw [sizeLine_eq]; exact (show (1 : Nat) ≤ 16777216 by decide)) fun h3 t3 hk3 ho3 => ?_
      -- self.fld = arg
      have X3 : K.In h3 := fun b o e => hk3 b o (fun z => by
        have e1 := X0 _ _ e
        rw [z, ho0] at e1
        have e2 := Option.some.inj e1
        have lt : ∃ o, base.get? a = some o := ⟨_, by rw [← z]; exact e0.mod.kin _ _ e⟩
        obtain ⟨o', e3⟩ := lt
        have := (e0.bs a o' e3).2
        rw [ha] at this
        cases this) (hk2 _ _ (X1 _ _ e))
      have nL : hh.objs.size ≠ a := fun z => absurd (Heap.lt_size ho) (by rw [← z]; exact Nat.lt_irrefl _)
      have hns3 : h3.Ns hh.objs.size (fun x => (([("self" : Str), arg].zip [Value.ref a, u]).reverse).lookup x) := by
        obtain ⟨oL, e1, ep, e2, r⟩ := hns2
        exact ⟨oL, e1, ep, hk3 _ _ nL e2, r⟩
      refine ks_wpAt_execs_cons (wpAt_of_wpAny ?_)
      refine plainObj_wpAny_Assign_Attribute (wpAny_Name (wpAny_loadName_local nk n2 hns3 varg ?_) J.argD) rfl
      refine wpAny_Name (wpAny_loadName_local nk n1 hns3 vself ?_) (by decide)
      refine set_plain X3 (ox := { cls := .ref C, dict := none, data := .fields #[.ref t3, .none, .none, .none, .bool false, .none] }) (od := none) ⟨ho3, rfl, rfl, trivial⟩ J.oex.sa ?_
      refine PySem.HandSPX.exc_osa X3 ho3 hcl (show PySem.HandSPX.refsVE (.ref C :: bm) = true from hbm) rfl J.noFld (fun h4 tk4 dx hk4 dn dne hx hn => ?_)
      refine wpAt_of_wpAny (wpAny_execs_nil ?_)
      -- the end
      have kk : ∀ b o, b ≠ a → hh.get? b = some o → h4.get? b = some o := fun b o n e => hk4 b o n (hk3 b o n (hk2 b o (hk1 b o (hk0 b o e))))
      have szs : hh.objs.size ≤ dx := by
        obtain ⟨oL, e1, ep, e2, _⟩ := hns3
        exact Nat.le_of_lt (Nat.lt_of_lt_of_le (Heap.lt_size e2) dn)
      have fr : H dx = none := e0.hok.fresh szs
      have nd : ∀ {b : Addr} {o : Obj}, hh.get? b = some o → b ≠ dx := fun {b o} z => Nat.ne_of_lt (Nat.lt_of_lt_of_le (Heap.lt_size z) szs)
      have na : ∀ {b : Addr}, H b = none → b ≠ a := fun {b} n z => by
        rw [z, ha] at n
        cases n
      refine ⟨.non, _, rfl, e0.bare, ⟨fun b o z n _ _ => kk b o (na n) z, fun b o z n _ _ => ⟨o.slots, kk b o (na n) z⟩, fun b o z n _ => ?_, fun b o z _ => ?_, fun b ys z => ?_, fun b o v z => ?_, fun b ps z => ⟨#[], ?_⟩⟩, fun b o z => ?_, rfl, q dx fr dne⟩
      · rw [upd_ne (na n), upd_ne (nd z)]
        exact n
      · by_cases hb : b = a
        · exact ⟨_, by rw [hb]; exact hx⟩
        · exact ⟨o, kk b o hb z⟩
      · rw [upd_ne (at_ne ha z exo_tup), upd_ne (ne_of_none z fr)]
        exact z
      · rw [upd_ne (at_ne ha z exo_frz), upd_ne (ne_of_none z fr)]
        exact z
      · rw [upd_ne (at_ne ha z exo_tbl), upd_ne (ne_of_none z fr), z]
        simp
      · by_cases hb : b = a
        · subst hb
          rw [upd_same] at z
          cases z
          exact exo_ok hx
        · rw [upd_ne hb] at z
          by_cases hd' : b = dx
          · subst hd'
            rw [upd_same] at z
            cases z
            exact exd_ok hn (relO_put (fs := []) ry fun _ => True.intro)
          · rw [upd_ne hd'] at z
            refine (e0.hok b o z).stay (fun c v hc y => kk c v ?_ y) (fun c hc => ?_) (fun c ys hc => ?_)
            · rcases hc with hc | hc
              · rw [hc]; exact hb
              · exact at_ne ha hc exo_own
            · rw [upd_ne (at_ne ha hc exo_own), upd_ne (ne_of_none hc fr)]
              exact hc
            · rw [upd_ne (at_ne ha hc exo_tup), upd_ne (ne_of_none hc fr)]
              exact hc
end
end Ex
end

section
set_option maxHeartbeats 2000000
namespace Pu
open PySem PySem.Spec PyProof.Rows L2

/-! ### raise C(e) -/
/-- what an exception may be made with -/
def ArgD : Da → Prop
  | .str z => z.length ≤ 1000
  | .int i => i.natAbs.log2 < 1920 ∧ (PySem.Str.ofString (toString i)).length ≤ 1000
  | _ => False
theorem argD_arg {K : PySem.W.Frag} {L : Addr → Prop} {H : Hp} {d : Da} {y : V} (h : ArgD d) (r : Rep K L H d y) : Ex.Arg0 y := by
  cases d <;> first | exact h.elim | skip
  · rw [rep_int.mp r]
    exact .inr ⟨_, rfl, h.1, h.2⟩
  · rw [rep_str.mp r]
    exact .inl ⟨_, rfl, h⟩
def sRaise (nm fld : Str) (m : W Da) : Sx := ⟨fun ρ E => m.wp ρ (fun d ρ' => ArgD d ∧ E.ex ⟨nm, fld, d⟩ ρ') E.ex, fun l h => m.mono (fun d ρ' q => ⟨q.1, l.ex _ _ q.2⟩) l.ex h⟩
section
variable {X : Cx} {G : Gc} {x : Ex → En → Prop}
theorem s_raise {C fI : Addr} {k : Nat} {fd : FuncData} {nm arg fld : Str} {e : Expr} {p pos pos' : Pos} {m : W Da} (xo : XOk X G x) (hc : X.calm = true) (T : OexC X.K C) (iC : PySem.W.findIn X.K (.ref C) "__init__" = some (some (.ref fI)))
    (tI : PySem.W.typeIn X.K (.ref fI) = some (.type "function")) (fo : FnOk X.prog X.w X.K X.mg X.base (L2.CX X.prog X.w) k fI fd ["self", arg] (Ex.spI X.K C fld)) (hr : Room (k + 1) X.A) (hb : Binds X.K fd ["self", arg] []) (hg : Gl X nm) (hm : X.mg nm = some (.ref C))
    (ha : PE X e (tp X.K G x m)) (hdb : (nm == ("__debug__" : Str)) = false := by decide) (he : starEach [e] X.env = (false, eval e X.env) :: starEach [] X.env := by rfl) :
    PS X (.Raise (some (.Call (.Name nm p) [e] [] pos)) none pos') (ts X.K G x (sRaise nm fld m)) := by
  obtain ⟨Wx, tk, hW⟩ := xo.ex
  refine (ps_raise hc tk (pmk_oex T iC tI fo hr hb .nil passL hg hm (pa_cons ha pa_nil he) hdb he)).of fun D σ H ⟨ρ, pe, S, q⟩ => ?_
  refine ⟨ρ, pe, S, m.mono (fun d ρ1 q v H1 S1 => ?_) (fun _ _ z => z) q⟩
  obtain ⟨hd, q⟩ := q
  obtain ⟨O, S1⟩ := S1
  refine ⟨show (1 : Nat) ≤ 1000 by decide, fun a na => ?_⟩
  have r := S1.top
  refine ⟨a, v, rfl, argD_arg hd r, upd_same, fun dx nx ne => ?_⟩
  have nx1 : H1 dx = none := by rw [upd_ne ne] at nx; exact nx
  refine ⟨rfl, dx, [(fld, v)], upd_same, ?_, nx1, ?_⟩
  · rw [upd_ne ne]
    exact upd_same
  · have kk : ∀ b u, H1 b = some u → upd (del (upd (upd (upd H1 a (exo a C none)) dx (exd dx [(fld, v)])) a (exo a C (some dx))) a) dx (.xd [(fld, v)]) b = some u := fun b u e => by
      rw [upd_ne (ne_of_none e nx1), del_ne (ne_of_none e na), upd_ne (ne_of_none e na), upd_ne (ne_of_none e nx1), upd_ne (ne_of_none e na)]
      exact e
    exact hW _ ρ1 σ _ _ O C dx q (S1.heap kk) hm ⟨v, upd_same, Rep.mono (fun b u e _ => kk b u e) (fun _ _ _ z => z) _ _ r⟩

/-! ### a def's body from its start: nothing is pending -/
def ts0 (K : PySem.W.Frag) (G : Gc) (x : Ex → En → Prop) (S : Sx) : TS := fun D σ H => ∃ ρ, Sd K G σ ρ [] H ∧ S.wp ρ (flOf K G x σ [] D)
theorem s0 {st : Stmt} {a : Sx} (h : PS X st (ts X.K G x a)) : PS X st (ts0 X.K G x a) := h.of fun D σ H ⟨ρ, S, q⟩ => ⟨ρ, [], S, q⟩
theorem ss0 {st : List Stmt} {a : Sx} (h : PSs X st (ts X.K G x a)) : PSs X st (ts0 X.K G x a) := h.of fun D σ H ⟨ρ, S, q⟩ => ⟨ρ, [], S, q⟩
theorem ss_cons0 {st : Stmt} {rest : List Stmt} {a b : Sx} (h1 : PS X st (ts0 X.K G x a)) (h2 : PSs X rest (ts0 X.K G x b)) : PSs X (st :: rest) (ts0 X.K G x (sSeq a b)) := (pss_cons h1 h2).of fun D σ H ⟨ρ, S, q⟩ =>
  ⟨ρ, S, a.mono (E := { flOf X.K G x σ [] D with nx := fun ρ' => b.wp ρ' (flOf X.K G x σ [] D) }) ⟨fun ρ' q σ' H' S' => ⟨ρ', S', q⟩, fun _ _ z => z, fun _ z => z, fun _ z => z, fun _ _ z => z⟩ q⟩
theorem ss_one0 {st : Stmt} {a : Sx} (h1 : PS X st (ts0 X.K G x a)) : PSs X [st] (ts0 X.K G x a) := pss_one h1
theorem StO.bare {K : PySem.W.Frag} {O : Addr → Option Tg} {σ : L2.St} {ρ : En} {pe : Pend} {H : Hp} (S : StO K G O σ ρ pe H) : StO K G O σ ρ [] H := ⟨S.frame, S.own, S.pools, S.len, S.slots, trivial⟩

/-! ### try: .. except C as n: .. -/
def NoExn (ρ : En) : Prop := ∀ (i : Nat) f w, ρ[i]? ≠ some (some (.exn f w))
theorem StO.exnOf {K : PySem.W.Frag} {O : Addr → Option Tg} {σ : L2.St} {ρ : En} {H : Hp} (S : StO K G O σ ρ [] H) (n : NoExn ρ) (xa : Option (Addr × Addr)) : StO K { G with xa := xa } O σ ρ [] H := by
  refine ⟨S.frame, S.own, S.pools, S.len, fun i c e => ?_, trivial⟩
  obtain ⟨v, h1, h2⟩ := S.slots i c e
  refine ⟨v, h1, ?_⟩
  cases c with
  | dat d => exact h2
  | own ds => exact h2
  | pool => exact h2
  | set ds => exact h2
  | plv po => exact h2
  | me c fs => exact h2
  | odc ks ds => exact h2
  | exn f w => exact absurd e (n i f w)
theorem StO.exnTo {K : PySem.W.Frag} {O : Addr → Option Tg} {σ : L2.St} {ρ : En} {H : Hp} {xa : Option (Addr × Addr)} (S : StO K { G with xa := xa } O σ ρ [] H) (n : NoExn ρ) : StO K G O σ ρ [] H := by
  refine ⟨S.frame, S.own, S.pools, S.len, fun i c e => ?_, trivial⟩
  obtain ⟨v, h1, h2⟩ := S.slots i c e
  refine ⟨v, h1, ?_⟩
  cases c with
  | dat d => exact h2
  | own ds => exact h2
  | pool => exact h2
  | set ds => exact h2
  | plv po => exact h2
  | me c fs => exact h2
  | odc ks ds => exact h2
  | exn f w => exact absurd e (n i f w)
/-- a body with a suite for the exceptions that cat names; slot i is the exception's -/
def sufl (i : Nat) (E : Fl) : Fl := ⟨fun ρ => NoExn (ρ.set i none) ∧ E.nx (ρ.set i none), fun d ρ => NoExn (ρ.set i none) ∧ E.rt d (ρ.set i none), fun ρ => NoExn (ρ.set i none) ∧ E.bk (ρ.set i none), fun ρ => NoExn (ρ.set i none) ∧ E.ct (ρ.set i none), fun _ _ => False⟩
theorem sufl_le {i : Nat} {E E' : Fl} (l : Fl.Le E E') : Fl.Le (sufl i E) (sufl i E') := ⟨fun _ q => ⟨q.1, l.nx _ q.2⟩, fun _ _ q => ⟨q.1, l.rt _ _ q.2⟩, fun _ q => ⟨q.1, l.bk _ q.2⟩, fun _ q => ⟨q.1, l.ct _ q.2⟩, fun _ _ z => z⟩
def tryEx (cat : Str → Option Bool) (i : Nat) (s : Sx) (E : Fl) : Ex → En → Prop := fun e ρ => match cat e.name with
  | some true => NoExn ρ ∧ s.wp (ρ.set i (some (.exn e.fld e.what))) (sufl i E)
  | some false => E.ex e ρ
  | none => False
theorem tryEx_mono {cat : Str → Option Bool} {i : Nat} {s : Sx} {E E' : Fl} (l : Fl.Le E E') (e : Ex) (ρ : En) (h : tryEx cat i s E e ρ) : tryEx cat i s E' e ρ := by
  unfold tryEx at h ⊢
  split
  · rename_i q
    rw [q] at h
    exact ⟨h.1, s.mono (sufl_le l) h.2⟩
  · rename_i q
    rw [q] at h
    exact l.ex _ _ h
  · rename_i q
    rw [q] at h
    exact h
def sTry (cat : Str → Option Bool) (i : Nat) (b s : Sx) : Sx := ⟨fun ρ E => b.wp ρ { E with ex := tryEx cat i s E }, fun {ρ E E'} l h => b.mono (E := { E with ex := tryEx cat i s E }) ⟨l.nx, l.rt, l.bk, l.ct, fun e ρ q => tryEx_mono l e ρ q⟩ h⟩

def lookExn (ρ : En) (i : Nat) (f : Str) : Option Da := match ρ[i]? with
  | some (some (.exn g w)) => if g = f then some w else none
  | _ => none
def eExn (i : Nat) (f : Str) : W Da := W.env.bind fun ρ => W.opt (lookExn ρ i f)
theorem of_lookExn {ρ : En} {i : Nat} {f : Str} {d : Da} (h : lookExn ρ i f = some d) : ρ[i]? = some (some (.exn f d)) := by
  unfold lookExn at h
  split at h
  · rename_i g w e
    split at h
    · rename_i eg
      cases h
      rw [e, eg]
    · cases h
  · cases h
/-- e.f in a suite -/
theorem p_exn {a dd C : Addr} {oe : Obj} {pn : List (Addr × Obj)} {i : Nat} {e : Expr} {f : Str} {pos : Pos} {x : Ex → En → Prop} (T : XfC X.K C) (hno : PySem.W.findIn X.K (.ref C) f = some none) (hz : Zc (.ref C) (some dd) oe) (hf : ∃ vs, oe.data = .fields vs)
    (he : PE (X.suite a ((a, oe) :: pn)) e (tVar i)) (hb : attributeBase e f X.env (eval e X.env) = eval e X.env := by rfl) : PE (X.suite a ((a, oe) :: pn)) (.Attribute e f pos) (tp X.K { G with xa := some (a, dd) } x (eExn i f)) :=
  (pe_xf T hno hz hf he hb).of fun σ H Q ⟨ρ, pe, ⟨O, S⟩, q⟩ => by
    obtain ⟨d, ed, q⟩ := W.opt_wp q
    obtain ⟨v, hv, a', d', y, ev, exa, hd, r⟩ := S.slots i _ (of_lookExn ed)
    subst ev
    cases exa
    exact ⟨_, hv, rfl, rfl, dd, [(f, y)], y, rfl, hd, by simp, q y H ⟨O, S.pushD r⟩⟩

theorem s_try {cn n : Str} {c : Value} {i : Nat} {body suite : List Stmt} {b₀ : Stmt} {np pos pos' : Pos} {cat : Str → Option Bool} {fld : Str} {b s : Sx} (xo : XOk X G x) (hs : X.stack = X.env :: X.outer) (hf : X.env.frame = some X.env.locals) (hN : X.N.Nodup) (hi : X.N[i]? = some n)
    (hln : X.env.kindOf n = some .local) (hc : Names X cn c)
    (hcat : ∀ (nm : Str) (C : Addr), X.mg nm = some (.ref C) → (cat nm = some true → XfC X.K C ∧ PySem.W.findIn X.K (.ref C) fld = some none ∧ PySem.W.exmOne X.K (.ref C) c = some true) ∧ (cat nm = some false → PySem.W.exmOne X.K (.ref C) c = some false))
    (hb : ∀ (pn : List (Addr × Obj)) (xe : Value → Shared → Prop) (x' : Ex → En → Prop), XOk (X.tr pn xe) G x' → PassesOwn (model X.prog X.w) X.A X.env xe → PSs (X.tr pn xe) body (ts0 X.K G x' b))
    (hsu : ∀ (a dd C : Addr) (oe : Obj) (pn : List (Addr × Obj)), XfC X.K C → PySem.W.findIn X.K (.ref C) fld = some none → Zc (.ref C) (some dd) oe → (∃ vs, oe.data = .fields vs) → PSs (X.suite a ((a, oe) :: pn)) (b₀ :: suite) (ts0 X.K { G with xa := some (a, dd) } noEx s)) :
    PS X (.Try body [.ExceptHandler (some (.Name cn np)) (some n) (b₀ :: suite) pos'] [] [] pos) (ts0 X.K G x (sTry cat i b s)) := by
  obtain ⟨Wx, tk, hW⟩ := xo.ex
  have big := ps_try_as (X := X) (x := cn) (n := n) (c := c) (i := i) (body := body) (suite := suite) (b₀ := b₀) (np := np) (pos := pos) (pos' := pos')
    (tb := fun Wt D σ H => ∃ x' : Ex → En → Prop, (∀ (e : Ex) (ρ : En) (σ : L2.St) (pe : Pend) (H : Hp) (O : Addr → Option Tg) (C d : Addr), x' e ρ → StO X.K G O σ ρ pe H → X.mg e.name = some (.ref C) → XdAt X.K (Lof G O) H d e → Wt (.ref C) (some d) σ H) ∧ ts0 X.K G x' b D σ H)
    (ts := fun a cls d D σ H => ∃ C dd, cls = .ref C ∧ d = some dd ∧ XfC X.K C ∧ PySem.W.findIn X.K (.ref C) fld = some none ∧ ts0 X.K { G with xa := some (a, dd) } noEx s D σ H)
    (Wout := Wx) hs hf hN hi hln hc tk (fun Wt pn xe tk' po => ⟨fun pins s1 σ H D I ⟨x', hx', q⟩ => (hb pn xe x' ⟨xo.so, Wt, tk', hx'⟩ po).run pins s1 σ H D I q⟩)
    (fun a oe cls d pn hz hfi => ⟨fun pins s1 σ H D I ⟨C, dd, ec, ed, T, hno, q⟩ => by
      subst ec
      subst ed
      exact (hsu a dd C oe pn T hno hz hfi).run pins s1 σ H D I q⟩)
  refine big.of fun D σ H ⟨ρ, S, q⟩ => ?_
  refine ⟨tryEx cat i s (flOf X.K G x σ [] D), fun e ρ1 σ1 pe1 H1 O1 C d h S1 hC hd => ?_, ρ, S, q⟩
  unfold tryEx at h
  split at h
  · rename_i hcat'
    obtain ⟨nex, h⟩ := h
    obtain ⟨T, hno, hex⟩ := (hcat _ _ hC).1 hcat'
    refine ⟨true, hex, fun _ a na => ?_, fun z => Bool.noConfusion z⟩
    obtain ⟨y, hdx, ry⟩ := hd
    have S2 := (S1.bare.exnOf nex (some (a, d))).forget i (some (.ref a))
    have S3 : StO X.K { G with xa := some (a, d) } (clr O1 (.slot i)) (σ1.set i (some (.ref a))) (ρ1.set i (some (.exn e.fld e.what))) [] H1 := by
      refine ⟨S2.frame, S2.own, S2.pools, by have := S1.len; simpa using this, fun j cc ej => ?_, trivial⟩
      rcases getset ej with ⟨e1, e2, hl⟩ | ⟨nj, ej⟩
      · subst e1
        cases e2
        exact ⟨.ref a, List.getElem?_set_self (by rw [← S1.len]; exact hl), a, d, y, rfl, rfl, hdx, Rep.mono (fun _ _ e _ => e) (fun _ _ _ z => lof_clr z) _ _ ry⟩
      · exact S2.slots j cc (by rw [List.getElem?_set_ne nj]; exact ej)
    refine ⟨C, d, rfl, rfl, T, hno, _, ⟨_, S3⟩, s.mono (E := sufl i (flOf X.K G x σ [] D)) ⟨fun ρ2 q2 σ' H' ⟨O', S'⟩ => ?_, fun dv ρ2 q2 v σ' H' ⟨O', S'⟩ => ?_, fun ρ2 q2 σ' H' ⟨O', S'⟩ => ?_, fun ρ2 q2 σ' H' ⟨O', S'⟩ => ?_, fun _ _ z => z⟩ h⟩
    · exact q2.2 _ H' ⟨_, (S'.forget i none).exnTo q2.1⟩
    · refine q2.2 v σ' H' ⟨O', ?_⟩
      have S4 : StO X.K { G with xa := some (a, d) } O' σ' (ρ2.set i none) [] H' := S'.bare.weak (by have := S'.len; simpa using this) fun j cc ej => by
        rcases getset ej with ⟨_, e, _⟩ | ⟨_, e⟩
        · cases e
        · exact ⟨e, rfl⟩
      exact (S4.exnTo q2.1).pushD S'.top
    · exact q2.2 _ H' ⟨_, (S'.forget i none).exnTo q2.1⟩
    · exact q2.2 _ H' ⟨_, (S'.forget i none).exnTo q2.1⟩
  · rename_i hcat'
    exact ⟨false, (hcat _ _ hC).2 hcat', fun z => absurd z Bool.false_ne_true, fun _ => hW e ρ1 σ1 pe1 H1 O1 C d h S1 hC hd⟩
  · exact h.elim
end

/-- okD for a body that is judged from its start -/
theorem okD0 {P : Program} {w : World} {K : PySem.W.Frag} {mg : Str → Option Value} {base : Heap} {x qual : Str} {st : Stmt} {f : Addr} {fd : FuncData} {N ps : List Str} {k n : Nat} {F : Fn} {b : Sx} (Fu : Fun K x qual st f fd) (S : FnScope N ps (defScope st)) (hn : ps.length = n)
    (hb : ∀ (cdv : Value) (A : Around) (outer : List Env) (s : Shared) (H : Hp) (E : XK) (G : Gc) (xw : Ex → En → Prop), Room k (A.deeper (envOfC qual (defScope st) s.heap.objs.size f cdv)) →
      XOk (cxOf (L2.CX P w) P w K mg base N qual (defScope st) f cdv A outer s H E) G xw → PSs (cxOf (L2.CX P w) P w K mg base N qual (defScope st) f cdv A outer s H E) (defBody st) (ts0 K G xw b))
    (hw : Keeps n N.length F b) : FnOk P w K mg base (L2.CX P w) (k + 1) f fd ps (spD K mg n F) := by
  refine Fu.okX S (fun vs H Q E h => (spD_len vs H Q E h).trans hn.symm) fun cdv A outer s H vs Q E hr ⟨La, ds, l, r, q⟩ => ?_
  refine ⟨_, hb cdv A outer s H E ⟨H, fun _ => False, La, none, SetTO P w⟩ (fun e _ => ∀ C d H', mg e.name = some (.ref C) → (∀ b x, H b = some x → H' b = some x) → XdAt K (fun c => La c ∨ H c = none) H' d e → E (.ref C) (some d) H') hr
    ⟨rfl, fun cls d _ H' => E cls d H', takes_of rfl rfl rfl rfl, fun e ρ σ pe H' O C d hx S' hC hd => hx C d H' hC (fun b y z => (S'.frame b y z fun h => h).1) (hd.mono fun b z => z.2)⟩, ?_⟩
  have hle := scope_le S
  have hvl := r.length
  refine ⟨startE N.length ds, ⟨fun _ => none, ⟨fun b y e _ => ⟨e, rfl⟩, fun p t e => (by cases e), fun p h => h.elim, ?_, fun i c e => ?_, trivial⟩⟩, b.mono (E := flFn _ _) ⟨fun ρ q σ H' ⟨O, S'⟩ => ?_, fun d ρ q v σ H' ⟨O, S'⟩ => ?_, fun _ z => z.elim, fun _ z => z.elim, fun _ _ z => z⟩ (hw ds _ _ l q)⟩
  · rw [startE_len (by omega), start_len (by omega)]
  · obtain ⟨d, h1, rfl⟩ := startE_get e
    obtain ⟨v, h2, h3⟩ := r.getD h1
    exact ⟨v, start_get h2, Rep.mono (fun _ _ e _ => e) (fun _ _ _ z => ⟨rfl, .inl z⟩) _ _ h3⟩
  · exact q .non H' (fun b y z => (S'.frame b y z fun h => h).1) (by simp [Rep])
  · exact q v H' (fun b y z => (S'.frame b y z fun h => h).1) (Rep.mono (fun _ _ e _ => e) (fun _ _ _ z => z.2) _ _ S'.top)
end Pu
end

section
set_option maxHeartbeats 2000000
namespace Pu
open PySem PySem.Spec PyProof.Rows L2

/-! ### own lists in place -/
/-- x[e], len(x): x a list of our own in slot i -/
def eIxO (i : Nat) (m : W Da) : W Da := W.env.bind fun ρ0 => (W.req ((lookOwn ρ0 i).isSome = true)).bind fun _ => m.bind fun d => W.env.bind fun ρ => (W.opt (lookOwn ρ i)).bind fun ds => W.opt (dIdx (.lst ds) d)
def eLenO (i : Nat) : W Da := W.env.bind fun ρ => (W.opt (lookOwn ρ i)).bind fun ds => W.ret (.int ds.length)
/-- e in x, e not in x -/
def eInO (neg : Bool) (i : Nat) (m : W Da) : W Da := m.bind fun d => W.env.bind fun ρ => (W.opt (lookOwn ρ i)).bind fun ds => W.opt (dIn neg d (.lst ds))
/-- x[e1] = e2 -/
def sPut (i : Nat) (m1 m2 : W Da) : Sx := ⟨fun ρ E => m2.wp ρ (fun d ρ1 => (lookOwn ρ1 i).isSome = true ∧ m1.wp ρ1 (fun k ρ2 => ∃ j ds n, asI k = some j ∧ lookOwn ρ2 i = some ds ∧ ixN ds.length j = some n ∧ E.nx (ρ2.set i (some (.own (ds.set n d))))) E.ex) E.ex,
  fun l h => m2.mono (fun d ρ1 q => ⟨q.1, m1.mono (fun k ρ2 ⟨j, ds, n, e1, e2, e3, q⟩ => ⟨j, ds, n, e1, e2, e3, l.nx _ q⟩) l.ex q.2⟩) l.ex h⟩
section
variable {X : Cx} {G : Gc} {x : Ex → En → Prop}
theorem own_slot {K : PySem.W.Frag} {O : Addr → Option Tg} {σ : L2.St} {ρ : En} {pe : Pend} {H : Hp} {i : Nat} (S : StO K G O σ ρ pe H) (h : (lookOwn ρ i).isSome = true) : ∃ p, σ[i]? = some (some (.ref p)) := by
  obtain ⟨ds, e⟩ := Option.isSome_iff_exists.mp h
  obtain ⟨v, hv, p, xs, ev, _⟩ := S.slots i _ (of_lookOwn e)
  exact ⟨p, by rw [hv, ev]⟩
theorem own_at {K : PySem.W.Frag} {O : Addr → Option Tg} {σ : L2.St} {ρ : En} {pe : Pend} {H : Hp} {i : Nat} {p : Addr} {ds : List Da} (S : StO K G O σ ρ pe H) (hp : σ[i]? = some (some (.ref p))) (e : lookOwn ρ i = some ds) :
    ∃ xs, O p = some (.slot i) ∧ H p = some (.lst xs) ∧ ds.length ≤ sizeLine ∧ Reps K (Lof G O) H ds xs ∧ ¬ G.P0 p := by
  obtain ⟨v, hv, p', xs, ev, op, h, z, r, np⟩ := S.slots i _ (of_lookOwn e)
  rw [hp] at hv
  cases hv
  cases ev
  exact ⟨xs, op, h, z, r, np⟩
theorem p_ixOwn {i : Nat} {a b : Expr} {pos : Pos} {m : W Da} (ha : PE X a (tVar i)) (hb : PE X b (tp X.K G x m)) (hs : PlainIx b := by exact fun _ _ => rfl) : PE X (.Subscript a b pos) (tp X.K G x (eIxO i m)) := by
  refine (pe_ix (ix_list (X := X)) ha hb hs).of fun σ H Q ⟨ρ, pe, ⟨O, S⟩, q0, q⟩ => ?_
  obtain ⟨p, hp⟩ := own_slot S q0
  refine ⟨.ref p, hp, ρ, pe, ⟨O, S⟩, m.mono (fun d ρ1 q w H1 ⟨O1, S1⟩ => ?_) (fun _ _ z => z) q⟩
  obtain ⟨ds, e1, q⟩ := W.opt_wp q
  obtain ⟨r, e2, q2⟩ := W.opt_wp (o := dIdx (.lst ds) d) q
  obtain ⟨xs, op, h, z, rs, np⟩ := own_at S1 hp e1
  unfold dIdx at e2
  split at e2
  · obtain ⟨y, h1, h2⟩ := atI_rep rs e2
    exact ⟨p, xs, _, y, rfl, rep_int.mp S1.top, .inl (.inl h), h1, q2 _ _ ⟨O1, S1.pop.pushD h2⟩⟩
  · cases e2
theorem g_put {i : Nat} {a b e : Expr} {pos pos' : Pos} {m1 m2 : W Da} (ha : PE X a (tVar i)) (hb : PE X b (tp X.K G x m1)) (he : PE X e (tp X.K G x m2))
    (hx : ∀ v, assign (.Subscript a b pos) X.env v = (do
      let ov ← holding [v] (eval a X.env)
      let iv ← holding [v, ov] (eval b X.env)
      standAt pos
      holding [v, ov, iv] (setItem ov iv v)
      release [v, ov, iv] []) := by intro _; rfl)
    (hs : swapsWithSole [.Subscript a b pos] e pos'.line X.env = pure false := by rfl) (hw : swappedStores [.Subscript a b pos] e X.env = pure none := by rfl)
    (h1 : (assignEach [.Subscript a b pos] X.env).map (·.2) = [assign (.Subscript a b pos) X.env] := by rfl) : PS X (.Assign [.Subscript a b pos] e pos') (ts X.K G x (sPut i m1 m2)) :=
  (ps_asg he (pg_sub ha hb set_list hx) hs hw h1).of fun D σ H ⟨ρ, pe, S, q⟩ => by
    refine ⟨ρ, pe, S, m2.mono (fun d ρ1 q v H1 ⟨O1, S1⟩ => ?_) (fun _ _ z => z) q⟩
    obtain ⟨q0, q⟩ := q
    obtain ⟨p, hp⟩ := own_slot S1 q0
    refine ⟨.ref p, hp, ρ1, _, ⟨O1, S1⟩, m1.mono (fun k ρ2 q w H2 ⟨O2, S2⟩ => ?_) (fun _ _ z => z) q⟩
    obtain ⟨j, ds, n, e1, e2, e3, q⟩ := q
    have e1 := of_asI e1
    subst e1
    obtain ⟨xs, op, h, z, rs, np⟩ := own_at S2 hp e2
    have rv : Rep X.K (Lof G O2) H2 d v := S2.pop.top
    refine ⟨p, xs, j, n, rfl, rep_int.mp S2.top, h, by rw [rs.length]; exact e3, q σ _ ⟨O2, S2.pop.pop.change (xs := xs) (of_lookOwn e2) hp op (by rw [List.length_set]; exact z) (rs.set n rv)⟩⟩
end

/-! ### the pool, made and drawn from -/
def sPool (i : Nat) (s : Sx) : Sx := ⟨fun ρ E => ∃ ns a b c d e, lookOwn ρ i = some (poolD ns a b c d e) ∧ 0 ≤ a ∧ 0 ≤ c ∧ c < 2147483647 ∧ ns.length ≤ 1000 ∧ s.wp (ρ.set i (some .pool)) E, fun l ⟨ns, a, b, c, d, e, h1, h2, h3, h4, h5, h⟩ => ⟨ns, a, b, c, d, e, h1, h2, h3, h4, h5, s.mono l h⟩⟩
theorem poolD_reps {K : PySem.W.Frag} {L : Addr → Prop} {H : Hp} {ns : List Int} {a b c d e : Int} {xs : List V} (r : Reps K L H (poolD ns a b c d e) xs) : ∃ q, xs = [.ref q, .int a, .int b, .int c, .int d, .int e] ∧ LAt K L H q (ns.map V.int) := by
  simp only [poolD, Reps] at r
  obtain ⟨v0, x0, rfl, r0, v1, x1, rfl, r1, v2, x2, rfl, r2, v3, x3, rfl, r3, v4, x4, rfl, r4, v5, x5, rfl, r5, rfl⟩ := r
  obtain ⟨q, ys, e, hq, _, rs⟩ := rep_lst.mp r0
  rw [ints_vs rs] at hq
  exact ⟨q, by rw [e, rep_int.mp r1, rep_int.mp r2, rep_int.mp r3, rep_int.mp r4, rep_int.mp r5], hq⟩
theorem reps_poolD {K : PySem.W.Frag} {L : Addr → Prop} {H : Hp} {ns : List Int} {a b c d e : Int} {q : Addr} (h : LAt K L H q (ns.map V.int)) (hl : ns.length ≤ 1000) : Reps K L H (poolD ns a b c d e) [.ref q, .int a, .int b, .int c, .int d, .int e] := by
  simp only [poolD, Reps]
  exact ⟨_, _, rfl, rep_lst.mpr ⟨q, _, rfl, h, by rw [List.length_map, line_eq]; omega, intL_reps ns⟩, _, _, rfl, rep_int.mpr rfl, _, _, rfl, rep_int.mpr rfl, _, _, rfl, rep_int.mpr rfl, _, _, rfl, rep_int.mpr rfl, _, _, rfl, rep_int.mpr rfl, rfl⟩
section
variable {X : Cx} {G : Gc} {x : Ex → En → Prop}
theorem StO.toPool {K : PySem.W.Frag} {O : Addr → Option Tg} {σ : L2.St} {ρ : En} {pe : Pend} {H : Hp} {i : Nat} {ns : List Int} {a b c d e : Int} (S : StO K G O σ ρ pe H) (h1 : lookOwn ρ i = some (poolD ns a b c d e)) (h2 : 0 ≤ a) (h3 : 0 ≤ c) (h4 : c < 2147483647) (h5 : ns.length ≤ 1000) :
    StO K G O σ (ρ.set i (some .pool)) pe H := by
  obtain ⟨v, hv, p, xs, ev, op, hp, z, rs, np⟩ := S.slots i _ (of_lookOwn h1)
  obtain ⟨q, rfl, hq⟩ := poolD_reps rs
  refine ⟨S.frame, S.own, S.pools, by simpa using S.len, fun j cc ej => ?_, S.pends⟩
  rcases getset ej with ⟨e1, e2, hl⟩ | ⟨nj, ej⟩
  · subst e1
    cases e2
    exact ⟨v, hv, p, ev, op, q, ns, a, b, c, d, e, hp, hq, h2, h3, h4, h5⟩
  · exact S.slots j cc ej
theorem ss_pool {st : List Stmt} {s : Sx} (i : Nat) (h : PSs X st (ts X.K G x s)) : PSs X st (ts X.K G x (sPool i s)) := h.of fun D σ H ⟨ρ, pe, ⟨O, S⟩, ns, a, b, c, d, e, h1, h2, h3, h4, h5, q⟩ => ⟨_, pe, ⟨O, S.toPool h1 h2 h3 h4 h5⟩, q⟩
end

/-! ### a def that hands out a new list: return e -/
def spO (K : PySem.W.Frag) (n : Nat) (F : List Da → (List Da → Prop) → Prop) : Sp := fun vs H Q _ => ∃ (La : Addr → Prop) (ds : List Da), ds.length = n ∧ Reps K La H ds vs ∧
  F ds (fun es => ∀ p xs H', H p = none → (∀ b x, H b = some x → H' b = some x) → H' p = some (.lst xs) → es.length ≤ sizeLine → Reps K (fun c => (La c ∨ H c = none) ∧ c ≠ p) H' es xs → Q (.ref p) H')
theorem spO_len {K : PySem.W.Frag} {n : Nat} {F : List Da → (List Da → Prop) → Prop} : ∀ vs H Q E, spO K n F vs H Q E → vs.length = n := fun vs H Q E ⟨_, ds, l, r, _⟩ => r.length.trans l
theorem okO {P : Program} {w : World} {K : PySem.W.Frag} {mg : Str → Option Value} {base : Heap} {x qual : Str} {st : Stmt} {f : Addr} {fd : FuncData} {N ps : List Str} {k n : Nat} {F : List Da → (List Da → Prop) → Prop} {e : Expr} {pos : Pos} {m : W (List Da)} (Fu : Fun K x qual st f fd) (S : FnScope N ps (defScope st)) (hn : ps.length = n)
    (hst : defBody st = [.Return (some e) pos])
    (hb : ∀ (cdv : Value) (A : Around) (outer : List Env) (s : Shared) (H : Hp) (E : XK) (G : Gc) (xw : Ex → En → Prop), Room k (A.deeper (envOfC qual (defScope st) s.heap.objs.size f cdv)) →
      XOk (cxOf (L2.CX P w) P w K mg base N qual (defScope st) f cdv A outer s H E) G xw → PE (cxOf (L2.CX P w) P w K mg base N qual (defScope st) f cdv A outer s H E) e (tow K G xw m))
    (hw : ∀ ds k, ds.length = n → F ds k → m.wp (startE N.length ds) (fun es _ => k es) noEx) : FnOk P w K mg base (L2.CX P w) (k + 1) f fd ps (spO K n F) := by
  refine Fu.okX S (fun vs H Q E h => (spO_len vs H Q E h).trans hn.symm) fun cdv A outer s H vs Q E hr ⟨La, ds, l, r, q⟩ => ?_
  rw [hst]
  refine ⟨_, pss_one (ps_ret (hb cdv A outer s H E ⟨H, fun _ => False, La, none, SetTO P w⟩ noEx hr (XOk.no rfl))), ?_⟩
  have hle := scope_le S
  have hvl := r.length
  refine ⟨startE N.length ds, [], ⟨fun _ => none, ⟨fun b y e _ => ⟨e, rfl⟩, fun p t e => (by cases e), fun p h => h.elim, ?_, fun i c e => ?_, trivial⟩⟩, m.mono (fun es ρ q v H' ⟨O, S'⟩ => ?_) (fun _ _ z => z) (hw ds _ l q)⟩
  · rw [startE_len (by omega), start_len (by omega)]
  · obtain ⟨d, h1, rfl⟩ := startE_get e
    obtain ⟨v, h2, h3⟩ := r.getD h1
    exact ⟨v, start_get h2, Rep.mono (fun _ _ e _ => e) (fun _ _ _ z => ⟨rfl, .inl z⟩) _ _ h3⟩
  · obtain ⟨p, xs, ev, op, hp, z, rs, np⟩ := S'.pends.1
    subst ev
    have h0 : H p = none := by
      cases e : H p with
      | none => rfl
      | some o =>
        have z := (S'.frame p o e fun h => h).2
        rw [op] at z
        cases z
    exact q p xs H' h0 (fun b y z => (S'.frame b y z fun h => h).1) hp z (Reps.mono (fun _ _ e _ => e) (fun b _ _ z => ⟨z.2, fun e => by
      have z1 := z.1
      rw [e, op] at z1
      cases z1⟩) _ _ rs)
/-- f(..) that hands out a new list -/
def eCallO (F : List Da → (List Da → Prop) → Prop) (hF : ∀ as k k', (∀ d, k d → k' d) → F as k → F as k') (n : Nat) (a : W (List Da)) : W (List Da) := a.bind fun ds => (W.req (ds.length = n)).bind fun _ => ⟨fun ρ k x => F ds (fun es => k es ρ), fun hk hx h => hF _ _ _ (fun es q => hk _ _ q) h⟩
section
variable {X : Cx} {G : Gc} {x : Ex → En → Prop} {k : Nat} {f : Addr} {fd : FuncData} {ps : List Str} {n : Nat} {nm : Str} {p pos : Pos} {e : Expr} {es : List Expr} {ma : W (List Da)} {F : List Da → (List Da → Prop) → Prop}
theorem StO.pushH {K : PySem.W.Frag} {O : Addr → Option Tg} {σ : L2.St} {ρ : En} {pe : Pend} {H H' : Hp} {p : Addr} {ds : List Da} {xs : List V} (S : StO K G O σ ρ pe H) (np : H p = none) (kk : ∀ b x, H b = some x → H' b = some x) (hp : H' p = some (.lst xs)) (z : ds.length ≤ sizeLine)
    (r : Reps K (fun c => (Lof G O c ∨ H c = none) ∧ c ≠ p) H' ds xs) : StO K G (own1 O p pe.length) σ ρ ((.ref p, .own ds) :: pe) H' := by
  have ne : ∀ {b : Addr} {u : HO}, H b = some u → b ≠ p := fun {b u} e => ne_of_none e np
  have hk : Keep (Lof G O) H H' := fun b u e _ => kk b u e
  have l1 : ∀ {b}, Lof G O b → b ≠ p → Lof G (own1 O p pe.length) b := fun {b} h n => ⟨(if_neg n).trans (clr_none h.1), h.2⟩
  have hl : ∀ b u, H b = some u → Lof G O b → Lof G (own1 O p pe.length) b := fun b u e h => l1 h (ne e)
  have ow : ∀ {q t}, O q = some t → t ≠ .pend pe.length → H' q = H q ∧ own1 O p pe.length q = some t := fun {q t} e n => by
    obtain ⟨u, hu, _⟩ := S.own q t e
    exact ⟨(kk q u hu).trans hu.symm, (if_neg (ne hu)).trans (clr_ne e n)⟩
  refine ⟨fun b u e n => ?_, fun q t h => ?_, fun q hq => ?_, S.len, fun i c e => ?_, ⟨p, xs, rfl, own1_at, hp, z, Reps.mono (fun _ _ e _ => e) (fun b _ _ z => ?_) _ _ r, S.notP (o := .lst []) np⟩, ?_⟩
  · obtain ⟨h1, h2⟩ := S.frame b u e n
    exact ⟨kk b u h1, (if_neg (ne h1)).trans (clr_none h2)⟩
  · by_cases e : q = p
    · subst e
      exact ⟨_, hp, trivial⟩
    · unfold own1 at h
      rw [if_neg e] at h
      obtain ⟨u, hu, c⟩ := S.own q t (of_clr h).1
      exact ⟨u, kk q u hu, c⟩
  · obtain ⟨h, n⟩ := S.pools q hq
    have h' := h
    obtain ⟨_, _, _, _, _, _, _, e, _⟩ := h'
    exact ⟨h.mono hk hl (by rw [e]; exact kk _ _ e), n⟩
  · obtain ⟨w, h1, h2⟩ := S.slots i c e
    exact ⟨w, h1, h2.mono hk hl fun q e => ow e (fun z => by cases z)⟩
  · exact z.1.elim (fun z1 => l1 z1 z.2) (fun z1 => l1 (S.fresh z1) z.2)
  · exact S.pends.mono hk hl fun j hj q e => ow e (fun z => by cases z; omega)
theorem p_callO {hF} (fo : FnOk X.prog X.w X.K X.mg X.base (L2.CX X.prog X.w) k f fd ps (spO X.K n F)) (hr : Room k X.A) (hg : Gl X nm) (hm : X.mg nm = some (.ref f)) (hk : PySem.W.keepIn X.K (.ref f) = true) (hb : Binds X.K fd ps [])
    (ha : PA X (e :: es) (tar X.K G x ma)) (hdb : (nm == ("__debug__" : Str)) = false := by decide) (he : starEach (e :: es) X.env = (false, eval e X.env) :: starEach es X.env := by rfl) (hpl : (backTo pos (starEach es X.env)).any (·.1) = false := by rfl) :
    PE X (.Call (.Name nm p) (e :: es) [] pos) (tow X.K G x (eCallO F hF n ma)) :=
  (pe_call fo hr hg hm hk hb .nil passL ha hdb he hpl).of fun σ H Q ⟨ρ, pe, S, q⟩ => by
    refine ⟨ρ, pe, S, ma.mono (fun ds ρ1 ⟨hl, q⟩ vs H1 l ⟨O, S1⟩ => ?_) (fun _ _ z => z) q⟩
    obtain ⟨S2, rs⟩ := pushAll_pop l S1
    show spO X.K n F (vs ++ []) H1 Q E0
    rw [List.append_nil]
    exact ⟨Lof G O, ds, hl, rs, hF _ _ _ (fun es q p xs H' np kk hp z r => q _ H' ⟨_, S2.pushH np kk hp z r⟩) q⟩
end

/-! ### the pool in slot i, opened -/
def lookP (ρ : En) (i : Nat) : Option (List Da) := match ρ[i]? with
  | some (some (.plv po)) => some po
  | _ => none
theorem of_lookP {ρ : En} {i : Nat} {po : List Da} (h : lookP ρ i = some po) : ρ[i]? = some (some (.plv po)) := by
  unfold lookP at h
  split at h
  · cases h; assumption
  · cases h
def eIxP (i : Nat) (m : W Da) : W Da := W.env.bind fun ρ0 => (W.req ((lookP ρ0 i).isSome = true)).bind fun _ => m.bind fun d => W.env.bind fun ρ => (W.opt (lookP ρ i)).bind fun ds => W.opt (dIdx (.lst ds) d)
def sPutP (i : Nat) (m1 m2 : W Da) : Sx := ⟨fun ρ E => m2.wp ρ (fun d ρ1 => (lookP ρ1 i).isSome = true ∧ m1.wp ρ1 (fun k ρ2 => ∃ j ds n, asI k = some j ∧ lookP ρ2 i = some ds ∧ ixN ds.length j = some n ∧ PoolOk (ds.set n d) ∧ E.nx (ρ2.set i (some (.plv (ds.set n d))))) E.ex) E.ex,
  fun l h => m2.mono (fun d ρ1 q => ⟨q.1, m1.mono (fun k ρ2 ⟨j, ds, n, e1, e2, e3, e4, q⟩ => ⟨j, ds, n, e1, e2, e3, e4, l.nx _ q⟩) l.ex q.2⟩) l.ex h⟩
def sOpen (i : Nat) (s : Sx) : Sx := ⟨fun ρ E => ρ[i]? = some (some .pool) ∧ ∀ po, PoolOk po → s.wp (ρ.set i (some (.plv po))) E, fun l h => ⟨h.1, fun po ok => s.mono l (h.2 po ok)⟩⟩
section
variable {X : Cx} {G : Gc} {x : Ex → En → Prop}
theorem plv_at {K : PySem.W.Frag} {O : Addr → Option Tg} {σ : L2.St} {ρ : En} {pe : Pend} {H : Hp} {i : Nat} {p : Addr} {ds : List Da} (S : StO K G O σ ρ pe H) (hp : σ[i]? = some (some (.ref p))) (e : lookP ρ i = some ds) :
    ∃ xs, O p = some (.slot i) ∧ H p = some (.lst xs) ∧ Reps K (Lof G O) H ds xs ∧ PoolOk ds := by
  obtain ⟨v, hv, p', xs, ev, op, h, r, ok⟩ := S.slots i _ (of_lookP e)
  rw [hp] at hv
  cases hv
  cases ev
  exact ⟨xs, op, h, r, ok⟩
theorem plv_slot {K : PySem.W.Frag} {O : Addr → Option Tg} {σ : L2.St} {ρ : En} {pe : Pend} {H : Hp} {i : Nat} (S : StO K G O σ ρ pe H) (h : (lookP ρ i).isSome = true) : ∃ p, σ[i]? = some (some (.ref p)) := by
  obtain ⟨ds, e⟩ := Option.isSome_iff_exists.mp h
  obtain ⟨v, hv, p, xs, ev, _⟩ := S.slots i _ (of_lookP e)
  exact ⟨p, by rw [hv, ev]⟩
theorem p_ixP {i : Nat} {a b : Expr} {pos : Pos} {m : W Da} (ha : PE X a (tVar i)) (hb : PE X b (tp X.K G x m)) (hs : PlainIx b := by exact fun _ _ => rfl) : PE X (.Subscript a b pos) (tp X.K G x (eIxP i m)) := by
  refine (pe_ix (ix_list (X := X)) ha hb hs).of fun σ H Q ⟨ρ, pe, ⟨O, S⟩, q0, q⟩ => ?_
  obtain ⟨p, hp⟩ := plv_slot S q0
  refine ⟨.ref p, hp, ρ, pe, ⟨O, S⟩, m.mono (fun d ρ1 q w H1 ⟨O1, S1⟩ => ?_) (fun _ _ z => z) q⟩
  obtain ⟨ds, e1, q⟩ := W.opt_wp q
  obtain ⟨r, e2, q2⟩ := W.opt_wp (o := dIdx (.lst ds) d) q
  obtain ⟨xs, op, h, rs, _⟩ := plv_at S1 hp e1
  unfold dIdx at e2
  split at e2
  · obtain ⟨y, h1, h2⟩ := atI_rep rs e2
    exact ⟨p, xs, _, y, rfl, rep_int.mp S1.top, .inl (.inl h), h1, q2 _ _ ⟨O1, S1.pop.pushD h2⟩⟩
  · cases e2
theorem pool_of {K : PySem.W.Frag} {L : Addr → Prop} {H : Hp} {po : List Da} {xs : List V} {p : Addr} (hp : H p = some (.lst xs)) (r : Reps K L H po xs) (ok : PoolOk po) : PoolAt K L H p := by
  obtain ⟨ns, a, b, c, d, e, rfl, h1, h2, h3, h4⟩ := ok
  obtain ⟨q, rfl, hq⟩ := poolD_reps r
  exact ⟨q, ns, a, b, c, d, e, hp, hq, h1, h2, h3, h4⟩
theorem StO.changeP {K : PySem.W.Frag} {O : Addr → Option Tg} {σ : L2.St} {ρ : En} {pe : Pend} {H : Hp} {ds es : List Da} {i : Nat} {p : Addr} {ys : List V} (S : StO K G O σ ρ pe H) (h : lookP ρ i = some ds) (hv : σ[i]? = some (some (.ref p)))
    (ok : PoolOk es) (r : Reps K (Lof G O) H es ys) : StO K G O σ (ρ.set i (some (.plv es))) pe (upd H p (.lst ys)) := by
  obtain ⟨xs, op, hp, _, _⟩ := plv_at S hv h
  have hk : Keep (Lof G O) H (upd H p (.lst ys)) := fun b x e k => by
    rw [upd_ne]
    · exact e
    · rintro rfl
      rcases k with k | k
      · have k1 := k.1
        rw [op] at k1
        cases k1
      · rw [hp] at e
        cases e
        exact k trivial
  have hl : ∀ b x, H b = some x → Lof G O b → Lof G O b := fun _ _ _ h => h
  have r' : Reps K (Lof G O) (upd H p (.lst ys)) es ys := Reps.mono hk hl _ _ r
  refine ⟨fun b x e n => ⟨?_, (S.frame b x e n).2⟩, fun q t h => ?_, fun q hq => ?_, by simpa using S.len, fun j c h => ?_, ?_⟩
  · rw [upd_ne]
    · exact (S.frame b x e n).1
    · rintro rfl
      rw [(S.frame b x e n).2] at op
      cases op
  · by_cases e : q = p
    · subst e
      exact ⟨_, upd_same, trivial⟩
    · rw [upd_ne e]
      exact S.own q t h
  · obtain ⟨h1, h2⟩ := S.pools q hq
    by_cases e : q = p
    · subst e
      exact ⟨pool_of upd_same r' ok, h2⟩
    · exact ⟨h1.mono hk hl (upd_ne e), h2⟩
  · rcases getset h with ⟨e1, e2, _⟩ | ⟨n, h⟩
    · subst e1
      cases e2
      exact ⟨_, hv, p, ys, rfl, op, upd_same, r', ok⟩
    · obtain ⟨w, h1, h2⟩ := S.slots j c h
      exact ⟨w, h1, h2.mono hk hl (fun q e => ⟨upd_ne (fun q' => by
        rw [q', op] at e
        cases e
        exact n rfl), e⟩)⟩
  · exact S.pends.mono hk hl (fun j hj q e => ⟨upd_ne (fun q' => by
      rw [q', op] at e
      cases e), e⟩)
theorem g_putP {i : Nat} {a b e : Expr} {pos pos' : Pos} {m1 m2 : W Da} (ha : PE X a (tVar i)) (hb : PE X b (tp X.K G x m1)) (he : PE X e (tp X.K G x m2))
    (hx : ∀ v, assign (.Subscript a b pos) X.env v = (do
      let ov ← holding [v] (eval a X.env)
      let iv ← holding [v, ov] (eval b X.env)
      standAt pos
      holding [v, ov, iv] (setItem ov iv v)
      release [v, ov, iv] []) := by intro _; rfl)
    (hs : swapsWithSole [.Subscript a b pos] e pos'.line X.env = pure false := by rfl) (hw : swappedStores [.Subscript a b pos] e X.env = pure none := by rfl)
    (h1 : (assignEach [.Subscript a b pos] X.env).map (·.2) = [assign (.Subscript a b pos) X.env] := by rfl) : PS X (.Assign [.Subscript a b pos] e pos') (ts X.K G x (sPutP i m1 m2)) :=
  (ps_asg he (pg_sub ha hb set_list hx) hs hw h1).of fun D σ H ⟨ρ, pe, S, q⟩ => by
    refine ⟨ρ, pe, S, m2.mono (fun d ρ1 q v H1 ⟨O1, S1⟩ => ?_) (fun _ _ z => z) q⟩
    obtain ⟨q0, q⟩ := q
    obtain ⟨p, hp⟩ := plv_slot S1 q0
    refine ⟨.ref p, hp, ρ1, _, ⟨O1, S1⟩, m1.mono (fun k ρ2 q w H2 ⟨O2, S2⟩ => ?_) (fun _ _ z => z) q⟩
    obtain ⟨j, ds, n, e1, e2, e3, e4, q⟩ := q
    have e1 := of_asI e1
    subst e1
    obtain ⟨xs, op, h, rs, ok⟩ := plv_at S2 hp e2
    have rv : Rep X.K (Lof G O2) H2 d v := S2.pop.top
    refine ⟨p, xs, j, n, rfl, rep_int.mp S2.top, h, by rw [rs.length]; exact e3, q σ _ ⟨O2, S2.pop.pop.changeP e2 hp e4 (rs.set n rv)⟩⟩
theorem ss_open {st : List Stmt} {s : Sx} (i : Nat) (h : PSs X st (ts X.K G x s)) : PSs X st (ts X.K G x (sOpen i s)) := h.of fun D σ H ⟨ρ, pe, ⟨O, S⟩, h0, q⟩ => by
  obtain ⟨v, hv, p, ev, op, q0, ns, a, b, c, d, e, hp, hq, h1, h2, h3, h4⟩ := S.slots i _ h0
  refine ⟨_, pe, ⟨O, S.frame, S.own, S.pools, by simpa using S.len, fun j cc ej => ?_, S.pends⟩, q (poolD ns a b c d e) ⟨ns, a, b, c, d, e, rfl, h1, h2, h3, h4⟩⟩
  rcases getset ej with ⟨e1, e2, hl⟩ | ⟨nj, ej⟩
  · subst e1
    cases e2
    exact ⟨v, hv, p, _, ev, op, hp, reps_poolD hq h4, ns, a, b, c, d, e, rfl, h1, h2, h3, h4⟩
  · exact S.slots j cc ej
end
end Pu
end

section
namespace Pu
open PySem PySem.Spec PyProof.Rows L2

/-! ### objects of the program's own classes -/
theorem rep_obj {K : PySem.W.Frag} {L : Addr → Prop} {H : Hp} {c : Addr} {ns : List Str} {ds : List Da} {v : V} : Rep K L H (.obj c ns ds) v ↔ ∃ a dx fs, v = .ref a ∧ (H a = some (.ins c dx fs) ∧ L a) ∧ fs.map (·.1) = ns ∧ Reps K L H ds (fs.map (·.2)) := by
  simp only [Rep]
def Da.fld (C : Addr) (f : Str) : Da → Option Da
  | .obj c ns xs => if c = C then (ns.zip xs).lookup f else none
  | _ => none
/-- no field of that name -/
def Da.noFld (C : Addr) (m : Str) : Da → Bool
  | .obj c ns _ => decide (c = C) && !(ns.contains m)
  | _ => false
theorem flds_get {K : PySem.W.Frag} {L : Addr → Prop} {H : Hp} {f : Str} {d : Da} : ∀ {fs : List (Str × V)} {xs : List Da}, Reps K L H xs (fs.map (·.2)) → ((fs.map (·.1)).zip xs).lookup f = some d → ∃ v, fs.lookup f = some v ∧ Rep K L H d v
  | [], xs, r, e => by simp at e
  | (g, v) :: fs, [], r, e => by simp at e
  | (g, v) :: fs, x :: xs, r, e => by
    simp only [List.map_cons, Reps] at r
    obtain ⟨y, ys, e1, r1, r2⟩ := r
    cases e1
    simp only [List.map_cons, List.zip_cons_cons, List.lookup_cons] at e ⊢
    split at e
    · cases e
      exact ⟨_, rfl, r1⟩
    · exact flds_get r2 e
theorem flds_none {m : Str} : ∀ {fs : List (Str × V)}, (fs.map (·.1)).contains m = false → fs.lookup m = none
  | [], _ => rfl
  | (g, v) :: fs, e => by
    simp only [List.map_cons, List.contains_cons, Bool.or_eq_false_iff] at e
    simp only [List.lookup_cons]
    have h1 : (m == g) = false := e.1
    rw [h1]
    exact flds_none e.2
theorem of_fld {C : Addr} {f : Str} {u : Da} : ∀ {d : Da}, d.fld C f = some u → ∃ ns xs, d = .obj C ns xs ∧ (ns.zip xs).lookup f = some u
  | .obj c ns xs, e => by
    simp only [Da.fld] at e
    by_cases hc : c = C
    · subst hc
      rw [if_pos rfl] at e
      exact ⟨ns, xs, rfl, e⟩
    · rw [if_neg hc] at e
      cases e
  | .non, e => by cases e
  | .bl _, e => by cases e
  | .int _, e => by cases e
  | .str _, e => by cases e
  | .tup _, e => by cases e
  | .lst _, e => by cases e
  | .scr _, e => by cases e
  | .dct _ _, e => by cases e
theorem of_noFld {C : Addr} {m : Str} : ∀ {d : Da}, d.noFld C m = true → ∃ ns xs, d = .obj C ns xs ∧ ns.contains m = false
  | .obj c ns xs, h => by
    simp only [Da.noFld, Bool.and_eq_true, decide_eq_true_eq, Bool.not_eq_true'] at h
    obtain ⟨rfl, h⟩ := h
    exact ⟨ns, xs, rfl, h⟩
  | .non, e => by cases e
  | .bl _, e => by cases e
  | .int _, e => by cases e
  | .str _, e => by cases e
  | .tup _, e => by cases e
  | .lst _, e => by cases e
  | .scr _, e => by cases e
  | .dct _ _, e => by cases e
def eFld (C : Addr) (f : Str) (m : W Da) : W Da := m.bind fun d => W.opt (d.fld C f)
section
variable {X : Cx} {G : Gc} {x : Ex → En → Prop} {C : Addr}
theorem p_fld {e : Expr} {f : Str} {pos : Pos} {m : W Da} (c : Cls X.K C) (n : NoAttr X.K C f) (he : PE X e (tp X.K G x m)) (hb : attributeBase e f X.env (eval e X.env) = eval e X.env := by rfl) : PE X (.Attribute e f pos) (tp X.K G x (eFld C f m)) :=
  (pe_fld he hb).of fun σ H Q ⟨ρ, pe, S, q⟩ => by
    refine ⟨ρ, pe, S, m.mono (fun d ρ1 q v H1 ⟨O, S1⟩ => ?_) (fun _ _ z => z) q⟩
    obtain ⟨u, e1, q2⟩ := W.opt_wp q
    obtain ⟨ns, xs, ed, e3⟩ := of_fld e1
    obtain ⟨a, dx, fs, ev, ⟨ha, _⟩, hn, rs⟩ := rep_obj.mp (ed ▸ S1.top)
    rw [← hn] at e3
    obtain ⟨y, h1, h2⟩ := flds_get rs e3
    exact ⟨a, C, dx, fs, y, ev, ha, c, n, h1, q2 _ _ ⟨O, S1.pop.pushD h2⟩⟩
end

/-! ### a method that raises nothing -/
def eMeth (C : Addr) (m : Str) (F : Fn) (n : Nat) (o : W Da) (a : W (List Da)) : W Da := o.bind fun d => (W.req (d.noFld C m = true)).bind fun _ => a.bind fun ds => (W.req (ds.length = n)).bind fun _ => ⟨fun ρ k _ => F.wp (d :: ds) (fun d => k d ρ) (fun _ => False), fun hk hx h => F.mono (fun d q => hk _ _ q) (fun e q => q) h⟩
section
variable {X : Cx} {G : Gc} {x : Ex → En → Prop} {C : Addr} {k : Nat} {f : Addr} {fd : FuncData} {ps : List Str} {F : Fn} {n : Nat} {m : Str} {p pos apos : Pos} {o e : Expr} {es : List Expr} {mo : W Da} {ma : W (List Da)}
theorem obj_noFld {K : PySem.W.Frag} {L : Addr → Prop} {H : Hp} {d : Da} {v : V} (r : Rep K L H d v) (h : d.noFld C m = true) : ∃ a dx fs, v = .ref a ∧ H a = some (.ins C dx fs) ∧ fs.lookup m = none := by
  obtain ⟨ns, xs, ed, h1⟩ := of_noFld h
  obtain ⟨a, dx, fs, ev, ⟨ha, _⟩, hn, _⟩ := rep_obj.mp (ed ▸ r)
  rw [← hn] at h1
  exact ⟨a, dx, fs, ev, ha, flds_none h1⟩
theorem p_meth {pl : Sem Bool} (c : Cls X.K C) (hm : Meth X.K C m f) (fo : FnOk X.prog X.w X.K X.mg X.base (L2.CX X.prog X.w) k f fd ps (spD X.K X.mg (n + 1) F)) (hr : Room k X.A) (hb : Binds X.K fd ps []) (ho : PE X o (tp X.K G x mo)) (ha : PA X (e :: es) (tar X.K G x ma))
    (hst : starEach (e :: es) X.env = (false, eval e X.env) :: starEach es X.env := by rfl) (hpl : (backTo pos (starEach es X.env)).any (·.1) = false := by rfl)
    (ht : eval (.Call (.Attribute o m apos) (e :: es) [] pos) X.env = (do
      let ov ← eval o X.env
      standAt apos.atName
      let (f, first) ← holding [ov] (getMethod ov m pl)
      callWith pos f first (backTo pos (starEach (e :: es) X.env)) (backToKw pos (keywordEach [] X.env))) := by rfl) :
    PE X (.Call (.Attribute o m apos) (e :: es) [] pos) (tp X.K G x (eMeth C m F n mo ma)) :=
  (pe_meth ho c hm fo hr hb .nil passL ha hst hpl ht).of fun σ H Q ⟨ρ, pe, S, q⟩ => by
    refine ⟨ρ, pe, S, mo.mono (fun d ρ1 q v H1 ⟨O1, S1⟩ => ?_) (fun _ _ z => z) q⟩
    obtain ⟨q0, q⟩ := q
    obtain ⟨a, dx, fs, rfl, h1, h2⟩ := obj_noFld S1.top q0
    refine ⟨a, dx, fs, rfl, h1, h2, ρ1, _, ⟨O1, S1⟩, ma.mono (fun ds ρ2 ⟨hl, q⟩ vs H2 l ⟨O, S2⟩ => ?_) (fun _ _ z => z) q⟩
    obtain ⟨S3, rs⟩ := pushAll_pop l S2
    show spD X.K X.mg (n + 1) F (V.ref a :: (vs ++ [])) H2 Q E0
    rw [List.append_nil]
    refine ⟨Lof G O, d :: ds, by simp [hl], ?_, F.mono (fun d' q v H' kk r => q v H' ⟨O, S3.pop.result kk r⟩) (fun _ z => z.elim) q⟩
    simp only [Reps]
    exact ⟨_, _, rfl, S3.top, rs⟩
theorem p_meth0 {pl : Sem Bool} (c : Cls X.K C) (hm : Meth X.K C m f) (fo : FnOk X.prog X.w X.K X.mg X.base (L2.CX X.prog X.w) k f fd ps (spD X.K X.mg 1 F)) (hr : Room k X.A) (hb : Binds X.K fd ps []) (ho : PE X o (tp X.K G x mo))
    (ht : eval (.Call (.Attribute o m apos) [] [] pos) X.env = (do
      let ov ← eval o X.env
      standAt apos.atName
      let (f, first) ← holding [ov] (getMethod ov m pl)
      callWith pos f first (backTo pos (starEach [] X.env)) (backToKw pos (keywordEach [] X.env))) := by rfl) :
    PE X (.Call (.Attribute o m apos) [] [] pos) (tp X.K G x (eMeth C m F 0 mo eNil)) :=
  (pe_meth0 ho c hm fo hr hb .nil passL ht).of fun σ H Q ⟨ρ, pe, S, q⟩ => by
    refine ⟨ρ, pe, S, mo.mono (fun d ρ1 q v H1 ⟨O, S1⟩ => ?_) (fun _ _ z => z) q⟩
    obtain ⟨q0, _, q⟩ := q
    obtain ⟨a, dx, fs, rfl, h1, h2⟩ := obj_noFld S1.top q0
    refine ⟨a, dx, fs, rfl, h1, h2, ?_⟩
    show spD X.K X.mg 1 F (V.ref a :: ([] ++ [])) H1 Q E0
    refine ⟨Lof G O, [d], rfl, ?_, F.mono (fun d' q v H' kk r => q v H' ⟨O, S1.pop.result kk r⟩) (fun _ z => z.elim) q⟩
    simp only [Reps]
    exact ⟨_, _, rfl, S1.top, rfl⟩
end
end Pu
end

section
namespace Pu
open PySem PySem.Spec PyProof.Rows L2

/-! ### self in an __init__: slot i -/
def lookMe (ρ : En) (i : Nat) : Option (Addr × List (Str × Da)) := match ρ[i]? with
  | some (some (.me c fs)) => some (c, fs)
  | _ => none
theorem of_lookMe {ρ : En} {i : Nat} {z : Addr × List (Str × Da)} (h : lookMe ρ i = some z) : ρ[i]? = some (some (.me z.1 z.2)) := by
  unfold lookMe at h
  split at h
  · cases h; assumption
  · cases h
def putD (f : Str) (d : Da) : List (Str × Da) → List (Str × Da)
  | [] => [(f, d)]
  | (g, x) :: r => if g = f then (g, d) :: r else (g, x) :: putD f d r
/-- self.f -/
def eMe (C : Addr) (f : Str) (i : Nat) : W Da := W.env.bind fun ρ => (W.opt (lookMe ρ i)).bind fun z => (W.req (z.1 = C)).bind fun _ => W.opt (z.2.lookup f)
/-- self.f = m -/
def sMe (C : Addr) (f : Str) (i : Nat) (m : W Da) : Sx := ⟨fun ρ E => m.wp ρ (fun d ρ1 => ∃ fs, lookMe ρ1 i = some (C, fs) ∧ fs.length < 1000 ∧ E.nx (ρ1.set i (some (.me C (putD f d fs))))) E.ex,
  fun l h => m.mono (fun d ρ1 ⟨fs, h1, h2, q⟩ => ⟨fs, h1, h2, l.nx _ q⟩) l.ex h⟩
theorem me_get {K : PySem.W.Frag} {L : Addr → Prop} {H : Hp} {f : Str} {d : Da} : ∀ {vs : List (Str × V)} {fs : List (Str × Da)}, vs.map (·.1) = fs.map (·.1) → Reps K L H (fs.map (·.2)) (vs.map (·.2)) → fs.lookup f = some d → ∃ v, vs.lookup f = some v ∧ Rep K L H d v
  | [], [], _, _, e => by simp at e
  | [], _ :: _, h, _, _ => by simp at h
  | _ :: _, [], h, _, _ => by simp at h
  | (g, v) :: vs, (g', y) :: fs, h, r, e => by
    simp only [List.map_cons, List.cons.injEq] at h
    obtain ⟨rfl, h⟩ := h
    simp only [List.map_cons, Reps] at r
    obtain ⟨y', ys, e1, r1, r2⟩ := r
    cases e1
    simp only [List.lookup_cons] at e ⊢
    split at e
    · cases e
      exact ⟨_, rfl, r1⟩
    · exact me_get h r2 e
theorem me_put {K : PySem.W.Frag} {L : Addr → Prop} {H : Hp} {f : Str} {d : Da} {w : V} (rw : Rep K L H d w) : ∀ {vs : List (Str × V)} {fs : List (Str × Da)}, vs.map (·.1) = fs.map (·.1) → Reps K L H (fs.map (·.2)) (vs.map (·.2)) →
    (putF f w vs).map (·.1) = (putD f d fs).map (·.1) ∧ Reps K L H ((putD f d fs).map (·.2)) ((putF f w vs).map (·.2))
  | [], [], _, _ => by
    simp only [putF, putD, List.map_cons, List.map_nil, Reps]
    exact ⟨trivial, _, _, rfl, rw, rfl⟩
  | [], _ :: _, h, _ => by simp at h
  | _ :: _, [], h, _ => by simp at h
  | (g, v) :: vs, (g', y) :: fs, h, r => by
    simp only [List.map_cons, List.cons.injEq] at h
    obtain ⟨rfl, h⟩ := h
    simp only [List.map_cons, Reps] at r
    obtain ⟨y', ys, e1, r1, r2⟩ := r
    cases e1
    simp only [putF, putD]
    by_cases e : g = f
    · rw [if_pos e, if_pos e]
      simp only [List.map_cons, Reps]
      exact ⟨by rw [h], _, _, rfl, rw, r2⟩
    · rw [if_neg e, if_neg e]
      obtain ⟨i1, i2⟩ := me_put rw h r2
      simp only [List.map_cons, Reps]
      exact ⟨by rw [i1], _, _, rfl, r1, i2⟩
section
variable {K : PySem.W.Frag} {G : Gc} {O : Addr → Option Tg} {σ : L2.St} {ρ : En} {pe : Pend} {H : Hp} {i : Nat}
theorem me_at {z : Addr × List (Str × Da)} {p : Addr} (S : StO K G O σ ρ pe H) (hv : σ[i]? = some (some (.ref p))) (h : lookMe ρ i = some z) :
    ∃ dx vs, O p = some (.slot i) ∧ H p = some (.ins z.1 dx vs) ∧ vs.map (·.1) = z.2.map (·.1) ∧ Reps K (Lof G O) H (z.2.map (·.2)) (vs.map (·.2)) ∧ ¬ G.P0 p ∧ G.La p ∧ G.H0 p = none := by
  obtain ⟨v, hv', p', dx, vs, ev, op, h1, h2, h3, h4⟩ := S.slots i _ (of_lookMe h)
  rw [hv] at hv'
  cases hv'
  cases ev
  exact ⟨dx, vs, op, h1, h2, h3, h4⟩
theorem me_slot {z : Addr × List (Str × Da)} (S : StO K G O σ ρ pe H) (h : lookMe ρ i = some z) : ∃ p, σ[i]? = some (some (.ref p)) := by
  obtain ⟨v, hv, p', dx, vs, ev, _⟩ := S.slots i _ (of_lookMe h)
  exact ⟨p', by rw [hv, ev]⟩
theorem StO.changeMe {z : Addr × List (Str × Da)} {p dx' : Addr} {es : List (Str × Da)} {ys : List (Str × V)} (S : StO K G O σ ρ pe H) (h : lookMe ρ i = some z) (hv : σ[i]? = some (some (.ref p)))
    (he : ys.map (·.1) = es.map (·.1)) (r : Reps K (Lof G O) H (es.map (·.2)) (ys.map (·.2))) : StO K G O σ (ρ.set i (some (.me z.1 es))) pe (upd H p (.ins z.1 dx' ys)) := by
  obtain ⟨dx, xs, op, hp, _, _, np, nz⟩ := me_at S hv h
  have hk : Keep (Lof G O) H (upd H p (.ins z.1 dx' ys)) := fun b x e k => by
    rw [upd_ne]
    · exact e
    · rintro rfl
      rcases k with k | k
      · have k1 := k.1
        rw [op] at k1
        cases k1
      · rw [hp] at e
        cases e
        exact k trivial
  have hl : ∀ b x, H b = some x → Lof G O b → Lof G O b := fun _ _ _ h => h
  refine ⟨fun b x e n => ⟨?_, (S.frame b x e n).2⟩, fun q t h => ?_, fun q hq => ⟨(S.pools q hq).1.mono hk hl (upd_ne (fun e => np (e ▸ hq))), (S.pools q hq).2⟩, by simpa using S.len, fun j c h => ?_, ?_⟩
  · rw [upd_ne]
    · exact (S.frame b x e n).1
    · rintro rfl
      rw [(S.frame b x e n).2] at op
      cases op
  · by_cases e : q = p
    · subst e
      exact ⟨_, upd_same, trivial⟩
    · rw [upd_ne e]
      exact S.own q t h
  · rcases getset h with ⟨e1, e2, _⟩ | ⟨n, h⟩
    · subst e1
      cases e2
      exact ⟨_, hv, p, dx', ys, rfl, op, upd_same, he, Reps.mono hk hl _ _ r, np, nz⟩
    · obtain ⟨w, h1, h2⟩ := S.slots j c h
      exact ⟨w, h1, h2.mono hk hl (fun q e => ⟨upd_ne (fun q' => by
        rw [q', op] at e
        cases e
        exact n rfl), e⟩)⟩
  · exact S.pends.mono hk hl (fun j hj q e => ⟨upd_ne (fun q' => by
      rw [q', op] at e
      cases e), e⟩)
end
section
variable {X : Cx} {G : Gc} {x : Ex → En → Prop} {C : Addr} {i : Nat} {f : Str}
theorem p_me {e : Expr} {pos : Pos} (c : Cls X.K C) (n : NoAttr X.K C f) (he : PE X e (tVar i)) (hb : attributeBase e f X.env (eval e X.env) = eval e X.env := by rfl) : PE X (.Attribute e f pos) (tp X.K G x (eMe C f i)) :=
  (pe_fld he hb).of fun σ H Q ⟨ρ, pe, ⟨O, S⟩, q⟩ => by
    obtain ⟨⟨c', fs⟩, e1, e2, q2⟩ := W.opt_wp q
    obtain ⟨d, e3, q3⟩ := W.opt_wp (o := fs.lookup f) q2
    have e2 : c' = C := e2
    subst e2
    obtain ⟨p, hp⟩ := me_slot S e1
    obtain ⟨dx, vs, op, h1, h2, h3, h4⟩ := me_at S hp e1
    obtain ⟨v, h5, h6⟩ := me_get h2 h3 e3
    exact ⟨.ref p, hp, p, c', dx, vs, v, rfl, h1, c, n, h5, q3 v H ⟨O, S.pushD h6⟩⟩
theorem s_me {o value : Expr} {pos pos' : Pos} {m : W Da} (c : Cls X.K C) (n : NoAttr X.K C f) (ho : PE X o (tVar i)) (hv : PE X value (tp X.K G x m)) (hs : swapsWith value (some (.Attribute o f pos')) pos.line X.env = pure false := by rfl) :
    PS X (.Assign [.Attribute o f pos'] value pos) (ts X.K G x (sMe C f i m)) :=
  (ps_fld ho hv hs).of fun D σ H ⟨ρ, pe, S, q⟩ => by
    refine ⟨ρ, pe, S, m.mono (fun d ρ1 q v H1 ⟨O, S1⟩ => ?_) (fun _ _ z => z) q⟩
    obtain ⟨fs, h1, hl, q⟩ := q
    obtain ⟨p, hp⟩ := me_slot S1 h1
    obtain ⟨dx, vs, op, g1, g2, g3, g4⟩ := me_at S1 hp h1
    obtain ⟨k1, k2⟩ := me_put (f := f) S1.top g2 g3
    have lv : vs.length = fs.length := by
      have := congrArg List.length g2
      simpa using this
    exact ⟨.ref p, hp, p, C, dx, vs, rfl, g1, c, n, by omega, q σ _ ⟨O, S1.pop.changeMe (z := (C, fs)) h1 hp k1 k2⟩⟩
end
end Pu
end

section
namespace Pu
open PySem PySem.Spec PyProof.Rows L2

/-! ### __init__, and making -/
/-- an __init__ of n arguments beside self: F gives the object -/
def spI (K : PySem.W.Frag) (mg : Str → Option Value) (C : Addr) (n : Nat) (F : Fn) : Sp := fun vs H Q E => ∃ (La : Addr → Prop) (ds : List Da) (p dx : Addr) (ws : List V), vs = .ref p :: ws ∧ ds.length = n ∧ Reps K La H ds ws ∧ H p = some (.ins C dx []) ∧ ¬ La p ∧
  F.wp ds (fun d => ∀ ns xs dx' fs H', d = .obj C ns xs → (∀ b x, H b = some x → b ≠ p → H' b = some x) → H' p = some (.ins C dx' fs) → fs.map (·.1) = ns → Reps K (fun c => La c ∨ H c = none) H' xs (fs.map (·.2)) → Q .non H')
    (fun e => ∀ B d H', mg e.name = some (.ref B) → (∀ b x, H b = some x → b ≠ p → H' b = some x) → XdAt K (fun c => La c ∨ H c = none) H' d e → E (.ref B) (some d) H')
theorem spI_len {K : PySem.W.Frag} {mg : Str → Option Value} {C : Addr} {n : Nat} {F : Fn} : ∀ vs H Q E, spI K mg C n F vs H Q E → vs.length = n + 1 := fun vs H Q E ⟨_, ds, p, dx, ws, e, l, r, _⟩ => by
  subst e
  simp [r.length, l]
def startI (n : Nat) (C : Addr) (ds : List Da) : En := some (.me C []) :: startE (n - 1) ds
def isMe (C : Addr) (ρ : En) : Prop := ∃ fs, lookMe ρ 0 = some (C, fs)
def flI (C : Addr) (k : Da → Prop) (x : Ex → Prop) : Fl := ⟨fun ρ => ∃ fs, lookMe ρ 0 = some (C, fs) ∧ k (.obj C (fs.map (·.1)) (fs.map (·.2))), fun _ _ => False, fun _ => False, fun _ => False, fun e ρ => isMe C ρ ∧ x e⟩
def KeepsI (n N : Nat) (C : Addr) (F : Fn) (b : Sx) : Prop := ∀ (ds : List Da) (k : Da → Prop) (x : Ex → Prop), ds.length = n → F.wp ds k x → b.wp (startI N C ds) (flI C k x)
section
variable {P : Program} {w : World} {K : PySem.W.Frag} {mg : Str → Option Value} {base : Heap} {x qual : Str} {st : Stmt} {f C : Addr} {fd : FuncData} {N ps : List Str} {k n : Nat} {F : Fn} {b : Sx}
theorem okI (Fu : Fun K x qual st f fd) (S : FnScope N ps (defScope st)) (hn : ps.length = n + 1)
    (hb : ∀ (cdv : Value) (A : Around) (outer : List Env) (s : Shared) (H : Hp) (E : XK) (G : Gc) (xw : Ex → En → Prop), Room k (A.deeper (envOfC qual (defScope st) s.heap.objs.size f cdv)) →
      XOk (cxOf (L2.CX P w) P w K mg base N qual (defScope st) f cdv A outer s H E) G xw → PSs (cxOf (L2.CX P w) P w K mg base N qual (defScope st) f cdv A outer s H E) (defBody st) (ts K G xw b))
    (hw : KeepsI n N.length C F b) : FnOk P w K mg base (L2.CX P w) (k + 1) f fd ps (spI K mg C n F) := by
  refine Fu.okX S (fun vs H Q E h => (spI_len vs H Q E h).trans hn.symm) fun cdv A outer s H vs Q E hr ⟨La, ds, p, dx, ws, ev, l, r, hp, nl, q⟩ => ?_
  subst ev
  let G : Gc := ⟨fun b => if b = p then none else H b, fun _ => False, fun b => (La b ∧ (H b).isSome = true) ∨ b = p, none, SetTO P w⟩
  let O0 : Addr → Option Tg := fun a => if a = p then some (.slot 0) else none
  have gH : ∀ {b : Addr} {y : HO}, H b = some y → b ≠ p → G.H0 b = some y := fun {b y} e n => (if_neg n).trans e
  have hg : ∀ {b : Addr} {y : HO}, G.H0 b = some y → b ≠ p ∧ H b = some y := fun {b y} e => by
    have e' : (if b = p then none else H b) = some y := e
    by_cases z : b = p
    · rw [if_pos z] at e'
      cases e'
    · rw [if_neg z] at e'
      exact ⟨z, e'⟩
  have uniq : ∀ {b : Addr}, G.La b → G.H0 b = none → b = p := fun {b} h1 h2 => by
    rcases h1 with ⟨_, h1⟩ | h1
    · by_cases z : b = p
      · exact z
      · have h2' : (if b = p then none else H b) = none := h2
        rw [if_neg z] at h2'
        rw [h2'] at h1
        cases h1
    · exact h1
  -- what is for ever at the end, as the caller sees it
  have fin : ∀ {O : Addr → Option Tg} {σ : L2.St} {ρ : En} {pe : Pend} {H' : Hp} {fs : List (Str × Da)}, StO K G O σ ρ pe H' → lookMe ρ 0 = some (C, fs) → (∀ b y, H b = some y → b ≠ p → H' b = some y) ∧ (∀ b, Lof G O b → La b ∨ H b = none) ∧
      ∃ dx' vs, H' p = some (.ins C dx' vs) ∧ vs.map (·.1) = fs.map (·.1) ∧ Reps K (Lof G O) H' (fs.map (·.2)) (vs.map (·.2)) := fun {O σ ρ pe H' fs} S' h1 => by
    obtain ⟨p', e0⟩ := me_slot S' h1
    obtain ⟨dx', vs, op, g1, g2, g3, _, g4, g5⟩ := me_at S' e0 h1
    have ep := uniq g4 g5
    subst ep
    refine ⟨fun b y e n => (S'.frame b y (gH e n) fun h => h).1, fun b z => ?_, dx', vs, g1, g2, g3⟩
    have nb : b ≠ p' := fun e => by
      have z1 := z.1
      rw [e, op] at z1
      cases z1
    rcases z.2 with (z2 | z2) | z2
    · exact .inl z2.1
    · exact absurd z2 nb
    · exact .inr (by
        have z3 : (if b = p' then none else H b) = none := z2
        rwa [if_neg nb] at z3)
  refine ⟨_, hb cdv A outer s H E G (fun e ρ => isMe C ρ ∧ ∀ B d H', mg e.name = some (.ref B) → (∀ b x, H b = some x → b ≠ p → H' b = some x) → XdAt K (fun c => La c ∨ H c = none) H' d e → E (.ref B) (some d) H') hr
    ⟨rfl, fun cls d _ H' => E cls d H', takes_of rfl rfl rfl rfl, fun e ρ σ pe H' O B d ⟨⟨fs, hm⟩, hx⟩ S' hC hd => hx B d H' hC (fin S' hm).1 (hd.mono (fin S' hm).2.1)⟩, ?_⟩
  have hle := scope_le S
  have hvl := r.length
  have lo : ∀ b y, H b = some y → La b → Lof G O0 b := fun b y e z => ⟨if_neg (fun e : b = p => nl (e ▸ z)), .inl (.inl ⟨z, by rw [e]; rfl⟩)⟩
  refine ⟨startI N.length C ds, [], ⟨O0, ⟨fun b y e n => ⟨(hg e).2, if_neg (hg e).1⟩, fun a t e => ?_, fun a h => h.elim, ?_, fun i c e => ?_, trivial⟩⟩,
    b.mono (E := flI C _ _) ⟨fun ρ q σ H' ⟨O, S'⟩ => ?_, fun d ρ q => q.elim, fun _ z => z.elim, fun _ z => z.elim, fun _ _ z => z⟩ (hw ds _ _ l q)⟩
  · by_cases z : a = p
    · subst z
      exact ⟨_, hp, trivial⟩
    · have e' : (if a = p then some (Tg.slot 0) else none) = some t := e
      rw [if_neg z] at e'
      cases e'
  · unfold startI
    rw [List.length_cons, startE_len (by omega), start_len (by simp; omega)]
    omega
  · cases i with
    | zero =>
      cases e
      exact ⟨.ref p, start_get rfl, p, dx, [], rfl, if_pos rfl, hp, rfl, rfl, fun h => h, .inr rfl, if_pos rfl⟩
    | succ i =>
      obtain ⟨d, h1, rfl⟩ := startE_get (show (startE (N.length - 1) ds)[i]? = some (some c) from e)
      obtain ⟨v, h2, h3⟩ := r.getD h1
      exact ⟨v, start_get (show (V.ref p :: ws)[i + 1]? = some v from h2), Rep.mono (fun _ _ e _ => e) lo _ _ h3⟩
  · obtain ⟨fs, h1, q⟩ := q
    obtain ⟨f1, f2, dx', vs, g1, g2, g3⟩ := fin S' h1
    exact q _ _ dx' vs H' rfl f1 g1 g2 (Reps.mono (fun _ _ e _ => e) (fun b _ _ z => f2 b z) _ _ g3)
end
end Pu
end

section
namespace Pu
open PySem PySem.Spec PyProof.Rows L2

section
variable {X : Cx} {CX : CXT} {k : Nat} {f C : Addr} {fd : FuncData} {ps : List Str} {sp : Sp} {E : L2.St → XK} {x : Str} {p pos : Pos} {e : Expr} {es : List Expr} {t : TA}
/-- C(..): what __init__ raises is wished for at the slots as they stand -/
def tMakeS (C : Addr) (sp : Sp) (E : L2.St → XK) (t : TA) : TE := fun σ H Q => t σ H fun vs H1 => ∀ x dx, H1 x = none → H1 dx = none → dx ≠ x →
  sp (.ref x :: vs) (upd (upd H1 dx (.own x)) x (.ins C dx [])) (fun v H2 => v = .non ∧ Q (.ref x) H2) (E σ)
theorem run_makeS {pins : List (Addr × Obj)} {σ : L2.St} {H : Hp} {s : Shared} {Q : VK} {us : List Value} {vs : List V} (M : Mk X.K C f) (F : FnOk X.prog X.w X.K X.mg X.base CX k f fd ps sp) (hr : Room (k + 1) X.A) (hb : Binds X.K fd ps [])
    (hx : PassesAt CX X σ (E σ)) (I : Inv X pins σ H s) (r : Vals vs us)
    (h : ∀ x dx, H x = none → H dx = none → dx ≠ x → sp (.ref x :: vs) (upd (upd H dx (.own x)) x (.ins C dx [])) (fun v H2 => v = .non ∧ Q (.ref x) H2) (E σ)) :
    wpAny (model X.prog X.w) X.A (call (.ref C) us) (EP X pins σ Q) X.xe s := by
  have hq := h (s.heap.objs.size + 1) s.heap.objs.size (I.hok.fresh (Nat.le_succ _)) (I.hok.fresh (Nat.le_refl _)) (Nat.ne_of_lt (Nat.lt_succ_self _))
  have I2 := Inv.made (C := C) I
  have r2 : Vals (V.ref (s.heap.objs.size + 1) :: vs) (Value.ref (s.heap.objs.size + 1) :: us) := .cons rfl r
  have hl : (Value.ref (s.heap.objs.size + 1) :: us).length = ps.length := by
    have e := r2.length
    rw [F.len _ _ _ _ hq] at e
    exact e.symm
  have b := hb _ (Value.ref (s.heap.objs.size + 1) :: us) I2.kIn (by rw [List.append_nil]; exact hl)
  rw [List.append_nil] at b
  refine wpAny_call (make_map (f := f) I.kIn M.makes M.init (beq_iff_eq.mp M.fn) (codeAny_mono (F.run _ X.stack _ _ ⟨Value.ref (s.heap.objs.size + 1) :: us, []⟩ (Value.ref (s.heap.objs.size + 1) :: us) _ _ (E σ) (hr.make C us [])
    (I2.env0.make C us []) b r2 hq) fun r s' hq' => ?_))
  cases r with
  | error e => exact hx pins _ _ e s' I2 hq'
  | ok fl =>
    cases fl with
    | ret u =>
      obtain ⟨v, H', I3, rv, ev, q3⟩ := I2.after hq'
      subst ev
      exact ⟨rv, ⟨V.ref (s.heap.objs.size + 1), H', I3, rfl, q3⟩⟩
    | next => exact False.elim hq'
    | brk => exact False.elim hq'
    | cont => exact False.elim hq'
theorem pe_makeS (M : Mk X.K C f) (F : FnOk X.prog X.w X.K X.mg X.base CX k f fd ps sp) (hr : Room (k + 1) X.A) (hg : Gl X x) (hm : X.mg x = some (.ref C)) (hb : Binds X.K fd ps []) (hx : ∀ σ, PassesAt CX X σ (E σ))
    (ha : PA X (e :: es) t) (hdb : (x == ("__debug__" : Str)) = false := by decide) (he : starEach (e :: es) X.env = (false, eval e X.env) :: starEach es X.env := by rfl) (hpl : (backTo pos (starEach es X.env)).any (·.1) = false := by rfl) :
    PE X (.Call (.Name x p) (e :: es) [] pos) (tMakeS C sp E t) := by
  refine ⟨fun pins s σ H Q I h => ?_⟩
  refine wpAny_Call_Name_kw (ld_glob I hg hm ?_ hdb)
  refine PySem.W.callWith_K (h₀ := X.base) I.ok.mod.kin M.kp (thn (ha.run pos pins s σ H _ I h) fun us s1 ⟨vs, H1, I1, r, q⟩ => ⟨I1.kIn, ?_⟩) he hpl
  exact run_makeS M F hr hb (hx σ) I1 r q
end
section
variable {X : Cx} {G : Gc} {x : Ex → En → Prop} {k : Nat} {f C : Addr} {fd : FuncData} {ps : List Str} {F : Fn} {n : Nat} {nm : Str} {p pos : Pos} {e : Expr} {es : List Expr} {ma : W (List Da)}
theorem keep2 {H H' : Hp} {x dx : Addr} {o u : HO} (hx : H x = none) (hd : H dx = none) (kk : ∀ b y, upd (upd H dx o) x u b = some y → b ≠ x → H' b = some y) : ∀ b y, H b = some y → H' b = some y := fun b y e =>
  kk b y (by rw [upd_ne (ne_of_none e hx), upd_ne (ne_of_none e hd)]; exact e) (ne_of_none e hx)
/-- the callee's results are objects of its class -/
def Objs (C : Addr) (F : Fn) : Prop := ∀ ds k x, F.wp ds k x → F.wp ds (fun d => (∃ ns xs, d = .obj C ns xs) ∧ k d) x
theorem p_make (xo : XOk X G x) (M : Mk X.K C f) (fo : FnOk X.prog X.w X.K X.mg X.base (L2.CX X.prog X.w) k f fd ps (spI X.K X.mg C n F)) (hr : Room (k + 1) X.A) (hg : Gl X nm) (hm : X.mg nm = some (.ref C)) (hb : Binds X.K fd ps [])
    (ha : PA X (e :: es) (tar X.K G x ma)) (hdb : (nm == ("__debug__" : Str)) = false := by decide)
    (he : starEach (e :: es) X.env = (false, eval e X.env) :: starEach es X.env := by rfl) (hpl : (backTo pos (starEach es X.env)).any (·.1) = false := by rfl) : PE X (.Call (.Name nm p) (e :: es) [] pos) (tp X.K G x (eCall F n ma)) := by
  obtain ⟨W, tk, hW⟩ := xo.ex
  refine (pe_makeS M fo hr hg hm hb (fun σ => passAt tk σ) ha hdb he hpl).of fun σ H Q ⟨ρ, pe, S, q⟩ => ?_
  refine ⟨ρ, pe, S, ma.mono (fun ds ρ1 ⟨hl, q⟩ vs H1 l ⟨O, S1⟩ a dx hx hd ne => ?_) (fun _ _ z => z) q⟩
  obtain ⟨S2, rs⟩ := pushAll_pop l S1
  have h2 : ∀ {b : Addr}, upd (upd H1 dx (.own a)) a (.ins C dx []) b = none → H1 b = none := fun {b} z => by
    cases e : H1 b with
    | none => rfl
    | some y =>
      rw [upd_ne (ne_of_none e hx), upd_ne (ne_of_none e hd), e] at z
      cases z
  have lf : ∀ {b : Addr}, (Lof G O b ∧ b ≠ a) ∨ upd (upd H1 dx (.own a)) a (.ins C dx []) b = none → Lof G O b := fun {b} z => z.elim (·.1) fun z => S2.fresh (h2 z)
  have r0 : Reps X.K (fun b => Lof G O b ∧ b ≠ a) (upd (upd H1 dx (.own a)) a (.ins C dx [])) ds vs :=
    Reps.mono (L := Lof G O) (H := H1) (fun b y e _ => by rw [upd_ne (ne_of_none e hx), upd_ne (ne_of_none e hd)]; exact e) (fun b y e z => ⟨z, ne_of_none e hx⟩) _ _ rs
  refine ⟨fun b => Lof G O b ∧ b ≠ a, ds, a, dx, vs, rfl, hl, r0, upd_same, fun z => z.2 rfl,
    F.mono (fun d q ns xs dx' fs H' ed kk ha' hn r => ?_) (fun ee q B d H' hB kk r => hW ee ρ1 σ pe H' O B d q (S2.heap (keep2 hx hd kk)) hB (r.mono fun b z => lf z)) q⟩
  subst ed
  exact ⟨rfl, q _ H' ⟨O, (S2.heap (keep2 hx hd kk)).push (rep_obj.mpr ⟨a, dx', fs, rfl, ⟨ha', S2.fresh hx⟩, hn, Reps.mono (fun _ _ e _ => e) (fun b _ _ z => lf z) _ _ r⟩)⟩⟩
end
end Pu
end

section
namespace Pu
open PySem PySem.Spec PyProof.Rows L2

/-! ### == of two objects of one class by its own __eq__ -/
def rObjEq (C : Addr) (sp : Sp) : R2 := fun x y H Q => ∃ a b dx dy fs gs, x = .ref a ∧ y = .ref b ∧ H a = some (.ins C dx fs) ∧ H b = some (.ins C dy gs) ∧ sp [.ref a, .ref b] H (fun z H' => ∃ t, z = .bl t ∧ Q z H') E0
theorem op_objEq {X : Cx} {k : Nat} {f C : Addr} {fd : FuncData} {ps : List Str} {sp : Sp} (F : FnOk X.prog X.w X.K X.mg X.base (L2.CX X.prog X.w) k f fd ps sp) (hr : Room k X.A)
    (hs : PySem.W.findIn X.K (.ref C) "__eq__" = some (some (.ref f))) (hf : PySem.W.isFn X.K (.ref f) = true) (hb : Binds X.K fd ps []) : OpR X (compareOp .Eq) (rObjEq C sp) := by
  intro pins s σ H x y u v Q I rx ry ⟨a, b, dx, dy, fs, gs, ex, ey, ha, hb', hsp⟩
  subst ex ey
  cases rx
  cases ry
  show wpAny (model X.prog X.w) X.A (richCompare .Eq (.ref a) (.ref b)) (EP X pins σ Q) X.xe s
  obtain ⟨mA, J, _⟩ := ins_get I.hok ha
  obtain ⟨mB, J', _⟩ := ins_get I.hok hb'
  obtain ⟨od, J, _⟩ := J.look
  obtain ⟨od', J', _⟩ := J'.look
  obtain ⟨m, hF⟩ := I.fr
  refine PySem.W.cmp_K (op := .Eq) (tb := .ref C) hr.units0 hF I.ok.mod.kin J J'.type (by simp [PySem.W.notFirst]) hs hf ?_
  have hl := F.len _ _ _ _ hsp
  have r2 : Vals [V.ref a, V.ref b] [Value.ref a, Value.ref b] := .cons rfl (.cons rfl .nil)
  refine wpAny_call (codeAny_mono (F.run X.A X.stack s H ⟨[.ref a, .ref b], []⟩ [.ref a, .ref b] [.ref a, .ref b] _ E0 hr I.env0 (by
    have := hb s [.ref a, .ref b] I.kIn (by simpa using hl)
    simpa using this) r2 hsp) fun r s' hq => ?_)
  cases r with
  | error e => exact passL pins σ H s e s' I hq
  | ok fl =>
    cases fl with
    | ret w =>
      obtain ⟨z, H', I', rz, t, ez, q⟩ := I.after hq
      subst ez
      cases rz
      exact ⟨.bl t, H', I', rfl, q⟩
    | next => exact False.elim hq
    | brk => exact False.elim hq
    | cont => exact False.elim hq
end Pu
end

section
namespace Pu
open PySem PySem.Spec PyProof.Rows L2

/-! ### a == b by the class's own __eq__, said of data -/
def Da.isObj (C : Addr) : Da → Bool
  | .obj c _ _ => decide (c = C)
  | _ => false
theorem of_isObj {C : Addr} : ∀ {d : Da}, d.isObj C = true → ∃ ns xs, d = .obj C ns xs
  | .obj c ns xs, h => by
    have h := of_decide_eq_true (show decide (c = C) = true from h)
    subst h
    exact ⟨ns, xs, rfl⟩
  | .non, e => by cases e
  | .bl _, e => by cases e
  | .int _, e => by cases e
  | .str _, e => by cases e
  | .tup _, e => by cases e
  | .lst _, e => by cases e
  | .scr _, e => by cases e
  | .dct _ _, e => by cases e
def eObjEq (C : Addr) (F : Fn) (a b : W Da) : W Da := a.bind fun d => b.bind fun e => (W.req (d.isObj C = true ∧ e.isObj C = true)).bind fun _ => ⟨fun ρ k _ => F.wp [d, e] (fun r => (∃ t, r = .bl t) ∧ k r ρ) (fun _ => False), fun hk hx h => F.mono (fun d q => ⟨q.1, hk _ _ q.2⟩) (fun e q => q) h⟩
section
variable {X : Cx} {G : Gc} {x : Ex → En → Prop} {k : Nat} {f C : Addr} {fd : FuncData} {ps : List Str} {F : Fn} {a b : Expr} {pos : Pos} {ma mb : W Da}
theorem p_objEq (fo : FnOk X.prog X.w X.K X.mg X.base (L2.CX X.prog X.w) k f fd ps (spD X.K X.mg 2 F)) (hr : Room k X.A) (hs : PySem.W.findIn X.K (.ref C) "__eq__" = some (some (.ref f))) (hf : PySem.W.isFn X.K (.ref f) = true) (hb : Binds X.K fd ps [])
    (pa : PE X a (tp X.K G x ma)) (pb : PE X b (tp X.K G x mb)) (hm : behindInMarks .Eq b = false) : PE X (.Compare a [.Eq] [b] pos) (tp X.K G x (eObjEq C F ma mb)) :=
  (pe_cmpR (op_objEq (C := C) fo hr hs hf hb) pa pb hm).of fun σ H Q ⟨ρ, pe, S, q⟩ => by
    refine ⟨ρ, pe, S, ma.mono (fun d ρ1 q v H1 S1 => ⟨ρ1, _, S1, mb.mono (fun e ρ2 q w H2 ⟨O, S2⟩ => ?_) (fun _ _ z => z) q⟩) (fun _ _ z => z) q⟩
    obtain ⟨⟨h1, h2⟩, q⟩ := q
    obtain ⟨ns, xs, rfl⟩ := of_isObj h1
    obtain ⟨ms, ys, rfl⟩ := of_isObj h2
    obtain ⟨a', dx, fs, rfl, ⟨ha, _⟩, _⟩ := rep_obj.mp S2.pop.top
    obtain ⟨b', dy, gs, rfl, ⟨hb', _⟩, _⟩ := rep_obj.mp S2.top
    refine ⟨a', b', dx, dy, fs, gs, rfl, rfl, ha, hb', Lof G O, [.obj C ns xs, .obj C ms ys], rfl, ?_, F.mono (fun r q v H' kk rr => ?_) (fun _ z => z.elim) q⟩
    · simp only [Reps]
      exact ⟨_, _, rfl, S2.pop.top, _, _, rfl, S2.top, rfl⟩
    · obtain ⟨⟨t, rfl⟩, q⟩ := q
      have := rep_bl'.mp rr
      exact ⟨t, this, q v H' ⟨O, S2.pop.pop.result kk rr⟩⟩
end
/-! ### isinstance(x, C), x of the class C -/
def eIsC (C : Addr) (m : W Da) : W Da := m.bind fun d => (W.req (d.isObj C = true)).bind fun _ => W.ret (.bl true)
end Pu
end

section
set_option maxHeartbeats 1000000
/-! enumerate of a tuple -/
namespace EnT
open PySem
open PySem.Sem (wp)
open AutoSeq1 (wpAny_loadPart')

theorem meets_enumerate_newT (l : Addr) (items : Array Value) (n : Nat) (dct : Option Addr) (sl : Array (Option Value)) :
    Meets (Builtin.«enumerate.__new__» ⟨[.type "enumerate", .ref l], []⟩) (fun _ R s => s.heap.get? l = some { cls := .type "tuple", dict := dct, data := .seq items n, slots := sl } ∧
      R (.ok (.ret (.ref (s.heap.push { cls := .type "tuple_iterator", data := .fields #[.ref l, .int 0 0] }).objs.size)))
        { s with heap := (s.heap.push { cls := .type "tuple_iterator", data := .fields #[.ref l, .int 0 0] }).push { cls := .type "enumerate", data := .fields #[.none, .bool false, .ref s.heap.objs.size, rawInt 0, .none, .none] } }) :=
  .of_wp fun prog w A R s h => by
    obtain ⟨hp, g, d, tk, os⟩ := s; obtain ⟨hl, h⟩ := h
    have hsub := sub_enumerate
    have hL : Heap.IsTuple (Shared.heap ⟨hp, g, d, tk, os⟩) l items := ⟨_, hl, rfl, n, rfl⟩
    wp_walk using wpAny_loadPart' hl
    refine wpAny_stack_any fun st => wpAny_pure ?_
    split
    · rename_i c _ _ _ _ _
      cases (c == Value.type "enumerate")
      · wp_walk using wpAny_loadPart' hl, wpAny_pyIter_tuple hL
        exact ⟨_, rfl, h⟩
      · wp_walk using wpAny_loadPart' hl, wpAny_pyIter_tuple hL
        exact ⟨_, rfl, h⟩
    · wp_walk using wpAny_loadPart' hl, wpAny_pyIter_tuple hL
      exact ⟨_, rfl, h⟩
section
variable {prog : Program} {w : World} {A : Around} {E : Value → Shared → Prop} {s : Shared}
theorem call_enumerate_tuple {l : Addr} {items : Array Value} {Q : Value → Shared → Prop} (hL : s.heap.IsTuple l items)
    (h : ∀ h', IsEnum h' (s.heap.objs.size + 1) s.heap.objs.size 0 .none → h'.IsTupleIter s.heap.objs.size l 0 → h'.objs.size = s.heap.objs.size + 2 →
      (∀ b o, s.heap.get? b = some o → h'.get? b = some o) → Q (.ref (s.heap.objs.size + 1)) { s with heap := h' }) :
    wpAny (model prog w) A (call (.type "enumerate") [.ref l]) Q E s := by
  obtain ⟨⟨c, dct, dt, sl⟩, hl, hc, n, hd⟩ := hL
  replace hc : c = .type "tuple" := hc
  replace hd : dt = .seq items n := hd
  subst hc hd
  refine callType_new F.called_enumerate (by decide) (F.typeCall_enumerate_1 _) (F.newCall_enumerate_1 _) (fun obj => F.args_object_init_2 obj _) F.entry_enumerate_new
    (meets_enumerate_newT l items n dct sl) ⟨hl, ?_⟩
  have hz : (s.heap.push { cls := .type "tuple_iterator", data := .fields #[.ref l, .int 0 0] }).objs.size = s.heap.objs.size + 1 := Heap.size_push ..
  show _ ∧ _
  rw [hz]
  have he : IsEnum ((s.heap.push { cls := .type "tuple_iterator", data := .fields #[.ref l, .int 0 0] }).push
      { cls := .type "enumerate", data := .fields #[.none, .bool false, .ref s.heap.objs.size, rawInt 0, .none, .none] }) (s.heap.objs.size + 1) s.heap.objs.size 0 .none := by
    have := Heap.get?_push_size (s.heap.push { cls := .type "tuple_iterator", data := .fields #[.ref l, .int 0 0] })
      (o := { cls := .type "enumerate", data := .fields #[.none, .bool false, .ref s.heap.objs.size, rawInt 0, .none, .none] }) rfl
    rw [hz] at this; exact this
  refine ⟨⟨_, he, rfl⟩, h _ he ⟨_, Heap.get?_push_of_some _ (Heap.get?_push_size _ rfl), rfl, rfl⟩ (by rw [Heap.size_push, hz]) fun b o x => Heap.get?_push_of_some _ (Heap.get?_push_of_some _ x)⟩
end
theorem RZ_end {prog : Program} {w : World} {A : Around} {E : Value → Shared → Prop} {s : Shared} {e it l : Addr} {i : Nat} {c : Int} {items : Array Value} {old : Value} {Q : Option Value → Shared → Prop} (hh : A.handled = none) (he : IsEnum s.heap e it c old)
    (hit : s.heap.IsTupleIter it l i) (hl : s.heap.IsTuple l items) (hx : items[i]? = none) (hQ : ∀ h', Heap.ExtBut it s.heap h' → Q none { s with heap := h' }) : wpAny (model prog w) A (pyNext (.ref e)) Q E s := by
  have hT : s.TypeIs (.ref e) "enumerate" := ⟨_, he, rfl⟩
  unfold pyNext
  refine wpAny_bind (wpAny_attempt (wpAny_callSpecial?_slot (name := Str.ofString "__next__") hT F.slot_enumerate_next
    (wpAny_call_entry F.slot_enumerate_next hT F.entry_enumerate_next ?_ (F.args_enumerate_next_1 _))))
  show wpAny _ _ (field (.ref e) 2 >>= _) _ _ _
  refine wpAny_bind (wpAny_field he rfl (x := .ref it) rfl ?_)
  refine wpAny_bind (RZ.nextOf_tuple_end hh hit hl hx fun h' x he' hx' => ?_)
  obtain ⟨o, ho, hc⟩ := hx'
  refine wpAny_bind (wpAny_isInstance (T := "StopIteration") (b := true) ⟨o, ho, hc⟩ isSubtype_stop ?_)
  exact wpAny_pure (hQ _ he')
theorem drawsT {prog : Program} {w : World} {A : Around} (hh : A.handled = none) (it l : Addr) (hne : l ≠ it) (items : Array Value) :
    Draws prog w A it [it, l] items.size (fun i v => items[i]? = some v) (fun i h => h.IsTupleIter it l i ∧ h.IsTuple l items) where
  live := fun _ _ st => let ⟨o, ho, _⟩ := st.1; ⟨o, ho⟩
  frame := fun _ _ _ st hk => ⟨st.1.at fun o e => hk it (by simp) o e, st.2.at fun o e => hk l (by simp) o e⟩
  item := fun i s Q E hi st hQ => by
    refine RZ.nextOf_tuple_item st.1 st.2 (x := items[i]) (by simp [hi]) fun h' hit' hs' => ?_
    exact hQ _ h' s.toks (by simp [hi]) ⟨hit', st.2.at fun o e => hs'.extBut l o hne e⟩ hs'
  done := fun s Q E st hE => RZ.nextOf_tuple_end hh st.1 st.2 (by simp) hE
end EnT
namespace EnT
open PySem PySem.Spec PyProof.Rows L2
/-- the tuple at a, each item in a new pair -/
def IteT (K : PySem.W.Frag) (a : Addr) : It :=
  ⟨fun i H => ∃ (xs : List V) (x : V), SqT K H a xs ∧ xs[i]? = some x, fun i H v H' => ∃ T x, v = .ref T ∧ H T = none ∧ H' = upd H T (.tup [.int (i : Nat), x]) ∧ ∀ xs, SqT K H a xs → xs[i]? = some x, fun i H => ∃ xs : List V, SqT K H a xs ∧ xs.length ≤ i⟩
theorem turn_enumT {P : Program} {w : World} {K : PySem.W.Frag} {elts : List Expr} {kk : Nat} {tpos : Pos} (a e it : Addr) :
    Turn P w K (.Tuple elts kk tpos) (IteT K a) [e, it] e (fun i h => (∃ old, IsEnum h e it ((i : Nat) : Int) old) ∧ h.IsTupleIter it a i ∧ e ≠ it) where
  mem := by simp
  obj := fun i h st b hb => by
    obtain ⟨⟨old, he⟩, ⟨o, ho, hc, hd⟩, _⟩ := st
    have e' : b = e ∨ b = it := by simpa using hb
    rcases e' with z | z
    · rw [z]; exact ⟨_, he, fun v q => nomatch q⟩
    · rw [z]; exact ⟨o, ho, fun v q => by rw [hd] at q; cases q⟩
  keep := fun i h h' st k => let ⟨⟨old, he⟩, hi, hne⟩ := st; ⟨⟨old, k e (by simp) _ he⟩, hi.at fun o q => k it (by simp) o q, hne⟩
  item := by
    intro X hP hw hK hc i pins s σ H E I hf st hg
    subst hP hw hK
    obtain ⟨⟨old, he⟩, hit, hne⟩ := st
    obtain ⟨xs, x, hq, hx⟩ := hg
    obtain ⟨its, rv, p, hz⟩ := I.tuple hq
    have p : s.heap.IsTuple a its.toArray := p
    obtain ⟨u, hu, ru⟩ := rv.get hx
    have hel : e < s.heap.objs.size := Heap.lt_size he
    have hil : it < s.heap.objs.size := by obtain ⟨_, q, _⟩ := hit; exact Heap.lt_size q
    have nai : a ≠ it := fun q => by
      subst q
      obtain ⟨o, h1, h2, _⟩ := hit
      obtain ⟨o', h3, h4, _⟩ := p
      rw [h1] at h3
      cases h3
      rw [h2] at h4
      simp at h4
    have nae : e ≠ a := fun q => by
      subst q
      obtain ⟨o', h3, h4, _⟩ := p
      have he' := he
      unfold IsEnum at he'
      rw [he'] at h3
      cases h3
      simp at h4
    refine wpAny_pyNext_enum_itemD (fp := [it, a]) (n := its.toArray.size) (drawsT (prog := X.prog) (w := X.w) (A := X.A.in1) (show X.A.in1.handled = none from I.ok.hd hc) it a nai its.toArray) he ⟨hit, p⟩ (i := i) (by simpa using (List.getElem?_eq_some_iff.mp hu).1) hne (by simp [hne, nae]) fun x' h' tk hP ho st' hT hsz hk => ?_
    have ex : x' = u := by
      have hP' : its.toArray[i]? = some x' := hP
      have hu' : its.toArray[i]? = some u := by simpa using hu
      rw [hu'] at hP'
      exact (Option.some.inj hP').symm
    subst ex
    have hit' := st'.1
    refine ⟨_, rfl, wpAny_letOwnedTupleGo_enum (s := { s with heap := h', toks := tk + 1 }) ho fun h'' he' sb => ?_⟩
    have hT2 : h''.get? s.heap.objs.size = some { cls := .type "tuple", data := .seq #[.int i tk, x'] } := (sb.2 _ (Nat.ne_of_gt hel)).trans hT
    have new : ObjOk X.prog X.w (upd H s.heap.objs.size (.tup [.int (i : Nat), x])) h'' s.heap.objs.size (.tup [.int (i : Nat), x]) :=
      ⟨by show 2 ≤ sizeLine; decide, [.int i tk, x'], .cons ⟨_, rfl⟩ (.cons ru .nil), ⟨_, hT2, rfl, _, rfl⟩⟩
    have I1 : Inv X pins σ (upd H s.heap.objs.size (.tup [.int (i : Nat), x])) { s with heap := h'', toks := tk + 1 } :=
      I.turnedNew (ch := [e, it]) (fun b ob hb q => (sb.2 b (fun z => hb (by simp [z]))).trans (hk b ob (fun z => hb (by simp [z])) (fun z => hb (by simp [z])) q)) hf (Nat.le_refl _) new
    refine ⟨.ref s.heap.objs.size, _, I1, rfl, ⟨_, x, rfl, I.hok.fresh (Nat.le_refl _), rfl, fun ys hy => by rw [I.tuple_inj hy hq]; exact hx⟩, ⟨⟨x', ?_⟩, hit'.at fun o q => (sb.2 it (Ne.symm hne)).trans q, hne⟩, fun b hb => ?_⟩
    · have e1 : ((i + 1 : Nat) : Int) = (i : Int) + 1 := by omega
      rw [e1]; exact he'
    · have hb' : b < s.heap.objs.size := by
        have e' : b = e ∨ b = it := by simpa using hb
        rcases e' with z | z
        · rw [z]; exact hel
        · rw [z]; exact hil
      rw [upd_ne (Nat.ne_of_lt hb')]
      exact (hf b hb).1
  done := by
    intro X hP hw hK hc i pins s σ H E I hf st hg
    subst hP hw hK
    obtain ⟨⟨old, he⟩, hit, hne⟩ := st
    obtain ⟨xs, hq, hx⟩ := hg
    obtain ⟨its, rv, p, hz⟩ := I.tuple hq
    have p : s.heap.IsTuple a its.toArray := p
    obtain ⟨f0, f1, f2, f3, f4, f5⟩ := hf it (by simp)
    have hl := rv.length
    refine (RZ_end (I.ok.hd hc) he hit p (by simp; omega) fun h' eb => ⟨rfl, I.turned (t' := s.toks) (fun b o hb q => eb b o hb q) f0 f1 f3 f4 f5⟩)
  self := fun A i s Q E st h => let ⟨⟨_, he⟩, _⟩ := st; wpAny_pyIter_enum he h
def iEnumT (K : PySem.W.Frag) (ta : TA) : TI := fun σ H R => ta σ H fun vs H1 => ∃ a xs, vs = [.ref a] ∧ SqT K H1 a xs ∧ R (IteT K a) H1
theorem pi_enumT {X : Cx} {e : Expr} {ta : TA} {p pos tpos : Pos} {elts : List Expr} {kk : Nat} (hg : Gl X "enumerate") (hm : X.mg "enumerate" = none) (ha : PA X [e] ta) (hs : starEach [e] X.env = [(false, eval e X.env)] := by rfl) :
    PI X (.Tuple elts kk tpos) (.Call (.Name "enumerate" p) [e] [] pos) (iEnumT X.K ta) := by
  refine ⟨fun pins s σ H R I h => ?_⟩
  refine Call_ (ld_blt I hg hm boot_enumerate (PyProof.Rows.callWith_type1 (thn (ha.run pos pins s σ H _ I h) fun us s1 ⟨vs, H1, I1, r1, q1⟩ => ?_) hs rfl))
  obtain ⟨a, xs, ex, hq, q⟩ := q1
  subst ex
  cases r1 with
  | cons r rr =>
    cases rr
    cases r
    obtain ⟨its, rv, p', hz⟩ := I1.tuple hq
    refine call_enumerate_tuple (show s1.heap.IsTuple a its.toArray from p') fun h' he hit hsz hk => wpAny_pyIter_enum he ?_
    have I2 : Inv X pins σ H1 { s1 with heap := h' } := I1.kept (t' := s1.toks) hk
    refine ⟨s1.heap.objs.size + 1, [s1.heap.objs.size + 1, s1.heap.objs.size], _, _, H1, rfl, I2, turn_enumT a (s1.heap.objs.size + 1) s1.heap.objs.size, ⟨⟨.none, he⟩, hit, Nat.succ_ne_self _⟩, fun b hb => ?_, q⟩
    have e' : b = s1.heap.objs.size + 1 ∨ b = s1.heap.objs.size := by simpa using hb
    have hle : s1.heap.objs.size ≤ b := by
      rcases e' with z | z
      · rw [z]; exact Nat.le_add_right _ _
      · rw [z]; exact Nat.le_refl _
    exact I1.fpOk hle (I1.hok.fresh hle)
end EnT
end

section
namespace Pu
open PySem PySem.Spec PyProof.Rows L2

/-! ### enumerate(d) -/
def enumF : Nat → List Da → List Da
  | _, [] => []
  | i, d :: ds => .tup [.int (i : Int), d] :: enumF (i + 1) ds
theorem enumF_len : ∀ {n : Nat} {ds : List Da}, (enumF n ds).length = ds.length
  | _, [] => rfl
  | n, d :: ds => by simp [enumF, enumF_len (n := n + 1) (ds := ds)]
theorem enumF_get : ∀ {n i : Nat} {ds : List Da} {d : Da}, (enumF n ds)[i]? = some d → ∃ a, ds[i]? = some a ∧ d = .tup [.int ((n + i : Nat) : Int), a]
  | _, _, [], _, h => by simp [enumF] at h
  | n, 0, d :: ds, _, h => by
    simp [enumF] at h
    exact ⟨d, rfl, h.symm⟩
  | n, i + 1, d :: ds, e, h => by
    obtain ⟨a, h1, h2⟩ := enumF_get (n := n + 1) (i := i) (ds := ds) (d := e) (by simpa [enumF] using h)
    exact ⟨a, by simpa using h1, by rw [h2, show n + 1 + i = n + (i + 1) by omega]⟩
theorem itOk_enumL {K : PySem.W.Frag} {a : Addr} {ds : List Da} : ItOk K (Ite K a) [(.ref a, .lst ds)] (enumF 0 ds) := fun L H hs i => by
  have r := hs _ List.mem_cons_self
  simp only [Rep] at r
  obtain ⟨a', xs, e, q, _, rs⟩ := r
  cases e
  refine ⟨fun d h => ?_, fun h => ⟨xs, q.sq, by rw [rs.length]; rw [enumF_len] at h; exact h⟩⟩
  obtain ⟨c, h1, rfl⟩ := enumF_get h
  obtain ⟨y, hy, ry⟩ := rs.getD h1
  refine ⟨⟨xs, y, q.sq, hy⟩, fun w H' z => ?_⟩
  obtain ⟨T, u, rfl, nT, rfl, f⟩ := z
  have e1 := f xs q.sq
  rw [hy] at e1
  cases e1
  refine ⟨keep_upd nT, rep_pair nT (rep_int.mpr (by rw [Nat.zero_add])) ry⟩
theorem itOk_enumT {K : PySem.W.Frag} {a : Addr} {ds : List Da} : ItOk K (EnT.IteT K a) [(.ref a, .tup ds)] (enumF 0 ds) := fun L H hs i => by
  have r := hs _ List.mem_cons_self
  simp only [Rep] at r
  obtain ⟨a', xs, e, q, _, rs⟩ := r
  cases e
  refine ⟨fun d h => ?_, fun h => ⟨xs, q, by rw [rs.length]; rw [enumF_len] at h; exact h⟩⟩
  obtain ⟨c, h1, rfl⟩ := enumF_get h
  obtain ⟨y, hy, ry⟩ := rs.getD h1
  refine ⟨⟨xs, y, q, hy⟩, fun w H' z => ?_⟩
  obtain ⟨T, u, rfl, nT, rfl, f⟩ := z
  have e1 := f xs q
  rw [hy] at e1
  cases e1
  refine ⟨keep_upd nT, rep_pair nT (rep_int.mpr (by rw [Nat.zero_add])) ry⟩
def asT : Da → Option (List Da)
  | .tup ds => some ds
  | _ => none
theorem of_asT {d : Da} {ds : List Da} (h : asT d = some ds) : d = .tup ds := by
  cases d <;> simp [asT] at h
  subst h
  rfl
def iEnumT (m : W Da) : W (List Da) := m.bind fun d => (W.opt (asT d)).bind fun ds => W.ret (enumF 0 ds)
def iEnumL (m : W Da) : W (List Da) := m.bind fun d => (W.opt (asL d)).bind fun ds => W.ret (enumF 0 ds)
section
variable {X : Cx} {G : Gc} {x : Ex → En → Prop}
theorem i_enumT {a : Expr} {m : W Da} {p pos tpos : Pos} {elts : List Expr} {kk : Nat} (hg : Gl X "enumerate") (hm : X.mg "enumerate" = none) (ha : PE X a (tp X.K G x m)) (hs : starEach [a] X.env = (false, eval a X.env) :: starEach [] X.env := by rfl) (hs2 : starEach [a] X.env = [(false, eval a X.env)] := by rfl) :
    PI X (.Tuple elts kk tpos) (.Call (.Name "enumerate" p) [a] [] pos) (tit X.K G x (iEnumT m)) := (EnT.pi_enumT hg hm (pa_cons ha pa_nil hs) hs2).of fun σ H R ⟨ρ, pe, S, q⟩ =>
  ⟨ρ, pe, S, m.mono (fun d ρ1 q v H1 ⟨O, S1⟩ => by
    obtain ⟨ds, e, q⟩ := W.opt_wp q
    have e' := of_asT e
    subst e'
    have r := S1.top
    have r' := r
    simp only [Rep] at r
    obtain ⟨a', xs, e, h1, z, rs⟩ := r
    subst e
    exact ⟨a', xs, rfl, h1, q _ [(.ref a', .tup ds)] H1 itOk_enumT (by rw [enumF_len]; exact z) ⟨O, S1.pop.pushDs fun p hp => by
      rw [List.mem_singleton.mp hp]
      exact r'⟩⟩) (fun _ _ z => z) q⟩
theorem i_enumL {a : Expr} {m : W Da} {p pos tpos : Pos} {elts : List Expr} {kk : Nat} (hg : Gl X "enumerate") (hm : X.mg "enumerate" = none) (ha : PE X a (tp X.K G x m)) (hs : starEach [a] X.env = (false, eval a X.env) :: starEach [] X.env := by rfl) (hs2 : starEach [a] X.env = [(false, eval a X.env)] := by rfl) :
    PI X (.Tuple elts kk tpos) (.Call (.Name "enumerate" p) [a] [] pos) (tit X.K G x (iEnumL m)) := (pi_enum hg hm (pa_cons ha pa_nil hs) hs2).of fun σ H R ⟨ρ, pe, S, q⟩ =>
  ⟨ρ, pe, S, m.mono (fun d ρ1 q v H1 ⟨O, S1⟩ => by
    obtain ⟨ds, e, q⟩ := W.opt_wp q
    have e' := of_asL e
    subst e'
    have r := S1.top
    have r' := r
    simp only [Rep] at r
    obtain ⟨a', xs, e, h1, z, rs⟩ := r
    subst e
    exact ⟨a', xs, rfl, h1.sq, q _ [(.ref a', .lst ds)] H1 itOk_enumL (by rw [enumF_len]; exact z) ⟨O, S1.pop.pushDs fun p hp => by
      rw [List.mem_singleton.mp hp]
      exact r'⟩⟩) (fun _ _ z => z) q⟩

/-! ### isinstance(d, C), d an object of C -/
theorem p_isC {e : Expr} {C : Addr} {p p2 pos : Pos} {m : W Da} {cn : Str} (c : C8.InsC X.K C) (hg : Gl X "isinstance") (hm : X.mg "isinstance" = none) (hv : bootBuiltins "isinstance" = some (.builtin "isinstance")) (he : PE X e (tp X.K G x m))
    (hc : PE X (.Name cn p2) (tC (.ref C))) (hs0 : starEach [e, .Name cn p2] X.env = (false, eval e X.env) :: starEach [.Name cn p2] X.env := by rfl)
    (hs : starEach [.Name cn p2] X.env = (false, eval (.Name cn p2) X.env) :: starEach [] X.env := by rfl) (hpl : (backTo pos (starEach [.Name cn p2] X.env)).any (·.1) = false := by rfl) :
    PE X (.Call (.Name "isinstance" p) [e, .Name cn p2] [] pos) (tp X.K G x (eIsC C m)) :=
  (pe_callB (C8.call_isC c) hg hm hv (pa_cons he (pa_cons hc pa_nil hs) hs0) (by decide) (by decide) hs0 hpl).of fun σ H Q ⟨ρ, pe, S, q⟩ => ⟨ρ, pe, S, m.mono (fun d ρ1 q v H1 ⟨O, S1⟩ => by
    obtain ⟨h1, q⟩ := q
    obtain ⟨ns, xs, ed⟩ := of_isObj h1
    obtain ⟨a', dx, fs, rfl, ⟨ha, _⟩, _⟩ := rep_obj.mp (ed ▸ S1.top)
    exact ⟨a', dx, fs, rfl, ha, q _ H1 ⟨O, S1.pop.pushD (rep_bl'.mpr rfl)⟩⟩) (fun _ _ z => z) q⟩
end
end Pu
end

section
/-! several except clauses, each with a name (ps_try_many's and ps_try_as's proofs turned to it) -/
namespace L2
open PySem PySem.Spec PyProof.Rows
abbrev Hd := Value × Nat × (Addr → Value → Option Addr → TS)
def offSlot (D : Ends) (i : Nat) : Ends := { nx := fun σ' H' => D.nx (σ'.set i none) H', rt := D.rt, bk := fun σ' H' => D.bk (σ'.set i none) H', ct := fun σ' H' => D.ct (σ'.set i none) H' }
def wN (K : PySem.W.Frag) (Wout : WX) (D : Ends) : List Hd → WX
  | [] => Wout
  | (c, i, ts) :: r => fun cls d σ H => ∃ b, PySem.W.exmOne K cls c = some b ∧ (b = true → ∀ a, H a = none → ts a cls d (offSlot D i) (σ.set i (some (.ref a))) H) ∧ (b = false → wN K Wout D r cls d σ H)
inductive HdsN (X : Cx) : List ExceptHandler → List Hd → Prop
  | nil : HdsN X [] []
  | cons {x n : Str} {c : Value} {i : Nat} {ts : Addr → Value → Option Addr → TS} {b₀ : Stmt} {suite : List Stmt} {np pos' : Pos} {hds : List ExceptHandler} {l : List Hd} (hi : X.N[i]? = some n) (hln : X.env.kindOf n = some .local) (hc : Names X x c)
      (hsu : ∀ (a : Addr) (oe : Obj) (cls : Value) (d : Option Addr) (pn : List (Addr × Obj)), Zc cls d oe → (∃ vs, oe.data = .fields vs) → PSs (X.suite a ((a, oe) :: pn)) (b₀ :: suite) (ts a cls d)) (r : HdsN X hds l) :
      HdsN X (.ExceptHandler (some (.Name x np)) (some n) (b₀ :: suite) pos' :: hds) ((c, i, ts) :: l)
section
variable {X : Cx} {body : List Stmt} {h₀ : ExceptHandler} {hds : List ExceptHandler} {l : List Hd} {pos : Pos} {tb : WX → TS} {Wout : WX}
theorem ps_try_named (hs : X.stack = X.env :: X.outer) (hf : X.env.frame = some X.env.locals) (hN : X.N.Nodup) (tk : Takes X Wout)
    (hb : ∀ (W : WX) (pn : List (Addr × Obj)) (xe : Value → Shared → Prop), Takes (X.tr pn xe) W → PassesOwn (model X.prog X.w) X.A X.env xe → PSs (X.tr pn xe) body (tb W))
    (hh : HdsN X (h₀ :: hds) l) : PS X (.Try body (h₀ :: hds) [] [] pos) (fun D σ H => tb (wN X.K Wout D l) D σ H) := by
  refine ⟨fun pins s σ H D I h => ?_⟩
  have ok := I.ok
  have hfr : X.A.frames = some (X.env :: X.outer) := by rw [ok.frames, hs]
  refine wpAny_Try_except ?_
  refine wpAny_mono ((hb (wN X.K Wout D l) (X.pn ++ pins) (fun e s₁ => wpAny (model X.prog X.w) X.A (noteFrame e X.env) (fun _ s₂ => wpAny (model X.prog X.w) X.A (setFlight e none) (fun _ s₃ =>
    wpAny (model X.prog X.w) X.A (handleBy e X.env (h₀ :: hds)) (SP X pins D) X.xe s₃) X.xe s₂) X.xe s₁) (fun u s' xx => ?_) PassesOwn.looking).run [] s σ H D (I.toTry _) h) (fun f s1 hsp => ?_) (fun e s1 he => he)
  · -- the catch
    obtain ⟨a, B, sI, pins', σ', H', cls, d, rfl, J', nb, up, sky, na, os, ag, w⟩ := xx
    have J : Inv X pins σ' H' sI := J'.ofTry ok
    have sky' : Sky B (X.env :: X.outer) a (Zc cls d) X.env.locals s'.heap := by rw [← hs]; exact sky
    show wpAny (model X.prog X.w) X.A (noteFrame (.ref a) X.env) _ _ _
    refine Sky.land Zc.steady hfr hf sky' fun h3 fl3 up3 => ?_
    have J3 : Inv X pins σ' H' { s' with heap := h3 } := J.landed nb fl3.1 (up.trans up3) os ag
    obtain ⟨oe3, vs3, he3, hz3, hd3⟩ := fl3.there
    have notFr : ∀ {h : Heap} {o : Obj} {vs : Array Value}, h.FunFrames B (X.env :: X.outer) → h.get? a = some o → o.data = .fields vs → a ∉ frs (X.env :: X.outer) := fun {h o vs} ff e dd hm => by
      obtain ⟨_, o', e', hnf⟩ := ff.mem hm
      rw [e] at e'; cases e'
      exact hnf _ dd
    have nfr := notFr fl3.2.2.1 he3 hd3
    have nL : a ≠ X.env.locals := fun z => nfr (List.mem_filterMap.mpr ⟨X.env, List.mem_cons_self, by rw [hf, z]⟩)
    have nF : a ∉ X.fs := fun hm => by
      obtain ⟨e, he, q⟩ := List.mem_filterMap.mp hm
      exact nfr (List.mem_filterMap.mpr ⟨e, List.mem_cons_of_mem _ he, q⟩)
    have S3 := J3.suite he3 hd3 na nL nF
    have go : ∀ {hds' : List ExceptHandler} {l' : List Hd}, HdsN X hds' l' → wN X.K Wout D l' cls d σ' H' →
        wpAny (model X.prog X.w) X.A (handleBy (.ref a) X.env hds') (SP X pins D) X.xe { s' with heap := h3 } := by
      intro hds' l' hk
      induction hk with
      | nil =>
        intro w
        refine wpAny_handleBy_nil ?_
        obtain ⟨k1, k2, k3, oe, vs, T, oT, ts', he, hz, hd, h1, hr⟩ := id fl3
        unfold PySem.passOn
        refine wpAny_bind (wpAny_field he hd h1 ?_)
        rw [if_neg (show ¬ ((Value.ref T == Value.none) = true) from by simp)]
        have fin : wpAny (model X.prog X.w) X.A (setFlight (.ref a) X.env.frame) (fun _ s4 => wpAny (model X.prog X.w) X.A (throw (.ref a) : Sem Flow) (SP X pins D) X.xe s4) X.xe { s' with heap := h3 } := by
          rw [hf]
          refine HandSPX.setFlight_upZ fl3 fun h4 hh4 up4 => wpAny_throw (tk _ _ ?_)
          exact ⟨a, B, sI, pins, σ', H', cls, d, rfl, J, nb, (up.trans up3).trans up4, .inr (.inr (by rw [hs]; exact hh4)), na, os, ag, w⟩
        first
          | exact wpAny_bind (wpAny_pure (wpAny_bind fin))
          | exact wpAny_bind fin
      | @cons x n c i ts b₀ suite np pos' hds2 l2 hi hln hc hsu r ih =>
        intro w
        obtain ⟨b, hb1, hyes, hno⟩ := w
        refine wpAny_handleBy_cons (codeAny_handlers_test ?_) (by intro q; cases q)
        have LT : PySem.W.Looks (model X.prog X.w) h3 (typeOf (.ref a)) cls := fun A Q E s k q => wpAny_typeOf_ref (k _ _ he3) (by rw [hz3.1]; exact q)
        have LM := PySem.W.exm_one (M := model X.prog X.w) (J3.kIn) LT hb1
        have test : ∀ {Q : Value → Shared → Prop} {E : Value → Shared → Prop}, Q c { s' with heap := h3 } → wpAny (model X.prog X.w) (X.A.mark (some (.ref a))) (eval (.Name x np) X.env) Q E { s' with heap := h3 } := fun {Q E} q => by
          obtain ⟨hg, hdbg, hm | ⟨hm, hv, hnn⟩⟩ := hc
          · exact ld_glob (X := X.suite a ((a, oe3) :: (X.pn ++ pins))) S3 hg hm q hdbg
          · exact ld_blt (X := X.suite a ((a, oe3) :: (X.pn ++ pins))) S3 hg hm hv q hnn hdbg
        refine test (LM.here ?_)
        cases b with
        | true =>
          refine codeAny_handlers_suite_as ?_
          refine HandSPX.lands_againZ fl3 fun h4 fl4 up4 => ?_
          have J4 : Inv X pins σ' H' { s' with heap := h4 } := J.landed nb fl4.1 ((up.trans up3).trans up4) os ag
          obtain ⟨oe4, vs4, he4, hz4, hd4⟩ := fl4.there
          have S4 := J4.suite he4 hd4 na nL nF
          refine store_ok (X := X.suite a ((a, oe4) :: (X.pn ++ pins))) (v := .ref a) S4 hN hi (.inl hln) rfl (fun s5 S5 => ?_) (.inr hln)
          refine wpAny_mono ((hsu a oe4 cls d (X.pn ++ pins) hz4 ⟨_, hd4⟩).run [] s5 _ H' _ S5 (hyes rfl a na)) (fun f s6 hsp => ?_) (fun _ _ z => False.elim z)
          have end_ : ∀ {σ6 : St} {H6 : Hp} {Q : Shared → Prop}, Inv (X.suite a ((a, oe4) :: (X.pn ++ pins))) [] σ6 H6 s6 → (∀ s7, Inv X pins (σ6.set i none) H6 s7 → Q s7) →
              wpAny (model X.prog X.w) X.A (do bindName X.env n .none; unbindBehindTheSuite X.env n pos') (fun _ s7 => Q s7) X.xe s6 := fun {σ6 H6 Q} S6 hq => gone_ok (S6.unsuite ok) hN hi hln hq
          cases f with
          | next =>
            obtain ⟨σ6, H6, S6, q6⟩ := hsp
            exact end_ S6 fun s7 J7 => ⟨_, _, J7, q6⟩
          | brk =>
            obtain ⟨σ6, H6, S6, q6⟩ := hsp
            exact end_ S6 fun s7 J7 => ⟨_, _, J7, q6⟩
          | cont =>
            obtain ⟨σ6, H6, S6, q6⟩ := hsp
            exact end_ S6 fun s7 J7 => ⟨_, _, J7, q6⟩
          | ret u =>
            obtain ⟨v6, σ6, H6, S6, r6, q6⟩ := hsp
            exact end_ S6 fun s7 J7 => ⟨_, _, _, J7, r6, q6⟩
        | false =>
          show wpAny _ X.A (handleBy (.ref a) X.env hds2) _ _ _
          exact ih (hno rfl)
    exact go hh w
  · cases f with
    | next =>
      obtain ⟨σ', H', J', q⟩ := hsp
      exact wpAny_execs_nil ⟨σ', H', J'.ofTry ok, q⟩
    | brk =>
      obtain ⟨σ', H', J', q⟩ := hsp
      exact ⟨σ', H', J'.ofTry ok, q⟩
    | cont =>
      obtain ⟨σ', H', J', q⟩ := hsp
      exact ⟨σ', H', J'.ofTry ok, q⟩
    | ret u =>
      obtain ⟨v, σ', H', J', r, q⟩ := hsp
      exact ⟨v, σ', H', J'.ofTry ok, r, q⟩
end
end L2
end

section
namespace Pu
open PySem PySem.Spec PyProof.Rows L2

/-! ### try: .. except C: .. without a name -/
def tryExU (cat : Str → Option Bool) (s : Sx) (E : Fl) : Ex → En → Prop := fun e ρ => match cat e.name with
  | some true => s.wp ρ { E with ex := fun _ _ => False }
  | some false => E.ex e ρ
  | none => False
theorem tryExU_mono {cat : Str → Option Bool} {s : Sx} {E E' : Fl} (l : Fl.Le E E') (e : Ex) (ρ : En) (h : tryExU cat s E e ρ) : tryExU cat s E' e ρ := by
  unfold tryExU at h ⊢
  split
  · rename_i q
    rw [q] at h
    exact s.mono (E := { E with ex := fun _ _ => False }) ⟨l.nx, l.rt, l.bk, l.ct, fun _ _ z => z⟩ h
  · rename_i q
    rw [q] at h
    exact l.ex _ _ h
  · rename_i q
    rw [q] at h
    exact h
def sTryU (cat : Str → Option Bool) (b s : Sx) : Sx := ⟨fun ρ E => b.wp ρ { E with ex := tryExU cat s E }, fun {ρ E E'} l h => b.mono (E := { E with ex := tryExU cat s E }) ⟨l.nx, l.rt, l.bk, l.ct, fun e ρ q => tryExU_mono l e ρ q⟩ h⟩
section
variable {X : Cx} {G : Gc} {x : Ex → En → Prop}
theorem s_tryU {cn : Str} {c : Value} {body suite : List Stmt} {b₀ : Stmt} {np pos pos' : Pos} {cat : Str → Option Bool} {b s : Sx} (xo : XOk X G x) (hs : X.stack = X.env :: X.outer) (hf : X.env.frame = some X.env.locals)
    (hc : Names X cn c)
    (hcat : ∀ (nm : Str) (C : Addr), X.mg nm = some (.ref C) → (cat nm = some true → PySem.W.exmOne X.K (.ref C) c = some true) ∧ (cat nm = some false → PySem.W.exmOne X.K (.ref C) c = some false))
    (hb : ∀ (pn : List (Addr × Obj)) (xe : Value → Shared → Prop) (x' : Ex → En → Prop), XOk (X.tr pn xe) G x' → PassesOwn (model X.prog X.w) X.A X.env xe → PSs (X.tr pn xe) body (ts0 X.K G x' b))
    (hsu : ∀ (a : Addr) (oe : Obj) (pn : List (Addr × Obj)), PSs (X.suite a ((a, oe) :: pn)) (b₀ :: suite) (ts0 X.K G noEx s)) :
    PS X (.Try body [.ExceptHandler (some (.Name cn np)) none (b₀ :: suite) pos'] [] [] pos) (ts0 X.K G x (sTryU cat b s)) := by
  obtain ⟨Wx, tk, hW⟩ := xo.ex
  have big := ps_try_many (X := X) (body := body) (h₀ := .ExceptHandler (some (.Name cn np)) none (b₀ :: suite) pos') (hds := []) (l := [(c, fun _ _ _ => ts0 X.K G noEx s)]) (pos := pos)
    (tb := fun Wt D σ H => ∃ x' : Ex → En → Prop, (∀ (e : Ex) (ρ : En) (σ : L2.St) (pe : Pend) (H : Hp) (O : Addr → Option Tg) (C d : Addr), x' e ρ → StO X.K G O σ ρ pe H → X.mg e.name = some (.ref C) → XdAt X.K (Lof G O) H d e → Wt (.ref C) (some d) σ H) ∧ ts0 X.K G x' b D σ H)
    (Wout := Wx) hs hf tk (fun Wt pn xe tk' po => ⟨fun pins s1 σ H D I ⟨x', hx', q⟩ => (hb pn xe x' ⟨xo.so, Wt, tk', hx'⟩ po).run pins s1 σ H D I q⟩)
    (.cons hc (fun a oe cls d pn _ _ => hsu a oe pn) .nil)
  refine big.of fun D σ H ⟨ρ, S, q⟩ => ?_
  refine ⟨tryExU cat s (flOf X.K G x σ [] D), fun e ρ1 σ1 pe1 H1 O1 C d h S1 hC hd => ?_, ρ, S, q⟩
  unfold tryExU at h
  split at h
  · rename_i hcat'
    refine ⟨true, (hcat _ _ hC).1 hcat', fun _ a na => ⟨ρ1, ⟨_, S1.bare⟩, s.mono (E := { flOf X.K G x σ [] D with ex := fun _ _ => False }) ⟨fun _ z => z, fun _ _ z => z, fun _ z => z, fun _ z => z, fun _ _ z => z⟩ h⟩, fun z => Bool.noConfusion z⟩
  · rename_i hcat'
    exact ⟨false, (hcat _ _ hC).2 hcat', fun z => absurd z Bool.false_ne_true, fun _ => hW e ρ1 σ1 pe1 H1 O1 C d h S1 hC hd⟩
  · exact h.elim
end
end Pu
end

section
namespace Pu
open PySem PySem.Spec PyProof.Rows L2

/-! ### try: .. except C1 as n: .. except C2 as n: .. -/
def tryEx2 (cat : Str → Option (Option Bool)) (i : Nat) (s1 s2 : Sx) (E : Fl) : Ex → En → Prop := fun e ρ => match cat e.name with
  | some (some true) => NoExn ρ ∧ s1.wp (ρ.set i (some (.exn e.fld e.what))) (sufl i E)
  | some (some false) => NoExn ρ ∧ s2.wp (ρ.set i (some (.exn e.fld e.what))) (sufl i E)
  | some none => E.ex e ρ
  | none => False
theorem tryEx2_mono {cat : Str → Option (Option Bool)} {i : Nat} {s1 s2 : Sx} {E E' : Fl} (l : Fl.Le E E') (e : Ex) (ρ : En) (h : tryEx2 cat i s1 s2 E e ρ) : tryEx2 cat i s1 s2 E' e ρ := by
  unfold tryEx2 at h ⊢
  split
  · rename_i q
    rw [q] at h
    exact ⟨h.1, s1.mono (sufl_le l) h.2⟩
  · rename_i q
    rw [q] at h
    exact ⟨h.1, s2.mono (sufl_le l) h.2⟩
  · rename_i q
    rw [q] at h
    exact l.ex _ _ h
  · rename_i q
    rw [q] at h
    exact h
def sTry2 (cat : Str → Option (Option Bool)) (i : Nat) (b s1 s2 : Sx) : Sx := ⟨fun ρ E => b.wp ρ { E with ex := tryEx2 cat i s1 s2 E }, fun {ρ E E'} l h => b.mono (E := { E with ex := tryEx2 cat i s1 s2 E }) ⟨l.nx, l.rt, l.bk, l.ct, fun e ρ q => tryEx2_mono l e ρ q⟩ h⟩
section
variable {X : Cx} {G : Gc} {x : Ex → En → Prop}
theorem suite_in {i : Nat} {s : Sx} {D : Ends} {σ σ1 : L2.St} {ρ1 : En} {pe1 : Pend} {H1 : Hp} {O1 : Addr → Option Tg} {e : Ex} {a d : Addr} (S1 : StO X.K G O1 σ1 ρ1 pe1 H1) (hd : XdAt X.K (Lof G O1) H1 d e) (nex : NoExn ρ1)
    (h : s.wp (ρ1.set i (some (.exn e.fld e.what))) (sufl i (flOf X.K G x σ [] D))) : ts0 X.K { G with xa := some (a, d) } noEx s (offSlot D i) (σ1.set i (some (.ref a))) H1 := by
  obtain ⟨y, hdx, ry⟩ := hd
  have S2 := (S1.bare.exnOf nex (some (a, d))).forget i (some (.ref a))
  have S3 : StO X.K { G with xa := some (a, d) } (clr O1 (.slot i)) (σ1.set i (some (.ref a))) (ρ1.set i (some (.exn e.fld e.what))) [] H1 := by
    refine ⟨S2.frame, S2.own, S2.pools, by have := S1.len; simpa using this, fun j cc ej => ?_, trivial⟩
    rcases getset ej with ⟨e1, e2, hl⟩ | ⟨nj, ej⟩
    · subst e1
      cases e2
      exact ⟨.ref a, List.getElem?_set_self (by rw [← S1.len]; exact hl), a, d, y, rfl, rfl, hdx, Rep.mono (fun _ _ e _ => e) (fun _ _ _ z => lof_clr z) _ _ ry⟩
    · exact S2.slots j cc (by rw [List.getElem?_set_ne nj]; exact ej)
  refine ⟨_, ⟨_, S3⟩, s.mono (E := sufl i (flOf X.K G x σ [] D)) ⟨fun ρ2 q2 σ' H' ⟨O', S'⟩ => ?_, fun dv ρ2 q2 v σ' H' ⟨O', S'⟩ => ?_, fun ρ2 q2 σ' H' ⟨O', S'⟩ => ?_, fun ρ2 q2 σ' H' ⟨O', S'⟩ => ?_, fun _ _ z => z⟩ h⟩
  · exact q2.2 _ H' ⟨_, (S'.forget i none).exnTo q2.1⟩
  · refine q2.2 v σ' H' ⟨O', ?_⟩
    have S4 : StO X.K { G with xa := some (a, d) } O' σ' (ρ2.set i none) [] H' := S'.bare.weak (by have := S'.len; simpa using this) fun j cc ej => by
      rcases getset ej with ⟨_, e, _⟩ | ⟨_, e⟩
      · cases e
      · exact ⟨e, rfl⟩
    exact (S4.exnTo q2.1).pushD S'.top
  · exact q2.2 _ H' ⟨_, (S'.forget i none).exnTo q2.1⟩
  · exact q2.2 _ H' ⟨_, (S'.forget i none).exnTo q2.1⟩
/-- what a suite's derivation may use of its exception -/
def Suite (X : Cx) (G : Gc) (fld : Str) (st : List Stmt) (s : Sx) : Prop := ∀ (a dd C : Addr) (oe : Obj) (pn : List (Addr × Obj)), XfC X.K C → PySem.W.findIn X.K (.ref C) fld = some none → Zc (.ref C) (some dd) oe → (∃ vs, oe.data = .fields vs) →
  PSs (X.suite a ((a, oe) :: pn)) st (ts0 X.K { G with xa := some (a, dd) } noEx s)
theorem s_try2 {cn cn' n : Str} {c c' : Value} {i : Nat} {body suite suite' : List Stmt} {b₀ b₀' : Stmt} {np np' pos pos' pos'' : Pos} {cat : Str → Option (Option Bool)} {fld : Str} {b s s' : Sx} (xo : XOk X G x) (hs : X.stack = X.env :: X.outer) (hf : X.env.frame = some X.env.locals) (hN : X.N.Nodup) (hi : X.N[i]? = some n)
    (hln : X.env.kindOf n = some .local) (hc : Names X cn c) (hc' : Names X cn' c')
    (hcat : ∀ (nm : Str) (C : Addr), X.mg nm = some (.ref C) → (cat nm = some (some true) → XfC X.K C ∧ PySem.W.findIn X.K (.ref C) fld = some none ∧ PySem.W.exmOne X.K (.ref C) c = some true) ∧
      (cat nm = some (some false) → XfC X.K C ∧ PySem.W.findIn X.K (.ref C) fld = some none ∧ PySem.W.exmOne X.K (.ref C) c = some false ∧ PySem.W.exmOne X.K (.ref C) c' = some true) ∧
      (cat nm = some none → PySem.W.exmOne X.K (.ref C) c = some false ∧ PySem.W.exmOne X.K (.ref C) c' = some false))
    (hb : ∀ (pn : List (Addr × Obj)) (xe : Value → Shared → Prop) (x' : Ex → En → Prop), XOk (X.tr pn xe) G x' → PassesOwn (model X.prog X.w) X.A X.env xe → PSs (X.tr pn xe) body (ts0 X.K G x' b))
    (hsu : Suite X G fld (b₀ :: suite) s) (hsu' : Suite X G fld (b₀' :: suite') s') :
    PS X (.Try body [.ExceptHandler (some (.Name cn np)) (some n) (b₀ :: suite) pos', .ExceptHandler (some (.Name cn' np')) (some n) (b₀' :: suite') pos''] [] [] pos) (ts0 X.K G x (sTry2 cat i b s s')) := by
  obtain ⟨Wx, tk, hW⟩ := xo.ex
  let T : Sx → Addr → Value → Option Addr → TS := fun s a cls d D σ H => ∃ C dd, cls = .ref C ∧ d = some dd ∧ XfC X.K C ∧ PySem.W.findIn X.K (.ref C) fld = some none ∧ ts0 X.K { G with xa := some (a, dd) } noEx s D σ H
  have big := ps_try_named (X := X) (body := body) (h₀ := .ExceptHandler (some (.Name cn np)) (some n) (b₀ :: suite) pos') (hds := [.ExceptHandler (some (.Name cn' np')) (some n) (b₀' :: suite') pos'']) (l := [(c, i, T s), (c', i, T s')]) (pos := pos)
    (tb := fun Wt D σ H => ∃ x' : Ex → En → Prop, (∀ (e : Ex) (ρ : En) (σ : L2.St) (pe : Pend) (H : Hp) (O : Addr → Option Tg) (C d : Addr), x' e ρ → StO X.K G O σ ρ pe H → X.mg e.name = some (.ref C) → XdAt X.K (Lof G O) H d e → Wt (.ref C) (some d) σ H) ∧ ts0 X.K G x' b D σ H)
    (Wout := Wx) hs hf hN tk (fun Wt pn xe tk' po => ⟨fun pins s1 σ H D I ⟨x', hx', q⟩ => (hb pn xe x' ⟨xo.so, Wt, tk', hx'⟩ po).run pins s1 σ H D I q⟩)
    (.cons hi hln hc (fun a oe cls d pn hz hfi => ⟨fun pins s1 σ H D I ⟨C, dd, ec, ed, T, hno, q⟩ => by
      subst ec
      subst ed
      exact (hsu a dd C oe pn T hno hz hfi).run pins s1 σ H D I q⟩)
    (.cons hi hln hc' (fun a oe cls d pn hz hfi => ⟨fun pins s1 σ H D I ⟨C, dd, ec, ed, T, hno, q⟩ => by
      subst ec
      subst ed
      exact (hsu' a dd C oe pn T hno hz hfi).run pins s1 σ H D I q⟩) .nil))
  refine big.of fun D σ H ⟨ρ, S, q⟩ => ?_
  refine ⟨tryEx2 cat i s s' (flOf X.K G x σ [] D), fun e ρ1 σ1 pe1 H1 O1 C d h S1 hC hd => ?_, ρ, S, q⟩
  unfold tryEx2 at h
  split at h
  · rename_i hk
    obtain ⟨nex, h⟩ := h
    obtain ⟨t1, hno, hex⟩ := (hcat _ _ hC).1 hk
    exact ⟨true, hex, fun _ a na => ⟨C, d, rfl, rfl, t1, hno, suite_in S1 hd nex h⟩, fun z => Bool.noConfusion z⟩
  · rename_i hk
    obtain ⟨nex, h⟩ := h
    obtain ⟨t1, hno, hex, hex'⟩ := (hcat _ _ hC).2.1 hk
    exact ⟨false, hex, fun z => absurd z Bool.false_ne_true, fun _ => ⟨true, hex', fun _ a na => ⟨C, d, rfl, rfl, t1, hno, suite_in S1 hd nex h⟩, fun z => Bool.noConfusion z⟩⟩
  · rename_i hk
    obtain ⟨hex, hex'⟩ := (hcat _ _ hC).2.2 hk
    exact ⟨false, hex, fun z => absurd z Bool.false_ne_true, fun _ => ⟨false, hex', fun z => absurd z Bool.false_ne_true, fun _ => hW e ρ1 σ1 pe1 H1 O1 C d h S1 hC hd⟩⟩
  · exact h.elim
end
end Pu
end

section
namespace Pu
open PySem PySem.Spec PyProof.Rows L2

/-! ### min, max of a list of ints -/
def leastI : List Int → Option Int
  | [] => none
  | [n] => some n
  | n :: r => (leastI r).map fun m => if m < n then m else n
def mostI : List Int → Option Int
  | [] => none
  | [n] => some n
  | n :: r => (mostI r).map fun m => if n < m then m else n
theorem leastI_ok : ∀ {ns : List Int} {m : Int}, leastI ns = some m → m ∈ ns ∧ ∀ y ∈ ns, m ≤ y
  | [], m, e => by cases e
  | [n], m, e => by
    cases e
    simp
  | n :: k :: r, m, e => by
    simp only [leastI, Option.map_eq_some_iff] at e
    obtain ⟨m', e, rfl⟩ := e
    obtain ⟨h1, h2⟩ := leastI_ok (ns := k :: r) (m := m') e
    by_cases h : m' < n
    · rw [if_pos h]
      refine ⟨List.mem_cons_of_mem _ h1, fun y hy => ?_⟩
      rcases List.mem_cons.mp hy with rfl | hy
      · omega
      · exact h2 y hy
    · rw [if_neg h]
      refine ⟨List.mem_cons_self, fun y hy => ?_⟩
      rcases List.mem_cons.mp hy with rfl | hy
      · omega
      · have := h2 y hy
        omega
theorem mostI_ok : ∀ {ns : List Int} {m : Int}, mostI ns = some m → m ∈ ns ∧ ∀ y ∈ ns, y ≤ m
  | [], m, e => by cases e
  | [n], m, e => by
    cases e
    simp
  | n :: k :: r, m, e => by
    simp only [mostI, Option.map_eq_some_iff] at e
    obtain ⟨m', e, rfl⟩ := e
    obtain ⟨h1, h2⟩ := mostI_ok (ns := k :: r) (m := m') e
    by_cases h : n < m'
    · rw [if_pos h]
      refine ⟨List.mem_cons_of_mem _ h1, fun y hy => ?_⟩
      rcases List.mem_cons.mp hy with rfl | hy
      · omega
      · exact h2 y hy
    · rw [if_neg h]
      refine ⟨List.mem_cons_self, fun y hy => ?_⟩
      rcases List.mem_cons.mp hy with rfl | hy
      · omega
      · have := h2 y hy
        omega
def dMin : List Da → Option Da
  | [.lst ds] => (intL ds).bind fun ns => (leastI ns).map Da.int
  | _ => none
def dMax : List Da → Option Da
  | [.lst ds] => (intL ds).bind fun ns => (mostI ns).map Da.int
  | _ => none
section
variable {K : PySem.W.Frag}
theorem f_min : OpN K (rMin K) dMin := by
  intro L H ds d vs Q r e q
  unfold dMin at e
  split at e
  · obtain ⟨v, rfl, rv⟩ := reps1 r
    simp only [Option.bind_eq_some_iff, Option.map_eq_some_iff] at e
    obtain ⟨ns, hb, m, hm, rfl⟩ := e
    obtain ⟨p, xs, e1, hq, z, rs⟩ := rep_lst.mp rv
    subst e1
    rw [intL_rep hb rs] at hq
    obtain ⟨h1, h2⟩ := leastI_ok hm
    refine ⟨p, ns, rfl, .of hq.1, List.length_pos_of_mem h1, fun m' k1 k2 => ?_⟩
    have e2 : m' = m := Int.le_antisymm (k2 m h1) (h2 m' k1)
    subst e2
    exact q _ H same_ok (rep_int.mpr rfl)
  · cases e
theorem f_max : OpN K (rMax K) dMax := by
  intro L H ds d vs Q r e q
  unfold dMax at e
  split at e
  · obtain ⟨v, rfl, rv⟩ := reps1 r
    simp only [Option.bind_eq_some_iff, Option.map_eq_some_iff] at e
    obtain ⟨ns, hb, m, hm, rfl⟩ := e
    obtain ⟨p, xs, e1, hq, z, rs⟩ := rep_lst.mp rv
    subst e1
    rw [intL_rep hb rs] at hq
    obtain ⟨h1, h2⟩ := mostI_ok hm
    refine ⟨p, ns, rfl, .of hq.1, List.length_pos_of_mem h1, fun m' k1 k2 => ?_⟩
    have e2 : m' = m := Int.le_antisymm (h2 m' k1) (k2 m h1)
    subst e2
    exact q _ H same_ok (rep_int.mpr rfl)
  · cases e
end
end Pu
end

section
namespace Pu
open PySem PySem.Spec PyProof.Rows L2

/-! ### tuple * int, two times or more -/
def dRepT : Da → Da → Option Da
  | .tup ds, .int k => if 0 < ds.length ∧ 2 ≤ k ∧ k ≤ 1000 ∧ ds.length ≤ 1000 then some (.tup (List.replicate k.toNat ds).flatten) else none
  | _, _ => none
theorem reps_rep {K : PySem.W.Frag} {L : Addr → Prop} {H : Hp} {ds : List Da} {vs : List V} (r : Reps K L H ds vs) : ∀ n : Nat, Reps K L H (List.replicate n ds).flatten (List.replicate n vs).flatten
  | 0 => by simp [Reps]
  | n + 1 => by
    rw [List.replicate_succ, List.replicate_succ, List.flatten_cons, List.flatten_cons]
    exact r.app (reps_rep r n)
theorem f_repT {K : PySem.W.Frag} : Op2 K (rRepT K) dRepT := by
  intro L H dx dy d a b Q ra rb e q
  unfold dRepT at e
  split at e
  · rename_i ds k
    split at e
    · rename_i h
      cases e
      obtain ⟨h0, h1, h2, h3⟩ := h
      obtain ⟨p, us, e1, hs, z, r⟩ := rep_tup.mp ra
      have l := r.length
      refine ⟨p, k, us, e1, rep_int.mp rb, hs, fun c => by rw [c] at l; simp at l; omega, h1, h2, by omega, fun t nt => q _ _ (keep_upd nt) (rep_newT nt ?_ (reps_rep r _))⟩
      have hl : (List.replicate k.toNat ds).flatten.length = k.toNat * ds.length := by simp
      rw [hl, line_eq]
      have : k.toNat * ds.length ≤ 1000 * 1000 := Nat.mul_le_mul (by omega) h3
      omega
    · cases e
  · cases e
end Pu
end

section
set_option maxHeartbeats 4000000
/-! tuple * 1; tuple[::-1] -/
namespace TupX
open PySem PySem.Spec PyProof.Rows L2 HT

theorem tuple_mul1 (l : Addr) (items : Array Value) (n : Nat) (dd : Option Addr) (sl : Array (Option Value)) (u : Tok) :
    Meets (Builtin.«tuple.__mul__» ⟨[.ref l, .int 1 u], []⟩) (fun _ R s => s.heap.get? l = some { cls := .type "tuple", dict := dd, data := .seq items n, slots := sl } ∧ R (.ok (.ret (Value.ref l))) s) :=
  .of_wp fun prog w A R s h => by
    obtain ⟨hp, g, d, tk, os⟩ := s
    obtain ⟨hl, h⟩ := h
    have f1 := AutoSeq1.idx_int
    wp_walk using wpAny_loadPart' hl
    repeat (first
      | (refine wpAny_ite_true (decide_eq_true (by simp)) ?_; wp_walk using wpAny_loadPart' hl)
      | (refine wpAny_ite_false (decide_eq_false (by simp)) ?_; wp_walk using wpAny_loadPart' hl))
    exact ⟨_, rfl, h⟩
def rOnceT (K : PySem.W.Frag) : R2 := fun x y H Q => ∃ l xs, x = .ref l ∧ y = .int 1 ∧ SqT K H l xs ∧ Q (.ref l) H
section
variable {X : Cx}
theorem op_onceT : OpR X (binaryOp .Mult) (rOnceT X.K) := by
  intro pins s σ H x y v u Q I rx ry h
  obtain ⟨l, xs, rfl, rfl, hT, q⟩ := h
  cases rx
  obtain ⟨t, rfl⟩ := ry
  obtain ⟨its, r, ⟨⟨cls, dd, data, sl⟩, ho, hc, n, hd⟩, hs⟩ := I.tuple hT
  simp only at hc hd
  subst hc hd
  refine wpAny_binaryOp_repeat_ref (T := "tuple") (U := "int") (by decide) ⟨_, ho, rfl⟩ (fun s' => typeIs_int s' 1 t) noFill_tuple_mul F.fills_int_mul F.slot_int_rmul repeat_tuple F.slot_int_index.lookup
    (call_meets F.slot_int_rmul (typeIs_int s 1 t) F.entry_int_rmul (F.args_int_rmul_2 _ _) (int_rmul_tuple 1 t l its.toArray n dd sl)
      ⟨ho, rfl, ⟨_, ho, rfl⟩, call_meets F.slot_tuple_mul ⟨_, ho, rfl⟩ F.entry_tuple_mul (F.args_tuple_mul_2 _ _) (tuple_mul1 l its.toArray n dd sl t) ⟨ho, ?_⟩⟩)
  exact ⟨.ref l, H, I, rfl, q⟩
end
section
variable {prog : Program} {w : World} {A : Around} {E : Value → Shared → Prop} {s : Shared}
theorem applied_rev {sl : Addr} {vs : Value} {n : Nat} {Q : Int × Int × Nat → Shared → Prop} (hs : s.heap.IsSliceOf sl .none .none vs) (ps : IsPart vs (some (-1)))
    (h : Q (((n : Int) - 1), -1, n) s) : wpAny (model prog w) A (Builtin.Slice.sliceApplied (.ref sl) (pure (n : Int))) Q E s := by
  obtain ⟨os, hos, hcs, hds⟩ := id hs
  unfold Builtin.Slice.sliceApplied Builtin.Slice.sliceFields
  refine wpAny_bind (wpAny_bind (wpAny_field hos hds (x := .none) rfl (wpAny_bind (wpAny_field hos hds (x := .none) rfl (wpAny_bind (wpAny_field hos hds (x := vs) rfl (wpAny_pure ?_)))))))
  refine wpAny_bind (slicePart_ ps ?_)
  show wpAny _ _ (if ((-1 : Int) == 0) = true then _ else _) _ _ s
  rw [if_neg (by decide)]
  refine wpAny_bind (slicePart_none (wpAny_bind (slicePart_none (wpAny_bind (wpAny_pure ?_)))))
  have ep : Builtin.Slice.slicePlaces ((n : Int) - 1) (-1) (-1) = n := by
    unfold Builtin.Slice.slicePlaces
    have h1 : ¬ ((-1 : Int) > 0) := by decide
    rw [if_neg h1]
    by_cases h : (n : Int) - 1 > -1
    · rw [if_pos h]
      have e : ((n : Int) - 1 - -1 - 1) / (- -1) + 1 = (n : Int) := by
        rw [show (- -1 : Int) = 1 by decide, Int.ediv_one]
        omega
      rw [e, Int.toNat_natCast]
    · rw [if_neg h]
      show 0 = n
      omega
  show wpAny _ _ (pure (((n : Int) - 1), (-1 : Int), Builtin.Slice.slicePlaces ((n : Int) - 1) (-1) (-1))) _ _ s
  rw [ep]
  exact wpAny_pure h
theorem fm_congr {β : Type} {f g : Nat → Option β} : ∀ {l : List Nat}, (∀ x ∈ l, f x = g x) → l.filterMap f = l.filterMap g
  | [], _ => rfl
  | a :: l, h => by
    rw [List.filterMap_cons, List.filterMap_cons, h a List.mem_cons_self, fm_congr fun x hx => h x (List.mem_cons_of_mem _ hx)]
theorem pick_rev (xs : Array Value) : ((List.range xs.size).filterMap fun (m : Nat) => xs[(((xs.size : Int) - 1) + (m : Int) * -1).toNat]?).toArray = xs.toList.reverse.toArray := by
  have e : ((List.range xs.size).filterMap fun (m : Nat) => xs[(((xs.size : Int) - 1) + (m : Int) * -1).toNat]?) = ((List.range xs.size).map fun k => xs.size - 1 - k).filterMap (xs[·]?) := by
    rw [List.filterMap_map]
    refine fm_congr fun m hm => ?_
    have := List.mem_range.mp hm
    show xs[_]? = xs[xs.size - 1 - m]?
    rw [show (((xs.size : Int) - 1) + (m : Int) * -1).toNat = xs.size - 1 - m by omega]
  rw [e, PySem.W.krv_range, List.filterMap_reverse, PySem.W.krv_all]
theorem getItem_tuple_rev {t sl : Addr} {items : Array Value} {vs : Value} {Q : Value → Shared → Prop} (ht : IsTup s.heap t items) (hs : s.heap.IsSliceOf sl .none .none vs) (ps : IsPart vs (some (-1)))
    (h : Q (.ref s.heap.objs.size) { s with heap := s.heap.push { cls := .type "tuple", data := .seq items.toList.reverse.toArray } })
    (hsz : items.size ≤ sizeLine) : wpAny (model prog w) A (getItem (.ref t) (.ref sl)) Q E s := by
  have htake : sizeOk (.seq items.toList.reverse.toArray) := by
    show items.toList.reverse.toArray.size ≤ sizeLine
    rw [List.size_toArray, List.length_reverse, Array.length_toList]
    omega
  obtain ⟨os, hos, hcs, hds⟩ := id hs
  have hTs : s.TypeIs (.ref sl) "slice" := ⟨os, hos, hcs⟩
  unfold getItem
  try with_reducible refine wpAny_holding ?_
  first | refine wpAny_bind (wpAny_pure ?_) | skip
  refine wpAny_bind (wpAny_sequenceKey ht.typeIs (by decide) ?_)
  refine wpAny_bind (wpAny_callSpecial?_slot (name := Str.ofString "__getitem__") ht.typeIs PyProof.Rows.slot_tuple_getitem
    (wpAny_call_entry PyProof.Rows.slot_tuple_getitem ht.typeIs entry_tuple_getitem ?_ (args_tuple_getitem _ _)))
  show wpAny _ _ (Builtin.Tuple.tupleItemsOf (.ref t) >>= _) _ _ s
  refine wpAny_bind (tupleItemsOf_ ht ?_)
  refine wpAny_bind (wpAny_typeOf hTs ?_)
  rw [if_pos (by decide)]
  refine wpAny_bind (applied_rev hs ps ?_)
  have hno : ¬ ((((items.size : Int) - 1) == 0 && (-1 : Int) == 1 && items.size == items.size) = true) := by
    intro q
    rw [Bool.and_eq_true, Bool.and_eq_true] at q
    exact absurd q.1.2 (by decide)
  show wpAny _ _ (if (((items.size : Int) - 1) == 0 && (-1 : Int) == 1 && items.size == items.size) = true then _ else _) _ _ s
  rw [if_neg hno, pick_rev]
  first
    | exact wpAny_bind (m := Builtin.Tuple.tupleExact _) (wpAny_newObj_type (wpAny_pure ⟨_, rfl, wpAny_pure h⟩) htake)
    | exact wpAny_bind (m := Builtin.Tuple.tupleExact _) (wpAny_newObj_type (wpAny_bind (wpAny_pure (wpAny_pure ⟨_, rfl, wpAny_pure h⟩))) htake)
    | exact wpAny_bind (wpAny_bind (m := Builtin.Tuple.tupleExact _) (wpAny_newObj_type (wpAny_pure (wpAny_pure ⟨_, rfl, wpAny_pure h⟩)) htake))
    | exact wpAny_bind (wpAny_bind (m := Builtin.Tuple.tupleExact _) (wpAny_newObj_type (wpAny_pure ⟨_, rfl, wpAny_pure h⟩) htake))
end
/-! t[::-1] -/
def tRevT (K : PySem.W.Frag) (te : TE) : TE := fun σ H Q => te σ H fun x H1 => ∃ a xs, x = .ref a ∧ SqT K H1 a xs ∧ ∀ p, H1 p = none → Q (.ref p) (upd H1 p (.tup xs.reverse))
section
variable {X : Cx}
theorem pe_revT {e : Expr} {te : TE} {k : Nat} {p1 p2 p3 pos : Pos} (he : PE X e te) : PE X (.Subscript e (.Slice none none (some (.UnaryOp .USub (.Constant (.int 1) k p1) p2)) p3) pos) (tRevT X.K te) := by
  refine ⟨fun pins s σ H Q I h => ?_⟩
  refine Subscript_ (thn (he.run pins s σ H _ I h) fun v s1 ⟨x, H1, I1, r1, q1⟩ => ?_)
  obtain ⟨a, xs, ex, hx, q⟩ := q1
  subst ex
  cases r1
  have hst : PO X (some (.UnaryOp .USub (.Constant (.int 1) k p1) p2)) (tPart (tUn (rU fun i => .int (-i)) (tC (.int 1)))) := po_some (pe_un un_neg pe_int)
  refine wpAny_Slice ?_
  rw [evalPart_none]
  refine wpAny_pure ?_
  refine wpAny_pure ?_
  refine thn (hst.run pins s1 σ H1 (fun o H4 => o = some (-1) ∧ H4 = H1) I1 ⟨1, rfl, -1, rfl, rfl, rfl⟩) fun vs s4 ⟨o, H4, I4, ps, eo, e4⟩ => ?_
  subst eo e4
  have I5 : Inv X pins σ H4 { s4 with heap := s4.heap.push { cls := .type "slice", data := .fields #[.none, .none, vs] } } := I4.kept (t' := s4.toks) fun b ob q => Heap.get?_push_of_some _ q
  obtain ⟨its, r, ht, hz⟩ := I5.tuple hx
  have hlen := r.length
  show wpAny (model X.prog X.w) X.A (subscriptTail e (.Slice none none (some (.UnaryOp .USub (.Constant (.int 1) k p1) p2)) p3) (.ref a) (.ref s4.heap.objs.size)) (EP X pins σ Q) X.xe { s4 with heap := s4.heap.push { cls := .type "slice", data := .fields #[.none, .none, vs] } }
  refine tail_any (ops := [.ref a, .ref s4.heap.objs.size]) ht.typeIs (PyProof.Rows.slot_tuple_getitem.lookup) ?_ (by with_unfolding_all rfl)
  refine getItem_tuple_rev ht (Heap.IsSliceOf.new _ .none .none vs) ps ?_ (by rw [List.size_toArray]; omega)
  refine ⟨.ref _, _, I5.laid (t' := s4.toks) (o := .tup xs.reverse) (fun b ob q => Heap.get?_push_of_some _ q) (Nat.le_refl _) ?_, rfl, q _ (I5.hok.fresh (Nat.le_refl _))⟩
  exact ⟨by rw [List.length_reverse]; exact hz, _, r.reverse, IsTup.new _ _⟩
end
end TupX
end

section
namespace Pu
open PySem PySem.Spec PyProof.Rows L2

/-! ### a * b: a tuple times an int from 1 on, a list times an int, ints -/
def rMulA (K : PySem.W.Frag) : R2 := fun x y H Q => ((rRepT K x y H Q ∨ TupX.rOnceT K x y H Q) ∨ rRep x y H Q) ∨ rI CMul (fun i j => .int (i * j)) x y H Q
theorem op_mulA {X : Cx} : OpR X (binaryOp .Mult) (rMulA X.K) := ((op_repT.or TupX.op_onceT).or op_rep).or op_mul
def dMulA : Da → Da → Option Da
  | .tup ds, .int k => if 0 < ds.length ∧ 1 ≤ k ∧ k ≤ 1000 ∧ ds.length ≤ 1000 then some (.tup (List.replicate k.toNat ds).flatten) else none
  | .lst ds, .int k => if 1 ≤ k ∧ k ≤ 1000 ∧ ds.length ≤ 1000 then some (.lst (List.replicate k.toNat ds).flatten) else none
  | .int i, .int j => if CMul i j then some (.int (i * j)) else none
  | _, _ => none
theorem f_mulA {K : PySem.W.Frag} : Op2 K (rMulA K) dMulA := by
  intro L H dx dy d a b Q ra rb e q
  unfold dMulA at e
  split at e
  · rename_i ds k
    split at e
    · rename_i h
      obtain ⟨h0, h1, h2, h3⟩ := h
      by_cases hk : k = 1
      · subst hk
        have e' : d = .tup ds := by
          cases e
          simp
        subst e'
        obtain ⟨p, us, e1, hs, z, r⟩ := rep_tup.mp ra
        exact .inl (.inl (.inr ⟨p, us, e1, rep_int.mp rb, hs, by rw [← e1]; exact q _ H same_ok ra.or⟩))
      · refine .inl (.inl (.inl (f_repT L H (.tup ds) (.int k) d a b Q ra rb ?_ q)))
        show (if _ then _ else _) = _
        rw [if_pos ⟨h0, by omega, h2, h3⟩]
        exact e
    · cases e
  · rename_i ds k
    split at e
    · rename_i h
      cases e
      obtain ⟨h1, h2, h3⟩ := h
      obtain ⟨p, us, e1, hs, z, r⟩ := rep_lst.mp ra
      have l := r.length
      have hm : k.toNat * ds.length ≤ 1000 * 1000 := Nat.mul_le_mul (by omega) h3
      refine .inl (.inr ⟨p, k, us, e1, rep_int.mp rb, hs.1, by omega, by omega, ?_, fun t nt => q _ _ (keep_upd nt) (rep_newL nt ?_ (reps_rep r _))⟩)
      · rw [line_eq, l, Nat.mul_comm]
        omega
      · have hl : (List.replicate k.toNat ds).flatten.length = k.toNat * ds.length := by simp
        rw [hl, line_eq]
        omega
    · cases e
  · split at e
    · cases e
      exact .inr ⟨_, _, rep_int.mp ra, rep_int.mp rb, by assumption, q _ H same_ok (rep_int.mpr rfl)⟩
    · cases e
  · cases e

/-! ### t[::-1], t a tuple -/
theorem reps_rev {K : PySem.W.Frag} {L : Addr → Prop} {H : Hp} : ∀ {ds : List Da} {vs : List V}, Reps K L H ds vs → Reps K L H ds.reverse vs.reverse
  | [], vs, r => by simp only [Reps] at r; subst r; simp [Reps]
  | d :: ds, vs, r => by
    simp only [Reps] at r
    obtain ⟨x, ys, e, r1, r2⟩ := r
    subst e
    rw [List.reverse_cons, List.reverse_cons]
    exact (reps_rev r2).snoc r1
def eRevT (m : W Da) : W Da := m.bind fun d => (W.opt (asT d)).bind fun ds => W.ret (.tup ds.reverse)
section
variable {X : Cx} {G : Gc} {x : Ex → En → Prop}
theorem p_revT {e : Expr} {k : Nat} {p1 p2 p3 pos : Pos} {m : W Da} (he : PE X e (tp X.K G x m)) : PE X (.Subscript e (.Slice none none (some (.UnaryOp .USub (.Constant (.int 1) k p1) p2)) p3) pos) (tp X.K G x (eRevT m)) :=
  (TupX.pe_revT he).of fun σ H Q ⟨ρ, pe, S, q⟩ => ⟨ρ, pe, S, m.mono (fun d ρ1 q v H1 ⟨O, S1⟩ => by
    obtain ⟨ds, e1, q⟩ := W.opt_wp q
    have ed := of_asT e1
    obtain ⟨a, us, ev, hs, z, r⟩ := rep_tup.mp (ed ▸ S1.top)
    refine ⟨a, us, ev, hs, fun p np => q _ _ ⟨O, S1.pop.result (keep_upd np) (rep_newT np (by rw [List.length_reverse]; exact z) (reps_rev r))⟩⟩) (fun _ _ z => z) q⟩

/-! ### a == b of two objects, as a condition -/
theorem tpObj {k : Nat} {f C : Addr} {fd : FuncData} {ps : List Str} {F : Fn} {ma mb : W Da} {σ : L2.St} {H : Hp} {Q : VK} (q : tp X.K G x (eObjEq C F ma mb) σ H Q) :
    tOp (rObjEq C (spD X.K X.mg 2 F)) (tp X.K G x ma) (tp X.K G x mb) σ H Q := by
  obtain ⟨ρ, pe, S, q⟩ := q
  refine ⟨ρ, pe, S, ma.mono (fun d ρ1 q v H1 S1 => ⟨ρ1, _, S1, mb.mono (fun e ρ2 q w H2 ⟨O, S2⟩ => ?_) (fun _ _ z => z) q⟩) (fun _ _ z => z) q⟩
  obtain ⟨⟨h1, h2⟩, q⟩ := q
  obtain ⟨ns, xs, rfl⟩ := of_isObj h1
  obtain ⟨ms, ys, rfl⟩ := of_isObj h2
  obtain ⟨a', dx, fs, rfl, ⟨ha, _⟩, _⟩ := rep_obj.mp S2.pop.top
  obtain ⟨b', dy, gs, rfl, ⟨hb', _⟩, _⟩ := rep_obj.mp S2.top
  refine ⟨a', b', dx, dy, fs, gs, rfl, rfl, ha, hb', Lof G O, [.obj C ns xs, .obj C ms ys], rfl, ?_, F.mono (fun r q v H' kk rr => ?_) (fun _ z => z.elim) q⟩
  · simp only [Reps]
    exact ⟨_, _, rfl, S2.pop.top, _, _, rfl, S2.top, rfl⟩
  · obtain ⟨⟨t, rfl⟩, q⟩ := q
    have := rep_bl'.mp rr
    exact ⟨t, this, q v H' ⟨O, S2.pop.pop.result kk rr⟩⟩
theorem t_objEq {k : Nat} {f C : Addr} {fd : FuncData} {ps : List Str} {F : Fn} {a b : Expr} {pos : Pos} {ma mb : W Da} (fo : FnOk X.prog X.w X.K X.mg X.base (L2.CX X.prog X.w) k f fd ps (spD X.K X.mg 2 F)) (hr : Room k X.A) (hs : PySem.W.findIn X.K (.ref C) "__eq__" = some (some (.ref f))) (hf : PySem.W.isFn X.K (.ref f) = true) (hb : Binds X.K fd ps [])
    (pa : PE X a (tp X.K G x ma)) (pb : PE X b (tp X.K G x mb)) (hm : behindInMarks .Eq b = false) : PT X (.Compare a [.Eq] [b] pos) (ttt X.K G x (bV (eObjEq C F ma mb))) :=
  (pt_cmpR (op_objEq (C := C) fo hr hs hf hb) pa pb hm).of fun _ _ _ q => tpObj (k := k) (f := f) (fd := fd) (ps := ps) (ttt_tB q)

/-! ### len(x), x a list of our own in slot i -/
theorem p_lenOwn {i : Nat} {a : Expr} {p pos : Pos} (hg : Gl X "len") (hm : X.mg "len" = none) (ha : PE X a (tVar i)) (hs : starEach [a] X.env = (false, eval a X.env) :: starEach [] X.env := by rfl) (hpl : (backTo pos (starEach [] X.env)).any (·.1) = false := by rfl) :
    PE X (.Call (.Name "len" p) [a] [] pos) (tp X.K G x (eLenO i)) :=
  (pe_callB (c_len (X := X)) hg hm rfl (pa_cons ha pa_nil hs) (by decide) (by decide) hs hpl).of fun σ H Q ⟨ρ, pe, ⟨O, S⟩, q⟩ => by
    obtain ⟨ds, e, q⟩ := W.opt_wp q
    obtain ⟨q', hp⟩ := own_slot S (by rw [e]; rfl)
    obtain ⟨xs, op, h, z, rs, np⟩ := own_at S hp e
    exact ⟨.ref q', hp, .inl ⟨q', xs, rfl, .inl (.inl (.inl h)), q _ _ ⟨O, S.pushD (rep_int.mpr (by rw [rs.length]))⟩⟩⟩

/-! ### a, b = x, y with two plain names -/
def sPar (i j : Nat) (m : W (List Da)) : Sx := ⟨fun ρ E => m.wp ρ (fun ds ρ1 => ∃ d e, ds = [d, e] ∧ E.nx ((ρ1.set i (some (.dat d))).set j (some (.dat e)))) E.ex, fun l h => m.mono (fun ds ρ1 ⟨d, e, h1, q⟩ => ⟨d, e, h1, l.nx _ q⟩) l.ex h⟩
theorem s_par {i j : Nat} {n n' : Str} {a b : Expr} {px py pt pos : Pos} {kt k2 pt2} {m : W (List Da)} (hc : X.calm = true) (hN : X.N.Nodup) (hi : X.N[i]? = some n) (hj : X.N[j]? = some n') (hij : i ≠ j)
    (hx : X.env.scope.names.lookup n = some .local) (hy : X.env.scope.names.lookup n' = some .local) (ha : PA X [a, b] (tar X.K G x m))
    (hw : swappedStores [.Tuple [.Name n px, .Name n' py] kt pt] (.Tuple [a, b] k2 pt2) X.env = pure (some [n, n']))
    (hs : swapsWithSole [.Tuple [.Name n px, .Name n' py] kt pt] (.Tuple [a, b] k2 pt2) pos.line X.env = pure false := by rfl) :
    PS X (.Assign [.Tuple [.Name n px, .Name n' py] kt pt] (.Tuple [a, b] k2 pt2) pos) (ts X.K G x (sPar i j m)) :=
  (ps_par hc hN hi hj hij hx hy ha hw hs).of fun D σ H ⟨ρ, pe, S, q⟩ => ⟨ρ, pe, S, m.mono (fun ds ρ1 ⟨d, e, ed, q⟩ vs H1 l ⟨O, S1⟩ => by
    subst ed
    obtain ⟨v, w, rfl⟩ : ∃ v w, vs = [v, w] := by
      match vs, l with
      | [v, w], _ => exact ⟨v, w, rfl⟩
    refine ⟨v, w, rfl, ?_⟩
    have S2 : StO X.K G O σ ρ1 ((w, .dat e) :: (v, .dat d) :: pe) H1 := S1
    have S3 := S2.store j
    have S4 := S3.store i
    rw [List.set_comm _ _ (Ne.symm hij), List.set_comm _ _ (Ne.symm hij)] at S4
    exact q _ _ ⟨_, S4⟩) (fun _ _ z => z) q⟩
end
end Pu
end

section
namespace Pu
open PySem PySem.Spec PyProof.Rows L2

/-! ### what is wanted of a piece of code, step by step -/
section
variable {ρ : En} {x : Ex → En → Prop} {k : Da → En → Prop} {kl : List Da → En → Prop} {kb : Bool → En → Prop} {ko : Option Int → En → Prop} {E : Fl}
theorem w_opt {α : Type} {o : Option α} {ka : α → En → Prop} (h : ∃ a, o = some a ∧ ka a ρ) : (W.opt o).wp ρ ka x := by
  obtain ⟨a, e, h⟩ := h
  rw [e]
  exact h
theorem w_c {d : Da} (h : k d ρ) : (eC d).wp ρ k x := h
theorem w_var {i : Nat} {d : Da} (e : look ρ i = some d) (h : k d ρ) : (eVar i).wp ρ k x := w_opt ⟨d, e, h⟩
theorem w_op2 {f : Da → Da → Option Da} {a b : W Da} (h : a.wp ρ (fun d ρ1 => b.wp ρ1 (fun e ρ2 => ∃ r, f d e = some r ∧ k r ρ2) x) x) : (eOp2 f a b).wp ρ k x :=
  a.mono (fun d ρ1 q => b.mono (fun e ρ2 q => w_opt q) (fun _ _ z => z) q) (fun _ _ z => z) h
theorem w_op1 {f : Da → Option Da} {a : W Da} (h : a.wp ρ (fun d ρ1 => ∃ r, f d = some r ∧ k r ρ1) x) : (eOp1 f a).wp ρ k x := a.mono (fun d ρ1 q => w_opt q) (fun _ _ z => z) h
theorem w_opN {f : List Da → Option Da} {a : W (List Da)} (h : a.wp ρ (fun d ρ1 => ∃ r, f d = some r ∧ k r ρ1) x) : (eOpN f a).wp ρ k x := a.mono (fun d ρ1 q => w_opt q) (fun _ _ z => z) h
theorem w_idx {a b : W Da} (h : (eOp2 dIdx a b).wp ρ k x) : (eIdx a b).wp ρ k x := h
theorem w_nil (h : kl [] ρ) : eNil.wp ρ kl x := h
theorem w_cons {a : W Da} {r : W (List Da)} (h : a.wp ρ (fun d ρ1 => r.wp ρ1 (fun ds ρ2 => kl (d :: ds) ρ2) x) x) : (eCons a r).wp ρ kl x := h
theorem w_tup {a : W (List Da)} (h : a.wp ρ (fun ds ρ1 => ds.length ≤ 1000 ∧ k (.tup ds) ρ1) x) : (eTup a).wp ρ k x := h
theorem w_disp {a : W (List Da)} (h : a.wp ρ (fun ds ρ1 => ds.length ≤ 1000 ∧ kl ds ρ1) x) : (eDisp a).wp ρ kl x := h
theorem w_frz {a : W (List Da)} (h : a.wp ρ (fun ds ρ1 => k (.lst ds) ρ1) x) : (eFrz a).wp ρ k x := h
theorem w_list {a : W Da} (h : a.wp ρ (fun d ρ1 => ∃ ds, asSeq d = some ds ∧ kl ds ρ1) x) : (eList a).wp ρ kl x := a.mono (fun d ρ1 q => w_opt q) (fun _ _ z => z) h
theorem w_bV {m : W Da} (h : m.wp ρ (fun d ρ1 => ∃ b, asB d = some b ∧ kb b ρ1) x) : (bV m).wp ρ kb x := m.mono (fun d ρ1 q => w_opt q) (fun _ _ z => z) h
theorem w_bT {m : W Da} (h : m.wp ρ (fun d ρ1 => ∃ b, truth d = some b ∧ kb b ρ1) x) : (bT m).wp ρ kb x := m.mono (fun d ρ1 q => w_opt q) (fun _ _ z => z) h
theorem w_bNot {a : W Bool} (h : a.wp ρ (fun c ρ1 => kb (!c) ρ1) x) : (bNot a).wp ρ kb x := h
theorem w_bAnd {a b : W Bool} (h : a.wp ρ (fun c ρ1 => (c = true → b.wp ρ1 kb x) ∧ (c = false → kb false ρ1)) x) : (bAnd a b).wp ρ kb x :=
  a.mono (fun c ρ1 ⟨h1, h2⟩ => by
    cases c with
    | true => exact h1 rfl
    | false => exact h2 rfl) (fun _ _ z => z) h
theorem w_bOr {a b : W Bool} (h : a.wp ρ (fun c ρ1 => (c = true → kb true ρ1) ∧ (c = false → b.wp ρ1 kb x)) x) : (bOr a b).wp ρ kb x :=
  a.mono (fun c ρ1 ⟨h1, h2⟩ => by
    cases c with
    | true => exact h1 rfl
    | false => exact h2 rfl) (fun _ _ z => z) h
theorem w_and {a b : W Da} (h : a.wp ρ (fun d ρ1 => ∃ c, asB d = some c ∧ (c = true → b.wp ρ1 k x) ∧ (c = false → k (.bl false) ρ1)) x) : (eAnd a b).wp ρ k x :=
  a.mono (fun d ρ1 ⟨c, e, h1, h2⟩ => w_opt ⟨c, e, by
    cases c with
    | true => exact h1 rfl
    | false => exact h2 rfl⟩) (fun _ _ z => z) h
theorem w_or {a b : W Da} (h : a.wp ρ (fun d ρ1 => ∃ c, asB d = some c ∧ (c = true → k (.bl true) ρ1) ∧ (c = false → b.wp ρ1 k x)) x) : (eOr a b).wp ρ k x :=
  a.mono (fun d ρ1 ⟨c, e, h1, h2⟩ => w_opt ⟨c, e, by
    cases c with
    | true => exact h1 rfl
    | false => exact h2 rfl⟩) (fun _ _ z => z) h
theorem w_not {a : W Da} (h : a.wp ρ (fun d ρ1 => ∃ c, asB d = some c ∧ k (.bl !c) ρ1) x) : (eNot a).wp ρ k x :=
  a.mono (fun d ρ1 ⟨c, e, h1⟩ => w_opt ⟨c, e, h1⟩) (fun _ _ z => z) h
theorem w_ife {c : W Bool} {a b : W Da} (h : c.wp ρ (fun q ρ1 => (q = true → a.wp ρ1 k x) ∧ (q = false → b.wp ρ1 k x)) x) : (eIf c a b).wp ρ k x :=
  c.mono (fun q ρ1 ⟨h1, h2⟩ => by
    cases q with
    | true => exact h1 rfl
    | false => exact h2 rfl) (fun _ _ z => z) h
theorem w_chain {f f' : Da → Da → Option Da} {a b c : W Da} (h : a.wp ρ (fun d ρ1 => b.wp ρ1 (fun e ρ2 => ∃ r, f d e = some r ∧ ∃ q, asB r = some q ∧ (q = true → c.wp ρ2 (fun g ρ3 => ∃ r', f' e g = some r' ∧ k r' ρ3) x) ∧ (q = false → k (.bl false) ρ2)) x) x) : (eChain f f' a b c).wp ρ k x :=
  a.mono (fun d ρ1 h => b.mono (fun e ρ2 ⟨r, e1, q, e2, h1, h2⟩ => w_opt ⟨r, e1, w_opt ⟨q, e2, by
    cases q with
    | true => exact c.mono (fun g ρ3 q => w_opt q) (fun _ _ z => z) (h1 rfl)
    | false => exact h2 rfl⟩⟩) (fun _ _ z => z) h) (fun _ _ z => z) h
theorem w_fld {C : Addr} {f : Str} {m : W Da} (h : m.wp ρ (fun d ρ1 => ∃ r, d.fld C f = some r ∧ k r ρ1) x) : (eFld C f m).wp ρ k x := m.mono (fun d ρ1 q => w_opt q) (fun _ _ z => z) h
theorem w_me {C : Addr} {f : Str} {i : Nat} (h : ∃ z, lookMe ρ i = some z ∧ z.1 = C ∧ ∃ d, z.2.lookup f = some d ∧ k d ρ) : (eMe C f i).wp ρ k x := by
  obtain ⟨z, e1, e2, d, e3, h⟩ := h
  exact w_opt ⟨z, e1, e2, w_opt ⟨d, e3, h⟩⟩
theorem w_isC {C : Addr} {m : W Da} (h : m.wp ρ (fun d ρ1 => d.isObj C = true ∧ k (.bl true) ρ1) x) : (eIsC C m).wp ρ k x := h
theorem w_isi {c : String} {m : W Da} (h : m.wp ρ (fun d ρ1 => ∃ t, tyD d = some t ∧ k (.bl (isiS t c)) ρ1) x) : (eIsi c m).wp ρ k x := m.mono (fun d ρ1 q => w_opt q) (fun _ _ z => z) h
theorem w_onone (h : ko none ρ) : oNone.wp ρ ko x := h
theorem w_osome {m : W Da} (h : m.wp ρ (fun d ρ1 => ∃ i, asI d = some i ∧ ko (some i) ρ1) x) : (oSome m).wp ρ ko x := m.mono (fun d ρ1 q => w_opt q) (fun _ _ z => z) h
theorem w_sl {a : W Da} {l u : W (Option Int)} (h : a.wp ρ (fun d ρ1 => l.wp ρ1 (fun i ρ2 => u.wp ρ2 (fun j ρ3 => ∃ r, dSl d i j = some r ∧ k r ρ3) x) x) x) : (eSl a l u).wp ρ k x :=
  a.mono (fun d ρ1 q => l.mono (fun i ρ2 q => u.mono (fun j ρ3 q => w_opt q) (fun _ _ z => z) q) (fun _ _ z => z) q) (fun _ _ z => z) h
theorem w_revT {m : W Da} (h : m.wp ρ (fun d ρ1 => ∃ ds, asT d = some ds ∧ k (.tup ds.reverse) ρ1) x) : (eRevT m).wp ρ k x := m.mono (fun d ρ1 q => w_opt q) (fun _ _ z => z) h
theorem w_call {F : Fn} {n : Nat} {a : W (List Da)} (h : a.wp ρ (fun ds ρ1 => ds.length = n ∧ F.wp ds (fun d => k d ρ1) (fun e => x e ρ1)) x) : (eCall F n a).wp ρ k x := h
theorem w_callP {i : Nat} {F : Fn} {n : Nat} {a : W (List Da)} (h0 : ρ[i]? = some (some .pool)) (h : a.wp ρ (fun ds ρ1 => (ds.length = n ∧ ρ1[i]? = some (some .pool)) ∧ F.wp ds (fun d => k d ρ1) (fun _ => False)) x) : (eCallP i F n a).wp ρ k x := ⟨h0, h⟩
theorem w_meth {C : Addr} {m : Str} {F : Fn} {n : Nat} {o : W Da} {a : W (List Da)} (h : o.wp ρ (fun d ρ1 => d.noFld C m = true ∧ a.wp ρ1 (fun ds ρ2 => ds.length = n ∧ F.wp (d :: ds) (fun d => k d ρ2) (fun _ => False)) x) x) : (eMeth C m F n o a).wp ρ k x := h
theorem w_objEq {C : Addr} {F : Fn} {a b : W Da} (h : a.wp ρ (fun d ρ1 => b.wp ρ1 (fun e ρ2 => (d.isObj C = true ∧ e.isObj C = true) ∧ F.wp [d, e] (fun r => (∃ t, r = .bl t) ∧ k r ρ2) (fun _ => False)) x) x) : (eObjEq C F a b).wp ρ k x := h
theorem w_seq {m : W Da} (h : m.wp ρ (fun d ρ1 => ∃ ds, itemsOf d = some ds ∧ kl ds ρ1) x) : (iSeq m).wp ρ kl x := m.mono (fun d ρ1 q => w_opt q) (fun _ _ z => z) h
theorem w_range1 {a : W Da} (h : a.wp ρ (fun d ρ1 => ∃ j, asI d = some j ∧ (j ≤ 1000000 ∧ -1000000 ≤ j) ∧ kl (rangeD 0 j.toNat) ρ1) x) : (iRange1 a).wp ρ kl x := a.mono (fun d ρ1 q => w_opt q) (fun _ _ z => z) h
theorem w_range2 {a b : W Da} (h : a.wp ρ (fun d ρ1 => ∃ i, asI d = some i ∧ b.wp ρ1 (fun e ρ2 => ∃ j, asI e = some j ∧ ((i ≤ 1000000 ∧ -1000000 ≤ i) ∧ j ≤ 1000000 ∧ -1000000 ≤ j) ∧ kl (rangeD i (j - i).toNat) ρ2) x) x) : (iRange2 a b).wp ρ kl x :=
  a.mono (fun d ρ1 ⟨i, e, q⟩ => w_opt ⟨i, e, b.mono (fun e ρ2 q => w_opt q) (fun _ _ z => z) q⟩) (fun _ _ z => z) h
theorem w_zip {a b : W Da} (h : a.wp ρ (fun d ρ1 => b.wp ρ1 (fun e ρ2 => ∃ ds, zip2 d e = some ds ∧ kl ds ρ2) x) x) : (iZip a b).wp ρ kl x :=
  a.mono (fun d ρ1 q => b.mono (fun e ρ2 q => w_opt q) (fun _ _ z => z) q) (fun _ _ z => z) h
theorem w_enumT {a : W Da} (h : a.wp ρ (fun d ρ1 => ∃ ds, asT d = some ds ∧ kl (enumF 0 ds) ρ1) x) : (iEnumT a).wp ρ kl x := a.mono (fun d ρ1 q => w_opt q) (fun _ _ z => z) h
theorem w_enumL {a : W Da} (h : a.wp ρ (fun d ρ1 => ∃ ds, asL d = some ds ∧ kl (enumF 0 ds) ρ1) x) : (iEnumL a).wp ρ kl x := a.mono (fun d ρ1 q => w_opt q) (fun _ _ z => z) h
theorem w_lc {vs : List Nat} {m : W (List Da)} {t : Tt} {c : W Bool} {e : W Da} (h : m.wp ρ (fun ds ρ1 => wipeE ρ1 vs = ρ1 ∧ lcW t c e ds [] ρ1 (fun acc => kl acc ρ1)) x) : (eLC vs m t c e).wp ρ kl x := h
theorem w_lenO {i : Nat} (h : ∃ ds, lookOwn ρ i = some ds ∧ k (.int ds.length) ρ) : (eLenO i).wp ρ k x := w_opt h
theorem w_callO {F : List Da → (List Da → Prop) → Prop} {hF : ∀ as k k', (∀ d, k d → k' d) → F as k → F as k'} {n : Nat} {a : W (List Da)} (h : a.wp ρ (fun ds ρ1 => ds.length = n ∧ F ds (fun es => kl es ρ1)) x) : (eCallO F hF n a).wp ρ kl x := h
theorem w_exn {i : Nat} {f : Str} (h : ∃ d, lookExn ρ i f = some d ∧ k d ρ) : (eExn i f).wp ρ k x := w_opt h
/-! statements -/
theorem v_seq {a b : Sx} (h : a.wp ρ { E with nx := fun ρ' => b.wp ρ' E }) : (sSeq a b).wp ρ E := h
theorem v_pass (h : E.nx ρ) : sPass.wp ρ E := h
theorem v_ret {m : W Da} (h : m.wp ρ E.rt E.ex) : (sRet m).wp ρ E := h
theorem v_if {c : W Bool} {a b : Sx} (h : c.wp ρ (fun q ρ' => (q = true → a.wp ρ' E) ∧ (q = false → b.wp ρ' E)) E.ex) : (sIf c a b).wp ρ E :=
  c.mono (fun q ρ' ⟨h1, h2⟩ => by
    cases q with
    | true => exact h1 rfl
    | false => exact h2 rfl) (fun _ _ z => z) h
theorem v_expr {m : W Da} (h : m.wp ρ (fun _ ρ' => E.nx ρ') E.ex) : (sExpr m).wp ρ E := h
theorem v_asg {m : W Da} {t : Tt} (h : m.wp ρ (fun d ρ' => ∃ ρ2, t.bind d ρ' = some ρ2 ∧ E.nx ρ2) E.ex) : (sAsg m t).wp ρ E := h
theorem v_set {i : Nat} {m : W Da} (h : m.wp ρ (fun d ρ' => E.nx (ρ'.set i (some (.dat d)))) E.ex) : (sSet i m).wp ρ E := h
theorem v_own {i : Nat} {m : W (List Da)} (h : m.wp ρ (fun ds ρ' => E.nx (ρ'.set i (some (.own ds)))) E.ex) : (sOwn i m).wp ρ E := h
theorem v_for {m : W (List Da)} {t : Tt} {b : Sx} (h : m.wp ρ (fun ds ρ' => forW t b ds ρ' E) E.ex) : (sFor m t b).wp ρ E := h
theorem v_append {i : Nat} {m : W Da} (h : ∃ ds0, lookOwn ρ i = some ds0 ∧ m.wp ρ (fun d ρ' => ∃ ds, lookOwn ρ' i = some ds ∧ ds.length < 16777216 ∧ E.nx (ρ'.set i (some (.own (ds ++ [d]))))) E.ex) : (sAppend i m).wp ρ E := h
theorem v_freeze {i : Nat} {s : Sx} (h : ∃ ds, lookOwn ρ i = some ds ∧ s.wp (ρ.set i (some (.dat (.lst ds)))) E) : (sFreeze i s).wp ρ E := h
theorem v_forget {i : Nat} {s : Sx} (h : s.wp (ρ.set i none) E) : (sForget i s).wp ρ E := h
theorem v_me {C : Addr} {f : Str} {i : Nat} {m : W Da} (h : m.wp ρ (fun d ρ1 => ∃ fs, lookMe ρ1 i = some (C, fs) ∧ fs.length < 1000 ∧ E.nx (ρ1.set i (some (.me C (putD f d fs))))) E.ex) : (sMe C f i m).wp ρ E := h
theorem v_raise {nm fld : Str} {m : W Da} (h : m.wp ρ (fun d ρ' => ArgD d ∧ E.ex ⟨nm, fld, d⟩ ρ') E.ex) : (sRaise nm fld m).wp ρ E := h
theorem v_par {i j : Nat} {m : W (List Da)} (h : m.wp ρ (fun ds ρ1 => ∃ d e, ds = [d, e] ∧ E.nx ((ρ1.set i (some (.dat d))).set j (some (.dat e)))) E.ex) : (sPar i j m).wp ρ E := h
theorem v_try2 {cat : Str → Option (Option Bool)} {i : Nat} {b s1 s2 : Sx} (h : b.wp ρ { E with ex := tryEx2 cat i s1 s2 E }) : (sTry2 cat i b s1 s2).wp ρ E := h
theorem v_try {cat : Str → Option Bool} {i : Nat} {b s : Sx} (h : b.wp ρ { E with ex := tryEx cat i s E }) : (sTry cat i b s).wp ρ E := h
end
end Pu
end
local macro_rules | `(tactic| walk_at "w1") => `(tactic| with_reducible refine Pu.v_try ?_)
local macro_rules | `(tactic| walk_at "w1") => `(tactic| with_reducible refine Pu.v_try2 ?_)
local macro_rules | `(tactic| walk_at "w1") => `(tactic| with_reducible refine Pu.v_par ?_)
local macro_rules | `(tactic| walk_at "w1") => `(tactic| with_reducible refine Pu.v_raise ?_)
local macro_rules | `(tactic| walk_at "w1") => `(tactic| with_reducible refine Pu.v_me ?_)
local macro_rules | `(tactic| walk_at "w1") => `(tactic| with_reducible refine Pu.v_forget ?_)
local macro_rules | `(tactic| walk_at "w1") => `(tactic| with_reducible refine Pu.v_freeze ?_)
local macro_rules | `(tactic| walk_at "w1") => `(tactic| with_reducible refine Pu.v_append ?_)
local macro_rules | `(tactic| walk_at "w1") => `(tactic| with_reducible refine Pu.v_for ?_)
local macro_rules | `(tactic| walk_at "w1") => `(tactic| with_reducible refine Pu.v_own ?_)
local macro_rules | `(tactic| walk_at "w1") => `(tactic| with_reducible refine Pu.v_asg ?_)
local macro_rules | `(tactic| walk_at "w1") => `(tactic| with_reducible refine Pu.v_expr ?_)
local macro_rules | `(tactic| walk_at "w1") => `(tactic| with_reducible refine Pu.w_exn ?_)
local macro_rules | `(tactic| walk_at "w1") => `(tactic| with_reducible refine Pu.w_callO ?_)
local macro_rules | `(tactic| walk_at "w1") => `(tactic| with_reducible refine Pu.w_lenO ?_)
local macro_rules | `(tactic| walk_at "w1") => `(tactic| with_reducible refine Pu.w_enumL ?_)
local macro_rules | `(tactic| walk_at "w1") => `(tactic| with_reducible refine Pu.w_enumT ?_)
local macro_rules | `(tactic| walk_at "w1") => `(tactic| with_reducible refine Pu.w_zip ?_)
local macro_rules | `(tactic| walk_at "w1") => `(tactic| with_reducible refine Pu.w_range2 ?_)
local macro_rules | `(tactic| walk_at "w1") => `(tactic| with_reducible refine Pu.w_range1 ?_)
local macro_rules | `(tactic| walk_at "w1") => `(tactic| with_reducible refine Pu.w_lc ?_)
local macro_rules | `(tactic| walk_at "w1") => `(tactic| with_reducible refine Pu.w_objEq ?_)
local macro_rules | `(tactic| walk_at "w1") => `(tactic| with_reducible refine Pu.w_meth ?_)
local macro_rules | `(tactic| walk_at "w1") => `(tactic| with_reducible refine Pu.w_callP (by with_unfolding_all rfl) ?_)
local macro_rules | `(tactic| walk_at "w1") => `(tactic| with_reducible refine Pu.w_revT ?_)
local macro_rules | `(tactic| walk_at "w1") => `(tactic| with_reducible refine Pu.w_sl ?_)
local macro_rules | `(tactic| walk_at "w1") => `(tactic| with_reducible refine Pu.w_osome ?_)
local macro_rules | `(tactic| walk_at "w1") => `(tactic| with_reducible refine Pu.w_onone ?_)
local macro_rules | `(tactic| walk_at "w1") => `(tactic| with_reducible refine Pu.w_isi ?_)
local macro_rules | `(tactic| walk_at "w1") => `(tactic| with_reducible refine Pu.w_isC ?_)
local macro_rules | `(tactic| walk_at "w1") => `(tactic| with_reducible refine Pu.w_me ?_)
local macro_rules | `(tactic| walk_at "w1") => `(tactic| with_reducible refine Pu.w_chain ?_)
local macro_rules | `(tactic| walk_at "w1") => `(tactic| with_reducible refine Pu.w_ife ?_)
local macro_rules | `(tactic| walk_at "w1") => `(tactic| with_reducible refine Pu.w_not ?_)
local macro_rules | `(tactic| walk_at "w1") => `(tactic| with_reducible refine Pu.w_or ?_)
local macro_rules | `(tactic| walk_at "w1") => `(tactic| with_reducible refine Pu.w_and ?_)
local macro_rules | `(tactic| walk_at "w1") => `(tactic| with_reducible refine Pu.w_bOr ?_)
local macro_rules | `(tactic| walk_at "w1") => `(tactic| with_reducible refine Pu.w_bAnd ?_)
local macro_rules | `(tactic| walk_at "w1") => `(tactic| with_reducible refine Pu.w_bNot ?_)
local macro_rules | `(tactic| walk_at "w1") => `(tactic| with_reducible refine Pu.w_bT ?_)
local macro_rules | `(tactic| walk_at "w1") => `(tactic| with_reducible refine Pu.w_bV ?_)
local macro_rules | `(tactic| walk_at "w1") => `(tactic| with_reducible refine Pu.w_list ?_)
local macro_rules | `(tactic| walk_at "w1") => `(tactic| with_reducible refine Pu.w_frz ?_)
local macro_rules | `(tactic| walk_at "w1") => `(tactic| with_reducible refine Pu.w_disp ?_)
local macro_rules | `(tactic| walk_at "w1") => `(tactic| with_reducible refine Pu.w_fld ?_)
local macro_rules | `(tactic| walk_at "w1") => `(tactic| with_reducible refine Pu.w_seq ?_)
local macro_rules | `(tactic| walk_at "w1") => `(tactic| with_reducible refine Pu.w_call ?_)
local macro_rules | `(tactic| walk_at "w1") => `(tactic| with_reducible refine Pu.w_tup ?_)
local macro_rules | `(tactic| walk_at "w1") => `(tactic| with_reducible refine Pu.w_op1 ?_)
local macro_rules | `(tactic| walk_at "w1") => `(tactic| with_reducible refine Pu.w_opN ?_)
local macro_rules | `(tactic| walk_at "w1") => `(tactic| with_reducible refine Pu.w_idx ?_)
local macro_rules | `(tactic| walk_at "w1") => `(tactic| with_reducible refine Pu.w_op2 ?_)
local macro_rules | `(tactic| walk_at "w1") => `(tactic| with_reducible refine Pu.v_set ?_)
local macro_rules | `(tactic| walk_at "w1") => `(tactic| with_reducible refine Pu.v_if ?_)
local macro_rules | `(tactic| walk_at "w1") => `(tactic| with_reducible refine Pu.v_ret ?_)
local macro_rules | `(tactic| walk_at "w1") => `(tactic| with_reducible refine Pu.v_pass ?_)
local macro_rules | `(tactic| walk_at "w1") => `(tactic| with_reducible refine Pu.v_seq ?_)
local macro_rules | `(tactic| walk_at "w1") => `(tactic| with_reducible refine Pu.w_nil ?_)
local macro_rules | `(tactic| walk_at "w1") => `(tactic| with_reducible refine Pu.w_cons ?_)
local macro_rules | `(tactic| walk_at "w1") => `(tactic| with_reducible refine Pu.w_c ?_)
local macro_rules | `(tactic| walk_at "w1") => `(tactic| with_reducible refine Pu.w_var (by with_unfolding_all rfl) ?_)
local macro_rules | `(tactic| walk_at "wg") => `(tactic| repeat (first | walk_at "w1" | dsimp only []))

section
set_option maxHeartbeats 1000000
/-! enumerate of a list from a start -/
namespace EnS
open PySem PySem.Spec PyProof.Rows L2
theorem enum_endC {prog : Program} {w : World} {A : Around} {E : Value → Shared → Prop} {s : Shared} {e it l : Addr} {i : Nat} {c : Int} {items : Array Value} {old : Value} {Q : Option Value → Shared → Prop} (hh : A.handled = none) (he : IsEnum s.heap e it c old)
    (hit : s.heap.IsListIter it l i) (hl : s.heap.IsList l items) (hx : items[i]? = none) (hQ : ∀ h', Heap.ExtBut it s.heap h' → Q none { s with heap := h' }) : wpAny (model prog w) A (pyNext (.ref e)) Q E s := by
  have hT : s.TypeIs (.ref e) "enumerate" := ⟨_, he, rfl⟩
  unfold pyNext
  refine wpAny_bind (wpAny_attempt (wpAny_callSpecial?_slot (name := Str.ofString "__next__") hT F.slot_enumerate_next
    (wpAny_call_entry F.slot_enumerate_next hT F.entry_enumerate_next ?_ (F.args_enumerate_next_1 _))))
  show wpAny _ _ (field (.ref e) 2 >>= _) _ _ _
  refine wpAny_bind (wpAny_field he rfl (x := .ref it) rfl ?_)
  refine wpAny_bind (wpAny_nextOf_list_end hh hit hl hx fun h' x he' hx' => ?_)
  obtain ⟨o, ho, hc⟩ := hx'
  refine wpAny_bind (wpAny_isInstance (T := "StopIteration") (b := true) ⟨o, ho, hc⟩ isSubtype_stop ?_)
  exact wpAny_pure (hQ _ he')
/-- the list at a, each item in a new pair, counted from k0 -/
def IteS (K : PySem.W.Frag) (k0 : Int) (a : Addr) : It :=
  ⟨fun i H => ∃ (xs : List V) (x : V), SqL K H a xs ∧ xs[i]? = some x, fun i H v H' => ∃ T x, v = .ref T ∧ H T = none ∧ H' = upd H T (.tup [.int (k0 + (i : Nat)), x]) ∧ ∀ xs, SqL K H a xs → xs[i]? = some x, fun i H => ∃ xs : List V, SqL K H a xs ∧ xs.length ≤ i⟩
theorem turn_enumS {P : Program} {w : World} {K : PySem.W.Frag} {elts : List Expr} {kk : Nat} {tpos : Pos} (k0 : Int) (a e it : Addr) :
    Turn P w K (.Tuple elts kk tpos) (IteS K k0 a) [e, it] e (fun i h => (∃ old, IsEnum h e it (k0 + ((i : Nat) : Int)) old) ∧ h.IsListIter it a i ∧ e ≠ it) where
  mem := by simp
  obj := fun i h st b hb => by
    obtain ⟨⟨old, he⟩, ⟨o, ho, hc, hd⟩, _⟩ := st
    have e' : b = e ∨ b = it := by simpa using hb
    rcases e' with z | z
    · rw [z]; exact ⟨_, he, fun v q => nomatch q⟩
    · rw [z]; exact ⟨o, ho, fun v q => by rw [hd] at q; cases q⟩
  keep := fun i h h' st k => let ⟨⟨old, he⟩, hi, hne⟩ := st; ⟨⟨old, k e (by simp) _ he⟩, hi.at fun o q => k it (by simp) o q, hne⟩
  item := by
    intro X hP hw hK hc i pins s σ H E I hf st hg
    subst hP hw hK
    obtain ⟨⟨old, he⟩, hit, hne⟩ := st
    obtain ⟨xs, x, hq, hx⟩ := hg
    obtain ⟨its, rv, p, hz⟩ := I.list hq
    have p : s.heap.IsList a its.toArray := p.isList
    obtain ⟨u, hu, ru⟩ := rv.get hx
    have hel : e < s.heap.objs.size := Heap.lt_size he
    have hil : it < s.heap.objs.size := by obtain ⟨_, q, _⟩ := hit; exact Heap.lt_size q
    have nai : a ≠ it := fun q => by
      subst q
      obtain ⟨o, h1, h2, _⟩ := hit
      obtain ⟨o', h3, h4, _⟩ := p
      rw [h1] at h3
      cases h3
      rw [h2] at h4
      simp at h4
    have nae : e ≠ a := fun q => by
      subst q
      obtain ⟨o', h3, h4, _⟩ := p
      have he' := he
      unfold IsEnum at he'
      rw [he'] at h3
      cases h3
      simp at h4
    refine wpAny_pyNext_enum_itemC (fp := [it, a]) (n := its.toArray.size) (Draws.list (prog := X.prog) (w := X.w) (A := X.A.in1) (show X.A.in1.handled = none from I.ok.hd hc) it a nai its.toArray) he ⟨hit, p⟩ (i := i) (by simpa using (List.getElem?_eq_some_iff.mp hu).1) hne (by simp [hne, nae]) fun x' h' tk hP ho st' hT hsz hk => ?_
    have ex : x' = u := by
      have hP' : its.toArray[i]? = some x' := hP
      have hu' : its.toArray[i]? = some u := by simpa using hu
      rw [hu'] at hP'
      exact (Option.some.inj hP').symm
    subst ex
    have hit' := st'.1
    refine ⟨_, rfl, wpAny_letOwnedTupleGo_enum (s := { s with heap := h', toks := tk + 1 }) ho fun h'' he' sb => ?_⟩
    have hT2 : h''.get? s.heap.objs.size = some { cls := .type "tuple", data := .seq #[.int (k0 + (i : Nat)) tk, x'] } := (sb.2 _ (Nat.ne_of_gt hel)).trans hT
    have new : ObjOk X.prog X.w (upd H s.heap.objs.size (.tup [.int (k0 + (i : Nat)), x])) h'' s.heap.objs.size (.tup [.int (k0 + (i : Nat)), x]) :=
      ⟨by show 2 ≤ sizeLine; decide, [.int (k0 + (i : Nat)) tk, x'], .cons ⟨_, rfl⟩ (.cons ru .nil), ⟨_, hT2, rfl, _, rfl⟩⟩
    have I1 : Inv X pins σ (upd H s.heap.objs.size (.tup [.int (k0 + (i : Nat)), x])) { s with heap := h'', toks := tk + 1 } :=
      I.turnedNew (ch := [e, it]) (fun b ob hb q => (sb.2 b (fun z => hb (by simp [z]))).trans (hk b ob (fun z => hb (by simp [z])) (fun z => hb (by simp [z])) q)) hf (Nat.le_refl _) new
    refine ⟨.ref s.heap.objs.size, _, I1, rfl, ⟨_, x, rfl, I.hok.fresh (Nat.le_refl _), rfl, fun ys hy => by rw [I.list_inj hy hq]; exact hx⟩, ⟨⟨x', ?_⟩, hit'.at fun o q => (sb.2 it (Ne.symm hne)).trans q, hne⟩, fun b hb => ?_⟩
    · have e1 : k0 + ((i + 1 : Nat) : Int) = k0 + (i : Int) + 1 := by omega
      rw [e1]; exact he'
    · have hb' : b < s.heap.objs.size := by
        have e' : b = e ∨ b = it := by simpa using hb
        rcases e' with z | z
        · rw [z]; exact hel
        · rw [z]; exact hil
      rw [upd_ne (Nat.ne_of_lt hb')]
      exact (hf b hb).1
  done := by
    intro X hP hw hK hc i pins s σ H E I hf st hg
    subst hP hw hK
    obtain ⟨⟨old, he⟩, hit, hne⟩ := st
    obtain ⟨xs, hq, hx⟩ := hg
    obtain ⟨its, rv, p, hz⟩ := I.list hq
    have p : s.heap.IsList a its.toArray := p.isList
    obtain ⟨f0, f1, f2, f3, f4, f5⟩ := hf it (by simp)
    have hl := rv.length
    refine (enum_endC (I.ok.hd hc) he hit p (by simp; omega) fun h' eb => ⟨rfl, I.turned (t' := s.toks) (fun b o hb q => eb b o hb q) f0 f1 f3 f4 f5⟩)
  self := fun A i s Q E st h => let ⟨⟨_, he⟩, _⟩ := st; wpAny_pyIter_enum he h
def iEnumS (K : PySem.W.Frag) (k0 : Int) (ta : TA) : TI := fun σ H R => ta σ H fun vs H1 => ∃ a xs, vs = [.ref a, .int k0] ∧ SqL K H1 a xs ∧ R (IteS K k0 a) H1
theorem pi_enumS {X : Cx} {e e2 : Expr} {ta : TA} {p pos tpos : Pos} {elts : List Expr} {kk : Nat} {k0 : Int} (h0 : -(2 ^ 63) ≤ k0) (h1 : k0 < 2 ^ 63) (hg : Gl X "enumerate") (hm : X.mg "enumerate" = none) (ha : PA X [e, e2] ta) (hs : starEach [e, e2] X.env = (false, eval e X.env) :: starEach [e2] X.env := by rfl)
    (hpl : (backTo pos (starEach [e2] X.env)).any (·.1) = false := by rfl) :
    PI X (.Tuple elts kk tpos) (.Call (.Name "enumerate" p) [e, e2] [] pos) (iEnumS X.K k0 ta) := by
  refine ⟨fun pins s σ H R I h => ?_⟩
  refine Call_ (ld_blt I hg hm boot_enumerate (PyProof.Rows.callWith_type1 (thn (ha.run pos pins s σ H _ I h) fun us s1 ⟨vs, H1, I1, r1, q1⟩ => ?_) hs hpl))
  obtain ⟨a, xs, ex, hq, q⟩ := q1
  subst ex
  cases r1 with
  | cons r rr =>
    cases rr with
    | cons r' rr =>
      cases rr
      cases r
      obtain ⟨tk, rfl⟩ := r'
      obtain ⟨its, rv, p', hz⟩ := I1.list hq
      refine enum_begins (begins_list a its.toArray) p'.isList h0 h1 fun h' he hit hsz hk => wpAny_pyIter_enum he ?_
      have hit' : h'.IsListIter s1.heap.objs.size a 0 := ⟨_, hit, rfl, rfl⟩
      have I2 : Inv X pins σ H1 { s1 with heap := h' } := I1.kept (t' := s1.toks) hk
      refine ⟨s1.heap.objs.size + 1, [s1.heap.objs.size + 1, s1.heap.objs.size], _, _, H1, rfl, I2, turn_enumS k0 a (s1.heap.objs.size + 1) s1.heap.objs.size, ⟨⟨.none, by rw [show k0 + ((0 : Nat) : Int) = k0 by omega]; exact he⟩, hit', Nat.succ_ne_self _⟩, fun b hb => ?_, q⟩
      have e' : b = s1.heap.objs.size + 1 ∨ b = s1.heap.objs.size := by simpa using hb
      have hle : s1.heap.objs.size ≤ b := by
        rcases e' with z | z
        · rw [z]; exact Nat.le_add_right _ _
        · rw [z]; exact Nat.le_refl _
      exact I1.fpOk hle (I1.hok.fresh hle)
end EnS
end

section
namespace Pu
open PySem PySem.Spec PyProof.Rows L2

/-! ### methods of texts with one argument -/
def asS : Da → Option Str
  | .str z => some z
  | _ => none
theorem of_asS {d : Da} {z : Str} (h : asS d = some z) : d = .str z := by
  cases d <;> simp [asS] at h
  subst h
  rfl
def eM1 (f : Da → Da → Option Da) (a b : W Da) : W Da := a.bind fun d => (W.req ((asS d).isSome = true)).bind fun _ => b.bind fun e => W.opt (f d e)
theorem w_m1 {f : Da → Da → Option Da} {a b : W Da} {ρ : En} {k : Da → En → Prop} {x : Ex → En → Prop} (h : a.wp ρ (fun d ρ1 => (asS d).isSome = true ∧ b.wp ρ1 (fun e ρ2 => ∃ r, f d e = some r ∧ k r ρ2) x) x) : (eM1 f a b).wp ρ k x :=
  a.mono (fun d ρ1 ⟨h0, q⟩ => ⟨h0, b.mono (fun e ρ2 q => w_opt q) (fun _ _ z => z) q⟩) (fun _ _ z => z) h
section
variable {X : Cx} {G : Gc} {x : Ex → En → Prop}
theorem p_m1 {o e : Expr} {id : String} {name : Str} {apos pos : Pos} {r : V → List V → Hp → VK → Prop} {f : Da → Da → Option Da} {mo me : W Da} (slot : Slot "str" name id) (ty : typeOf (.builtin id) = pure (.type "method_descriptor")) (rule : MtR X id r) (h : Op2 X.K (fun x y H Q => r x [y] H Q) f)
    (ho : PE X o (tp X.K G x mo)) (he : PE X e (tp X.K G x me)) (hs : starEach [e] X.env = [(false, eval e X.env)] := by rfl) (hbase : attributeBase o name X.env (eval o X.env) = eval o X.env := by rfl) (hline : (apos.endLine == pos.line) = true := by rfl) :
    PE X (.Call (.Attribute o name apos) [e] [] pos) (tp X.K G x (eM1 f mo me)) :=
  (pe_m1 slot ty rule ho he hs hbase hline).of fun σ H Q ⟨ρ, pe, S, q⟩ => by
    refine ⟨ρ, pe, S, mo.mono (fun d ρ1 q v H1 S1 => ?_) (fun _ _ z => z) q⟩
    obtain ⟨q0, q⟩ := q
    obtain ⟨z, ez⟩ := Option.isSome_iff_exists.mp q0
    have ed := of_asS ez
    subst ed
    have rv : v = .str z := by
      obtain ⟨O, S1⟩ := S1
      exact rep_str.mp S1.top
    refine ⟨⟨z, rv⟩, ρ1, _, S1, me.mono (fun e ρ2 q w H2 ⟨O, S2⟩ => ?_) (fun _ _ z => z) q⟩
    obtain ⟨r', er, q⟩ := W.opt_wp q
    exact h (Lof G O) H2 _ _ _ v w Q S2.pop.top S2.top er fun v' H' k rr => q v' H' ⟨O, S2.pop.pop.result k rr⟩
end
section
variable {K : PySem.W.Frag} {L : Addr → Prop} {H : Hp}
theorem reps_strs : ∀ ss : List Str, Reps K L H (ss.map Da.str) (ss.map V.str)
  | [] => rfl
  | s :: ss => by
    simp only [List.map_cons, Reps]
    exact ⟨_, _, rfl, rep_str.mpr rfl, reps_strs ss⟩
def strsL : List Da → Option (List Str)
  | [] => some []
  | .str i :: r => (strsL r).map (i :: ·)
  | _ => none
theorem strsL_rep : ∀ {ds : List Da} {ns : List Str} {vs : List V}, strsL ds = some ns → Reps K L H ds vs → vs = ns.map V.str
  | [], ns, vs, e, r => by
    simp only [strsL, Option.some.injEq] at e
    subst e
    simp only [Reps] at r
    subst r
    rfl
  | d :: ds, ns, vs, e, r => by
    cases d <;> simp only [strsL] at e <;> first | cases e | skip
    rename_i i
    simp only [Option.map_eq_some_iff] at e
    obtain ⟨ms, e1, rfl⟩ := e
    simp only [Reps] at r
    obtain ⟨y, ys, rfl, r1, r2⟩ := r
    rw [strsL_rep e1 r2, rep_str.mp r1]
    rfl
@[simp] theorem strsL_map : ∀ ss : List Str, strsL (ss.map Da.str) = some ss
  | [] => rfl
  | s :: ss => by simp [strsL, strsL_map ss]
end
section
variable {K : PySem.W.Frag}
def dSplit : Da → Da → Option Da
  | .str a, .str b => if (b.length == 0) = false ∧ a.length + 2 ≤ 1000000 then some (.lst ((Txt.split a b).map Da.str)) else none
  | _, _ => none
theorem f_split : Op2 K (fun x y H Q => ∃ a b, x = .str a ∧ [y] = [.str b] ∧ (b.length == 0) = false ∧ a.length + 2 ≤ sizeLine ∧ rNewStrs (Txt.split a b) H Q) dSplit := by
  intro L H dx dy d a b Q ra rb e q
  unfold dSplit at e
  split at e
  · rename_i y z
    split at e
    · rename_i h
      cases e
      refine ⟨y, z, rep_str.mp ra, by rw [rep_str.mp rb], h.1, by rw [line_eq]; omega, fun p np => q _ _ (keep_upd np) (rep_newL np ?_ (reps_strs _))⟩
      rw [List.length_map, line_eq]
      have := split_le y z
      omega
    · cases e
  · cases e
def dJoin : Da → Da → Option Da
  | .str a, .lst ds => (strsL ds).bind fun ys => if (ys.map (·.length)).sum + ys.length * a.length ≤ 16777216 then some (.str (Txt.join a ys)) else none
  | .str a, .tup ds => (strsL ds).bind fun ys => if (ys.map (·.length)).sum + ys.length * a.length ≤ 16777216 then some (.str (Txt.join a ys)) else none
  | _, _ => none
theorem f_join : Op2 K (fun x y H Q => ∃ a p, ∃ ys : List Str, x = .str a ∧ [y] = [.ref p] ∧ (SqL K H p (ys.map V.str) ∨ SqT K H p (ys.map V.str)) ∧
    (ys.map (·.length)).sum + ys.length * a.length ≤ 16777216 ∧ Q (.str (Txt.join a ys)) H) dJoin := by
  intro L H dx dy d a b Q ra rb e q
  unfold dJoin at e
  split at e
  · rename_i y ds
    simp only [Option.bind_eq_some_iff] at e
    obtain ⟨ys, e1, e⟩ := e
    split at e
    · rename_i h
      cases e
      obtain ⟨p, us, e2, hs, z, r⟩ := rep_lst.mp rb
      have eu := strsL_rep e1 r
      subst eu
      exact ⟨y, p, ys, rep_str.mp ra, by rw [e2], .inl (.inl (.inl hs.1)), h, q _ H same_ok (rep_str.mpr rfl)⟩
    · cases e
  · rename_i y ds
    simp only [Option.bind_eq_some_iff] at e
    obtain ⟨ys, e1, e⟩ := e
    split at e
    · rename_i h
      cases e
      obtain ⟨p, us, e2, hs, z, r⟩ := rep_tup.mp rb
      have eu := strsL_rep e1 r
      subst eu
      exact ⟨y, p, ys, rep_str.mp ra, by rw [e2], .inr hs, h, q _ H same_ok (rep_str.mpr rfl)⟩
    · cases e
  · cases e
/-- s.index(y), y found -/
def rIdxF : V → List V → Hp → VK → Prop := fun x xs H Q => ∃ (a b : Str) (k : Nat), x = .str a ∧ xs = [.str b] ∧ Txt.index0 a b = some k ∧ Q (.int (k : Nat)) H
theorem mt_indexF {X : Cx} : MtR X "str.index" rIdxF := by
  intro pins s σ H x xs v us Q I rx rs h
  obtain ⟨a, b, k, rfl, rfl, hk, w⟩ := h
  obtain ⟨t, rfl⟩ := rx
  cases rs with
  | cons r1 rs =>
    cases rs
    obtain ⟨u, rfl⟩ := r1
    cases q : Builtin.Str.occurrences a b 0 a.length 1 with
    | nil =>
      unfold Txt.index0 at hk
      rw [q] at hk
      cases hk
    | cons j rest =>
      unfold Txt.index0 at hk
      rw [q] at hk
      cases hk
      exact PySem.SC.index q ⟨.int (k : Nat), H, I.tok _, ⟨_, rfl⟩, w⟩
def dIndex : Da → Da → Option Da
  | .str a, .str b => (Txt.index0 a b).map fun k => .int (k : Nat)
  | _, _ => none
theorem f_index : Op2 K (fun x y H Q => rIdxF x [y] H Q) dIndex := by
  intro L H dx dy d a b Q ra rb e q
  unfold dIndex at e
  split at e
  · rename_i y z
    simp only [Option.map_eq_some_iff] at e
    obtain ⟨k, e1, rfl⟩ := e
    exact ⟨y, z, k, rep_str.mp ra, by rw [rep_str.mp rb], e1, q _ H same_ok (rep_int.mpr rfl)⟩
  · cases e
/-! str(x), int(x) -/
def rStr : List V → Hp → VK → Prop := fun xs H Q => (∃ i, xs = [.int i] ∧ i.natAbs.log2 < 1920 ∧ Q (.str (toString i)) H) ∨ ∃ a, xs = [.str a] ∧ Q (.str a) H
theorem c_str {X : Cx} : CallR X (.type "str") rStr := call_str_int.or SkE.call_str_str
def numS (i : Int) : Str := toString i
def dStr : List Da → Option Da
  | [.int i] => if i.natAbs.log2 < 1920 then some (.str (numS i)) else none
  | [.str a] => some (.str a)
  | _ => none
theorem f_str : OpN K rStr dStr := by
  intro L H ds d vs Q r e q
  unfold dStr at e
  split at e
  · split at e
    · rename_i i h
      cases e
      obtain ⟨v, rfl, r1⟩ := reps1 r
      exact .inl ⟨i, by rw [rep_int.mp r1], h, q _ H same_ok (rep_str.mpr rfl)⟩
    · cases e
  · cases e
    obtain ⟨v, rfl, r1⟩ := reps1 r
    exact .inr ⟨_, by rw [rep_str.mp r1], q _ H same_ok (rep_str.mpr rfl)⟩
  · cases e
def rInt : List V → Hp → VK → Prop := fun xs H Q => ((∃ i, xs = [.int i] ∧ Q (.int i) H) ∨ ∃ k, xs = [.bl k] ∧ Q (.int (if k then 1 else 0)) H) ∨ ∃ a n, xs = [.str a] ∧ PySem.intText? a = some n ∧ a.length ≤ 640 ∧ Q (.int n) H
theorem c_int {X : Cx} : CallR X (.type "int") rInt := call_int1.or call_int_str
def dIntS : List Da → Option Da
  | [.str a] => if a.length ≤ 640 then (PySem.intText? a).map Da.int else none
  | ds => dInt ds
theorem f_intS : OpN K rInt dIntS := by
  intro L H ds d vs Q r e q
  unfold dIntS at e
  split at e
  · rename_i a
    split at e
    · rename_i h
      simp only [Option.map_eq_some_iff] at e
      obtain ⟨n, e1, rfl⟩ := e
      obtain ⟨v, rfl, r1⟩ := reps1 r
      exact .inr ⟨a, n, by rw [rep_str.mp r1], e1, h, q _ H same_ok (rep_int.mpr rfl)⟩
    · cases e
  · exact .inl (f_int L H ds d vs Q r e q)
/-! a sign in a text -/
def rSign (neg : Bool) : R2 := fun x y H Q => ∃ (c : Nat) (z : Str), x = .str ⟨#[c]⟩ ∧ y = .str z ∧ Q (.bl (xor neg (decide (c ∈ z.cps.toList)))) H
theorem o_inS {X : Cx} (hu : X.A.units + 65 < cLine) : OpR X (compareOp .In) (fun x y H Q => rInA X.K false x y H Q ∨ rSign false x y H Q) := (o_in hu).or fun pins s σ H x y v u Q I rx ry ⟨c, z, e1, e2, q⟩ => op_in_sign pins s σ H x y v u Q I rx ry ⟨c, z, e1, e2, by simpa using q⟩
theorem o_notinS {X : Cx} (hu : X.A.units + 65 < cLine) : OpR X (compareOp .NotIn) (fun x y H Q => rInA X.K true x y H Q ∨ rSign true x y H Q) := (o_notin hu).or fun pins s σ H x y v u Q I rx ry ⟨c, z, e1, e2, q⟩ => op_notIn_sign pins s σ H x y v u Q I rx ry ⟨c, z, e1, e2, by simpa using q⟩
def dInS (neg : Bool) : Da → Da → Option Da
  | .str s, .str z => match s.cps.toList with
    | [c] => some (.bl (xor neg (decide (c ∈ z.cps.toList))))
    | _ => none
  | a, b => dIn neg a b
theorem f_inS {neg : Bool} : Op2 K (fun x y H Q => (if neg then rInA K true x y H Q else rInA K false x y H Q) ∨ rSign neg x y H Q) (dInS neg) := by
  intro L H dx dy d a b Q ra rb e q
  unfold dInS at e
  split at e
  · rename_i s z
    split at e
    · rename_i c hc
      cases e
      have es : s = ⟨#[c]⟩ := Str.ext' (Array.toList_inj.mp hc)
      exact .inr ⟨c, z, by rw [rep_str.mp ra, es], rep_str.mp rb, q _ H same_ok (rep_bl'.mpr rfl)⟩
    · cases e
  · left
    cases neg with
    | true => exact f_in (neg := true) L H dx dy d a b Q ra rb e q
    | false => exact f_in (neg := false) L H dx dy d a b Q ra rb e q
theorem f_inF : Op2 K (fun x y H Q => rInA K false x y H Q ∨ rSign false x y H Q) (dInS false) := f_inS (neg := false)
theorem f_inT : Op2 K (fun x y H Q => rInA K true x y H Q ∨ rSign true x y H Q) (dInS true) := f_inS (neg := true)
end
/-! ### enumerate(xs, n), xs[::-1], x and y from two new lists, f'..{e}' -/
theorem itOk_enumS {K : PySem.W.Frag} {a : Addr} {ds : List Da} (n : Nat) : ItOk K (EnS.IteS K (n : Int) a) [(.ref a, .lst ds)] (enumF n ds) := fun L H hs i => by
  have r := hs _ List.mem_cons_self
  simp only [Rep] at r
  obtain ⟨a', xs, e, q, _, rs⟩ := r
  cases e
  refine ⟨fun d h => ?_, fun h => ⟨xs, q.sq, by rw [rs.length]; rw [enumF_len] at h; exact h⟩⟩
  obtain ⟨c, h1, rfl⟩ := enumF_get h
  obtain ⟨y, hy, ry⟩ := rs.getD h1
  refine ⟨⟨xs, y, q.sq, hy⟩, fun w H' z => ?_⟩
  obtain ⟨T, u, rfl, nT, rfl, f⟩ := z
  have e1 := f xs q.sq
  rw [hy] at e1
  cases e1
  refine ⟨keep_upd nT, rep_pair nT (rep_int.mpr (by rw [show ((n + i : Nat) : Int) = (n : Int) + (i : Nat) by omega])) ry⟩
def iEnumS (n : Nat) (m : W Da) : W (List Da) := m.bind fun d => (W.opt (asL d)).bind fun ds => W.ret (enumF n ds)
theorem w_enumS {n : Nat} {a : W Da} {ρ : En} {kl : List Da → En → Prop} {x : Ex → En → Prop} (h : a.wp ρ (fun d ρ1 => ∃ ds, asL d = some ds ∧ kl (enumF n ds) ρ1) x) : (iEnumS n a).wp ρ kl x := a.mono (fun d ρ1 q => w_opt q) (fun _ _ z => z) h
def eRevL (m : W Da) : W Da := m.bind fun d => (W.opt (asL d)).bind fun ds => W.ret (.lst ds.reverse)
theorem w_revL {m : W Da} {ρ : En} {k : Da → En → Prop} {x : Ex → En → Prop} (h : m.wp ρ (fun d ρ1 => ∃ ds, asL d = some ds ∧ k (.lst ds.reverse) ρ1) x) : (eRevL m).wp ρ k x := m.mono (fun d ρ1 q => w_opt q) (fun _ _ z => z) h
def sParO (i j : Nat) (a b : W (List Da)) : Sx := ⟨fun ρ E => a.wp ρ (fun ds ρ1 => b.wp ρ1 (fun es ρ2 => E.nx ((ρ2.set i (some (.own ds))).set j (some (.own es)))) E.ex) E.ex, fun l h => a.mono (fun ds ρ1 q => b.mono (fun es ρ2 q => l.nx _ q) l.ex q) l.ex h⟩
theorem v_parO {i j : Nat} {a b : W (List Da)} {ρ : En} {E : Fl} (h : a.wp ρ (fun ds ρ1 => b.wp ρ1 (fun es ρ2 => E.nx ((ρ2.set i (some (.own ds))).set j (some (.own es)))) E.ex) E.ex) : (sParO i j a b).wp ρ E := h
def dFmt (t : Str) : Da → Option Da
  | .int i => if i.natAbs.log2 < 1920 ∧ (Str.empty ++ t).length ≤ sizeLine ∧ (Str.empty ++ t ++ numS i).length ≤ sizeLine then some (.str (Str.empty ++ t ++ numS i)) else none
  | .str y => if y.length ≤ sizeLine ∧ (Str.empty ++ t).length ≤ sizeLine ∧ (Str.empty ++ t ++ y).length ≤ sizeLine then some (.str (Str.empty ++ t ++ y)) else none
  | _ => none
def eFmt (t : Str) (m : W Da) : W Da := (W.req ((Str.empty ++ t).length ≤ sizeLine)).bind fun _ => eOp1 (dFmt t) m
section
variable {X : Cx} {G : Gc} {x : Ex → En → Prop}
theorem w_fmt {t : Str} {m : W Da} {ρ : En} {k : Da → En → Prop} (h : (Str.empty ++ t).length ≤ sizeLine ∧ m.wp ρ (fun d ρ1 => ∃ r, dFmt t d = some r ∧ k r ρ1) x) : (eFmt t m).wp ρ k x := ⟨h.1, w_op1 h.2⟩
theorem p_fmt {t : Str} {e : Expr} {j : Nat} {p1 p2 pos : Pos} {m : W Da} (he : PE X e (tp X.K G x m)) : PE X (.JoinedStr [.Constant (.str t) j p1, .FormattedValue e (-1) none p2] pos) (tp X.K G x (eFmt t m)) :=
  (pe_joined (.cons pe_str (.cons (pe_fmt he) .nil))).of fun σ H Q ⟨ρ, pe, ⟨O, S⟩, h, q⟩ => by
    refine ⟨t, rfl, h, ρ, pe, ⟨O, S⟩, m.mono (fun d ρ1 q v H1 ⟨O1, S1⟩ => ?_) (fun _ _ z => z) q⟩
    obtain ⟨r, er, q⟩ := W.opt_wp q
    have top := S1.top
    have pop := S1.pop
    unfold dFmt at er
    split at er
    · split at er
      · rename_i hi
        cases er
        exact .inr ⟨_, rep_int.mp top, hi.1, _, rfl, hi.2.2, q _ H1 ⟨O1, pop.pushD (rep_str.mpr rfl)⟩⟩
      · cases er
    · split at er
      · rename_i hi
        cases er
        exact .inl ⟨_, rep_str.mp top, hi.1, _, rfl, hi.2.2, q _ H1 ⟨O1, pop.pushD (rep_str.mpr rfl)⟩⟩
      · cases er
    · cases er
theorem i_enumS {a : Expr} {m : W Da} {p pos tpos p3 : Pos} {elts : List Expr} {kk j : Nat} (n : Nat) (hn : (n : Int) < 2 ^ 63) (hg : Gl X "enumerate") (hm : X.mg "enumerate" = none) (ha : PE X a (tp X.K G x m)) (hs : starEach [a, .Constant (.int (n : Int)) j p3] X.env = (false, eval a X.env) :: starEach [.Constant (.int (n : Int)) j p3] X.env := by rfl)
    (hs2 : starEach [.Constant (.int (n : Int)) j p3] X.env = (false, eval (.Constant (.int (n : Int)) j p3) X.env) :: starEach [] X.env := by rfl) (hpl : (backTo pos (starEach [.Constant (.int (n : Int)) j p3] X.env)).any (·.1) = false := by rfl) :
    PI X (.Tuple elts kk tpos) (.Call (.Name "enumerate" p) [a, .Constant (.int (n : Int)) j p3] [] pos) (tit X.K G x (iEnumS n m)) := (EnS.pi_enumS (by omega) hn hg hm (pa_cons ha (pa_cons pe_int pa_nil hs2) hs) hs hpl).of fun σ H R ⟨ρ, pe, S, q⟩ =>
  ⟨ρ, pe, S, m.mono (fun d ρ1 q v H1 ⟨O, S1⟩ => by
    obtain ⟨ds, e, q⟩ := W.opt_wp q
    have e' := of_asL e
    subst e'
    have r := S1.top
    have r' := r
    simp only [Rep] at r
    obtain ⟨a', xs, e, h1, z, rs⟩ := r
    subst e
    exact ⟨a', xs, rfl, h1.sq, q _ [(.ref a', .lst ds)] H1 (itOk_enumS n) (by rw [enumF_len]; exact z) ⟨O, S1.pop.pushDs fun p hp => by
      rw [List.mem_singleton.mp hp]
      exact r'⟩⟩) (fun _ _ z => z) q⟩
theorem p_revL {e : Expr} {k : Nat} {p1 p2 p3 pos : Pos} {m : W Da} (he : PE X e (tp X.K G x m)) : PE X (.Subscript e (.Slice none none (some (.UnaryOp .USub (.Constant (.int 1) k p1) p2)) p3) pos) (tp X.K G x (eRevL m)) :=
  (pe_revL he).of fun σ H Q ⟨ρ, pe, S, q⟩ => ⟨ρ, pe, S, m.mono (fun d ρ1 q v H1 ⟨O, S1⟩ => by
    obtain ⟨ds, e1, q⟩ := W.opt_wp q
    have ed := of_asL e1
    obtain ⟨a, us, ev, hs, z, r⟩ := rep_lst.mp (ed ▸ S1.top)
    refine ⟨a, us, ev, .inl (.inl hs.1), fun p np => q _ _ ⟨O, S1.pop.result (keep_upd np) (rep_newL np (by rw [List.length_reverse]; exact z) (reps_rev r))⟩⟩) (fun _ _ z => z) q⟩
theorem s_parO {i j : Nat} {n n' : Str} {a b : Expr} {px py pt pos : Pos} {kt k2 pt2} {ma mb : W (List Da)} (hc : X.calm = true) (hN : X.N.Nodup) (hi : X.N[i]? = some n) (hj : X.N[j]? = some n') (hij : i ≠ j)
    (hx : X.env.scope.names.lookup n = some .local) (hy : X.env.scope.names.lookup n' = some .local) (ha : PE X a (tow X.K G x ma)) (hb : PE X b (tow X.K G x mb))
    (hw : swappedStores [.Tuple [.Name n px, .Name n' py] kt pt] (.Tuple [a, b] k2 pt2) X.env = pure (some [n, n']))
    (hs : swapsWithSole [.Tuple [.Name n px, .Name n' py] kt pt] (.Tuple [a, b] k2 pt2) pos.line X.env = pure false := by rfl)
    (h1 : starEach [a, b] X.env = (false, eval a X.env) :: starEach [b] X.env := by rfl) (h2 : starEach [b] X.env = (false, eval b X.env) :: starEach [] X.env := by rfl) :
    PS X (.Assign [.Tuple [.Name n px, .Name n' py] kt pt] (.Tuple [a, b] k2 pt2) pos) (ts X.K G x (sParO i j ma mb)) :=
  (ps_par hc hN hi hj hij hx hy (pa_cons ha (pa_cons hb pa_nil h2) h1) hw hs).of fun D σ H ⟨ρ, pe, S, q⟩ => ⟨ρ, pe, S, ma.mono (fun ds ρ1 q v H1 S1 => ⟨ρ1, _, S1, mb.mono (fun es ρ2 q w H2 ⟨O, S2⟩ => by
    refine ⟨v, w, rfl, ?_⟩
    have S3 := S2.storeOwn j
    have S4 := S3.storeOwn i
    rw [List.set_comm _ _ (Ne.symm hij), List.set_comm _ _ (Ne.symm hij)] at S4
    exact q _ _ ⟨_, S4⟩) (fun _ _ z => z) q⟩) (fun _ _ z => z) q⟩
/-! the truth of a list of our own -/
def bOwn (i : Nat) : W Bool := W.env.bind fun ρ => (W.opt (lookOwn ρ i)).bind fun ds => W.ret (!ds.isEmpty)
theorem w_bOwn {i : Nat} {ρ : En} {kb : Bool → En → Prop} (h : ∃ ds, lookOwn ρ i = some ds ∧ kb (!ds.isEmpty) ρ) : (bOwn i).wp ρ kb x := w_opt h
theorem t_own {i : Nat} {e : Expr} (h : PE X e (tVar i)) (he : ∀ whole, isTrue e X.env whole = (do let v ← whole; standAt e.pos; holding [v] (truthy v)) := by intro _; rfl) : PT X e (ttt X.K G x (bOwn i)) :=
  (pt_truth h he).of fun σ H Q ⟨ρ, pe, ⟨O, S⟩, q⟩ => by
    obtain ⟨ds, e, q⟩ := W.opt_wp q
    obtain ⟨p, hp⟩ := own_slot S (by rw [e]; rfl)
    obtain ⟨xs, op, h, z, rs, np⟩ := own_at S hp e
    exact ⟨.ref p, hp, !ds.isEmpty, .inl ⟨xs, .inl (.inl h), by rw [rs.isEmpty]⟩, q H ⟨O, S⟩⟩
end
/-! ### a list of our own in slot i, compared -/
def eOwnCmp (f : Da → Da → Option Da) (i : Nat) (m : W Da) : W Da := W.env.bind fun ρ0 => (W.req ((lookOwn ρ0 i).isSome = true)).bind fun _ => m.bind fun d => W.env.bind fun ρ => (W.opt (lookOwn ρ i)).bind fun ds => (W.opt (f (.lst ds) d)).bind fun r => (W.opt (asB r)).bind fun b => W.ret (.bl b)
section
variable {X : Cx} {G : Gc} {x : Ex → En → Prop}
theorem w_ownCmp {f : Da → Da → Option Da} {i : Nat} {m : W Da} {ρ : En} {k : Da → En → Prop} (h0 : (lookOwn ρ i).isSome = true) (h : m.wp ρ (fun d ρ1 => ∃ ds, lookOwn ρ1 i = some ds ∧ ∃ r, f (.lst ds) d = some r ∧ ∃ b, asB r = some b ∧ k (.bl b) ρ1) x) : (eOwnCmp f i m).wp ρ k x :=
  ⟨h0, m.mono (fun d ρ1 ⟨ds, e1, r, e2, b, e3, q⟩ => w_opt ⟨ds, e1, w_opt ⟨r, e2, w_opt ⟨b, e3, q⟩⟩⟩) (fun _ _ z => z) h⟩
theorem tpOwn {r : R2} {f : Da → Da → Option Da} {i : Nat} {m : W Da} (h : Op2 X.K r f) {σ : L2.St} {H : Hp} {Q : VK} (q : tp X.K G x (eOwnCmp f i m) σ H Q) : tOp r (tVar i) (tp X.K G x m) σ H Q := by
  obtain ⟨ρ, pe, ⟨O, S⟩, q0, q⟩ := q
  obtain ⟨p, hp⟩ := own_slot S q0
  refine ⟨.ref p, hp, ρ, pe, ⟨O, S⟩, m.mono (fun d ρ1 q w H1 ⟨O1, S1⟩ => ?_) (fun _ _ z => z) q⟩
  obtain ⟨ds, e1, q⟩ := W.opt_wp q
  obtain ⟨r', e2, q⟩ := W.opt_wp (o := f (.lst ds) d) q
  obtain ⟨b, e3, q⟩ := W.opt_wp (o := asB r') q
  have e3 := of_asB e3
  subst e3
  obtain ⟨xs, op, hl, z, rs, np⟩ := own_at S1 hp e1
  refine h (fun _ => True) H1 _ _ _ (.ref p) w Q (rep_lst.mpr ⟨p, xs, rfl, ⟨hl, trivial⟩, z, Reps.mono (fun _ _ e _ => e) (fun _ _ _ _ => trivial) _ _ rs⟩) (Rep.mono (fun _ _ e _ => e) (fun _ _ _ _ => trivial) _ _ S1.top) e2 fun v' H' k rr => ?_
  have := rep_bl'.mp rr
  exact q v' H' ⟨O1, S1.pop.result k (rep_bl'.mpr this)⟩
theorem p_ownCmp {op : CmpOp} {r : R2} {f : Da → Da → Option Da} {a b : Expr} {i : Nat} {pos : Pos} {m : W Da} (ho : OpR X (compareOp op) r) (h : Op2 X.K r f) (ha : PE X a (tVar i)) (hb : PE X b (tp X.K G x m)) (hm : behindInMarks op b = false) :
    PE X (.Compare a [op] [b] pos) (tp X.K G x (eOwnCmp f i m)) := (pe_cmpR ho ha hb hm).of fun _ _ _ q => tpOwn h q
theorem t_ownCmp {op : CmpOp} {r : R2} {f : Da → Da → Option Da} {a b : Expr} {i : Nat} {pos : Pos} {m : W Da} (ho : OpR X (compareOp op) r) (h : Op2 X.K r f) (ha : PE X a (tVar i)) (hb : PE X b (tp X.K G x m)) (hm : behindInMarks op b = false) :
    PT X (.Compare a [op] [b] pos) (ttt X.K G x (bV (eOwnCmp f i m))) := (pt_cmpR ho ha hb hm).of fun _ _ _ q => tpOwn h (ttt_tB q)
end
end Pu
end
local macro_rules | `(tactic| walk_at "w1") => `(tactic| with_reducible refine Pu.w_ownCmp (by with_unfolding_all rfl) ?_)
local macro_rules | `(tactic| walk_at "w1") => `(tactic| with_reducible refine Pu.w_m1 ?_)
local macro_rules | `(tactic| walk_at "w1") => `(tactic| with_reducible refine Pu.w_enumS ?_)
local macro_rules | `(tactic| walk_at "w1") => `(tactic| with_reducible refine Pu.w_revL ?_)
local macro_rules | `(tactic| walk_at "w1") => `(tactic| with_reducible refine Pu.w_fmt ?_)
local macro_rules | `(tactic| walk_at "w1") => `(tactic| with_reducible refine Pu.w_bOwn ?_)
local macro_rules | `(tactic| walk_at "w1") => `(tactic| with_reducible refine Pu.v_parO ?_)

section
set_option maxHeartbeats 4000000
/-! texts, plain: cut at a sign, joined, whole numbers -/
namespace Tx
open PySem PySem.Spec PyProof.Rows L2 Pu TL

abbrev nlS : Str := PySem.Str.ofString "\n"
abbrev spS : Str := PySem.Str.ofString " "
theorem tl_nl : tl nlS = [10] := by decide +kernel
theorem tl_sp : tl spS = [32] := by decide +kernel
theorem nl_ok : nlS.cps.all (· < 256) = true := by decide +kernel
theorem sp_ok : spS.cps.all (· < 256) = true := by decide +kernel
/-- each sign one byte -/
def Asc (z : Str) : Prop := ∀ c ∈ tl z, c < 256
theorem Asc.ok {z : Str} (h : Asc z) : PyData.strOk z = true := by
  unfold PyData.strOk
  rw [← Array.all_toList, List.all_eq_true]
  intro c hc
  have := h c hc
  simp
  omega
/-! ### cut at one sign -/
def cutL (s : Nat) : List Nat → List Nat → List (List Nat)
  | acc, [] => [acc]
  | acc, c :: r => if c = s then acc :: cutL s [] r else cutL s (acc ++ [c]) r
theorem spl_cut (s : Nat) : ∀ (l acc : List Nat), spl [s] 0 acc l = cutL s acc l
  | [], acc => spl_nil _ _ _
  | c :: r, acc => by
    unfold cutL
    by_cases h : c = s
    · rw [if_pos h, spl_hit (by unfold pre; simp [h])]
      exact congrArg _ (spl_cut s r [])
    · rw [if_neg h, spl_miss (by unfold pre; simp [h])]
      exact spl_cut s r _
theorem cut_ne (s : Nat) : ∀ (l acc : List Nat), cutL s acc l ≠ []
  | [], acc => by simp [cutL]
  | c :: r, acc => by
    unfold cutL
    split
    · simp
    · exact cut_ne s r _
theorem cut_mem {s : Nat} : ∀ {l acc : List Nat}, s ∉ acc → ∀ p ∈ cutL s acc l, s ∉ p ∧ ∀ c ∈ p, c ∈ acc ∨ c ∈ l
  | [], acc, h, p, hp => by
    rw [List.mem_singleton.mp hp]
    exact ⟨h, fun c hc => .inl hc⟩
  | c :: r, acc, h, p, hp => by
    unfold cutL at hp
    split at hp
    · rcases List.mem_cons.mp hp with rfl | hp
      · exact ⟨h, fun c hc => .inl hc⟩
      · obtain ⟨a, b⟩ := cut_mem (s := s) (l := r) (acc := []) (by simp) p hp
        exact ⟨a, fun c hc => (b c hc).elim (fun z => by cases z) fun z => .inr (List.mem_cons_of_mem _ z)⟩
    · rename_i hc
      obtain ⟨a, b⟩ := cut_mem (s := s) (l := r) (acc := acc ++ [c]) (by simp [h]; exact fun e => hc e.symm) p hp
      refine ⟨a, fun d hd => (b d hd).elim (fun z => ?_) fun z => .inr (List.mem_cons_of_mem _ z)⟩
      rcases List.mem_append.mp z with z | z
      · exact .inl z
      · exact .inr (by rw [List.mem_singleton.mp z]; exact List.mem_cons_self)
def costL (ls : List (List Nat)) : Nat := (ls.map fun p => p.length + 1).sum
theorem cut_cost (s : Nat) : ∀ (l acc : List Nat), costL (cutL s acc l) = acc.length + l.length + 1
  | [], acc => by simp [cutL, costL]
  | c :: r, acc => by
    unfold cutL
    split
    · have := cut_cost s r []
      unfold costL at this ⊢
      simp only [List.map_cons, List.sum_cons, this, List.length_nil, List.length_cons]
      omega
    · rw [cut_cost s r _]
      simp
      omega
/-- the cost of parts: with one sign behind each -/
def cost (ps : List Str) : Nat := (ps.map fun p => p.length + 1).sum
theorem cost_tl (ps : List Str) : cost ps = costL (ps.map tl) := by
  unfold cost costL
  rw [List.map_map]
  refine congrArg List.sum (List.map_congr_left fun p _ => ?_)
  show p.length + 1 = (tl p).length + 1
  rw [len_tl]
theorem cost_sum (ps : List Str) : (ps.map (·.length)).sum + ps.length * 1 = cost ps := by
  induction ps with
  | nil => rfl
  | cons p ps ih =>
    unfold cost at *
    simp only [List.map_cons, List.sum_cons, List.length_cons]
    omega
theorem cost_app (a b : List Str) : cost (a ++ b) = cost a + cost b := by simp [cost]
theorem cost_take (n : Nat) (a : List Str) : cost (a.take n) ≤ cost a := by
  have e := cost_app (a.take n) (a.drop n)
  rw [List.take_append_drop] at e
  omega
theorem cost_drop (n : Nat) (a : List Str) : cost (a.drop n) ≤ cost a := by
  have e := cost_app (a.take n) (a.drop n)
  rw [List.take_append_drop] at e
  omega
theorem cost_td (n : Nat) (a : List Str) : cost (a.take n) + cost (a.drop n) = cost a := by
  have e := cost_app (a.take n) (a.drop n)
  rw [List.take_append_drop] at e
  omega
theorem len_cost (a : List Str) : a.length ≤ cost a := by
  have := cost_sum a
  omega
theorem mem_cost {a : List Str} {p : Str} (h : p ∈ a) : p.length < cost a := by
  induction a with
  | nil => cases h
  | cons q a ih =>
    unfold cost at *
    simp only [List.map_cons, List.sum_cons]
    rcases List.mem_cons.mp h with rfl | h
    · omega
    · have := ih h
      omega
section
variable {x y : Str} {s : Nat}
theorem split_tl (ey : tl y = [s]) (hk : y.cps.all (· < 256) = true) : (Txt.split x y).map tl = cutL s [] (tl x) := by
  rw [split_spl x y (by rw [ey]; simp) (kind_ok hk), ey, spl_cut]
theorem split_ne (ey : tl y = [s]) (hk : y.cps.all (· < 256) = true) : Txt.split x y ≠ [] := fun e => by
  have := split_tl (x := x) ey hk
  rw [e] at this
  exact cut_ne s _ _ this.symm
theorem split_mem (ey : tl y = [s]) (hk : y.cps.all (· < 256) = true) {p : Str} (hp : p ∈ Txt.split x y) : s ∉ tl p ∧ ∀ c ∈ tl p, c ∈ tl x := by
  have e := split_tl (x := x) ey hk
  have hm : tl p ∈ cutL s [] (tl x) := by
    rw [← e]
    exact List.mem_map.mpr ⟨p, hp, rfl⟩
  obtain ⟨a, b⟩ := cut_mem (by simp) _ hm
  exact ⟨a, fun c hc => (b c hc).elim (fun z => by cases z) id⟩
theorem split_cost (ey : tl y = [s]) (hk : y.cps.all (· < 256) = true) : cost (Txt.split x y) = x.length + 1 := by
  rw [cost_tl, split_tl ey hk, cut_cost, len_tl]
  simp
theorem sep_len (ey : tl y = [s]) : y.length = 1 := by rw [len_tl, ey]; rfl
theorem dSplit_eq (ey : tl y = [s]) (hl : x.length ≤ 999998) : dSplit (.str x) (.str y) = some (.lst ((Txt.split x y).map Da.str)) := by
  show (if _ then _ else _) = _
  rw [if_pos ⟨by rw [sep_len ey]; rfl, by omega⟩]
theorem joinL_len (s : Nat) : ∀ ls : List (List Nat), (joinL [s] ls).length ≤ costL ls
  | [] => Nat.zero_le _
  | [p] => by simp [joinL, costL]
  | p :: q :: r => by
    have := joinL_len s (q :: r)
    unfold costL at *
    simp only [joinL, List.length_append, List.map_cons, List.sum_cons, List.length_singleton] at *
    omega
theorem joinL_mem {s : Nat} : ∀ {ls : List (List Nat)} {c : Nat}, c ∈ joinL [s] ls → c = s ∨ ∃ p ∈ ls, c ∈ p
  | [], c, h => by cases h
  | [p], c, h => .inr ⟨p, List.mem_singleton.mpr rfl, h⟩
  | p :: q :: r, c, h => by
    simp only [joinL, List.mem_append, List.mem_singleton] at h
    rcases h with h | h | h
    · exact .inr ⟨p, List.mem_cons_self, h⟩
    · exact .inl h
    · exact (joinL_mem h).imp id fun ⟨z, hz, hc⟩ => ⟨z, List.mem_cons_of_mem _ hz, hc⟩
theorem join_tl (ey : tl y = [s]) (ps : List Str) : tl (Txt.join y ps) = joinL [s] (ps.map tl) := by rw [join_eq, tl_join, ey]
theorem join_len (ey : tl y = [s]) (ps : List Str) : (Txt.join y ps).length ≤ cost ps := by
  rw [len_tl, join_tl ey, cost_tl]
  exact joinL_len s _
theorem join_mem (ey : tl y = [s]) {ps : List Str} {c : Nat} (h : c ∈ tl (Txt.join y ps)) : c = s ∨ ∃ p ∈ ps, c ∈ tl p := by
  rw [join_tl ey] at h
  refine (joinL_mem h).imp id fun ⟨p, hp, hc⟩ => ?_
  obtain ⟨z, hz, rfl⟩ := List.mem_map.mp hp
  exact ⟨z, hz, hc⟩
theorem dJoin_lst (ey : tl y = [s]) {ps : List Str} (h : cost ps ≤ 16777216) : dJoin (.str y) (.lst (ps.map Da.str)) = some (.str (Txt.join y ps)) := by
  show (strsL _).bind _ = _
  rw [strsL_map]
  show (if _ then _ else _) = _
  rw [if_pos (by rw [sep_len ey, cost_sum]; exact h)]
theorem split_join1 (ey : tl y = [s]) (hk : y.cps.all (· < 256) = true) {ps : List Str} (hne : ps ≠ []) (hp : ∀ p ∈ ps, s ∉ tl p) : Txt.split (Txt.join y ps) y = ps := split_join ey hk hne hp
end
/-! ### whole numbers -/
abbrev emS : Str := PySem.Str.ofString ""
abbrev zrS : Str := PySem.Str.ofString "0"
abbrev miS : Str := PySem.Str.ofString "-"
abbrev dgS : Str := PySem.Str.ofString "0123456789"
theorem tl_em : tl emS = [] := by decide +kernel
theorem tl_zr : tl zrS = [48] := by decide +kernel
theorem tl_mi : tl miS = [45] := by decide +kernel
theorem tl_dg : tl dgS = [48, 49, 50, 51, 52, 53, 54, 55, 56, 57] := by decide +kernel
/-- the figures of a word -/
def figs (w : Str) : List Nat := match tl w with
  | 45 :: r => r
  | l => l
def negW (w : Str) : Bool := match tl w with
  | 45 :: _ => true
  | _ => false
def isDig (c : Nat) : Bool := decide (c ∈ tl dgS)
def wholeB (w : Str) : Bool := !(figs w).isEmpty && (decide ((figs w).length ≤ 12) && (figs w).all isDig) && (decide (tl w = [48]) || decide ((figs w).head? ≠ some 48))
def wholeV (w : Str) : Int := if negW w then - ((NumText.digitsVal (figs w) : Nat) : Int) else ((NumText.digitsVal (figs w) : Nat) : Int)
def whole (w : Str) : Option Int := if wholeB w then some (wholeV w) else none
theorem isDig_iff (c : Nat) : isDig c = true ↔ 48 ≤ c ∧ c ≤ 57 := by
  unfold isDig
  rw [decide_eq_true_eq, tl_dg]
  simp
  omega
theorem wholeB_figs {w : Str} (h : wholeB w = true) : figs w ≠ [] ∧ (figs w).length ≤ 12 ∧ NumText.AllDigits (figs w) ∧ (tl w = [48] ∨ (figs w).head? ≠ some 48) := by
  unfold wholeB at h
  simp only [Bool.and_eq_true, Bool.or_eq_true, Bool.not_eq_true', decide_eq_true_eq, List.all_eq_true] at h
  refine ⟨fun e => by rw [e] at h; simp at h, h.1.2.1, fun c hc => (isDig_iff c).mp (h.1.2.2 c hc), h.2⟩
theorem figs_neg {w : Str} {r : List Nat} (h : tl w = 45 :: r) : figs w = r ∧ negW w = true := by
  unfold figs negW
  rw [h]
  exact ⟨rfl, rfl⟩
theorem figs_pos {w : Str} (h : (tl w).head? ≠ some 45) : figs w = tl w ∧ negW w = false := by
  unfold figs negW
  cases e : tl w with
  | nil => exact ⟨rfl, rfl⟩
  | cons c r =>
    rw [e] at h
    have hc : c ≠ 45 := fun z => h (by rw [z]; rfl)
    constructor
    · split
      · rename_i r' e'
        cases e'
        exact absurd rfl hc
      · rfl
    · split
      · rename_i r' e'
        cases e'
        exact absurd rfl hc
      · rfl
theorem tl_cases (w : Str) : (∃ r, tl w = 45 :: r) ∨ (tl w).head? ≠ some 45 := by
  cases e : tl w with
  | nil => exact .inr (by simp)
  | cons c r =>
    by_cases h : c = 45
    · exact .inl ⟨r, by rw [h]⟩
    · exact .inr (by simpa using h)
theorem val_pos : ∀ (l : List Nat) (a : Nat), 0 < a → 0 < l.foldl (fun acc c => acc * 10 + (c - 48)) a
  | [], a, h => h
  | c :: r, a, h => val_pos r (a * 10 + (c - 48)) (by omega)
theorem head_pos {l : List Nat} (h : NumText.AllDigits l) (hn : l ≠ []) (h0 : l.head? ≠ some 48) : 0 < NumText.digitsVal l := by
  cases l with
  | nil => exact absurd rfl hn
  | cons c r =>
    have hc := h.head
    have : c ≠ 48 := fun e => h0 (by rw [e]; rfl)
    unfold NumText.digitsVal
    rw [List.foldl_cons]
    exact val_pos r _ (by omega)
/-- the program's int() of a whole word -/
theorem whole_int {w : Str} (h : wholeB w = true) : PySem.intText? w = some (wholeV w) ∧ w.length ≤ 640 := by
  obtain ⟨h1, h2, h3, _⟩ := wholeB_figs h
  rcases tl_cases w with ⟨r, e⟩ | e
  · obtain ⟨f, g⟩ := figs_neg e
    rw [f] at h1 h2 h3
    have hl : w.length ≤ 640 := by rw [len_tl, e, List.length_cons]; omega
    unfold wholeV
    rw [f, g, if_pos rfl]
    exact ⟨intText_neg e h3 h1 (by omega), hl⟩
  · obtain ⟨f, g⟩ := figs_pos e
    rw [f] at h1 h2 h3
    have hl : w.length ≤ 640 := by rw [len_tl]; omega
    unfold wholeV
    rw [f, g, if_neg Bool.false_ne_true]
    exact ⟨intText_digits h3 h1 (by omega), hl⟩
theorem dInt_whole {w : Str} (h : wholeB w = true) : dIntS [.str w] = some (.int (wholeV w)) := by
  obtain ⟨e, hl⟩ := whole_int h
  show (if _ then _ else _) = _
  rw [if_pos hl, e]
  rfl
/-- the sign of a whole number -/
theorem whole_sign {w : Str} (h : wholeB w = true) : (0 ≤ wholeV w ↔ (tl w).head? ≠ some 45) ∧ (wholeV w = 0 ↔ tl w = [48]) := by
  obtain ⟨h1, h2, h3, h4⟩ := wholeB_figs h
  rcases tl_cases w with ⟨r, e⟩ | e
  · obtain ⟨f, g⟩ := figs_neg e
    rw [e] at h4
    have h5 : (figs w).head? ≠ some 48 := h4.resolve_left (by simp)
    have := head_pos h3 h1 h5
    unfold wholeV
    rw [g, if_pos rfl, e]
    exact ⟨⟨fun z => by omega, fun z => absurd rfl z⟩, ⟨fun z => by omega, fun z => by simp at z⟩⟩
  · obtain ⟨f, g⟩ := figs_pos e
    unfold wholeV
    rw [g, if_neg Bool.false_ne_true]
    refine ⟨⟨fun _ => e, fun _ => by omega⟩, ⟨fun z => ?_, fun z => ?_⟩⟩
    · refine h4.resolve_right fun h5 => ?_
      have := head_pos h3 h1 h5
      omega
    · rw [f, z]
      rfl
/-! numbers as texts -/
theorem num_pos (n : Nat) : tl (numS (n : Int)) = numL n := tl_num n
theorem num_neg (m : Nat) : tl (numS (Int.negSucc m)) = 45 :: numL (m + 1) := by
  have e : (toString (Int.negSucc m) : String) = "-" ++ toString ((m + 1 : Nat) : Int) := rfl
  show tl (Str.ofString (toString (Int.negSucc m))) = _
  rw [e, tl_ofString, String.toList_append, List.map_append]
  have := tl_num (m + 1)
  rw [tl_ofString] at this
  rw [this]
  rfl
theorem numL_head {n : Nat} (h : 0 < n) : (numL n).head? ≠ some 48 := by
  induction n using Nat.strongRecOn with
  | _ n ih =>
    by_cases h1 : n < 10
    · rw [numL_lt h1]
      simp
      omega
    · rw [numL_step (by omega)]
      have := ih (n / 10) (by omega) (by omega)
      cases e : numL (n / 10) with
      | nil => exact absurd e (numL_ne _)
      | cons c r =>
        rw [e] at this
        simpa using this
theorem digs_all {l : List Nat} (h : NumText.AllDigits l) : l.all isDig = true := by
  rw [List.all_eq_true]
  exact fun c hc => (isDig_iff c).mpr (h c hc)
theorem numL_no45 (n : Nat) : (numL n).head? ≠ some 45 := fun e => by
  have : 45 ∈ numL n := List.mem_of_mem_head? e
  exact numL_free (by omega) this
theorem whole_num {i : Int} (h : i.natAbs < 10 ^ 12) : whole (numS i) = some i := by
  unfold whole
  cases i with
  | ofNat n =>
    have et : tl (numS (Int.ofNat n)) = numL n := num_pos n
    have hn : n < 10 ^ 12 := h
    obtain ⟨f, g⟩ := figs_pos (w := numS (Int.ofNat n)) (by rw [et]; exact numL_no45 n)
    rw [et] at f
    have hb : wholeB (numS (Int.ofNat n)) = true := by
      unfold wholeB
      rw [f, et]
      have h1 : (numL n).isEmpty = false := by
        cases e : numL n with
        | nil => exact absurd e (numL_ne n)
        | cons c r => rfl
      have h2 : (numL n).length ≤ 12 := numL_len (by decide) hn
      rw [h1, digs_all (numL_digits n), decide_eq_true h2]
      by_cases h0 : n = 0
      · subst h0
        rfl
      · have := numL_head (n := n) (by omega)
        simp [this]
    rw [if_pos hb]
    unfold wholeV
    rw [g, if_neg Bool.false_ne_true, f, numL_val]
    rfl
  | negSucc m =>
    have et := num_neg m
    have hn : m + 1 < 10 ^ 12 := h
    obtain ⟨f, g⟩ := figs_neg et
    have hb : wholeB (numS (Int.negSucc m)) = true := by
      unfold wholeB
      rw [f, et]
      have h1 : (numL (m + 1)).isEmpty = false := by
        cases e : numL (m + 1) with
        | nil => exact absurd e (numL_ne _)
        | cons c r => rfl
      have h2 : (numL (m + 1)).length ≤ 12 := numL_len (by decide) hn
      have := numL_head (n := m + 1) (by omega)
      rw [h1, digs_all (numL_digits _), decide_eq_true h2]
      simp [this]
    rw [if_pos hb]
    unfold wholeV
    rw [g, if_pos rfl, f, numL_val]
    rfl
end Tx
end

section
namespace PySem.W
open PySem PySem.Calls PyProof.Rows
theorem rvo_range (m : Nat) : (List.range m).map (fun k => m - k) = ((List.range m).map (1 + ·)).reverse := by
  apply List.ext_getElem
  · simp
  · intro i h1 h2
    rw [List.getElem_map, List.getElem_reverse, List.getElem_map]
    simp only [List.getElem_range, List.length_map, List.length_range]
    simp at h1
    omega
theorem rvo_bounds (n : Nat) : sliceBounds none (some 0) (some (-1)) n = ((n : Int) - 1, min 0 ((n : Int) - 1), -1) := by
  simp [sliceBounds]
  omega
theorem rvo_sliceRange (n : Nat) : sliceRange ((n : Int) - 1) (min 0 ((n : Int) - 1)) (-1) = (List.range (n - 1)).map fun k => n - 1 - k := by
  unfold sliceRange
  have h1 : ¬ ((-1 : Int) > 0) := by decide
  by_cases h : (n : Int) - 1 > min 0 ((n : Int) - 1)
  · have e : ((n : Int) - 1 - min 0 ((n : Int) - 1) - -1 - 1) / (- -1) = ((n - 1 : Nat) : Int) := by
      rw [show (- -1 : Int) = 1 by decide, Int.ediv_one]
      omega
    simp only [h1, if_false, h, if_true, e, Int.toNat_natCast]
    apply List.map_congr_left
    intro k hk
    have := List.mem_range.mp hk
    omega
  · have e : n - 1 = 0 := by omega
    rw [e]
    simp [h1, h]
theorem rvo_pick (items : Array Value) : slicePick items none (some 0) (some (-1)) = (items.toList.drop 1).reverse.toArray := by
  unfold slicePick
  rw [rvo_bounds]
  show ((sliceRange ((items.size : Int) - 1) (min 0 ((items.size : Int) - 1)) (-1)).filterMap (items[·]?)).toArray = _
  rw [rvo_sliceRange, rvo_range, List.filterMap_reverse, pick_run]
  rw [List.take_of_length_le (by simp)]
end PySem.W
namespace L2
open PySem PySem.Spec PyProof.Rows
section
variable {X : Cx}
/-! ### xs[:0:-1] -/
def tRevO (K : PySem.W.Frag) (te : TE) : TE := fun σ H Q => te σ H fun x H1 => ∃ a xs, x = .ref a ∧ SqL K H1 a xs ∧ ∀ p, H1 p = none → Q (.ref p) (upd H1 p (.lst (xs.drop 1).reverse))
theorem pe_revO {e : Expr} {te : TE} {k k0 : Nat} {p0 p1 p2 p3 pos : Pos} (he : PE X e te) : PE X (.Subscript e (.Slice none (some (.Constant (.int 0) k0 p0)) (some (.UnaryOp .USub (.Constant (.int 1) k p1) p2)) p3) pos) (tRevO X.K te) := by
  refine ⟨fun pins s σ H Q I h => ?_⟩
  refine Subscript_ (thn (he.run pins s σ H _ I h) fun v s1 ⟨x, H1, I1, r1, q1⟩ => ?_)
  obtain ⟨a, xs, ex, hx, q⟩ := q1
  subst ex
  cases r1
  have hst : PO X (some (.UnaryOp .USub (.Constant (.int 1) k p1) p2)) (tPart (tUn (rU fun i => .int (-i)) (tC (.int 1)))) := po_some (pe_un un_neg pe_int)
  have hhi : PO X (some (.Constant (.int 0) k0 p0)) (tPart (tC (.int 0))) := po_some pe_int
  refine wpAny_Slice (thn (po_none.run pins s1 σ H1 (fun o H2 => o = none ∧ H2 = H1) I1 ⟨rfl, rfl⟩) fun vl s2 ⟨l, H2, I2, pl, el, e2⟩ => ?_)
  subst el e2
  refine thn (hhi.run pins s2 σ H2 (fun o H3 => o = some 0 ∧ H3 = H2) I2 ⟨0, rfl, rfl, rfl⟩) fun vu s3 ⟨u, H3, I3, pu, eu, e3⟩ => ?_
  subst eu e3
  refine thn (hst.run pins s3 σ H3 (fun o H4 => o = some (-1) ∧ H4 = H3) I3 ⟨1, rfl, -1, rfl, rfl, rfl⟩) fun vs s4 ⟨o, H4, I4, ps, eo, e4⟩ => ?_
  subst eo e4
  have I5 : Inv X pins σ H4 { s4 with heap := s4.heap.push { cls := .type "slice", data := .fields #[vl, vu, vs] } } := I4.kept (t' := s4.toks) fun b ob q => Heap.get?_push_of_some _ q
  obtain ⟨its, r, ht, hz⟩ := I5.list hx
  have hlen := r.length
  show wpAny (model X.prog X.w) X.A (subscriptTail e (.Slice none (some (.Constant (.int 0) k0 p0)) (some (.UnaryOp .USub (.Constant (.int 1) k p1) p2)) p3) (.ref a) (.ref s4.heap.objs.size)) (EP X pins σ Q) X.xe { s4 with heap := s4.heap.push { cls := .type "slice", data := .fields #[vl, vu, vs] } }
  refine tail_any (ops := [.ref a, .ref s4.heap.objs.size]) ht.isList.typeIs (PySem.slot_list_getitem.lookup) ?_ (by with_unfolding_all rfl)
  refine wpAny_getItem_list_slice ht.isList (Heap.IsSliceOf.new _ vl vu vs) pl pu ps (by decide) ?_ (by rw [List.size_toArray]; omega)
  rw [PySem.W.rvo_pick]
  refine ⟨.ref _, _, I5.laid (t' := s4.toks) (o := .lst (xs.drop 1).reverse) (fun b ob q => Heap.get?_push_of_some _ q) (Nat.le_refl _) ?_, rfl, q _ (I5.hok.fresh (Nat.le_refl _))⟩
  refine ⟨by rw [List.length_reverse, List.length_drop]; omega, _, 0, (r.drop 1).reverse, Heap.get?_push_size _ rfl⟩
end
end L2
end

section
namespace Pu
open PySem PySem.Spec PyProof.Rows L2

/-! ### xs[:0:-1] -/
def eRevO (m : W Da) : W Da := m.bind fun d => (W.opt (asL d)).bind fun ds => W.ret (.lst (ds.drop 1).reverse)
theorem w_revO {m : W Da} {ρ : En} {k : Da → En → Prop} {x : Ex → En → Prop} (h : m.wp ρ (fun d ρ1 => ∃ ds, asL d = some ds ∧ k (.lst (ds.drop 1).reverse) ρ1) x) : (eRevO m).wp ρ k x := m.mono (fun d ρ1 q => w_opt q) (fun _ _ z => z) h
section
variable {X : Cx} {G : Gc} {x : Ex → En → Prop}
theorem reps_drop {K : PySem.W.Frag} {L : Addr → Prop} {H : Hp} : ∀ {n : Nat} {ds : List Da} {vs : List V}, Reps K L H ds vs → Reps K L H (ds.drop n) (vs.drop n)
  | 0, _, _, h => h
  | n + 1, [], vs, h => by
    simp only [Reps] at h
    subst h
    simp only [List.drop_nil, Reps]
  | n + 1, d :: ds, vs, h => by
    simp only [Reps] at h
    obtain ⟨v, us, rfl, h1, h2⟩ := h
    exact reps_drop (n := n) h2
theorem p_revO {e : Expr} {k k0 : Nat} {p0 p1 p2 p3 pos : Pos} {m : W Da} (he : PE X e (tp X.K G x m)) : PE X (.Subscript e (.Slice none (some (.Constant (.int 0) k0 p0)) (some (.UnaryOp .USub (.Constant (.int 1) k p1) p2)) p3) pos) (tp X.K G x (eRevO m)) :=
  (pe_revO he).of fun σ H Q ⟨ρ, pe, S, q⟩ => ⟨ρ, pe, S, m.mono (fun d ρ1 q v H1 ⟨O, S1⟩ => by
    obtain ⟨ds, e1, q⟩ := W.opt_wp q
    have ed := of_asL e1
    obtain ⟨a, us, ev, hs, z, r⟩ := rep_lst.mp (ed ▸ S1.top)
    refine ⟨a, us, ev, .inl (.inl hs.1), fun p np => q _ _ ⟨O, S1.pop.result (keep_upd np) (rep_newL np (by rw [List.length_reverse, List.length_drop]; omega) (reps_rev (reps_drop r)))⟩⟩) (fun _ _ z => z) q⟩
end
theorem v_tryU {cat : Str → Option Bool} {b s : Sx} {ρ : En} {E : Fl} (h : b.wp ρ { E with ex := tryExU cat s E }) : (sTryU cat b s).wp ρ E := h
theorem w_setOf {m : W (List Da)} {ρ : En} {kl : List Da → En → Prop} {x : Ex → En → Prop} (h : m.wp ρ (fun ds ρ1 => (ds.length < 60 ∧ ∀ d ∈ ds, (intKey d).isSome = true) ∧ kl ds ρ1) x) : (eSetOf m).wp ρ kl x := h
theorem w_sortS {m : W (List Da)} {ρ : En} {kl : List Da → En → Prop} {x : Ex → En → Prop} (h : m.wp ρ (fun ds ρ1 => alikeD ds ∧ ds.length ≤ 1000 ∧ ∀ ms, SetOf ds ms → kl (sortD ms) ρ1) x) : (eSortS m).wp ρ kl x := h
end Pu
end
local macro_rules | `(tactic| walk_at "w1") => `(tactic| with_reducible refine Pu.w_setOf ?_)
local macro_rules | `(tactic| walk_at "w1") => `(tactic| with_reducible refine Pu.w_sortS ?_)
local macro_rules | `(tactic| walk_at "w1") => `(tactic| with_reducible refine Pu.v_tryU ?_)
local macro_rules | `(tactic| walk_at "w1") => `(tactic| with_reducible refine Pu.w_revO ?_)

section
set_option maxHeartbeats 1000000
namespace Pu
open PySem PySem.Spec PyProof.Rows L2

/-! ### tables of data -/
abbrev Tab := List (Key × Da)
def tGet (t : Tab) (k : Key) : Option Da := (t.find? fun p => decide (p.1 = k)).map (·.2)
def tPut (t : Tab) (k : Key) (d : Da) : Tab := if (t.any fun p => decide (p.1 = k)) = true then t.map (fun p => if p.1 = k then (p.1, d) else p) else t ++ [(k, d)]
def TabR (K : PySem.W.Frag) (L : Addr → Prop) (H : Hp) : Tab → List (Key × V) → Prop
  | [], kvs => kvs = []
  | p :: t, kvs => ∃ v r, kvs = (p.1, v) :: r ∧ Rep K L H p.2 v ∧ TabR K L H t r
section
variable {K : PySem.W.Frag} {L L' : Addr → Prop} {H H' : Hp}
theorem tabR_iff : ∀ {t : Tab} {kvs : List (Key × V)}, TabR K L H t kvs ↔ kvs.map (·.1) = t.map (·.1) ∧ Reps K L H (t.map (·.2)) (kvs.map (·.2))
  | [], kvs => by
    simp only [TabR, List.map_nil, Reps, List.map_eq_nil_iff]
    exact ⟨fun h => ⟨h, h⟩, fun h => h.1⟩
  | p :: t, [] => by
    simp only [TabR, List.map_nil, List.map_cons, Reps]
    constructor
    · rintro ⟨v, r, e, _⟩
      cases e
    · rintro ⟨e, _⟩
      cases e
  | p :: t, q :: r => by
    have ih := tabR_iff (t := t) (kvs := r)
    simp only [TabR, List.map_cons, Reps, List.cons.injEq]
    constructor
    · rintro ⟨v, r', ⟨e1, e2⟩, h1, h2⟩
      subst e2
      rw [e1]
      have := ih.mp h2
      exact ⟨⟨rfl, this.1⟩, v, _, ⟨rfl, rfl⟩, h1, this.2⟩
    · rintro ⟨⟨e1, e2⟩, v, ys, ⟨e3, e4⟩, h1, h2⟩
      refine ⟨v, r, ⟨Prod.ext e1 e3, rfl⟩, h1, ih.mpr ⟨e2, ?_⟩⟩
      rw [e4]
      exact h2
theorem tab_val {k : Key} : ∀ {t : Tab} {kvs : List (Key × V)}, TabR K L H t kvs → (tGet t k = none ∧ valV kvs k = none) ∨ ∃ d v, tGet t k = some d ∧ valV kvs k = some v ∧ Rep K L H d v
  | [], kvs, h => by
    simp only [TabR] at h
    subst h
    exact .inl ⟨rfl, rfl⟩
  | p :: t, kvs, h => by
    simp only [TabR] at h
    obtain ⟨v, r, rfl, h1, h2⟩ := h
    by_cases e : p.1 = k
    · exact .inr ⟨p.2, v, by simp [tGet, List.find?_cons, e], valV_pos (p := (p.1, v)) e, h1⟩
    · have e2 : tGet (p :: t) k = tGet t k := by simp [tGet, List.find?_cons, e]
      rw [e2, valV_neg (p := (p.1, v)) e]
      exact tab_val h2
theorem tab_any {k : Key} : ∀ {t : Tab} {kvs : List (Key × V)}, TabR K L H t kvs → (kvs.any fun kv => decide (kv.1 = k)) = t.any fun p => decide (p.1 = k)
  | [], kvs, h => by
    simp only [TabR] at h
    subst h
    rfl
  | p :: t, kvs, h => by
    simp only [TabR] at h
    obtain ⟨v, r, rfl, h1, h2⟩ := h
    rw [List.any_cons, List.any_cons, tab_any h2]
theorem tab_repl {k : Key} {d : Da} {v : V} (rd : Rep K L H d v) : ∀ {t : Tab} {kvs : List (Key × V)}, TabR K L H t kvs → TabR K L H (t.map (fun p => if p.1 = k then (p.1, d) else p)) (kvs.map (fun kv => if kv.1 = k then (kv.1, v) else kv))
  | [], kvs, h => by
    simp only [TabR] at h
    subst h
    simp only [List.map_nil, TabR]
  | p :: t, kvs, h => by
    simp only [TabR] at h
    obtain ⟨w, r, rfl, h1, h2⟩ := h
    rw [List.map_cons, List.map_cons]
    simp only [TabR]
    by_cases e : p.1 = k
    · rw [if_pos e, if_pos e]
      exact ⟨v, _, rfl, rd, tab_repl rd h2⟩
    · rw [if_neg e, if_neg e]
      exact ⟨w, _, rfl, h1, tab_repl rd h2⟩
theorem tab_app {k : Key} {d : Da} {v : V} (rd : Rep K L H d v) : ∀ {t : Tab} {kvs : List (Key × V)}, TabR K L H t kvs → TabR K L H (t ++ [(k, d)]) (kvs ++ [(k, v)])
  | [], kvs, h => by
    simp only [TabR] at h
    subst h
    simp only [List.nil_append, TabR]
    exact ⟨v, [], rfl, rd, rfl⟩
  | p :: t, kvs, h => by
    simp only [TabR] at h
    obtain ⟨w, r, rfl, h1, h2⟩ := h
    rw [List.cons_append, List.cons_append]
    simp only [TabR]
    exact ⟨w, _, rfl, h1, tab_app rd h2⟩
theorem tab_put {k : Key} {d : Da} {v : V} {t : Tab} {kvs : List (Key × V)} (h : TabR K L H t kvs) (rd : Rep K L H d v) : TabR K L H (tPut t k d) (putK kvs k v) := by
  unfold tPut putK
  rw [tab_any h]
  split
  · exact tab_repl rd h
  · exact tab_app rd h
theorem tab_len : ∀ {t : Tab} {kvs : List (Key × V)}, TabR K L H t kvs → kvs.length = t.length
  | [], kvs, h => by
    simp only [TabR] at h
    subst h
    rfl
  | p :: t, kvs, h => by
    simp only [TabR] at h
    obtain ⟨w, r, rfl, h1, h2⟩ := h
    rw [List.length_cons, List.length_cons, tab_len h2]
end
def keyD : Da → Option Key
  | .int i => some (.inl i)
  | .str s => some (.inr s)
  | _ => none
theorem rep_key {K : PySem.W.Frag} {L : Addr → Prop} {H : Hp} {d : Da} {v : V} {k : Key} (e : keyD d = some k) (r : Rep K L H d v) : v = kV k := by
  cases d <;> simp [keyD] at e <;> subst e
  · exact rep_int.mp r
  · exact rep_str.mp r
/-- a dict as data, as a cell of our own -/
def dctD (t : Tab) : Da := .dct (t.map (·.1)) (t.map (·.2))
def odcC (t : Tab) : Ce := .odc (t.map (·.1)) (t.map (·.2))
theorem zip_tab (t : Tab) : (t.map (·.1)).zip (t.map (·.2)) = t := by
  induction t with
  | nil => rfl
  | cons p t ih => rw [List.map_cons, List.map_cons, List.zip_cons_cons, ih]
def lookDic (ρ : En) (i : Nat) : Option Tab := match ρ[i]? with
  | some (some (.odc ks ds)) => if ks.length = ds.length then some (ks.zip ds) else none
  | _ => none
theorem unzip_tab : ∀ {ks : List Key} {ds : List Da}, ks.length = ds.length → (ks.zip ds).map (·.1) = ks ∧ (ks.zip ds).map (·.2) = ds
  | [], [], _ => ⟨rfl, rfl⟩
  | [], _ :: _, h => by cases h
  | _ :: _, [], h => by cases h
  | k :: ks, d :: ds, h => by
    obtain ⟨a, b⟩ := unzip_tab (ks := ks) (ds := ds) (by simpa using h)
    rw [List.zip_cons_cons, List.map_cons, List.map_cons, a, b]
    exact ⟨rfl, rfl⟩
theorem of_lookDic {ρ : En} {i : Nat} {t : Tab} (h : lookDic ρ i = some t) : ρ[i]? = some (some (odcC t)) := by
  unfold lookDic at h
  split at h
  · rename_i ks ds e
    split at h
    · rename_i hl
      cases h
      obtain ⟨a, b⟩ := unzip_tab hl
      unfold odcC
      rw [a, b, e]
    · cases h
  · cases h
@[simp] theorem lookDic_odc {ρ : En} {i : Nat} {t : Tab} (h : ρ[i]? = some (some (odcC t))) : lookDic ρ i = some t := by
  unfold lookDic
  rw [h]
  unfold odcC
  dsimp only
  rw [if_pos (by rw [List.length_map, List.length_map]), zip_tab]
def asDct : Da → Option Tab
  | .dct ks ds => if ks.length = ds.length then some (ks.zip ds) else none
  | _ => none
theorem of_asDct {d : Da} {t : Tab} (h : asDct d = some t) : d = dctD t := by
  cases d <;> simp only [asDct] at h <;> first | cases h | skip
  split at h
  · rename_i hl
    cases h
    obtain ⟨a, b⟩ := unzip_tab hl
    unfold dctD
    rw [a, b]
  · cases h
@[simp] theorem asDct_dct (t : Tab) : asDct (dctD t) = some t := by
  unfold dctD asDct
  dsimp only
  rw [if_pos (by rw [List.length_map, List.length_map]), zip_tab]
section
variable {K : PySem.W.Frag} {G : Gc} {O : Addr → Option Tg} {σ σ' : L2.St} {ρ ρ' : En} {pe : Pend} {H H' : Hp} {v : V} {d : Da} {t u : Tab}
theorem rep_dct {L : Addr → Prop} : Rep K L H (dctD t) v ↔ ∃ a kvs, v = .ref a ∧ (H a = some (.dK kvs) ∧ L a) ∧ TabR K L H t kvs := by
  unfold dctD
  simp only [Rep]
  constructor
  · rintro ⟨a, kvs, e, h, k, r⟩
    exact ⟨a, kvs, e, h, tabR_iff.mpr ⟨k, r⟩⟩
  · rintro ⟨a, kvs, e, h, r⟩
    obtain ⟨k, r⟩ := tabR_iff.mp r
    exact ⟨a, kvs, e, h, k, r⟩
/-- a dict of our own -/
theorem odc_ok {tg : Tg} : CeOk K G O H tg v (odcC t) ↔ ∃ p kvs, v = .ref p ∧ O p = some tg ∧ H p = some (.dK kvs) ∧ TabR K (Lof G O) H t kvs ∧ ¬ G.P0 p := by
  unfold odcC
  simp only [CeOk]
  constructor
  · rintro ⟨p, kvs, e, o, h, k, r, n⟩
    exact ⟨p, kvs, e, o, h, tabR_iff.mpr ⟨k, r⟩, n⟩
  · rintro ⟨p, kvs, e, o, h, r, n⟩
    obtain ⟨k, r⟩ := tabR_iff.mp r
    exact ⟨p, kvs, e, o, h, k, r, n⟩
theorem TabR.mono {L L' : Addr → Prop} (k : Keep L H H') (l : ∀ b x, H b = some x → L b → L' b) {kvs : List (Key × V)} (h : TabR K L H t kvs) : TabR K L' H' t kvs := by
  obtain ⟨a, b⟩ := tabR_iff.mp h
  exact tabR_iff.mpr ⟨a, Reps.mono k l _ _ b⟩
/-- a new dict of our own, on top -/
theorem StO.pushDic {p : Addr} (S : StO K G O σ ρ pe H) (np : H p = none) : StO K G (own1 O p pe.length) σ ρ ((.ref p, odcC []) :: pe) (upd H p (.dK [])) :=
  S.pushNew np trivial (odc_ok.mpr ⟨p, [], rfl, own1_at, upd_same, rfl, StO.notP (o := .dK []) S np⟩)
/-- it is stored -/
theorem StO.storeDic (S : StO K G O σ ρ ((v, odcC t) :: pe) H) (i : Nat) : StO K G (ren O (.pend pe.length) (.slot i)) (σ.set i (some v)) (ρ.set i (some (odcC t))) pe H := by
  obtain ⟨p, kvs, e, ot, hp, r, np⟩ := odc_ok.mp S.pends.1
  have hk : Keep (Lof G O) H H := fun _ _ e _ => e
  have rn : ∀ {a}, O a = none → ren O (.pend pe.length) (.slot i) a = none := fun {a} h => by
    unfold ren
    rw [h, if_neg (by simp)]
    exact clr_none h
  have rk : ∀ {a u}, O a = some u → u ≠ .pend pe.length → u ≠ .slot i → ren O (.pend pe.length) (.slot i) a = some u := fun {a u} h n m => by
    unfold ren
    rw [h, if_neg (fun q => n (Option.some.inj q))]
    exact clr_ne h m
  have ro : ∀ {a u}, ren O (.pend pe.length) (.slot i) a = some u → ∃ t, O a = some t := fun {a u} h => by
    unfold ren at h
    by_cases q : O a = some (.pend pe.length)
    · exact ⟨_, q⟩
    · rw [if_neg q] at h
      exact ⟨_, (of_clr h).1⟩
  have hl : ∀ b x, H b = some x → Lof G O b → Lof G (ren O (.pend pe.length) (.slot i)) b := fun _ _ _ h => ⟨rn h.1, h.2⟩
  refine ⟨fun b x e n => ⟨(S.frame b x e n).1, rn (S.frame b x e n).2⟩, fun q t h => ?_, fun q hq => ⟨(S.pools q hq).1.mono hk hl rfl, (S.pools q hq).2⟩, by simp [S.len], fun j c h => ?_, ?_⟩
  · obtain ⟨t', h'⟩ := ro h
    exact S.own q t' h'
  · rcases getset h with ⟨e1, e2, hi⟩ | ⟨n, h⟩
    · subst e1
      cases e2
      exact ⟨v, List.getElem?_set_self (by have := S.len; omega), odc_ok.mpr ⟨p, kvs, e, by unfold ren; rw [if_pos ot], hp, r.mono hk hl, np⟩⟩
    · obtain ⟨w, h1, h2⟩ := S.slots j c h
      exact ⟨w, by rw [List.getElem?_set_ne n]; exact h1, h2.mono hk hl (fun q e => ⟨rfl, rk e (fun z => by cases z) (fun z => by cases z; exact n rfl)⟩)⟩
  · exact S.pends.2.mono hk hl (fun j hj q e => ⟨rfl, rk e (fun z => by cases z; omega) (fun z => by cases z)⟩)
/-- slot i's own dict as data -/
theorem StO.freezeDic {i : Nat} (S : StO K G O σ ρ pe H) (h : ρ[i]? = some (some (odcC t))) : StO K G (clr O (.slot i)) σ (ρ.set i (some (.dat (dctD t)))) pe H := by
  obtain ⟨v, hv, hc⟩ := S.slots i _ h
  obtain ⟨p, kvs, e, ot, hp, r, np⟩ := odc_ok.mp hc
  have hk : Keep (Lof G O) H H := fun _ _ e _ => e
  have hl : ∀ b x, H b = some x → Lof G O b → Lof G (clr O (.slot i)) b := fun _ _ _ h => lof_clr h
  have h0 : G.H0 p = none := by
    cases w : G.H0 p with
    | none => rfl
    | some x =>
      have := (S.frame p x w np).2
      rw [ot] at this
      cases this
  refine ⟨fun b x e n => ⟨(S.frame b x e n).1, clr_none (S.frame b x e n).2⟩, fun q t h => S.own q t (of_clr h).1, fun q hq => ⟨(S.pools q hq).1.mono hk hl rfl, (S.pools q hq).2⟩, by simp [S.len], fun j c h => ?_, ?_⟩
  · rcases getset h with ⟨e1, e2, _⟩ | ⟨n, h⟩
    · subst e1
      cases e2
      refine ⟨v, hv, ?_⟩
      show Rep K _ H (dctD t) v
      exact rep_dct.mpr ⟨p, kvs, e, ⟨hp, clr_same ot, .inr h0⟩, r.mono hk hl⟩
    · obtain ⟨w, h1, h2⟩ := S.slots j c h
      exact ⟨w, h1, h2.mono hk hl (fun q e => ⟨rfl, clr_ne e (fun z => by cases z; exact n rfl)⟩)⟩
  · exact S.pends.mono hk hl (fun j hj q e => ⟨rfl, clr_ne e (fun z => by cases z)⟩)
/-- slot i's own dict is changed -/
theorem StO.changeDic {i : Nat} {p : Addr} {kvs kvs' : List (Key × V)} (S : StO K G O σ ρ pe H) (h : ρ[i]? = some (some (odcC t))) (hv : σ[i]? = some (some (.ref p))) (hp : O p = some (.slot i))
    (r : TabR K (Lof G O) H u kvs') : StO K G O σ (ρ.set i (some (odcC u))) pe (upd H p (.dK kvs')) := by
  obtain ⟨v, hv', hc⟩ := S.slots i _ h
  obtain ⟨p', kvs0, e, ot, hp', r', np⟩ := odc_ok.mp hc
  rw [hv] at hv'
  cases hv'
  cases e
  have hk : Keep (Lof G O) H (upd H p (.dK kvs')) := fun b x e k => by
    rw [upd_ne]
    · exact e
    · rintro rfl
      rcases k with k | k
      · have k1 := k.1
        rw [hp] at k1
        cases k1
      · rw [hp'] at e
        cases e
        exact k trivial
  have hl : ∀ b x, H b = some x → Lof G O b → Lof G O b := fun _ _ _ h => h
  refine ⟨fun b x e n => ⟨?_, (S.frame b x e n).2⟩, fun q t h => ?_, fun q hq => ⟨(S.pools q hq).1.mono hk hl ?_, (S.pools q hq).2⟩, by simp [S.len], fun j c h => ?_, ?_⟩
  · rw [upd_ne]
    · exact (S.frame b x e n).1
    · rintro rfl
      rw [(S.frame b x e n).2] at hp
      cases hp
  · by_cases e : q = p
    · subst e
      exact ⟨_, upd_same, trivial⟩
    · rw [upd_ne e]
      exact S.own q t h
  · exact upd_ne (fun e => np (e ▸ hq))
  · rcases getset h with ⟨e1, e2, _⟩ | ⟨n, h⟩
    · subst e1
      cases e2
      exact ⟨_, hv, odc_ok.mpr ⟨p, kvs', rfl, hp, upd_same, r.mono hk hl, np⟩⟩
    · obtain ⟨w, h1, h2⟩ := S.slots j c h
      exact ⟨w, h1, h2.mono hk hl (fun q e => ⟨upd_ne (fun q' => by
        rw [q', hp] at e
        cases e
        exact n rfl), e⟩)⟩
  · exact S.pends.mono hk hl (fun j hj q e => ⟨upd_ne (fun q' => by
      rw [q', hp] at e
      cases e), e⟩)
/-- what stands in slot i -/
theorem dic_slot {i : Nat} (S : StO K G O σ ρ pe H) (h : (lookDic ρ i).isSome = true) : ∃ p, σ[i]? = some (some (.ref p)) := by
  obtain ⟨t, e⟩ := Option.isSome_iff_exists.mp h
  obtain ⟨v, hv, hc⟩ := S.slots i _ (of_lookDic e)
  obtain ⟨p, kvs, e, _⟩ := odc_ok.mp hc
  exact ⟨p, by rw [hv, e]⟩
theorem dic_at {i : Nat} {p : Addr} (S : StO K G O σ ρ pe H) (hv : σ[i]? = some (some (.ref p))) (h : lookDic ρ i = some t) : ∃ kvs, O p = some (.slot i) ∧ H p = some (.dK kvs) ∧ TabR K (Lof G O) H t kvs ∧ ¬ G.P0 p := by
  obtain ⟨v, hv', hc⟩ := S.slots i _ (of_lookDic h)
  obtain ⟨p', kvs, e, a, b, c, n⟩ := odc_ok.mp hc
  rw [hv] at hv'
  cases hv'
  cases e
  exact ⟨kvs, a, b, c, n⟩
end
end Pu
end

section
set_option maxHeartbeats 1000000
namespace Pu
open PySem PySem.Spec PyProof.Rows L2

/-! ### dicts: made, asked, changed -/
/-- x[k] of our own dict in slot i -/
def eDGet (i : Nat) (m : W Da) : W Da := W.env.bind fun ρ0 => (W.req ((lookDic ρ0 i).isSome = true)).bind fun _ => m.bind fun d => W.env.bind fun ρ => (W.opt (lookDic ρ i)).bind fun t => (W.opt (keyD d)).bind fun k => W.opt (tGet t k)
/-- k in x, k not in x -/
def eDIn (neg : Bool) (i : Nat) (m : W Da) : W Da := m.bind fun d => W.env.bind fun ρ => (W.opt (lookDic ρ i)).bind fun t => (W.opt (keyD d)).bind fun k => W.ret (.bl (xor neg (tGet t k).isSome))
/-- x.get(k) -/
def eDGet1 (i : Nat) (m : W Da) : W Da := W.env.bind fun ρ0 => (W.req ((lookDic ρ0 i).isSome = true)).bind fun _ => m.bind fun d => W.env.bind fun ρ => (W.opt (lookDic ρ i)).bind fun t => (W.opt (keyD d)).bind fun k => W.ret ((tGet t k).getD .non)
/-- the same of data -/
def dDGet : Da → Da → Option Da := fun a d => (asDct a).bind fun t => (keyD d).bind fun k => tGet t k
def dDIn (neg : Bool) : Da → Da → Option Da := fun d a => (asDct a).bind fun t => (keyD d).bind fun k => some (.bl (xor neg (tGet t k).isSome))
def dDGet1 : Da → Da → Option Da := fun a d => (asDct a).bind fun t => (keyD d).bind fun k => some ((tGet t k).getD .non)
def eDG1 (mo me : W Da) : W Da := mo.bind fun a => (W.req ((asDct a).isSome = true)).bind fun _ => me.bind fun d => W.opt (dDGet1 a d)
def sDNew (i : Nat) : Sx := ⟨fun ρ E => E.nx (ρ.set i (some (odcC []))), fun l h => l.nx _ h⟩
def sDPut (i : Nat) (mk mv : W Da) : Sx := ⟨fun ρ E => mv.wp ρ (fun w ρ1 => (lookDic ρ1 i).isSome = true ∧ mk.wp ρ1 (fun d ρ2 => ∃ t k, lookDic ρ2 i = some t ∧ keyD d = some k ∧ t.length < 16777216 ∧ E.nx (ρ2.set i (some (odcC (tPut t k w))))) E.ex) E.ex,
  fun l h => mv.mono (fun w ρ1 ⟨h0, q⟩ => ⟨h0, mk.mono (fun d ρ2 ⟨t, k, a, b, c, q⟩ => ⟨t, k, a, b, c, l.nx _ q⟩) l.ex q⟩) l.ex h⟩
def sFreezeD (i : Nat) (s : Sx) : Sx := ⟨fun ρ E => ∃ t, lookDic ρ i = some t ∧ s.wp (ρ.set i (some (.dat (dctD t)))) E, fun l ⟨t, e, h⟩ => ⟨t, e, s.mono l h⟩⟩
section
variable {ρ : En} {x : Ex → En → Prop} {k : Da → En → Prop} {kb : Bool → En → Prop} {E : Fl}
theorem w_dget {i : Nat} {m : W Da} (h0 : (lookDic ρ i).isSome = true) (h : m.wp ρ (fun d ρ1 => ∃ t, lookDic ρ1 i = some t ∧ ∃ q, keyD d = some q ∧ ∃ r, tGet t q = some r ∧ k r ρ1) x) : (eDGet i m).wp ρ k x :=
  ⟨h0, m.mono (fun d ρ1 ⟨t, e1, q, e2, r, e3, z⟩ => w_opt ⟨t, e1, w_opt ⟨q, e2, w_opt ⟨r, e3, z⟩⟩⟩) (fun _ _ z => z) h⟩
theorem w_din {neg : Bool} {i : Nat} {m : W Da} (h : m.wp ρ (fun d ρ1 => ∃ t, lookDic ρ1 i = some t ∧ ∃ q, keyD d = some q ∧ k (.bl (xor neg (tGet t q).isSome)) ρ1) x) : (eDIn neg i m).wp ρ k x :=
  m.mono (fun d ρ1 ⟨t, e1, q, e2, z⟩ => w_opt ⟨t, e1, w_opt ⟨q, e2, z⟩⟩) (fun _ _ z => z) h
theorem w_dget1 {i : Nat} {m : W Da} (h0 : (lookDic ρ i).isSome = true) (h : m.wp ρ (fun d ρ1 => ∃ t, lookDic ρ1 i = some t ∧ ∃ q, keyD d = some q ∧ k ((tGet t q).getD .non) ρ1) x) : (eDGet1 i m).wp ρ k x :=
  ⟨h0, m.mono (fun d ρ1 ⟨t, e1, q, e2, z⟩ => w_opt ⟨t, e1, w_opt ⟨q, e2, z⟩⟩) (fun _ _ z => z) h⟩
theorem w_dg1 {mo me : W Da} (h : mo.wp ρ (fun a ρ1 => (asDct a).isSome = true ∧ me.wp ρ1 (fun d ρ2 => ∃ r, dDGet1 a d = some r ∧ k r ρ2) x) x) : (eDG1 mo me).wp ρ k x :=
  mo.mono (fun a ρ1 ⟨h0, q⟩ => ⟨h0, me.mono (fun d ρ2 q => w_opt q) (fun _ _ z => z) q⟩) (fun _ _ z => z) h
theorem v_dnew {i : Nat} (h : E.nx (ρ.set i (some (odcC [])))) : (sDNew i).wp ρ E := h
theorem v_dput {i : Nat} {mk mv : W Da} (h : mv.wp ρ (fun w ρ1 => (lookDic ρ1 i).isSome = true ∧ mk.wp ρ1 (fun d ρ2 => ∃ t k, lookDic ρ2 i = some t ∧ keyD d = some k ∧ t.length < 16777216 ∧ E.nx (ρ2.set i (some (odcC (tPut t k w))))) E.ex) E.ex) : (sDPut i mk mv).wp ρ E := h
theorem v_freezeD {i : Nat} {s : Sx} (h : ∃ t, lookDic ρ i = some t ∧ s.wp (ρ.set i (some (.dat (dctD t)))) E) : (sFreezeD i s).wp ρ E := h
end
section
variable {X : Cx} {G : Gc} {x : Ex → En → Prop}
theorem p_dget {o e : Expr} {i : Nat} {pos : Pos} {m : W Da} (hu : X.A.units + 1 < cLine) (ho : PE X o (tVar i)) (he : PE X e (tp X.K G x m)) (hs : NoSl e) : PE X (.Subscript o e pos) (tp X.K G x (eDGet i m)) :=
  (pe_dget hu ho he hs).of fun σ H Q ⟨ρ, pe, ⟨O, S⟩, q0, q⟩ => by
    obtain ⟨p, hp⟩ := dic_slot S q0
    refine ⟨.ref p, hp, ρ, pe, ⟨O, S⟩, m.mono (fun d ρ1 q w H1 ⟨O1, S1⟩ => ?_) (fun _ _ z => z) q⟩
    obtain ⟨t, e1, q⟩ := W.opt_wp q
    obtain ⟨k, e2, q⟩ := W.opt_wp (o := keyD d) q
    obtain ⟨r, e3, q⟩ := W.opt_wp (o := tGet t k) q
    obtain ⟨kvs, op, hd, tr, np⟩ := dic_at S1 hp e1
    have ek := rep_key e2 S1.top
    rcases tab_val (k := k) tr with ⟨a, _⟩ | ⟨d', v, a, b, rd⟩
    · rw [a] at e3
      cases e3
    · rw [a] at e3
      cases e3
      refine ⟨p, v, rfl, ?_, q v H1 ⟨O1, S1.pop.pushD rd⟩⟩
      rw [ek, ← b]
      exact DGet.k hd
theorem tpDin {e : Expr} {neg : Bool} {i : Nat} {m : W Da} {σ : L2.St} {H : Hp} {Q : VK} (q : tp X.K G x (eDIn neg i m) σ H Q) : (if neg then tDNotIn (tp X.K G x m) (tVar i) else tDIn (tp X.K G x m) (tVar i)) σ H Q := by
  obtain ⟨ρ, pe, ⟨O, S⟩, q⟩ := q
  have main : tp X.K G x m σ H fun y H1 => tVar i σ H1 fun z H2 => ∃ a o, z = .ref a ∧ DGet H2 a y o ∧ Q (.bl (xor neg o.isSome)) H2 := by
    refine ⟨ρ, pe, ⟨O, S⟩, m.mono (fun d ρ1 q w H1 ⟨O1, S1⟩ => ?_) (fun _ _ z => z) q⟩
    obtain ⟨t, e1, q⟩ := W.opt_wp q
    obtain ⟨k, e2, q⟩ := W.opt_wp (o := keyD d) q
    obtain ⟨p, hp⟩ := dic_slot S1 (by rw [e1]; rfl)
    obtain ⟨kvs, op, hd, tr, np⟩ := dic_at S1 hp e1
    have ek := rep_key e2 S1.top
    refine ⟨.ref p, hp, p, valV kvs k, rfl, ?_, ?_⟩
    · rw [ek]
      exact DGet.k hd
    · have es : (valV kvs k).isSome = (tGet t k).isSome := by
        rcases tab_val (k := k) tr with ⟨a, b⟩ | ⟨d', v, a, b, _⟩
        · rw [a, b]
          rfl
        · rw [a, b]
          rfl
      rw [es]
      exact q _ H1 ⟨O1, S1.pop.pushD (rep_bl'.mpr rfl)⟩
  cases neg with
  | true => simpa [tDNotIn] using main
  | false => simpa [tDIn] using main
theorem p_din {o e : Expr} {i : Nat} {pos : Pos} {m : W Da} (hu : X.A.units + 1 < cLine) (ho : PE X o (tVar i)) (he : PE X e (tp X.K G x m)) (h1 : behindInMarks .In o = false) : PE X (.Compare e [.In] [o] pos) (tp X.K G x (eDIn false i m)) :=
  (pe_cmp (pc_din hu he ho) h1).of fun _ _ _ q => tpDin (e := e) (neg := false) q
theorem p_dnotin {o e : Expr} {i : Nat} {pos : Pos} {m : W Da} (hu : X.A.units + 1 < cLine) (ho : PE X o (tVar i)) (he : PE X e (tp X.K G x m)) (h1 : behindInMarks .NotIn o = false) : PE X (.Compare e [.NotIn] [o] pos) (tp X.K G x (eDIn true i m)) :=
  (pe_cmp (pc_dnotin hu he ho) h1).of fun _ _ _ q => tpDin (e := e) (neg := true) q
theorem t_din {o e : Expr} {i : Nat} {pos : Pos} {m : W Da} (hu : X.A.units + 1 < cLine) (ho : PE X o (tVar i)) (he : PE X e (tp X.K G x m)) (h1 : behindInMarks .In o = false) : PT X (.Compare e [.In] [o] pos) (ttt X.K G x (bV (eDIn false i m))) :=
  (pt_cmp (pc_din hu he ho) h1).of fun _ _ _ q => tpDin (e := e) (neg := false) (ttt_tB q)
theorem t_dnotin {o e : Expr} {i : Nat} {pos : Pos} {m : W Da} (hu : X.A.units + 1 < cLine) (ho : PE X o (tVar i)) (he : PE X e (tp X.K G x m)) (h1 : behindInMarks .NotIn o = false) : PT X (.Compare e [.NotIn] [o] pos) (ttt X.K G x (bV (eDIn true i m))) :=
  (pt_cmp (pc_dnotin hu he ho) h1).of fun _ _ _ q => tpDin (e := e) (neg := true) (ttt_tB q)
theorem p_dget1 {o e : Expr} {i : Nat} {apos cpos : Pos} {m : W Da} (hu : X.A.units + 1 < cLine) (ho : PE X o (tVar i)) (he : PE X e (tp X.K G x m)) (hm : M1 X o "get" apos e cpos) : PE X (.Call (.Attribute o "get" apos) [e] [] cpos) (tp X.K G x (eDGet1 i m)) :=
  (L2.pe_dget1 hu ho he hm).of fun σ H Q ⟨ρ, pe, ⟨O, S⟩, q0, q⟩ => by
    obtain ⟨p, hp⟩ := dic_slot S q0
    obtain ⟨t0, e0⟩ := Option.isSome_iff_exists.mp q0
    obtain ⟨kvs0, _, hd0, _, _⟩ := dic_at S hp e0
    refine ⟨.ref p, hp, p, rfl, .inl ⟨kvs0, .inl hd0⟩, ρ, pe, ⟨O, S⟩, m.mono (fun d ρ1 q w H1 ⟨O1, S1⟩ => ?_) (fun _ _ z => z) q⟩
    obtain ⟨t, e1, q⟩ := W.opt_wp q
    obtain ⟨k, e2, q⟩ := W.opt_wp (o := keyD d) q
    obtain ⟨kvs, op, hd, tr, np⟩ := dic_at S1 hp e1
    have ek := rep_key e2 S1.top
    have q : ∀ v H', Sd X.K G σ ρ1 ((v, Ce.dat ((tGet t k).getD .non)) :: pe) H' → Q v H' := q
    refine ⟨valV kvs k, by rw [ek]; exact DGet.k hd, ?_⟩
    rcases tab_val (k := k) tr with ⟨a, b⟩ | ⟨d', v, a, b, rd⟩
    · rw [a] at q
      rw [b]
      exact q _ H1 ⟨O1, S1.pop.pushD (rep_non.mpr rfl)⟩
    · rw [a] at q
      rw [b]
      exact q _ H1 ⟨O1, S1.pop.pushD rd⟩
/-! of data -/
theorem dct_at {L : Addr → Prop} {H : Hp} {a : Da} {t : Tab} {v : V} (e : asDct a = some t) (r : Rep X.K L H a v) : ∃ p kvs, v = .ref p ∧ H p = some (.dK kvs) ∧ TabR X.K L H t kvs := by
  rw [of_asDct e] at r
  obtain ⟨p, kvs, e, h, tr⟩ := rep_dct.mp r
  exact ⟨p, kvs, e, h.1, tr⟩
theorem p_ddget {o e : Expr} {pos : Pos} {mo me : W Da} (hu : X.A.units + 1 < cLine) (ho : PE X o (tp X.K G x mo)) (he : PE X e (tp X.K G x me)) (hs : NoSl e) : PE X (.Subscript o e pos) (tp X.K G x (eOp2 dDGet mo me)) :=
  (pe_dget hu ho he hs).of fun σ H Q ⟨ρ, pe, S, q⟩ => ⟨ρ, pe, S, mo.mono (fun a ρ1 q va H1 S1 => ⟨ρ1, _, S1, me.mono (fun d ρ2 q w H2 ⟨O2, S2⟩ => by
    obtain ⟨r, e0, q⟩ := W.opt_wp q
    unfold dDGet at e0
    simp only [Option.bind_eq_some_iff] at e0
    obtain ⟨t, e1, k, e2, e3⟩ := e0
    obtain ⟨p, kvs, ev, hd, tr⟩ := dct_at (X := X) e1 S2.pop.top
    have ek := rep_key e2 S2.top
    rcases tab_val (k := k) tr with ⟨a', _⟩ | ⟨d', v, a', b, rd⟩
    · rw [a'] at e3
      cases e3
    · rw [a'] at e3
      cases e3
      refine ⟨p, v, ev, ?_, q v H2 ⟨O2, S2.pop.pop.pushD rd⟩⟩
      rw [ek, ← b]
      exact DGet.k hd) (fun _ _ z => z) q⟩) (fun _ _ z => z) q⟩
theorem tpDDin {neg : Bool} {md ma : W Da} {σ : L2.St} {H : Hp} {Q : VK} (q : tp X.K G x (eOp2 (dDIn neg) md ma) σ H Q) : tp X.K G x md σ H fun y H1 => tp X.K G x ma σ H1 fun z H2 => ∃ a o, z = .ref a ∧ DGet H2 a y o ∧ Q (.bl (xor neg o.isSome)) H2 := by
  obtain ⟨ρ, pe, S, q⟩ := q
  refine ⟨ρ, pe, S, md.mono (fun d ρ1 q w H1 S1 => ⟨ρ1, _, S1, ma.mono (fun a ρ2 q va H2 ⟨O2, S2⟩ => ?_) (fun _ _ z => z) q⟩) (fun _ _ z => z) q⟩
  obtain ⟨r, e0, q⟩ := W.opt_wp q
  unfold dDIn at e0
  simp only [Option.bind_eq_some_iff] at e0
  obtain ⟨t, e1, k, e2, e3⟩ := e0
  cases e3
  obtain ⟨p, kvs, ev, hd, tr⟩ := dct_at (X := X) e1 S2.top
  have ek := rep_key e2 S2.pop.top
  refine ⟨p, valV kvs k, ev, by rw [ek]; exact DGet.k hd, ?_⟩
  have es : (valV kvs k).isSome = (tGet t k).isSome := by
    rcases tab_val (k := k) tr with ⟨a, b⟩ | ⟨d', v, a, b, _⟩
    · rw [a, b]
      rfl
    · rw [a, b]
      rfl
  rw [es]
  exact q _ H2 ⟨O2, S2.pop.pop.pushD (rep_bl'.mpr rfl)⟩
theorem tpDDinF {md ma : W Da} {σ : L2.St} {H : Hp} {Q : VK} (q : tp X.K G x (eOp2 (dDIn false) md ma) σ H Q) : tDIn (tp X.K G x md) (tp X.K G x ma) σ H Q := by simpa [tDIn] using tpDDin q
theorem tpDDinT {md ma : W Da} {σ : L2.St} {H : Hp} {Q : VK} (q : tp X.K G x (eOp2 (dDIn true) md ma) σ H Q) : tDNotIn (tp X.K G x md) (tp X.K G x ma) σ H Q := by simpa [tDNotIn] using tpDDin q
theorem p_ddin {o e : Expr} {pos : Pos} {mo me : W Da} (hu : X.A.units + 1 < cLine) (he : PE X e (tp X.K G x me)) (ho : PE X o (tp X.K G x mo)) (h1 : behindInMarks .In o = false) : PE X (.Compare e [.In] [o] pos) (tp X.K G x (eOp2 (dDIn false) me mo)) :=
  (pe_cmp (pc_din hu he ho) h1).of fun _ _ _ q => tpDDinF q
theorem p_ddnotin {o e : Expr} {pos : Pos} {mo me : W Da} (hu : X.A.units + 1 < cLine) (he : PE X e (tp X.K G x me)) (ho : PE X o (tp X.K G x mo)) (h1 : behindInMarks .NotIn o = false) : PE X (.Compare e [.NotIn] [o] pos) (tp X.K G x (eOp2 (dDIn true) me mo)) :=
  (pe_cmp (pc_dnotin hu he ho) h1).of fun _ _ _ q => tpDDinT q
theorem t_ddin {o e : Expr} {pos : Pos} {mo me : W Da} (hu : X.A.units + 1 < cLine) (he : PE X e (tp X.K G x me)) (ho : PE X o (tp X.K G x mo)) (h1 : behindInMarks .In o = false) : PT X (.Compare e [.In] [o] pos) (ttt X.K G x (bV (eOp2 (dDIn false) me mo))) :=
  (pt_cmp (pc_din hu he ho) h1).of fun _ _ _ q => tpDDinF (ttt_tB q)
theorem t_ddnotin {o e : Expr} {pos : Pos} {mo me : W Da} (hu : X.A.units + 1 < cLine) (he : PE X e (tp X.K G x me)) (ho : PE X o (tp X.K G x mo)) (h1 : behindInMarks .NotIn o = false) : PT X (.Compare e [.NotIn] [o] pos) (ttt X.K G x (bV (eOp2 (dDIn true) me mo))) :=
  (pt_cmp (pc_dnotin hu he ho) h1).of fun _ _ _ q => tpDDinT (ttt_tB q)
theorem p_ddget1 {o e : Expr} {apos cpos : Pos} {mo me : W Da} (hu : X.A.units + 1 < cLine) (ho : PE X o (tp X.K G x mo)) (he : PE X e (tp X.K G x me)) (hm : M1 X o "get" apos e cpos) : PE X (.Call (.Attribute o "get" apos) [e] [] cpos) (tp X.K G x (eDG1 mo me)) :=
  (L2.pe_dget1 hu ho he hm).of fun σ H Q ⟨ρ, pe, S, q⟩ => ⟨ρ, pe, S, mo.mono (fun a ρ1 ⟨h0, q⟩ va H1 S1 => by
    obtain ⟨t, e1⟩ := Option.isSome_iff_exists.mp h0
    obtain ⟨O1, S1⟩ := S1
    obtain ⟨p, kvs, ev, hd0, tr⟩ := dct_at (X := X) e1 S1.top
    refine ⟨p, ev, .inl ⟨kvs, .inl hd0⟩, ρ1, _, ⟨O1, S1⟩, me.mono (fun d ρ2 q w H2 ⟨O2, S2⟩ => ?_) (fun _ _ z => z) q⟩
    obtain ⟨r, e0, q⟩ := W.opt_wp q
    unfold dDGet1 at e0
    simp only [Option.bind_eq_some_iff] at e0
    obtain ⟨t', e1', k, e2, e3⟩ := e0
    rw [e1] at e1'
    cases e1'
    cases e3
    obtain ⟨p', kvs', ev', hd', tr'⟩ := dct_at (X := X) e1 S2.pop.top
    rw [ev] at ev'
    cases ev'
    have ek := rep_key e2 S2.top
    refine ⟨valV kvs' k, by rw [ek]; exact DGet.k hd', ?_⟩
    rcases tab_val (k := k) tr' with ⟨a, b⟩ | ⟨d', v, a, b, rd⟩
    · rw [a] at q
      rw [b]
      exact q _ H2 ⟨O2, S2.pop.pop.pushD (rep_non.mpr rfl)⟩
    · rw [a] at q
      rw [b]
      exact q _ H2 ⟨O2, S2.pop.pop.pushD rd⟩) (fun _ _ z => z) q⟩
/-! statements -/
theorem s_dnew {i : Nat} {n : Str} {dpos pos pos' : Pos} (hN : X.N.Nodup) (hi : X.N[i]? = some n) (hx : Loc X.env.scope n) (hs : swapsWith (.Dict [] [] dpos) (some (.Name n pos')) pos.line X.env = pure false := by rfl)
    (hf : X.fn n = true ∨ X.env.scope.names.lookup n = some .local := by first | exact .inl rfl | exact .inr rfl | assumption) : PS X (.Assign [.Name n pos'] (.Dict [] [] dpos) pos) (ts X.K G x (sDNew i)) :=
  (ps_set hN hi hx pe_dnewK hs hf).of fun D σ H ⟨ρ, pe, ⟨O, S⟩, q⟩ p np => q _ _ ⟨_, (S.pushDic np).storeDic i⟩
theorem s_dput {o e value : Expr} {i : Nat} {pos pos' : Pos} {mk mv : W Da} (hu : X.A.units + 1 < cLine) (ho : PE X o (tVar i)) (he : PE X e (tp X.K G x mk)) (hv : PE X value (tp X.K G x mv)) (hs : swapsWith value (some (.Subscript o e pos')) pos.line X.env = pure false) :
    PS X (.Assign [.Subscript o e pos'] value pos) (ts X.K G x (sDPut i mk mv)) :=
  (ps_dput hu ho he hv hs).of fun D σ H ⟨ρ, pe, S, q⟩ => ⟨ρ, pe, S, mv.mono (fun w ρ1 ⟨q0, q⟩ v H1 ⟨O1, S1⟩ => by
    obtain ⟨p, hp⟩ := dic_slot S1 q0
    refine ⟨.ref p, hp, ρ1, _, ⟨O1, S1⟩, mk.mono (fun d ρ2 ⟨t, k, e1, e2, hl, q⟩ y H2 ⟨O2, S2⟩ => ?_) (fun _ _ z => z) q⟩
    obtain ⟨kvs, op, hd, tr, np⟩ := dic_at S2 hp e1
    have ek := rep_key e2 S2.top
    refine ⟨p, upd H2 p (.dK (putK kvs k v)), rfl, by rw [ek]; exact DPut.k hd (by rw [tab_len tr, line_eq]; exact hl), ?_⟩
    exact q σ _ ⟨O2, S2.pop.pop.changeDic (kvs := kvs) (of_lookDic e1) hp op (tab_put tr S2.pop.top)⟩) (fun _ _ z => z) q⟩
theorem ss_freezeD {st : List Stmt} {a : Sx} (i : Nat) (h : PSs X st (ts X.K G x a)) : PSs X st (ts X.K G x (sFreezeD i a)) := h.of fun D σ H ⟨ρ, pe, ⟨O, S⟩, t, e, q⟩ => ⟨_, pe, ⟨_, S.freezeDic (of_lookDic e)⟩, q⟩
end
end Pu
end
local macro_rules | `(tactic| walk_at "w1") => `(tactic| with_reducible refine Pu.w_dget (by with_unfolding_all rfl) ?_)
local macro_rules | `(tactic| walk_at "w1") => `(tactic| with_reducible refine Pu.w_dget1 (by with_unfolding_all rfl) ?_)
local macro_rules | `(tactic| walk_at "w1") => `(tactic| with_reducible refine Pu.w_dg1 ?_)
local macro_rules | `(tactic| walk_at "w1") => `(tactic| with_reducible refine Pu.w_din ?_)
local macro_rules | `(tactic| walk_at "w1") => `(tactic| with_reducible refine Pu.v_dnew ?_)
local macro_rules | `(tactic| walk_at "w1") => `(tactic| with_reducible refine Pu.v_dput ?_)
local macro_rules | `(tactic| walk_at "w1") => `(tactic| with_reducible refine Pu.v_freezeD ?_)

section
set_option maxHeartbeats 1000000
namespace Pu
open PySem PySem.Spec PyProof.Rows L2

/-! ### the last of our own list is taken off -/
def ePop (i : Nat) : W Da := ⟨fun ρ k x => ∃ ds d, lookOwn ρ i = some (ds ++ [d]) ∧ k d (ρ.set i (some (.own ds))), fun hk hx ⟨ds, d, e, h⟩ => ⟨ds, d, e, hk _ _ h⟩⟩
theorem reps_snoc {K : PySem.W.Frag} {L : Addr → Prop} {H : Hp} {d : Da} : ∀ {ds : List Da} {vs : List V}, Reps K L H (ds ++ [d]) vs → ∃ us v, vs = us ++ [v] ∧ Reps K L H ds us ∧ Rep K L H d v
  | [], vs, h => by
    simp only [List.nil_append, Reps] at h
    obtain ⟨v, ys, rfl, r, rfl⟩ := h
    exact ⟨[], v, rfl, rfl, r⟩
  | e :: ds, vs, h => by
    simp only [List.cons_append, Reps] at h
    obtain ⟨v, ys, rfl, r, rs⟩ := h
    obtain ⟨us, w, rfl, a, b⟩ := reps_snoc rs
    refine ⟨v :: us, w, rfl, ?_, b⟩
    simp only [Reps]
    exact ⟨v, us, rfl, r, a⟩
section
variable {X : Cx} {G : Gc} {x : Ex → En → Prop}
theorem p_pop {o : Expr} {i : Nat} {apos cpos : Pos} (ho : PE X o (tVar i)) (hbase : attributeBase o "pop" X.env (eval o X.env) = eval o X.env := by rfl) (hline : (apos.endLine == cpos.line) = true := by rfl) :
    PE X (.Call (.Attribute o "pop" apos) [] [] cpos) (tp X.K G x (ePop i)) :=
  (pe_bm0 PySem.F.plainAttrs_list PySem.F.slot_list_pop PySem.F.type_list_pop mt_pop ho hbase hline).of fun σ H Q ⟨ρ, pe, ⟨O, S⟩, ds, d, e0, q⟩ => by
    obtain ⟨v, hv, p, xs, ev, op, hp, hz, rs, np⟩ := S.slots i _ (of_lookOwn e0)
    subst ev
    obtain ⟨us, w, rfl, r1, r2⟩ := reps_snoc rs
    refine ⟨_, hv, .inl ⟨rfl, _, .of hp⟩, p, us ++ [w], w, rfl, rfl, hp, by simp, ?_⟩
    rw [List.dropLast_concat]
    have hl : ds.length ≤ sizeLine := by
      rw [List.length_append, List.length_singleton] at hz
      omega
    have S2 := S.change (xs := us ++ [w]) (of_lookOwn e0) hv op hl r1
    refine q w _ ⟨O, S2.pushD ?_⟩
    refine Rep.mono (L := Lof G O) (L' := Lof G O) (fun b y e k => ?_) (fun _ _ _ z => z) _ _ r2
    rw [upd_ne]
    · exact e
    · rintro rfl
      rcases k with k | k
      · have k1 := k.1
        rw [op] at k1
        cases k1
      · rw [hp] at e
        cases e
        exact k trivial
theorem w_pop {i : Nat} {ρ : En} {k : Da → En → Prop} (h : ∃ ds d, lookOwn ρ i = some (ds ++ [d]) ∧ k d (ρ.set i (some (.own ds)))) : (ePop i).wp ρ k x := h
end
end Pu
end
local macro_rules | `(tactic| walk_at "w1") => `(tactic| with_reducible refine Pu.w_pop ?_)

section
set_option maxHeartbeats 1000000
namespace Pu
open PySem PySem.Spec PyProof.Rows L2

/-! ### list(range(..)), tuple(range(..)) -/
theorem reps_rg {K : PySem.W.Frag} {L : Addr → Prop} {H : Hp} (a : Int) : ∀ l : List Nat, Reps K L H (l.map fun i : Nat => Da.int (a + (i : Int))) (l.map fun i : Nat => V.int (a + (i : Int)))
  | [] => rfl
  | i :: l => by
    rw [List.map_cons, List.map_cons]
    simp only [Reps]
    exact ⟨_, _, rfl, rep_int.mpr rfl, reps_rg a l⟩
def eTupOf (m : W (List Da)) : W Da := m.bind fun ds => W.ret (.tup ds)
theorem w_tupOf {m : W (List Da)} {ρ : En} {k : Da → En → Prop} {x : Ex → En → Prop} (h : m.wp ρ (fun ds ρ1 => k (.tup ds) ρ1) x) : (eTupOf m).wp ρ k x := h
section
variable {X : Cx} {G : Gc} {x : Ex → En → Prop}
theorem p_listRg1 {a : Expr} {m : W Da} {p p2 pos pos2 : Pos} (hc : X.calm = true) (hg : Gl X "list") (hm : X.mg "list" = none) (hg2 : Gl X "range") (hm2 : X.mg "range" = none) (ha : PE X a (tp X.K G x m))
    (na : starEach [a] X.env = (false, eval a X.env) :: starEach [] X.env := by rfl)
    (nb : starEach [.Call (.Name "range" p2) [a] [] pos2] X.env = (false, eval (.Call (.Name "range" p2) [a] [] pos2) X.env) :: starEach [] X.env := by rfl) :
    PE X (.Call (.Name "list" p) [.Call (.Name "range" p2) [a] [] pos2] [] pos) (tow X.K G x (iRange1 m)) :=
  (pe_listRg hc hg hm (prg_1 hg2 hm2 ha na) nb).of fun σ H Q ⟨ρ, pe, S, q⟩ => ⟨ρ, pe, S, m.mono (fun d ρ1 q v H1 ⟨O, S1⟩ => by
    obtain ⟨j, e, q⟩ := W.opt_wp (o := asI d) q
    have e' := of_asI e
    subst e'
    obtain ⟨⟨h1, h2⟩, q⟩ := q
    have r := rep_int.mp S1.top
    refine ⟨j, r, ⟨by omega, by omega, by omega, by omega, by omega⟩, fun l nl => ?_⟩
    have er : (j - 0).toNat = j.toNat := by omega
    refine q _ _ ⟨_, S1.pop.pushOwn nl ?_ ?_⟩
    · unfold rangeD
      rw [List.length_map, List.length_range, line_eq]
      omega
    · unfold rangeD rgV
      rw [er]
      exact reps_rg 0 _) (fun _ _ z => z) q⟩
theorem p_listRg2 {a b : Expr} {ma mb : W Da} {p p2 pos pos2 : Pos} (hc : X.calm = true) (hg : Gl X "list") (hm : X.mg "list" = none) (hg2 : Gl X "range") (hm2 : X.mg "range" = none) (ha : PE X a (tp X.K G x ma)) (hb : PE X b (tp X.K G x mb))
    (na : starEach [a, b] X.env = (false, eval a X.env) :: starEach [b] X.env := by rfl) (nb : starEach [b] X.env = (false, eval b X.env) :: starEach [] X.env := by rfl) (hp : (backTo pos2 (starEach [b] X.env)).any (·.1) = false := by rfl)
    (nc : starEach [.Call (.Name "range" p2) [a, b] [] pos2] X.env = (false, eval (.Call (.Name "range" p2) [a, b] [] pos2) X.env) :: starEach [] X.env := by rfl) :
    PE X (.Call (.Name "list" p) [.Call (.Name "range" p2) [a, b] [] pos2] [] pos) (tow X.K G x (iRange2 ma mb)) :=
  (pe_listRg hc hg hm (prg_2 hg2 hm2 ha hb na nb hp) nc).of fun σ H Q ⟨ρ, pe, S, q⟩ => ⟨ρ, pe, S, ma.mono (fun d ρ1 q v H1 S1 => by
    obtain ⟨i, e, q⟩ := W.opt_wp (o := asI d) q
    have e' := of_asI e
    subst e'
    refine ⟨ρ1, _, S1, mb.mono (fun d2 ρ2 q w H2 ⟨O, S2⟩ => ?_) (fun _ _ z => z) q⟩
    obtain ⟨j, e, q⟩ := W.opt_wp (o := asI d2) q
    have e' := of_asI e
    subst e'
    obtain ⟨⟨⟨h1, h2⟩, h3, h4⟩, q⟩ := q
    have r1 := rep_int.mp S2.pop.top
    have r2 := rep_int.mp S2.top
    refine ⟨i, j, r1, r2, ⟨by omega, by omega, by omega, by omega, by omega⟩, fun l nl => ?_⟩
    refine q _ _ ⟨_, S2.pop.pop.pushOwn nl ?_ (reps_rg i _)⟩
    unfold rangeD
    rw [List.length_map, List.length_range, line_eq]
    omega) (fun _ _ z => z) q⟩
theorem p_tupRg2 {a b : Expr} {ma mb : W Da} {p p2 pos pos2 : Pos} (hc : X.calm = true) (hg : Gl X "tuple") (hm : X.mg "tuple" = none) (hg2 : Gl X "range") (hm2 : X.mg "range" = none) (ha : PE X a (tp X.K G x ma)) (hb : PE X b (tp X.K G x mb))
    (na : starEach [a, b] X.env = (false, eval a X.env) :: starEach [b] X.env := by rfl) (nb : starEach [b] X.env = (false, eval b X.env) :: starEach [] X.env := by rfl) (hp : (backTo pos2 (starEach [b] X.env)).any (·.1) = false := by rfl)
    (nc : starEach [.Call (.Name "range" p2) [a, b] [] pos2] X.env = (false, eval (.Call (.Name "range" p2) [a, b] [] pos2) X.env) :: starEach [] X.env := by rfl) :
    PE X (.Call (.Name "tuple" p) [.Call (.Name "range" p2) [a, b] [] pos2] [] pos) (tp X.K G x (eTupOf (iRange2 ma mb))) :=
  (pe_tupRg hc hg hm (prg_2 hg2 hm2 ha hb na nb hp) nc).of fun σ H Q ⟨ρ, pe, S, q⟩ => ⟨ρ, pe, S, ma.mono (fun d ρ1 q v H1 S1 => by
    obtain ⟨i, e, q⟩ := W.opt_wp (o := asI d) q
    have e' := of_asI e
    subst e'
    refine ⟨ρ1, _, S1, mb.mono (fun d2 ρ2 q w H2 ⟨O, S2⟩ => ?_) (fun _ _ z => z) q⟩
    obtain ⟨j, e, q⟩ := W.opt_wp (o := asI d2) q
    have e' := of_asI e
    subst e'
    obtain ⟨⟨⟨h1, h2⟩, h3, h4⟩, q⟩ := q
    have r1 := rep_int.mp S2.pop.top
    have r2 := rep_int.mp S2.top
    refine ⟨i, j, r1, r2, ⟨by omega, by omega, by omega, by omega, by omega⟩, fun l nl => ?_⟩
    refine q _ _ ⟨_, S2.pop.pop.result (keep_upd nl) (rep_newT nl ?_ (reps_rg i _))⟩
    unfold rangeD
    rw [List.length_map, List.length_range, line_eq]
    omega) (fun _ _ z => z) q⟩
end
end Pu
end
local macro_rules | `(tactic| walk_at "w1") => `(tactic| with_reducible refine Pu.w_tupOf ?_)

section
set_option maxHeartbeats 1000000
namespace Us
open PySem PySem.Spec PyProof.Rows L2 PySem.W
/-- sorted(xs), xs a list of tuples of ints and truth values -/
def rSortedL (β : Type) (K : PySem.W.Frag) : List V → Hp → VK → Prop := fun vs H Q => ∃ (a : Addr) (bs : List β) (g : β → Addr × Ky) (e : β → PyData), vs = [V.ref a] ∧ SqL K H a (bs.map fun b => V.ref (g b).1) ∧
  (∀ b ∈ bs, ∃ xs, SqT K H (g b).1 xs ∧ Flat xs (g b).2 ∧ e b = enc xs ∧ xs ≠ []) ∧ AllAlike (bs.map e) ∧ bs.length ≤ 1000 ∧
  ∀ l : Addr, H l = none → Q (.ref l) (upd H l (.lst ((bs.mergeSort (dataLe false e)).map fun b => V.ref (g b).1)))
theorem refs_are {β : Type} (g : β → Addr × Ky) : ∀ {bs : List β} {us : List Value}, Vals (bs.map fun b => V.ref (g b).1) us → us = bs.map fun b => Value.ref (g b).1
  | [], us, h => by
    cases h
    rfl
  | b :: bs, us, h => by
    cases h with
    | cons h1 h2 =>
      rw [List.map_cons, ← refs_are g h2]
      cases h1
      rfl
variable {X : Cx}
theorem cr_sortedL {β : Type} (hu : X.A.units + 8 < cLine) : CallR X (.builtin "sorted") (rSortedL β X.K) := by
  intro pins s σ H vs us Q I r h
  obtain ⟨a, bs, g, en, rfl, hs, hm, hal, hlen, q⟩ := h
  obtain ⟨its, rv, hl, hz⟩ := I.list hs
  rw [Vals.ref1 r]
  have ei := refs_are g rv
  subst ei
  refine Calls.call_function_entry kind_sorted plain_sorted entry_sorted (args_sorted1 _) ?_
  unfold Builtin.«sorted»
  refine wpAny_bind (m := checkCount "sorted" 1 1 _) (wpAny_pure ?_)
  refine wpAny_bind (collect_list hl.isList ?_ (by rw [List.length_map, sizeLine_eq]; omega))
  have k0 : ∀ b o, s.heap.get? b = some o → ((s.heap.push (seqObj "list" #[] 0)).update s.heap.objs.size (Obj.mapSeq (· ++ (bs.map fun b => Value.ref (g b).1).toArray))).get? b = some o := fun b o e => by
    rw [Heap.get?_update_ne _ _ _ _ (Nat.ne_of_lt (Heap.lt_size e))]
    exact Heap.get?_push_of_some _ e
  have z0 : s.heap.objs.size ≤ ((s.heap.push (seqObj "list" #[] 0)).update s.heap.objs.size (Obj.mapSeq (· ++ (bs.map fun b => Value.ref (g b).1).toArray))).objs.size := by
    rw [Heap.size_update, size_push']
    exact Nat.le_succ _
  generalize ((s.heap.push (seqObj "list" #[] 0)).update s.heap.objs.size (Obj.mapSeq (· ++ (bs.map fun b => Value.ref (g b).1).toArray))) = h1 at k0 z0
  refine wpAny_bind (wpAny_newList ?_ (by rw [List.length_map, sizeLine_eq]; omega))
  have oL : (h1.push (seqObj "list" (bs.map fun b => Value.ref (g b).1).toArray 0)).get? h1.objs.size = some (seqObj "list" (bs.map fun b => Value.ref (g b).1).toArray 0) := Heap.get?_push_size _ rfl
  have rd : EachIs (fun v (p : β) => ∃ as, Reads (h1.push (seqObj "list" (bs.map fun b => Value.ref (g b).1).toArray 0)) v (en p) as ∧ h1.objs.size ∉ as) (bs.map fun b => Value.ref (g b).1) bs :=
    each_all (each_self (fun p : β => Value.ref (g p).1) bs) fun v p hp e => by
      obtain ⟨ys, y1, y2, y3, _⟩ := hm p hp
      refine ⟨[], ?_, fun z => nomatch z⟩
      rw [e, y3]
      exact PyProof.Rows.Reads.keeps (fun b o z => Heap.get?_push_of_some _ (k0 b o z)) (reads_of I y1 y2)
  have so : Sortable (bs.map en) := .inl fun d hd => by
    obtain ⟨p, hp, e⟩ := List.mem_map.mp hd
    obtain ⟨ys, _, _, y3, y4⟩ := hm p hp
    cases ys with
    | nil => exact absurd rfl y4
    | cons x r => exact ⟨venc x, r.map venc, by rw [← e, y3] <;> rfl⟩
  refine wpAny_bind (wpAny_holding (list_sort_data (s := { s with heap := h1.push (seqObj "list" (bs.map fun b => Value.ref (g b).1).toArray 0) }) (R := fun v (p : β) => v = Value.ref (g p).1) oL (each_self _ bs) rd hal so (by rw [sizeLine_eq]; omega) (fun p hp => ?_) fun out ol eo => ?_))
  · obtain ⟨ys, _, _, y3, _⟩ := hm p hp
    have z := depth_enc ys
    rw [← y3] at z
    show X.A.units + 1 + 1 + _ < _
    omega
  · rw [each_eq eo]
    obtain ⟨c, hcg⟩ := sortedHeap_at (vs := bs.map fun b => Value.ref (g b).1) (out := ((bs.mergeSort (dataLe false en)).map fun b => Value.ref (g b).1).toArray) oL
    have hn : H h1.objs.size = none := I.hok.fresh z0
    have ml : (bs.mergeSort (dataLe false en)).length = bs.length := by rw [List.length_mergeSort]
    refine wpAny_pure ⟨_, rfl, .ref h1.objs.size, upd H h1.objs.size (.lst ((bs.mergeSort (dataLe false en)).map fun b => V.ref (g b).1)), ?_, rfl, q _ hn⟩
    refine I.laid (t' := s.toks) (fun b u e => ?_) z0 ⟨by rw [List.length_map, ml, sizeLine_eq]; omega, (bs.mergeSort (dataLe false en)).map fun b => Value.ref (g b).1, c, by simpa using vals_refs g _, hcg⟩
    have e2 := k0 b u e
    have lt := Heap.lt_size e2
    rw [sortedHeap_old (Nat.ne_of_lt lt) (by rw [size_push']; exact Nat.lt_succ_of_lt lt)]
    exact Heap.get?_push_of_some _ e2
end Us
end

section
set_option maxHeartbeats 3200000
/-! set(xs) of a list of ints, told as sorted() wants it -/
namespace L2
open PySem PySem.Spec PyProof.Rows
/-- the set object before anything is in it -/
abbrev nob (w : World) : Obj := { cls := .type "set", dict := none, data := .set #[] 0 (.fresh 0 0 (!w.params.followText "set-order")) }
section
variable {P : Program} {w : World} {A : Around} {E : Value → Shared → Prop} {s : Shared}
theorem setL_nums {its : Array Value} {ns : List Int} (hit : IntsAre its.toList ns) : its.size = ns.length ∧ ∀ (i : Nat) (v : Value), its[i]? = some v → ∃ k t, ns[i]? = some k ∧ v = .int k t := by
  have hz : its.size = ns.length := by simpa using IntsAre.length hit
  refine ⟨hz, fun i v hv => ?_⟩
  obtain ⟨lt, _⟩ := Array.getElem?_eq_some_iff.mp hv
  rw [hz] at lt
  obtain ⟨t, e⟩ := IntsAre.int_at hit i v (by rw [Array.getElem?_toList]; exact hv)
  have g : ns[i]? = some ns[i] := List.getElem?_eq_getElem lt
  refine ⟨ns[i], t, g, ?_⟩
  rw [e, List.getD_eq_getElem?_getD, g]
  rfl
/-- what the set's own __init__ leaves -/
def SetEnd (w : World) (ns : List Int) (h : Heap) (p : Addr) (h' : Heap) : Prop := ∃ c, SetR w h' p (fun j => decide (j ∈ ns)) c ∧ c ≤ ns.length ∧ ∀ b o, h.get? b = some o → h'.get? b = some o
theorem call_setL {l : Addr} {its : Array Value} (ns : List Int) {Q : Value → Shared → Prop} (hh : A.handled = none) (hl : s.heap.IsList l its) (hit : IntsAre its.toList ns) (hb : ns.length + 1 < scanBound)
    (h : ∀ (h' : Heap) (tk : Nat), SetEnd w ns s.heap s.heap.objs.size h' → Q (.ref s.heap.objs.size) { s with heap := h', toks := tk }) : wpAny (model P w) A (call (.type "set") [.ref l]) Q E s := by
  obtain ⟨hz, hval⟩ := setL_nums hit
  obtain ⟨c, tl, hmro⟩ := F.called_set.mro
  have m1 := F.called_set.made
  have m2 := F.called_set.sub
  have m3 := F.called_set.notType
  have m4 := F.called_set.canCreate
  have m5 := F.typeCall_set_1 (.ref l)
  refine wpAny_call (codeAny_of_tree ?_)
  show wpAny _ _ (callAny (.type "set") _) _ _ _
  refine wpAny_pure ⟨Code.quiet_builtin _ (by decide +kernel), codeAny_builtin F.entry_type_call ?_⟩
  rw [Around.under_plain (weight_type_call_type "set" [.ref l] []) rfl]
  repeat (any_goals (first | assumption | wp_step))
  refine codeAny_mono (code_set_led1 (.ref l) (E := E) (Q₁ := fun obj s₁ => obj = .ref s.heap.objs.size ∧ s₁ = { s with heap := s.heap.push (nob w) }) ⟨rfl, rfl⟩) fun r s₁ hr => ?_
  cases r with
  | error e => exact hr
  | ok fl =>
    cases fl with
    | ret obj =>
      obtain ⟨rfl, rfl⟩ := hr
      have hS : (s.heap.push (nob w)).get? s.heap.objs.size = some (nob w) := Heap.get?_push_size _ rfl
      have hT : Shared.TypeIs { s with heap := s.heap.push (nob w) } (.ref s.heap.objs.size) "set" := ⟨_, hS, rfl⟩
      have i1 := F.called_set.init.lookup
      have i2 := F.called_set.init.bind (.ref s.heap.objs.size)
      repeat (any_goals (first | assumption | wp_step))
      have big : (s.heap.push (nob w)).objs.size = s.heap.objs.size + 1 := Heap.size_push ..
      refine codeAny_mono (codeAny_call_builtin (R := wants (fun r s₂ => r = .none ∧ ∃ h' tk, s₂ = { s with heap := h', toks := tk } ∧ SetEnd w ns s.heap s.heap.objs.size h') E) F.called_set.init.plain F.entry_set_init (check_set_init_1 hT ?_)) fun r₂ s₂ hr₂ => ?_
      · obtain ⟨⟨lc, ld, lx, ls⟩, hol, hcl, nl, hdl⟩ := hl
        simp only at hcl hdl
        subst hcl hdl
        have hol' : (s.heap.push (nob w)).get? l = some { cls := .type "list", dict := ld, data := .seq its nl, slots := ls } := Heap.get?_push_of_some _ hol
        have q1 := F.sub_list_set
        have q2 := F.sub_list_frozenset
        have q3 : (Value.type "list" == Value.type "dict") = false := by decide
        have hl1 : (s.heap.push (nob w)).IsList l its := ⟨_, hol', rfl, nl, rfl⟩
        unfold Builtin.«set.__init__» noKeywords Builtin.Frozenset.updateFrom
        generalize hPI : pyIter = PI
        wp_walk
        subst hPI
        refine wpAny_pyIter_list hl1 ?_
        refine wpAny_bind (wpAny_runValue ?_)
        have lo : l < s.heap.objs.size := Heap.lt_size hol
        have noI : l ≠ (s.heap.push (nob w)).objs.size := fun e => by
          have e2 : l = s.heap.objs.size + 1 := e.trans big
          exact absurd lo (by rw [e2]; exact Nat.not_lt.mpr (Nat.le_succ _))
        have noS : s.heap.objs.size ∉ [(s.heap.push (nob w)).objs.size, l] := fun hm => by
          rcases List.mem_cons.mp hm with z | z
          · exact Nat.ne_of_lt (Nat.lt_succ_self _) (z.trans big)
          · exact Nat.ne_of_gt lo (List.mem_singleton.mp z)
        have hh3 : A.in1.in1.in1.handled = none := by simp [hh]
        refine set_update_ints ((Walks.list hh3 _ l noI its).toS) s.heap.objs.size noS ns hz hb hval (its.size - 0) 0 _ (by omega) (Nat.zero_le _) ⟨⟨_, Heap.get?_push_size _ rfl, rfl, rfl⟩, (hl1.push _)⟩ ?hS0 ?hR
        case hS0 => exact ⟨0, Nat.le_refl 0, setR_new_at (Heap.get?_push_of_some _ hS)⟩
        case hR =>
          rintro ⟨h', g2, d', tk', os'⟩ c' hm hc' hS'
          cases (show g2 = s.gens from hm.gens)
          cases (show d' = s.drawn from hm.drawn)
          cases (show os' = s.os from hm.os)
          refine wpAny_pure (wpAny_pure ⟨rfl, h', tk', rfl, c', hS', by omega, fun b o e => ?_⟩)
          have b0 : b < s.heap.objs.size := Heap.lt_size e
          refine hm.heap b o ?_ (Heap.get?_push_of_some _ (Heap.get?_push_of_some _ e))
          have n1 : b ≠ (s.heap.push (nob w)).objs.size := fun z => Nat.ne_of_lt (Nat.lt_succ_of_lt b0) (z.trans big)
          have n2 : b ≠ s.heap.objs.size := Nat.ne_of_lt b0
          intro hmem
          rcases List.mem_cons.mp hmem with z | z
          · exact n2 z
          · exact n1 (List.mem_singleton.mp z)
      · cases r₂ with
        | error e => exact hr₂
        | ok fl₂ =>
          cases fl₂ with
          | ret r =>
            obtain ⟨rfl, h', tk, rfl, hE⟩ := hr₂
            repeat (any_goals (first | assumption | wp_step))
            exact h _ _ hE
          | _ => exact hr₂.elim
    | _ => exact hr.elim
end
/-- set(xs) as a rule -/
def rSetL' (K : PySem.W.Frag) (w : World) : List V → Hp → VK → Prop := fun xs H Q => ∃ (l : Addr) (ns : List Int), xs = [V.ref l] ∧ SqL K H l (ns.map V.int) ∧ ns.length ≤ 1000 ∧ ∀ a c, H a = none → c ≤ ns.length → Q (.ref a) (upd H a (SetO w a (fun j => decide (j ∈ ns)) c))
theorem cr_setL {X : Cx} (hc : X.calm = true) : CallR X (.type "set") (rSetL' X.K X.w) := by
  intro pins s σ H xs us Q I r h
  obtain ⟨l, ns, rfl, hl, few, q⟩ := h
  rw [Vals.ref1 r]
  obtain ⟨its, rv, pl, _⟩ := I.list hl
  have fr : H s.heap.objs.size = none := I.hok.fresh (Nat.le_refl _)
  refine call_setL (P := X.prog) (w := X.w) ns (I.ok.hd hc) pl.isList (by simpa using rv.ints) (by unfold scanBound; omega) fun h' tk ⟨c, R, hc', kp⟩ => ?_
  exact ⟨.ref s.heap.objs.size, _, I.laid (t' := tk) kp (Nat.le_refl _) (setO_new R), rfl, q _ c fr hc'⟩
end L2
end

section
set_option maxHeartbeats 1000000
namespace Pu
open PySem PySem.Spec PyProof.Rows L2 PySem.W Us

/-! ### k in xs, xs a list of our own -/
def eOwnIn (neg : Bool) (i : Nat) (m : W Da) : W Da := m.bind fun d => W.env.bind fun ρ => (W.opt (lookOwn ρ i)).bind fun ds => (W.opt (dIn neg d (.lst ds))).bind fun r => (W.opt (asB r)).bind fun b => W.ret (.bl b)
theorem w_ownIn {neg : Bool} {i : Nat} {m : W Da} {ρ : En} {k : Da → En → Prop} {x : Ex → En → Prop} (h : m.wp ρ (fun d ρ1 => ∃ ds, lookOwn ρ1 i = some ds ∧ ∃ r, dIn neg d (.lst ds) = some r ∧ ∃ b, asB r = some b ∧ k (.bl b) ρ1) x) : (eOwnIn neg i m).wp ρ k x :=
  m.mono (fun d ρ1 ⟨ds, e1, r, e2, b, e3, q⟩ => w_opt ⟨ds, e1, w_opt ⟨r, e2, w_opt ⟨b, e3, q⟩⟩⟩) (fun _ _ z => z) h
section
variable {X : Cx} {G : Gc} {x : Ex → En → Prop}
theorem tpOwnIn {neg : Bool} {i : Nat} {m : W Da} {σ : L2.St} {H : Hp} {Q : VK} (q : tp X.K G x (eOwnIn neg i m) σ H Q) : tOp (rInA X.K neg) (tp X.K G x m) (tVar i) σ H Q := by
  obtain ⟨ρ, pe, S, q⟩ := q
  refine ⟨ρ, pe, S, m.mono (fun d ρ1 q w H1 ⟨O1, S1⟩ => ?_) (fun _ _ z => z) q⟩
  obtain ⟨ds, e1, q⟩ := W.opt_wp q
  obtain ⟨r', e2, q⟩ := W.opt_wp (o := dIn neg d (.lst ds)) q
  obtain ⟨b, e3, q⟩ := W.opt_wp (o := asB r') q
  have e3 := of_asB e3
  subst e3
  obtain ⟨p, hp⟩ := own_slot S1 (by rw [e1]; rfl)
  obtain ⟨xs, op, hl, z, rs, np⟩ := own_at S1 hp e1
  refine ⟨.ref p, hp, ?_⟩
  refine f_in (fun _ => True) H1 _ _ _ w (.ref p) Q (Rep.mono (fun _ _ e _ => e) (fun _ _ _ _ => trivial) _ _ S1.top) (rep_lst.mpr ⟨p, xs, rfl, ⟨hl, trivial⟩, z, Reps.mono (fun _ _ e _ => e) (fun _ _ _ _ => trivial) _ _ rs⟩) e2 fun v' H' k rr => ?_
  have := rep_bl'.mp rr
  exact q v' H' ⟨O1, S1.pop.result k (rep_bl'.mpr this)⟩
theorem p_ownIn {o e : Expr} {i : Nat} {pos : Pos} {m : W Da} (hu : X.A.units + 65 < cLine) (ho : PE X o (tVar i)) (he : PE X e (tp X.K G x m)) (hm : behindInMarks .In o = false) : PE X (.Compare e [.In] [o] pos) (tp X.K G x (eOwnIn false i m)) :=
  (pe_cmpR (o_in hu) he ho hm).of fun _ _ _ q => tpOwnIn q
theorem p_ownNotIn {o e : Expr} {i : Nat} {pos : Pos} {m : W Da} (hu : X.A.units + 65 < cLine) (ho : PE X o (tVar i)) (he : PE X e (tp X.K G x m)) (hm : behindInMarks .NotIn o = false) : PE X (.Compare e [.NotIn] [o] pos) (tp X.K G x (eOwnIn true i m)) :=
  (pe_cmpR (o_notin hu) he ho hm).of fun _ _ _ q => tpOwnIn q
theorem t_ownIn {o e : Expr} {i : Nat} {pos : Pos} {m : W Da} (hu : X.A.units + 65 < cLine) (ho : PE X o (tVar i)) (he : PE X e (tp X.K G x m)) (hm : behindInMarks .In o = false) : PT X (.Compare e [.In] [o] pos) (ttt X.K G x (bV (eOwnIn false i m))) :=
  (pt_cmpR (o_in hu) he ho hm).of fun _ _ _ q => tpOwnIn (ttt_tB q)
theorem t_ownNotIn {o e : Expr} {i : Nat} {pos : Pos} {m : W Da} (hu : X.A.units + 65 < cLine) (ho : PE X o (tVar i)) (he : PE X e (tp X.K G x m)) (hm : behindInMarks .NotIn o = false) : PT X (.Compare e [.NotIn] [o] pos) (ttt X.K G x (bV (eOwnIn true i m))) :=
  (pt_cmpR (o_notin hu) he ho hm).of fun _ _ _ q => tpOwnIn (ttt_tB q)
end
/-! ### sorted(xs), xs a new list of tuples; sorted(set(xs)), ints -/
def eSortL (m : W (List Da)) : W (List Da) := m.bind fun ds => ⟨fun ρ k x => alikeD ds ∧ ds.length ≤ 1000 ∧ (∀ d ∈ ds, (Da.key d).isSome = true) ∧ k (sortD ds) ρ, fun hk hx h => ⟨h.1, h.2.1, h.2.2.1, hk _ _ h.2.2.2⟩⟩
theorem w_sortL {m : W (List Da)} {ρ : En} {kl : List Da → En → Prop} {x : Ex → En → Prop} (h : m.wp ρ (fun ds ρ1 => alikeD ds ∧ ds.length ≤ 1000 ∧ (∀ d ∈ ds, (Da.key d).isSome = true) ∧ kl (sortD ds) ρ1) x) : (eSortL m).wp ρ kl x := h
theorem key_list {K : PySem.W.Frag} {L : Addr → Prop} {H : Hp} : ∀ {ds : List Da} {vs : List V}, (∀ d ∈ ds, (Da.key d).isSome = true) → Reps K L H ds vs →
    ∃ bs : List (Addr × List Int × Da), vs = bs.map (fun b => V.ref b.1) ∧ ds = bs.map (·.2.2) ∧ ∀ b ∈ bs, Da.key b.2.2 = some b.2.1 ∧ Rep K L H b.2.2 (.ref b.1)
  | [], vs, _, r => ⟨[], by simpa [Reps] using r, rfl, fun _ h => nomatch h⟩
  | d :: ds, vs, h, r => by
    simp only [Reps] at r
    obtain ⟨v, ws, rfl, r1, r2⟩ := r
    obtain ⟨k, hk⟩ := Option.isSome_iff_exists.mp (h d List.mem_cons_self)
    obtain ⟨a, _, rfl, _⟩ := key_rep hk r1
    obtain ⟨bs, e1, e2, hb⟩ := key_list (fun c hc => h c (List.mem_cons_of_mem _ hc)) r2
    refine ⟨(a, k, d) :: bs, by rw [List.map_cons, ← e1], by rw [List.map_cons, ← e2], fun b hp => ?_⟩
    rcases List.mem_cons.mp hp with z | z
    · rw [z]; exact ⟨hk, r1⟩
    · exact hb b z
def asInts : Da → Option (List Int)
  | .lst ds => intL ds
  | _ => none
def eSortI (m : W Da) : W (List Da) := m.bind fun d => (W.opt (asInts d)).bind fun ns => ⟨fun ρ k x => ns.length < 64 ∧ ∀ out : List Int, out.Pairwise (· < ·) → (∀ y, y ∈ out ↔ y ∈ ns) → k (out.map Da.int) ρ, fun hk hx h => ⟨h.1, fun o a b => hk _ _ (h.2 o a b)⟩⟩
theorem w_sortI {m : W Da} {ρ : En} {kl : List Da → En → Prop} {x : Ex → En → Prop} (h : m.wp ρ (fun d ρ1 => ∃ ns, asInts d = some ns ∧ ns.length < 64 ∧ ∀ out : List Int, out.Pairwise (· < ·) → (∀ y, y ∈ out ↔ y ∈ ns) → kl (out.map Da.int) ρ1) x) : (eSortI m).wp ρ kl x := m.mono (fun d ρ1 q => w_opt q) (fun _ _ z => z) h
theorem reps_ints {K : PySem.W.Frag} {L : Addr → Prop} {H : Hp} : ∀ ns : List Int, Reps K L H (ns.map Da.int) (ns.map V.int)
  | [] => rfl
  | n :: ns => by
    simp only [List.map_cons, Reps]
    exact ⟨_, _, rfl, rep_int.mpr rfl, reps_ints ns⟩
section
variable {X : Cx} {G : Gc} {x : Ex → En → Prop}
theorem p_sortL {e : Expr} {p pos : Pos} {m : W (List Da)} (hu : X.A.units + 8 < cLine) (hg : Gl X "sorted") (hm : X.mg "sorted" = none) (he : PE X e (tow X.K G x m))
    (hs : starEach [e] X.env = (false, eval e X.env) :: starEach [] X.env := by rfl) : PE X (.Call (.Name "sorted" p) [e] [] pos) (tow X.K G x (eSortL m)) :=
  (pe_callB (cr_sortedL (β := Addr × List Int × Da) hu) hg hm rfl (pa_cons he pa_nil hs) (by decide) (by decide) hs).of fun σ H Q ⟨ρ, pe, S, q⟩ => by
  refine ⟨ρ, pe, S, m.mono (fun ds ρ1 q v H1 S1 => ?_) (fun _ _ z => z) q⟩
  obtain ⟨hal, h1000, hkey, q⟩ := q
  obtain ⟨O, S1⟩ := S1
  obtain ⟨p, xs, ep, op, hp, z, rs, np⟩ := S1.pends.1
  subst ep
  obtain ⟨bs, e1, e2, hb⟩ := key_list hkey rs
  refine ⟨p, bs, fun b => (b.1, b.2.1), fun b => b.2.2.py, rfl, .inl (.inl (by rw [hp, e1])), fun b hb' => ?_, ?_, by rw [e2, List.length_map] at h1000; exact h1000, fun l nl => ?_⟩
  · obtain ⟨h1, h2⟩ := hb b hb'
    obtain ⟨a, xs', ea, s1, s2, s3, s4⟩ := key_rep h1 h2
    cases ea
    exact ⟨xs', s1, s2, s3, s4⟩
  · intro d hd d' hd'
    obtain ⟨b, hb1, rfl⟩ := List.mem_map.mp hd
    obtain ⟨b', hb2, rfl⟩ := List.mem_map.mp hd'
    exact hal _ (by rw [e2]; exact List.mem_map.mpr ⟨b, hb1, rfl⟩) _ (by rw [e2]; exact List.mem_map.mpr ⟨b', hb2, rfl⟩)
  · have eq : sortD ds = (bs.mergeSort (dataLe false fun b => b.2.2.py)).map (·.2.2) := by
      rw [e2]
      exact ms_map (f := fun b : Addr × List Int × Da => b.2.2) (le := dataLe false Da.py) bs
    rw [eq] at q
    refine q _ _ ⟨_, S1.pop.pushOwn (p := l) nl ?_ ?_⟩
    · rw [List.length_map, List.length_mergeSort, line_eq]
      rw [e2, List.length_map] at h1000
      omega
    · exact reps_of _ _ fun b hb' => (hb b (List.mem_mergeSort.mp hb')).2
theorem p_sortSet {e : Expr} {p p2 pos pos2 : Pos} {m : W Da} (hc : X.calm = true) (hg : Gl X "sorted") (hm : X.mg "sorted" = none) (hg2 : Gl X "set") (hm2 : X.mg "set" = none) (he : PE X e (tp X.K G x m))
    (hs : starEach [.Call (.Name "set" p2) [e] [] pos2] X.env = (false, eval (.Call (.Name "set" p2) [e] [] pos2) X.env) :: starEach [] X.env := by rfl) (hs2 : starEach [e] X.env = (false, eval e X.env) :: starEach [] X.env := by rfl) :
    PE X (.Call (.Name "sorted" p) [.Call (.Name "set" p2) [e] [] pos2] [] pos) (tow X.K G x (eSortI m)) :=
  (pe_callB (cr_sortedSet hc) hg hm rfl (pa_cons (pe_callTy (cr_setL hc) hg2 hm2 rfl (pa_cons he pa_nil hs2) (by decide) (by decide) hs2) pa_nil hs) (by decide) (by decide) hs).of fun σ H Q ⟨ρ, pe, S, q⟩ => by
  refine ⟨ρ, pe, S, m.mono (fun d ρ1 q v H1 S1 => ?_) (fun _ _ z => z) q⟩
  obtain ⟨ns, e1, q2⟩ := W.opt_wp (o := asInts d) q
  obtain ⟨h64, q3⟩ := q2
  obtain ⟨O, S1⟩ := S1
  unfold asInts at e1
  split at e1
  · rename_i ds
    obtain ⟨a, xs, rfl, hl, z, rs⟩ := rep_lst.mp S1.top
    have ev := intL_rep e1 rs
    subst ev
    refine ⟨a, ns, rfl, .inl (.inl hl.1), by omega, fun a2 c n2 hc' => ?_⟩
    refine ⟨a2, _, c, rfl, upd_same, by omega, fun out l h1 h2 h3 nl => ?_⟩
    refine q3 out h1 (fun y => by rw [h2]; simp) _ _ ⟨_, (S1.pop.alloc n2).pushOwn nl ?_ (reps_ints out)⟩
    rw [List.length_map, h3, line_eq]
    omega
  · cases e1
end
end Pu
end
local macro_rules | `(tactic| walk_at "w1") => `(tactic| with_reducible refine Pu.w_ownIn ?_)
local macro_rules | `(tactic| walk_at "w1") => `(tactic| with_reducible refine Pu.w_sortL ?_)
local macro_rules | `(tactic| walk_at "w1") => `(tactic| with_reducible refine Pu.w_sortI ?_)

section
set_option maxHeartbeats 4000000
namespace K04
open PySem PySem.Spec PyProof.Rows L2 Pu
def topS (i : Nat) : Stmt := PySem.Challenge.pw_coresprice_k04_whole_clauses_that_follow.main.body.getD i (.Pass ⟨0, 0, 0, 0⟩)
/-- a class's statement -/
def clsS : Stmt → Nat → Stmt
  | .ClassDef _ _ _ body _ _ _ _ _ _ _, j => body.getD j (.Pass ⟨0, 0, 0, 0⟩)
  | s, _ => s
theorem units_of {A : Around} {k n : Nat} (hr : Room k A) (h : n ≤ 200) : A.units + n < cLine := by
  have := hr.un
  omega

abbrev s_follows : Stmt := topS 1
abbrev N_follows : List Str := [(PySem.Str.ofString "clauses"), (PySem.Str.ofString "clause"), (PySem.Str.ofString "hints"), (PySem.Str.ofString "known"), (PySem.Str.ofString "literal"), (PySem.Str.ofString "turn"), (PySem.Str.ofString "hint"), (PySem.Str.ofString "left")]
theorem sc_follows : FnScope N_follows [(PySem.Str.ofString "clauses"), (PySem.Str.ofString "clause"), (PySem.Str.ofString "hints")] (defScope s_follows) := ⟨rfl, rfl, rfl, by decide +kernel, rfl, by decide +kernel, by decide +kernel⟩
def S_follows  : Sx := sSeq (sDNew 3) (sSeq (sFor (iSeq (eVar 1)) (.name 4) (sDPut 3 (eOp2 dSub (eC (.int 0)) (eVar 4)) (eC (.bl true)))) (sForget 4 (sSeq (sFor (iEnumT (eVar 2)) (.tup [.name 5, .name 6]) (sSeq (sIf (bNot (bV (eChain dLe dLt (eC (.int 0)) (eVar 6) (eOpN dLen (eCons (eVar 0) (eNil)))))) (sRet (eC (.bl false))) (sPass)) (sSeq (sSet 7 (eFrz (eLC [4] (iSeq (eIdx (eVar 0) (eVar 6))) (.name 4) (bV (eDIn true 3 (eOp2 dSub (eC (.int 0)) (eVar 4)))) (eVar 4)))) (sSeq (sIf (bNot (bT (eVar 7))) (sRet (eOp2 dEq (eVar 5) (eOp2 dSub (eOpN dLen (eCons (eVar 2) (eNil))) (eC (.int 1))))) (sPass)) (sSeq (sIf (bOr (bV (eOp2 dGt (eOpN dLen (eCons (eVar 7) (eNil))) (eC (.int 1)))) (bV (eDIn false 3 (eIdx (eVar 7) (eC (.int 0)))))) (sRet (eC (.bl false))) (sPass)) (sDPut 3 (eIdx (eVar 7) (eC (.int 0))) (eC (.bl true)))))))) (sRet (eC (.bl false))))))
theorem ok_follows {P : Program} {w : World} {K : PySem.W.Frag} {mg : Str → Option Value} {base : Heap} {a0 : Addr} {d0 : FuncData}  {F : Fn} (Fu : Fun K (PySem.Str.ofString "follows") (PySem.Str.ofString "follows") s_follows a0 d0) (m_enumerate : mg (PySem.Str.ofString "enumerate") = none) (m_len : mg (PySem.Str.ofString "len") = none) (hw : Keeps 3 N_follows.length F (S_follows )) : FnOk P w K mg base (L2.CX P w) (0 + 1) a0 d0 [(PySem.Str.ofString "clauses"), (PySem.Str.ofString "clause"), (PySem.Str.ofString "hints")] (spD K mg 3 F) :=
  okD Fu sc_follows rfl (fun cdv A outer s H E G xw hr xo => have nd := sc_follows.nd; (ss_cons (s_dnew (i := 3) nd rfl (by first | exact .inl rfl | exact .inr rfl)) (ss_cons (s_for (passes_of rfl) rfl (i_seq (p_var 1 (pv 1))) (g_name 4 (pg_name (i := 4) nd rfl (by first | exact .inl rfl | exact .inr rfl))) (ss_one (s_dput (units_of hr (by decide)) (pv 3) (p_op op_sub f_sub p_int (p_var 4 (pv 4))) p_bl (by rfl)))) (ss_forget 4 (ss_cons (s_for (passes_of rfl) rfl (i_enumT (by rfl) m_enumerate (p_var 2 (pv 2))) (g_tup rfl (gs_cons (g_name 5 (pg_name (i := 5) nd rfl (by first | exact .inl rfl | exact .inr rfl))) (gs_cons (g_name 6 (pg_name (i := 6) nd rfl (by first | exact .inl rfl | exact .inr rfl))) gs_nil))) (ss_cons (s_if (t_not (t_chain op_le f_le op_lt f_lt p_int (p_var 6 (pv 6)) (p_callB c_len f_len (by rfl) m_len rfl (pa_cons' (p_var 0 (pv 0)) pa_nil')))) (ss_one (s_ret p_bl)) ss_nil) (ss_cons (s_setLc (i := 7) rfl nd rfl rfl (sw_true rfl rfl rfl (by decide +kernel)) (i_seq (p_idx (p_var 0 (pv 0)) (p_var 6 (pv 6)))) (blkOk_by (own := [((PySem.Str.ofString "literal"), 4)]) (N := N_follows) (sc := defScope (s_follows)) (by decide +kernel)) (fun _ _ _ _ _ => (g_name 4 (pg_name (i := 4) nd rfl (by first | exact .inl rfl | exact .inr rfl)))) (fun _ _ _ _ _ => (ts_one (t_dnotin (units_of hr (by decide)) (pv 3) (p_op op_sub f_sub p_int (p_var 4 (pv 4))) (by first | exact nomark _ | rfl)))) (fun _ _ _ _ _ => (p_var 4 (pv 4))) (by decide)) (ss_cons (s_if (t_not (t_truth (p_var 7 (pv 7)))) (ss_one (s_ret (p_cmp (op_eqD (units_of hr (by decide))) f_eq (p_var 5 (pv 5)) (p_op op_sub f_sub (p_callB c_len f_len (by rfl) m_len rfl (pa_cons' (p_var 2 (pv 2)) pa_nil')) p_int) (by first | exact nomark _ | rfl)))) ss_nil) (ss_cons (s_if (PW.pt (t_or (t_cmp op_gt f_gt (p_callB c_len f_len (by rfl) m_len rfl (pa_cons' (p_var 7 (pv 7)) pa_nil')) p_int (by first | exact nomark _ | rfl)) (t_or1 (t_din (units_of hr (by decide)) (pv 3) (p_idx (p_var 7 (pv 7)) p_int) (by first | exact nomark _ | rfl))))) (ss_one (s_ret p_bl)) ss_nil) (ss_one (s_dput (units_of hr (by decide)) (pv 3) (p_idx (p_var 7 (pv 7)) p_int) p_bl (by rfl)))))))) (ss_one (s_ret p_bl))))))) hw
abbrev s__pruned : Stmt := topS 3
abbrev N__pruned : List Str := [(PySem.Str.ofString "clauses"), (PySem.Str.ofString "known"), (PySem.Str.ofString "used"), (PySem.Str.ofString "last"), (PySem.Str.ofString "wanted"), (PySem.Str.ofString "left"), (PySem.Str.ofString "literal"), (PySem.Str.ofString "at"), (PySem.Str.ofString "other")]
theorem sc__pruned : FnScope N__pruned [(PySem.Str.ofString "clauses"), (PySem.Str.ofString "known"), (PySem.Str.ofString "used"), (PySem.Str.ofString "last")] (defScope s__pruned) := ⟨rfl, rfl, rfl, by decide +kernel, rfl, by decide +kernel, by decide +kernel⟩
def S__pruned  : Sx := sSeq (sDNew 4) (sSeq (sOwn 5 (eLC [6] (iSeq (eIdx (eVar 0) (eVar 3))) (.name 6) bYes (eOp2 dSub (eC (.int 0)) (eVar 6)))) (sSeq (sWhile (bOwn 5) (sSeq (sSet 6 (ePop 5)) (sSeq (sSet 7 (eDG1 (eVar 1) (eVar 6))) (sIf (bAnd (bV (eDIn true 4 (eVar 6))) (bV (eOp2 dNotN (eVar 7) (eC .non)))) (sSeq (sDPut 4 (eVar 6) (eC (.bl true))) (sExtend 5 (eFrz (eLC [8] (iSeq (eIdx (eVar 0) (eVar 7))) (.name 8) (bV (eOp2 dNe (eVar 8) (eVar 6))) (eOp2 dSub (eC (.int 0)) (eVar 8)))))) (sPass))))) (sForget 6 (sForget 7 (sRet (eOpN dTuple (eCons (eOp2 dAdd (eFrz (eLC [6, 7] (iSeq (eVar 2)) (.tup [.name 6, .name 7]) (bV (eDIn false 4 (eVar 6))) (eVar 7))) (eFrz (eDisp (eCons (eVar 3) (eNil))))) (eNil))))))))
theorem ok__pruned {P : Program} {w : World} {K : PySem.W.Frag} {mg : Str → Option Value} {base : Heap} {a0 : Addr} {d0 : FuncData}  {F : Fn} (Fu : Fun K (PySem.Str.ofString "_pruned") (PySem.Str.ofString "_pruned") s__pruned a0 d0) (m_tuple : mg (PySem.Str.ofString "tuple") = none) (hw : Keeps 4 N__pruned.length F (S__pruned )) : FnOk P w K mg base (L2.CX P w) (0 + 1) a0 d0 [(PySem.Str.ofString "clauses"), (PySem.Str.ofString "known"), (PySem.Str.ofString "used"), (PySem.Str.ofString "last")] (spD K mg 4 F) :=
  okD Fu sc__pruned rfl (fun cdv A outer s H E G xw hr xo => have nd := sc__pruned.nd; (ss_cons (s_dnew (i := 4) nd rfl (by first | exact .inl rfl | exact .inr rfl)) (ss_cons (s_ownLc (i := 5) rfl nd rfl rfl (sw_true rfl rfl rfl (by decide +kernel)) (i_seq (p_idx (p_var 0 (pv 0)) (p_var 3 (pv 3)))) (blkOk_by (own := [((PySem.Str.ofString "literal"), 6)]) (N := N__pruned) (sc := defScope (s__pruned)) (by decide +kernel)) (fun _ _ _ _ _ => (g_name 6 (pg_name (i := 6) nd rfl (by first | exact .inl rfl | exact .inr rfl)))) (fun _ _ _ _ _ => ts_nil) (fun _ _ _ _ _ => (p_op op_sub f_sub p_int (p_var 6 (pv 6)))) (by decide)) (ss_cons (s_while (passes_of rfl) (t_own (pv 5)) (ss_cons (s_set (i := 6) nd rfl (by first | exact .inl rfl | exact .inr rfl) (p_pop (pv 5))) (ss_cons (s_set (i := 7) nd rfl (by first | exact .inl rfl | exact .inr rfl) (p_ddget1 (units_of hr (by decide)) (p_var 1 (pv 1)) (p_var 6 (pv 6)) ⟨rfl, rfl, rfl, rfl⟩)) (ss_one (s_if (PW.pt (t_and (t_dnotin (units_of hr (by decide)) (pv 4) (p_var 6 (pv 6)) (by first | exact nomark _ | rfl)) (t_and1 (t_cmp op_notN f_notN (p_var 7 (pv 7)) p_non (by first | exact nomark _ | rfl))))) (ss_cons (s_dput (units_of hr (by decide)) (pv 4) (p_var 6 (pv 6)) p_bl (by rfl)) (ss_one (s_extend (pv 5) (p_frz (p_lc rfl nd (i_seq (p_idx (p_var 0 (pv 0)) (p_var 7 (pv 7)))) (blkOk_by (own := [((PySem.Str.ofString "other"), 8)]) (N := N__pruned) (sc := defScope (s__pruned)) (by decide +kernel)) (fun _ _ _ _ _ => (g_name 8 (pg_name (i := 8) nd rfl (by first | exact .inl rfl | exact .inr rfl)))) (fun _ _ _ _ _ => (ts_one (t_cmp (op_neD (units_of hr (by decide))) f_ne (p_var 8 (pv 8)) (p_var 6 (pv 6)) (by first | exact nomark _ | rfl)))) (fun _ _ _ _ _ => (p_op op_sub f_sub p_int (p_var 8 (pv 8)))) (by decide)))))) ss_nil))))) (ss_forget 6 (ss_forget 7 (ss_one (s_ret (p_callTy call_tuple_of f_tuple (by rfl) m_tuple rfl (pa_cons' (p_op o_add f_add (p_frz (p_lc rfl nd (i_seq (p_var 2 (pv 2))) (blkOk_by (own := [((PySem.Str.ofString "literal"), 6), ((PySem.Str.ofString "at"), 7)]) (N := N__pruned) (sc := defScope (s__pruned)) (by decide +kernel)) (fun _ _ _ _ _ => (g_tup rfl (gs_cons (g_name 6 (pg_name (i := 6) nd rfl (by first | exact .inl rfl | exact .inr rfl))) (gs_cons (g_name 7 (pg_name (i := 7) nd rfl (by first | exact .inl rfl | exact .inr rfl))) gs_nil)))) (fun _ _ _ _ _ => (ts_one (t_din (units_of hr (by decide)) (pv 4) (p_var 6 (pv 6)) (by first | exact nomark _ | rfl)))) (fun _ _ _ _ _ => (p_var 7 (pv 7))) (by decide))) (p_frz (p_disp (pa_cons' (p_var 3 (pv 3)) pa_nil')))) pa_nil')))))))))) hw
abbrev s_hints_for : Stmt := topS 2
abbrev N_hints_for : List Str := [(PySem.Str.ofString "clauses"), (PySem.Str.ofString "clause"), (PySem.Str.ofString "order"), (PySem.Str.ofString "known"), (PySem.Str.ofString "literal"), (PySem.Str.ofString "used"), (PySem.Str.ofString "going"), (PySem.Str.ofString "at"), (PySem.Str.ofString "left")]
theorem sc_hints_for : FnScope N_hints_for [(PySem.Str.ofString "clauses"), (PySem.Str.ofString "clause"), (PySem.Str.ofString "order")] (defScope s_hints_for) := ⟨rfl, rfl, rfl, by decide +kernel, rfl, by decide +kernel, by decide +kernel⟩
def S_hints_for (F__pruned : Fn) : Sx := sSeq (sDNew 3) (sSeq (sFor (iSeq (eVar 1)) (.name 4) (sDPut 3 (eOp2 dSub (eC (.int 0)) (eVar 4)) (eC .non))) (sForget 4 (sSeq (sOwn 5 (eDisp (eNil))) (sSeq (sSet 6 (eC (.bl true))) (sSeq (sWhile (bT (eVar 6)) (sSeq (sSet 6 (eC (.bl false))) (sFor (iSeq (eVar 2)) (.name 7) (sSeq (sSet 8 (eFrz (eLC [4] (iSeq (eIdx (eVar 0) (eVar 7))) (.name 4) (bV (eDIn true 3 (eOp2 dSub (eC (.int 0)) (eVar 4)))) (eVar 4)))) (sSeq (sIf (bNot (bT (eVar 8))) (sFreezeD 3 (sFreeze 5 (sRet (eCall F__pruned 4 (eCons (eVar 0) (eCons (eVar 3) (eCons (eVar 5) (eCons (eVar 7) (eNil))))))))) (sPass)) (sIf (bAnd (bV (eOp2 dEq (eOpN dLen (eCons (eVar 8) (eNil))) (eC (.int 1)))) (bV (eDIn true 3 (eIdx (eVar 8) (eC (.int 0)))))) (sSeq (sDPut 3 (eIdx (eVar 8) (eC (.int 0))) (eVar 7)) (sSeq (sAppend 5 (eTup (eCons (eIdx (eVar 8) (eC (.int 0))) (eCons (eVar 7) (eNil))))) (sSet 6 (eC (.bl true))))) (sPass))))))) (sRet (eC .non)))))))
theorem ok_hints_for {P : Program} {w : World} {K : PySem.W.Frag} {mg : Str → Option Value} {base : Heap} {a0 : Addr} {d0 : FuncData} (F__pruned : Fn) {F : Fn} (Fu : Fun K (PySem.Str.ofString "hints_for") (PySem.Str.ofString "hints_for") s_hints_for a0 d0) (m_len : mg (PySem.Str.ofString "len") = none) {a__pruned : Addr} {d__pruned : FuncData} (f_pruned : FnOk P w K mg base (L2.CX P w) 1 a__pruned d__pruned [(PySem.Str.ofString "clauses"), (PySem.Str.ofString "known"), (PySem.Str.ofString "used"), (PySem.Str.ofString "last")] (spD K mg 4 F__pruned)) (g_pruned : mg (PySem.Str.ofString "_pruned") = some (.ref a__pruned)) (k_pruned : PySem.W.keepIn K (.ref a__pruned) = true) (b_pruned : Binds K d__pruned [(PySem.Str.ofString "clauses"), (PySem.Str.ofString "known"), (PySem.Str.ofString "used"), (PySem.Str.ofString "last")] []) (hw : Keeps 3 N_hints_for.length F (S_hints_for F__pruned)) : FnOk P w K mg base (L2.CX P w) (1 + 1) a0 d0 [(PySem.Str.ofString "clauses"), (PySem.Str.ofString "clause"), (PySem.Str.ofString "order")] (spD K mg 3 F) :=
  okD Fu sc_hints_for rfl (fun cdv A outer s H E G xw hr xo => have nd := sc_hints_for.nd; (ss_cons (s_dnew (i := 3) nd rfl (by first | exact .inl rfl | exact .inr rfl)) (ss_cons (s_for (passes_of rfl) rfl (i_seq (p_var 1 (pv 1))) (g_name 4 (pg_name (i := 4) nd rfl (by first | exact .inl rfl | exact .inr rfl))) (ss_one (s_dput (units_of hr (by decide)) (pv 3) (p_op op_sub f_sub p_int (p_var 4 (pv 4))) p_non (by rfl)))) (ss_forget 4 (ss_cons (s_own (i := 5) nd rfl (by first | exact .inl rfl | exact .inr rfl) (p_disp pa_nil')) (ss_cons (s_set (i := 6) nd rfl (by first | exact .inl rfl | exact .inr rfl) p_bl) (ss_cons (s_while (passes_of rfl) (t_truth (p_var 6 (pv 6))) (ss_cons (s_set (i := 6) nd rfl (by first | exact .inl rfl | exact .inr rfl) p_bl) (ss_one (s_for (passes_of rfl) rfl (i_seq (p_var 2 (pv 2))) (g_name 7 (pg_name (i := 7) nd rfl (by first | exact .inl rfl | exact .inr rfl))) (ss_cons (s_setLc (i := 8) rfl nd rfl rfl (sw_true rfl rfl rfl (by decide +kernel)) (i_seq (p_idx (p_var 0 (pv 0)) (p_var 7 (pv 7)))) (blkOk_by (own := [((PySem.Str.ofString "literal"), 4)]) (N := N_hints_for) (sc := defScope (s_hints_for)) (by decide +kernel)) (fun _ _ _ _ _ => (g_name 4 (pg_name (i := 4) nd rfl (by first | exact .inl rfl | exact .inr rfl)))) (fun _ _ _ _ _ => (ts_one (t_dnotin (units_of hr (by decide)) (pv 3) (p_op op_sub f_sub p_int (p_var 4 (pv 4))) (by first | exact nomark _ | rfl)))) (fun _ _ _ _ _ => (p_var 4 (pv 4))) (by decide)) (ss_cons (s_if (t_not (t_truth (p_var 8 (pv 8)))) (ss_freezeD 3 (ss_freeze 5 (ss_one (s_ret (p_call xo (f_pruned.mono (by first | decide | exact Nat.le_refl _)) (hr.mono (by first | decide | exact Nat.le_refl _)) (by rfl) g_pruned k_pruned b_pruned (pa_cons' (p_var 0 (pv 0)) (pa_cons' (p_var 3 (pv 3)) (pa_cons' (p_var 5 (pv 5)) (pa_cons' (p_var 7 (pv 7)) pa_nil'))))))))) ss_nil) (ss_one (s_if (PW.pt (t_and (t_cmp (op_eqD (units_of hr (by decide))) f_eq (p_callB c_len f_len (by rfl) m_len rfl (pa_cons' (p_var 8 (pv 8)) pa_nil')) p_int (by first | exact nomark _ | rfl)) (t_and1 (t_dnotin (units_of hr (by decide)) (pv 3) (p_idx (p_var 8 (pv 8)) p_int) (by first | exact nomark _ | rfl))))) (ss_cons (s_dput (units_of hr (by decide)) (pv 3) (p_idx (p_var 8 (pv 8)) p_int) (p_var 7 (pv 7)) (by rfl)) (ss_cons (s_append (pv 5) (p_tup (pa_cons' (p_idx (p_var 8 (pv 8)) p_int) (pa_cons' (p_var 7 (pv 7)) pa_nil')))) (ss_one (s_set (i := 6) nd rfl (by first | exact .inl rfl | exact .inr rfl) p_bl)))) ss_nil)))))))) (ss_one (s_ret p_non))))))))) hw
abbrev s_ordered : Stmt := topS 9
abbrev N_ordered : List Str := [(PySem.Str.ofString "literals"), (PySem.Str.ofString "own"), (PySem.Str.ofString "literal")]
theorem sc_ordered : FnScope N_ordered [(PySem.Str.ofString "literals")] (defScope s_ordered) := ⟨rfl, rfl, rfl, by decide +kernel, rfl, by decide +kernel, by decide +kernel⟩
def S_ordered  : Sx := sRet (eFrz (eLC [1] (iSeq (eFrz (eSortS (eSC [2] (iSeq (eVar 0)) (.name 2) bYes (eTup (eCons (eOpN dAbs (eCons (eVar 2) (eNil))) (eCons (eOp2 dLt (eVar 2) (eC (.int 0))) (eCons (eVar 2) (eNil))))))))) (.name 1) bYes (eIdx (eVar 1) (eC (.int 2)))))
theorem ok_ordered {P : Program} {w : World} {K : PySem.W.Frag} {mg : Str → Option Value} {base : Heap} {a0 : Addr} {d0 : FuncData}  {F : Fn} (Fu : Fun K (PySem.Str.ofString "ordered") (PySem.Str.ofString "ordered") s_ordered a0 d0) (m_sorted : mg (PySem.Str.ofString "sorted") = none) (m_abs : mg (PySem.Str.ofString "abs") = none) (hw : Keeps 1 N_ordered.length F (S_ordered )) : FnOk P w K mg base (L2.CX P w) (0 + 1) a0 d0 [(PySem.Str.ofString "literals")] (spD K mg 1 F) :=
  okD Fu sc_ordered rfl (fun cdv A outer s H E G xw hr xo => have nd := sc_ordered.nd; (ss_one (s_ret (p_frz (p_lc rfl nd (i_seq (p_frz (p_sortS xo.so (units_of hr (by decide)) rfl (by rfl) m_sorted (p_sc xo.so (units_of hr (by decide)) rfl nd (i_seq (p_var 0 (pv 0))) (blkOk_by (own := [((PySem.Str.ofString "literal"), 2)]) (N := N_ordered) (sc := defScope (s_ordered)) (by decide +kernel)) (fun _ _ _ _ _ => (g_name 2 (pg_name (i := 2) nd rfl (by first | exact .inl rfl | exact .inr rfl)))) (fun _ _ _ _ _ => ts_nil) (fun _ _ _ _ _ => (p_tup (pa_cons' (p_callB call_abs f_abs (by rfl) m_abs rfl (pa_cons' (p_var 2 (pv 2)) pa_nil')) (pa_cons' (p_cmp op_lt f_lt (p_var 2 (pv 2)) p_int (by first | exact nomark _ | rfl)) (pa_cons' (p_var 2 (pv 2)) pa_nil'))))) (by decide))))) (blkOk_by (own := [((PySem.Str.ofString "own"), 1)]) (N := N_ordered) (sc := defScope (s_ordered)) (by decide +kernel)) (fun _ _ _ _ _ => (g_name 1 (pg_name (i := 1) nd rfl (by first | exact .inl rfl | exact .inr rfl)))) (fun _ _ _ _ _ => ts_nil) (fun _ _ _ _ _ => (p_idx (p_var 1 (pv 1)) p_int)) (by decide)))))) hw
abbrev s_clause_of : Stmt := topS 10
abbrev N_clause_of : List Str := [(PySem.Str.ofString "literals"), (PySem.Str.ofString "found"), (PySem.Str.ofString "literal"), (PySem.Str.ofString "one"), (PySem.Str.ofString "two")]
theorem sc_clause_of : FnScope N_clause_of [(PySem.Str.ofString "literals")] (defScope s_clause_of) := ⟨rfl, rfl, rfl, by decide +kernel, rfl, by decide +kernel, by decide +kernel⟩
def S_clause_of (F_ordered : Fn) : Sx := sSeq (sSet 1 (eCall F_ordered 1 (eCons (eVar 0) (eNil)))) (sSeq (sIf (bNot (bT (eOpN dAll (eCons (eFrz (eLC [2] (iSeq (eVar 1)) (.name 2) bYes (eAnd (eOp2 dNe (eVar 2) (eC (.int 0))) (eOp2 dLe (eOpN dAbs (eCons (eVar 2) (eNil))) (eC (.int 1000000)))))) (eNil))))) (sRaise (PySem.Str.ofString "BadClause") (PySem.Str.ofString "what") (eC (.str (PySem.Str.ofString "literal")))) (sPass)) (sSeq (sIf (bT (eOpN dAny (eCons (eFrz (eLC [3, 4] (iZip (eVar 1) (eSl (eVar 1) (oSome (eC (.int 1))) (oNone))) (.tup [.name 3, .name 4]) bYes (eOp2 dEq (eOpN dAbs (eCons (eVar 3) (eNil))) (eOpN dAbs (eCons (eVar 4) (eNil)))))) (eNil)))) (sRaise (PySem.Str.ofString "BadClause") (PySem.Str.ofString "what") (eC (.str (PySem.Str.ofString "opposites")))) (sPass)) (sRet (eOpN dTuple (eCons (eVar 1) (eNil))))))
theorem ok_clause_of {P : Program} {w : World} {K : PySem.W.Frag} {mg : Str → Option Value} {base : Heap} {a0 : Addr} {d0 : FuncData} (F_ordered : Fn) {F : Fn} (Fu : Fun K (PySem.Str.ofString "clause_of") (PySem.Str.ofString "clause_of") s_clause_of a0 d0) (m_any : mg (PySem.Str.ofString "any") = none) (m_tuple : mg (PySem.Str.ofString "tuple") = none) (m_all : mg (PySem.Str.ofString "all") = none) (m_abs : mg (PySem.Str.ofString "abs") = none) (m_zip : mg (PySem.Str.ofString "zip") = none) {tk_MOST_VARIABLE : Tok} (m_MOST_VARIABLE : mg (PySem.Str.ofString "MOST_VARIABLE") = some (.int 1000000 tk_MOST_VARIABLE)) {a_ordered : Addr} {d_ordered : FuncData} (fordered : FnOk P w K mg base (L2.CX P w) 1 a_ordered d_ordered [(PySem.Str.ofString "literals")] (spD K mg 1 F_ordered)) (gordered : mg (PySem.Str.ofString "ordered") = some (.ref a_ordered)) (kordered : PySem.W.keepIn K (.ref a_ordered) = true) (bordered : Binds K d_ordered [(PySem.Str.ofString "literals")] []) {C_BadClause a_BadClause : Addr} {d_BadClause : FuncData} (oBadClause : OexC K C_BadClause) (iBadClause : PySem.W.findIn K (.ref C_BadClause) "__init__" = some (some (.ref a_BadClause))) (tBadClause : PySem.W.typeIn K (.ref a_BadClause) = some (.type "function")) (FBadClause : FnOk P w K mg base (L2.CX P w) 1 a_BadClause d_BadClause [(PySem.Str.ofString "self"), (PySem.Str.ofString "what")] (Ex.spI K C_BadClause (PySem.Str.ofString "what"))) (bBadClause : Binds K d_BadClause [(PySem.Str.ofString "self"), (PySem.Str.ofString "what")] []) (gBadClause : mg (PySem.Str.ofString "BadClause") = some (.ref C_BadClause)) (hw : Keeps 1 N_clause_of.length F (S_clause_of F_ordered)) : FnOk P w K mg base (L2.CX P w) (2 + 1) a0 d0 [(PySem.Str.ofString "literals")] (spD K mg 1 F) :=
  okD Fu sc_clause_of rfl (fun cdv A outer s H E G xw hr xo => have nd := sc_clause_of.nd; (ss_cons (s_set (i := 1) nd rfl (by first | exact .inl rfl | exact .inr rfl) (p_call xo (fordered.mono (by first | decide | exact Nat.le_refl _)) (hr.mono (by first | decide | exact Nat.le_refl _)) (by rfl) gordered kordered bordered (pa_cons' (p_var 0 (pv 0)) pa_nil'))) (ss_cons (s_if (t_not (t_truth (p_callB (cr_all rfl) f_all (by rfl) m_all rfl (pa_cons' (p_frz (p_lc rfl nd (i_seq (p_var 1 (pv 1))) (blkOk_by (own := [((PySem.Str.ofString "literal"), 2)]) (N := N_clause_of) (sc := defScope (s_clause_of)) (by decide +kernel)) (fun _ _ _ _ _ => (g_name 2 (pg_name (i := 2) nd rfl (by first | exact .inl rfl | exact .inr rfl)))) (fun _ _ _ _ _ => ts_nil) (fun _ _ _ _ _ => (p_and (p_cmp (op_neD (units_of hr (by decide))) f_ne (p_var 2 (pv 2)) p_int (by first | exact nomark _ | rfl)) (p_one (p_cmp op_le f_le (p_callB call_abs f_abs (by rfl) m_abs rfl (pa_cons' (p_var 2 (pv 2)) pa_nil')) (p_const (pe_glob (v := .int 1000000) (by rfl) m_MOST_VARIABLE ⟨_, rfl⟩) fun _ _ _ => by simp [Rep]) (by first | exact nomark _ | rfl))))) (by decide))) pa_nil')))) (ss_one (s_raise xo rfl oBadClause iBadClause tBadClause (FBadClause.mono (by first | decide | exact Nat.le_refl _)) (hr.mono (by first | decide | exact Nat.le_refl _)) bBadClause (by rfl) gBadClause p_str)) ss_nil) (ss_cons (s_if (t_truth (p_callB (cr_any rfl) f_any (by rfl) m_any rfl (pa_cons' (p_frz (p_lc rfl nd (i_zip (by rfl) m_zip (p_var 1 (pv 1)) (p_sl (p_var 1 (pv 1)) (o_some p_int) o_none)) (blkOk_by (own := [((PySem.Str.ofString "one"), 3), ((PySem.Str.ofString "two"), 4)]) (N := N_clause_of) (sc := defScope (s_clause_of)) (by decide +kernel)) (fun _ _ _ _ _ => (g_tup rfl (gs_cons (g_name 3 (pg_name (i := 3) nd rfl (by first | exact .inl rfl | exact .inr rfl))) (gs_cons (g_name 4 (pg_name (i := 4) nd rfl (by first | exact .inl rfl | exact .inr rfl))) gs_nil)))) (fun _ _ _ _ _ => ts_nil) (fun _ _ _ _ _ => (p_cmp (op_eqD (units_of hr (by decide))) f_eq (p_callB call_abs f_abs (by rfl) m_abs rfl (pa_cons' (p_var 3 (pv 3)) pa_nil')) (p_callB call_abs f_abs (by rfl) m_abs rfl (pa_cons' (p_var 4 (pv 4)) pa_nil')) (by first | exact nomark _ | rfl))) (by decide))) pa_nil'))) (ss_one (s_raise xo rfl oBadClause iBadClause tBadClause (FBadClause.mono (by first | decide | exact Nat.le_refl _)) (hr.mono (by first | decide | exact Nat.le_refl _)) bBadClause (by rfl) gBadClause p_str)) ss_nil) (ss_one (s_ret (p_callTy call_tuple_of f_tuple (by rfl) m_tuple rfl (pa_cons' (p_var 1 (pv 1)) pa_nil')))))))) hw
abbrev s_resolved : Stmt := topS 11
abbrev N_resolved : List Str := [(PySem.Str.ofString "one"), (PySem.Str.ofString "two"), (PySem.Str.ofString "variable"), (PySem.Str.ofString "rest"), (PySem.Str.ofString "literal")]
theorem sc_resolved : FnScope N_resolved [(PySem.Str.ofString "one"), (PySem.Str.ofString "two"), (PySem.Str.ofString "variable")] (defScope s_resolved) := ⟨rfl, rfl, rfl, by decide +kernel, rfl, by decide +kernel, by decide +kernel⟩
def S_resolved (F_clause_of : Fn) : Sx := sSeq (sIf (bOr (bV (eOp2 (dIn true) (eVar 2) (eVar 0))) (bV (eOp2 (dIn true) (eOp2 dSub (eC (.int 0)) (eVar 2)) (eVar 1)))) (sRaise (PySem.Str.ofString "BadClause") (PySem.Str.ofString "what") (eC (.str (PySem.Str.ofString "variable")))) (sPass)) (sSeq (sOwn 3 (eLC [4] (iSeq (eVar 0)) (.name 4) (bV (eOp2 dNe (eVar 4) (eVar 2))) (eVar 4))) (sSeq (sExtend 3 (eFrz (eLC [4] (iSeq (eVar 1)) (.name 4) (bV (eOp2 dNe (eVar 4) (eOp2 dSub (eC (.int 0)) (eVar 2)))) (eVar 4)))) (sFreeze 3 (sSeq (sIf (bT (eOpN dAny (eCons (eFrz (eLC [4] (iSeq (eVar 3)) (.name 4) bYes (eOp2 (dIn false) (eOp2 dSub (eC (.int 0)) (eVar 4)) (eVar 3)))) (eNil)))) (sRet (eC .non)) (sPass)) (sRet (eCall F_clause_of 1 (eCons (eVar 3) (eNil))))))))
theorem ok_resolved {P : Program} {w : World} {K : PySem.W.Frag} {mg : Str → Option Value} {base : Heap} {a0 : Addr} {d0 : FuncData} (F_clause_of : Fn) {F : Fn} (Fu : Fun K (PySem.Str.ofString "resolved") (PySem.Str.ofString "resolved") s_resolved a0 d0) (m_any : mg (PySem.Str.ofString "any") = none) {a_clause_of : Addr} {d_clause_of : FuncData} (fclause_of : FnOk P w K mg base (L2.CX P w) 3 a_clause_of d_clause_of [(PySem.Str.ofString "literals")] (spD K mg 1 F_clause_of)) (gclause_of : mg (PySem.Str.ofString "clause_of") = some (.ref a_clause_of)) (kclause_of : PySem.W.keepIn K (.ref a_clause_of) = true) (bclause_of : Binds K d_clause_of [(PySem.Str.ofString "literals")] []) {C_BadClause a_BadClause : Addr} {d_BadClause : FuncData} (oBadClause : OexC K C_BadClause) (iBadClause : PySem.W.findIn K (.ref C_BadClause) "__init__" = some (some (.ref a_BadClause))) (tBadClause : PySem.W.typeIn K (.ref a_BadClause) = some (.type "function")) (FBadClause : FnOk P w K mg base (L2.CX P w) 1 a_BadClause d_BadClause [(PySem.Str.ofString "self"), (PySem.Str.ofString "what")] (Ex.spI K C_BadClause (PySem.Str.ofString "what"))) (bBadClause : Binds K d_BadClause [(PySem.Str.ofString "self"), (PySem.Str.ofString "what")] []) (gBadClause : mg (PySem.Str.ofString "BadClause") = some (.ref C_BadClause)) (hw : Keeps 3 N_resolved.length F (S_resolved F_clause_of)) : FnOk P w K mg base (L2.CX P w) (3 + 1) a0 d0 [(PySem.Str.ofString "one"), (PySem.Str.ofString "two"), (PySem.Str.ofString "variable")] (spD K mg 3 F) :=
  okD Fu sc_resolved rfl (fun cdv A outer s H E G xw hr xo => have nd := sc_resolved.nd; (ss_cons (s_if (PW.pt (t_or (t_cmp (o_notin (units_of hr (by decide))) f_in (p_var 2 (pv 2)) (p_var 0 (pv 0)) (by first | exact nomark _ | rfl)) (t_or1 (t_cmp (o_notin (units_of hr (by decide))) f_in (p_op op_sub f_sub p_int (p_var 2 (pv 2))) (p_var 1 (pv 1)) (by first | exact nomark _ | rfl))))) (ss_one (s_raise xo rfl oBadClause iBadClause tBadClause (FBadClause.mono (by first | decide | exact Nat.le_refl _)) (hr.mono (by first | decide | exact Nat.le_refl _)) bBadClause (by rfl) gBadClause p_str)) ss_nil) (ss_cons (s_own (i := 3) nd rfl (by first | exact .inl rfl | exact .inr rfl) (p_lc rfl nd (i_seq (p_var 0 (pv 0))) (blkOk_by (own := [((PySem.Str.ofString "literal"), 4)]) (N := N_resolved) (sc := defScope (s_resolved)) (by decide +kernel)) (fun _ _ _ _ _ => (g_name 4 (pg_name (i := 4) nd rfl (by first | exact .inl rfl | exact .inr rfl)))) (fun _ _ _ _ _ => (ts_one (t_cmp (op_neD (units_of hr (by decide))) f_ne (p_var 4 (pv 4)) (p_var 2 (pv 2)) (by first | exact nomark _ | rfl)))) (fun _ _ _ _ _ => (p_var 4 (pv 4))) (by decide))) (ss_cons (s_extend (pv 3) (p_frz (p_lc rfl nd (i_seq (p_var 1 (pv 1))) (blkOk_by (own := [((PySem.Str.ofString "literal"), 4)]) (N := N_resolved) (sc := defScope (s_resolved)) (by decide +kernel)) (fun _ _ _ _ _ => (g_name 4 (pg_name (i := 4) nd rfl (by first | exact .inl rfl | exact .inr rfl)))) (fun _ _ _ _ _ => (ts_one (t_cmp (op_neD (units_of hr (by decide))) f_ne (p_var 4 (pv 4)) (p_op op_sub f_sub p_int (p_var 2 (pv 2))) (by first | exact nomark _ | rfl)))) (fun _ _ _ _ _ => (p_var 4 (pv 4))) (by decide)))) (ss_freeze 3 (ss_cons (s_if (t_truth (p_callB (cr_any rfl) f_any (by rfl) m_any rfl (pa_cons' (p_frz (p_lc rfl nd (i_seq (p_var 3 (pv 3))) (blkOk_by (own := [((PySem.Str.ofString "literal"), 4)]) (N := N_resolved) (sc := defScope (s_resolved)) (by decide +kernel)) (fun _ _ _ _ _ => (g_name 4 (pg_name (i := 4) nd rfl (by first | exact .inl rfl | exact .inr rfl)))) (fun _ _ _ _ _ => ts_nil) (fun _ _ _ _ _ => (p_cmp (o_in (units_of hr (by decide))) f_in (p_op op_sub f_sub p_int (p_var 4 (pv 4))) (p_var 3 (pv 3)) (by first | exact nomark _ | rfl))) (by decide))) pa_nil'))) (ss_one (s_ret p_non)) ss_nil) (ss_one (s_ret (p_call xo (fclause_of.mono (by first | decide | exact Nat.le_refl _)) (hr.mono (by first | decide | exact Nat.le_refl _)) (by rfl) gclause_of kclause_of bclause_of (pa_cons' (p_var 3 (pv 3)) pa_nil')))))))))) hw
abbrev s_joined : Stmt := topS 14
abbrev N_joined : List Str := [(PySem.Str.ofString "here"), (PySem.Str.ofString "other"), (PySem.Str.ofString "literal")]
theorem sc_joined : FnScope N_joined [(PySem.Str.ofString "here"), (PySem.Str.ofString "other"), (PySem.Str.ofString "literal")] (defScope s_joined) := ⟨rfl, rfl, rfl, by decide +kernel, rfl, by decide +kernel, by decide +kernel⟩
def S_joined (F_resolved : Fn) : Sx := sSeq (sIf (bV (eOp2 dGt (eVar 2) (eC (.int 0)))) (sRet (eCall F_resolved 3 (eCons (eVar 1) (eCons (eVar 0) (eCons (eVar 2) (eNil)))))) (sPass)) (sRet (eCall F_resolved 3 (eCons (eVar 0) (eCons (eVar 1) (eCons (eOp2 dSub (eC (.int 0)) (eVar 2)) (eNil))))))
theorem ok_joined {P : Program} {w : World} {K : PySem.W.Frag} {mg : Str → Option Value} {base : Heap} {a0 : Addr} {d0 : FuncData} (F_resolved : Fn) {F : Fn} (Fu : Fun K (PySem.Str.ofString "joined") (PySem.Str.ofString "joined") s_joined a0 d0) {a_resolved : Addr} {d_resolved : FuncData} (fresolved : FnOk P w K mg base (L2.CX P w) 4 a_resolved d_resolved [(PySem.Str.ofString "one"), (PySem.Str.ofString "two"), (PySem.Str.ofString "variable")] (spD K mg 3 F_resolved)) (gresolved : mg (PySem.Str.ofString "resolved") = some (.ref a_resolved)) (kresolved : PySem.W.keepIn K (.ref a_resolved) = true) (bresolved : Binds K d_resolved [(PySem.Str.ofString "one"), (PySem.Str.ofString "two"), (PySem.Str.ofString "variable")] []) (hw : Keeps 3 N_joined.length F (S_joined F_resolved)) : FnOk P w K mg base (L2.CX P w) (4 + 1) a0 d0 [(PySem.Str.ofString "here"), (PySem.Str.ofString "other"), (PySem.Str.ofString "literal")] (spD K mg 3 F) :=
  okD Fu sc_joined rfl (fun cdv A outer s H E G xw hr xo => have nd := sc_joined.nd; (ss_cons (s_if (t_cmp op_gt f_gt (p_var 2 (pv 2)) p_int (by first | exact nomark _ | rfl)) (ss_one (s_ret (p_call xo (fresolved.mono (by first | decide | exact Nat.le_refl _)) (hr.mono (by first | decide | exact Nat.le_refl _)) (by rfl) gresolved kresolved bresolved (pa_cons' (p_var 1 (pv 1)) (pa_cons' (p_var 0 (pv 0)) (pa_cons' (p_var 2 (pv 2)) pa_nil')))))) ss_nil) (ss_one (s_ret (p_call xo (fresolved.mono (by first | decide | exact Nat.le_refl _)) (hr.mono (by first | decide | exact Nat.le_refl _)) (by rfl) gresolved kresolved bresolved (pa_cons' (p_var 0 (pv 0)) (pa_cons' (p_var 1 (pv 1)) (pa_cons' (p_op op_sub f_sub p_int (p_var 2 (pv 2))) pa_nil')))))))) hw
abbrev s_chain_of : Stmt := topS 13
abbrev N_chain_of : List Str := [(PySem.Str.ofString "clauses"), (PySem.Str.ofString "clause"), (PySem.Str.ofString "hints"), (PySem.Str.ofString "hint"), (PySem.Str.ofString "known"), (PySem.Str.ofString "order"), (PySem.Str.ofString "literal"), (PySem.Str.ofString "left"), (PySem.Str.ofString "here"), (PySem.Str.ofString "links")]
theorem sc_chain_of : FnScope N_chain_of [(PySem.Str.ofString "clauses"), (PySem.Str.ofString "clause"), (PySem.Str.ofString "hints")] (defScope s_chain_of) := ⟨rfl, rfl, rfl, by decide +kernel, rfl, by decide +kernel, by decide +kernel⟩
def S_chain_of (F_joined : Fn) : Sx := sSeq (sIf (bNot (bT (eOpN dAll (eCons (eFrz (eLC [3] (iSeq (eVar 2)) (.name 3) bYes (eChain dLe dLt (eC (.int 0)) (eVar 3) (eOpN dLen (eCons (eVar 0) (eNil)))))) (eNil))))) (sRet (eC .non)) (sPass)) (sSeq (sDNew 4) (sSeq (sOwn 5 (eDisp (eNil))) (sSeq (sFor (iSeq (eVar 1)) (.name 6) (sDPut 4 (eOp2 dSub (eC (.int 0)) (eVar 6)) (eC .non))) (sForget 6 (sSeq (sFor (iSeq (eSl (eVar 2) (oNone) (oSome (eOp1 dNeg (eC (.int 1)))))) (.name 3) (sSeq (sSet 7 (eFrz (eLC [6] (iSeq (eIdx (eVar 0) (eVar 3))) (.name 6) (bV (eDIn true 4 (eOp2 dSub (eC (.int 0)) (eVar 6)))) (eVar 6)))) (sSeq (sIf (bOr (bV (eOp2 dNe (eOpN dLen (eCons (eVar 7) (eNil))) (eC (.int 1)))) (bV (eDIn false 4 (eIdx (eVar 7) (eC (.int 0)))))) (sRet (eC .non)) (sPass)) (sSeq (sDPut 4 (eIdx (eVar 7) (eC (.int 0))) (eVar 3)) (sAppend 5 (eIdx (eVar 7) (eC (.int 0)))))))) (sSeq (sIf (bOr (bNot (bT (eVar 2))) (bT (eFrz (eLC [6] (iSeq (eIdx (eVar 0) (eIdx (eVar 2) (eOp1 dNeg (eC (.int 1)))))) (.name 6) (bV (eDIn true 4 (eOp2 dSub (eC (.int 0)) (eVar 6)))) (eVar 6))))) (sRet (eC .non)) (sPass)) (sSeq (sSet 8 (eIdx (eVar 0) (eIdx (eVar 2) (eOp1 dNeg (eC (.int 1)))))) (sSeq (sOwn 9 (eDisp (eNil))) (sFreeze 5 (sSeq (sFor (iSeq (eRevL (eVar 5))) (.name 6) (sIf (bV (eOp2 (dIn false) (eOp2 dSub (eC (.int 0)) (eVar 6)) (eVar 8))) (sSeq (sSet 8 (eCall F_joined 3 (eCons (eVar 8) (eCons (eIdx (eVar 0) (eDGet 4 (eVar 6))) (eCons (eVar 6) (eNil)))))) (sAppend 9 (eTup (eCons (eDGet 4 (eVar 6)) (eCons (eOpN dAbs (eCons (eVar 6) (eNil))) (eNil)))))) (sPass))) (sFreeze 9 (sRet (eTup (eCons (eIdx (eVar 2) (eOp1 dNeg (eC (.int 1)))) (eCons (eOpN dTuple (eCons (eVar 9) (eNil))) (eNil))))))))))))))))
theorem ok_chain_of {P : Program} {w : World} {K : PySem.W.Frag} {mg : Str → Option Value} {base : Heap} {a0 : Addr} {d0 : FuncData} (F_joined : Fn) {F : Fn} (Fu : Fun K (PySem.Str.ofString "chain_of") (PySem.Str.ofString "chain_of") s_chain_of a0 d0) (m_all : mg (PySem.Str.ofString "all") = none) (m_tuple : mg (PySem.Str.ofString "tuple") = none) (m_len : mg (PySem.Str.ofString "len") = none) (m_abs : mg (PySem.Str.ofString "abs") = none) {a_joined : Addr} {d_joined : FuncData} (fjoined : FnOk P w K mg base (L2.CX P w) 5 a_joined d_joined [(PySem.Str.ofString "here"), (PySem.Str.ofString "other"), (PySem.Str.ofString "literal")] (spD K mg 3 F_joined)) (gjoined : mg (PySem.Str.ofString "joined") = some (.ref a_joined)) (kjoined : PySem.W.keepIn K (.ref a_joined) = true) (bjoined : Binds K d_joined [(PySem.Str.ofString "here"), (PySem.Str.ofString "other"), (PySem.Str.ofString "literal")] []) (hw : Keeps 3 N_chain_of.length F (S_chain_of F_joined)) : FnOk P w K mg base (L2.CX P w) (5 + 1) a0 d0 [(PySem.Str.ofString "clauses"), (PySem.Str.ofString "clause"), (PySem.Str.ofString "hints")] (spD K mg 3 F) :=
  okD Fu sc_chain_of rfl (fun cdv A outer s H E G xw hr xo => have nd := sc_chain_of.nd; (ss_cons (s_if (t_not (t_truth (p_callB (cr_all rfl) f_all (by rfl) m_all rfl (pa_cons' (p_frz (p_lc rfl nd (i_seq (p_var 2 (pv 2))) (blkOk_by (own := [((PySem.Str.ofString "hint"), 3)]) (N := N_chain_of) (sc := defScope (s_chain_of)) (by decide +kernel)) (fun _ _ _ _ _ => (g_name 3 (pg_name (i := 3) nd rfl (by first | exact .inl rfl | exact .inr rfl)))) (fun _ _ _ _ _ => ts_nil) (fun _ _ _ _ _ => (p_chain op_le f_le op_lt f_lt p_int (p_var 3 (pv 3)) (p_callB c_len f_len (by rfl) m_len rfl (pa_cons' (p_var 0 (pv 0)) pa_nil')))) (by decide))) pa_nil')))) (ss_one (s_ret p_non)) ss_nil) (ss_cons (s_dnew (i := 4) nd rfl (by first | exact .inl rfl | exact .inr rfl)) (ss_cons (s_own (i := 5) nd rfl (by first | exact .inl rfl | exact .inr rfl) (p_disp pa_nil')) (ss_cons (s_for (passes_of rfl) rfl (i_seq (p_var 1 (pv 1))) (g_name 6 (pg_name (i := 6) nd rfl (by first | exact .inl rfl | exact .inr rfl))) (ss_one (s_dput (units_of hr (by decide)) (pv 4) (p_op op_sub f_sub p_int (p_var 6 (pv 6))) p_non (by rfl)))) (ss_forget 6 (ss_cons (s_for (passes_of rfl) rfl (i_seq (p_sl (p_var 2 (pv 2)) o_none (o_some (p_un un_neg f_neg p_int)))) (g_name 3 (pg_name (i := 3) nd rfl (by first | exact .inl rfl | exact .inr rfl))) (ss_cons (s_setLc (i := 7) rfl nd rfl rfl (sw_true rfl rfl rfl (by decide +kernel)) (i_seq (p_idx (p_var 0 (pv 0)) (p_var 3 (pv 3)))) (blkOk_by (own := [((PySem.Str.ofString "literal"), 6)]) (N := N_chain_of) (sc := defScope (s_chain_of)) (by decide +kernel)) (fun _ _ _ _ _ => (g_name 6 (pg_name (i := 6) nd rfl (by first | exact .inl rfl | exact .inr rfl)))) (fun _ _ _ _ _ => (ts_one (t_dnotin (units_of hr (by decide)) (pv 4) (p_op op_sub f_sub p_int (p_var 6 (pv 6))) (by first | exact nomark _ | rfl)))) (fun _ _ _ _ _ => (p_var 6 (pv 6))) (by decide)) (ss_cons (s_if (PW.pt (t_or (t_cmp (op_neD (units_of hr (by decide))) f_ne (p_callB c_len f_len (by rfl) m_len rfl (pa_cons' (p_var 7 (pv 7)) pa_nil')) p_int (by first | exact nomark _ | rfl)) (t_or1 (t_din (units_of hr (by decide)) (pv 4) (p_idx (p_var 7 (pv 7)) p_int) (by first | exact nomark _ | rfl))))) (ss_one (s_ret p_non)) ss_nil) (ss_cons (s_dput (units_of hr (by decide)) (pv 4) (p_idx (p_var 7 (pv 7)) p_int) (p_var 3 (pv 3)) (by rfl)) (ss_one (s_append (pv 5) (p_idx (p_var 7 (pv 7)) p_int))))))) (ss_cons (s_if (PW.pt (t_or (t_not (t_truth (p_var 2 (pv 2)))) (t_or1 (t_truth (p_frz (p_lc rfl nd (i_seq (p_idx (p_var 0 (pv 0)) (p_idx (p_var 2 (pv 2)) (p_un un_neg f_neg p_int)))) (blkOk_by (own := [((PySem.Str.ofString "literal"), 6)]) (N := N_chain_of) (sc := defScope (s_chain_of)) (by decide +kernel)) (fun _ _ _ _ _ => (g_name 6 (pg_name (i := 6) nd rfl (by first | exact .inl rfl | exact .inr rfl)))) (fun _ _ _ _ _ => (ts_one (t_dnotin (units_of hr (by decide)) (pv 4) (p_op op_sub f_sub p_int (p_var 6 (pv 6))) (by first | exact nomark _ | rfl)))) (fun _ _ _ _ _ => (p_var 6 (pv 6))) (by decide))))))) (ss_one (s_ret p_non)) ss_nil) (ss_cons (s_set (i := 8) nd rfl (by first | exact .inl rfl | exact .inr rfl) (p_idx (p_var 0 (pv 0)) (p_idx (p_var 2 (pv 2)) (p_un un_neg f_neg p_int)))) (ss_cons (s_own (i := 9) nd rfl (by first | exact .inl rfl | exact .inr rfl) (p_disp pa_nil')) (ss_freeze 5 (ss_cons (s_for (passes_of rfl) rfl (i_seq (p_revL (p_var 5 (pv 5)))) (g_name 6 (pg_name (i := 6) nd rfl (by first | exact .inl rfl | exact .inr rfl))) (ss_one (s_if (t_cmp (o_in (units_of hr (by decide))) f_in (p_op op_sub f_sub p_int (p_var 6 (pv 6))) (p_var 8 (pv 8)) (by first | exact nomark _ | rfl)) (ss_cons (s_set (i := 8) nd rfl (by first | exact .inl rfl | exact .inr rfl) (p_call xo (fjoined.mono (by first | decide | exact Nat.le_refl _)) (hr.mono (by first | decide | exact Nat.le_refl _)) (by rfl) gjoined kjoined bjoined (pa_cons' (p_var 8 (pv 8)) (pa_cons' (p_idx (p_var 0 (pv 0)) (p_dget (units_of hr (by decide)) (pv 4) (p_var 6 (pv 6)) (fun _ _ => rfl))) (pa_cons' (p_var 6 (pv 6)) pa_nil'))))) (ss_one (s_append (pv 9) (p_tup (pa_cons' (p_dget (units_of hr (by decide)) (pv 4) (p_var 6 (pv 6)) (fun _ _ => rfl)) (pa_cons' (p_callB call_abs f_abs (by rfl) m_abs rfl (pa_cons' (p_var 6 (pv 6)) pa_nil')) pa_nil')))))) ss_nil))) (ss_freeze 9 (ss_one (s_ret (p_tup (pa_cons' (p_idx (p_var 2 (pv 2)) (p_un un_neg f_neg p_int)) (pa_cons' (p_callTy call_tuple_of f_tuple (by rfl) m_tuple rfl (pa_cons' (p_var 9 (pv 9)) pa_nil')) pa_nil')))))))))))))))))) hw
abbrev s_link : Stmt := topS 15
abbrev N_link : List Str := [(PySem.Str.ofString "here"), (PySem.Str.ofString "other"), (PySem.Str.ofString "variable")]
theorem sc_link : FnScope N_link [(PySem.Str.ofString "here"), (PySem.Str.ofString "other"), (PySem.Str.ofString "variable")] (defScope s_link) := ⟨rfl, rfl, rfl, by decide +kernel, rfl, by decide +kernel, by decide +kernel⟩
def S_link (F_resolved : Fn) : Sx := sSeq (sIf (bAnd (bV (eOp2 (dIn false) (eVar 2) (eVar 0))) (bV (eOp2 (dIn false) (eOp2 dSub (eC (.int 0)) (eVar 2)) (eVar 1)))) (sRet (eCall F_resolved 3 (eCons (eVar 0) (eCons (eVar 1) (eCons (eVar 2) (eNil)))))) (sPass)) (sSeq (sIf (bAnd (bV (eOp2 (dIn false) (eVar 2) (eVar 1))) (bV (eOp2 (dIn false) (eOp2 dSub (eC (.int 0)) (eVar 2)) (eVar 0)))) (sRet (eCall F_resolved 3 (eCons (eVar 1) (eCons (eVar 0) (eCons (eVar 2) (eNil)))))) (sPass)) (sRet (eC .non)))
theorem ok_link {P : Program} {w : World} {K : PySem.W.Frag} {mg : Str → Option Value} {base : Heap} {a0 : Addr} {d0 : FuncData} (F_resolved : Fn) {F : Fn} (Fu : Fun K (PySem.Str.ofString "link") (PySem.Str.ofString "link") s_link a0 d0) {a_resolved : Addr} {d_resolved : FuncData} (fresolved : FnOk P w K mg base (L2.CX P w) 4 a_resolved d_resolved [(PySem.Str.ofString "one"), (PySem.Str.ofString "two"), (PySem.Str.ofString "variable")] (spD K mg 3 F_resolved)) (gresolved : mg (PySem.Str.ofString "resolved") = some (.ref a_resolved)) (kresolved : PySem.W.keepIn K (.ref a_resolved) = true) (bresolved : Binds K d_resolved [(PySem.Str.ofString "one"), (PySem.Str.ofString "two"), (PySem.Str.ofString "variable")] []) (hw : Keeps 3 N_link.length F (S_link F_resolved)) : FnOk P w K mg base (L2.CX P w) (4 + 1) a0 d0 [(PySem.Str.ofString "here"), (PySem.Str.ofString "other"), (PySem.Str.ofString "variable")] (spD K mg 3 F) :=
  okD Fu sc_link rfl (fun cdv A outer s H E G xw hr xo => have nd := sc_link.nd; (ss_cons (s_if (PW.pt (t_and (t_cmp (o_in (units_of hr (by decide))) f_in (p_var 2 (pv 2)) (p_var 0 (pv 0)) (by first | exact nomark _ | rfl)) (t_and1 (t_cmp (o_in (units_of hr (by decide))) f_in (p_op op_sub f_sub p_int (p_var 2 (pv 2))) (p_var 1 (pv 1)) (by first | exact nomark _ | rfl))))) (ss_one (s_ret (p_call xo (fresolved.mono (by first | decide | exact Nat.le_refl _)) (hr.mono (by first | decide | exact Nat.le_refl _)) (by rfl) gresolved kresolved bresolved (pa_cons' (p_var 0 (pv 0)) (pa_cons' (p_var 1 (pv 1)) (pa_cons' (p_var 2 (pv 2)) pa_nil')))))) ss_nil) (ss_cons (s_if (PW.pt (t_and (t_cmp (o_in (units_of hr (by decide))) f_in (p_var 2 (pv 2)) (p_var 1 (pv 1)) (by first | exact nomark _ | rfl)) (t_and1 (t_cmp (o_in (units_of hr (by decide))) f_in (p_op op_sub f_sub p_int (p_var 2 (pv 2))) (p_var 0 (pv 0)) (by first | exact nomark _ | rfl))))) (ss_one (s_ret (p_call xo (fresolved.mono (by first | decide | exact Nat.le_refl _)) (hr.mono (by first | decide | exact Nat.le_refl _)) (by rfl) gresolved kresolved bresolved (pa_cons' (p_var 1 (pv 1)) (pa_cons' (p_var 0 (pv 0)) (pa_cons' (p_var 2 (pv 2)) pa_nil')))))) ss_nil) (ss_one (s_ret p_non))))) hw
abbrev s_chain_end : Stmt := topS 16
abbrev N_chain_end : List Str := [(PySem.Str.ofString "clauses"), (PySem.Str.ofString "chain"), (PySem.Str.ofString "start"), (PySem.Str.ofString "links"), (PySem.Str.ofString "here"), (PySem.Str.ofString "number"), (PySem.Str.ofString "variable")]
theorem sc_chain_end : FnScope N_chain_end [(PySem.Str.ofString "clauses"), (PySem.Str.ofString "chain")] (defScope s_chain_end) := ⟨rfl, rfl, rfl, by decide +kernel, rfl, by decide +kernel, by decide +kernel⟩
def S_chain_end (F_link : Fn) : Sx := sSeq (sAsg (eVar 1) (.tup [.name 2, .name 3])) (sSeq (sIf (bNot (bV (eChain dLe dLt (eC (.int 0)) (eVar 2) (eOpN dLen (eCons (eVar 0) (eNil)))))) (sRet (eC .non)) (sPass)) (sSeq (sSet 4 (eIdx (eVar 0) (eVar 2))) (sSeq (sFor (iSeq (eVar 3)) (.tup [.name 5, .name 6]) (sSeq (sIf (bNot (bV (eChain dLe dLt (eC (.int 0)) (eVar 5) (eOpN dLen (eCons (eVar 0) (eNil)))))) (sRet (eC .non)) (sPass)) (sSeq (sSet 4 (eCall F_link 3 (eCons (eVar 4) (eCons (eIdx (eVar 0) (eVar 5)) (eCons (eVar 6) (eNil)))))) (sIf (bV (eOp2 dIsN (eVar 4) (eC .non))) (sRet (eC .non)) (sPass))))) (sRet (eVar 4)))))
theorem ok_chain_end {P : Program} {w : World} {K : PySem.W.Frag} {mg : Str → Option Value} {base : Heap} {a0 : Addr} {d0 : FuncData} (F_link : Fn) {F : Fn} (Fu : Fun K (PySem.Str.ofString "chain_end") (PySem.Str.ofString "chain_end") s_chain_end a0 d0) (m_len : mg (PySem.Str.ofString "len") = none) {a_link : Addr} {d_link : FuncData} (flink : FnOk P w K mg base (L2.CX P w) 5 a_link d_link [(PySem.Str.ofString "here"), (PySem.Str.ofString "other"), (PySem.Str.ofString "variable")] (spD K mg 3 F_link)) (glink : mg (PySem.Str.ofString "link") = some (.ref a_link)) (klink : PySem.W.keepIn K (.ref a_link) = true) (blink : Binds K d_link [(PySem.Str.ofString "here"), (PySem.Str.ofString "other"), (PySem.Str.ofString "variable")] []) (hw : Keeps 2 N_chain_end.length F (S_chain_end F_link)) : FnOk P w K mg base (L2.CX P w) (5 + 1) a0 d0 [(PySem.Str.ofString "clauses"), (PySem.Str.ofString "chain")] (spD K mg 2 F) :=
  okD Fu sc_chain_end rfl (fun cdv A outer s H E G xw hr xo => have nd := sc_chain_end.nd; (ss_cons (s_asg (p_var 1 (pv 1)) (g_tup rfl (gs_cons (g_name 2 (pg_name (i := 2) nd rfl (by first | exact .inl rfl | exact .inr rfl))) (gs_cons (g_name 3 (pg_name (i := 3) nd rfl (by first | exact .inl rfl | exact .inr rfl))) gs_nil)))) (ss_cons (s_if (t_not (t_chain op_le f_le op_lt f_lt p_int (p_var 2 (pv 2)) (p_callB c_len f_len (by rfl) m_len rfl (pa_cons' (p_var 0 (pv 0)) pa_nil')))) (ss_one (s_ret p_non)) ss_nil) (ss_cons (s_set (i := 4) nd rfl (by first | exact .inl rfl | exact .inr rfl) (p_idx (p_var 0 (pv 0)) (p_var 2 (pv 2)))) (ss_cons (s_for (passes_of rfl) rfl (i_seq (p_var 3 (pv 3))) (g_tup rfl (gs_cons (g_name 5 (pg_name (i := 5) nd rfl (by first | exact .inl rfl | exact .inr rfl))) (gs_cons (g_name 6 (pg_name (i := 6) nd rfl (by first | exact .inl rfl | exact .inr rfl))) gs_nil))) (ss_cons (s_if (t_not (t_chain op_le f_le op_lt f_lt p_int (p_var 5 (pv 5)) (p_callB c_len f_len (by rfl) m_len rfl (pa_cons' (p_var 0 (pv 0)) pa_nil')))) (ss_one (s_ret p_non)) ss_nil) (ss_cons (s_set (i := 4) nd rfl (by first | exact .inl rfl | exact .inr rfl) (p_call xo (flink.mono (by first | decide | exact Nat.le_refl _)) (hr.mono (by first | decide | exact Nat.le_refl _)) (by rfl) glink klink blink (pa_cons' (p_var 4 (pv 4)) (pa_cons' (p_idx (p_var 0 (pv 0)) (p_var 5 (pv 5))) (pa_cons' (p_var 6 (pv 6)) pa_nil'))))) (ss_one (s_if (t_cmp op_isN f_isN (p_var 4 (pv 4)) p_non (by first | exact nomark _ | rfl)) (ss_one (s_ret p_non)) ss_nil))))) (ss_one (s_ret (p_var 4 (pv 4))))))))) hw
abbrev s_chain_right : Stmt := topS 17
abbrev N_chain_right : List Str := [(PySem.Str.ofString "clauses"), (PySem.Str.ofString "clause"), (PySem.Str.ofString "chain"), (PySem.Str.ofString "end"), (PySem.Str.ofString "literal")]
theorem sc_chain_right : FnScope N_chain_right [(PySem.Str.ofString "clauses"), (PySem.Str.ofString "clause"), (PySem.Str.ofString "chain")] (defScope s_chain_right) := ⟨rfl, rfl, rfl, by decide +kernel, rfl, by decide +kernel, by decide +kernel⟩
def S_chain_right (F_chain_end : Fn) : Sx := sSeq (sSet 3 (eCall F_chain_end 2 (eCons (eVar 0) (eCons (eVar 2) (eNil))))) (sRet (eAnd (eOp2 dNotN (eVar 3) (eC .non)) (eOpN dAll (eCons (eFrz (eLC [4] (iSeq (eVar 3)) (.name 4) bYes (eOp2 (dIn false) (eVar 4) (eVar 1)))) (eNil)))))
theorem ok_chain_right {P : Program} {w : World} {K : PySem.W.Frag} {mg : Str → Option Value} {base : Heap} {a0 : Addr} {d0 : FuncData} (F_chain_end : Fn) {F : Fn} (Fu : Fun K (PySem.Str.ofString "chain_right") (PySem.Str.ofString "chain_right") s_chain_right a0 d0) (m_all : mg (PySem.Str.ofString "all") = none) {a_chain_end : Addr} {d_chain_end : FuncData} (fchain_end : FnOk P w K mg base (L2.CX P w) 6 a_chain_end d_chain_end [(PySem.Str.ofString "clauses"), (PySem.Str.ofString "chain")] (spD K mg 2 F_chain_end)) (gchain_end : mg (PySem.Str.ofString "chain_end") = some (.ref a_chain_end)) (kchain_end : PySem.W.keepIn K (.ref a_chain_end) = true) (bchain_end : Binds K d_chain_end [(PySem.Str.ofString "clauses"), (PySem.Str.ofString "chain")] []) (hw : Keeps 3 N_chain_right.length F (S_chain_right F_chain_end)) : FnOk P w K mg base (L2.CX P w) (6 + 1) a0 d0 [(PySem.Str.ofString "clauses"), (PySem.Str.ofString "clause"), (PySem.Str.ofString "chain")] (spD K mg 3 F) :=
  okD Fu sc_chain_right rfl (fun cdv A outer s H E G xw hr xo => have nd := sc_chain_right.nd; (ss_cons (s_set (i := 3) nd rfl (by first | exact .inl rfl | exact .inr rfl) (p_call xo (fchain_end.mono (by first | decide | exact Nat.le_refl _)) (hr.mono (by first | decide | exact Nat.le_refl _)) (by rfl) gchain_end kchain_end bchain_end (pa_cons' (p_var 0 (pv 0)) (pa_cons' (p_var 2 (pv 2)) pa_nil')))) (ss_one (s_ret (p_and (p_cmp op_notN f_notN (p_var 3 (pv 3)) p_non (by first | exact nomark _ | rfl)) (p_one (p_callB (cr_all rfl) f_all (by rfl) m_all rfl (pa_cons' (p_frz (p_lc rfl nd (i_seq (p_var 3 (pv 3))) (blkOk_by (own := [((PySem.Str.ofString "literal"), 4)]) (N := N_chain_right) (sc := defScope (s_chain_right)) (by decide +kernel)) (fun _ _ _ _ _ => (g_name 4 (pg_name (i := 4) nd rfl (by first | exact .inl rfl | exact .inr rfl)))) (fun _ _ _ _ _ => ts_nil) (fun _ _ _ _ _ => (p_cmp (o_in (units_of hr (by decide))) f_in (p_var 4 (pv 4)) (p_var 1 (pv 1)) (by first | exact nomark _ | rfl))) (by decide))) pa_nil')))))))) hw
abbrev s__law_pool : Stmt := topS 19
abbrev N__law_pool : List Str := [(PySem.Str.ofString "script"), (PySem.Str.ofString "budget")]
theorem sc__law_pool : FnScope N__law_pool [(PySem.Str.ofString "script"), (PySem.Str.ofString "budget")] (defScope s__law_pool) := ⟨rfl, rfl, rfl, by decide +kernel, rfl, by decide +kernel, by decide +kernel⟩
def S__law_pool  : W (List Da) := eDisp (eCons (eFrz (eList (eVar 0))) (eCons (eC (.int 0)) (eCons (eC (.int 0)) (eCons (eC (.int 1)) (eCons (eC (.int 0)) (eCons (eVar 1) (eNil)))))))
theorem ok__law_pool {P : Program} {w : World} {K : PySem.W.Frag} {mg : Str → Option Value} {base : Heap} {a0 : Addr} {d0 : FuncData}  {F : List Da → (List Da → Prop) → Prop} (Fu : Fun K (PySem.Str.ofString "_law_pool") (PySem.Str.ofString "_law_pool") s__law_pool a0 d0) (m_list : mg (PySem.Str.ofString "list") = none) (hw : ∀ ds k, ds.length = 2 → F ds k → (S__law_pool ).wp (startE N__law_pool.length ds) (fun es _ => k es) noEx) : FnOk P w K mg base (L2.CX P w) (0 + 1) a0 d0 [(PySem.Str.ofString "script"), (PySem.Str.ofString "budget")] (spO K 2 F) :=
  okO Fu sc__law_pool rfl rfl (fun cdv A outer s H E G xw hr xo => have nd := sc__law_pool.nd; (p_disp (pa_cons' (p_frz (p_list (by rfl) m_list (p_var 0 (pv 0)))) (pa_cons' p_int (pa_cons' p_int (pa_cons' p_int (pa_cons' p_int (pa_cons' (p_var 1 (pv 1)) pa_nil')))))))) hw
abbrev s__law_draw : Stmt := topS 20
abbrev N__law_draw : List Str := [(PySem.Str.ofString "pool"), (PySem.Str.ofString "size"), (PySem.Str.ofString "cell"), (PySem.Str.ofString "value")]
theorem sc__law_draw : FnScope N__law_draw [(PySem.Str.ofString "pool"), (PySem.Str.ofString "size")] (defScope s__law_draw) := ⟨rfl, rfl, rfl, by decide +kernel, rfl, by decide +kernel, by decide +kernel⟩
def S__law_draw  : Sx := sOpen 0 (sSeq (sIf (bAnd (bV (eOp2 dLe (eIxP 0 (eC (.int 2))) (eC (.int 0)))) (bAnd (bV (eOp2 dLe (eIxP 0 (eC (.int 4))) (eC (.int 0)))) (bV (eOp2 dLt (eIxP 0 (eC (.int 1))) (eOpN dLen (eCons (eIxP 0 (eC (.int 0))) (eNil))))))) (sSeq (sSet 2 (eIdx (eIxP 0 (eC (.int 0))) (eIxP 0 (eC (.int 1))))) (sSeq (sPutP 0 (eC (.int 1)) (eOp2 dAdd (eIxP 0 (eC (.int 1))) (eC (.int 1)))) (sSeq (sPutP 0 (eC (.int 3)) (eOp2 dMod (eOpN dInt (eCons (eOp2 dAdd (eOp2 dMul (eIxP 0 (eC (.int 3))) (eC (.int 31))) (eVar 2)) (eNil))) (eC (.int 2147483647)))) (sSeq (sPutP 0 (eC (.int 4)) (eC (.int 7))) (sIf (bV (eOp2 dGe (eVar 2) (eOp2 dPow (eC (.int 10)) (eC (.int 18))))) (sPutP 0 (eC (.int 2)) (eVar 2)) (sPass)))))) (sPass)) (sSeq (sIf (bV (eOp2 dGt (eIxP 0 (eC (.int 2))) (eC (.int 0)))) (sSeq (sSet 3 (eOp2 dMod (eOpN dInt (eCons (eIxP 0 (eC (.int 2))) (eNil))) (eVar 1))) (sSeq (sPutP 0 (eC (.int 2)) (eOp2 dDiv (eIxP 0 (eC (.int 2))) (eVar 1))) (sSeq (sPutP 0 (eC (.int 4)) (eC (.int 0))) (sRet (eVar 3))))) (sPass)) (sSeq (sPutP 0 (eC (.int 4)) (eOp2 dSub (eIxP 0 (eC (.int 4))) (eC (.int 1)))) (sSeq (sPutP 0 (eC (.int 3)) (eOp2 dMod (eOpN dInt (eCons (eOp2 dAdd (eOp2 dMul (eIxP 0 (eC (.int 3))) (eC (.int 48271))) (eC (.int 12345))) (eNil))) (eC (.int 2147483647)))) (sRet (eOp2 dMod (eOp2 dMod (eOpN dInt (eCons (eOp2 dAdd (eOp2 dMul (eIxP 0 (eC (.int 3))) (eC (.int 69621))) (eC (.int 7919))) (eNil))) (eC (.int 2147483647))) (eVar 1)))))))
theorem ok__law_draw {P : Program} {w : World} {K : PySem.W.Frag} {mg : Str → Option Value} {base : Heap} {a0 : Addr} {d0 : FuncData}  {F : Fn} (Fu : Fun K (PySem.Str.ofString "_law_draw") (PySem.Str.ofString "_law_draw") s__law_draw a0 d0) (m_int : mg (PySem.Str.ofString "int") = none) (m_len : mg (PySem.Str.ofString "len") = none) (hw : KeepsP 1 N__law_draw.length F (S__law_draw )) : FnOk P w K mg base (L2.CX P w) (0 + 1) a0 d0 [(PySem.Str.ofString "pool"), (PySem.Str.ofString "size")] (spL K mg 1 F) :=
  okL Fu sc__law_draw rfl (fun cdv A outer s H E G xw hr xo => have nd := sc__law_draw.nd; (ss_open 0 (ss_cons (s_if (PW.pt (t_and (t_cmp op_le f_le (p_ixP (pv 0) p_int) p_int (by first | exact nomark _ | rfl)) (t_and (t_cmp op_le f_le (p_ixP (pv 0) p_int) p_int (by first | exact nomark _ | rfl)) (t_and1 (t_cmp op_lt f_lt (p_ixP (pv 0) p_int) (p_callB c_len f_len (by rfl) m_len rfl (pa_cons' (p_ixP (pv 0) p_int) pa_nil')) (by first | exact nomark _ | rfl)))))) (ss_cons (s_set (i := 2) nd rfl (by first | exact .inl rfl | exact .inr rfl) (p_idx (p_ixP (pv 0) p_int) (p_ixP (pv 0) p_int))) (ss_cons (g_putP (pv 0) p_int (p_op o_add f_add (p_ixP (pv 0) p_int) p_int)) (ss_cons (g_putP (pv 0) p_int (p_op op_mod f_mod (p_callTy call_int1 f_int (by rfl) m_int rfl (pa_cons' (p_op o_add f_add (p_op op_mul f_mul (p_ixP (pv 0) p_int) p_int) (p_var 2 (pv 2))) pa_nil')) p_int)) (ss_cons (g_putP (pv 0) p_int p_int) (ss_one (s_if (t_cmp op_ge f_ge (p_var 2 (pv 2)) (p_op op_pow f_pow p_int p_int) (by first | exact nomark _ | rfl)) (ss_one (g_putP (pv 0) p_int (p_var 2 (pv 2)))) ss_nil)))))) ss_nil) (ss_cons (s_if (t_cmp op_gt f_gt (p_ixP (pv 0) p_int) p_int (by first | exact nomark _ | rfl)) (ss_cons (s_set (i := 3) nd rfl (by first | exact .inl rfl | exact .inr rfl) (p_op op_mod f_mod (p_callTy call_int1 f_int (by rfl) m_int rfl (pa_cons' (p_ixP (pv 0) p_int) pa_nil')) (p_var 1 (pv 1)))) (ss_cons (g_putP (pv 0) p_int (p_op op_fdiv f_div (p_ixP (pv 0) p_int) (p_var 1 (pv 1)))) (ss_cons (g_putP (pv 0) p_int p_int) (ss_one (s_ret (p_var 3 (pv 3))))))) ss_nil) (ss_cons (g_putP (pv 0) p_int (p_op op_sub f_sub (p_ixP (pv 0) p_int) p_int)) (ss_cons (g_putP (pv 0) p_int (p_op op_mod f_mod (p_callTy call_int1 f_int (by rfl) m_int rfl (pa_cons' (p_op o_add f_add (p_op op_mul f_mul (p_ixP (pv 0) p_int) p_int) p_int) pa_nil')) p_int)) (ss_one (s_ret (p_op op_mod f_mod (p_op op_mod f_mod (p_callTy call_int1 f_int (by rfl) m_int rfl (pa_cons' (p_op o_add f_add (p_op op_mul f_mul (p_ixP (pv 0) p_int) p_int) p_int) pa_nil')) p_int) (p_var 1 (pv 1))))))))))) hw
abbrev s__law_same : Stmt := topS 21
abbrev N__law_same : List Str := [(PySem.Str.ofString "actual"), (PySem.Str.ofString "due"), (PySem.Str.ofString "k")]
theorem sc__law_same : FnScope N__law_same [(PySem.Str.ofString "actual"), (PySem.Str.ofString "due")] (defScope s__law_same) := ⟨rfl, rfl, rfl, by decide +kernel, rfl, by decide +kernel, by decide +kernel⟩
def S__law_same (F__law_same : Fn) : Sx := sSeq (sIf (bOr (bT (eIsi "tuple" (eVar 1))) (bT (eIsi "list" (eVar 1)))) (sSeq (sIf (bOr (bV (eOp2 dNe (eIsi "tuple" (eVar 1)) (eIsi "tuple" (eVar 0)))) (bV (eOp2 dNe (eIsi "list" (eVar 1)) (eIsi "list" (eVar 0))))) (sRet (eC (.bl false))) (sPass)) (sSeq (sIf (bV (eOp2 dNe (eOpN dLen (eCons (eVar 0) (eNil))) (eOpN dLen (eCons (eVar 1) (eNil))))) (sRet (eC (.bl false))) (sPass)) (sSeq (sFor (iRange1 (eOpN dLen (eCons (eVar 1) (eNil)))) (.name 2) (sIf (bNot (bT (eCall F__law_same 2 (eCons (eIdx (eVar 0) (eVar 2)) (eCons (eIdx (eVar 1) (eVar 2)) (eNil)))))) (sRet (eC (.bl false))) (sPass))) (sRet (eC (.bl true)))))) (sPass)) (sSeq (sIf (bOr (bV (eOp2 dIsN (eVar 1) (eC .non))) (bT (eIsi "bool" (eVar 1)))) (sRet (eAnd (eOp2 dEq (eOp2 dIsN (eVar 0) (eC .non)) (eOp2 dIsN (eVar 1) (eC .non))) (eAnd (eOr (eOp2 dIsN (eVar 1) (eC .non)) (eIsi "bool" (eVar 0))) (eOp2 dEq (eVar 0) (eVar 1))))) (sPass)) (sSeq (sIf (bT (eIsi "int" (eVar 1))) (sRet (eAnd (eIsi "int" (eVar 0)) (eAnd (eNot (eIsi "bool" (eVar 0))) (eOp2 dEq (eVar 0) (eVar 1))))) (sPass)) (sRet (eAnd (eIsi "str" (eVar 0)) (eOp2 dEq (eVar 0) (eVar 1))))))
theorem ok__law_same {P : Program} {w : World} {K : PySem.W.Frag} {mg : Str → Option Value} {base : Heap} {kk : Nat} {a0 : Addr} {d0 : FuncData} (F__law_same : Fn) {F : Fn} (Fu : Fun K (PySem.Str.ofString "_law_same") (PySem.Str.ofString "_law_same") s__law_same a0 d0) (m_isinstance : mg (PySem.Str.ofString "isinstance") = none) (m_int : mg (PySem.Str.ofString "int") = none) (m_tuple : mg (PySem.Str.ofString "tuple") = none) (m_list : mg (PySem.Str.ofString "list") = none) (m_range : mg (PySem.Str.ofString "range") = none) (m_bool : mg (PySem.Str.ofString "bool") = none) (m_str : mg (PySem.Str.ofString "str") = none) (m_len : mg (PySem.Str.ofString "len") = none) {a__law_same : Addr} {d__law_same : FuncData} (f_law_same : FnOk P w K mg base (L2.CX P w) (kk) a__law_same d__law_same [(PySem.Str.ofString "actual"), (PySem.Str.ofString "due")] (spD K mg 2 F__law_same)) (g_law_same : mg (PySem.Str.ofString "_law_same") = some (.ref a__law_same)) (k_law_same : PySem.W.keepIn K (.ref a__law_same) = true) (b_law_same : Binds K d__law_same [(PySem.Str.ofString "actual"), (PySem.Str.ofString "due")] []) (hw : Keeps 2 N__law_same.length F (S__law_same F__law_same)) : FnOk P w K mg base (L2.CX P w) (kk + 1) a0 d0 [(PySem.Str.ofString "actual"), (PySem.Str.ofString "due")] (spD K mg 2 F) :=
  okD Fu sc__law_same rfl (fun cdv A outer s H E G xw hr xo => have nd := sc__law_same.nd; (ss_cons (s_if (PW.pt (t_or (t_truth (p_isi (by rfl) m_isinstance rfl (p_var 1 (pv 1)) (pe_bltn (by rfl) m_tuple rfl rfl) (by simp))) (t_or1 (t_truth (p_isi (by rfl) m_isinstance rfl (p_var 1 (pv 1)) (pe_bltn (by rfl) m_list rfl rfl) (by simp)))))) (ss_cons (s_if (PW.pt (t_or (t_cmp (op_neD (units_of hr (by decide))) f_ne (p_isi (by rfl) m_isinstance rfl (p_var 1 (pv 1)) (pe_bltn (by rfl) m_tuple rfl rfl) (by simp)) (p_isi (by rfl) m_isinstance rfl (p_var 0 (pv 0)) (pe_bltn (by rfl) m_tuple rfl rfl) (by simp)) (by first | exact nomark _ | rfl)) (t_or1 (t_cmp (op_neD (units_of hr (by decide))) f_ne (p_isi (by rfl) m_isinstance rfl (p_var 1 (pv 1)) (pe_bltn (by rfl) m_list rfl rfl) (by simp)) (p_isi (by rfl) m_isinstance rfl (p_var 0 (pv 0)) (pe_bltn (by rfl) m_list rfl rfl) (by simp)) (by first | exact nomark _ | rfl))))) (ss_one (s_ret p_bl)) ss_nil) (ss_cons (s_if (t_cmp (op_neD (units_of hr (by decide))) f_ne (p_callB c_len f_len (by rfl) m_len rfl (pa_cons' (p_var 0 (pv 0)) pa_nil')) (p_callB c_len f_len (by rfl) m_len rfl (pa_cons' (p_var 1 (pv 1)) pa_nil')) (by first | exact nomark _ | rfl)) (ss_one (s_ret p_bl)) ss_nil) (ss_cons (s_for (passes_of rfl) rfl (i_range1 (by rfl) m_range (p_callB c_len f_len (by rfl) m_len rfl (pa_cons' (p_var 1 (pv 1)) pa_nil'))) (g_name 2 (pg_name (i := 2) nd rfl (by first | exact .inl rfl | exact .inr rfl))) (ss_one (s_if (t_not (t_truth (p_call xo (f_law_same.mono (by first | decide | exact Nat.le_refl _)) (hr.mono (by first | decide | exact Nat.le_refl _)) (by rfl) g_law_same k_law_same b_law_same (pa_cons' (p_idx (p_var 0 (pv 0)) (p_var 2 (pv 2))) (pa_cons' (p_idx (p_var 1 (pv 1)) (p_var 2 (pv 2))) pa_nil'))))) (ss_one (s_ret p_bl)) ss_nil))) (ss_one (s_ret p_bl))))) ss_nil) (ss_cons (s_if (PW.pt (t_or (t_cmp op_isN f_isN (p_var 1 (pv 1)) p_non (by first | exact nomark _ | rfl)) (t_or1 (t_truth (p_isi (by rfl) m_isinstance rfl (p_var 1 (pv 1)) (pe_bltn (by rfl) m_bool rfl rfl) (by simp)))))) (ss_one (s_ret (p_and (p_cmp (op_eqD (units_of hr (by decide))) f_eq (p_cmp op_isN f_isN (p_var 0 (pv 0)) p_non (by first | exact nomark _ | rfl)) (p_cmp op_isN f_isN (p_var 1 (pv 1)) p_non (by first | exact nomark _ | rfl)) (by first | exact nomark _ | rfl)) (p_and (p_or (p_cmp op_isN f_isN (p_var 1 (pv 1)) p_non (by first | exact nomark _ | rfl)) (p_one (p_isi (by rfl) m_isinstance rfl (p_var 0 (pv 0)) (pe_bltn (by rfl) m_bool rfl rfl) (by simp)))) (p_one (p_cmp (op_eqD (units_of hr (by decide))) f_eq (p_var 0 (pv 0)) (p_var 1 (pv 1)) (by first | exact nomark _ | rfl))))))) ss_nil) (ss_cons (s_if (t_truth (p_isi (by rfl) m_isinstance rfl (p_var 1 (pv 1)) (pe_bltn (by rfl) m_int rfl rfl) (by simp))) (ss_one (s_ret (p_and (p_isi (by rfl) m_isinstance rfl (p_var 0 (pv 0)) (pe_bltn (by rfl) m_int rfl rfl) (by simp)) (p_and (p_not (p_isi (by rfl) m_isinstance rfl (p_var 0 (pv 0)) (pe_bltn (by rfl) m_bool rfl rfl) (by simp))) (p_one (p_cmp (op_eqD (units_of hr (by decide))) f_eq (p_var 0 (pv 0)) (p_var 1 (pv 1)) (by first | exact nomark _ | rfl))))))) ss_nil) (ss_one (s_ret (p_and (p_isi (by rfl) m_isinstance rfl (p_var 0 (pv 0)) (pe_bltn (by rfl) m_str rfl rfl) (by simp)) (p_one (p_cmp (op_eqD (units_of hr (by decide))) f_eq (p_var 0 (pv 0)) (p_var 1 (pv 1)) (by first | exact nomark _ | rfl)))))))))) hw
abbrev s__law_literals : Stmt := topS 22
abbrev N__law_literals : List Str := [(PySem.Str.ofString "pool"), (PySem.Str.ofString "count"), (PySem.Str.ofString "most"), (PySem.Str.ofString "found"), (PySem.Str.ofString "variable")]
theorem sc__law_literals : FnScope N__law_literals [(PySem.Str.ofString "pool"), (PySem.Str.ofString "count"), (PySem.Str.ofString "most")] (defScope s__law_literals) := ⟨rfl, rfl, rfl, by decide +kernel, rfl, by decide +kernel, by decide +kernel⟩
def S__law_literals (F__law_draw : Fn) : Sx := sSeq (sOwn 3 (eDisp (eNil))) (sSeq (sFor (iRange2 (eC (.int 1)) (eOp2 dAdd (eVar 1) (eC (.int 1)))) (.name 4) (sIf (bAnd (bV (eOp2 dLt (eLenO 3) (eVar 2))) (bV (eOp2 dEq (eCallP 0 F__law_draw 1 (eCons (eC (.int 3)) (eNil))) (eC (.int 0))))) (sAppend 3 (eIdx (eTup (eCons (eVar 4) (eCons (eOp2 dSub (eC (.int 0)) (eVar 4)) (eNil)))) (eCallP 0 F__law_draw 1 (eCons (eC (.int 2)) (eNil))))) (sPass))) (sFreeze 3 (sRet (eOpN dTuple (eCons (eVar 3) (eNil))))))
theorem ok__law_literals {P : Program} {w : World} {K : PySem.W.Frag} {mg : Str → Option Value} {base : Heap} {a0 : Addr} {d0 : FuncData} (F__law_draw : Fn) {F : Fn} (Fu : Fun K (PySem.Str.ofString "_law_literals") (PySem.Str.ofString "_law_literals") s__law_literals a0 d0) (m_range : mg (PySem.Str.ofString "range") = none) (m_tuple : mg (PySem.Str.ofString "tuple") = none) (m_len : mg (PySem.Str.ofString "len") = none) {a__law_draw : Addr} {d__law_draw : FuncData} (f_law_draw : FnOk P w K mg base (L2.CX P w) 1 a__law_draw d__law_draw [(PySem.Str.ofString "pool"), (PySem.Str.ofString "size")] (spL K mg 1 F__law_draw)) (g_law_draw : mg (PySem.Str.ofString "_law_draw") = some (.ref a__law_draw)) (k_law_draw : PySem.W.keepIn K (.ref a__law_draw) = true) (b_law_draw : Binds K d__law_draw [(PySem.Str.ofString "pool"), (PySem.Str.ofString "size")] []) (hw : KeepsP 2 N__law_literals.length F (S__law_literals F__law_draw)) : FnOk P w K mg base (L2.CX P w) (1 + 1) a0 d0 [(PySem.Str.ofString "pool"), (PySem.Str.ofString "count"), (PySem.Str.ofString "most")] (spL K mg 2 F) :=
  okL Fu sc__law_literals rfl (fun cdv A outer s H E G xw hr xo => have nd := sc__law_literals.nd; (ss_cons (s_own (i := 3) nd rfl (by first | exact .inl rfl | exact .inr rfl) (p_disp pa_nil')) (ss_cons (s_for (passes_of rfl) rfl (i_range2 (by rfl) m_range p_int (p_op o_add f_add (p_var 1 (pv 1)) p_int)) (g_name 4 (pg_name (i := 4) nd rfl (by first | exact .inl rfl | exact .inr rfl))) (ss_one (s_if (PW.pt (t_and (t_cmp op_lt f_lt (p_lenOwn (by rfl) m_len (pv 3)) (p_var 2 (pv 2)) (by first | exact nomark _ | rfl)) (t_and1 (t_cmp (op_eqD (units_of hr (by decide))) f_eq (p_callP (i := 0) (f_law_draw.mono (by first | decide | exact Nat.le_refl _)) (hr.mono (by first | decide | exact Nat.le_refl _)) (by rfl) g_law_draw k_law_draw b_law_draw (pv 0) (pa_cons' p_int pa_nil')) p_int (by first | exact nomark _ | rfl))))) (ss_one (s_append (pv 3) (p_idx (p_tup (pa_cons' (p_var 4 (pv 4)) (pa_cons' (p_op op_sub f_sub p_int (p_var 4 (pv 4))) pa_nil'))) (p_callP (i := 0) (f_law_draw.mono (by first | decide | exact Nat.le_refl _)) (hr.mono (by first | decide | exact Nat.le_refl _)) (by rfl) g_law_draw k_law_draw b_law_draw (pv 0) (pa_cons' p_int pa_nil'))))) ss_nil))) (ss_freeze 3 (ss_one (s_ret (p_callTy call_tuple_of f_tuple (by rfl) m_tuple rfl (pa_cons' (p_var 3 (pv 3)) pa_nil')))))))) hw
abbrev s__law_rows : Stmt := topS 23
abbrev N__law_rows : List Str := [(PySem.Str.ofString "count"), (PySem.Str.ofString "found"), (PySem.Str.ofString "turn"), (PySem.Str.ofString "longer"), (PySem.Str.ofString "own")]
theorem sc__law_rows : FnScope N__law_rows [(PySem.Str.ofString "count")] (defScope s__law_rows) := ⟨rfl, rfl, rfl, by decide +kernel, rfl, by decide +kernel, by decide +kernel⟩
def S__law_rows  : Sx := sSeq (sSet 1 (eFrz (eDisp (eCons (eTup (eNil)) (eNil))))) (sSeq (sFor (iRange1 (eVar 0)) (.name 2) (sSeq (sSet 3 (eFrz (eDisp (eNil)))) (sSeq (sFor (iSeq (eVar 1)) (.name 4) (sSet 3 (eOp2 dAdd (eVar 3) (eFrz (eDisp (eCons (eOp2 dAdd (eVar 4) (eTup (eCons (eC (.int 0)) (eNil)))) (eCons (eOp2 dAdd (eVar 4) (eTup (eCons (eC (.int 1)) (eNil)))) (eNil)))))))) (sSet 1 (eVar 3))))) (sRet (eVar 1)))
theorem ok__law_rows {P : Program} {w : World} {K : PySem.W.Frag} {mg : Str → Option Value} {base : Heap} {a0 : Addr} {d0 : FuncData}  {F : Fn} (Fu : Fun K (PySem.Str.ofString "_law_rows") (PySem.Str.ofString "_law_rows") s__law_rows a0 d0) (m_range : mg (PySem.Str.ofString "range") = none) (hw : Keeps 1 N__law_rows.length F (S__law_rows )) : FnOk P w K mg base (L2.CX P w) (0 + 1) a0 d0 [(PySem.Str.ofString "count")] (spD K mg 1 F) :=
  okD Fu sc__law_rows rfl (fun cdv A outer s H E G xw hr xo => have nd := sc__law_rows.nd; (ss_cons (s_set (i := 1) nd rfl (by first | exact .inl rfl | exact .inr rfl) (p_frz (p_disp (pa_cons' (p_tup pa_nil') pa_nil')))) (ss_cons (s_for (passes_of rfl) rfl (i_range1 (by rfl) m_range (p_var 0 (pv 0))) (g_name 2 (pg_name (i := 2) nd rfl (by first | exact .inl rfl | exact .inr rfl))) (ss_cons (s_set (i := 3) nd rfl (by first | exact .inl rfl | exact .inr rfl) (p_frz (p_disp pa_nil'))) (ss_cons (s_for (passes_of rfl) rfl (i_seq (p_var 1 (pv 1))) (g_name 4 (pg_name (i := 4) nd rfl (by first | exact .inl rfl | exact .inr rfl))) (ss_one (s_set (i := 3) nd rfl (by first | exact .inl rfl | exact .inr rfl) (p_op o_add f_add (p_var 3 (pv 3)) (p_frz (p_disp (pa_cons' (p_op o_add f_add (p_var 4 (pv 4)) (p_tup (pa_cons' p_int pa_nil'))) (pa_cons' (p_op o_add f_add (p_var 4 (pv 4)) (p_tup (pa_cons' p_int pa_nil'))) pa_nil')))))))) (ss_one (s_set (i := 1) nd rfl (by first | exact .inl rfl | exact .inr rfl) (p_var 3 (pv 3))))))) (ss_one (s_ret (p_var 1 (pv 1))))))) hw
abbrev s__law_holds : Stmt := topS 24
abbrev N__law_holds : List Str := [(PySem.Str.ofString "clause"), (PySem.Str.ofString "values"), (PySem.Str.ofString "literal")]
theorem sc__law_holds : FnScope N__law_holds [(PySem.Str.ofString "clause"), (PySem.Str.ofString "values")] (defScope s__law_holds) := ⟨rfl, rfl, rfl, by decide +kernel, rfl, by decide +kernel, by decide +kernel⟩
def S__law_holds  : Sx := sSeq (sFor (iSeq (eVar 0)) (.name 2) (sIf (bV (eOp2 dEq (eIdx (eVar 1) (eOp2 dSub (eOpN dAbs (eCons (eVar 2) (eNil))) (eC (.int 1)))) (eOpN dInt (eCons (eOp2 dGt (eVar 2) (eC (.int 0))) (eNil))))) (sRet (eC (.bl true))) (sPass))) (sRet (eC (.bl false)))
theorem ok__law_holds {P : Program} {w : World} {K : PySem.W.Frag} {mg : Str → Option Value} {base : Heap} {a0 : Addr} {d0 : FuncData}  {F : Fn} (Fu : Fun K (PySem.Str.ofString "_law_holds") (PySem.Str.ofString "_law_holds") s__law_holds a0 d0) (m_int : mg (PySem.Str.ofString "int") = none) (m_abs : mg (PySem.Str.ofString "abs") = none) (hw : Keeps 2 N__law_holds.length F (S__law_holds )) : FnOk P w K mg base (L2.CX P w) (0 + 1) a0 d0 [(PySem.Str.ofString "clause"), (PySem.Str.ofString "values")] (spD K mg 2 F) :=
  okD Fu sc__law_holds rfl (fun cdv A outer s H E G xw hr xo => have nd := sc__law_holds.nd; (ss_cons (s_for (passes_of rfl) rfl (i_seq (p_var 0 (pv 0))) (g_name 2 (pg_name (i := 2) nd rfl (by first | exact .inl rfl | exact .inr rfl))) (ss_one (s_if (t_cmp (op_eqD (units_of hr (by decide))) f_eq (p_idx (p_var 1 (pv 1)) (p_op op_sub f_sub (p_callB call_abs f_abs (by rfl) m_abs rfl (pa_cons' (p_var 2 (pv 2)) pa_nil')) p_int)) (p_callTy call_int1 f_int (by rfl) m_int rfl (pa_cons' (p_cmp op_gt f_gt (p_var 2 (pv 2)) p_int (by first | exact nomark _ | rfl)) pa_nil')) (by first | exact nomark _ | rfl)) (ss_one (s_ret p_bl)) ss_nil))) (ss_one (s_ret p_bl)))) hw
abbrev s__law_good : Stmt := topS 25
abbrev N__law_good : List Str := [(PySem.Str.ofString "hard"), (PySem.Str.ofString "values"), (PySem.Str.ofString "clause")]
theorem sc__law_good : FnScope N__law_good [(PySem.Str.ofString "hard"), (PySem.Str.ofString "values")] (defScope s__law_good) := ⟨rfl, rfl, rfl, by decide +kernel, rfl, by decide +kernel, by decide +kernel⟩
def S__law_good (F__law_holds : Fn) : Sx := sSeq (sFor (iSeq (eVar 0)) (.name 2) (sIf (bNot (bT (eCall F__law_holds 2 (eCons (eVar 2) (eCons (eVar 1) (eNil)))))) (sRet (eC (.bl false))) (sPass))) (sRet (eC (.bl true)))
theorem ok__law_good {P : Program} {w : World} {K : PySem.W.Frag} {mg : Str → Option Value} {base : Heap} {a0 : Addr} {d0 : FuncData} (F__law_holds : Fn) {F : Fn} (Fu : Fun K (PySem.Str.ofString "_law_good") (PySem.Str.ofString "_law_good") s__law_good a0 d0) {a__law_holds : Addr} {d__law_holds : FuncData} (f_law_holds : FnOk P w K mg base (L2.CX P w) 1 a__law_holds d__law_holds [(PySem.Str.ofString "clause"), (PySem.Str.ofString "values")] (spD K mg 2 F__law_holds)) (g_law_holds : mg (PySem.Str.ofString "_law_holds") = some (.ref a__law_holds)) (k_law_holds : PySem.W.keepIn K (.ref a__law_holds) = true) (b_law_holds : Binds K d__law_holds [(PySem.Str.ofString "clause"), (PySem.Str.ofString "values")] []) (hw : Keeps 2 N__law_good.length F (S__law_good F__law_holds)) : FnOk P w K mg base (L2.CX P w) (1 + 1) a0 d0 [(PySem.Str.ofString "hard"), (PySem.Str.ofString "values")] (spD K mg 2 F) :=
  okD Fu sc__law_good rfl (fun cdv A outer s H E G xw hr xo => have nd := sc__law_good.nd; (ss_cons (s_for (passes_of rfl) rfl (i_seq (p_var 0 (pv 0))) (g_name 2 (pg_name (i := 2) nd rfl (by first | exact .inl rfl | exact .inr rfl))) (ss_one (s_if (t_not (t_truth (p_call xo (f_law_holds.mono (by first | decide | exact Nat.le_refl _)) (hr.mono (by first | decide | exact Nat.le_refl _)) (by rfl) g_law_holds k_law_holds b_law_holds (pa_cons' (p_var 2 (pv 2)) (pa_cons' (p_var 1 (pv 1)) pa_nil'))))) (ss_one (s_ret p_bl)) ss_nil))) (ss_one (s_ret p_bl)))) hw
abbrev s__law_follows : Stmt := topS 26
abbrev N__law_follows : List Str := [(PySem.Str.ofString "clauses"), (PySem.Str.ofString "clause"), (PySem.Str.ofString "hints"), (PySem.Str.ofString "known"), (PySem.Str.ofString "literal"), (PySem.Str.ofString "turn"), (PySem.Str.ofString "left")]
theorem sc__law_follows : FnScope N__law_follows [(PySem.Str.ofString "clauses"), (PySem.Str.ofString "clause"), (PySem.Str.ofString "hints")] (defScope s__law_follows) := ⟨rfl, rfl, rfl, by decide +kernel, rfl, by decide +kernel, by decide +kernel⟩
def S__law_follows  : Sx := sSeq (sOwn 3 (eLC [4] (iSeq (eVar 1)) (.name 4) bYes (eOp2 dSub (eC (.int 0)) (eVar 4)))) (sSeq (sFor (iRange1 (eOpN dLen (eCons (eVar 2) (eNil)))) (.name 5) (sSeq (sIf (bNot (bV (eChain dLe dLt (eC (.int 0)) (eIdx (eVar 2) (eVar 5)) (eOpN dLen (eCons (eVar 0) (eNil)))))) (sRet (eC (.bl false))) (sPass)) (sSeq (sSet 6 (eFrz (eLC [4] (iSeq (eIdx (eVar 0) (eIdx (eVar 2) (eVar 5)))) (.name 4) (bV (eOwnIn true 3 (eOp2 dSub (eC (.int 0)) (eVar 4)))) (eVar 4)))) (sSeq (sIf (bV (eOp2 dEq (eVar 6) (eFrz (eDisp (eNil))))) (sRet (eOp2 dEq (eVar 5) (eOp2 dSub (eOpN dLen (eCons (eVar 2) (eNil))) (eC (.int 1))))) (sPass)) (sSeq (sIf (bOr (bV (eOp2 dGt (eOpN dLen (eCons (eVar 6) (eNil))) (eC (.int 1)))) (bV (eOwnIn false 3 (eIdx (eVar 6) (eC (.int 0)))))) (sRet (eC (.bl false))) (sPass)) (sAppend 3 (eIdx (eVar 6) (eC (.int 0))))))))) (sRet (eC (.bl false))))
theorem ok__law_follows {P : Program} {w : World} {K : PySem.W.Frag} {mg : Str → Option Value} {base : Heap} {a0 : Addr} {d0 : FuncData}  {F : Fn} (Fu : Fun K (PySem.Str.ofString "_law_follows") (PySem.Str.ofString "_law_follows") s__law_follows a0 d0) (m_range : mg (PySem.Str.ofString "range") = none) (m_len : mg (PySem.Str.ofString "len") = none) (hw : Keeps 3 N__law_follows.length F (S__law_follows )) : FnOk P w K mg base (L2.CX P w) (0 + 1) a0 d0 [(PySem.Str.ofString "clauses"), (PySem.Str.ofString "clause"), (PySem.Str.ofString "hints")] (spD K mg 3 F) :=
  okD Fu sc__law_follows rfl (fun cdv A outer s H E G xw hr xo => have nd := sc__law_follows.nd; (ss_cons (s_own (i := 3) nd rfl (by first | exact .inl rfl | exact .inr rfl) (p_lc rfl nd (i_seq (p_var 1 (pv 1))) (blkOk_by (own := [((PySem.Str.ofString "literal"), 4)]) (N := N__law_follows) (sc := defScope (s__law_follows)) (by decide +kernel)) (fun _ _ _ _ _ => (g_name 4 (pg_name (i := 4) nd rfl (by first | exact .inl rfl | exact .inr rfl)))) (fun _ _ _ _ _ => ts_nil) (fun _ _ _ _ _ => (p_op op_sub f_sub p_int (p_var 4 (pv 4)))) (by decide))) (ss_cons (s_for (passes_of rfl) rfl (i_range1 (by rfl) m_range (p_callB c_len f_len (by rfl) m_len rfl (pa_cons' (p_var 2 (pv 2)) pa_nil'))) (g_name 5 (pg_name (i := 5) nd rfl (by first | exact .inl rfl | exact .inr rfl))) (ss_cons (s_if (t_not (t_chain op_le f_le op_lt f_lt p_int (p_idx (p_var 2 (pv 2)) (p_var 5 (pv 5))) (p_callB c_len f_len (by rfl) m_len rfl (pa_cons' (p_var 0 (pv 0)) pa_nil')))) (ss_one (s_ret p_bl)) ss_nil) (ss_cons (s_setLc (i := 6) rfl nd rfl rfl (sw_true rfl rfl rfl (by decide +kernel)) (i_seq (p_idx (p_var 0 (pv 0)) (p_idx (p_var 2 (pv 2)) (p_var 5 (pv 5))))) (blkOk_by (own := [((PySem.Str.ofString "literal"), 4)]) (N := N__law_follows) (sc := defScope (s__law_follows)) (by decide +kernel)) (fun _ _ _ _ _ => (g_name 4 (pg_name (i := 4) nd rfl (by first | exact .inl rfl | exact .inr rfl)))) (fun _ _ _ _ _ => (ts_one (t_ownNotIn (units_of hr (by decide)) (pv 3) (p_op op_sub f_sub p_int (p_var 4 (pv 4))) (by first | exact nomark _ | rfl)))) (fun _ _ _ _ _ => (p_var 4 (pv 4))) (by decide)) (ss_cons (s_if (t_cmp (op_eqD (units_of hr (by decide))) f_eq (p_var 6 (pv 6)) (p_frz (p_disp pa_nil')) (by first | exact nomark _ | rfl)) (ss_one (s_ret (p_cmp (op_eqD (units_of hr (by decide))) f_eq (p_var 5 (pv 5)) (p_op op_sub f_sub (p_callB c_len f_len (by rfl) m_len rfl (pa_cons' (p_var 2 (pv 2)) pa_nil')) p_int) (by first | exact nomark _ | rfl)))) ss_nil) (ss_cons (s_if (PW.pt (t_or (t_cmp op_gt f_gt (p_callB c_len f_len (by rfl) m_len rfl (pa_cons' (p_var 6 (pv 6)) pa_nil')) p_int (by first | exact nomark _ | rfl)) (t_or1 (t_ownIn (units_of hr (by decide)) (pv 3) (p_idx (p_var 6 (pv 6)) p_int) (by first | exact nomark _ | rfl))))) (ss_one (s_ret p_bl)) ss_nil) (ss_one (s_append (pv 3) (p_idx (p_var 6 (pv 6)) p_int)))))))) (ss_one (s_ret p_bl))))) hw
abbrev s__law_ordered : Stmt := topS 27
abbrev N__law_ordered : List Str := [(PySem.Str.ofString "literals"), (PySem.Str.ofString "own"), (PySem.Str.ofString "literal")]
theorem sc__law_ordered : FnScope N__law_ordered [(PySem.Str.ofString "literals")] (defScope s__law_ordered) := ⟨rfl, rfl, rfl, by decide +kernel, rfl, by decide +kernel, by decide +kernel⟩
def S__law_ordered  : Sx := sRet (eOpN dTuple (eCons (eFrz (eLC [1] (iSeq (eFrz (eSortL (eLC [2] (iSeq (eVar 0)) (.name 2) bYes (eTup (eCons (eOpN dAbs (eCons (eVar 2) (eNil))) (eCons (eVar 2) (eNil)))))))) (.name 1) bYes (eIdx (eVar 1) (eC (.int 1))))) (eNil)))
theorem ok__law_ordered {P : Program} {w : World} {K : PySem.W.Frag} {mg : Str → Option Value} {base : Heap} {a0 : Addr} {d0 : FuncData}  {F : Fn} (Fu : Fun K (PySem.Str.ofString "_law_ordered") (PySem.Str.ofString "_law_ordered") s__law_ordered a0 d0) (m_tuple : mg (PySem.Str.ofString "tuple") = none) (m_sorted : mg (PySem.Str.ofString "sorted") = none) (m_abs : mg (PySem.Str.ofString "abs") = none) (hw : Keeps 1 N__law_ordered.length F (S__law_ordered )) : FnOk P w K mg base (L2.CX P w) (0 + 1) a0 d0 [(PySem.Str.ofString "literals")] (spD K mg 1 F) :=
  okD Fu sc__law_ordered rfl (fun cdv A outer s H E G xw hr xo => have nd := sc__law_ordered.nd; (ss_one (s_ret (p_callTy call_tuple_of f_tuple (by rfl) m_tuple rfl (pa_cons' (p_frz (p_lc rfl nd (i_seq (p_frz (p_sortL (units_of hr (by decide)) (by rfl) m_sorted (p_lc rfl nd (i_seq (p_var 0 (pv 0))) (blkOk_by (own := [((PySem.Str.ofString "literal"), 2)]) (N := N__law_ordered) (sc := defScope (s__law_ordered)) (by decide +kernel)) (fun _ _ _ _ _ => (g_name 2 (pg_name (i := 2) nd rfl (by first | exact .inl rfl | exact .inr rfl)))) (fun _ _ _ _ _ => ts_nil) (fun _ _ _ _ _ => (p_tup (pa_cons' (p_callB call_abs f_abs (by rfl) m_abs rfl (pa_cons' (p_var 2 (pv 2)) pa_nil')) (pa_cons' (p_var 2 (pv 2)) pa_nil')))) (by decide))))) (blkOk_by (own := [((PySem.Str.ofString "own"), 1)]) (N := N__law_ordered) (sc := defScope (s__law_ordered)) (by decide +kernel)) (fun _ _ _ _ _ => (g_name 1 (pg_name (i := 1) nd rfl (by first | exact .inl rfl | exact .inr rfl)))) (fun _ _ _ _ _ => ts_nil) (fun _ _ _ _ _ => (p_idx (p_var 1 (pv 1)) p_int)) (by decide))) pa_nil'))))) hw
abbrev s__law_leads : Stmt := topS 30
abbrev N__law_leads : List Str := [(PySem.Str.ofString "clauses"), (PySem.Str.ofString "clause"), (PySem.Str.ofString "known"), (PySem.Str.ofString "literal"), (PySem.Str.ofString "turn"), (PySem.Str.ofString "own"), (PySem.Str.ofString "left")]
theorem sc__law_leads : FnScope N__law_leads [(PySem.Str.ofString "clauses"), (PySem.Str.ofString "clause")] (defScope s__law_leads) := ⟨rfl, rfl, rfl, by decide +kernel, rfl, by decide +kernel, by decide +kernel⟩
def S__law_leads  : Sx := sSeq (sOwn 2 (eLC [3] (iSeq (eVar 1)) (.name 3) bYes (eOp2 dSub (eC (.int 0)) (eVar 3)))) (sSeq (sFor (iRange1 (eC (.int 20))) (.name 4) (sFor (iSeq (eVar 0)) (.name 5) (sSeq (sSet 6 (eFrz (eLC [3] (iSeq (eVar 5)) (.name 3) (bV (eOwnIn true 2 (eOp2 dSub (eC (.int 0)) (eVar 3)))) (eVar 3)))) (sSeq (sIf (bV (eOp2 dEq (eVar 6) (eFrz (eDisp (eNil))))) (sRet (eC (.bl true))) (sPass)) (sIf (bAnd (bV (eOp2 dEq (eOpN dLen (eCons (eVar 6) (eNil))) (eC (.int 1)))) (bV (eOwnIn true 2 (eIdx (eVar 6) (eC (.int 0)))))) (sAppend 2 (eIdx (eVar 6) (eC (.int 0)))) (sPass)))))) (sRet (eC (.bl false))))
theorem ok__law_leads {P : Program} {w : World} {K : PySem.W.Frag} {mg : Str → Option Value} {base : Heap} {a0 : Addr} {d0 : FuncData}  {F : Fn} (Fu : Fun K (PySem.Str.ofString "_law_leads") (PySem.Str.ofString "_law_leads") s__law_leads a0 d0) (m_range : mg (PySem.Str.ofString "range") = none) (m_len : mg (PySem.Str.ofString "len") = none) (hw : Keeps 2 N__law_leads.length F (S__law_leads )) : FnOk P w K mg base (L2.CX P w) (0 + 1) a0 d0 [(PySem.Str.ofString "clauses"), (PySem.Str.ofString "clause")] (spD K mg 2 F) :=
  okD Fu sc__law_leads rfl (fun cdv A outer s H E G xw hr xo => have nd := sc__law_leads.nd; (ss_cons (s_own (i := 2) nd rfl (by first | exact .inl rfl | exact .inr rfl) (p_lc rfl nd (i_seq (p_var 1 (pv 1))) (blkOk_by (own := [((PySem.Str.ofString "literal"), 3)]) (N := N__law_leads) (sc := defScope (s__law_leads)) (by decide +kernel)) (fun _ _ _ _ _ => (g_name 3 (pg_name (i := 3) nd rfl (by first | exact .inl rfl | exact .inr rfl)))) (fun _ _ _ _ _ => ts_nil) (fun _ _ _ _ _ => (p_op op_sub f_sub p_int (p_var 3 (pv 3)))) (by decide))) (ss_cons (s_for (passes_of rfl) rfl (i_range1 (by rfl) m_range p_int) (g_name 4 (pg_name (i := 4) nd rfl (by first | exact .inl rfl | exact .inr rfl))) (ss_one (s_for (passes_of rfl) rfl (i_seq (p_var 0 (pv 0))) (g_name 5 (pg_name (i := 5) nd rfl (by first | exact .inl rfl | exact .inr rfl))) (ss_cons (s_setLc (i := 6) rfl nd rfl rfl (sw_true rfl rfl rfl (by decide +kernel)) (i_seq (p_var 5 (pv 5))) (blkOk_by (own := [((PySem.Str.ofString "literal"), 3)]) (N := N__law_leads) (sc := defScope (s__law_leads)) (by decide +kernel)) (fun _ _ _ _ _ => (g_name 3 (pg_name (i := 3) nd rfl (by first | exact .inl rfl | exact .inr rfl)))) (fun _ _ _ _ _ => (ts_one (t_ownNotIn (units_of hr (by decide)) (pv 2) (p_op op_sub f_sub p_int (p_var 3 (pv 3))) (by first | exact nomark _ | rfl)))) (fun _ _ _ _ _ => (p_var 3 (pv 3))) (by decide)) (ss_cons (s_if (t_cmp (op_eqD (units_of hr (by decide))) f_eq (p_var 6 (pv 6)) (p_frz (p_disp pa_nil')) (by first | exact nomark _ | rfl)) (ss_one (s_ret p_bl)) ss_nil) (ss_one (s_if (PW.pt (t_and (t_cmp (op_eqD (units_of hr (by decide))) f_eq (p_callB c_len f_len (by rfl) m_len rfl (pa_cons' (p_var 6 (pv 6)) pa_nil')) p_int (by first | exact nomark _ | rfl)) (t_and1 (t_ownNotIn (units_of hr (by decide)) (pv 2) (p_idx (p_var 6 (pv 6)) p_int) (by first | exact nomark _ | rfl))))) (ss_one (s_append (pv 2) (p_idx (p_var 6 (pv 6)) p_int))) ss_nil))))))) (ss_one (s_ret p_bl))))) hw
abbrev s__law_link : Stmt := topS 31
abbrev N__law_link : List Str := [(PySem.Str.ofString "here"), (PySem.Str.ofString "other"), (PySem.Str.ofString "variable"), (PySem.Str.ofString "rest"), (PySem.Str.ofString "literal")]
theorem sc__law_link : FnScope N__law_link [(PySem.Str.ofString "here"), (PySem.Str.ofString "other"), (PySem.Str.ofString "variable")] (defScope s__law_link) := ⟨rfl, rfl, rfl, by decide +kernel, rfl, by decide +kernel, by decide +kernel⟩
def S__law_link (F__law_ordered : Fn) : Sx := sSeq (sIf (bOr (bV (eOp2 dEq (eOp2 (dIn false) (eVar 2) (eVar 0)) (eOp2 (dIn false) (eVar 2) (eVar 1)))) (bV (eOp2 dEq (eOp2 (dIn false) (eOp2 dSub (eC (.int 0)) (eVar 2)) (eVar 0)) (eOp2 (dIn false) (eOp2 dSub (eC (.int 0)) (eVar 2)) (eVar 1))))) (sRet (eC .non)) (sPass)) (sSeq (sSet 3 (eFrz (eLC [4] (iSeq (eOp2 dAdd (eVar 0) (eVar 1))) (.name 4) (bV (eOp2 dNe (eOpN dAbs (eCons (eVar 4) (eNil))) (eVar 2))) (eVar 4)))) (sSeq (sIf (bV (eOp2 dNe (eFrz (eLC [4] (iSeq (eVar 3)) (.name 4) (bV (eOp2 (dIn false) (eOp2 dSub (eC (.int 0)) (eVar 4)) (eVar 3))) (eVar 4))) (eFrz (eDisp (eNil))))) (sRet (eC .non)) (sPass)) (sRet (eCall F__law_ordered 1 (eCons (eFrz (eSortI (eVar 3))) (eNil))))))
theorem ok__law_link {P : Program} {w : World} {K : PySem.W.Frag} {mg : Str → Option Value} {base : Heap} {a0 : Addr} {d0 : FuncData} (F__law_ordered : Fn) {F : Fn} (Fu : Fun K (PySem.Str.ofString "_law_link") (PySem.Str.ofString "_law_link") s__law_link a0 d0) (m_sorted : mg (PySem.Str.ofString "sorted") = none) (m_set : mg (PySem.Str.ofString "set") = none) (m_abs : mg (PySem.Str.ofString "abs") = none) {a__law_ordered : Addr} {d__law_ordered : FuncData} (f_law_ordered : FnOk P w K mg base (L2.CX P w) 1 a__law_ordered d__law_ordered [(PySem.Str.ofString "literals")] (spD K mg 1 F__law_ordered)) (g_law_ordered : mg (PySem.Str.ofString "_law_ordered") = some (.ref a__law_ordered)) (k_law_ordered : PySem.W.keepIn K (.ref a__law_ordered) = true) (b_law_ordered : Binds K d__law_ordered [(PySem.Str.ofString "literals")] []) (hw : Keeps 3 N__law_link.length F (S__law_link F__law_ordered)) : FnOk P w K mg base (L2.CX P w) (1 + 1) a0 d0 [(PySem.Str.ofString "here"), (PySem.Str.ofString "other"), (PySem.Str.ofString "variable")] (spD K mg 3 F) :=
  okD Fu sc__law_link rfl (fun cdv A outer s H E G xw hr xo => have nd := sc__law_link.nd; (ss_cons (s_if (PW.pt (t_or (t_cmp (op_eqD (units_of hr (by decide))) f_eq (p_cmp (o_in (units_of hr (by decide))) f_in (p_var 2 (pv 2)) (p_var 0 (pv 0)) (by first | exact nomark _ | rfl)) (p_cmp (o_in (units_of hr (by decide))) f_in (p_var 2 (pv 2)) (p_var 1 (pv 1)) (by first | exact nomark _ | rfl)) (by first | exact nomark _ | rfl)) (t_or1 (t_cmp (op_eqD (units_of hr (by decide))) f_eq (p_cmp (o_in (units_of hr (by decide))) f_in (p_op op_sub f_sub p_int (p_var 2 (pv 2))) (p_var 0 (pv 0)) (by first | exact nomark _ | rfl)) (p_cmp (o_in (units_of hr (by decide))) f_in (p_op op_sub f_sub p_int (p_var 2 (pv 2))) (p_var 1 (pv 1)) (by first | exact nomark _ | rfl)) (by first | exact nomark _ | rfl))))) (ss_one (s_ret p_non)) ss_nil) (ss_cons (s_set (i := 3) nd rfl (by first | exact .inl rfl | exact .inr rfl) (p_frz (p_lc rfl nd (i_seq (p_op o_add f_add (p_var 0 (pv 0)) (p_var 1 (pv 1)))) (blkOk_by (own := [((PySem.Str.ofString "literal"), 4)]) (N := N__law_link) (sc := defScope (s__law_link)) (by decide +kernel)) (fun _ _ _ _ _ => (g_name 4 (pg_name (i := 4) nd rfl (by first | exact .inl rfl | exact .inr rfl)))) (fun _ _ _ _ _ => (ts_one (t_cmp (op_neD (units_of hr (by decide))) f_ne (p_callB call_abs f_abs (by rfl) m_abs rfl (pa_cons' (p_var 4 (pv 4)) pa_nil')) (p_var 2 (pv 2)) (by first | exact nomark _ | rfl)))) (fun _ _ _ _ _ => (p_var 4 (pv 4))) (by decide)))) (ss_cons (s_if (t_cmp (op_neD (units_of hr (by decide))) f_ne (p_frz (p_lc rfl nd (i_seq (p_var 3 (pv 3))) (blkOk_by (own := [((PySem.Str.ofString "literal"), 4)]) (N := N__law_link) (sc := defScope (s__law_link)) (by decide +kernel)) (fun _ _ _ _ _ => (g_name 4 (pg_name (i := 4) nd rfl (by first | exact .inl rfl | exact .inr rfl)))) (fun _ _ _ _ _ => (ts_one (t_cmp (o_in (units_of hr (by decide))) f_in (p_op op_sub f_sub p_int (p_var 4 (pv 4))) (p_var 3 (pv 3)) (by first | exact nomark _ | rfl)))) (fun _ _ _ _ _ => (p_var 4 (pv 4))) (by decide))) (p_frz (p_disp pa_nil')) (by first | exact nomark _ | rfl)) (ss_one (s_ret p_non)) ss_nil) (ss_one (s_ret (p_call xo (f_law_ordered.mono (by first | decide | exact Nat.le_refl _)) (hr.mono (by first | decide | exact Nat.le_refl _)) (by rfl) g_law_ordered k_law_ordered b_law_ordered (pa_cons' (p_frz (p_sortSet rfl (by rfl) m_sorted (by rfl) m_set (p_var 3 (pv 3)))) pa_nil')))))))) hw
abbrev s__law_end : Stmt := topS 32
abbrev N__law_end : List Str := [(PySem.Str.ofString "clauses"), (PySem.Str.ofString "chain"), (PySem.Str.ofString "here"), (PySem.Str.ofString "number"), (PySem.Str.ofString "variable")]
theorem sc__law_end : FnScope N__law_end [(PySem.Str.ofString "clauses"), (PySem.Str.ofString "chain")] (defScope s__law_end) := ⟨rfl, rfl, rfl, by decide +kernel, rfl, by decide +kernel, by decide +kernel⟩
def S__law_end (F__law_link : Fn) : Sx := sSeq (sIf (bNot (bV (eChain dLe dLt (eC (.int 0)) (eIdx (eVar 1) (eC (.int 0))) (eOpN dLen (eCons (eVar 0) (eNil)))))) (sRet (eC .non)) (sPass)) (sSeq (sSet 2 (eIdx (eVar 0) (eIdx (eVar 1) (eC (.int 0))))) (sSeq (sFor (iSeq (eIdx (eVar 1) (eC (.int 1)))) (.tup [.name 3, .name 4]) (sIf (bAnd (bV (eOp2 dNotN (eVar 2) (eC .non))) (bV (eChain dLe dLt (eC (.int 0)) (eVar 3) (eOpN dLen (eCons (eVar 0) (eNil)))))) (sSet 2 (eCall F__law_link 3 (eCons (eVar 2) (eCons (eIdx (eVar 0) (eVar 3)) (eCons (eVar 4) (eNil)))))) (sSet 2 (eC .non)))) (sRet (eVar 2))))
theorem ok__law_end {P : Program} {w : World} {K : PySem.W.Frag} {mg : Str → Option Value} {base : Heap} {a0 : Addr} {d0 : FuncData} (F__law_link : Fn) {F : Fn} (Fu : Fun K (PySem.Str.ofString "_law_end") (PySem.Str.ofString "_law_end") s__law_end a0 d0) (m_len : mg (PySem.Str.ofString "len") = none) {a__law_link : Addr} {d__law_link : FuncData} (f_law_link : FnOk P w K mg base (L2.CX P w) 2 a__law_link d__law_link [(PySem.Str.ofString "here"), (PySem.Str.ofString "other"), (PySem.Str.ofString "variable")] (spD K mg 3 F__law_link)) (g_law_link : mg (PySem.Str.ofString "_law_link") = some (.ref a__law_link)) (k_law_link : PySem.W.keepIn K (.ref a__law_link) = true) (b_law_link : Binds K d__law_link [(PySem.Str.ofString "here"), (PySem.Str.ofString "other"), (PySem.Str.ofString "variable")] []) (hw : Keeps 2 N__law_end.length F (S__law_end F__law_link)) : FnOk P w K mg base (L2.CX P w) (2 + 1) a0 d0 [(PySem.Str.ofString "clauses"), (PySem.Str.ofString "chain")] (spD K mg 2 F) :=
  okD Fu sc__law_end rfl (fun cdv A outer s H E G xw hr xo => have nd := sc__law_end.nd; (ss_cons (s_if (t_not (t_chain op_le f_le op_lt f_lt p_int (p_idx (p_var 1 (pv 1)) p_int) (p_callB c_len f_len (by rfl) m_len rfl (pa_cons' (p_var 0 (pv 0)) pa_nil')))) (ss_one (s_ret p_non)) ss_nil) (ss_cons (s_set (i := 2) nd rfl (by first | exact .inl rfl | exact .inr rfl) (p_idx (p_var 0 (pv 0)) (p_idx (p_var 1 (pv 1)) p_int))) (ss_cons (s_for (passes_of rfl) rfl (i_seq (p_idx (p_var 1 (pv 1)) p_int)) (g_tup rfl (gs_cons (g_name 3 (pg_name (i := 3) nd rfl (by first | exact .inl rfl | exact .inr rfl))) (gs_cons (g_name 4 (pg_name (i := 4) nd rfl (by first | exact .inl rfl | exact .inr rfl))) gs_nil))) (ss_one (s_if (PW.pt (t_and (t_cmp op_notN f_notN (p_var 2 (pv 2)) p_non (by first | exact nomark _ | rfl)) (t_and1 (t_chain op_le f_le op_lt f_lt p_int (p_var 3 (pv 3)) (p_callB c_len f_len (by rfl) m_len rfl (pa_cons' (p_var 0 (pv 0)) pa_nil')))))) (ss_one (s_set (i := 2) nd rfl (by first | exact .inl rfl | exact .inr rfl) (p_call xo (f_law_link.mono (by first | decide | exact Nat.le_refl _)) (hr.mono (by first | decide | exact Nat.le_refl _)) (by rfl) g_law_link k_law_link b_law_link (pa_cons' (p_var 2 (pv 2)) (pa_cons' (p_idx (p_var 0 (pv 0)) (p_var 3 (pv 3))) (pa_cons' (p_var 4 (pv 4)) pa_nil')))))) (ss_one (s_set (i := 2) nd rfl (by first | exact .inl rfl | exact .inr rfl) p_non))))) (ss_one (s_ret (p_var 2 (pv 2)))))))) hw
abbrev s_law : Stmt := topS 33
abbrev N_law : List Str := [(PySem.Str.ofString "script"), (PySem.Str.ofString "pool"), (PySem.Str.ofString "count"), (PySem.Str.ofString "clauses"), (PySem.Str.ofString "k"), (PySem.Str.ofString "turn"), (PySem.Str.ofString "clause"), (PySem.Str.ofString "order"), (PySem.Str.ofString "told"), (PySem.Str.ofString "leads"), (PySem.Str.ofString "made"), (PySem.Str.ofString "at"), (PySem.Str.ofString "values"), (PySem.Str.ofString "hints"), (PySem.Str.ofString "due"), (PySem.Str.ofString "chain"), (PySem.Str.ofString "end"), (PySem.Str.ofString "literal"), (PySem.Str.ofString "bad"), (PySem.Str.ofString "own")]
theorem sc_law : FnScope N_law [(PySem.Str.ofString "script")] (defScope s_law) := ⟨rfl, rfl, rfl, by decide +kernel, rfl, by decide +kernel, by decide +kernel⟩
def S_law {F__law_pool : List Da → (List Da → Prop) → Prop} (hF__law_pool : ∀ as k k', (∀ d, k d → k' d) → F__law_pool as k → F__law_pool as k') (F__law_draw : Fn) (F__law_literals : Fn) (F_hints_for : Fn) (F__law_leads : Fn) (F__law_follows : Fn) (F__law_same : Fn) (F_chain_of : Fn) (F__law_end : Fn) (F_follows : Fn) (F__law_rows : Fn) (F__law_good : Fn) (F_chain_end : Fn) (F__law_holds : Fn) (F_chain_right : Fn) : Sx := sSeq (sOwn 1 (eCallO F__law_pool hF__law_pool 2 (eCons (eVar 0) (eCons (eC (.int 0)) (eNil))))) (sPool 1 (sSeq (sSet 2 (eOp2 dAdd (eC (.int 2)) (eCallP 1 F__law_draw 1 (eCons (eC (.int 5)) (eNil))))) (sSeq (sOwn 3 (eDisp (eNil))) (sSeq (sFor (iRange1 (eOp2 dAdd (eC (.int 1)) (eCallP 1 F__law_draw 1 (eCons (eC (.int 9)) (eNil))))) (.name 4) (sAppend 3 (eCallP 1 F__law_literals 2 (eCons (eVar 2) (eCons (eC (.int 3)) (eNil)))))) (sFreeze 3 (sForget 4 (sSeq (sFor (iRange1 (eC (.int 5))) (.name 5) (sSeq (sSet 6 (eCallP 1 F__law_literals 2 (eCons (eVar 2) (eCons (eC (.int 3)) (eNil))))) (sSeq (sSet 7 (eFrz (iRange1 (eOpN dLen (eCons (eVar 3) (eNil)))))) (sSeq (sIf (bV (eOp2 dEq (eCallP 1 F__law_draw 1 (eCons (eC (.int 3)) (eNil))) (eC (.int 0)))) (sSet 7 (eRevL (eVar 7))) (sPass)) (sSeq (sSet 8 (eCall F_hints_for 3 (eCons (eFrz (eList (eVar 3))) (eCons (eVar 6) (eCons (eVar 7) (eNil)))))) (sSeq (sSet 9 (eCall F__law_leads 2 (eCons (eVar 3) (eCons (eVar 6) (eNil))))) (sSeq (sIf (bV (eOp2 dNe (eOp2 dNotN (eVar 8) (eC .non)) (eVar 9))) (sRet (eC (.bl false))) (sPass)) (sSeq (sSet 10 (eFrz (eDisp (eCons (eOpN dTuple (eCons (eFrz (eLC [4] (iRange1 (eCallP 1 F__law_draw 1 (eCons (eC (.int 4)) (eNil)))) (.name 4) bYes (eCallP 1 F__law_draw 1 (eCons (eOp2 dAdd (eOpN dLen (eCons (eVar 3) (eNil))) (eC (.int 1))) (eNil))))) (eNil))) (eNil))))) (sSeq (sIf (bT (eVar 9)) (sSeq (sIf (bOr (bNot (bT (eIsi "tuple" (eVar 8)))) (bNot (bT (eCall F__law_follows 3 (eCons (eVar 3) (eCons (eVar 6) (eCons (eVar 8) (eNil)))))))) (sRet (eC (.bl false))) (sPass)) (sSeq (sSet 11 (eCallP 1 F__law_draw 1 (eCons (eOpN dLen (eCons (eVar 8) (eNil))) (eNil)))) (sSeq (sSet 10 (eOp2 dAdd (eVar 10) (eFrz (eDisp (eCons (eVar 8) (eCons (eOp2 dAdd (eSl (eVar 8) (oNone) (oSome (eVar 11))) (eSl (eVar 8) (oSome (eOp2 dAdd (eVar 11) (eC (.int 1)))) (oNone))) (eCons (eOp2 dAdd (eOp2 dAdd (eSl (eVar 8) (oNone) (oSome (eVar 11))) (eSl (eVar 8) (oSome (eVar 11)) (oSome (eOp2 dAdd (eVar 11) (eC (.int 1)))))) (eSl (eVar 8) (oSome (eVar 11)) (oNone))) (eCons (eRevT (eVar 8)) (eCons (eOp2 dAdd (eOp2 dAdd (eSl (eVar 8) (oNone) (oSome (eVar 11))) (eTup (eCons (eCallP 1 F__law_draw 1 (eCons (eOpN dLen (eCons (eVar 3) (eNil))) (eNil))) (eNil)))) (eSl (eVar 8) (oSome (eOp2 dAdd (eVar 11) (eC (.int 1)))) (oNone))) (eCons (eOp2 dAdd (eVar 8) (eTup (eCons (eOp2 dSub (eC (.int 0)) (eC (.int 1))) (eNil)))) (eNil))))))))))) (sIf (bV (eOp2 dNe (eFrz (eLC [12] (iSeq (eCall F__law_rows 1 (eCons (eVar 2) (eNil)))) (.name 12) (bAnd (bT (eCall F__law_good 2 (eCons (eVar 3) (eCons (eVar 12) (eNil))))) (bNot (bT (eCall F__law_holds 2 (eCons (eVar 6) (eCons (eVar 12) (eNil))))))) (eVar 12))) (eFrz (eDisp (eNil))))) (sRet (eC (.bl false))) (sPass))))) (sPass)) (sFor (iSeq (eVar 10)) (.name 13) (sSeq (sSet 14 (eCall F__law_follows 3 (eCons (eVar 3) (eCons (eVar 6) (eCons (eVar 13) (eNil)))))) (sSeq (sIf (bNot (bT (eCall F__law_same 2 (eCons (eCall F_follows 3 (eCons (eVar 3) (eCons (eVar 6) (eCons (eVar 13) (eNil))))) (eCons (eVar 14) (eNil)))))) (sRet (eC (.bl false))) (sPass)) (sIf (bT (eVar 14)) (sSeq (sSet 15 (eCall F_chain_of 3 (eCons (eVar 3) (eCons (eVar 6) (eCons (eVar 13) (eNil)))))) (sSeq (sSet 16 (eCall F__law_end 2 (eCons (eVar 3) (eCons (eVar 15) (eNil))))) (sSeq (sIf (bOr (bV (eOp2 dIsN (eVar 16) (eC .non))) (bOr (bV (eOp2 dNe (eFrz (eLC [17] (iSeq (eVar 16)) (.name 17) (bV (eOp2 (dIn true) (eVar 17) (eVar 6))) (eVar 17))) (eFrz (eDisp (eNil))))) (bNot (bT (eCall F__law_same 2 (eCons (eCall F_chain_end 2 (eCons (eVar 3) (eCons (eVar 15) (eNil)))) (eCons (eVar 16) (eNil)))))))) (sRet (eC (.bl false))) (sPass)) (sSeq (sSet 18 (eTup (eCons (eIdx (eVar 15) (eC (.int 0))) (eCons (eSl (eIdx (eVar 15) (eC (.int 1))) (oSome (eC (.int 1))) (oNone)) (eNil))))) (sFor (iSeq (eTup (eCons (eVar 15) (eCons (eVar 18) (eCons (eTup (eCons (eCallP 1 F__law_draw 1 (eCons (eOp2 dAdd (eOpN dLen (eCons (eVar 3) (eNil))) (eC (.int 1))) (eNil))) (eCons (eIdx (eVar 15) (eC (.int 1))) (eNil)))) (eCons (eTup (eCons (eIdx (eVar 15) (eC (.int 0))) (eCons (eOp2 dAdd (eIdx (eVar 15) (eC (.int 1))) (eTup (eCons (eTup (eCons (eCallP 1 F__law_draw 1 (eCons (eOpN dLen (eCons (eVar 3) (eNil))) (eNil))) (eCons (eOp2 dAdd (eC (.int 1)) (eCallP 1 F__law_draw 1 (eCons (eVar 2) (eNil)))) (eNil)))) (eNil)))) (eNil)))) (eNil))))))) (.name 19) (sSeq (sSet 16 (eCall F__law_end 2 (eCons (eVar 3) (eCons (eVar 19) (eNil))))) (sIf (bOr (bNot (bT (eCall F__law_same 2 (eCons (eCall F_chain_end 2 (eCons (eVar 3) (eCons (eVar 19) (eNil)))) (eCons (eVar 16) (eNil)))))) (bNot (bT (eCall F__law_same 2 (eCons (eCall F_chain_right 3 (eCons (eVar 3) (eCons (eVar 6) (eCons (eVar 19) (eNil))))) (eCons (eAnd (eOp2 dNotN (eVar 16) (eC .non)) (eOp2 dEq (eFrz (eLC [17] (iSeq (eVar 16)) (.name 17) (bV (eOp2 (dIn true) (eVar 17) (eVar 6))) (eVar 17))) (eFrz (eDisp (eNil))))) (eNil))))))) (sRet (eC (.bl false))) (sPass)))))))) (sPass)))))))))))))) (sRet (eC (.bl true))))))))))
theorem ok_law {P : Program} {w : World} {K : PySem.W.Frag} {mg : Str → Option Value} {base : Heap} {a0 : Addr} {d0 : FuncData} {F__law_pool : List Da → (List Da → Prop) → Prop} (hF__law_pool : ∀ as k k', (∀ d, k d → k' d) → F__law_pool as k → F__law_pool as k') (F__law_draw : Fn) (F__law_literals : Fn) (F_hints_for : Fn) (F__law_leads : Fn) (F__law_follows : Fn) (F__law_same : Fn) (F_chain_of : Fn) (F__law_end : Fn) (F_follows : Fn) (F__law_rows : Fn) (F__law_good : Fn) (F_chain_end : Fn) (F__law_holds : Fn) (F_chain_right : Fn) {F : Fn} (Fu : Fun K (PySem.Str.ofString "law") (PySem.Str.ofString "law") s_law a0 d0) (m_range : mg (PySem.Str.ofString "range") = none) (m_list : mg (PySem.Str.ofString "list") = none) (m_tuple : mg (PySem.Str.ofString "tuple") = none) (m_len : mg (PySem.Str.ofString "len") = none) (m_isinstance : mg (PySem.Str.ofString "isinstance") = none) {a__law_pool : Addr} {d__law_pool : FuncData} (f_law_pool : FnOk P w K mg base (L2.CX P w) 1 a__law_pool d__law_pool [(PySem.Str.ofString "script"), (PySem.Str.ofString "budget")] (spO K 2 F__law_pool)) (g_law_pool : mg (PySem.Str.ofString "_law_pool") = some (.ref a__law_pool)) (k_law_pool : PySem.W.keepIn K (.ref a__law_pool) = true) (b_law_pool : Binds K d__law_pool [(PySem.Str.ofString "script"), (PySem.Str.ofString "budget")] []) {a__law_draw : Addr} {d__law_draw : FuncData} (f_law_draw : FnOk P w K mg base (L2.CX P w) 1 a__law_draw d__law_draw [(PySem.Str.ofString "pool"), (PySem.Str.ofString "size")] (spL K mg 1 F__law_draw)) (g_law_draw : mg (PySem.Str.ofString "_law_draw") = some (.ref a__law_draw)) (k_law_draw : PySem.W.keepIn K (.ref a__law_draw) = true) (b_law_draw : Binds K d__law_draw [(PySem.Str.ofString "pool"), (PySem.Str.ofString "size")] []) {a__law_literals : Addr} {d__law_literals : FuncData} (f_law_literals : FnOk P w K mg base (L2.CX P w) 2 a__law_literals d__law_literals [(PySem.Str.ofString "pool"), (PySem.Str.ofString "count"), (PySem.Str.ofString "most")] (spL K mg 2 F__law_literals)) (g_law_literals : mg (PySem.Str.ofString "_law_literals") = some (.ref a__law_literals)) (k_law_literals : PySem.W.keepIn K (.ref a__law_literals) = true) (b_law_literals : Binds K d__law_literals [(PySem.Str.ofString "pool"), (PySem.Str.ofString "count"), (PySem.Str.ofString "most")] []) {a_hints_for : Addr} {d_hints_for : FuncData} (fhints_for : FnOk P w K mg base (L2.CX P w) 2 a_hints_for d_hints_for [(PySem.Str.ofString "clauses"), (PySem.Str.ofString "clause"), (PySem.Str.ofString "order")] (spD K mg 3 F_hints_for)) (ghints_for : mg (PySem.Str.ofString "hints_for") = some (.ref a_hints_for)) (khints_for : PySem.W.keepIn K (.ref a_hints_for) = true) (bhints_for : Binds K d_hints_for [(PySem.Str.ofString "clauses"), (PySem.Str.ofString "clause"), (PySem.Str.ofString "order")] []) {a__law_leads : Addr} {d__law_leads : FuncData} (f_law_leads : FnOk P w K mg base (L2.CX P w) 1 a__law_leads d__law_leads [(PySem.Str.ofString "clauses"), (PySem.Str.ofString "clause")] (spD K mg 2 F__law_leads)) (g_law_leads : mg (PySem.Str.ofString "_law_leads") = some (.ref a__law_leads)) (k_law_leads : PySem.W.keepIn K (.ref a__law_leads) = true) (b_law_leads : Binds K d__law_leads [(PySem.Str.ofString "clauses"), (PySem.Str.ofString "clause")] []) {a__law_follows : Addr} {d__law_follows : FuncData} (f_law_follows : FnOk P w K mg base (L2.CX P w) 1 a__law_follows d__law_follows [(PySem.Str.ofString "clauses"), (PySem.Str.ofString "clause"), (PySem.Str.ofString "hints")] (spD K mg 3 F__law_follows)) (g_law_follows : mg (PySem.Str.ofString "_law_follows") = some (.ref a__law_follows)) (k_law_follows : PySem.W.keepIn K (.ref a__law_follows) = true) (b_law_follows : Binds K d__law_follows [(PySem.Str.ofString "clauses"), (PySem.Str.ofString "clause"), (PySem.Str.ofString "hints")] []) {a__law_same : Addr} {d__law_same : FuncData} (f_law_same : FnOk P w K mg base (L2.CX P w) 5 a__law_same d__law_same [(PySem.Str.ofString "actual"), (PySem.Str.ofString "due")] (spD K mg 2 F__law_same)) (g_law_same : mg (PySem.Str.ofString "_law_same") = some (.ref a__law_same)) (k_law_same : PySem.W.keepIn K (.ref a__law_same) = true) (b_law_same : Binds K d__law_same [(PySem.Str.ofString "actual"), (PySem.Str.ofString "due")] []) {a_chain_of : Addr} {d_chain_of : FuncData} (fchain_of : FnOk P w K mg base (L2.CX P w) 6 a_chain_of d_chain_of [(PySem.Str.ofString "clauses"), (PySem.Str.ofString "clause"), (PySem.Str.ofString "hints")] (spD K mg 3 F_chain_of)) (gchain_of : mg (PySem.Str.ofString "chain_of") = some (.ref a_chain_of)) (kchain_of : PySem.W.keepIn K (.ref a_chain_of) = true) (bchain_of : Binds K d_chain_of [(PySem.Str.ofString "clauses"), (PySem.Str.ofString "clause"), (PySem.Str.ofString "hints")] []) {a__law_end : Addr} {d__law_end : FuncData} (f_law_end : FnOk P w K mg base (L2.CX P w) 3 a__law_end d__law_end [(PySem.Str.ofString "clauses"), (PySem.Str.ofString "chain")] (spD K mg 2 F__law_end)) (g_law_end : mg (PySem.Str.ofString "_law_end") = some (.ref a__law_end)) (k_law_end : PySem.W.keepIn K (.ref a__law_end) = true) (b_law_end : Binds K d__law_end [(PySem.Str.ofString "clauses"), (PySem.Str.ofString "chain")] []) {a_follows : Addr} {d_follows : FuncData} (ffollows : FnOk P w K mg base (L2.CX P w) 1 a_follows d_follows [(PySem.Str.ofString "clauses"), (PySem.Str.ofString "clause"), (PySem.Str.ofString "hints")] (spD K mg 3 F_follows)) (gfollows : mg (PySem.Str.ofString "follows") = some (.ref a_follows)) (kfollows : PySem.W.keepIn K (.ref a_follows) = true) (bfollows : Binds K d_follows [(PySem.Str.ofString "clauses"), (PySem.Str.ofString "clause"), (PySem.Str.ofString "hints")] []) {a__law_rows : Addr} {d__law_rows : FuncData} (f_law_rows : FnOk P w K mg base (L2.CX P w) 1 a__law_rows d__law_rows [(PySem.Str.ofString "count")] (spD K mg 1 F__law_rows)) (g_law_rows : mg (PySem.Str.ofString "_law_rows") = some (.ref a__law_rows)) (k_law_rows : PySem.W.keepIn K (.ref a__law_rows) = true) (b_law_rows : Binds K d__law_rows [(PySem.Str.ofString "count")] []) {a__law_good : Addr} {d__law_good : FuncData} (f_law_good : FnOk P w K mg base (L2.CX P w) 2 a__law_good d__law_good [(PySem.Str.ofString "hard"), (PySem.Str.ofString "values")] (spD K mg 2 F__law_good)) (g_law_good : mg (PySem.Str.ofString "_law_good") = some (.ref a__law_good)) (k_law_good : PySem.W.keepIn K (.ref a__law_good) = true) (b_law_good : Binds K d__law_good [(PySem.Str.ofString "hard"), (PySem.Str.ofString "values")] []) {a_chain_end : Addr} {d_chain_end : FuncData} (fchain_end : FnOk P w K mg base (L2.CX P w) 6 a_chain_end d_chain_end [(PySem.Str.ofString "clauses"), (PySem.Str.ofString "chain")] (spD K mg 2 F_chain_end)) (gchain_end : mg (PySem.Str.ofString "chain_end") = some (.ref a_chain_end)) (kchain_end : PySem.W.keepIn K (.ref a_chain_end) = true) (bchain_end : Binds K d_chain_end [(PySem.Str.ofString "clauses"), (PySem.Str.ofString "chain")] []) {a__law_holds : Addr} {d__law_holds : FuncData} (f_law_holds : FnOk P w K mg base (L2.CX P w) 1 a__law_holds d__law_holds [(PySem.Str.ofString "clause"), (PySem.Str.ofString "values")] (spD K mg 2 F__law_holds)) (g_law_holds : mg (PySem.Str.ofString "_law_holds") = some (.ref a__law_holds)) (k_law_holds : PySem.W.keepIn K (.ref a__law_holds) = true) (b_law_holds : Binds K d__law_holds [(PySem.Str.ofString "clause"), (PySem.Str.ofString "values")] []) {a_chain_right : Addr} {d_chain_right : FuncData} (fchain_right : FnOk P w K mg base (L2.CX P w) 7 a_chain_right d_chain_right [(PySem.Str.ofString "clauses"), (PySem.Str.ofString "clause"), (PySem.Str.ofString "chain")] (spD K mg 3 F_chain_right)) (gchain_right : mg (PySem.Str.ofString "chain_right") = some (.ref a_chain_right)) (kchain_right : PySem.W.keepIn K (.ref a_chain_right) = true) (bchain_right : Binds K d_chain_right [(PySem.Str.ofString "clauses"), (PySem.Str.ofString "clause"), (PySem.Str.ofString "chain")] []) (hw : Keeps 1 N_law.length F (S_law hF__law_pool F__law_draw F__law_literals F_hints_for F__law_leads F__law_follows F__law_same F_chain_of F__law_end F_follows F__law_rows F__law_good F_chain_end F__law_holds F_chain_right)) : FnOk P w K mg base (L2.CX P w) (7 + 1) a0 d0 [(PySem.Str.ofString "script")] (spD K mg 1 F) :=
  okD Fu sc_law rfl (fun cdv A outer s H E G xw hr xo => have nd := sc_law.nd; (ss_cons (s_own (i := 1) nd rfl (by first | exact .inl rfl | exact .inr rfl) (p_callO (f_law_pool.mono (by first | decide | exact Nat.le_refl _)) (hr.mono (by first | decide | exact Nat.le_refl _)) (by rfl) g_law_pool k_law_pool b_law_pool (pa_cons' (p_var 0 (pv 0)) (pa_cons' p_int pa_nil')))) (ss_pool 1 (ss_cons (s_set (i := 2) nd rfl (by first | exact .inl rfl | exact .inr rfl) (p_op o_add f_add p_int (p_callP (i := 1) (f_law_draw.mono (by first | decide | exact Nat.le_refl _)) (hr.mono (by first | decide | exact Nat.le_refl _)) (by rfl) g_law_draw k_law_draw b_law_draw (pv 1) (pa_cons' p_int pa_nil')))) (ss_cons (s_own (i := 3) nd rfl (by first | exact .inl rfl | exact .inr rfl) (p_disp pa_nil')) (ss_cons (s_for (passes_of rfl) rfl (i_range1 (by rfl) m_range (p_op o_add f_add p_int (p_callP (i := 1) (f_law_draw.mono (by first | decide | exact Nat.le_refl _)) (hr.mono (by first | decide | exact Nat.le_refl _)) (by rfl) g_law_draw k_law_draw b_law_draw (pv 1) (pa_cons' p_int pa_nil')))) (g_name 4 (pg_name (i := 4) nd rfl (by first | exact .inl rfl | exact .inr rfl))) (ss_one (s_append (pv 3) (p_callP (i := 1) (f_law_literals.mono (by first | decide | exact Nat.le_refl _)) (hr.mono (by first | decide | exact Nat.le_refl _)) (by rfl) g_law_literals k_law_literals b_law_literals (pv 1) (pa_cons' (p_var 2 (pv 2)) (pa_cons' p_int pa_nil')))))) (ss_freeze 3 (ss_forget 4 (ss_cons (s_for (passes_of rfl) rfl (i_range1 (by rfl) m_range p_int) (g_name 5 (pg_name (i := 5) nd rfl (by first | exact .inl rfl | exact .inr rfl))) (ss_cons (s_set (i := 6) nd rfl (by first | exact .inl rfl | exact .inr rfl) (p_callP (i := 1) (f_law_literals.mono (by first | decide | exact Nat.le_refl _)) (hr.mono (by first | decide | exact Nat.le_refl _)) (by rfl) g_law_literals k_law_literals b_law_literals (pv 1) (pa_cons' (p_var 2 (pv 2)) (pa_cons' p_int pa_nil')))) (ss_cons (s_set (i := 7) nd rfl (by first | exact .inl rfl | exact .inr rfl) (p_frz (p_listRg1 rfl (by rfl) m_list (by rfl) m_range (p_callB c_len f_len (by rfl) m_len rfl (pa_cons' (p_var 3 (pv 3)) pa_nil'))))) (ss_cons (s_if (t_cmp (op_eqD (units_of hr (by decide))) f_eq (p_callP (i := 1) (f_law_draw.mono (by first | decide | exact Nat.le_refl _)) (hr.mono (by first | decide | exact Nat.le_refl _)) (by rfl) g_law_draw k_law_draw b_law_draw (pv 1) (pa_cons' p_int pa_nil')) p_int (by first | exact nomark _ | rfl)) (ss_one (s_set (i := 7) nd rfl (by first | exact .inl rfl | exact .inr rfl) (p_revL (p_var 7 (pv 7))))) ss_nil) (ss_cons (s_set (i := 8) nd rfl (by first | exact .inl rfl | exact .inr rfl) (p_call xo (fhints_for.mono (by first | decide | exact Nat.le_refl _)) (hr.mono (by first | decide | exact Nat.le_refl _)) (by rfl) ghints_for khints_for bhints_for (pa_cons' (p_frz (p_list (by rfl) m_list (p_var 3 (pv 3)))) (pa_cons' (p_var 6 (pv 6)) (pa_cons' (p_var 7 (pv 7)) pa_nil'))))) (ss_cons (s_set (i := 9) nd rfl (by first | exact .inl rfl | exact .inr rfl) (p_call xo (f_law_leads.mono (by first | decide | exact Nat.le_refl _)) (hr.mono (by first | decide | exact Nat.le_refl _)) (by rfl) g_law_leads k_law_leads b_law_leads (pa_cons' (p_var 3 (pv 3)) (pa_cons' (p_var 6 (pv 6)) pa_nil')))) (ss_cons (s_if (t_cmp (op_neD (units_of hr (by decide))) f_ne (p_cmp op_notN f_notN (p_var 8 (pv 8)) p_non (by first | exact nomark _ | rfl)) (p_var 9 (pv 9)) (by first | exact nomark _ | rfl)) (ss_one (s_ret p_bl)) ss_nil) (ss_cons (s_set (i := 10) nd rfl (by first | exact .inl rfl | exact .inr rfl) (p_frz (p_disp (pa_cons' (p_callTy call_tuple_of f_tuple (by rfl) m_tuple rfl (pa_cons' (p_frz (p_lc rfl nd (i_range1 (by rfl) m_range (p_callP (i := 1) (f_law_draw.mono (by first | decide | exact Nat.le_refl _)) (hr.mono (by first | decide | exact Nat.le_refl _)) (by rfl) g_law_draw k_law_draw b_law_draw (pv 1) (pa_cons' p_int pa_nil'))) (blkOk_by (own := [((PySem.Str.ofString "k"), 4)]) (N := N_law) (sc := defScope (s_law)) (by decide +kernel)) (fun _ _ _ _ _ => (g_name 4 (pg_name (i := 4) nd rfl (by first | exact .inl rfl | exact .inr rfl)))) (fun _ _ _ _ _ => ts_nil) (fun _ _ _ _ _ => (p_callP (i := 1) (f_law_draw.mono (by first | decide | exact Nat.le_refl _)) (hr.mono (by first | decide | exact Nat.le_refl _)) (by rfl) g_law_draw k_law_draw b_law_draw (pv 1) (pa_cons' (p_op o_add f_add (p_callB c_len f_len (by rfl) m_len rfl (pa_cons' (p_var 3 (pv 3)) pa_nil')) p_int) pa_nil'))) (by decide))) pa_nil')) pa_nil')))) (ss_cons (s_if (t_truth (p_var 9 (pv 9))) (ss_cons (s_if (PW.pt (t_or (t_not (t_truth (p_isi (by rfl) m_isinstance rfl (p_var 8 (pv 8)) (pe_bltn (by rfl) m_tuple rfl rfl) (by simp)))) (t_or1 (t_not (t_truth (p_call xo (f_law_follows.mono (by first | decide | exact Nat.le_refl _)) (hr.mono (by first | decide | exact Nat.le_refl _)) (by rfl) g_law_follows k_law_follows b_law_follows (pa_cons' (p_var 3 (pv 3)) (pa_cons' (p_var 6 (pv 6)) (pa_cons' (p_var 8 (pv 8)) pa_nil'))))))))) (ss_one (s_ret p_bl)) ss_nil) (ss_cons (s_set (i := 11) nd rfl (by first | exact .inl rfl | exact .inr rfl) (p_callP (i := 1) (f_law_draw.mono (by first | decide | exact Nat.le_refl _)) (hr.mono (by first | decide | exact Nat.le_refl _)) (by rfl) g_law_draw k_law_draw b_law_draw (pv 1) (pa_cons' (p_callB c_len f_len (by rfl) m_len rfl (pa_cons' (p_var 8 (pv 8)) pa_nil')) pa_nil'))) (ss_cons (s_set (i := 10) nd rfl (by first | exact .inl rfl | exact .inr rfl) (p_op o_add f_add (p_var 10 (pv 10)) (p_frz (p_disp (pa_cons' (p_var 8 (pv 8)) (pa_cons' (p_op o_add f_add (p_sl (p_var 8 (pv 8)) o_none (o_some (p_var 11 (pv 11)))) (p_sl (p_var 8 (pv 8)) (o_some (p_op o_add f_add (p_var 11 (pv 11)) p_int)) o_none)) (pa_cons' (p_op o_add f_add (p_op o_add f_add (p_sl (p_var 8 (pv 8)) o_none (o_some (p_var 11 (pv 11)))) (p_sl (p_var 8 (pv 8)) (o_some (p_var 11 (pv 11))) (o_some (p_op o_add f_add (p_var 11 (pv 11)) p_int)))) (p_sl (p_var 8 (pv 8)) (o_some (p_var 11 (pv 11))) o_none)) (pa_cons' (p_revT (p_var 8 (pv 8))) (pa_cons' (p_op o_add f_add (p_op o_add f_add (p_sl (p_var 8 (pv 8)) o_none (o_some (p_var 11 (pv 11)))) (p_tup (pa_cons' (p_callP (i := 1) (f_law_draw.mono (by first | decide | exact Nat.le_refl _)) (hr.mono (by first | decide | exact Nat.le_refl _)) (by rfl) g_law_draw k_law_draw b_law_draw (pv 1) (pa_cons' (p_callB c_len f_len (by rfl) m_len rfl (pa_cons' (p_var 3 (pv 3)) pa_nil')) pa_nil')) pa_nil'))) (p_sl (p_var 8 (pv 8)) (o_some (p_op o_add f_add (p_var 11 (pv 11)) p_int)) o_none)) (pa_cons' (p_op o_add f_add (p_var 8 (pv 8)) (p_tup (pa_cons' (p_op op_sub f_sub p_int p_int) pa_nil'))) pa_nil')))))))))) (ss_one (s_if (t_cmp (op_neD (units_of hr (by decide))) f_ne (p_frz (p_lc rfl nd (i_seq (p_call xo (f_law_rows.mono (by first | decide | exact Nat.le_refl _)) (hr.mono (by first | decide | exact Nat.le_refl _)) (by rfl) g_law_rows k_law_rows b_law_rows (pa_cons' (p_var 2 (pv 2)) pa_nil'))) (blkOk_by (own := [((PySem.Str.ofString "values"), 12)]) (N := N_law) (sc := defScope (s_law)) (by decide +kernel)) (fun _ _ _ _ _ => (g_name 12 (pg_name (i := 12) nd rfl (by first | exact .inl rfl | exact .inr rfl)))) (fun _ _ _ _ _ => (ts_one (PW.pt (t_and (t_truth (p_call (XOk.no xo.so) (f_law_good.mono (by first | decide | exact Nat.le_refl _)) (hr.mono (by first | decide | exact Nat.le_refl _)) (by rfl) g_law_good k_law_good b_law_good (pa_cons' (p_var 3 (pv 3)) (pa_cons' (p_var 12 (pv 12)) pa_nil')))) (t_and1 (t_not (t_truth (p_call (XOk.no xo.so) (f_law_holds.mono (by first | decide | exact Nat.le_refl _)) (hr.mono (by first | decide | exact Nat.le_refl _)) (by rfl) g_law_holds k_law_holds b_law_holds (pa_cons' (p_var 6 (pv 6)) (pa_cons' (p_var 12 (pv 12)) pa_nil')))))))))) (fun _ _ _ _ _ => (p_var 12 (pv 12))) (by decide))) (p_frz (p_disp pa_nil')) (by first | exact nomark _ | rfl)) (ss_one (s_ret p_bl)) ss_nil))))) ss_nil) (ss_one (s_for (passes_of rfl) rfl (i_seq (p_var 10 (pv 10))) (g_name 13 (pg_name (i := 13) nd rfl (by first | exact .inl rfl | exact .inr rfl))) (ss_cons (s_set (i := 14) nd rfl (by first | exact .inl rfl | exact .inr rfl) (p_call xo (f_law_follows.mono (by first | decide | exact Nat.le_refl _)) (hr.mono (by first | decide | exact Nat.le_refl _)) (by rfl) g_law_follows k_law_follows b_law_follows (pa_cons' (p_var 3 (pv 3)) (pa_cons' (p_var 6 (pv 6)) (pa_cons' (p_var 13 (pv 13)) pa_nil'))))) (ss_cons (s_if (t_not (t_truth (p_call xo (f_law_same.mono (by first | decide | exact Nat.le_refl _)) (hr.mono (by first | decide | exact Nat.le_refl _)) (by rfl) g_law_same k_law_same b_law_same (pa_cons' (p_call xo (ffollows.mono (by first | decide | exact Nat.le_refl _)) (hr.mono (by first | decide | exact Nat.le_refl _)) (by rfl) gfollows kfollows bfollows (pa_cons' (p_var 3 (pv 3)) (pa_cons' (p_var 6 (pv 6)) (pa_cons' (p_var 13 (pv 13)) pa_nil')))) (pa_cons' (p_var 14 (pv 14)) pa_nil'))))) (ss_one (s_ret p_bl)) ss_nil) (ss_one (s_if (t_truth (p_var 14 (pv 14))) (ss_cons (s_set (i := 15) nd rfl (by first | exact .inl rfl | exact .inr rfl) (p_call xo (fchain_of.mono (by first | decide | exact Nat.le_refl _)) (hr.mono (by first | decide | exact Nat.le_refl _)) (by rfl) gchain_of kchain_of bchain_of (pa_cons' (p_var 3 (pv 3)) (pa_cons' (p_var 6 (pv 6)) (pa_cons' (p_var 13 (pv 13)) pa_nil'))))) (ss_cons (s_set (i := 16) nd rfl (by first | exact .inl rfl | exact .inr rfl) (p_call xo (f_law_end.mono (by first | decide | exact Nat.le_refl _)) (hr.mono (by first | decide | exact Nat.le_refl _)) (by rfl) g_law_end k_law_end b_law_end (pa_cons' (p_var 3 (pv 3)) (pa_cons' (p_var 15 (pv 15)) pa_nil')))) (ss_cons (s_if (PW.pt (t_or (t_cmp op_isN f_isN (p_var 16 (pv 16)) p_non (by first | exact nomark _ | rfl)) (t_or (t_cmp (op_neD (units_of hr (by decide))) f_ne (p_frz (p_lc rfl nd (i_seq (p_var 16 (pv 16))) (blkOk_by (own := [((PySem.Str.ofString "literal"), 17)]) (N := N_law) (sc := defScope (s_law)) (by decide +kernel)) (fun _ _ _ _ _ => (g_name 17 (pg_name (i := 17) nd rfl (by first | exact .inl rfl | exact .inr rfl)))) (fun _ _ _ _ _ => (ts_one (t_cmp (o_notin (units_of hr (by decide))) f_in (p_var 17 (pv 17)) (p_var 6 (pv 6)) (by first | exact nomark _ | rfl)))) (fun _ _ _ _ _ => (p_var 17 (pv 17))) (by decide))) (p_frz (p_disp pa_nil')) (by first | exact nomark _ | rfl)) (t_or1 (t_not (t_truth (p_call xo (f_law_same.mono (by first | decide | exact Nat.le_refl _)) (hr.mono (by first | decide | exact Nat.le_refl _)) (by rfl) g_law_same k_law_same b_law_same (pa_cons' (p_call xo (fchain_end.mono (by first | decide | exact Nat.le_refl _)) (hr.mono (by first | decide | exact Nat.le_refl _)) (by rfl) gchain_end kchain_end bchain_end (pa_cons' (p_var 3 (pv 3)) (pa_cons' (p_var 15 (pv 15)) pa_nil'))) (pa_cons' (p_var 16 (pv 16)) pa_nil'))))))))) (ss_one (s_ret p_bl)) ss_nil) (ss_cons (s_set (i := 18) nd rfl (by first | exact .inl rfl | exact .inr rfl) (p_tup (pa_cons' (p_idx (p_var 15 (pv 15)) p_int) (pa_cons' (p_sl (p_idx (p_var 15 (pv 15)) p_int) (o_some p_int) o_none) pa_nil')))) (ss_one (s_for (passes_of rfl) rfl (i_seq (p_tup (pa_cons' (p_var 15 (pv 15)) (pa_cons' (p_var 18 (pv 18)) (pa_cons' (p_tup (pa_cons' (p_callP (i := 1) (f_law_draw.mono (by first | decide | exact Nat.le_refl _)) (hr.mono (by first | decide | exact Nat.le_refl _)) (by rfl) g_law_draw k_law_draw b_law_draw (pv 1) (pa_cons' (p_op o_add f_add (p_callB c_len f_len (by rfl) m_len rfl (pa_cons' (p_var 3 (pv 3)) pa_nil')) p_int) pa_nil')) (pa_cons' (p_idx (p_var 15 (pv 15)) p_int) pa_nil'))) (pa_cons' (p_tup (pa_cons' (p_idx (p_var 15 (pv 15)) p_int) (pa_cons' (p_op o_add f_add (p_idx (p_var 15 (pv 15)) p_int) (p_tup (pa_cons' (p_tup (pa_cons' (p_callP (i := 1) (f_law_draw.mono (by first | decide | exact Nat.le_refl _)) (hr.mono (by first | decide | exact Nat.le_refl _)) (by rfl) g_law_draw k_law_draw b_law_draw (pv 1) (pa_cons' (p_callB c_len f_len (by rfl) m_len rfl (pa_cons' (p_var 3 (pv 3)) pa_nil')) pa_nil')) (pa_cons' (p_op o_add f_add p_int (p_callP (i := 1) (f_law_draw.mono (by first | decide | exact Nat.le_refl _)) (hr.mono (by first | decide | exact Nat.le_refl _)) (by rfl) g_law_draw k_law_draw b_law_draw (pv 1) (pa_cons' (p_var 2 (pv 2)) pa_nil'))) pa_nil'))) pa_nil'))) pa_nil'))) pa_nil')))))) (g_name 19 (pg_name (i := 19) nd rfl (by first | exact .inl rfl | exact .inr rfl))) (ss_cons (s_set (i := 16) nd rfl (by first | exact .inl rfl | exact .inr rfl) (p_call xo (f_law_end.mono (by first | decide | exact Nat.le_refl _)) (hr.mono (by first | decide | exact Nat.le_refl _)) (by rfl) g_law_end k_law_end b_law_end (pa_cons' (p_var 3 (pv 3)) (pa_cons' (p_var 19 (pv 19)) pa_nil')))) (ss_one (s_if (PW.pt (t_or (t_not (t_truth (p_call xo (f_law_same.mono (by first | decide | exact Nat.le_refl _)) (hr.mono (by first | decide | exact Nat.le_refl _)) (by rfl) g_law_same k_law_same b_law_same (pa_cons' (p_call xo (fchain_end.mono (by first | decide | exact Nat.le_refl _)) (hr.mono (by first | decide | exact Nat.le_refl _)) (by rfl) gchain_end kchain_end bchain_end (pa_cons' (p_var 3 (pv 3)) (pa_cons' (p_var 19 (pv 19)) pa_nil'))) (pa_cons' (p_var 16 (pv 16)) pa_nil'))))) (t_or1 (t_not (t_truth (p_call xo (f_law_same.mono (by first | decide | exact Nat.le_refl _)) (hr.mono (by first | decide | exact Nat.le_refl _)) (by rfl) g_law_same k_law_same b_law_same (pa_cons' (p_call xo (fchain_right.mono (by first | decide | exact Nat.le_refl _)) (hr.mono (by first | decide | exact Nat.le_refl _)) (by rfl) gchain_right kchain_right bchain_right (pa_cons' (p_var 3 (pv 3)) (pa_cons' (p_var 6 (pv 6)) (pa_cons' (p_var 19 (pv 19)) pa_nil')))) (pa_cons' (p_and (p_cmp op_notN f_notN (p_var 16 (pv 16)) p_non (by first | exact nomark _ | rfl)) (p_one (p_cmp (op_eqD (units_of hr (by decide))) f_eq (p_frz (p_lc rfl nd (i_seq (p_var 16 (pv 16))) (blkOk_by (own := [((PySem.Str.ofString "literal"), 17)]) (N := N_law) (sc := defScope (s_law)) (by decide +kernel)) (fun _ _ _ _ _ => (g_name 17 (pg_name (i := 17) nd rfl (by first | exact .inl rfl | exact .inr rfl)))) (fun _ _ _ _ _ => (ts_one (t_cmp (o_notin (units_of hr (by decide))) f_in (p_var 17 (pv 17)) (p_var 6 (pv 6)) (by first | exact nomark _ | rfl)))) (fun _ _ _ _ _ => (p_var 17 (pv 17))) (by decide))) (p_frz (p_disp pa_nil')) (by first | exact nomark _ | rfl)))) pa_nil')))))))) (ss_one (s_ret p_bl)) ss_nil))))))))) ss_nil))))))))))))))) (ss_one (s_ret p_bl))))))))))) hw
end K04
end

section
set_option maxHeartbeats 4000000
namespace K04
open PySem PySem.Spec PyProof.Rows L2 Pu PySem.W Tx TL


/-! ### sorted sets of encoded numbers -/
theorem uniq {lt : Int → Int → Prop} (as : ∀ a b, lt a b → lt b a → False) : ∀ {a b : List Int}, (∀ x, x ∈ a ↔ x ∈ b) → a.Pairwise lt → b.Pairwise lt → a = b
  | [], [], _, _, _ => rfl
  | [], y :: b, h, _, _ => absurd ((h y).mpr List.mem_cons_self) (by simp)
  | x :: a, [], h, _, _ => absurd ((h x).mp List.mem_cons_self) (by simp)
  | x :: a, y :: b, h, pa, pb => by
    rw [List.pairwise_cons] at pa pb
    have e : x = y := by
      by_cases e : x = y
      · exact e
      · have h1 : x ∈ b := (List.mem_cons.mp ((h x).mp List.mem_cons_self)).resolve_left e
        have h2 : y ∈ a := (List.mem_cons.mp ((h y).mpr List.mem_cons_self)).resolve_left (Ne.symm e)
        exact (as _ _ (pa.1 y h2) (pb.1 x h1)).elim
    subst e
    refine congrArg _ (uniq as (fun z => ⟨fun hz => ?_, fun hz => ?_⟩) pa.2 pb.2)
    · rcases List.mem_cons.mp ((h z).mp (List.mem_cons_of_mem _ hz)) with e | e
      · rw [e] at hz
        exact (as _ _ (pa.1 _ hz) (pa.1 _ hz)).elim
      · exact e
    · rcases List.mem_cons.mp ((h z).mpr (List.mem_cons_of_mem _ hz)) with e | e
      · rw [e] at hz
        exact (as _ _ (pb.1 _ hz) (pb.1 _ hz)).elim
      · exact e
theorem map_pre {α β : Type} {f : α → β} : ∀ {l : List β}, (∀ b ∈ l, ∃ a, f a = b) → ∃ xs : List α, l = xs.map f
  | [], _ => ⟨[], rfl⟩
  | b :: l, h => by
    obtain ⟨a, e⟩ := h b List.mem_cons_self
    obtain ⟨xs, e2⟩ := map_pre (l := l) fun c hc => h c (List.mem_cons_of_mem _ hc)
    exact ⟨a :: xs, by rw [List.map_cons, e, ← e2]⟩
theorem ordE {enc : Int → Da} {R : Int → Int → Prop} [∀ a b, Decidable (R a b)] (hk : ∀ x y, Da.key (enc x) = Da.key (enc y) → x = y) (hle : ∀ a b, dataLe false Da.py (enc a) (enc b) = decide (R a b))
    (tr : ∀ a b c, R a b → R b c → R a c) (tot : ∀ a b, R a b ∨ R b a) {ls : List Int} {ms : List Da} (h : SetOf (ls.map enc) ms) : ∃ out : List Int, (∀ x, x ∈ out ↔ x ∈ ls) ∧ out.Pairwise R ∧ out.Nodup ∧ sortD ms = out.map enc := by
  obtain ⟨nd, sub, all⟩ := h
  obtain ⟨xs, rfl⟩ := map_pre (f := enc) (l := ms) fun b hb => by
    obtain ⟨a, _, e⟩ := List.mem_map.mp (sub b hb)
    exact ⟨a, e⟩
  have inj : ∀ x y, enc x = enc y → x = y := fun x y e => hk x y (by rw [e])
  have ndx : xs.Nodup := by
    rw [List.map_map] at nd
    exact List.Pairwise.of_map _ (fun a b hne e => hne (by rw [e])) nd
  refine ⟨xs.mergeSort (fun a b => dataLe false Da.py (enc a) (enc b)), fun x => ?_, ?_, ?_, ms_map xs⟩
  · rw [List.mem_mergeSort]
    constructor
    · intro hx
      obtain ⟨y, hy, e⟩ := List.mem_map.mp (sub _ (List.mem_map.mpr ⟨x, hx, rfl⟩))
      rw [← inj _ _ e]
      exact hy
    · intro hx
      have z := all _ (List.mem_map.mpr ⟨x, hx, rfl⟩)
      rw [List.map_map] at z
      obtain ⟨y, hy, e⟩ := List.mem_map.mp z
      rw [← hk _ _ e]
      exact hy
  · have p := List.pairwise_mergeSort (le := fun a b => dataLe false Da.py (enc a) (enc b)) (fun a b c h1 h2 => by
      rw [hle] at h1 h2 ⊢
      exact decide_eq_true (tr a b c (of_decide_eq_true h1) (of_decide_eq_true h2))) (fun a b => by
      rw [hle, hle]
      rcases tot a b with z | z
      · simp [z]
      · simp [z]) xs
    exact p.imp fun {a b} z => by
      rw [hle] at z
      exact of_decide_eq_true z
  · exact (List.mergeSort_perm xs _).nodup_iff.mpr ndx

def enc3 (x : Int) : Da := .tup [.int (iabs x), .bl (decide (x < 0)), .int x]
def enc2 (x : Int) : Da := .tup [.int (iabs x), .int x]
def R3 (a b : Int) : Prop := iabs a < iabs b ∨ (iabs a = iabs b ∧ b ≤ a)
def R2 (a b : Int) : Prop := iabs a < iabs b ∨ (iabs a = iabs b ∧ a ≤ b)
instance (a b : Int) : Decidable (R3 a b) := by unfold R3; exact inferInstance
instance (a b : Int) : Decidable (R2 a b) := by unfold R2; exact inferInstance
theorem iabs_eq (x : Int) : iabs x = if x < 0 then -x else x := rfl
theorem key3 (x y : Int) (h : Da.key (enc3 x) = Da.key (enc3 y)) : x = y := by
  simp [enc3, Da.key, Da.num, List.mapM_cons] at h
  exact h.2.2
theorem key2 (x y : Int) (h : Da.key (enc2 x) = Da.key (enc2 y)) : x = y := by
  simp [enc2, Da.key, Da.num, List.mapM_cons] at h
  exact h.2
theorem le2 (a b : Int) : dataLe false Da.py (enc2 a) (enc2 b) = decide (R2 a b) := by
  show (!dataLt (.tuple [.int (iabs b), .int b]) (.tuple [.int (iabs a), .int a])) = _
  rw [dataLt_ii]
  by_cases h : R2 a b
  · have h' : ¬ (iabs b < iabs a ∨ (iabs b = iabs a ∧ b < a)) := by unfold R2 at h; omega
    simp [h, h']
  · have h' : iabs b < iabs a ∨ (iabs b = iabs a ∧ b < a) := by unfold R2 at h; omega
    simp [h, h']
theorem lt3 (a b : Int) : dataLt (.tuple [.int (iabs b), .bool (decide (b < 0)), .int b]) (.tuple [.int (iabs a), .bool (decide (a < 0)), .int a]) = decide (iabs b < iabs a ∨ (iabs b = iabs a ∧ a < b)) := by
  rw [dataLt_tuple, dataLt_cons (by simp [alike]), dataLt_cons (by simp [alike]), dataLt_cons (by simp [alike]), dataLt_int, dataLt_int, dataLt_bool]
  have e0 : PyProof.Rows.lexLt itemOrd (keyToksAll []) (keyToksAll []) = false := lex_irrefl _
  rw [e0]
  simp only [PyData.eqv, beq_iff_eq, iabs_eq, b2i]
  by_cases h1 : b < 0 <;> by_cases h2 : a < 0 <;> simp [h1, h2] <;> (try split) <;> (try split) <;> first | omega | (rw [Bool.eq_iff_iff]; simp only [Bool.and_eq_true, Bool.or_eq_true, decide_eq_true_eq, Bool.not_eq_true', decide_eq_false_iff_not]; omega) | (simp; omega)
theorem le3 (a b : Int) : dataLe false Da.py (enc3 a) (enc3 b) = decide (R3 a b) := by
  show (!dataLt (.tuple [.int (iabs b), .bool (decide (b < 0)), .int b]) (.tuple [.int (iabs a), .bool (decide (a < 0)), .int a])) = _
  rw [lt3]
  by_cases h : R3 a b
  · have h' : ¬ (iabs b < iabs a ∨ (iabs b = iabs a ∧ a < b)) := by unfold R3 at h; omega
    simp [h, h']
  · have h' : iabs b < iabs a ∨ (iabs b = iabs a ∧ a < b) := by unfold R3 at h; omega
    simp [h, h']
theorem ord3 {ls : List Int} {ms : List Da} (h : SetOf (ls.map enc3) ms) : ∃ out : List Int, (∀ x, x ∈ out ↔ x ∈ ls) ∧ out.Pairwise R3 ∧ out.Nodup ∧ sortD ms = out.map enc3 :=
  ordE key3 le3 (fun a b c h1 h2 => by unfold R3 at *; omega) (fun a b => by unfold R3; omega) h
theorem ord2 {ls : List Int} {ms : List Da} (h : SetOf (ls.map enc2) ms) : ∃ out : List Int, (∀ x, x ∈ out ↔ x ∈ ls) ∧ out.Pairwise R2 ∧ out.Nodup ∧ sortD ms = out.map enc2 :=
  ordE key2 le2 (fun a b c h1 h2 => by unfold R2 at *; omega) (fun a b => by unfold R2; omega) h

/-! ### comprehensions whose steps are plain -/
theorem lcW_of {α : Type} {t : Tt} {c : W Bool} {e : W Da} {ρ : En} {k : List Da → Prop} (f : α → Da) (p : α → Bool) (g : α → Da) : ∀ (xs : List α) (acc : List Da),
    (∀ x ∈ xs, ∃ ρ', t.bind (f x) ρ = some ρ' ∧ (∀ K : Bool → En → Prop, K (p x) ρ' → c.wp ρ' K noEx) ∧ (p x = true → ∀ K : Da → En → Prop, K (g x) ρ' → e.wp ρ' K noEx)) → k (acc ++ (xs.filter p).map g) → lcW t c e (xs.map f) acc ρ k
  | [], acc, _, h => by simpa [lcW] using h
  | x :: xs, acc, hs, h => by
    obtain ⟨ρ', hb, hc, he⟩ := hs x List.mem_cons_self
    rw [List.map_cons]
    unfold lcW
    refine ⟨ρ', hb, hc _ ⟨rfl, ?_⟩⟩
    by_cases hp : p x = true
    · rw [if_pos hp]
      refine he hp _ ⟨rfl, lcW_of f p g xs _ (fun y hy => hs y (List.mem_cons_of_mem _ hy)) ?_⟩
      rw [List.filter_cons_of_pos hp, List.map_cons] at h
      simpa using h
    · rw [if_neg hp]
      refine lcW_of f p g xs _ (fun y hy => hs y (List.mem_cons_of_mem _ hy)) ?_
      rw [List.filter_cons_of_neg hp] at h
      exact h
theorem lcW_all {α : Type} {t : Tt} {e : W Da} {ρ : En} {k : List Da → Prop} (f : α → Da) (g : α → Da) (xs : List α) (acc : List Da)
    (hs : ∀ x ∈ xs, ∃ ρ', t.bind (f x) ρ = some ρ' ∧ ∀ K : Da → En → Prop, K (g x) ρ' → e.wp ρ' K noEx) (h : k (acc ++ xs.map g)) : lcW t bYes e (xs.map f) acc ρ k :=
  lcW_of f (fun _ => true) g xs acc (fun x hx => by
    obtain ⟨ρ', h1, h2⟩ := hs x hx
    exact ⟨ρ', h1, fun K z => z, fun _ => h2⟩) (by rw [List.filter_eq_self.mpr (fun _ _ => rfl)]; exact h)

def dis (l : List Int) : List Da := l.map Da.int
/-- a list or a tuple of these -/
def seqD (ls : List Int) (d : Da) : Prop := d = .lst (dis ls) ∨ d = .tup (dis ls)
theorem seq_items {ls : List Int} {d : Da} (h : seqD ls d) : itemsOf d = some (dis ls) := by rcases h with rfl | rfl <;> rfl

/-! ### ordered -/
def F_ordered : Fn := ⟨fun ds k _ => ∃ (ls : List Int) (d : Da), ds = [d] ∧ seqD ls d ∧ ls.length < 60 ∧ ∀ out : List Int, (∀ x, x ∈ out ↔ x ∈ ls) → out.Pairwise R3 → out.Nodup → k (.lst (dis out)),
  fun hk _ ⟨ls, d, e, h1, h2, h3⟩ => ⟨ls, d, e, h1, h2, fun out a b c => hk _ (h3 out a b c)⟩⟩
theorem k_ordered : Keeps 1 N_ordered.length F_ordered S_ordered := by
  rintro ds k x hl ⟨ls, d, rfl, hd, hlen, h⟩
  show (S_ordered).wp [some (.dat d), none, none] _
  simp only [S_ordered, sRet, eFrz, W.bind_wp, eLC, iSeq, eSortS, eSC, eVar, W.env_wp, look, List.getElem?_cons_zero, W.opt_some, W.ret_wp, seq_items hd]
  refine ⟨by simpa [dis] using hlen, rfl, lcW_all Da.int enc3 ls [] (fun y hy => ?_) ?_⟩
  · exact ⟨_, rfl, fun K hK => by simpa [eKey, eTup, eCons, eNil, eOpN, eOp2, dAbs, dLt, dI2, eC, eVar, look, W.bind_wp, enc3, Da.key, Da.num, iabs] using hK⟩
  · rw [List.nil_append]
    refine ⟨fun a ha b hb => ?_, by simp; omega, fun ms hm => ?_⟩
    · obtain ⟨y, _, rfl⟩ := List.mem_map.mp ha
      obtain ⟨z, _, rfl⟩ := List.mem_map.mp hb
      simp [enc3, Da.py, Da.pys, alike, alikeAll]
    · obtain ⟨out, o1, o2, o3, e⟩ := ord3 hm
      rw [e]
      refine ⟨rfl, lcW_all enc3 Da.int out [] (fun y hy => ?_) ?_⟩
      · exact ⟨_, rfl, fun K hK => by simpa [eIdx, eOp2, eVar, eC, look, dIdx, enc3, atI, ixN] using hK⟩
      · exact h out o1 o2 o3

theorem opt_of {α : Type} {o : Option α} {a : α} {ρ : En} {k : α → En → Prop} {x : Ex → En → Prop} (e : o = some a) (h : k a ρ) : (W.opt o).wp ρ k x := by
  rw [e]
  exact h
theorem boolL_map {α : Type} (p : α → Bool) : ∀ xs : List α, boolL (xs.map fun x => Da.bl (p x)) = some (xs.map p)
  | [] => rfl
  | x :: xs => by simp [boolL, boolL_map p xs]
theorem dAll_map {α : Type} (p : α → Bool) (xs : List α) : dAll [.lst (xs.map fun x => Da.bl (p x))] = some (.bl (xs.all p)) := by
  simp only [dAll, boolL_map, Option.map_some, List.all_map]
  rfl
theorem dAny_map {α : Type} (p : α → Bool) (xs : List α) : dAny [.lst (xs.map fun x => Da.bl (p x))] = some (.bl (xs.any p)) := by
  simp only [dAny, boolL_map, Option.map_some, List.any_map]
  rfl
@[simp] theorem dEq_int (a b : Int) : dEq (.int a) (.int b) = some (.bl (decide (a = b))) := by
  simp [dEq, Da.ok, Da.eqv]
  by_cases h : a = b <;> simp [h]
@[simp] theorem dNe_int (a b : Int) : dNe (.int a) (.int b) = some (.bl (decide (a ≠ b))) := by
  simp [dNe, Da.ok, Da.eqv]
  by_cases h : a = b <;> simp [h]
theorem flat_dis (ls : List Int) : (dis ls).all Da.flat = true := by
  unfold dis
  rw [List.all_map, List.all_eq_true]
  exact fun _ _ => rfl
theorem any_dis (a : Int) (ls : List Int) : ((dis ls).any fun z => z.eqv (.int a)) = decide (a ∈ ls) := by
  unfold dis
  rw [List.any_map]
  induction ls with
  | nil => simp
  | cons x ls ih =>
    rw [List.any_cons, ih]
    simp only [Function.comp_apply, Da.eqv, List.mem_cons]
    by_cases h : a = x
    · simp [h]
    · have h' : (x == a) = false := by simpa using fun e => h e.symm
      simp [h, h']
theorem dIn_lst (neg : Bool) (a : Int) (ls : List Int) : dIn neg (.int a) (.lst (dis ls)) = some (.bl (xor neg (decide (a ∈ ls)))) := by
  show (if Da.flat (.int a) = true ∧ (dis ls).all Da.flat = true then _ else _) = _
  rw [if_pos ⟨rfl, flat_dis ls⟩, any_dis]
theorem dIn_tup (neg : Bool) (a : Int) (ls : List Int) : dIn neg (.int a) (.tup (dis ls)) = some (.bl (xor neg (decide (a ∈ ls)))) := by
  show (if Da.flat (.int a) = true ∧ (dis ls).all Da.flat = true then _ else _) = _
  rw [if_pos ⟨rfl, flat_dis ls⟩, any_dis]
theorem dIn_seq (neg : Bool) (a : Int) {ls : List Int} {d : Da} (h : seqD ls d) : dIn neg (.int a) d = some (.bl (xor neg (decide (a ∈ ls)))) := by
  rcases h with rfl | rfl
  · exact dIn_lst neg a ls
  · exact dIn_tup neg a ls

/-! ### neighbours -/
theorem cut1 (ds : List Da) : Pu.cutD ds (some 1) none = ds.drop 1 := by
  unfold Pu.cutD
  rw [show HT.sIx ds.length 0 (some 1) = min 1 ds.length from HT.sIx_nat ds.length 0 1, HT.sIx_none]
  cases ds with
  | nil => rfl
  | cons x r =>
    rw [show min 1 (x :: r).length = 1 by
      rw [List.length_cons]
      omega]
    show (List.take ((x :: r).length - 1) r) = r
    rw [List.length_cons, Nat.add_sub_cancel]
    exact List.take_length
def pair (p : Int × Int) : Da := .tup [.int p.1, .int p.2]
theorem zip_dis : ∀ a b : List Int, zipD (dis a) (dis b) = (a.zip b).map pair
  | [], b => by simp [dis, zipD]
  | x :: a, [] => by simp [dis, zipD]
  | x :: a, y :: b => by
    have ih := zip_dis a b
    simp only [dis] at ih
    simp [dis, zipD, ih, pair]
theorem zip_items {d : Da} {ls : List Int} (h : seqD ls d) : ∃ d', dSl d (some 1) none = some d' ∧ zip2 d d' = some ((ls.zip (ls.drop 1)).map pair) := by
  rcases h with rfl | rfl
  · refine ⟨.lst (dis (ls.drop 1)), ?_, ?_⟩
    · show some (Da.lst (Pu.cutD (dis ls) (some 1) none)) = _
      rw [cut1]
      simp [dis, List.map_drop]
    · show some (zipD (dis ls) (dis (ls.drop 1))) = _
      rw [zip_dis]
  · refine ⟨.tup (dis (ls.drop 1)), ?_, ?_⟩
    · show some (Da.tup (Pu.cutD (dis ls) (some 1) none)) = _
      rw [cut1]
      simp [dis, List.map_drop]
    · show some (zipD (dis ls) (dis (ls.drop 1))) = _
      rw [zip_dis]
/-- a relation of neighbours -/
theorem adj_all {R : Int → Int → Prop} [∀ a b, Decidable (R a b)] (tr : ∀ a b c, R a b → R b c → R a c) : ∀ ls : List Int, ((ls.zip (ls.drop 1)).all fun p => decide (R p.1 p.2)) = true ↔ ls.Pairwise R
  | [] => by simp
  | [x] => by simp
  | x :: y :: r => by
    have ih := adj_all tr (y :: r)
    rw [List.drop_succ_cons, List.drop_zero] at ih ⊢
    rw [List.zip_cons_cons, List.all_cons, Bool.and_eq_true, ih, decide_eq_true_eq, List.pairwise_cons (a := x)]
    constructor
    · rintro ⟨h1, h2⟩
      refine ⟨fun z hz => ?_, h2⟩
      rcases List.mem_cons.mp hz with e | hz
      · rw [e]; exact h1
      · exact tr _ _ _ h1 ((List.pairwise_cons.mp h2).1 z hz)
    · rintro ⟨h1, h2⟩
      exact ⟨h1 y List.mem_cons_self, h2⟩

/-! ### clause_of -/
def bad (ls : List Int) : Prop := ∃ x ∈ ls, x = 0 ∨ 1000000 < iabs x
def opp (ls : List Int) : Prop := ∃ x ∈ ls, -x ∈ ls
def lta (a b : Int) : Prop := iabs a < iabs b
instance (a b : Int) : Decidable (lta a b) := by unfold lta; exact inferInstance
abbrev eLit : Ex := ⟨(PySem.Str.ofString "BadClause"), (PySem.Str.ofString "what"), .str (PySem.Str.ofString "literal")⟩
abbrev eOpp : Ex := ⟨(PySem.Str.ofString "BadClause"), (PySem.Str.ofString "what"), .str (PySem.Str.ofString "opposites")⟩
def F_clause_of : Fn := ⟨fun ds k x => ∃ (ls : List Int) (d : Da), ds = [d] ∧ seqD ls d ∧ ls.length < 60 ∧ (bad ls → x eLit) ∧ (¬ bad ls → opp ls → x eOpp) ∧
    (¬ bad ls → ¬ opp ls → ∀ out : List Int, (∀ x, x ∈ out ↔ x ∈ ls) → out.Pairwise lta → k (.tup (dis out))),
  fun hk hx ⟨ls, d, e, h1, h2, h3, h4, h5⟩ => ⟨ls, d, e, h1, h2, fun b => hx _ (h3 b), fun b o => hx _ (h4 b o), fun b o out a c => hk _ (h5 b o out a c)⟩⟩
theorem lit_len : (PySem.Str.ofString "literal").length ≤ 1000 := by decide +kernel
theorem opp_len : (PySem.Str.ofString "opposites").length ≤ 1000 := by decide +kernel
theorem lc_cast {t : Tt} {c : W Bool} {e : W Da} {ds ds' acc : List Da} {ρ : En} {k : List Da → Prop} (h : ds = ds') (q : lcW t c e ds' acc ρ k) : lcW t c e ds acc ρ k := by
  rw [h]
  exact q
theorem zip_cut (out : List Int) : zipD (dis out) (Pu.cutD (dis out) (some 1) none) = (out.zip (out.drop 1)).map pair := by
  rw [cut1, show (dis out).drop 1 = dis (out.drop 1) by simp [dis, List.map_drop], zip_dis]
theorem lta_tr (a b c : Int) (h1 : lta a b) (h2 : lta b c) : lta a c := by unfold lta at *; omega
theorem R3_tr (a b c : Int) (h1 : R3 a b) (h2 : R3 b c) : R3 a c := by unfold R3 at *; omega
theorem any_eq {out : List Int} (h : out.Pairwise R3) : ((out.zip (out.drop 1)).any fun p => decide (iabs p.1 = iabs p.2)) = true ↔ ¬ out.Pairwise lta := by
  have r := (adj_all (R := R3) R3_tr out).mpr h
  rw [← adj_all (R := lta) lta_tr out, List.all_eq_true] at *
  rw [List.any_eq_true]
  constructor
  · rintro ⟨p, hp, e⟩ al
    have e := of_decide_eq_true e
    have := of_decide_eq_true (al p hp)
    unfold lta at this
    omega
  · intro n
    refine Classical.byContradiction fun m => n fun p hp => decide_eq_true ?_
    have q := of_decide_eq_true (r p hp)
    have : iabs p.1 ≠ iabs p.2 := fun e => m ⟨p, hp, decide_eq_true e⟩
    unfold R3 at q
    unfold lta
    omega
theorem iabs_neg (x : Int) : iabs (-x) = iabs x := by unfold iabs; split <;> split <;> omega
theorem iabs_two {x y : Int} (h : iabs x = iabs y) : x = y ∨ y = -x := by unfold iabs at h; split at h <;> split at h <;> omega
theorem pw_two {R : Int → Int → Prop} : ∀ {l : List Int} {x y : Int}, l.Pairwise R → x ∈ l → y ∈ l → x ≠ y → R x y ∨ R y x
  | z :: l, x, y, h, hx, hy, n => by
    rw [List.pairwise_cons] at h
    rcases List.mem_cons.mp hx with e | hx
    · rcases List.mem_cons.mp hy with e' | hy
      · exact absurd (e.trans e'.symm) n
      · rw [e]; exact .inl (h.1 y hy)
    · rcases List.mem_cons.mp hy with e' | hy
      · rw [e']; exact .inr (h.1 x hx)
      · exact pw_two h.2 hx hy n
theorem opp_iff {ls out : List Int} (o1 : ∀ x, x ∈ out ↔ x ∈ ls) (o2 : out.Pairwise R3) (o3 : out.Nodup) (nb : ¬ bad ls) : ¬ out.Pairwise lta ↔ opp ls := by
  constructor
  · intro n
    refine Classical.byContradiction fun no => n ?_
    refine (List.Pairwise.and o2 o3).imp_of_mem fun {a b} ha hb ⟨h1, h2⟩ => ?_
    unfold lta
    rcases h1 with h1 | ⟨h1, _⟩
    · exact h1
    · rcases iabs_two h1 with e | e
      · exact absurd e h2
      · exact absurd ⟨a, (o1 a).mp ha, by rw [← e]; exact (o1 b).mp hb⟩ no
  · rintro ⟨x, hx, hy⟩ p
    have n : x ≠ -x := fun e => nb ⟨x, hx, .inl (by omega)⟩
    have q := pw_two p ((o1 x).mpr hx) ((o1 _).mpr hy) n
    unfold lta at q
    rw [iabs_neg] at q
    omega
theorem k_clause_of : Keeps 1 N_clause_of.length F_clause_of (S_clause_of F_ordered) := by
  rintro ds k x hl ⟨ls, d, rfl, hd, hlen, hb, ho, hk⟩
  show (S_clause_of F_ordered).wp [some (.dat d), none, none, none, none] _
  refine ⟨rfl, ls, d, rfl, hd, hlen, fun out o1 o2 o3 => ?_⟩
  have hbad : (out.all fun y => (decide (y ≠ 0) && decide (iabs y ≤ 1000000))) = true ↔ ¬ bad ls := by
    rw [List.all_eq_true]
    constructor
    · rintro h ⟨y, hy, z⟩
      have := h y ((o1 y).mpr hy)
      simp at this
      omega
    · intro h y hy
      have : ¬ (y = 0 ∨ 1000000 < iabs y) := fun z => h ⟨y, (o1 y).mp hy, z⟩
      simp
      omega
  refine ⟨rfl, lcW_all Da.int (fun y => Da.bl (decide (y ≠ 0) && decide (iabs y ≤ 1000000))) out [] (fun y hy => ⟨_, rfl, fun K hK => ?_⟩) ?_⟩
  · by_cases h0 : y = 0
    · simpa [eAnd, bV, eOp2, eOpN, eCons, eNil, eVar, eC, look, dAbs, dLe, dI2, asB, h0] using hK
    · simpa [eAnd, bV, eOp2, eOpN, eCons, eNil, eVar, eC, look, dAbs, dLe, dI2, asB, h0] using hK
  refine opt_of (dAll_map _ out) ?_
  by_cases hbd : bad ls
  · have e : (out.all fun y => (decide (y ≠ 0) && decide (iabs y ≤ 1000000))) = false := by
      rw [Bool.eq_false_iff]
      exact fun z => (hbad.mp z) hbd
    show (if (!(out.all fun y => (decide (y ≠ 0) && decide (iabs y ≤ 1000000)))) = true then _ else _)
    rw [e, if_pos (show (!false) = true from rfl)]
    exact ⟨lit_len, hb hbd⟩
  · have e := hbad.mpr hbd
    show (if (!(out.all fun y => (decide (y ≠ 0) && decide (iabs y ≤ 1000000)))) = true then _ else _)
    rw [e, if_neg (show ¬ (!true) = true from by decide)]
    refine ⟨rfl, lc_cast (zip_cut out) (lcW_all pair (fun p => Da.bl (decide (iabs p.1 = iabs p.2))) (out.zip (out.drop 1)) [] (fun p hp => ⟨_, rfl, fun K hK => ?_⟩) ?_)⟩
    · simpa [eOp2, eOpN, eCons, eNil, eVar, look, dAbs] using hK
    refine opt_of (dAny_map _ (out.zip (out.drop 1))) ?_
    have h1 := any_eq o2
    have h2 := opp_iff o1 o2 o3 hbd
    by_cases hop : opp ls
    · have e := h1.mpr (h2.mpr hop)
      show (if ((out.zip (out.drop 1)).any fun p => decide (iabs p.1 = iabs p.2)) = true then _ else _)
      rw [if_pos e]
      exact ⟨opp_len, ho hbd hop⟩
    · have e : ¬ ((out.zip (out.drop 1)).any fun p => decide (iabs p.1 = iabs p.2)) = true := fun z => hop (h2.mp (h1.mp z))
      show (if ((out.zip (out.drop 1)).any fun p => decide (iabs p.1 = iabs p.2)) = true then _ else _)
      rw [if_neg e]
      exact hk hbd hop out o1 (Classical.byContradiction fun z => hop (h2.mp z))
def isC (ls : List Int) (n : Int) : Prop := (∀ x ∈ ls, x ≠ 0 ∧ iabs x ≤ n) ∧ ls.Pairwise lta
noncomputable def isCb (ls : List Int) (n : Int) : Bool := @decide (isC ls n) (Classical.propDecidable _)
theorem isCb_true {ls : List Int} {n : Int} (h : isC ls n) : isCb ls n = true := @decide_eq_true _ (Classical.propDecidable _) h
theorem isCb_false {ls : List Int} {n : Int} (h : ¬ isC ls n) : isCb ls n = false := @decide_eq_false _ (Classical.propDecidable _) h
def F__law_pool (ds : List Da) (k : List Da → Prop) : Prop := ∃ (ns : List Int) (b : Int), ds = [.scr ns, .int b] ∧ k (poolD ns 0 0 1 0 b)
theorem hF__law_pool : ∀ as k k', (∀ d, k d → k' d) → F__law_pool as k → F__law_pool as k' := fun as k k' h ⟨ns, b, e, q⟩ => ⟨ns, b, e, h _ q⟩
theorem k__law_pool : ∀ ds k, ds.length = 2 → F__law_pool ds k → S__law_pool.wp (startE N__law_pool.length ds) (fun es _ => k es) noEx := by
  rintro ds k hl ⟨ns, b, rfl, h⟩
  show S__law_pool.wp [some (.dat (.scr ns)), some (.dat (.int b))] _ _
  exact ⟨show (6 : Nat) ≤ 1000 by decide, h⟩
/-! ### _law_draw -/
def F__law_draw : Fn := ⟨fun ds k _ => ∃ n : Int, ds = [.int n] ∧ 1 ≤ n ∧ n < 1073741824 ∧ ∀ r : Int, 0 ≤ r → r < n → k (.int r), fun hk _ ⟨n, e, h1, h2, h⟩ => ⟨n, e, h1, h2, fun r a b => hk _ (h r a b)⟩⟩
def drA : Sx := (sIf (bAnd (bV (eOp2 dLe (eIxP 0 (eC (.int 2))) (eC (.int 0)))) (bAnd (bV (eOp2 dLe (eIxP 0 (eC (.int 4))) (eC (.int 0)))) (bV (eOp2 dLt (eIxP 0 (eC (.int 1))) (eOpN dLen (eCons (eIxP 0 (eC (.int 0))) (eNil))))))) (sSeq (sSet 2 (eIdx (eIxP 0 (eC (.int 0))) (eIxP 0 (eC (.int 1))))) (sSeq (sPutP 0 (eC (.int 1)) (eOp2 dAdd (eIxP 0 (eC (.int 1))) (eC (.int 1)))) (sSeq (sPutP 0 (eC (.int 3)) (eOp2 dMod (eOpN dInt (eCons (eOp2 dAdd (eOp2 dMul (eIxP 0 (eC (.int 3))) (eC (.int 31))) (eVar 2)) (eNil))) (eC (.int 2147483647)))) (sSeq (sPutP 0 (eC (.int 4)) (eC (.int 7))) (sIf (bV (eOp2 dGe (eVar 2) (eOp2 dPow (eC (.int 10)) (eC (.int 18))))) (sPutP 0 (eC (.int 2)) (eVar 2)) (sPass)))))) (sPass))
def drB : Sx := (sSeq (sIf (bV (eOp2 dGt (eIxP 0 (eC (.int 2))) (eC (.int 0)))) (sSeq (sSet 3 (eOp2 dMod (eOpN dInt (eCons (eIxP 0 (eC (.int 2))) (eNil))) (eVar 1))) (sSeq (sPutP 0 (eC (.int 2)) (eOp2 dDiv (eIxP 0 (eC (.int 2))) (eVar 1))) (sSeq (sPutP 0 (eC (.int 4)) (eC (.int 0))) (sRet (eVar 3))))) (sPass)) (sSeq (sPutP 0 (eC (.int 4)) (eOp2 dSub (eIxP 0 (eC (.int 4))) (eC (.int 1)))) (sSeq (sPutP 0 (eC (.int 3)) (eOp2 dMod (eOpN dInt (eCons (eOp2 dAdd (eOp2 dMul (eIxP 0 (eC (.int 3))) (eC (.int 48271))) (eC (.int 12345))) (eNil))) (eC (.int 2147483647)))) (sRet (eOp2 dMod (eOp2 dMod (eOpN dInt (eCons (eOp2 dAdd (eOp2 dMul (eIxP 0 (eC (.int 3))) (eC (.int 69621))) (eC (.int 7919))) (eNil))) (eC (.int 2147483647))) (eVar 1))))))
theorem po_ok {ns : List Int} {a b c d e : Int} (h1 : 0 ≤ a) (h2 : 0 ≤ c) (h3 : c < 2147483647) (h4 : ns.length ≤ 1000) : PoolOk (poolD ns a b c d e) := ⟨ns, a, b, c, d, e, rfl, h1, h2, h3, h4⟩
abbrev dst (ns : List Int) (a b c d e n : Int) (x2 : Option Ce) : En := [some (.plv (poolD ns a b c d e)), some (.dat (.int n)), x2, none]
theorem ix_po {ns : List Int} {a b c d e n j : Int} {x2 : Option Ce} {y : Da} {k : Da → En → Prop} {x : Ex → En → Prop} (h : atI (poolD ns a b c d e) j = some y) (q : k y (dst ns a b c d e n x2)) : (eIxP 0 (eC (.int j))).wp (dst ns a b c d e n x2) k x := ⟨rfl, opt_of h q⟩
theorem mulok {c z : Int} (h1 : 0 ≤ c) (h2 : c < 2147483647) : CMul c z := .inl (by omega)
theorem modok (x : Int) : 0 ≤ x % 2147483647 ∧ x % 2147483647 < 2147483647 := ⟨Int.emod_nonneg _ (by decide), Int.emod_lt_of_pos _ (by decide)⟩
theorem one_of {f : List Da → Option Da} {m : W Da} {ρ : En} {k : Da → En → Prop} {x : Ex → En → Prop} (h : m.wp ρ (fun d ρ1 => ∃ r, f [d] = some r ∧ k r ρ1) x) : (eOpN f (eCons m eNil)).wp ρ k x :=
  m.mono (fun d ρ1 ⟨r, e, q⟩ => opt_of e q) (fun _ _ z => z) h
theorem two_of {f : Da → Da → Option Da} {a b : W Da} {ρ : En} {k : Da → En → Prop} {x : Ex → En → Prop} (h : a.wp ρ (fun d ρ1 => b.wp ρ1 (fun e ρ2 => ∃ r, f d e = some r ∧ k r ρ2) x) x) : (eOp2 f a b).wp ρ k x :=
  a.mono (fun d ρ1 q => b.mono (fun e ρ2 ⟨r, h1, h2⟩ => opt_of h1 h2) (fun _ _ z => z) q) (fun _ _ z => z) h
theorem seqP {i : Nat} {m1 m2 : W Da} {b : Sx} {ρ : En} {E : Fl} (h : m2.wp ρ (fun d ρ1 => (lookP ρ1 i).isSome = true ∧ m1.wp ρ1 (fun k ρ2 => ∃ j ds n, asI k = some j ∧ lookP ρ2 i = some ds ∧ ixN ds.length j = some n ∧ PoolOk (ds.set n d) ∧ b.wp (ρ2.set i (some (.plv (ds.set n d)))) E) E.ex) E.ex) :
    (sSeq (sPutP i m1 m2) b).wp ρ E := h
theorem retS {m : W Da} {ρ : En} {E : Fl} (h : m.wp ρ E.rt E.ex) : (sRet m).wp ρ E := h
theorem ifS {c : W Bool} {a b : Sx} {ρ : En} {E : Fl} (h : c.wp ρ (fun k ρ' => if k = true then a.wp ρ' E else b.wp ρ' E) E.ex) : (sIf c a b).wp ρ E := h
theorem bV_of {m : W Da} {ρ : En} {k : Bool → En → Prop} {x : Ex → En → Prop} (h : m.wp ρ (fun d ρ1 => ∃ b, d = .bl b ∧ k b ρ1) x) : (bV m).wp ρ k x := m.mono (fun d ρ1 ⟨b, e, q⟩ => by
  subst e
  exact q) (fun _ _ z => z) h
theorem dPow_10_18 : dPow (.int 10) (.int 18) = some (.int (10 ^ 18)) := rfl
theorem var_of {i : Nat} {ρ : En} {d : Da} {k : Da → En → Prop} {x : Ex → En → Prop} (h : look ρ i = some d) (q : k d ρ) : (eVar i).wp ρ k x := opt_of h q
theorem dMod_int {i j : Int} (h : 0 < j) : dMod (.int i) (.int j) = some (.int (i % j)) := by simp [dMod, dI2, h]
theorem dDiv_int {i j : Int} (h : CDiv i j) : dDiv (.int i) (.int j) = some (.int (i / j)) := by simp [dDiv, dI2, h]
theorem dMul_int {i j : Int} (h : CMul i j) : dMul (.int i) (.int j) = some (.int (i * j)) := by simp [dMul, dI2, h]
theorem drB_ok {ns : List Int} {a b c d e n : Int} {x2 : Option Ce} {E : Fl} (ha : 0 ≤ a) (hc : 0 ≤ c) (hc2 : c < 2147483647) (hn : ns.length ≤ 1000) (h1 : 1 ≤ n) (h2 : n < 1073741824) (h : ∀ r ρ, 0 ≤ r → r < n → E.rt (.int r) ρ) :
    drB.wp (dst ns a b c d e n x2) E := by
  have hd : CDiv b n := ⟨by omega, h2⟩
  have h0 : 0 < n := by omega
  refine ⟨rfl, ?_⟩
  show (if decide (0 < b) = true then _ else _)
  by_cases hb : 0 < b
  · rw [if_pos (decide_eq_true hb)]
    refine ⟨rfl, ?_⟩
    show (W.opt (dMod (.int b) (.int n))).wp (dst ns a b c d e n x2) _ _
    refine opt_of (dMod_int h0) ?_
    refine ⟨rfl, ?_⟩
    show (W.opt (dDiv (.int b) (.int n))).wp _ _ _
    refine opt_of (dDiv_int hd) ?_
    refine ⟨rfl, 2, _, 2, rfl, rfl, rfl, po_ok ha hc hc2 hn, rfl, 4, _, 4, rfl, rfl, rfl, po_ok ha hc hc2 hn, ?_⟩
    exact h _ _ (Int.emod_nonneg _ (by omega)) (Int.emod_lt_of_pos _ h0)
  · rw [if_neg (fun z => hb (of_decide_eq_true z))]
    refine ⟨rfl, rfl, 4, _, 4, rfl, rfl, rfl, po_ok ha hc hc2 hn, ?_⟩
    dsimp only
    refine seqP (two_of (one_of (two_of (two_of ?_))))
    refine ⟨rfl, _, dMul_int (mulok hc hc2), _, rfl, _, rfl, _, dMod_int (i := c * 48271 + 12345) (by decide), ?_⟩
    refine ⟨rfl, 3, _, 3, rfl, rfl, rfl, po_ok ha (modok _).1 (modok _).2 hn, ?_⟩
    refine retS (two_of (two_of (one_of (two_of (two_of ?_)))))
    refine ⟨rfl, _, dMul_int (mulok (modok _).1 (modok _).2), _, rfl, _, rfl, _, dMod_int (i := (c * 48271 + 12345) % 2147483647 * 69621 + 7919) (by decide), _, dMod_int h0, ?_⟩
    exact h _ _ (Int.emod_nonneg _ (by omega)) (Int.emod_lt_of_pos _ h0)
/-- the first part: at most the pool's numbers change -/
theorem drA_ok {ns : List Int} {a b c d e n : Int} {E : Fl} (ha : 0 ≤ a) (hc : 0 ≤ c) (hc2 : c < 2147483647) (hn : ns.length ≤ 1000)
    (h : ∀ a b c d e x2, 0 ≤ a → 0 ≤ c → c < 2147483647 → E.nx (dst ns a b c d e n x2)) : drA.wp (dst ns a b c d e n none) E := by
  refine ⟨rfl, ?_⟩
  show (if decide (b ≤ 0) = true then _ else _ : W Bool).wp _ _ _
  by_cases hb : b ≤ 0
  · rw [if_pos (decide_eq_true hb)]
    refine ⟨rfl, ?_⟩
    show (if decide (d ≤ 0) = true then _ else _ : W Bool).wp _ _ _
    by_cases hd : d ≤ 0
    · rw [if_pos (decide_eq_true hd)]
      refine ⟨rfl, rfl, ?_⟩
      show (if decide (a < ((ns.map Da.int).length : Int)) = true then _ else _)
      by_cases hl : a < ((ns.map Da.int).length : Int)
      · rw [if_pos (decide_eq_true hl)]
        rw [List.length_map] at hl
        obtain ⟨y, hy⟩ : ∃ y, atI (ns.map Da.int) a = some (.int y) := by
          have e : a = ((a.toNat : Nat) : Int) := by omega
          rw [e]
          exact ⟨ns[a.toNat]'(by omega), atI_nat (by rw [List.getElem?_map, List.getElem?_eq_getElem (by omega)]; rfl)⟩
        refine ⟨rfl, rfl, ?_⟩
        refine opt_of (o := dIdx (.lst (ns.map Da.int)) (.int a)) hy ?_
        refine ⟨rfl, rfl, 1, _, 1, rfl, rfl, rfl, po_ok (a := a + 1) (by omega) hc hc2 hn, ?_⟩
        dsimp only
        refine seqP (two_of (one_of (two_of (two_of ?_))))
        refine ⟨rfl, _, dMul_int (mulok hc hc2), _, rfl, _, rfl, _, dMod_int (i := c * 31 + y) (by decide), ?_⟩
        refine ⟨rfl, 3, _, 3, rfl, rfl, rfl, po_ok (a := a + 1) (by omega) (modok _).1 (modok _).2 hn, ?_⟩
        refine ⟨rfl, 4, _, 4, rfl, rfl, rfl, po_ok (a := a + 1) (by omega) (modok _).1 (modok _).2 hn, ?_⟩
        dsimp only
        refine ifS (bV_of (two_of ?_))
        refine var_of (d := .int y) rfl ?_
        refine two_of (x := E.ex) ?_
        refine ⟨_, dPow_10_18, _, rfl, _, rfl, ?_⟩
        show (if decide ((10 : Int) ^ 18 ≤ y) = true then _ else _)
        by_cases hy2 : (10 : Int) ^ 18 ≤ y
        · rw [if_pos (decide_eq_true hy2)]
          exact ⟨rfl, 2, _, 2, rfl, rfl, rfl, po_ok (a := a + 1) (by omega) (modok _).1 (modok _).2 hn, h (a + 1) y _ 7 e _ (by omega) (modok _).1 (modok _).2⟩
        · rw [if_neg (fun z => hy2 (of_decide_eq_true z))]
          exact h (a + 1) b _ 7 e _ (by omega) (modok _).1 (modok _).2
      · rw [if_neg (fun z => hl (of_decide_eq_true z))]
        exact h a b c d e none ha hc hc2
    · rw [if_neg (fun z => hd (of_decide_eq_true z))]
      exact h a b c d e none ha hc hc2
  · rw [if_neg (fun z => hb (of_decide_eq_true z))]
    exact h a b c d e none ha hc hc2
theorem k__law_draw : KeepsP 1 N__law_draw.length F__law_draw S__law_draw := by
  rintro ds k hl ⟨n, rfl, h1, h2, h⟩
  refine ⟨rfl, ?_⟩
  rintro po ⟨ns, a, b, c, d, e, rfl, ha, hc, hc2, hn⟩
  exact drA_ok (n := n) ha hc hc2 hn fun a b c d e x2 ha hc hc2 => drB_ok ha hc hc2 hn h1 h2 fun r ρ h3 h4 => h r h3 h4
/-! ### _law_same: the same thing on both sides -/
def pl : Nat → Da → Prop
  | _, .non => True
  | _, .bl _ => True
  | _, .int _ => True
  | _, .str s => PyData.strOk s = true
  | n + 1, .tup ds => ds.length ≤ 1000000 ∧ ∀ d ∈ ds, pl n d
  | n + 1, .lst ds => ds.length ≤ 1000000 ∧ ∀ d ∈ ds, pl n d
  | _, _ => False
def F_same : Nat → Fn
  | 0 => ⟨fun _ _ _ => False, fun _ _ z => z⟩
  | n + 1 => ⟨fun ds k _ => ∃ d, ds = [d, d] ∧ pl n d ∧ k (.bl true), fun hk _ ⟨d, e, h, q⟩ => ⟨d, e, h, hk _ q⟩⟩
theorem atI_at {ds : List Da} {i : Nat} {d : Da} (h : ds[i]? = some d) : atI ds ((i : Nat) : Int) = some d := atI_nat h
theorem same_loop {n : Nat} {d : Da} {ds : List Da} {E : Fl} (hd : itemsOf d = some ds) (hi : ∀ i : Nat, dIdx d (.int i) = atI ds i) (hp : ∀ x ∈ ds, pl n x) (hE : ∀ ρ, E.nx ρ) : ∀ (m j : Nat) (s2 : Option Ce), j + m = ds.length →
    forW (.name 2) (sIf (bNot (bT (eCall (F_same (n + 1)) 2 (eCons (eIdx (eVar 0) (eVar 2)) (eCons (eIdx (eVar 1) (eVar 2)) (eNil)))))) (sRet (eC (.bl false))) (sPass)) ((List.range' j m).map fun i : Nat => Da.int (0 + (i : Int))) [some (.dat d), some (.dat d), s2] E
  | 0, j, s2, _ => hE _
  | m + 1, j, s2, e => by
    rw [List.range'_succ, List.map_cons]
    have hx : atI ds ((j : Nat) : Int) = some ds[j] := atI_at (List.getElem?_eq_getElem (by omega))
    have hx' : dIdx d (.int (0 + ((j : Nat) : Int))) = some ds[j] := by rw [Int.zero_add, hi, hx]
    refine ⟨_, rfl, ?_⟩
    refine opt_of hx' ?_
    refine opt_of hx' ?_
    refine ⟨rfl, ds[j], rfl, hp _ (List.getElem_mem _), ?_⟩
    exact same_loop hd hi hp hE m (j + 1) _ (by omega)
theorem same_loop0 {n : Nat} {d : Da} {ds : List Da} {E : Fl} (hd : itemsOf d = some ds) (hi : ∀ i : Nat, dIdx d (.int i) = atI ds i) (hp : ∀ x ∈ ds, pl n x) (hE : ∀ ρ, E.nx ρ) :
    forW (.name 2) (sIf (bNot (bT (eCall (F_same (n + 1)) 2 (eCons (eIdx (eVar 0) (eVar 2)) (eCons (eIdx (eVar 1) (eVar 2)) (eNil)))))) (sRet (eC (.bl false))) (sPass)) (rangeD 0 ds.length) [some (.dat d), some (.dat d), none] E := by
  unfold rangeD
  rw [List.range_eq_range']
  exact same_loop hd hi hp hE ds.length 0 none (by omega)
theorem dEq_bl (a b : Bool) : dEq (.bl a) (.bl b) = some (.bl (a == b)) := by cases a <;> cases b <;> rfl
theorem dNe_bl (a b : Bool) : dNe (.bl a) (.bl b) = some (.bl (a != b)) := by cases a <;> cases b <;> rfl
theorem dEq_non : dEq .non .non = some (.bl true) := rfl
theorem dEq_str {s : Str} (h : PyData.strOk s = true) : dEq (.str s) (.str s) = some (.bl true) := by
  have e : Da.ok 60 (.str s) = true := h
  have e2 : Da.eqv (.str s) (.str s) = true := by
    show (s == s) = true
    simp
  unfold dEq
  rw [if_pos ⟨e, e⟩, e2]
theorem k__law_same (n : Nat) : Keeps 2 N__law_same.length (F_same (n + 1)) (S__law_same (F_same n)) := by
  rintro ds k x hl ⟨d, rfl, hd, h⟩
  show (S__law_same (F_same n)).wp [some (.dat d), some (.dat d), none] _
  cases d with
  | non => simpa [S__law_same, sSeq, sIf, sRet, eOp2, eOp1, eOpN, eCons, eNil, eTup, eFrz, eIdx, bV, bT, bNot, bAnd, bOr, eAnd, eOr, eNot, eIf, asB, truth, dAbs, dLt, dLe, dGt, dGe, dSub, dI2, eVar, eC, look, eIsi, tyD, isiS, dIsN, Da.isNon, dEq_bl, dNe_bl, dEq_non, sPass, flFn] using h
  | bl b => simpa [S__law_same, sSeq, sIf, sRet, eOp2, eOp1, eOpN, eCons, eNil, eTup, eFrz, eIdx, bV, bT, bNot, bAnd, bOr, eAnd, eOr, eNot, eIf, asB, truth, dAbs, dLt, dLe, dGt, dGe, dSub, dI2, eVar, eC, look, eIsi, tyD, isiS, dIsN, Da.isNon, dEq_bl, dNe_bl, dEq_non, sPass, flFn] using h
  | int i => simpa [S__law_same, sSeq, sIf, sRet, eOp2, eOp1, eOpN, eCons, eNil, eTup, eFrz, eIdx, bV, bT, bNot, bAnd, bOr, eAnd, eOr, eNot, eIf, asB, truth, dAbs, dLt, dLe, dGt, dGe, dSub, dI2, eVar, eC, look, eIsi, tyD, isiS, dIsN, Da.isNon, dEq_bl, dNe_bl, dEq_non, sPass, flFn] using h
  | str s =>
    have hs : PyData.strOk s = true := by cases n <;> exact hd
    simpa [S__law_same, sSeq, sIf, sRet, eOp2, eOp1, eOpN, eCons, eNil, eTup, eFrz, eIdx, bV, bT, bNot, bAnd, bOr, eAnd, eOr, eNot, eIf, asB, truth, dAbs, dLt, dLe, dGt, dGe, dSub, dI2, eVar, eC, look, eIsi, tyD, isiS, dIsN, Da.isNon, dEq_bl, dNe_bl, dEq_non, dEq_str hs, sPass, flFn] using h
  | tup es =>
    cases n with
    | zero => exact hd.elim
    | succ n =>
      obtain ⟨h1, h2⟩ := hd
      simp [S__law_same, sSeq, sIf, sRet, eOp2, eOp1, eOpN, eCons, eNil, eTup, eFrz, eIdx, bV, bT, bNot, bAnd, bOr, eAnd, eOr, eNot, eIf, asB, truth, dAbs, dLt, dLe, dGt, dGe, dSub, dI2, eVar, eC, look, eIsi, tyD, isiS, dNe_bl, sPass, dLen, sFor, iRange1]
      exact ⟨by omega, same_loop0 (d := .tup es) rfl (fun i => rfl) h2 (fun ρ => h)⟩
  | lst es =>
    cases n with
    | zero => exact hd.elim
    | succ n =>
      obtain ⟨h1, h2⟩ := hd
      simp [S__law_same, sSeq, sIf, sRet, eOp2, eOp1, eOpN, eCons, eNil, eTup, eFrz, eIdx, bV, bT, bNot, bAnd, bOr, eAnd, eOr, eNot, eIf, asB, truth, dAbs, dLt, dLe, dGt, dGe, dSub, dI2, eVar, eC, look, eIsi, tyD, isiS, dNe_bl, sPass, dLen, sFor, iRange1]
      exact ⟨by omega, same_loop0 (d := .lst es) rfl (fun i => rfl) h2 (fun ρ => h)⟩
  | obj c ns es => cases n <;> exact hd.elim
  | scr ns => cases n <;> exact hd.elim
  | dct ks es => cases n <;> exact hd.elim
theorem draw_of {i : Nat} {n : Int} {ρ : En} {k : Da → En → Prop} {x : Ex → En → Prop} (hp : ρ[i]? = some (some .pool)) (h1 : 1 ≤ n) (h2 : n < 1073741824) (h : ∀ r : Int, 0 ≤ r → r < n → k (.int r) ρ) :
    (eCallP i F__law_draw 1 (eCons (eC (.int n)) (eNil))).wp ρ k x := ⟨hp, ⟨rfl, hp⟩, n, rfl, h1, h2, h⟩
theorem pick2 {a b : Da} {r : Int} (h1 : 0 ≤ r) (h2 : r < 2) : dIdx (.tup [a, b]) (.int r) = some (if r = 0 then a else b) := by
  have : r = 0 ∨ r = 1 := by omega
  rcases this with rfl | rfl <;> rfl
theorem pick3 {a b c : Da} {r : Int} (h1 : 0 ≤ r) (h2 : r < 3) : dIdx (.tup [a, b, c]) (.int r) = some (if r = 0 then a else if r = 1 then b else c) := by
  have : r = 0 ∨ r = 1 ∨ r = 2 := by omega
  rcases this with rfl | rfl | rfl <;> rfl
theorem dis_snoc (ls : List Int) (y : Int) : dis ls ++ [.int y] = dis (ls ++ [y]) := by simp [dis]
def cl (c : List Int) : Da := .tup (dis c)
theorem len_tup (vs : List Int) : dLen [.tup (dis vs)] = some (.int vs.length) := by simp [dLen, dis]
theorem draw_in {n : Int} {k : Da → Prop} (h1 : 1 ≤ n) (h2 : n < 1073741824) (h : ∀ r : Int, 0 ≤ r → r < n → k (.int r)) : F__law_draw.wp [.int n] k (fun _ => False) := ⟨n, rfl, h1, h2, h⟩
def F__law_literals : Fn := ⟨fun ds k _ => ∃ (n : Int) (m : Int), ds = [.int n, .int m] ∧ 0 ≤ n ∧ n ≤ 1000 ∧ 0 ≤ m ∧ m ≤ 1000 ∧ ∀ c : List Int, isC c n → (c.length : Int) ≤ m → k (cl c), fun hk _ ⟨n, m, e, h1, h2, h3, h4, h⟩ => ⟨n, m, e, h1, h2, h3, h4, fun c a b => hk _ (h c a b)⟩⟩
theorem lit_loop {n m : Int} {E : Fl} (hm : m ≤ 1000) : ∀ (q j : Nat) (ls : List Int) (s4 : Option Ce), 1 ≤ j → (ls.length : Int) ≤ m → ls.Pairwise lta → (∀ x ∈ ls, 1 ≤ iabs x ∧ iabs x < j) →
    (∀ ls' s4, (ls'.length : Int) ≤ m → ls'.Pairwise lta → (∀ x ∈ ls', 1 ≤ iabs x ∧ iabs x < ((j + q : Nat) : Int)) → E.nx [some .pool, some (.dat (.int n)), some (.dat (.int m)), some (.own (dis ls')), s4]) →
    forW (.name 4) (sIf (bAnd (bV (eOp2 dLt (eLenO 3) (eVar 2))) (bV (eOp2 dEq (eCallP 0 F__law_draw 1 (eCons (eC (.int 3)) (eNil))) (eC (.int 0))))) (sAppend 3 (eIdx (eTup (eCons (eVar 4) (eCons (eOp2 dSub (eC (.int 0)) (eVar 4)) (eNil)))) (eCallP 0 F__law_draw 1 (eCons (eC (.int 2)) (eNil))))) (sPass))
      ((List.range' j q).map fun i : Nat => Da.int ((i : Nat) : Int)) [some .pool, some (.dat (.int n)), some (.dat (.int m)), some (.own (dis ls)), s4] E
  | 0, j, ls, s4, _, hl, hp, hx, hE => hE ls s4 hl hp hx
  | q + 1, j, ls, s4, hj, hl, hp, hx, hE => by
    rw [List.range'_succ, List.map_cons]
    have hE' : ∀ ls' s4, (ls'.length : Int) ≤ m → ls'.Pairwise lta → (∀ x ∈ ls', 1 ≤ iabs x ∧ iabs x < (((j + 1) + q : Nat) : Int)) → E.nx [some .pool, some (.dat (.int n)), some (.dat (.int m)), some (.own (dis ls')), s4] := fun ls' s4 h1 h2 h3 =>
      hE ls' s4 h1 h2 fun x hx => by
        have := h3 x hx
        omega
    have skip : ∀ s4, forW (.name 4) _ ((List.range' (j + 1) q).map fun i : Nat => Da.int ((i : Nat) : Int)) [some .pool, some (.dat (.int n)), some (.dat (.int m)), some (.own (dis ls)), s4] E := fun s4 =>
      lit_loop hm q (j + 1) ls s4 (by omega) hl hp (fun x h => by have := hx x h; omega) hE'
    refine ⟨_, rfl, ?_⟩
    walk_at "wg"
    refine ⟨_, rfl, ?_⟩
    walk_at "wg"
    refine ⟨_, rfl, _, rfl, fun hlt => ?_, fun _ => ⟨fun z => Bool.noConfusion z, fun _ => skip _⟩⟩
    walk_at "wg"
    refine ⟨⟨rfl, rfl⟩, draw_in (by decide) (by decide) fun r h3 h4 => ?_⟩
    refine ⟨_, dEq_int r 0, _, rfl, fun z => ?_, fun _ => skip _⟩
    walk_at "wg"
    refine ⟨dis ls, rfl, ?_⟩
    walk_at "wg"
    refine ⟨_, rfl, show (2 : Nat) ≤ 1000 by decide, ?_⟩
    walk_at "wg"
    refine ⟨⟨rfl, rfl⟩, draw_in (by decide) (by decide) fun r h1 h2 => ?_⟩
    refine ⟨_, pick2 (a := .int ((j : Nat) : Int)) (b := .int (0 - ((j : Nat) : Int))) h1 h2, dis ls, rfl, by simp [dis]; omega, ?_⟩
    have e : (if r = 0 then Da.int ((j : Nat) : Int) else Da.int (0 - ((j : Nat) : Int))) = Da.int (if r = 0 then ((j : Nat) : Int) else 0 - ((j : Nat) : Int)) := by split <;> rfl
    rw [e, dis_snoc]
    have ez : iabs (if r = 0 then ((j : Nat) : Int) else 0 - ((j : Nat) : Int)) = j := by
      unfold iabs
      split <;> split <;> omega
    generalize (if r = 0 then ((j : Nat) : Int) else 0 - ((j : Nat) : Int)) = z at ez
    have hlt : (ls.length : Int) < m := by simpa [dis] using hlt
    refine lit_loop hm q (j + 1) (ls ++ [z]) (some (.dat (.int ((j : Nat) : Int)))) (by omega) (by simp; omega) ?_ (fun x h => ?_) hE'
    · rw [List.pairwise_append]
      refine ⟨hp, List.pairwise_singleton _ _, fun a ha b hb => ?_⟩
      rw [List.mem_singleton.mp hb]
      have := hx a ha
      unfold lta
      omega
    · rcases List.mem_append.mp h with h | h
      · have := hx x h
        omega
      · rw [List.mem_singleton.mp h]
        omega
theorem range_one (n : Int) (h : 0 ≤ n) : rangeD 1 (n + 1 - 1).toNat = (List.range' 1 n.toNat).map fun i : Nat => Da.int ((i : Nat) : Int) := by
  unfold rangeD
  rw [show n + 1 - 1 = n by omega, List.range_eq_range', List.range'_eq_map_range, List.range'_eq_map_range, List.map_map, List.map_map]
  refine List.map_congr_left fun i _ => ?_
  simp
theorem k__law_literals : KeepsP 2 N__law_literals.length F__law_literals (S__law_literals F__law_draw) := by
  rintro ds k hl ⟨n, m, rfl, h1, h2, h3, h4, h⟩
  show (S__law_literals F__law_draw).wp [some .pool, some (.dat (.int n)), some (.dat (.int m)), none, none] _
  unfold S__law_literals
  walk_at "wg"
  refine ⟨show (0 : Nat) ≤ 1000 by decide, ?_⟩
  walk_at "wg"
  refine ⟨_, rfl, ?_⟩
  walk_at "wg"
  refine ⟨_, rfl, _, rfl, ⟨⟨by decide, by decide⟩, by omega, by omega⟩, ?_⟩
  rw [range_one n h1]
  refine lit_loop h4 n.toNat 1 [] none (by decide) (by simpa using h3) List.Pairwise.nil (fun x h => by cases h) fun ls s4 a1 a2 a3 => ?_
  walk_at "wg"
  refine ⟨_, rfl, ?_⟩
  walk_at "wg"
  refine ⟨_, rfl, h ls ⟨fun x hx => ?_, a2⟩ a1⟩
  have := a3 x hx
  refine ⟨fun e => ?_, by omega⟩
  rw [e] at this
  have e0 : iabs 0 = 0 := rfl
  omega
def oB (ls : List Int) : Bool := ls.any fun x => decide (-x ∈ ls)
theorem oB_iff (ls : List Int) : oB ls = true ↔ opp ls := by
  unfold oB opp
  rw [List.any_eq_true]
  constructor
  · rintro ⟨x, h, e⟩
    exact ⟨x, h, of_decide_eq_true e⟩
  · rintro ⟨x, h, e⟩
    exact ⟨x, h, decide_eq_true e⟩
/-- the clause of these literals -/
def ClO (ls out : List Int) : Prop := (∀ x, x ∈ out ↔ x ∈ ls) ∧ out.Pairwise lta
noncomputable def clOf (ls : List Int) : List Int := Classical.epsilon (ClO ls)
theorem clOf_eq {ls out : List Int} (h : ClO ls out) : clOf ls = out := by
  have h2 : ClO ls (clOf ls) := Classical.epsilon_spec ⟨out, h⟩
  exact uniq (lt := lta) (fun a b h1 h2 => by unfold lta at *; omega) (fun x => (h2.1 x).trans (h.1 x).symm) h2.2 h.2
theorem lta_of2 {ls out : List Int} (o1 : ∀ x, x ∈ out ↔ x ∈ ls) (o2 : out.Pairwise R2) (o3 : out.Nodup) (no : ¬ opp ls) : out.Pairwise lta := by
  refine (List.Pairwise.and o2 o3).imp_of_mem fun {a b} ha hb ⟨h1, h2⟩ => ?_
  unfold lta
  rcases h1 with h1 | ⟨h1, _⟩
  · exact h1
  · rcases iabs_two h1 with e | e
    · exact absurd e h2
    · exact absurd ⟨a, (o1 a).mp ha, by rw [← e]; exact (o1 b).mp hb⟩ no
theorem ins_ex {x : Int} : ∀ {out : List Int}, out.Pairwise lta → (∀ y ∈ out, iabs y ≠ iabs x) → ∃ o2 : List Int, (∀ z, z ∈ o2 ↔ z = x ∨ z ∈ out) ∧ o2.Pairwise lta
  | [], _, _ => ⟨[x], fun z => by simp, by simp⟩
  | y :: r, p, h => by
    rw [List.pairwise_cons] at p
    have hy := h y List.mem_cons_self
    by_cases c : iabs x < iabs y
    · refine ⟨x :: y :: r, fun z => by simp, ?_⟩
      rw [List.pairwise_cons, List.pairwise_cons]
      refine ⟨fun z hz => ?_, p⟩
      rcases List.mem_cons.mp hz with rfl | hz
      · exact c
      · have := p.1 z hz
        unfold lta at *
        omega
    · obtain ⟨o2, m, q⟩ := ins_ex (x := x) p.2 fun z hz => h z (List.mem_cons_of_mem _ hz)
      refine ⟨y :: o2, fun z => ?_, ?_⟩
      · rw [List.mem_cons, m, List.mem_cons]
        constructor
        · rintro (a | a | a)
          · exact .inr (.inl a)
          · exact .inl a
          · exact .inr (.inr a)
        · rintro (a | a | a)
          · exact .inr (.inl a)
          · exact .inl a
          · exact .inr (.inr a)
      · rw [List.pairwise_cons]
        refine ⟨fun z hz => ?_, q⟩
        rcases (m z).mp hz with rfl | hz
        · unfold lta
          omega
        · exact p.1 z hz
theorem clO_ex : ∀ {ls : List Int}, ¬ opp ls → ∃ out, ClO ls out
  | [], _ => ⟨[], fun z => by simp, by simp⟩
  | x :: r, no => by
    obtain ⟨out, m, p⟩ := clO_ex (ls := r) fun ⟨y, hy, q⟩ => no ⟨y, List.mem_cons_of_mem _ hy, List.mem_cons_of_mem _ q⟩
    by_cases hx : x ∈ r
    · refine ⟨out, fun z => ?_, p⟩
      rw [m, List.mem_cons]
      exact ⟨.inr, fun h => h.elim (fun e => by rw [e]; exact hx) id⟩
    · obtain ⟨o2, m2, p2⟩ := ins_ex (x := x) p fun y hy e => by
        have hy := (m y).mp hy
        rcases iabs_two e with e | e
        · exact hx (by rw [← e]; exact hy)
        · exact no ⟨y, List.mem_cons_of_mem _ hy, by rw [← e]; exact List.mem_cons_self⟩
      refine ⟨o2, fun z => ?_, p2⟩
      rw [m2, m, List.mem_cons]
theorem iabs_pos {x : Int} (h : x ≠ 0) : 1 ≤ iabs x := by unfold iabs; split <;> omega
theorem not_opp {c : List Int} {n : Int} (h : isC c n) : ¬ opp c := by
  rintro ⟨x, hx, hy⟩
  have n0 := (h.1 x hx).1
  have q := pw_two h.2 hx hy (by omega)
  unfold lta at q
  rw [iabs_neg] at q
  omega
theorem lta_asym (a b : Int) (h1 : lta a b) (h2 : lta b a) : False := by unfold lta at *; omega
theorem not_bad {c : List Int} {n : Int} (h : isC c n) (hn : n ≤ 1000000) : ¬ bad c := by
  rintro ⟨x, hx, z⟩
  have := h.1 x hx
  rcases z with z | z
  · exact this.1 z
  · omega
/-- clause_of gives back a clause, in whatever order its literals come -/
theorem clause_back {c ls : List Int} {n : Int} {d : Da} {k : Da → Prop} {x : Ex → Prop} (h : isC c n) (hn : n ≤ 1000000) (hl : ls.length < 60) (hm : ∀ y, y ∈ ls ↔ y ∈ c) (hd : seqD ls d) (q : k (cl c)) : F_clause_of.wp [d] k x := by
  have nb : ¬ bad ls := fun ⟨y, hy, z⟩ => not_bad h hn ⟨y, (hm y).mp hy, z⟩
  have no : ¬ opp ls := fun ⟨y, hy, z⟩ => not_opp h ⟨y, (hm y).mp hy, (hm _).mp z⟩
  refine ⟨ls, d, rfl, hd, hl, fun z => absurd z nb, fun _ z => absurd z no, fun _ _ out m p => ?_⟩
  rw [uniq lta_asym (fun y => (m y).trans (hm y)) p h.2]
  exact q
theorem rev_dis (c : List Int) : (dis c).reverse = dis c.reverse := by simp [dis]
theorem pickL {ds : List Da} {r : Int} (h1 : 0 ≤ r) (h2 : r < ds.length) : ∃ d ∈ ds, dIdx (.tup ds) (.int r) = some d := by
  have h3 : r.toNat < ds.length := by omega
  refine ⟨ds[r.toNat], List.getElem_mem h3, ?_⟩
  have := atI_nat (List.getElem?_eq_getElem h3)
  rw [Int.toNat_of_nonneg h1] at this
  exact this
theorem lta_len {n : Int} : ∀ (c : List Int) (lo : Int), lo ≤ n → (∀ x ∈ c, lo < iabs x ∧ iabs x ≤ n) → c.Pairwise lta → (c.length : Int) ≤ n - lo
  | [], lo, h0, h, p => by simp; omega
  | x :: c, lo, h0, h, p => by
    rw [List.pairwise_cons] at p
    have hx := h x List.mem_cons_self
    have := lta_len c (iabs x) hx.2 (fun y hy => ⟨p.1 y hy, (h y (List.mem_cons_of_mem _ hy)).2⟩) p.2
    rw [List.length_cons]
    omega
theorem isC_len {c : List Int} {n : Int} (h0 : 0 ≤ n) (h : isC c n) : (c.length : Int) ≤ n := by
  have := lta_len c 0 h0 (fun x hx => by
    have := h.1 x hx
    unfold iabs at *
    omega) h.2
  omega
theorem isCb_isC {c : List Int} {n : Int} (h : isCb c n = true) : isC c n := @of_decide_eq_true _ (Classical.propDecidable _) h

end K04
end

section
set_option maxHeartbeats 4000000
namespace K04
open PySem PySem.Spec PyProof.Rows L2 Pu PySem.W Tx TL

abbrev eVarb : Ex := ⟨(PySem.Str.ofString "BadClause"), (PySem.Str.ofString "what"), .str (PySem.Str.ofString "variable")⟩
theorem var_len : (PySem.Str.ofString "variable").length ≤ 1000 := by decide +kernel
def rest (a b : List Int) (v : Int) : List Int := a.filter (fun x => decide (x ≠ v)) ++ b.filter (fun x => decide (x ≠ 0 - v))
def F_resolved : Fn := ⟨fun ds k x => ∃ (a b : List Int) (da db : Da) (v : Int), ds = [da, db, .int v] ∧ seqD a da ∧ seqD b db ∧ a.length + b.length < 60 ∧ (¬ (v ∈ a ∧ 0 - v ∈ b) → x eVarb) ∧
    (v ∈ a → 0 - v ∈ b → (opp (rest a b v) → k .non) ∧ (¬ opp (rest a b v) → (bad (rest a b v) → x eLit) ∧ (¬ bad (rest a b v) → ∀ out : List Int, (∀ x, x ∈ out ↔ x ∈ rest a b v) → out.Pairwise lta → k (.tup (dis out))))),
  fun hk hx ⟨a, b, da, db, v, e, h1, h2, h3, h4, h5⟩ => ⟨a, b, da, db, v, e, h1, h2, h3, fun z => hx _ (h4 z), fun y z => ⟨fun o => hk _ ((h5 y z).1 o), fun o => ⟨fun bb => hx _ (((h5 y z).2 o).1 bb), fun bb out m p => hk _ (((h5 y z).2 o).2 bb out m p)⟩⟩⟩⟩
theorem rest_len (a b : List Int) (v : Int) : (rest a b v).length ≤ a.length + b.length := by
  unfold rest
  rw [List.length_append]
  exact Nat.add_le_add (List.length_filter_le ..) (List.length_filter_le ..)
theorem k_resolved : Keeps 3 N_resolved.length F_resolved (S_resolved F_clause_of) := by
  rintro ds k x hl ⟨a, b, da, db, v, rfl, ha, hb, hlen, h4, h5⟩
  show (S_resolved F_clause_of).wp [some (.dat da), some (.dat db), some (.dat (.int v)), none, none] _
  refine opt_of (dIn_seq true v ha) ?_
  by_cases h1 : v ∈ a
  · by_cases h2 : 0 - v ∈ b
    · show (if (xor true (decide (v ∈ a))) = true then _ else _ : W Bool).wp _ _ _
      rw [decide_eq_true h1, if_neg (show ¬ (xor true true) = true by decide)]
      refine opt_of (dIn_seq true (0 - v) hb) ?_
      show (if (xor true (decide (0 - v ∈ b))) = true then _ else _)
      rw [decide_eq_true h2, if_neg (show ¬ (xor true true) = true by decide)]
      refine opt_of (seq_items ha) ⟨rfl, lcW_of Da.int (fun y => decide (y ≠ v)) Da.int a [] (fun y hy => ⟨_, rfl, fun K hK => by simpa [eOp2, eOp1, eOpN, eCons, eNil, eTup, eFrz, eIdx, bV, bT, bNot, bAnd, bOr, eAnd, eOr, eNot, eIf, asB, truth, dAbs, dLt, dLe, dGt, dGe, dSub, dI2, eVar, eC, look] using hK, fun _ K hK => hK⟩) ?_⟩
      refine ⟨_, rfl, opt_of (seq_items hb) ⟨rfl, lcW_of Da.int (fun y => decide (y ≠ 0 - v)) Da.int b [] (fun y hy => ⟨_, rfl, fun K hK => by simpa [eOp2, eOp1, eOpN, eCons, eNil, eTup, eFrz, eIdx, bV, bT, bNot, bAnd, bOr, eAnd, eOr, eNot, eIf, asB, truth, dAbs, dLt, dLe, dGt, dGe, dSub, dI2, eVar, eC, look] using hK, fun _ K hK => hK⟩) ?_⟩⟩
      have lz := rest_len a b v
      refine ⟨_, _, rfl, rfl, ?_, ?_⟩
      · have l1 := List.length_filter_le (fun y => decide (y ≠ v)) a
        have l2 := List.length_filter_le (fun y => decide (y ≠ 0 - v)) b
        rw [List.nil_append, List.nil_append, List.length_map, List.length_map]
        omega
      · have er : ([] ++ (a.filter fun y => decide (y ≠ v)).map Da.int) ++ ([] ++ (b.filter fun y => decide (y ≠ 0 - v)).map Da.int) = dis (rest a b v) := by
          simp [dis, rest, List.map_append]
        rw [er]
        refine ⟨dis (rest a b v), rfl, ?_⟩
        have sq : seqD (rest a b v) (.lst (dis (rest a b v))) := .inl rfl
        obtain ⟨hno, hyes⟩ := h5 h1 h2
        refine ⟨rfl, lcW_all Da.int (fun y => Da.bl (decide (0 - y ∈ rest a b v))) (rest a b v) [] (fun y hy => ⟨_, rfl, fun K hK => opt_of (dIn_lst false (0 - y) (rest a b v)) (by simpa using hK)⟩) ?_⟩
        refine opt_of (dAny_map _ (rest a b v)) ?_
        have eo : ((rest a b v).any fun y => decide (0 - y ∈ rest a b v)) = true ↔ opp (rest a b v) := by
          rw [List.any_eq_true]
          unfold opp
          simp
        by_cases ho : opp (rest a b v)
        · show (if ((rest a b v).any fun y => decide (0 - y ∈ rest a b v)) = true then _ else _)
          rw [if_pos (eo.mpr ho)]
          exact hno ho
        · show (if ((rest a b v).any fun y => decide (0 - y ∈ rest a b v)) = true then _ else _)
          rw [if_neg (fun z => ho (eo.mp z))]
          obtain ⟨hb1, hb2⟩ := hyes ho
          exact ⟨rfl, rest a b v, _, rfl, sq, by omega, hb1, fun _ o => absurd o ho, fun nb _ out m p => hb2 nb out m p⟩
    · show (if (xor true (decide (v ∈ a))) = true then _ else _ : W Bool).wp _ _ _
      rw [decide_eq_true h1, if_neg (show ¬ (xor true true) = true by decide)]
      refine opt_of (dIn_seq true (0 - v) hb) ?_
      show (if (xor true (decide (0 - v ∈ b))) = true then _ else _)
      rw [decide_eq_false h2, if_pos (show (xor true false) = true from rfl)]
      exact ⟨var_len, h4 fun z => h2 z.2⟩
  · show (if (xor true (decide (v ∈ a))) = true then _ else _ : W Bool).wp _ _ _
    rw [decide_eq_false h1, if_pos (show (xor true false) = true from rfl)]
    exact ⟨var_len, h4 fun z => h1 z.1⟩
theorem all_ok {α : Type} {f : α → Da} {n : Nat} (h : ∀ x, (f x).ok n = true) (xs : List α) : (xs.map f).all (Da.ok n) = true := by
  rw [List.all_map, List.all_eq_true]
  exact fun x _ => h x
theorem ok_int (n : Nat) (x : Int) : (Da.int x).ok n = true := by cases n <;> rfl
theorem ok_cl (n : Nat) (c : List Int) : (cl c).ok (n + 1) = true := all_ok (ok_int n) c
theorem nodup_len : ∀ (l D : List Int), l.Nodup → (∀ x ∈ l, x ∈ D) → l.length ≤ D.length
  | [], _, _, _ => Nat.zero_le _
  | x :: l, D, h, hs => by
    have hx : x ∈ D := hs x List.mem_cons_self
    have q := nodup_len l (D.erase x) (List.nodup_cons.mp h).2 fun y hy => (List.mem_erase_of_ne (fun e => (List.nodup_cons.mp h).1 (by rw [← e]; exact hy))).2 (hs y (List.mem_cons_of_mem _ hy))
    rw [List.length_erase_of_mem hx] at q
    have : 0 < D.length := List.length_pos_of_mem hx
    rw [List.length_cons]
    omega
end K04
end

section
set_option maxHeartbeats 4000000
namespace K04
open PySem PySem.Spec PyProof.Rows L2 Pu PySem.W Tx TL

/-! ### resolved, joined, link -/
abbrev isK (c : List Int) : Prop := isC c 6
noncomputable def resO (a b : List Int) (v : Int) : Option (List Int) := if oB (rest a b v) = true then none else some (clOf (rest a b v))
def optD : Option (List Int) → Da
  | none => .non
  | some c => cl c
noncomputable def lnk (a b : List Int) (v : Int) : Option (List Int) := if v ∈ a ∧ 0 - v ∈ b then resO a b v else if v ∈ b ∧ 0 - v ∈ a then resO b a v else none
theorem isK_len {c : List Int} (h : isK c) : c.length ≤ 6 := by
  have := isC_len (by decide) h
  omega
theorem rest_mem {a b : List Int} {v x : Int} : x ∈ rest a b v ↔ (x ∈ a ∧ x ≠ v) ∨ (x ∈ b ∧ x ≠ 0 - v) := by
  unfold rest
  simp
theorem rest_lit {a b : List Int} {v x : Int} (ha : isK a) (hb : isK b) (h : x ∈ rest a b v) : x ≠ 0 ∧ iabs x ≤ 6 := by
  rcases rest_mem.mp h with h | h
  · exact ha.1 x h.1
  · exact hb.1 x h.1
theorem res_some {a b : List Int} {v : Int} (ha : isK a) (hb : isK b) (no : ¬ opp (rest a b v)) : ∃ c, resO a b v = some c ∧ isK c ∧ ∀ x, x ∈ c ↔ x ∈ rest a b v := by
  obtain ⟨out, h⟩ := clO_ex no
  refine ⟨out, ?_, ⟨fun x hx => rest_lit ha hb ((h.1 x).mp hx), h.2⟩, h.1⟩
  unfold resO
  rw [if_neg (fun z => no ((oB_iff _).mp z)), clOf_eq h]
theorem res_isK {a b c : List Int} {v : Int} (ha : isK a) (hb : isK b) (h : resO a b v = some c) : isK c := by
  by_cases no : opp (rest a b v)
  · unfold resO at h
    rw [if_pos ((oB_iff _).mpr no)] at h
    cases h
  · obtain ⟨d, e, q, _⟩ := res_some ha hb no
    rw [e] at h
    cases h
    exact q
theorem lnk_isK {a b c : List Int} {v : Int} (ha : isK a) (hb : isK b) (h : lnk a b v = some c) : isK c := by
  unfold lnk at h
  split at h
  · exact res_isK ha hb h
  · split at h
    · exact res_isK hb ha h
    · cases h
theorem res_wp {a b : List Int} {v : Int} {k : Da → Prop} {x : Ex → Prop} (ha : isK a) (hb : isK b) (h1 : v ∈ a) (h2 : 0 - v ∈ b) (q : k (optD (resO a b v))) : F_resolved.wp [cl a, cl b, .int v] k x := by
  have l1 := isK_len ha
  have l2 := isK_len hb
  refine ⟨a, b, _, _, v, rfl, .inr rfl, .inr rfl, by omega, fun z => absurd ⟨h1, h2⟩ z, fun _ _ => ⟨fun o => ?_, fun o => ⟨fun bd => ?_, fun _ out m p => ?_⟩⟩⟩
  · unfold resO at q
    rw [if_pos ((oB_iff _).mpr o)] at q
    exact q
  · obtain ⟨y, hy, z⟩ := bd
    have := rest_lit ha hb hy
    omega
  · unfold resO at q
    rw [if_neg (fun z => o ((oB_iff _).mp z)), clOf_eq ⟨m, p⟩] at q
    exact q
theorem bAnd_of {a b : W Bool} {p q : Bool} {ρ : En} {x : Ex → En → Prop} (ha : ∀ K, K p ρ → a.wp ρ K x) (hb : p = true → ∀ K, K q ρ → b.wp ρ K x) : ∀ K, K (p && q) ρ → (bAnd a b).wp ρ K x := fun K hK =>
  w_bAnd (ha _ ⟨fun y => hb y _ (by rw [y] at hK; exact hK), fun y => by rw [y] at hK; exact hK⟩)
theorem bOr_of {a b : W Bool} {p q : Bool} {ρ : En} {x : Ex → En → Prop} (ha : ∀ K, K p ρ → a.wp ρ K x) (hb : p = false → ∀ K, K q ρ → b.wp ρ K x) : ∀ K, K (p || q) ρ → (bOr a b).wp ρ K x := fun K hK =>
  w_bOr (ha _ ⟨fun y => by rw [y] at hK; exact hK, fun y => hb y _ (by rw [y] at hK; exact hK)⟩)
theorem if_of {c : W Bool} {a b : Sx} {p : Bool} {ρ : En} {E : Fl} (hc : ∀ K, K p ρ → c.wp ρ K E.ex) (h1 : p = true → a.wp ρ E) (h2 : p = false → b.wp ρ E) : (sIf c a b).wp ρ E := v_if (hc _ ⟨h1, h2⟩)
theorem in_tt {neg : Bool} {a : Int} {ls : List Int} {d : Da} {m1 m2 : W Da} {ρ : En} {x : Ex → En → Prop} (h : seqD ls d) (h1 : ∀ K, K (.int a) ρ → m1.wp ρ K x) (h2 : ∀ K, K d ρ → m2.wp ρ K x) : ∀ K, K (xor neg (decide (a ∈ ls))) ρ → (bV (eOp2 (dIn neg) m1 m2)).wp ρ K x := fun K hK => w_bV (w_op2 (h1 _ (h2 _ ⟨_, dIn_seq neg a h, _, rfl, hK⟩)))
theorem v_of {i : Nat} {d : Da} {ρ : En} {x : Ex → En → Prop} (e : look ρ i = some d) : ∀ K : Da → En → Prop, K d ρ → (eVar i).wp ρ K x := fun K h => w_var e h
theorem neg_of {i : Nat} {a : Int} {ρ : En} {x : Ex → En → Prop} (e : look ρ i = some (.int a)) : ∀ K : Da → En → Prop, K (.int (0 - a)) ρ → (eOp2 dSub (eC (.int 0)) (eVar i)).wp ρ K x := fun K h => w_op2 (w_c (w_var e ⟨_, rfl, h⟩))
def F_link : Fn := ⟨fun ds k _ => ∃ a b v, ds = [cl a, cl b, .int v] ∧ isK a ∧ isK b ∧ 1 ≤ v ∧ k (optD (lnk a b v)), fun hk _ ⟨a, b, v, e, h1, h2, h3, h⟩ => ⟨a, b, v, e, h1, h2, h3, hk _ h⟩⟩
theorem k_link : Keeps 3 N_link.length F_link (S_link F_resolved) := by
  rintro ds k x hl ⟨a, b, v, rfl, ha, hb, hv, h⟩
  show (S_link F_resolved).wp [some (.dat (cl a)), some (.dat (cl b)), some (.dat (.int v))] _
  unfold S_link
  unfold lnk at h
  have sa : seqD a (cl a) := .inr rfl
  have sb : seqD b (cl b) := .inr rfl
  refine v_seq (if_of (bAnd_of (in_tt sa (v_of rfl) (v_of rfl)) (fun _ => in_tt sb (neg_of rfl) (v_of rfl))) (fun y => ?_) (fun y => ?_))
  · simp only [Bool.false_xor, Bool.and_eq_true, decide_eq_true_eq] at y
    rw [if_pos y] at h
    walk_at "wg"
    exact ⟨rfl, res_wp ha hb y.1 y.2 h⟩
  simp only [Bool.false_xor, Bool.and_eq_false_iff, decide_eq_false_iff_not] at y
  rw [if_neg (fun q => y.elim (fun z => z q.1) (fun z => z q.2))] at h
  refine v_pass ?_
  dsimp only []
  refine v_seq (if_of (bAnd_of (in_tt sb (v_of rfl) (v_of rfl)) (fun _ => in_tt sa (neg_of rfl) (v_of rfl))) (fun y => ?_) (fun y => ?_))
  · simp only [Bool.false_xor, Bool.and_eq_true, decide_eq_true_eq] at y
    rw [if_pos y] at h
    walk_at "wg"
    exact ⟨rfl, res_wp hb ha y.1 y.2 h⟩
  simp only [Bool.false_xor, Bool.and_eq_false_iff, decide_eq_false_iff_not] at y
  rw [if_neg (fun q => y.elim (fun z => z q.1) (fun z => z q.2))] at h
  exact h
theorem prop_neg {c : List Int} {x : Int} (h : isK c) (h1 : x ∈ c) : 0 - x ∉ c := fun z => not_opp h ⟨x, h1, by rwa [Int.zero_sub] at z⟩
def F_joined : Fn := ⟨fun ds k _ => ∃ a b l, ds = [cl a, cl b, .int l] ∧ isK a ∧ isK b ∧ l ∈ b ∧ 0 - l ∈ a ∧ k (optD (lnk a b (iabs l))), fun hk _ ⟨a, b, v, e, h1, h2, h3, h4, h⟩ => ⟨a, b, v, e, h1, h2, h3, h4, hk _ h⟩⟩
theorem k_joined : Keeps 3 N_joined.length F_joined (S_joined F_resolved) := by
  rintro ds k x hl ⟨a, b, l, rfl, ha, hb, h1, h2, h⟩
  show (S_joined F_resolved).wp [some (.dat (cl a)), some (.dat (cl b)), some (.dat (.int l))] _
  unfold S_joined
  have n0 := (hb.1 l h1).1
  unfold lnk at h
  walk_at "wg"
  refine ⟨_, rfl, _, rfl, fun y => ?_, fun y => ?_⟩
  · have y := of_decide_eq_true y
    have e : iabs l = l := by unfold iabs; split <;> omega
    rw [e, if_neg (fun q => prop_neg ha q.1 h2), if_pos ⟨h1, h2⟩] at h
    walk_at "wg"
    exact ⟨rfl, res_wp hb ha h1 h2 h⟩
  · have y := of_decide_eq_false y
    have e : iabs l = 0 - l := by unfold iabs; split <;> omega
    have e2 : 0 - (0 - l) = l := by omega
    rw [e, if_pos ⟨h2, by rwa [e2]⟩] at h
    walk_at "wg"
    refine ⟨_, rfl, rfl, res_wp ha hb h2 (by rwa [e2]) h⟩
/-! ### _law_ordered, _law_link -/
theorem setOf_self {ls : List Int} (nd : ls.Nodup) : SetOf (ls.map enc2) (ls.map enc2) := by
  refine ⟨?_, fun _ h => h, fun d hd => List.mem_map.mpr ⟨d, hd, rfl⟩⟩
  rw [List.map_map]
  exact List.Pairwise.map _ (fun a b hne e => hne (key2 _ _ e)) nd
def F__law_ordered : Fn := ⟨fun ds k _ => ∃ (ls : List Int) (d : Da), ds = [d] ∧ seqD ls d ∧ ls.length < 60 ∧ ls.Nodup ∧ ¬ opp ls ∧ k (cl (clOf ls)), fun hk _ ⟨ls, d, e, h1, h2, h3, h4, h⟩ => ⟨ls, d, e, h1, h2, h3, h4, hk _ h⟩⟩
theorem k__law_ordered : Keeps 1 N__law_ordered.length F__law_ordered S__law_ordered := by
  rintro ds k x hl ⟨ls, d, rfl, hd, hlen, nd, no, h⟩
  show S__law_ordered.wp [some (.dat d), none, none] _
  unfold S__law_ordered
  walk_at "wg"
  refine ⟨_, seq_items hd, rfl, lcW_all Da.int enc2 ls [] (fun y hy => ⟨_, rfl, fun K hK => ?_⟩) ?_⟩
  · walk_at "wg"
    exact ⟨_, rfl, show (2 : Nat) ≤ 1000 by decide, hK⟩
  rw [List.nil_append]
  obtain ⟨out, o1, o2, o3, e⟩ := ord2 (setOf_self nd)
  rw [clOf_eq ⟨o1, lta_of2 o1 o2 o3 no⟩] at h
  refine ⟨fun a ha b hb => ?_, by simp; omega, fun a ha => ?_, ?_⟩
  · obtain ⟨y, _, rfl⟩ := List.mem_map.mp ha
    obtain ⟨z, _, rfl⟩ := List.mem_map.mp hb
    simp [enc2, Da.py, Da.pys, alike, alikeAll]
  · obtain ⟨y, _, rfl⟩ := List.mem_map.mp ha
    rfl
  rw [e]
  refine ⟨_, rfl, rfl, lcW_all enc2 Da.int out [] (fun y hy => ⟨_, rfl, fun K hK => ?_⟩) ?_⟩
  · walk_at "wg"
    exact ⟨_, rfl, hK⟩
  · exact ⟨_, rfl, h⟩
theorem dEq_bl2 (a b : Bool) : dEq (.bl a) (.bl b) = some (.bl (decide (a = b))) := by cases a <;> cases b <;> rfl
theorem dNe_nil (l : List Int) : dNe (.lst (dis l)) (.lst []) = some (.bl (!l.isEmpty)) := by
  unfold dNe
  rw [if_pos ⟨all_ok (ok_int 59) l, rfl⟩]
  cases l <;> rfl
theorem asInts_dis (l : List Int) : asInts (.lst (dis l)) = some l := by
  unfold asInts dis
  simp [List.mapM_map]
theorem add_cl {a b : List Int} (h : a.length + b.length ≤ 1000) : dAdd (cl a) (cl b) = some (cl (a ++ b)) := by
  have : a.length + b.length ≤ sizeLine := Nat.le_trans h (by decide)
  simp [cl, dis, dAdd, this]
def rest2 (a b : List Int) (v : Int) : List Int := (a ++ b).filter fun x => decide (iabs x ≠ v)
theorem rest2_mem {a b : List Int} {v x : Int} : x ∈ rest2 a b v ↔ (x ∈ a ∨ x ∈ b) ∧ iabs x ≠ v := by
  unfold rest2
  simp only [List.mem_filter, List.mem_append, decide_eq_true_eq]
theorem iabs_ne {x v : Int} (hv : 1 ≤ v) : iabs x ≠ v ↔ x ≠ v ∧ x ≠ 0 - v := by unfold iabs; split <;> omega
theorem rest2_eq {a b : List Int} {v : Int} (hv : 1 ≤ v) (ha : isK a) (hb : isK b) (h1 : v ∈ a) (h2 : 0 - v ∈ b) (x : Int) : x ∈ rest2 a b v ↔ x ∈ rest a b v := by
  rw [rest2_mem, rest_mem, iabs_ne hv]
  have e1 : 0 - v ∉ a := prop_neg ha h1
  have e2 : v ∉ b := fun z => prop_neg hb z h2
  constructor
  · rintro ⟨q | q, n1, n2⟩
    · exact .inl ⟨q, n1⟩
    · exact .inr ⟨q, n2⟩
  · rintro (⟨q, n⟩ | ⟨q, n⟩)
    · exact ⟨.inl q, n, fun z => e1 (z ▸ q)⟩
    · exact ⟨.inr q, fun z => e2 (z ▸ q), n⟩
theorem rest2_comm (a b : List Int) (v x : Int) : x ∈ rest2 a b v ↔ x ∈ rest2 b a v := by
  rw [rest2_mem, rest2_mem, or_comm]
theorem opp_congr {a b : List Int} (h : ∀ x, x ∈ a ↔ x ∈ b) : opp a ↔ opp b := by
  unfold opp
  constructor
  · rintro ⟨x, h1, h2⟩
    exact ⟨x, (h x).mp h1, (h _).mp h2⟩
  · rintro ⟨x, h1, h2⟩
    exact ⟨x, (h x).mpr h1, (h _).mpr h2⟩
theorem clOf_congr {a b : List Int} (h : ∀ x, x ∈ a ↔ x ∈ b) : clOf a = clOf b := by
  unfold clOf ClO
  congr 1
  funext out
  rw [eq_iff_iff]
  constructor
  · rintro ⟨m, p⟩
    exact ⟨fun x => (m x).trans (h x), p⟩
  · rintro ⟨m, p⟩
    exact ⟨fun x => (m x).trans (h x).symm, p⟩
/-- when the law's condition lets it pass -/
def okL (a b : List Int) (v : Int) : Bool := decide (decide (v ∈ a) ≠ decide (v ∈ b)) && decide (decide (0 - v ∈ a) ≠ decide (0 - v ∈ b))
theorem lnk_law {a b : List Int} {v : Int} (hv : 1 ≤ v) (ha : isK a) (hb : isK b) : lnk a b v = if okL a b v = true then (if oB (rest2 a b v) = true then none else some (clOf (rest2 a b v))) else none := by
  have h1 : v ∈ a → 0 - v ∉ a := prop_neg ha
  have h2 : v ∈ b → 0 - v ∉ b := prop_neg hb
  have ok : okL a b v = true ↔ (v ∈ a ∧ 0 - v ∈ b) ∨ (v ∈ b ∧ 0 - v ∈ a) := by
    unfold okL
    by_cases x1 : v ∈ a <;> by_cases x2 : v ∈ b <;> by_cases x3 : 0 - v ∈ a <;> by_cases x4 : 0 - v ∈ b <;> simp_all
  unfold lnk
  by_cases c1 : v ∈ a ∧ 0 - v ∈ b
  · rw [if_pos c1, if_pos (ok.mpr (.inl c1))]
    have m := rest2_eq hv ha hb c1.1 c1.2
    have eo : oB (rest a b v) = oB (rest2 a b v) := by
      rw [Bool.eq_iff_iff, oB_iff, oB_iff]
      exact (opp_congr m).symm
    unfold resO
    rw [eo, clOf_congr m]
  · rw [if_neg c1]
    by_cases c2 : v ∈ b ∧ 0 - v ∈ a
    · rw [if_pos c2, if_pos (ok.mpr (.inr c2))]
      have m := fun x => (rest2_comm a b v x).trans (rest2_eq hv hb ha c2.1 c2.2 x)
      have eo : oB (rest b a v) = oB (rest2 a b v) := by
        rw [Bool.eq_iff_iff, oB_iff, oB_iff]
        exact (opp_congr m).symm
      unfold resO
      rw [eo, clOf_congr m]
    · rw [if_neg c2, if_neg (fun z => (ok.mp z).elim c1 c2)]
theorem filt_opp (l : List Int) : (l.filter fun x => decide (0 - x ∈ l)).isEmpty = !oB l := by
  rw [Bool.eq_iff_iff, List.isEmpty_iff, List.filter_eq_nil_iff, Bool.not_eq_true', Bool.eq_false_iff, ne_eq, oB_iff]
  unfold opp
  constructor
  · rintro h ⟨x, hx, q⟩
    exact h x hx (by simpa using q)
  · intro h x hx q
    exact h ⟨x, hx, by simpa using q⟩
theorem k__law_link : Keeps 3 N__law_link.length F_link (S__law_link F__law_ordered) := by
  rintro ds k x hl ⟨a, b, v, rfl, ha, hb, hv, h⟩
  show (S__law_link F__law_ordered).wp [some (.dat (cl a)), some (.dat (cl b)), some (.dat (.int v)), none, none] _
  unfold S__law_link
  rw [lnk_law hv ha hb] at h
  have sa : seqD a (cl a) := .inr rfl
  have sb : seqD b (cl b) := .inr rfl
  refine v_seq (if_of (p := !okL a b v) (fun K hK => ?_) (fun y => ?_) (fun y => ?_))
  · refine bOr_of (p := decide (decide (v ∈ a) = decide (v ∈ b))) (q := decide (decide (0 - v ∈ a) = decide (0 - v ∈ b))) (fun K hK => ?_) (fun _ K hK => ?_) K ?_
    · walk_at "wg"
      refine ⟨_, dIn_seq false v sa, ?_⟩
      walk_at "wg"
      exact ⟨_, dIn_seq false v sb, _, dEq_bl2 _ _, _, rfl, by simpa only [Bool.false_xor] using hK⟩
    · walk_at "wg"
      refine ⟨_, rfl, _, dIn_seq false _ sa, ?_⟩
      walk_at "wg"
      exact ⟨_, rfl, _, dIn_seq false _ sb, _, dEq_bl2 _ _, _, rfl, by simpa only [Bool.false_xor] using hK⟩
    · have e : (decide (decide (v ∈ a) = decide (v ∈ b)) || decide (decide (0 - v ∈ a) = decide (0 - v ∈ b))) = !okL a b v := by
        unfold okL
        simp
      rw [e]
      exact hK
  · rw [Bool.not_eq_true'] at y
    rw [if_neg (by rw [y]; decide)] at h
    exact h
  rw [Bool.not_eq_false'] at y
  rw [if_pos y] at h
  have l1 := isK_len ha
  have l2 := isK_len hb
  have lr : (rest2 a b v).length ≤ 12 := by
    have := List.length_filter_le (fun x => decide (iabs x ≠ v)) (a ++ b)
    rw [List.length_append] at this
    unfold rest2
    omega
  walk_at "wg"
  refine ⟨_, add_cl (by omega), _, rfl, rfl, lcW_of Da.int (fun x => decide (iabs x ≠ v)) Da.int (a ++ b) [] (fun y hy => ⟨_, rfl, fun K hK => ?_, fun _ K hK => hK⟩) ?_⟩
  · walk_at "wg"
    exact ⟨_, rfl, _, dNe_int _ _, _, rfl, hK⟩
  rw [List.nil_append]
  show Sx.wp _ [some (.dat (cl a)), some (.dat (cl b)), some (.dat (.int v)), some (.dat (.lst (dis (rest2 a b v)))), none] _
  generalize rest2 a b v = r at h lr
  walk_at "wg"
  refine ⟨_, rfl, rfl, lcW_of Da.int (fun x => decide (0 - x ∈ r)) Da.int r [] (fun y hy => ⟨_, rfl, fun K hK => ?_, fun _ K hK => hK⟩) ?_⟩
  · walk_at "wg"
    refine ⟨_, rfl, ?_⟩
    walk_at "wg"
    exact ⟨_, dIn_lst false _ _, _, rfl, by simpa only [Bool.false_xor] using hK⟩
  rw [List.nil_append]
  refine ⟨by decide, _, dNe_nil _, ?_⟩
  rw [filt_opp, Bool.not_not]
  refine ⟨_, rfl, fun z => ?_, fun z => ?_⟩
  · rw [if_pos z] at h
    exact h
  rw [if_neg (by rw [z]; decide)] at h
  have no : ¬ opp r := fun q => by
    rw [(oB_iff r).mpr q] at z
    cases z
  walk_at "wg"
  refine ⟨_, asInts_dis r, by omega, fun out o1 o2 => ?_⟩
  have nd : out.Nodup := o1.imp fun {a b} h => by omega
  have ln := nodup_len out r nd fun x hx => (o2 x).mp hx
  refine ⟨rfl, out, _, rfl, .inl rfl, by omega, nd, fun q => no ((opp_congr o2).mp q), ?_⟩
  rw [clOf_congr o2]
  exact h
end K04
end

section
set_option maxHeartbeats 4000000
namespace K04
open PySem PySem.Spec PyProof.Rows L2 Pu PySem.W Tx TL

/-! ### tables -/
theorem tGet_nil (k : Key) : tGet [] k = none := rfl
theorem tGet_cons (p : Key × Da) (t : Tab) (k : Key) : tGet (p :: t) k = if p.1 = k then some p.2 else tGet t k := by
  unfold tGet
  rw [List.find?_cons]
  by_cases h : p.1 = k
  · simp [h]
  · simp [h]
theorem tGet_any (t : Tab) (k : Key) : (t.any fun p => decide (p.1 = k)) = (tGet t k).isSome := by
  induction t with
  | nil => rfl
  | cons p t ih =>
    rw [List.any_cons, ih, tGet_cons]
    by_cases h : p.1 = k
    · simp [h]
    · simp [h]
theorem tGet_map (t : Tab) (k k' : Key) (d : Da) : tGet (t.map fun p => if p.1 = k then (p.1, d) else p) k' = if k' = k then (if (tGet t k).isSome = true then some d else none) else tGet t k' := by
  induction t with
  | nil => simp [tGet_nil]
  | cons p t ih =>
    rw [List.map_cons, tGet_cons, ih, tGet_cons, tGet_cons]
    by_cases h : p.1 = k
    · rw [if_pos h, if_pos h]
      by_cases h2 : k' = k
      · simp [h, h2]
      · have : ¬ p.1 = k' := fun z => h2 (by rw [← z, h])
        simp [this, h2]
    · rw [if_neg h, if_neg h]
      by_cases h2 : k' = k
      · subst h2
        simp [h]
      · simp [h2]
theorem tGet_app (t : Tab) (k k' : Key) (d : Da) : tGet (t ++ [(k, d)]) k' = if (tGet t k').isSome = true then tGet t k' else if k = k' then some d else none := by
  induction t with
  | nil => simp [tGet_nil, tGet_cons]
  | cons p t ih =>
    rw [List.cons_append, tGet_cons, ih, tGet_cons]
    by_cases h : p.1 = k'
    · simp [h]
    · simp [h]
theorem tGet_put (t : Tab) (k k' : Key) (d : Da) : tGet (tPut t k d) k' = if k' = k then some d else tGet t k' := by
  unfold tPut
  rw [tGet_any]
  by_cases h : (tGet t k).isSome = true
  · rw [if_pos h, tGet_map, if_pos h]
  · rw [if_neg h, tGet_app]
    by_cases h2 : k' = k
    · rw [h2, if_neg h, if_pos rfl, if_pos rfl]
    · have h3 : ¬ k = k' := fun z => h2 z.symm
      rw [if_neg h2, if_neg h3]
      cases tGet t k' <;> rfl
theorem tPut_len (t : Tab) (k : Key) (d : Da) : (tPut t k d).length ≤ t.length + 1 := by
  unfold tPut
  split
  · rw [List.length_map]
    omega
  · rw [List.length_append]
    exact Nat.le_refl _
/-- a table whose keys are these numbers -/
def DK (t : Tab) (ks : List Int) : Prop := ∀ x, (tGet t (.inl x)).isSome = decide (x ∈ ks)
theorem DK_put {t : Tab} {ks : List Int} {x : Int} {d : Da} (h : DK t ks) : DK (tPut t (.inl x) d) (ks ++ [x]) := by
  intro y
  rw [tGet_put]
  by_cases e : y = x
  · simp [e]
  · have : ¬ ((.inl y : Key) = .inl x) := fun z => e (by cases z; rfl)
    rw [if_neg this, h y]
    simp [e]

/-! ### what is left of a clause, what follows -/
def ngs (c : List Int) : List Int := c.map fun x => 0 - x
theorem ngs_mem {c : List Int} {x : Int} : x ∈ ngs c ↔ 0 - x ∈ c := by
  unfold ngs
  rw [List.mem_map]
  constructor
  · rintro ⟨y, h, rfl⟩
    rwa [show 0 - (0 - y) = y by omega]
  · intro h
    exact ⟨_, h, by omega⟩
def lft (c ks : List Int) : List Int := c.filter fun x => !decide (0 - x ∈ ks)
def fol (css : List (List Int)) : List Int → List Int → Bool
  | [], _ => false
  | h :: hs, ks => if 0 ≤ h ∧ h < css.length then
      (match lft (css.getD h.toNat []) ks with
       | [] => hs.isEmpty
       | [x] => !decide (x ∈ ks) && fol css hs (ks ++ [x])
       | _ => false)
    else false
theorem lft_congr {c ks ks' : List Int} (h : ∀ x, x ∈ ks ↔ x ∈ ks') : lft c ks = lft c ks' := by
  unfold lft
  congr 1
  funext x
  rw [decide_eq_decide.mpr (h (0 - x))]
theorem fol_congr {css : List (List Int)} : ∀ {hs ks ks' : List Int}, (∀ x, x ∈ ks ↔ x ∈ ks') → fol css hs ks = fol css hs ks'
  | [], _, _, _ => rfl
  | h :: hs, ks, ks', e => by
    unfold fol
    rw [lft_congr e]
    split
    · split
      · rfl
      · rename_i x _
        rw [decide_eq_decide.mpr (e x), fol_congr (hs := hs) (ks := ks ++ [x]) (ks' := ks' ++ [x]) (fun y => by simp [e])]
      · rfl
    · rfl
def clsD (css : List (List Int)) : Da := .lst (css.map cl)
theorem cls_idx {css : List (List Int)} {h : Int} (h0 : 0 ≤ h) (h1 : h < css.length) : dIdx (clsD css) (.int h) = some (cl (css.getD h.toNat [])) := by
  have h3 : h.toNat < css.length := by omega
  have := atI_nat (xs := css.map cl) (j := h.toNat) (v := cl (css.getD h.toNat [])) (by rw [List.getElem?_map, List.getD_eq_getElem?_getD, List.getElem?_eq_getElem h3]; rfl)
  rw [Int.toNat_of_nonneg h0] at this
  exact this
theorem cls_len (css : List (List Int)) : dLen [clsD css] = some (.int css.length) := by simp [dLen, clsD]
theorem cls_mem {css : List (List Int)} {h : Int} (h0 : 0 ≤ h) (h1 : h < css.length) : css.getD h.toNat [] ∈ css := by
  have h3 : h.toNat < css.length := by omega
  rw [List.getD_eq_getElem?_getD, List.getElem?_eq_getElem h3]
  exact List.getElem_mem h3
/-- the range check of a number -/
theorem rng_of {css : List (List Int)} {m1 m2 : W Da} {h : Int} {ρ : En} {x : Ex → En → Prop} (h1 : ∀ K : Da → En → Prop, K (.int h) ρ → m1.wp ρ K x) (h2 : ∀ K : Da → En → Prop, K (clsD css) ρ → m2.wp ρ K x) :
    ∀ K : Bool → En → Prop, K (decide (0 ≤ h ∧ h < css.length)) ρ → (bV (eChain dLe dLt (eC (.int 0)) m1 (eOpN dLen (eCons m2 (eNil))))).wp ρ K x := fun K hK => by
  refine w_bV (w_chain (w_c (h1 _ ⟨_, rfl, _, rfl, fun y => ?_, fun y => ?_⟩)))
  · have y := of_decide_eq_true y
    refine w_opN (w_cons (h2 _ (w_nil ⟨_, cls_len css, _, rfl, _, rfl, ?_⟩)))
    rw [show decide (h < (css.length : Int)) = decide (0 ≤ h ∧ h < css.length) by simp [y]]
    exact hK
  · have y := of_decide_eq_false y
    refine ⟨_, rfl, ?_⟩
    rw [show false = decide (0 ≤ h ∧ h < css.length) by simp [y]]
    exact hK
theorem bNot_of {a : W Bool} {p : Bool} {ρ : En} {x : Ex → En → Prop} (ha : ∀ K : Bool → En → Prop, K p ρ → a.wp ρ K x) : ∀ K : Bool → En → Prop, K (!p) ρ → (bNot a).wp ρ K x := fun K hK => w_bNot (ha _ hK)
theorem ini_loop {i j : Nat} {d : Da} (f : Tab → Option Ce → En) {E : Fl}
    (h1 : ∀ t v y, (f t v).set j (some (.dat (.int y))) = f t (some (.dat (.int y))))
    (h2 : ∀ t y, look (f t (some (.dat (.int y)))) j = some (.int y))
    (h3 : ∀ t v, lookDic (f t v) i = some t)
    (h4 : ∀ t v t', (f t v).set i (some (odcC t')) = f t' v)
    : ∀ (c : List Int) (t : Tab) (v : Option Ce), t.length + c.length ≤ 1000 → (∀ t' v', (∀ x, tGet t' (.inl x) = if 0 - x ∈ c then some d else tGet t (.inl x)) → t'.length ≤ t.length + c.length → E.nx (f t' v')) →
      forW (.name j) (sDPut i (eOp2 dSub (eC (.int 0)) (eVar j)) (eC d)) (dis c) (f t v) E
  | [], t, v, hl, h => h t v (fun x => by simp) (Nat.le_add_right ..)
  | y :: c, t, v, hl, h => by
    rw [List.length_cons] at hl h
    refine ⟨_, rfl, ?_⟩
    rw [h1]
    refine v_dput (w_c ⟨by rw [h3]; rfl, neg_of (h2 t y) _ ⟨t, _, h3 _ _, rfl, by omega, ?_⟩⟩)
    show forW (.name j) _ (dis c) _ E
    rw [h4]
    have l1 := tPut_len t (.inl (0 - y)) d
    refine ini_loop f h1 h2 h3 h4 c _ _ (by omega) fun t' v' e l => h t' v' (fun x => ?_) (by omega)
    rw [e, tGet_put]
    by_cases hx : 0 - x ∈ c
    · rw [if_pos hx, if_pos (List.mem_cons_of_mem _ hx)]
    · rw [if_neg hx]
      by_cases hy : x = 0 - y
      · have a1 : (.inl x : Key) = .inl (0 - y) := by rw [hy]
        have a2 : 0 - x ∈ y :: c := by
          rw [hy, show 0 - (0 - y) = y by omega]
          exact List.mem_cons_self
        rw [if_pos a1, if_pos a2]
      · have a1 : ¬ (.inl x : Key) = .inl (0 - y) := fun z => hy (by cases z; rfl)
        have a2 : ¬ 0 - x ∈ y :: c := fun z => (List.mem_cons.mp z).elim (fun q => hy (by omega)) hx
        rw [if_neg a1, if_neg a2]
/-- the comprehension that keeps what is left -/
theorem lft_of {c ks : List Int} {b : W Bool} {j : Nat} {ρ : En} {kl : List Da → Prop} (hb : ∀ y ∈ c, ∀ K : Bool → En → Prop, K (!decide (0 - y ∈ ks)) (ρ.set j (some (.dat (.int y)))) → b.wp (ρ.set j (some (.dat (.int y)))) K noEx)
    (hv : ∀ y, look (ρ.set j (some (.dat (.int y)))) j = some (.int y)) (h : kl (dis (lft c ks))) : lcW (.name j) b (eVar j) (dis c) [] ρ kl :=
  lcW_of Da.int (fun y => !decide (0 - y ∈ ks)) Da.int c [] (fun y hy => ⟨_, rfl, hb y hy, fun _ K hK => w_var (hv y) hK⟩) (by rw [List.nil_append]; exact h)
theorem din_of {neg : Bool} {i : Nat} {a : Int} {t : Tab} {ks : List Int} {m : W Da} {ρ : En} {x : Ex → En → Prop} (hk : DK t ks) (h1 : ∀ K : Da → En → Prop, K (.int a) ρ → m.wp ρ K x) (e : lookDic ρ i = some t) : ∀ K : Bool → En → Prop, K (xor neg (decide (a ∈ ks))) ρ → (bV (eDIn neg i m)).wp ρ K x := fun K hK =>
  w_bV (w_din (h1 _ ⟨t, e, _, rfl, _, rfl, by rw [hk a]; exact hK⟩))
theorem oin_of {neg : Bool} {i : Nat} {a : Int} {ks : List Int} {m : W Da} {ρ : En} {x : Ex → En → Prop} (h1 : ∀ K : Da → En → Prop, K (.int a) ρ → m.wp ρ K x) (e : lookOwn ρ i = some (dis ks)) : ∀ K : Bool → En → Prop, K (xor neg (decide (a ∈ ks))) ρ → (bV (eOwnIn neg i m)).wp ρ K x := fun K hK =>
  w_bV (w_ownIn (h1 _ ⟨_, e, _, dIn_lst neg a ks, _, rfl, _, rfl, hK⟩))

/-! ### follows -/
abbrev fBody : Sx := sSeq (sIf (bNot (bV (eChain dLe dLt (eC (.int 0)) (eVar 6) (eOpN dLen (eCons (eVar 0) (eNil)))))) (sRet (eC (.bl false))) (sPass)) (sSeq (sSet 7 (eFrz (eLC [4] (iSeq (eIdx (eVar 0) (eVar 6))) (.name 4) (bV (eDIn true 3 (eOp2 dSub (eC (.int 0)) (eVar 4)))) (eVar 4)))) (sSeq (sIf (bNot (bT (eVar 7))) (sRet (eOp2 dEq (eVar 5) (eOp2 dSub (eOpN dLen (eCons (eVar 2) (eNil))) (eC (.int 1))))) (sPass)) (sSeq (sIf (bOr (bV (eOp2 dGt (eOpN dLen (eCons (eVar 7) (eNil))) (eC (.int 1)))) (bV (eDIn false 3 (eIdx (eVar 7) (eC (.int 0)))))) (sRet (eC (.bl false))) (sPass)) (sDPut 3 (eIdx (eVar 7) (eC (.int 0))) (eC (.bl true))))))
abbrev fE (css : List (List Int)) (c hs : List Int) (t : Tab) (s4 s5 s6 s7 : Option Ce) : En := [some (.dat (clsD css)), some (.dat (cl c)), some (.dat (cl hs)), some (odcC t), s4, s5, s6, s7]
theorem fE_dic (css : List (List Int)) (c hs : List Int) (t : Tab) (s4 s5 s6 s7 : Option Ce) : lookDic (fE css c hs t s4 s5 s6 s7) 3 = some t := lookDic_odc rfl
theorem bT_lst {i : Nat} {l : List Int} {ρ : En} {x : Ex → En → Prop} (e : look ρ i = some (.lst (dis l))) : ∀ K : Bool → En → Prop, K (!l.isEmpty) ρ → (bT (eVar i)).wp ρ K x := fun K hK => w_bT (w_var e ⟨!l.isEmpty, by simp [truth, dis], hK⟩)
theorem len_lst (l : List Int) : dLen [.lst (dis l)] = some (.int l.length) := by simp [dLen, dis]
theorem f_loop (css : List (List Int)) (c hs : List Int) (hn : ∀ d ∈ css, d.Nodup) {E : Fl} : ∀ (pre suf : List Int) (t : Tab) (ks : List Int) (s4 s5 s6 s7 : Option Ce), hs = pre ++ suf → s4 = none → DK t ks → t.length + suf.length ≤ 10000 →
    (∀ ρ, E.rt (.bl (fol css suf ks)) ρ) → (fol css suf ks = false → ∀ ρ, E.nx ρ) → forW (.tup [.name 5, .name 6]) fBody (enumF pre.length (dis suf)) (fE css c hs t s4 s5 s6 s7) E
  | pre, [], t, ks, s4, s5, s6, s7, e, _, hk, hl, hr, hx => hx rfl _
  | pre, h :: suf, t, ks, s4, s5, s6, s7, e, e4, hk, hl, hr, hx => by
    subst e4
    refine ⟨_, rfl, ?_⟩
    show fBody.wp (fE css c hs t none (some (.dat (.int (pre.length : Nat)))) (some (.dat (.int h))) s7) _
    unfold fol at hr hx
    refine v_seq (if_of (bNot_of (rng_of (v_of rfl) (v_of rfl))) (fun y => ?_) (fun y => ?_))
    · rw [Bool.not_eq_true', decide_eq_false_iff_not] at y
      rw [if_neg y] at hr
      exact hr _
    rw [Bool.not_eq_false', decide_eq_true_eq] at y
    rw [if_pos y] at hr hx
    have ci := cls_idx y.1 y.2
    have nd := hn _ (cls_mem y.1 y.2)
    generalize css.getD h.toNat [] = d at ci hr hx nd
    walk_at "wg"
    refine ⟨_, ci, _, rfl, rfl, lft_of (ks := ks) (fun y hy K hK => din_of hk (neg_of rfl) (fE_dic ..) K (by simpa using hK)) (fun y => rfl) ?_⟩
    show Sx.wp _ (fE css c hs t none (some (.dat (.int (pre.length : Nat)))) (some (.dat (.int h))) (some (.dat (.lst (dis (lft d ks)))))) _
    refine v_seq (if_of (bNot_of (bT_lst rfl)) (fun y => ?_) (fun y => ?_))
    · rw [Bool.not_not, List.isEmpty_iff] at y
      rw [y] at hr
      walk_at "wg"
      refine ⟨_, len_tup hs, _, rfl, _, dEq_int _ _, ?_⟩
      rw [show decide (((pre.length : Nat) : Int) = (hs.length : Int) - 1) = suf.isEmpty by
        rw [e, List.length_append, List.length_cons]
        cases suf with
        | nil => simp
        | cons a b => simp; omega]
      exact hr _
    rw [Bool.not_not] at y
    refine v_pass ?_
    dsimp only []
    generalize lft d ks = l at y hr hx
    match l, y with
    | [z], _ =>
      dsimp only [] at hr hx
      refine v_seq (if_of (p := decide (z ∈ ks)) (fun K hK => bOr_of (p := false) (q := decide (z ∈ ks)) (fun K hK => ?_) (fun _ => fun K hK => ?_) K (by rwa [Bool.false_or])) (fun q => ?_) (fun q => ?_))
      · walk_at "wg"
        exact ⟨_, rfl, _, rfl, _, rfl, hK⟩
      · exact din_of (a := z) (neg := false) hk (fun K hK => w_idx (w_op2 (w_var rfl (w_c ⟨_, rfl, hK⟩)))) (fE_dic ..) K (by rwa [Bool.false_xor])
      · rw [q] at hr
        exact hr _
      rw [q] at hr hx
      refine v_pass ?_
      dsimp only []
      refine v_dput (w_c ⟨by rw [fE_dic]; rfl, w_idx (w_op2 (w_var rfl (w_c ⟨_, rfl, t, _, fE_dic .., rfl, ?_, ?_⟩)))⟩)
      · rw [List.length_cons] at hl
        omega
      have l1 := tPut_len t (.inl z) (.bl true)
      have := f_loop css c hs hn (pre ++ [h]) suf (tPut t (.inl z) (.bl true)) (ks ++ [z]) none (some (.dat (.int (pre.length : Nat)))) (some (.dat (.int h))) (some (.dat (.lst (dis [z])))) (by rw [e]; simp) rfl (DK_put hk) (by rw [List.length_cons] at hl; omega) (fun ρ => by simpa using hr ρ) (fun q2 => hx (by simpa using q2))
      rw [List.length_append] at this
      exact this
    | a :: b :: r, _ =>
      dsimp only [] at hr hx
      refine v_seq (if_of (p := true) (fun K hK => bOr_of (p := true) (q := true) (fun K hK => ?_) (fun q => by cases q) K hK) (fun q => hr _) (fun q => by cases q))
      walk_at "wg"
      refine ⟨_, len_lst _, _, rfl, _, rfl, ?_⟩
      rw [show decide ((1 : Int) < ((a :: b :: r).length : Int)) = true by simp; omega]
      exact hK
theorem ini_DK {c : List Int} {t : Tab} {d : Da} (e : ∀ x, tGet t (.inl x) = if 0 - x ∈ c then some d else tGet [] (.inl x)) : DK t (ngs c) := by
  intro x
  rw [e]
  by_cases h : 0 - x ∈ c
  · rw [if_pos h, decide_eq_true (ngs_mem.mpr h)]
    rfl
  · rw [if_neg h, decide_eq_false (fun z => h (ngs_mem.mp z))]
    rfl
def F_follows : Fn := ⟨fun ds k _ => ∃ css c hs, ds = [clsD css, cl c, cl hs] ∧ (∀ d ∈ css, d.Nodup) ∧ c.length ≤ 100 ∧ hs.length ≤ 100 ∧ k (.bl (fol css hs (ngs c))), fun hk _ ⟨css, c, hs, e, h1, h2, h3, h⟩ => ⟨css, c, hs, e, h1, h2, h3, hk _ h⟩⟩
theorem k_follows : Keeps 3 N_follows.length F_follows S_follows := by
  rintro ds k x hl ⟨css, c, hs, rfl, hn, l1, l2, h⟩
  show S_follows.wp [some (.dat (clsD css)), some (.dat (cl c)), some (.dat (cl hs)), none, none, none, none, none] _
  unfold S_follows
  walk_at "wg"
  refine ⟨_, rfl, ini_loop (fun t v => fE css c hs t v none none none) (fun _ _ _ => rfl) (fun _ _ => rfl) (fun _ _ => fE_dic ..) (fun _ _ _ => rfl) c [] none (by simp; omega) fun t' v' e l => ?_⟩
  walk_at "wg"
  refine ⟨_, rfl, ?_⟩
  rw [List.length_nil] at l
  exact f_loop css c hs hn [] hs t' (ngs c) none none none none rfl rfl (ini_DK e) (by omega) (fun ρ => h) (fun q ρ => by
    rw [q] at h
    exact h)
/-! ### _law_follows -/
abbrev gE (css : List (List Int)) (c hs ks : List Int) (s4 s5 s6 : Option Ce) : En := [some (.dat (clsD css)), some (.dat (cl c)), some (.dat (cl hs)), some (.own (dis ks)), s4, s5, s6]
abbrev gBody : Sx := sSeq (sIf (bNot (bV (eChain dLe dLt (eC (.int 0)) (eIdx (eVar 2) (eVar 5)) (eOpN dLen (eCons (eVar 0) (eNil)))))) (sRet (eC (.bl false))) (sPass)) (sSeq (sSet 6 (eFrz (eLC [4] (iSeq (eIdx (eVar 0) (eIdx (eVar 2) (eVar 5)))) (.name 4) (bV (eOwnIn true 3 (eOp2 dSub (eC (.int 0)) (eVar 4)))) (eVar 4)))) (sSeq (sIf (bV (eOp2 dEq (eVar 6) (eFrz (eDisp (eNil))))) (sRet (eOp2 dEq (eVar 5) (eOp2 dSub (eOpN dLen (eCons (eVar 2) (eNil))) (eC (.int 1))))) (sPass)) (sSeq (sIf (bOr (bV (eOp2 dGt (eOpN dLen (eCons (eVar 6) (eNil))) (eC (.int 1)))) (bV (eOwnIn false 3 (eIdx (eVar 6) (eC (.int 0)))))) (sRet (eC (.bl false))) (sPass)) (sAppend 3 (eIdx (eVar 6) (eC (.int 0)))))))
theorem dEq_nil (l : List Int) : dEq (.lst (dis l)) (.lst []) = some (.bl l.isEmpty) := by
  unfold dEq
  rw [if_pos ⟨all_ok (ok_int 59) l, rfl⟩]
  cases l <;> rfl
theorem idx_pre (pre suf : List Int) (h : Int) : dIdx (cl (pre ++ h :: suf)) (.int (0 + ((pre.length : Nat) : Int))) = some (.int h) := by
  rw [Int.zero_add]
  refine atI_nat ?_
  unfold dis
  rw [List.getElem?_map, List.getElem?_append_right (Nat.le_refl _), Nat.sub_self]
  rfl
theorem g_loop (css : List (List Int)) (c hs : List Int) {E : Fl} : ∀ (pre suf : List Int) (ks : List Int) (s5 s6 : Option Ce), hs = pre ++ suf → ks.length + suf.length ≤ 10000 →
    (∀ ρ, E.rt (.bl (fol css suf ks)) ρ) → (fol css suf ks = false → ∀ ρ, E.nx ρ) → forW (.name 5) gBody ((List.range' pre.length suf.length).map fun i : Nat => Da.int (0 + (i : Int))) (gE css c hs ks none s5 s6) E
  | pre, [], ks, s5, s6, e, hl, hr, hx => hx rfl _
  | pre, h :: suf, ks, s5, s6, e, hl, hr, hx => by
    rw [List.length_cons, List.range'_succ, List.map_cons]
    refine ⟨_, rfl, ?_⟩
    show gBody.wp (gE css c hs ks none (some (.dat (.int (0 + ((pre.length : Nat) : Int))))) s6) _
    unfold fol at hr hx
    have ix : dIdx (cl hs) (.int (0 + ((pre.length : Nat) : Int))) = some (.int h) := by
      rw [e]
      exact idx_pre pre suf h
    have ix2 : ∀ s6, ∀ K : Da → En → Prop, K (.int h) (gE css c hs ks none (some (.dat (.int (0 + ((pre.length : Nat) : Int))))) s6) → (eIdx (eVar 2) (eVar 5)).wp (gE css c hs ks none (some (.dat (.int (0 + ((pre.length : Nat) : Int))))) s6) K E.ex := fun s6 K hK => w_idx (w_op2 (w_var rfl (w_var rfl ⟨_, ix, hK⟩)))
    refine v_seq (if_of (bNot_of (rng_of (ix2 _) (v_of rfl))) (fun y => ?_) (fun y => ?_))
    · rw [Bool.not_eq_true', decide_eq_false_iff_not] at y
      rw [if_neg y] at hr
      exact hr _
    rw [Bool.not_eq_false', decide_eq_true_eq] at y
    rw [if_pos y] at hr hx
    have ci := cls_idx y.1 y.2
    generalize css.getD h.toNat [] = d at ci hr hx
    walk_at "wg"
    refine ⟨_, ix, _, ci, _, rfl, rfl, lft_of (ks := ks) (fun y hy K hK => oin_of (neg_of rfl) rfl K (by simpa using hK)) (fun y => rfl) ?_⟩
    show Sx.wp _ (gE css c hs ks none (some (.dat (.int (0 + ((pre.length : Nat) : Int))))) (some (.dat (.lst (dis (lft d ks)))))) _
    refine v_seq (if_of (p := (lft d ks).isEmpty) (fun K hK => ?_) (fun y => ?_) (fun y => ?_))
    · walk_at "wg"
      exact ⟨by decide, _, dEq_nil _, _, rfl, hK⟩
    · rw [List.isEmpty_iff] at y
      rw [y] at hr
      walk_at "wg"
      refine ⟨_, len_tup hs, _, rfl, _, dEq_int _ _, ?_⟩
      rw [show decide (0 + ((pre.length : Nat) : Int) = (hs.length : Int) - 1) = suf.isEmpty by
        rw [e, List.length_append, List.length_cons]
        cases suf with
        | nil => simp
        | cons a b => simp; omega]
      exact hr _
    refine v_pass ?_
    dsimp only []
    generalize lft d ks = l at y hr hx
    match l, y with
    | [z], _ =>
      dsimp only [] at hr hx
      refine v_seq (if_of (p := decide (z ∈ ks)) (fun K hK => bOr_of (p := false) (q := decide (z ∈ ks)) (fun K hK => ?_) (fun _ => fun K hK => ?_) K (by rwa [Bool.false_or])) (fun q => ?_) (fun q => ?_))
      · walk_at "wg"
        exact ⟨_, rfl, _, rfl, _, rfl, hK⟩
      · exact oin_of (a := z) (neg := false) (fun K hK => w_idx (w_op2 (w_var rfl (w_c ⟨_, rfl, hK⟩)))) rfl K (by rwa [Bool.false_xor])
      · rw [q] at hr
        exact hr _
      rw [q] at hr hx
      refine v_pass ?_
      dsimp only []
      refine v_append ⟨_, rfl, w_idx (w_op2 (w_var rfl (w_c ⟨_, rfl, _, rfl, ?_, ?_⟩)))⟩
      · rw [List.length_cons] at hl
        simp [dis]
        omega
      rw [dis_snoc]
      have := g_loop css c hs (pre ++ [h]) suf (ks ++ [z]) (some (.dat (.int (0 + ((pre.length : Nat) : Int))))) (some (.dat (.lst (dis [z])))) (by rw [e]; simp) (by rw [List.length_cons] at hl; rw [List.length_append]; simp; omega) (fun ρ => by simpa using hr ρ) (fun q2 => hx (by simpa using q2))
      rw [List.length_append] at this
      exact this
    | a :: b :: r, _ =>
      dsimp only [] at hr hx
      refine v_seq (if_of (p := true) (fun K hK => bOr_of (p := true) (q := true) (fun K hK => ?_) (fun q => by cases q) K hK) (fun q => hr _) (fun q => by cases q))
      walk_at "wg"
      refine ⟨_, len_lst _, _, rfl, _, rfl, ?_⟩
      rw [show decide ((1 : Int) < ((a :: b :: r).length : Int)) = true by simp; omega]
      exact hK
theorem k__law_follows : Keeps 3 N__law_follows.length F_follows S__law_follows := by
  rintro ds k x hl ⟨css, c, hs, rfl, hn, l1, l2, h⟩
  show S__law_follows.wp [some (.dat (clsD css)), some (.dat (cl c)), some (.dat (cl hs)), none, none, none, none] _
  unfold S__law_follows
  walk_at "wg"
  refine ⟨_, rfl, rfl, lcW_all Da.int (fun y => Da.int (0 - y)) c [] (fun y hy => ⟨_, rfl, fun K hK => neg_of rfl K hK⟩) ?_⟩
  rw [List.nil_append, show (c.map fun y => Da.int (0 - y)) = dis (ngs c) by simp [dis, ngs]]
  walk_at "wg"
  refine ⟨_, len_tup hs, ?_⟩
  refine ⟨_, rfl, by omega, ?_⟩
  unfold rangeD
  rw [Int.toNat_natCast, List.range_eq_range']
  exact g_loop css c hs [] hs (ngs c) none none rfl (by simp [ngs]; omega) (fun ρ => h) (fun q ρ => by
    rw [q] at h
    exact h)
end K04
end

section
set_option maxHeartbeats 4000000
namespace K04
open PySem PySem.Spec PyProof.Rows L2 Pu PySem.W Tx TL

/-! ### chains -/
def lkD (p : Int × Int) : Da := .tup [.int p.1, .int p.2]
def lksD (ls : List (Int × Int)) : Da := .tup (ls.map lkD)
def chnD (s : Int) (ls : List (Int × Int)) : Da := .tup [.int s, lksD ls]
noncomputable def cend (css : List (List Int)) : Option (List Int) → List (Int × Int) → Option (List Int)
  | o, [] => o
  | some c, p :: r => if 0 ≤ p.1 ∧ p.1 < css.length then cend css (lnk c (css.getD p.1.toNat []) p.2) r else cend css none r
  | none, _ :: r => cend css none r
noncomputable def cnd (css : List (List Int)) (s : Int) (ls : List (Int × Int)) : Option (List Int) := if 0 ≤ s ∧ s < css.length then cend css (some (css.getD s.toNat [])) ls else none
theorem cend_none (css : List (List Int)) : ∀ ls, cend css none ls = none
  | [] => rfl
  | _ :: r => by
    unfold cend
    exact cend_none css r
def F_chain_end : Fn := ⟨fun ds k _ => ∃ css s ls, ds = [clsD css, chnD s ls] ∧ (∀ c ∈ css, isK c) ∧ (∀ p ∈ ls, 1 ≤ p.2) ∧ k (optD (cnd css s ls)), fun hk _ ⟨css, s, ls, e, h1, h2, h⟩ => ⟨css, s, ls, e, h1, h2, hk _ h⟩⟩
abbrev ceBody : Sx := sSeq (sIf (bNot (bV (eChain dLe dLt (eC (.int 0)) (eVar 5) (eOpN dLen (eCons (eVar 0) (eNil)))))) (sRet (eC .non)) (sPass)) (sSeq (sSet 4 (eCall F_link 3 (eCons (eVar 4) (eCons (eIdx (eVar 0) (eVar 5)) (eCons (eVar 6) (eNil)))))) (sIf (bV (eOp2 dIsN (eVar 4) (eC .non))) (sRet (eC .non)) (sPass)))
theorem isn_opt {i : Nat} {o : Option (List Int)} {ρ : En} {x : Ex → En → Prop} (e : look ρ i = some (optD o)) : ∀ K : Bool → En → Prop, K o.isNone ρ → (bV (eOp2 dIsN (eVar i) (eC .non))).wp ρ K x := fun K hK => by
  refine w_bV (w_op2 (w_var e (w_c ?_)))
  cases o with
  | none => exact ⟨_, rfl, _, rfl, hK⟩
  | some c => exact ⟨_, rfl, _, rfl, hK⟩
theorem ce_loop (css : List (List Int)) (hc : ∀ c ∈ css, isK c) {a b d : Option Ce} {E : Fl} : ∀ (ls : List (Int × Int)) (c : List Int) (s5 s6 : Option Ce), isK c → (∀ p ∈ ls, 1 ≤ p.2) →
    (∀ ρ, E.rt (optD (cend css (some c) ls)) ρ) → (∀ c' s5 s6, cend css (some c) ls = some c' → E.nx [some (.dat (clsD css)), a, b, d, some (.dat (cl c')), s5, s6]) →
    forW (.tup [.name 5, .name 6]) ceBody (ls.map lkD) [some (.dat (clsD css)), a, b, d, some (.dat (cl c)), s5, s6] E
  | [], c, s5, s6, hk, h2, hr, hx => hx c _ _ rfl
  | p :: ls, c, s5, s6, hk, h2, hr, hx => by
    refine ⟨_, rfl, ?_⟩
    show ceBody.wp [some (.dat (clsD css)), a, b, d, some (.dat (cl c)), some (.dat (.int p.1)), some (.dat (.int p.2))] _
    unfold cend at hr hx
    refine v_seq (if_of (bNot_of (rng_of (v_of rfl) (v_of rfl))) (fun y => ?_) (fun y => ?_))
    · rw [Bool.not_eq_true', decide_eq_false_iff_not] at y
      rw [if_neg y, cend_none] at hr
      exact hr _
    rw [Bool.not_eq_false', decide_eq_true_eq] at y
    rw [if_pos y] at hr hx
    have ci := cls_idx y.1 y.2
    have nd := hc _ (cls_mem y.1 y.2)
    generalize css.getD p.1.toNat [] = d2 at ci hr hx nd
    refine v_pass ?_
    dsimp only []
    have rfl' := h2 p List.mem_cons_self
    refine v_seq (v_set (w_call (w_cons (w_var rfl (w_cons (w_idx (w_op2 (w_var rfl (w_var rfl ⟨_, ci, ?_⟩)))))))))
    walk_at "wg"
    refine ⟨rfl, c, d2, p.2, rfl, hk, nd, rfl', ?_⟩
    dsimp only []
    refine if_of (isn_opt (o := lnk c d2 p.2) rfl) (fun q => ?_) (fun q => ?_)
    · rw [Option.isNone_iff_eq_none] at q
      rw [q, cend_none] at hr
      exact hr _
    · cases e : lnk c d2 p.2 with
      | none => rw [e] at q; cases q
      | some c' =>
        rw [e] at hr hx
        exact ce_loop css hc ls c' _ _ (lnk_isK hk nd e) (fun p hp => h2 p (List.mem_cons_of_mem _ hp)) hr hx
theorem k_chain_end : Keeps 2 N_chain_end.length F_chain_end (S_chain_end F_link) := by
  rintro ds k x hl ⟨css, s, ls, rfl, hc, h2, h⟩
  show (S_chain_end F_link).wp [some (.dat (clsD css)), some (.dat (chnD s ls)), none, none, none, none, none] _
  unfold S_chain_end
  unfold cnd at h
  refine v_seq (v_asg (w_var rfl ⟨_, rfl, ?_⟩))
  dsimp only []
  show Sx.wp _ [some (.dat (clsD css)), some (.dat (chnD s ls)), some (.dat (.int s)), some (.dat (lksD ls)), none, none, none] _
  refine v_seq (if_of (bNot_of (rng_of (h := s) (css := css) (v_of rfl) (v_of rfl))) (fun y => ?_) (fun y => ?_))
  · rw [Bool.not_eq_true', decide_eq_false_iff_not] at y
    rw [if_neg y] at h
    exact h
  rw [Bool.not_eq_false', decide_eq_true_eq] at y
  rw [if_pos y] at h
  have ci := cls_idx y.1 y.2
  have nd := hc _ (cls_mem y.1 y.2)
  generalize css.getD s.toNat [] = c at ci h nd
  walk_at "wg"
  refine ⟨_, ci, ?_⟩
  refine ce_loop css hc ls c _ _ nd h2 (fun ρ => h) fun c' s5 s6 e => ?_
  rw [e] at h
  exact h
/-! ### _law_end -/
abbrev leBody : Sx := sIf (bAnd (bV (eOp2 dNotN (eVar 2) (eC .non))) (bV (eChain dLe dLt (eC (.int 0)) (eVar 3) (eOpN dLen (eCons (eVar 0) (eNil)))))) (sSet 2 (eCall F_link 3 (eCons (eVar 2) (eCons (eIdx (eVar 0) (eVar 3)) (eCons (eVar 4) (eNil)))))) (sSet 2 (eC .non))
theorem notn_opt {i : Nat} {o : Option (List Int)} {ρ : En} {x : Ex → En → Prop} (e : look ρ i = some (optD o)) : ∀ K : Bool → En → Prop, K o.isSome ρ → (bV (eOp2 dNotN (eVar i) (eC .non))).wp ρ K x := fun K hK => by
  refine w_bV (w_op2 (w_var e (w_c ?_)))
  cases o with
  | none => exact ⟨_, rfl, _, rfl, hK⟩
  | some c => exact ⟨_, rfl, _, rfl, hK⟩
theorem le_loop (css : List (List Int)) (hc : ∀ c ∈ css, isK c) {a : Option Ce} {E : Fl} : ∀ (ls : List (Int × Int)) (o : Option (List Int)) (s5 s6 : Option Ce), (∀ c, o = some c → isK c) → (∀ p ∈ ls, 1 ≤ p.2) →
    (∀ s5 s6, E.nx [some (.dat (clsD css)), a, some (.dat (optD (cend css o ls))), s5, s6]) →
    forW (.tup [.name 3, .name 4]) leBody (ls.map lkD) [some (.dat (clsD css)), a, some (.dat (optD o)), s5, s6] E
  | [], o, s5, s6, hk, h2, hx => by
    have := hx s5 s6
    rwa [show cend css o [] = o by cases o <;> rfl] at this
  | p :: ls, o, s5, s6, hk, h2, hx => by
    refine ⟨_, rfl, ?_⟩
    show leBody.wp [some (.dat (clsD css)), a, some (.dat (optD o)), some (.dat (.int p.1)), some (.dat (.int p.2))] _
    have h2' : ∀ q ∈ ls, 1 ≤ q.2 := fun q hq => h2 q (List.mem_cons_of_mem _ hq)
    refine if_of (bAnd_of (notn_opt rfl) (fun _ => rng_of (v_of rfl) (v_of rfl))) (fun y => ?_) (fun y => ?_)
    · cases o with
      | none => cases y
      | some c =>
      simp only [Option.isSome_some, Bool.true_and, decide_eq_true_eq] at y
      unfold cend at hx
      rw [if_pos y] at hx
      have ci := cls_idx y.1 y.2
      have nd := hc _ (cls_mem y.1 y.2)
      generalize css.getD p.1.toNat [] = d2 at ci hx nd
      have rfl' := h2 p List.mem_cons_self
      walk_at "wg"
      refine ⟨_, ci, rfl, c, d2, p.2, rfl, hk _ rfl, nd, rfl', ?_⟩
      exact le_loop css hc ls (lnk c d2 p.2) _ _ (fun c' e => lnk_isK (hk _ rfl) nd e) h2' hx
    · have e : cend css o (p :: ls) = none := by
        cases o with
        | none => exact cend_none _ _
        | some c =>
          simp only [Option.isSome_some, Bool.true_and, decide_eq_false_iff_not] at y
          unfold cend
          rw [if_neg y]
          exact cend_none _ _
      rw [e] at hx
      exact le_loop css hc ls none _ _ (fun _ e => by cases e) h2' (by rw [cend_none]; exact hx)
theorem k__law_end : Keeps 2 N__law_end.length F_chain_end (S__law_end F_link) := by
  rintro ds k x hl ⟨css, s, ls, rfl, hc, h2, h⟩
  show (S__law_end F_link).wp [some (.dat (clsD css)), some (.dat (chnD s ls)), none, none, none] _
  unfold S__law_end
  unfold cnd at h
  have i0 : ∀ {s2 : Option Ce}, ∀ {x : Ex → En → Prop}, ∀ K : Da → En → Prop, K (.int s) [some (.dat (clsD css)), some (.dat (chnD s ls)), s2, none, none] → (eIdx (eVar 1) (eC (.int 0))).wp [some (.dat (clsD css)), some (.dat (chnD s ls)), s2, none, none] K x := fun K hK => w_idx (w_op2 (w_var rfl (w_c ⟨_, rfl, hK⟩)))
  refine v_seq (if_of (bNot_of (rng_of (h := s) (css := css) i0 (v_of rfl))) (fun y => ?_) (fun y => ?_))
  · rw [Bool.not_eq_true', decide_eq_false_iff_not] at y
    rw [if_neg y] at h
    exact h
  rw [Bool.not_eq_false', decide_eq_true_eq] at y
  rw [if_pos y] at h
  have ci := cls_idx y.1 y.2
  have nd := hc _ (cls_mem y.1 y.2)
  generalize css.getD s.toNat [] = c at ci h nd
  walk_at "wg"
  refine ⟨.int s, rfl, _, ci, ?_⟩
  exact le_loop css hc ls (some c) _ _ (fun c' e => by cases e; exact nd) h2 (fun s5 s6 => h)
/-! ### chain_right -/
def rgt (o : Option (List Int)) (c : List Int) : Bool := match o with
  | none => false
  | some e => e.all fun x => decide (x ∈ c)
def F_chain_right : Fn := ⟨fun ds k _ => ∃ css c s ls, ds = [clsD css, cl c, chnD s ls] ∧ (∀ c ∈ css, isK c) ∧ (∀ p ∈ ls, 1 ≤ p.2) ∧ k (.bl (rgt (cnd css s ls) c)), fun hk _ ⟨css, c, s, ls, e, h1, h2, h⟩ => ⟨css, c, s, ls, e, h1, h2, hk _ h⟩⟩
theorem k_chain_right : Keeps 3 N_chain_right.length F_chain_right (S_chain_right F_chain_end) := by
  rintro ds k x hl ⟨css, c, s, ls, rfl, hc, h2, h⟩
  show (S_chain_right F_chain_end).wp [some (.dat (clsD css)), some (.dat (cl c)), some (.dat (chnD s ls)), none, none] _
  unfold S_chain_right
  walk_at "wg"
  refine ⟨rfl, css, s, ls, rfl, hc, h2, ?_⟩
  generalize cnd css s ls = o at h
  walk_at "wg"
  cases o with
  | none => exact ⟨_, rfl, _, rfl, ⟨fun z => (by cases z), fun _ => h⟩⟩
  | some e =>
    refine ⟨_, rfl, _, rfl, ⟨fun _ => ?_, fun z => (by cases z)⟩⟩
    walk_at "wg"
    refine ⟨_, rfl, rfl, lcW_all Da.int (fun y => Da.bl (decide (y ∈ c))) e [] (fun y hy => ⟨_, rfl, fun K hK => ?_⟩) ?_⟩
    · walk_at "wg"
      exact ⟨_, dIn_seq false y (.inr rfl), by simpa using hK⟩
    · exact ⟨_, dAll_map _ e, h⟩
end K04
end

section
set_option maxHeartbeats 4000000
namespace K04
open PySem PySem.Spec PyProof.Rows L2 Pu PySem.W Tx TL

def tv (vs : List Int) (x : Int) : Bool := decide (vs.getD ((iabs x).toNat - 1) 0 = if 0 < x then 1 else 0)
theorem atI_dis {vs : List Int} {x : Int} (h1 : 1 ≤ iabs x) (h2 : iabs x ≤ vs.length) : atI (dis vs) (iabs x - 1) = some (.int (vs.getD ((iabs x).toNat - 1) 0)) := by
  have e : iabs x - 1 = (((iabs x).toNat - 1 : Nat) : Int) := by omega
  rw [e]
  refine atI_nat ?_
  unfold dis
  rw [List.getElem?_map, List.getD_eq_getElem?_getD, List.getElem?_eq_getElem (by omega)]
  rfl
def good (hs : List (List Int)) (vs : List Int) : Bool := hs.all fun c => c.any (tv vs)
def F__law_holds : Fn := ⟨fun ds k _ => ∃ (c vs : List Int), ds = [cl c, .tup (dis vs)] ∧ (∀ x ∈ c, 1 ≤ iabs x ∧ iabs x ≤ vs.length) ∧ k (.bl (c.any (tv vs))), fun hk _ ⟨c, vs, e, h1, h⟩ => ⟨c, vs, e, h1, hk _ h⟩⟩
theorem lholds_loop {vs : List Int} {P : Da} {E : Fl} : ∀ (c : List Int) (s2 : Option Ce), (∀ x ∈ c, 1 ≤ iabs x ∧ iabs x ≤ vs.length) → (∀ s2, c.any (tv vs) = false → E.nx [some (.dat P), some (.dat (.tup (dis vs))), s2]) → (∀ ρ, c.any (tv vs) = true → E.rt (.bl true) ρ) →
    forW (.name 2) (sIf (bV (eOp2 dEq (eIdx (eVar 1) (eOp2 dSub (eOpN dAbs (eCons (eVar 2) (eNil))) (eC (.int 1)))) (eOpN dInt (eCons (eOp2 dGt (eVar 2) (eC (.int 0))) (eNil))))) (sRet (eC (.bl true))) (sPass)) (dis c) [some (.dat P), some (.dat (.tup (dis vs))), s2] E
  | [], s2, _, h1, h2 => h1 s2 rfl
  | y :: c, s2, hc, h1, h2 => by
    have hy := hc y List.mem_cons_self
    refine ⟨_, rfl, ?_⟩
    walk_at "wg"
    refine ⟨_, rfl, ?_⟩
    walk_at "wg"
    refine ⟨_, rfl, _, atI_dis hy.1 hy.2, ?_⟩
    walk_at "wg"
    refine ⟨_, rfl, _, rfl, _, dEq_int _ _, _, rfl, ?_⟩
    have et : decide (vs.getD ((iabs y).toNat - 1) 0 = if decide (0 < y) = true then 1 else 0) = tv vs y := by
      unfold tv
      simp
    rw [et, List.any_cons] at *
    refine ⟨fun z => ?_, fun z => ?_⟩
    · walk_at "wg"
      exact h2 _ (by rw [z]; rfl)
    · walk_at "wg"
      rw [z, Bool.false_or] at h1 h2
      exact lholds_loop c _ (fun x hx => hc x (List.mem_cons_of_mem _ hx)) h1 h2
theorem k__law_holds : Keeps 2 N__law_holds.length F__law_holds S__law_holds := by
  rintro ds k x hl ⟨c, vs, rfl, hc, h⟩
  show S__law_holds.wp [some (.dat (cl c)), some (.dat (.tup (dis vs))), none] _
  unfold S__law_holds
  walk_at "wg"
  refine ⟨_, rfl, lholds_loop c none hc (fun s2 z => ?_) fun ρ z => ?_⟩
  · walk_at "wg"
    rw [z] at h
    exact h
  · rw [z] at h
    exact h
def LitsV (hs : List (List Int)) (vs : List Int) : Prop := ∀ c ∈ hs, ∀ x ∈ c, 1 ≤ iabs x ∧ iabs x ≤ vs.length
def F__law_good : Fn := ⟨fun ds k _ => ∃ hs vs, ds = [clsD hs, .tup (dis vs)] ∧ LitsV hs vs ∧ k (.bl (good hs vs)), fun hk _ ⟨c, vs, e, h1, h⟩ => ⟨c, vs, e, h1, hk _ h⟩⟩
theorem lgood_loop {vs : List Int} {P : Da} {E : Fl} : ∀ (hs : List (List Int)) (s2 : Option Ce), LitsV hs vs → (∀ s2, good hs vs = true → E.nx [some (.dat P), some (.dat (.tup (dis vs))), s2]) → (∀ ρ, good hs vs = false → E.rt (.bl false) ρ) →
    forW (.name 2) (sIf (bNot (bT (eCall F__law_holds 2 (eCons (eVar 2) (eCons (eVar 1) (eNil)))))) (sRet (eC (.bl false))) (sPass)) (hs.map cl) [some (.dat P), some (.dat (.tup (dis vs))), s2] E
  | [], s2, _, h1, h2 => h1 s2 rfl
  | c :: hs, s2, hc, h1, h2 => by
    refine ⟨_, rfl, ?_⟩
    walk_at "wg"
    have eg : good (c :: hs) vs = (c.any (tv vs) && good hs vs) := rfl
    rw [eg] at h1 h2
    refine ⟨rfl, c, vs, rfl, hc c List.mem_cons_self, _, rfl, fun z => ?_, fun z => ?_⟩
    · have z : c.any (tv vs) = false := by simpa using z
      walk_at "wg"
      exact h2 _ (by rw [z]; rfl)
    · have z : c.any (tv vs) = true := by simpa using z
      walk_at "wg"
      rw [z, Bool.true_and] at h1 h2
      exact lgood_loop hs _ (fun x hx => hc x (List.mem_cons_of_mem _ hx)) h1 h2
theorem k__law_good : Keeps 2 N__law_good.length F__law_good (S__law_good F__law_holds) := by
  rintro ds k x hl ⟨hs, vs, rfl, hc, h⟩
  show (S__law_good F__law_holds).wp [some (.dat (clsD hs)), some (.dat (.tup (dis vs))), none] _
  unfold S__law_good
  walk_at "wg"
  refine ⟨_, rfl, lgood_loop hs none hc (fun s2 z => ?_) fun ρ z => ?_⟩
  · walk_at "wg"
    rw [z] at h
    exact h
  · rw [z] at h
    exact h
end K04
end

section
set_option maxHeartbeats 4000000
namespace K04
open PySem PySem.Spec PyProof.Rows L2 Pu PySem.W Tx TL

/-! ### _law_rows -/
def twoR (v : List Int) : List (List Int) := [v ++ [0], v ++ [1]]
def rowsN : Nat → List (List Int)
  | 0 => [[]]
  | n + 1 => (rowsN n).flatMap twoR
theorem rowsN_len : ∀ n, (rowsN n).length = 2 ^ n
  | 0 => rfl
  | n + 1 => by
    have : ∀ l : List (List Int), (l.flatMap twoR).length = l.length * 2 := fun l => by
      induction l with
      | nil => rfl
      | cons v l ih =>
        rw [List.flatMap_cons, List.length_append, ih, List.length_cons]
        simp [twoR]
        omega
    show ((rowsN n).flatMap twoR).length = _
    rw [this, rowsN_len n, Nat.pow_succ]
theorem rowsN_mem : ∀ {n : Nat} {v : List Int}, v ∈ rowsN n → v.length = n ∧ ∀ x ∈ v, x = 0 ∨ x = 1
  | 0, v, h => by
    have : v = [] := by simpa [rowsN] using h
    subst this
    simp
  | n + 1, v, h => by
    obtain ⟨w, hw, hv⟩ := List.mem_flatMap.mp h
    obtain ⟨l, z⟩ := rowsN_mem hw
    simp [twoR] at hv
    rcases hv with rfl | rfl
    · refine ⟨by simp [l], fun x hx => ?_⟩
      rcases List.mem_append.mp hx with q | q
      · exact z x q
      · simp at q; omega
    · refine ⟨by simp [l], fun x hx => ?_⟩
      rcases List.mem_append.mp hx with q | q
      · exact z x q
      · simp at q; omega
def rowsD (l : List (List Int)) : Da := .lst (l.map cl)
theorem add_rows {a b : List (List Int)} (h : a.length + b.length ≤ 1000) : dAdd (rowsD a) (rowsD b) = some (rowsD (a ++ b)) := by
  have : a.length + b.length ≤ sizeLine := Nat.le_trans h (by decide)
  simp [rowsD, dAdd, this]
def F__law_rows : Fn := ⟨fun ds k _ => ∃ n : Nat, ds = [.int n] ∧ n ≤ 6 ∧ k (rowsD (rowsN n)), fun hk _ ⟨n, e, h1, h⟩ => ⟨n, e, h1, hk _ h⟩⟩
theorem ri_loop {a b s2 : Option Ce} {E : Fl} : ∀ (l acc : List (List Int)) (s4 : Option Ce), (∀ v ∈ l, v.length ≤ 6) → acc.length + 2 * l.length ≤ 1000 → (∀ s4, E.nx [a, b, s2, some (.dat (rowsD (acc ++ l.flatMap twoR))), s4]) →
    forW (.name 4) (sSet 3 (eOp2 dAdd (eVar 3) (eFrz (eDisp (eCons (eOp2 dAdd (eVar 4) (eTup (eCons (eC (.int 0)) (eNil)))) (eCons (eOp2 dAdd (eVar 4) (eTup (eCons (eC (.int 1)) (eNil)))) (eNil))))))) (l.map cl) [a, b, s2, some (.dat (rowsD acc)), s4] E
  | [], acc, s4, hl, hn, h => by
    have := h s4
    rwa [List.flatMap_nil, List.append_nil] at this
  | v :: l, acc, s4, hl, hn, h => by
    have lv := hl v List.mem_cons_self
    rw [List.length_cons] at hn
    refine ⟨_, rfl, ?_⟩
    walk_at "wg"
    refine ⟨by decide, _, add_cl (a := v) (b := [0]) (by simp; omega), ?_⟩
    walk_at "wg"
    refine ⟨by decide, _, add_cl (a := v) (b := [1]) (by simp; omega), ?_⟩
    refine ⟨show (2 : Nat) ≤ 1000 by decide, _, add_rows (b := twoR v) (by simp [twoR]; omega), ?_⟩
    refine ri_loop l (acc ++ twoR v) _ (fun w hw => hl w (List.mem_cons_of_mem _ hw)) (by simp [twoR]; omega) fun s4 => ?_
    have := h s4
    rwa [List.flatMap_cons, ← List.append_assoc] at this
theorem ro_loop {a : Option Ce} {E : Fl} : ∀ (m j n : Nat) (s2 s3 s4 : Option Ce), n + m ≤ 6 → (∀ s2 s3 s4, E.nx [a, some (.dat (rowsD (rowsN (n + m)))), s2, s3, s4]) →
    forW (.name 2) (sSeq (sSet 3 (eFrz (eDisp (eNil)))) (sSeq (sFor (iSeq (eVar 1)) (.name 4) (sSet 3 (eOp2 dAdd (eVar 3) (eFrz (eDisp (eCons (eOp2 dAdd (eVar 4) (eTup (eCons (eC (.int 0)) (eNil)))) (eCons (eOp2 dAdd (eVar 4) (eTup (eCons (eC (.int 1)) (eNil)))) (eNil)))))))) (sSet 1 (eVar 3)))) ((List.range' j m).map fun i : Nat => Da.int (0 + (i : Int))) [a, some (.dat (rowsD (rowsN n))), s2, s3, s4] E
  | 0, j, n, s2, s3, s4, hn, h => h s2 s3 s4
  | m + 1, j, n, s2, s3, s4, hn, h => by
    rw [List.range'_succ, List.map_cons]
    refine ⟨_, rfl, ?_⟩
    have l1 := rowsN_len n
    have l2 : 2 ^ n ≤ 2 ^ 6 := Nat.pow_le_pow_right (by decide) (by omega)
    walk_at "wg"
    refine ⟨by decide, ri_loop (rowsN n) [] s4 (fun v hv => by rw [(rowsN_mem hv).1]; omega) (by simp; omega) fun s4 => ?_⟩
    rw [List.nil_append]
    dsimp only []
    refine v_set (w_var rfl ?_)
    exact ro_loop m (j + 1) (n + 1) _ _ _ (by omega) (by rw [show n + 1 + m = n + (m + 1) by omega]; exact h)
theorem k__law_rows : Keeps 1 N__law_rows.length F__law_rows S__law_rows := by
  rintro ds k x hl ⟨n, rfl, hn, h⟩
  show S__law_rows.wp [some (.dat (.int n)), none, none, none, none] _
  unfold S__law_rows
  walk_at "wg"
  refine ⟨by decide, ?_⟩
  walk_at "wg"
  refine ⟨by decide, ?_⟩
  refine ⟨by omega, ?_⟩
  unfold rangeD
  rw [Int.toNat_natCast, List.range_eq_range']
  refine ro_loop n 0 0 none none none (by omega) fun s2 s3 s4 => ?_
  rw [Nat.zero_add]
  exact h

/-! ### single literals that lead to none -/
inductive Cl (css : List (List Int)) (k0 : List Int) : Int → Prop
  | base {x : Int} (h : x ∈ k0) : Cl css k0 x
  | unit {c : List Int} {x : Int} (hc : c ∈ css) (hx : x ∈ c) (h : ∀ y ∈ c, y ≠ x → Cl css k0 (0 - y)) : Cl css k0 x
def Conf (css : List (List Int)) (k0 : List Int) : Prop := ∃ c ∈ css, ∀ y ∈ c, Cl css k0 (0 - y)
theorem lft_mem {c ks : List Int} {x : Int} : x ∈ lft c ks ↔ x ∈ c ∧ 0 - x ∉ ks := by
  unfold lft
  simp
def Sub (css : List (List Int)) (k0 ks : List Int) : Prop := ∀ x ∈ ks, Cl css k0 x
theorem conf_of {css : List (List Int)} {k0 ks c : List Int} (hc : c ∈ css) (hs : Sub css k0 ks) (h : lft c ks = []) : Conf css k0 := by
  refine ⟨c, hc, fun y hy => ?_⟩
  refine Classical.byContradiction fun n => ?_
  have : y ∈ lft c ks := lft_mem.mpr ⟨hy, fun z => n (hs _ z)⟩
  rw [h] at this
  cases this
theorem sub_snoc {css : List (List Int)} {k0 ks c : List Int} {x : Int} (hc : c ∈ css) (hs : Sub css k0 ks) (h : lft c ks = [x]) : Sub css k0 (ks ++ [x]) := by
  intro y hy
  rcases List.mem_append.mp hy with q | q
  · exact hs y q
  · rw [List.mem_singleton] at q
    subst q
    refine .unit hc (lft_mem.mp (by rw [h]; exact List.mem_singleton.mpr rfl)).1 fun z hz n => ?_
    refine Classical.byContradiction fun m => ?_
    have : z ∈ lft c ks := lft_mem.mpr ⟨hz, fun q => m (hs _ q)⟩
    rw [h, List.mem_singleton] at this
    exact n this
/-- nothing more comes of these, and they fit -/
def Clos (css : List (List Int)) (ks : List Int) : Prop := ∀ c ∈ css, lft c ks ≠ [] ∧ ∀ x, lft c ks = [x] → x ∈ ks
theorem nodup_one : ∀ {l : List Int} {x : Int}, l.Nodup → (∀ y ∈ l, y = x) → l ≠ [] → l = [x]
  | [], x, _, _, h => absurd rfl h
  | [a], x, _, h, _ => by rw [h a List.mem_cons_self]
  | a :: b :: r, x, nd, h, _ => by
    have e1 := h a List.mem_cons_self
    have e2 := h b (List.mem_cons_of_mem _ List.mem_cons_self)
    exact absurd (by rw [e1, e2]; exact List.mem_cons_self) (List.nodup_cons.mp nd).1
theorem clos_sub {css : List (List Int)} {k0 ks : List Int} (nd : ∀ c ∈ css, c.Nodup) (hc : Clos css ks) (h0 : ∀ x ∈ k0, x ∈ ks) {x : Int} (h : Cl css k0 x) : x ∈ ks := by
  induction h with
  | base h => exact h0 _ h
  | @unit c x hcm hx h ih =>
    obtain ⟨h1, h2⟩ := hc c hcm
    refine h2 x (nodup_one ((nd c hcm).filter _) (fun y hy => ?_) h1)
    refine Classical.byContradiction fun n => ?_
    obtain ⟨a, b⟩ := lft_mem.mp hy
    exact b (ih y a n)
theorem clos_not {css : List (List Int)} {k0 ks : List Int} (nd : ∀ c ∈ css, c.Nodup) (hc : Clos css ks) (h0 : ∀ x ∈ k0, x ∈ ks) : ¬ Conf css k0 := by
  rintro ⟨c, hcm, h⟩
  refine (hc c hcm).1 ?_
  unfold lft
  rw [List.filter_eq_nil_iff]
  intro y hy
  simpa using clos_sub nd hc h0 (h y hy)
/-- all values that keep the clauses and let the literals of k0 hold let all hold that follow -/
def trueV (vs : List Int) (x : Int) : Prop := tv vs x = true
theorem tv_neg {n : Int} {vs : List Int} {x : Int} (h0 : x ≠ 0) (hx : iabs x ≤ vs.length) (hv : ∀ y ∈ vs, y = 0 ∨ y = 1) : tv vs (0 - x) = !tv vs x := by
  unfold tv
  have e : iabs (0 - x) = iabs x := by rw [Int.zero_sub]; exact iabs_neg x
  rw [e]
  have h1 := iabs_pos h0
  have hm : vs.getD ((iabs x).toNat - 1) 0 = 0 ∨ vs.getD ((iabs x).toNat - 1) 0 = 1 := by
    have h3 : (iabs x).toNat - 1 < vs.length := by omega
    rw [List.getD_eq_getElem?_getD, List.getElem?_eq_getElem h3]
    exact hv _ (List.getElem_mem h3)
  generalize vs.getD ((iabs x).toNat - 1) 0 = v at hm
  by_cases p : 0 < x
  · have p2 : ¬ 0 < 0 - x := by omega
    rw [if_pos p, if_neg p2]
    rcases hm with e | e <;> rw [e] <;> rfl
  · have p2 : 0 < 0 - x := by omega
    rw [if_neg p, if_pos p2]
    rcases hm with e | e <;> rw [e] <;> rfl
theorem cl_true {css : List (List Int)} {c vs : List Int} (lc : ∀ d ∈ css, ∀ x ∈ d, x ≠ 0 ∧ iabs x ≤ vs.length) (lc2 : ∀ x ∈ c, x ≠ 0 ∧ iabs x ≤ vs.length) (hv : ∀ y ∈ vs, y = 0 ∨ y = 1) (hg : good css vs = true) (hn : c.any (tv vs) = false) {x : Int} (h : Cl css (ngs c) x) : tv vs x = true := by
  unfold good at hg
  rw [List.all_eq_true] at hg
  induction h with
  | @base x h =>
    rw [ngs_mem] at h
    rw [List.any_eq_false] at hn
    have q := lc2 _ h
    have := tv_neg (n := 0) q.1 q.2 hv
    rw [show 0 - (0 - x) = x by omega] at this
    rw [this]
    simpa using hn _ h
  | @unit d x hd hx h ih =>
    obtain ⟨y, hy, e⟩ := List.any_eq_true.mp (hg d hd)
    by_cases n : y = x
    · rw [← n]; exact e
    · have q := lc d hd y hy
      have := tv_neg (n := 0) q.1 q.2 hv
      rw [ih y hy n, e] at this
      cases this
theorem conf_sound {css : List (List Int)} {c vs : List Int} (lc : ∀ d ∈ css, ∀ x ∈ d, x ≠ 0 ∧ iabs x ≤ vs.length) (lc2 : ∀ x ∈ c, x ≠ 0 ∧ iabs x ≤ vs.length) (hv : ∀ y ∈ vs, y = 0 ∨ y = 1) (hg : good css vs = true) (h : Conf css (ngs c)) : c.any (tv vs) = true := by
  refine Classical.byContradiction fun hn => ?_
  rw [Bool.not_eq_true] at hn
  obtain ⟨d, hd, h⟩ := h
  have hg2 := hg
  unfold good at hg2
  obtain ⟨y, hy, e⟩ := List.any_eq_true.mp (List.all_eq_true.mp hg2 d hd)
  have q := lc d hd y hy
  have := tv_neg (n := 0) q.1 q.2 hv
  rw [cl_true lc lc2 hv hg hn (h y hy), e] at this
  cases this
end K04
end

section
set_option maxHeartbeats 4000000
namespace K04
open PySem PySem.Spec PyProof.Rows L2 Pu PySem.W Tx TL

/-! ### rounds -/
def rnd : List (List Int) → List Int → Option (List Int)
  | [], ks => some ks
  | c :: cs, ks => match lft c ks with
    | [] => none
    | [x] => if x ∈ ks then rnd cs ks else rnd cs (ks ++ [x])
    | _ => rnd cs ks
def ld (css : List (List Int)) : Nat → List Int → Bool
  | 0, _ => false
  | n + 1, ks => match rnd css ks with
    | none => true
    | some ks' => ld css n ks'
def Lit6 (x : Int) : Prop := x ≠ 0 ∧ iabs x ≤ 6
def lits6 : List Int := [1, 2, 3, 4, 5, 6, -1, -2, -3, -4, -5, -6]
theorem lit6_mem {x : Int} (h : Lit6 x) : x ∈ lits6 := by
  obtain ⟨h1, h2⟩ := h
  unfold lits6
  simp
  unfold iabs at h2
  split at h2 <;> omega
theorem len12 {ks : List Int} (nd : ks.Nodup) (h : ∀ x ∈ ks, Lit6 x) : ks.length ≤ 12 := nodup_len ks lits6 nd fun x hx => lit6_mem (h x hx)
theorem lft_one {c ks : List Int} {x : Int} (h : lft c ks = [x]) : x ∈ c ∧ 0 - x ∉ ks := lft_mem.mp (by rw [h]; exact List.mem_singleton.mpr rfl)
theorem rnd_none {css : List (List Int)} {k0 : List Int} : ∀ {cs : List (List Int)} {ks : List Int}, (∀ c ∈ cs, c ∈ css) → Sub css k0 ks → rnd cs ks = none → Conf css k0
  | [], ks, _, _, h => by cases h
  | c :: cs, ks, hc, hs, h => by
    have hc' : ∀ d ∈ cs, d ∈ css := fun d hd => hc d (List.mem_cons_of_mem _ hd)
    have hm := hc c List.mem_cons_self
    unfold rnd at h
    split at h
    · exact conf_of hm hs (by assumption)
    · split at h
      · exact rnd_none hc' hs h
      · exact rnd_none hc' (sub_snoc hm hs (by assumption)) h
    · exact rnd_none hc' hs h
theorem rnd_some {css : List (List Int)} {k0 : List Int} (l6 : ∀ c ∈ css, ∀ x ∈ c, Lit6 x) : ∀ {cs : List (List Int)} {ks ks' : List Int}, (∀ c ∈ cs, c ∈ css) → Sub css k0 ks → ks.Nodup → (∀ x ∈ ks, Lit6 x) → rnd cs ks = some ks' →
    Sub css k0 ks' ∧ ks'.Nodup ∧ (∀ x ∈ ks', Lit6 x) ∧ (∀ x ∈ ks, x ∈ ks') ∧ ((ks' = ks ∧ Clos cs ks) ∨ ks.length < ks'.length)
  | [], ks, ks', _, hs, nd, hl, h => by
    cases h
    exact ⟨hs, nd, hl, fun _ h => h, .inl ⟨rfl, fun c hc => by cases hc⟩⟩
  | c :: cs, ks, ks', hc, hs, nd, hl, h => by
    have hc' : ∀ d ∈ cs, d ∈ css := fun d hd => hc d (List.mem_cons_of_mem _ hd)
    have hm := hc c List.mem_cons_self
    unfold rnd at h
    split at h
    · cases h
    · rename_i x e
      split at h
      · obtain ⟨a, b, c1, d, q⟩ := rnd_some l6 hc' hs nd hl h
        refine ⟨a, b, c1, d, q.imp (fun ⟨e1, e2⟩ => ⟨e1, fun f hf => ?_⟩) (fun z => z)⟩
        rcases List.mem_cons.mp hf with rfl | hf
        · refine ⟨by rw [e]; simp, fun y hy => ?_⟩
          rw [e] at hy
          cases hy
          assumption
        · exact e2 f hf
      · rename_i nx
        have o := lft_one e
        obtain ⟨a, b, c1, d, q⟩ := rnd_some l6 hc' (sub_snoc hm hs e) (List.nodup_append.mpr ⟨nd, by simp, fun y hy z hz n => nx (by rw [List.mem_singleton] at hz; rw [← hz, ← n]; exact hy)⟩) (fun y hy => by
          rcases List.mem_append.mp hy with q | q
          · exact hl y q
          · rw [List.mem_singleton] at q
            rw [q]
            exact l6 c hm x o.1) h
        refine ⟨a, b, c1, fun y hy => d y (List.mem_append_left _ hy), .inr ?_⟩
        rcases q with ⟨e1, _⟩ | q
        · rw [e1, List.length_append]
          simp
        · rw [List.length_append, List.length_singleton] at q
          omega
    · rename_i n1 n2
      obtain ⟨a, b, c1, d, q⟩ := rnd_some l6 hc' hs nd hl h
      refine ⟨a, b, c1, d, q.imp (fun ⟨e1, e2⟩ => ⟨e1, fun f hf => ?_⟩) (fun z => z)⟩
      rcases List.mem_cons.mp hf with rfl | hf
      · exact ⟨n1, fun y hy => absurd hy (n2 y)⟩
      · exact e2 f hf
theorem ld_true {css : List (List Int)} {k0 : List Int} (l6 : ∀ c ∈ css, ∀ x ∈ c, Lit6 x) : ∀ {n : Nat} {ks : List Int}, Sub css k0 ks → ks.Nodup → (∀ x ∈ ks, Lit6 x) → ld css n ks = true → Conf css k0
  | 0, ks, _, _, _, h => by cases h
  | n + 1, ks, hs, nd, hl, h => by
    unfold ld at h
    split at h
    · exact rnd_none (fun _ h => h) hs (by assumption)
    · rename_i ks' e
      obtain ⟨a, b, c1, d, q⟩ := rnd_some l6 (fun _ h => h) hs nd hl e
      exact ld_true l6 a b c1 h
theorem ld_false {css : List (List Int)} {k0 : List Int} (nc : ∀ c ∈ css, c.Nodup) (l6 : ∀ c ∈ css, ∀ x ∈ c, Lit6 x) : ∀ {n : Nat} {ks : List Int}, Sub css k0 ks → ks.Nodup → (∀ x ∈ ks, Lit6 x) → (∀ x ∈ k0, x ∈ ks) → 12 < ks.length + n → ld css n ks = false → ¬ Conf css k0
  | 0, ks, _, nd, hl, _, hn, h => by
    have := len12 nd hl
    omega
  | n + 1, ks, hs, nd, hl, h0, hn, h => by
    unfold ld at h
    split at h
    · cases h
    · rename_i ks' e
      obtain ⟨a, b, c1, d, q⟩ := rnd_some l6 (fun _ h => h) hs nd hl e
      rcases q with ⟨e1, e2⟩ | q
      · exact clos_not nc e2 h0
      · exact ld_false nc l6 a b c1 (fun x hx => d x (h0 x hx)) (by omega) h
theorem isK_nodup {c : List Int} (h : isK c) : c.Nodup := h.2.imp fun {a b} z e => by
  rw [e] at z
  exact lta_asym _ _ z z
theorem ngs_nodup {c : List Int} (h : c.Nodup) : (ngs c).Nodup := List.Pairwise.map _ (fun a b n e => n (by omega)) h
theorem ngs_lit {c : List Int} (h : isK c) : ∀ x ∈ ngs c, Lit6 x := fun x hx => by
  have q := h.1 _ (ngs_mem.mp hx)
  refine ⟨by omega, ?_⟩
  have := iabs_neg x
  rw [Int.zero_sub] at q
  omega
theorem ld_iff {css : List (List Int)} {c : List Int} (hc : ∀ c ∈ css, isK c) (h : isK c) : ld css 20 (ngs c) = true ↔ Conf css (ngs c) := by
  have nd := ngs_nodup (isK_nodup h)
  have l6 : ∀ c ∈ css, ∀ x ∈ c, Lit6 x := fun c hcm x hx => (hc c hcm).1 x hx
  have sb : Sub css (ngs c) (ngs c) := fun x hx => .base hx
  constructor
  · exact ld_true l6 sb nd (ngs_lit h)
  · intro q
    refine Classical.byContradiction fun n => ?_
    rw [Bool.not_eq_true] at n
    exact ld_false (fun c hcm => isK_nodup (hc c hcm)) l6 sb nd (ngs_lit h) (fun _ h => h) (by omega) n q
/-! ### _law_leads -/
def F__law_leads : Fn := ⟨fun ds k _ => ∃ css c, ds = [clsD css, cl c] ∧ (∀ c ∈ css, isK c) ∧ isK c ∧ css.length ≤ 20 ∧ k (.bl (ld css 20 (ngs c))), fun hk _ ⟨css, c, e, h1, h2, h3, h⟩ => ⟨css, c, e, h1, h2, h3, hk _ h⟩⟩
abbrev lE (css : List (List Int)) (c ks : List Int) (s4 s5 s6 : Option Ce) : En := [some (.dat (clsD css)), some (.dat (cl c)), some (.own (dis ks)), none, s4, s5, s6]
abbrev liBody : Sx := sSeq (sSet 6 (eFrz (eLC [3] (iSeq (eVar 5)) (.name 3) (bV (eOwnIn true 2 (eOp2 dSub (eC (.int 0)) (eVar 3)))) (eVar 3)))) (sSeq (sIf (bV (eOp2 dEq (eVar 6) (eFrz (eDisp (eNil))))) (sRet (eC (.bl true))) (sPass)) (sIf (bAnd (bV (eOp2 dEq (eOpN dLen (eCons (eVar 6) (eNil))) (eC (.int 1)))) (bV (eOwnIn true 2 (eIdx (eVar 6) (eC (.int 0)))))) (sAppend 2 (eIdx (eVar 6) (eC (.int 0)))) (sPass)))
theorem li_loop (css : List (List Int)) (c : List Int) {s4 : Option Ce} {E : Fl} : ∀ (cs : List (List Int)) (ks : List Int) (s5 s6 : Option Ce), ks.length + cs.length ≤ 10000 → (rnd cs ks = none → ∀ ρ, E.rt (.bl true) ρ) → (∀ ks' s5 s6, rnd cs ks = some ks' → ks'.length ≤ ks.length + cs.length → E.nx (lE css c ks' s4 s5 s6)) →
    forW (.name 5) liBody (cs.map cl) (lE css c ks s4 s5 s6) E
  | [], ks, s5, s6, hl, hr, hx => hx ks s5 s6 rfl (Nat.le_refl _)
  | d :: cs, ks, s5, s6, hl, hr, hx => by
    rw [List.length_cons] at hl hx
    refine ⟨_, rfl, ?_⟩
    show liBody.wp (lE css c ks s4 (some (.dat (cl d))) s6) _
    unfold rnd at hr hx
    walk_at "wg"
    refine ⟨_, rfl, rfl, lft_of (ks := ks) (fun y hy K hK => oin_of (neg_of rfl) rfl K (by simpa using hK)) (fun y => rfl) ?_⟩
    show Sx.wp _ (lE css c ks s4 (some (.dat (cl d))) (some (.dat (.lst (dis (lft d ks)))))) _
    refine v_seq (if_of (p := (lft d ks).isEmpty) (fun K hK => ?_) (fun y => ?_) (fun y => ?_))
    · walk_at "wg"
      exact ⟨by decide, _, dEq_nil _, _, rfl, hK⟩
    · rw [List.isEmpty_iff] at y
      rw [y] at hr
      exact hr rfl _
    refine v_pass ?_
    dsimp only []
    generalize lft d ks = l at y hr hx
    match l, y with
    | [z], _ =>
      dsimp only [] at hr hx
      refine if_of (p := !decide (z ∈ ks)) (fun K hK => bAnd_of (p := true) (q := !decide (z ∈ ks)) (fun K hK => ?_) (fun _ => fun K hK => ?_) K (by rwa [Bool.true_and])) (fun q => ?_) (fun q => ?_)
      · walk_at "wg"
        exact ⟨_, rfl, _, rfl, _, rfl, hK⟩
      · exact oin_of (a := z) (neg := true) (fun K hK => w_idx (w_op2 (w_var rfl (w_c ⟨_, rfl, hK⟩)))) rfl K (by rwa [Bool.true_xor])
      · rw [Bool.not_eq_true', decide_eq_false_iff_not] at q
        rw [if_neg q] at hr hx
        refine v_append ⟨_, rfl, w_idx (w_op2 (w_var rfl (w_c ⟨_, rfl, _, rfl, ?_, ?_⟩)))⟩
        · simp [dis]
          omega
        rw [dis_snoc]
        refine li_loop css c cs (ks ++ [z]) _ _ (by rw [List.length_append]; simp; omega) hr (fun ks' s5 s6 e l => hx ks' s5 s6 e (by rw [List.length_append] at l; simp at l; omega))
      · rw [Bool.not_eq_false', decide_eq_true_eq] at q
        rw [if_pos q] at hr hx
        refine v_pass ?_
        exact li_loop css c cs ks _ _ (by omega) hr (fun ks' s5 s6 e l => hx ks' s5 s6 e (by omega))
    | a :: b :: r, _ =>
      dsimp only [] at hr hx
      refine if_of (p := false) (fun K hK => bAnd_of (p := false) (q := true) (fun K hK => ?_) (fun q => by cases q) K hK) (fun q => by cases q) (fun q => ?_)
      · walk_at "wg"
        refine ⟨_, len_lst _, _, dEq_int _ _, _, rfl, ?_⟩
        rw [show decide (((a :: b :: r).length : Int) = 1) = false by simp; omega]
        exact hK
      · refine v_pass ?_
        exact li_loop css c cs ks _ _ (by omega) hr (fun ks' s5 s6 e l => hx ks' s5 s6 e (by omega))
theorem lo_loop (css : List (List Int)) (c : List Int) (hcl : css.length ≤ 20) {E : Fl} : ∀ (m j : Nat) (ks : List Int) (s4 s5 s6 : Option Ce), ks.length + m * 20 ≤ 5000 → (∀ ρ, ld css m ks = true → E.rt (.bl true) ρ) → (∀ ρ, ld css m ks = false → E.nx ρ) →
    forW (.name 4) (sFor (iSeq (eVar 0)) (.name 5) liBody) ((List.range' j m).map fun i : Nat => Da.int (0 + (i : Int))) (lE css c ks s4 s5 s6) E
  | 0, j, ks, s4, s5, s6, hl, hr, hx => hx _ rfl
  | m + 1, j, ks, s4, s5, s6, hl, hr, hx => by
    rw [List.range'_succ, List.map_cons]
    refine ⟨_, rfl, ?_⟩
    unfold ld at hr hx
    refine v_for (w_seq (w_var rfl ⟨_, rfl, ?_⟩))
    refine li_loop css c css ks _ _ (by omega) (fun e ρ => ?_) (fun ks' s5 s6 e l => ?_)
    · rw [e] at hr
      exact hr ρ rfl
    · rw [e] at hr hx
      exact lo_loop css c hcl m (j + 1) ks' _ _ _ (by omega) hr hx
theorem k__law_leads : Keeps 2 N__law_leads.length F__law_leads S__law_leads := by
  rintro ds k x hl ⟨css, c, rfl, hc, h1, h2, h⟩
  show S__law_leads.wp [some (.dat (clsD css)), some (.dat (cl c)), none, none, none, none, none] _
  have l6 := isK_len h1
  unfold S__law_leads
  walk_at "wg"
  refine ⟨_, rfl, rfl, lcW_all Da.int (fun y => Da.int (0 - y)) c [] (fun y hy => ⟨_, rfl, fun K hK => neg_of rfl K hK⟩) ?_⟩
  rw [List.nil_append, show (c.map fun y => Da.int (0 - y)) = dis (ngs c) by simp [dis, ngs]]
  walk_at "wg"
  refine ⟨_, rfl, by decide, ?_⟩
  unfold rangeD
  rw [List.range_eq_range']
  refine lo_loop css c h2 20 0 (ngs c) none none none (by simp [ngs]; omega) (fun ρ e => ?_) (fun ρ e => ?_)
  · rw [e] at h
    exact h
  · rw [e] at h
    exact h
end K04
end

section
set_option maxHeartbeats 4000000
namespace K04
open PySem PySem.Spec PyProof.Rows L2 Pu PySem.W Tx TL

/-! ### literals that were found, with where -/
def kn (ks : List Int) (us : List (Int × Int)) : List Int := ks ++ us.map (·.1)
def Drv (css : List (List Int)) : List Int → List (Int × Int) → Prop
  | _, [] => True
  | ks, p :: us => (0 ≤ p.2 ∧ p.2 < css.length) ∧ lft (css.getD p.2.toNat []) ks = [p.1] ∧ p.1 ∉ ks ∧ Drv css (ks ++ [p.1]) us
theorem kn_cons (ks : List Int) (p : Int × Int) (us : List (Int × Int)) : kn (ks ++ [p.1]) us = kn ks (p :: us) := by simp [kn]
theorem kn_snoc (ks : List Int) (p : Int × Int) (us : List (Int × Int)) : kn ks (us ++ [p]) = kn ks us ++ [p.1] := by simp [kn]
theorem drv_snoc {css : List (List Int)} : ∀ {us : List (Int × Int)} {ks : List Int} {p : Int × Int}, Drv css ks us → (0 ≤ p.2 ∧ p.2 < css.length) → lft (css.getD p.2.toNat []) (kn ks us) = [p.1] → p.1 ∉ kn ks us → Drv css ks (us ++ [p])
  | [], ks, p, _, h1, h2, h3 => by
    simp only [kn, List.map_nil, List.append_nil] at h2 h3
    exact ⟨h1, h2, h3, trivial⟩
  | q :: us, ks, p, h, h1, h2, h3 => by
    obtain ⟨a, b, c, d⟩ := h
    refine ⟨a, b, c, drv_snoc d h1 ?_ ?_⟩
    · rw [kn_cons]; exact h2
    · rw [kn_cons]; exact h3
theorem drv_sub {css : List (List Int)} {k0 : List Int} : ∀ {us : List (Int × Int)} {ks : List Int}, Sub css k0 ks → Drv css ks us → Sub css k0 (kn ks us)
  | [], ks, hs, _ => by
    simp only [kn, List.map_nil, List.append_nil]
    exact hs
  | p :: us, ks, hs, ⟨a, b, c, d⟩ => by
    rw [← kn_cons]
    exact drv_sub (sub_snoc (cls_mem a.1 a.2) hs b) d
theorem drv_nd {css : List (List Int)} : ∀ {us : List (Int × Int)} {ks : List Int}, ks.Nodup → Drv css ks us → (kn ks us).Nodup
  | [], ks, hs, _ => by
    simp only [kn, List.map_nil, List.append_nil]
    exact hs
  | p :: us, ks, hs, ⟨a, b, c, d⟩ => by
    rw [← kn_cons]
    exact drv_nd (List.nodup_append.mpr ⟨hs, by simp, fun y hy z hz n => c (by rw [List.mem_singleton] at hz; rw [← hz, ← n]; exact hy)⟩) d
theorem drv_mem {css : List (List Int)} : ∀ {us : List (Int × Int)} {ks : List Int} {p : Int × Int}, Drv css ks us → p ∈ us → (0 ≤ p.2 ∧ p.2 < css.length) ∧ p.1 ∈ css.getD p.2.toNat [] ∧ ∀ y ∈ css.getD p.2.toNat [], y ≠ p.1 → 0 - y ∈ kn ks us
  | q :: us, ks, p, ⟨a, b, c, d⟩, hp => by
    rcases List.mem_cons.mp hp with e | hp
    · subst e
      refine ⟨a, (lft_one b).1, fun y hy n => ?_⟩
      refine Classical.byContradiction fun m => n ?_
      have : y ∈ lft (css.getD p.2.toNat []) ks := lft_mem.mpr ⟨hy, fun z => m (List.mem_append_left _ z)⟩
      rw [b, List.mem_singleton] at this
      exact this
    · have := drv_mem d hp
      rwa [kn_cons] at this
theorem drv_lit {css : List (List Int)} {us : List (Int × Int)} {ks : List Int} (l6 : ∀ c ∈ css, ∀ x ∈ c, Lit6 x) (hk : ∀ x ∈ ks, Lit6 x) (h : Drv css ks us) : ∀ x ∈ kn ks us, Lit6 x := fun x hx => by
  rcases List.mem_append.mp hx with q | q
  · exact hk x q
  · obtain ⟨p, hp, e⟩ := List.mem_map.mp q
    obtain ⟨a, b, _⟩ := drv_mem h hp
    rw [← e]
    exact l6 _ (cls_mem a.1 a.2) _ b
/-- the hints that are kept are enough -/
theorem fol_pruned {css : List (List Int)} {k0 : List Int} {W : Int → Bool} {last : Int} (hr : 0 ≤ last ∧ last < css.length) (hw : ∀ y ∈ css.getD last.toNat [], 0 - y ∈ k0 ∨ W (0 - y) = true) :
    ∀ {us : List (Int × Int)} {ks ks' : List Int}, Drv css ks us → (∀ x ∈ k0, x ∈ ks) → (∀ z ∈ ks', z ∈ ks) → (∀ z ∈ ks, z ∈ k0 ∨ W z = true → z ∈ ks') →
    (∀ p ∈ us, W p.1 = true → ∀ y ∈ css.getD p.2.toNat [], y ≠ p.1 → 0 - y ∈ k0 ∨ W (0 - y) = true) → lft (css.getD last.toNat []) (kn ks us) = [] → fol css ((us.filter fun p => W p.1).map (·.2) ++ [last]) ks' = true
  | [], ks, ks', _, h0, s1, s2, hc, hl => by
    simp only [kn, List.map_nil, List.append_nil] at hl
    show fol css [last] ks' = true
    unfold fol
    rw [if_pos hr]
    have : lft (css.getD last.toNat []) ks' = [] := by
      unfold lft
      rw [List.filter_eq_nil_iff]
      intro y hy
      have h1 : 0 - y ∈ ks := Classical.byContradiction fun n => by
        have : y ∈ lft (css.getD last.toNat []) ks := lft_mem.mpr ⟨hy, n⟩
        rw [hl] at this
        cases this
      simp only [Bool.not_eq_true', decide_eq_false_iff_not, Classical.not_not]
      exact s2 _ h1 (hw y hy)
    rw [this]
    rfl
  | p :: us, ks, ks', ⟨a, b, c, d⟩, h0, s1, s2, hc, hl => by
    rw [← kn_cons] at hl
    by_cases hp : W p.1 = true
    · rw [List.filter_cons_of_pos (by exact hp), List.map_cons, List.cons_append]
      unfold fol
      rw [if_pos a]
      have : lft (css.getD p.2.toNat []) ks' = [p.1] := by
        rw [← b]
        unfold lft
        refine List.filter_congr fun y hy => ?_
        congr 1
        rw [decide_eq_decide]
        refine ⟨s1 _, fun q => s2 _ q ?_⟩
        refine hc p List.mem_cons_self hp y hy fun e => ?_
        rw [e] at q
        exact (lft_one b).2 q
      rw [this]
      have n : p.1 ∉ ks' := fun z => c (s1 _ z)
      simp only [decide_eq_false n, Bool.not_false, Bool.true_and]
      refine fol_pruned hr hw d (fun x hx => List.mem_append_left _ (h0 x hx)) (fun z hz => ?_) (fun z hz q => ?_) (fun q hq => hc q (List.mem_cons_of_mem _ hq)) hl
      · rcases List.mem_append.mp hz with q | q
        · exact List.mem_append_left _ (s1 z q)
        · exact List.mem_append_right _ q
      · rcases List.mem_append.mp hz with r | r
        · exact List.mem_append_left _ (s2 z r q)
        · exact List.mem_append_right _ r
    · rw [List.filter_cons_of_neg (by exact hp)]
      refine fol_pruned hr hw d (fun x hx => List.mem_append_left _ (h0 x hx)) (fun z hz => List.mem_append_left _ (s1 z hz)) (fun z hz q => ?_) (fun q hq => hc q (List.mem_cons_of_mem _ hq)) hl
      rcases List.mem_append.mp hz with r | r
      · exact s2 z r q
      · rw [List.mem_singleton] at r
        rw [r] at q
        rcases q with q | q
        · exact absurd (h0 _ q) c
        · exact absurd q hp
/-- what the table of known literals holds -/
def Fit (t : Tab) (k0 : List Int) (us : List (Int × Int)) : Prop := (∀ x ∈ k0, tGet t (.inl x) = some .non) ∧ (∀ p ∈ us, tGet t (.inl p.1) = some (.int p.2)) ∧ ∀ x, x ∉ kn k0 us → tGet t (.inl x) = none
theorem fit_DK {t : Tab} {k0 : List Int} {us : List (Int × Int)} (h : Fit t k0 us) : DK t (kn k0 us) := fun x => by
  by_cases hx : x ∈ kn k0 us
  · rw [decide_eq_true hx]
    rcases List.mem_append.mp hx with q | q
    · rw [h.1 x q]
      rfl
    · obtain ⟨p, hp, e⟩ := List.mem_map.mp q
      rw [← e, h.2.1 p hp]
      rfl
  · rw [decide_eq_false hx, h.2.2 x hx]
    rfl
theorem fit_snoc {t : Tab} {k0 : List Int} {us : List (Int × Int)} {p : Int × Int} (h : Fit t k0 us) (n : p.1 ∉ kn k0 us) : Fit (tPut t (.inl p.1) (.int p.2)) k0 (us ++ [p]) := by
  refine ⟨fun x hx => ?_, fun q hq => ?_, fun x hx => ?_⟩
  · have : ¬ (.inl x : Key) = .inl p.1 := fun z => n (by cases z; exact List.mem_append_left _ hx)
    rw [tGet_put, if_neg this]
    exact h.1 x hx
  · rcases List.mem_append.mp hq with hq | hq
    · have : ¬ (.inl q.1 : Key) = .inl p.1 := fun z => n (by injection z with z; rw [← z]; exact List.mem_append_right _ (List.mem_map.mpr ⟨q, hq, rfl⟩))
      rw [tGet_put, if_neg this]
      exact h.2.1 q hq
    · rw [List.mem_singleton] at hq
      rw [hq, tGet_put, if_pos rfl]
  · rw [kn_snoc] at hx
    have : ¬ (.inl x : Key) = .inl p.1 := fun z => hx (by cases z; simp)
    rw [tGet_put, if_neg this]
    exact h.2.2 x fun z => hx (List.mem_append_left _ z)
theorem v_while {c : W Bool} {b : Sx} {ρ : En} {E : Fl} (I : Nat → En → Prop) (n : Nat) (h0 : I n ρ) (h : ∀ n ρ, I n ρ → c.wp ρ (fun k ρ' => (k = true → b.wp ρ' { E with nx := fun ρ1 => ∃ m, m < n ∧ I m ρ1, ct := fun ρ1 => ∃ m, m < n ∧ I m ρ1, bk := E.nx }) ∧ (k = false → E.nx ρ')) E.ex) : (sWhile c b).wp ρ E :=
  ⟨I, ⟨n, h0⟩, fun n ρ hi => c.mono (fun k ρ' q => by
    cases k with
    | true => exact q.1 rfl
    | false => exact q.2 rfl) (fun _ _ z => z) (h n ρ hi)⟩
/-! ### _pruned -/
def wt (t : Tab) (x : Int) : Bool := (tGet t (.inl x)).isSome
theorem wt_put (t : Tab) (x y : Int) (d : Da) : wt (tPut t (.inl x) d) y = (decide (y = x) || wt t y) := by
  unfold wt
  rw [tGet_put]
  by_cases h : y = x
  · subst h
    simp
  · have : ¬ (.inl y : Key) = .inl x := fun z => h (by cases z; rfl)
    rw [if_neg this]
    simp [h]
def cnt (t : Tab) (us : List (Int × Int)) : Nat := (us.filter fun p => !wt t p.1).length
theorem cnt_le {t : Tab} {x : Int} {d : Da} : ∀ {us : List (Int × Int)}, cnt (tPut t (.inl x) d) us ≤ cnt t us
  | [] => Nat.le_refl _
  | p :: us => by
    have ih := cnt_le (t := t) (x := x) (d := d) (us := us)
    unfold cnt at ih ⊢
    rw [List.filter_cons, List.filter_cons, wt_put]
    by_cases h : p.1 = x
    · simp [h]
      split
      · exact Nat.le_succ_of_le ih
      · exact ih
    · simp [h]
      split
      · simpa using ih
      · exact ih
theorem cnt_lt {t : Tab} {x : Int} {d : Da} (hw : wt t x = false) : ∀ {us : List (Int × Int)}, x ∈ us.map (·.1) → cnt (tPut t (.inl x) d) us < cnt t us
  | p :: us, h => by
    have le := cnt_le (t := t) (x := x) (d := d) (us := us)
    have ih := fun h => cnt_lt (t := t) (x := x) (d := d) hw (us := us) h
    unfold cnt at ih le ⊢
    rw [List.filter_cons, List.filter_cons, wt_put]
    by_cases e : p.1 = x
    · simp [e, hw]
      omega
    · rw [List.map_cons] at h
      have h2 : x ∈ us.map (·.1) := (List.mem_cons.mp h).resolve_left (fun z => e z.symm)
      have := ih h2
      simp [e]
      split
      · simpa using this
      · exact this
def usD (us : List (Int × Int)) : Da := .lst (us.map lkD)
def F__pruned : Fn := ⟨fun ds k _ => ∃ css t k0 us last, ds = [clsD css, dctD t, usD us, .int last] ∧ (∀ c ∈ css, isK c) ∧ Drv css k0 us ∧ Fit t k0 us ∧ us.length ≤ 20 ∧ (0 ≤ last ∧ last < css.length) ∧ lft (css.getD last.toNat []) (kn k0 us) = [] ∧
    ∀ hs, fol css hs k0 = true → hs.length ≤ 21 → k (cl hs), fun hk _ ⟨css, t, k0, us, last, e, h1, h2, h3, h4, h5, h6, h⟩ => ⟨css, t, k0, us, last, e, h1, h2, h3, h4, h5, h6, fun hs a b => hk _ (h hs a b)⟩⟩
abbrev pE (css : List (List Int)) (t : Tab) (us : List (Int × Int)) (last : Int) (w : Tab) (L : List Int) (s6 s7 : Option Ce) : En := [some (.dat (clsD css)), some (.dat (dctD t)), some (.dat (usD us)), some (.dat (.int last)), some (odcC w), some (.own (dis L)), s6, s7, none]
theorem pE_dic (css : List (List Int)) (t : Tab) (us : List (Int × Int)) (last : Int) (w : Tab) (L : List Int) (s6 s7 : Option Ce) : lookDic (pE css t us last w L s6 s7) 4 = some w := lookDic_odc rfl
structure PInv (css : List (List Int)) (k0 : List Int) (us : List (Int × Int)) (last : Int) (w : Tab) (L : List Int) : Prop where
  a : ∀ z ∈ L, z ∈ kn k0 us
  b : ∀ y ∈ css.getD last.toNat [], 0 - y ∈ k0 ∨ wt w (0 - y) = true ∨ 0 - y ∈ L
  c : ∀ p ∈ us, wt w p.1 = true → ∀ y ∈ css.getD p.2.toNat [], y ≠ p.1 → 0 - y ∈ k0 ∨ wt w (0 - y) = true ∨ 0 - y ∈ L
  l : w.length + cnt w us ≤ 100
  m : L.length + 10 * cnt w us ≤ 2000
end K04
end

section
set_option maxHeartbeats 4000000
namespace K04
open PySem PySem.Spec PyProof.Rows L2 Pu PySem.W Tx TL

theorem snoc_of {α : Type} {l : List α} (h : l.isEmpty = false) : ∃ r z, l = r ++ [z] := ⟨l.dropLast, l.getLast (by intro e; rw [e] at h; cases h), (List.dropLast_concat_getLast _).symm⟩
abbrev puB : Sx := sSeq (sSet 6 (ePop 5)) (sSeq (sSet 7 (eDG1 (eVar 1) (eVar 6))) (sIf (bAnd (bV (eDIn true 4 (eVar 6))) (bV (eOp2 dNotN (eVar 7) (eC .non)))) (sSeq (sDPut 4 (eVar 6) (eC (.bl true))) (sExtend 5 (eFrz (eLC [8] (iSeq (eIdx (eVar 0) (eVar 7))) (.name 8) (bV (eOp2 dNe (eVar 8) (eVar 6))) (eOp2 dSub (eC (.int 0)) (eVar 8)))))) (sPass)))
theorem v_extend {i : Nat} {m : W Da} {ρ : En} {E : Fl} (h : ∃ ds0, lookOwn ρ i = some ds0 ∧ m.wp ρ (fun d ρ' => ∃ ds es, lookOwn ρ' i = some ds ∧ asL d = some es ∧ ds.length + es.length ≤ 16777216 ∧ E.nx (ρ'.set i (some (.own (ds ++ es))))) E.ex) : (sExtend i m).wp ρ E := h
theorem getD_cond {t : Tab} {z : Int} {o : Option Da} (h : tGet t (.inl z) = o) : dDGet1 (dctD t) (.int z) = some (o.getD .non) := by
  show ((asDct (dctD t)).bind fun t => (keyD (.int z)).bind fun k => some ((tGet t k).getD .non)) = _
  rw [asDct_dct]
  show some ((tGet t (.inl z)).getD .non) = _
  rw [h]
theorem din1_of {neg : Bool} {i : Nat} {a : Int} {t : Tab} {m : W Da} {ρ : En} {x : Ex → En → Prop} (h1 : ∀ K : Da → En → Prop, K (.int a) ρ → m.wp ρ K x) (e : lookDic ρ i = some t) : ∀ K : Bool → En → Prop, K (xor neg (wt t a)) ρ → (bV (eDIn neg i m)).wp ρ K x := fun K hK =>
  w_bV (w_din (h1 _ ⟨t, e, _, rfl, _, rfl, hK⟩))
/-- one turn of the loop -/
theorem pu_turn (css : List (List Int)) {t : Tab} {k0 : List Int} {us : List (Int × Int)} {last : Int} (hc : ∀ c ∈ css, isK c) (hd : Drv css k0 us) (hf : Fit t k0 us) {w : Tab} {r : List Int} {z : Int} {s6 s7 : Option Ce} (hi : PInv css k0 us last w (r ++ [z])) {E : Fl}
    (hx : ∀ w' L' s6 s7, PInv css k0 us last w' L' → L'.length + 10 * cnt w' us < (r ++ [z]).length + 10 * cnt w us → E.nx (pE css t us last w' L' s6 s7)) :
    puB.wp (pE css t us last w (r ++ [z]) s6 s7) E := by
  refine v_seq (v_set (w_pop ⟨dis r, .int z, ?_, ?_⟩))
  · show some (dis (r ++ [z])) = _
    rw [dis_snoc]
  dsimp only []
  show Sx.wp _ (pE css t us last w r (some (.dat (.int z))) s7) _
  have hz : z ∈ kn k0 us := hi.a z (by simp)
  have drop : wt w z = true ∨ z ∈ k0 → PInv css k0 us last w r := fun q => by
    refine ⟨fun y hy => hi.a y (List.mem_append_left _ hy), fun y hy => ?_, fun p hp hw y hy n => ?_, hi.l, ?_⟩
    · rcases hi.b y hy with h | h | h
      · exact .inl h
      · exact .inr (.inl h)
      · rcases List.mem_append.mp h with h | h
        · exact .inr (.inr h)
        · rw [List.mem_singleton] at h
          rw [h]
          exact q.elim (fun a => .inr (.inl a)) .inl
    · rcases hi.c p hp hw y hy n with h | h | h
      · exact .inl h
      · exact .inr (.inl h)
      · rcases List.mem_append.mp h with h | h
        · exact .inr (.inr h)
        · rw [List.mem_singleton] at h
          rw [h]
          exact q.elim (fun a => .inr (.inl a)) .inl
    · have := hi.m
      rw [List.length_append] at this
      omega
  have skip : wt w z = true ∨ z ∈ k0 → ∀ s6 s7, E.nx (pE css t us last w r s6 s7) := fun q s6 s7 => hx w r s6 s7 (drop q) (by rw [List.length_append, List.length_singleton]; omega)
  by_cases hk : z ∈ k0
  · refine v_seq (v_set (w_dg1 (w_var rfl ⟨by rw [asDct_dct]; rfl, w_var rfl ⟨_, getD_cond (hf.1 z hk), ?_⟩⟩)))
    dsimp only []
    show Sx.wp _ (pE css t us last w r (some (.dat (.int z))) (some (.dat .non))) _
    refine if_of (p := false) (fun K hK => bAnd_of (din1_of (a := z) (v_of rfl) (pE_dic ..)) (fun _ => ?_) K (q := false) (by rw [Bool.and_false]; exact hK)) (fun q => by cases q) (fun q => v_pass (skip (.inr hk) _ _))
    intro K hK
    walk_at "wg"
    exact ⟨_, rfl, _, rfl, hK⟩
  · have hz2 : z ∈ us.map (·.1) := (List.mem_append.mp hz).resolve_left hk
    obtain ⟨p, hp, e⟩ := List.mem_map.mp hz2
    obtain ⟨rg, hm, hq⟩ := drv_mem hd hp
    have hg := hf.2.1 p hp
    rw [e] at hg
    refine v_seq (v_set (w_dg1 (w_var rfl ⟨by rw [asDct_dct]; rfl, w_var rfl ⟨_, getD_cond hg, ?_⟩⟩)))
    dsimp only []
    show Sx.wp _ (pE css t us last w r (some (.dat (.int z))) (some (.dat (.int p.2)))) _
    refine if_of (p := !wt w z) (fun K hK => bAnd_of (din1_of (a := z) (v_of rfl) (pE_dic ..)) (fun _ => ?_) K (q := true) (by rw [Bool.and_true, Bool.true_xor]; exact hK)) (fun q => ?_) (fun q => ?_)
    · intro K hK
      walk_at "wg"
      exact ⟨_, rfl, _, rfl, hK⟩
    · rw [Bool.not_eq_true'] at q
      have c1 := cnt_lt (d := .bl true) q hz2
      have l1 := tPut_len w (.inl z) (.bl true)
      have l0 := hi.l
      have m0 := hi.m
      have ci := cls_idx rg.1 rg.2
      have k1 := hc _ (cls_mem rg.1 rg.2)
      have lk := isK_len k1
      refine v_seq (v_dput (w_c ⟨by rw [pE_dic]; rfl, w_var rfl ⟨w, _, pE_dic .., rfl, by omega, ?_⟩⟩))
      dsimp only []
      show Sx.wp _ (pE css t us last (tPut w (.inl z) (.bl true)) r (some (.dat (.int z))) (some (.dat (.int p.2)))) _
      refine v_extend ⟨_, rfl, ?_⟩
      refine w_frz (w_lc (w_seq (w_idx (w_op2 (w_var rfl (w_var rfl ⟨_, ci, _, rfl, rfl, lcW_of Da.int (fun y => decide (y ≠ z)) (fun y => .int (0 - y)) (css.getD p.2.toNat []) [] (fun y hy => ⟨_, rfl, fun K hK => ?_, fun _ K hK => neg_of rfl K hK⟩) ?_⟩))))))
      · walk_at "wg"
        exact ⟨_, dNe_int _ _, _, rfl, hK⟩
      rw [List.nil_append]
      generalize hes : (css.getD p.2.toNat []).filter (fun y => decide (y ≠ z)) = es
      have le : es.length ≤ 6 := by
        have := List.length_filter_le (fun y => decide (y ≠ z)) (css.getD p.2.toNat [])
        rw [hes] at this
        omega
      have me : ∀ y, y ∈ es ↔ y ∈ css.getD p.2.toNat [] ∧ y ≠ z := fun y => by
        rw [← hes]
        simp
      have ee : (es.map fun y => Da.int (0 - y)) = dis (ngs es) := by simp [dis, ngs]
      rw [ee]
      rw [List.length_append, List.length_singleton] at m0
      refine ⟨dis r, _, rfl, rfl, by simp [dis, ngs]; omega, ?_⟩
      rw [show dis r ++ dis (ngs es) = dis (r ++ ngs es) by simp [dis]]
      refine hx (tPut w (.inl z) (.bl true)) (r ++ ngs es) _ _ ⟨fun y hy => ?_, fun y hy => ?_, fun p2 hp2 hw y hy n => ?_, by omega, ?_⟩ ?_
      · rcases List.mem_append.mp hy with h | h
        · exact hi.a y (List.mem_append_left _ h)
        · have h := (me _).mp (ngs_mem.mp h)
          have := hq _ h.1 (by rw [e]; exact h.2)
          rwa [show 0 - (0 - y) = y by omega] at this
      · rw [wt_put, Bool.or_eq_true, decide_eq_true_eq]
        rcases hi.b y hy with h | h | h
        · exact .inl h
        · exact .inr (.inl (.inr h))
        · rcases List.mem_append.mp h with h | h
          · exact .inr (.inr (List.mem_append_left _ h))
          · rw [List.mem_singleton] at h
            exact .inr (.inl (.inl h))
      · rw [wt_put, Bool.or_eq_true, decide_eq_true_eq] at hw ⊢
        by_cases e2 : p2.1 = z
        · have g2 := hf.2.1 p2 hp2
          rw [e2, hg] at g2
          have e3 : p.2 = p2.2 := by injection g2 with g2; injection g2
          refine .inr (.inr (List.mem_append_right _ (ngs_mem.mpr ((me _).mpr ?_))))
          rw [show 0 - (0 - y) = y by omega, e3]
          exact ⟨hy, by rw [← e2]; exact n⟩
        · rcases hi.c p2 hp2 (hw.resolve_left e2) y hy n with h | h | h
          · exact .inl h
          · exact .inr (.inl (.inr h))
          · rcases List.mem_append.mp h with h | h
            · exact .inr (.inr (List.mem_append_left _ h))
            · rw [List.mem_singleton] at h
              exact .inr (.inl (.inl h))
      · simp [ngs]; omega
      · simp [ngs]; omega
    · rw [Bool.not_eq_false'] at q
      exact v_pass (skip (.inl q) _ _)
theorem add_lst {a b : List Int} (h : a.length + b.length ≤ 1000) : dAdd (.lst (dis a)) (.lst (dis b)) = some (.lst (dis (a ++ b))) := by
  have : a.length + b.length ≤ sizeLine := Nat.le_trans h (by decide)
  simp [dis, dAdd, this]
theorem used_hints (w : Tab) (us : List (Int × Int)) : ((us.filter fun p => wt w p.1).map fun p => Da.int p.2) = dis ((us.filter fun p => wt w p.1).map (·.2)) := by simp [dis]
theorem k__pruned : Keeps 4 N__pruned.length F__pruned S__pruned := by
  rintro ds k x hl ⟨css, t, k0, us, last, rfl, hc, hd, hf, hl2, hr, h0, h⟩
  show S__pruned.wp [some (.dat (clsD css)), some (.dat (dctD t)), some (.dat (usD us)), some (.dat (.int last)), none, none, none, none, none] _
  have ci := cls_idx hr.1 hr.2
  have k1 := hc _ (cls_mem hr.1 hr.2)
  have lk := isK_len k1
  unfold S__pruned
  refine v_seq (v_dnew ?_)
  dsimp only []
  walk_at "wg"
  refine ⟨_, ci, _, rfl, rfl, lcW_all Da.int (fun y => Da.int (0 - y)) (css.getD last.toNat []) [] (fun y hy => ⟨_, rfl, fun K hK => neg_of rfl K hK⟩) ?_⟩
  rw [List.nil_append, show ((css.getD last.toNat []).map fun y => Da.int (0 - y)) = dis (ngs (css.getD last.toNat [])) by simp [dis, ngs]]
  have cl0 : cnt [] us ≤ 20 := Nat.le_trans (List.length_filter_le ..) hl2
  have hin : ∀ y ∈ css.getD last.toNat [], 0 - y ∈ kn k0 us := fun y hy => Classical.byContradiction fun n => by
    have : y ∈ lft (css.getD last.toNat []) (kn k0 us) := lft_mem.mpr ⟨hy, n⟩
    rw [h0] at this
    cases this
  have inv0 : PInv css k0 us last [] (ngs (css.getD last.toNat [])) := by
    refine ⟨fun z hz => ?_, fun y hy => .inr (.inr (ngs_mem.mpr ?_)), fun p hp hw => (by cases hw), by simp; omega, ?_⟩
    rotate_left 2
    · have : (ngs (css.getD last.toNat [])).length = (css.getD last.toNat []).length := List.length_map ..
      omega
    · have := hin _ (ngs_mem.mp hz)
      rwa [show 0 - (0 - z) = z by omega] at this
    · rwa [show 0 - (0 - y) = y by omega]
  refine v_seq (v_while (fun n ρ => ∃ w L s6 s7, ρ = pE css t us last w L s6 s7 ∧ n = L.length + 10 * cnt w us ∧ PInv css k0 us last w L) _ ⟨[], ngs (css.getD last.toNat []), none, none, rfl, rfl, inv0⟩ ?_)
  rintro n ρ ⟨w, L, s6, s7, rfl, rfl, hi⟩
  refine w_bOwn ⟨dis L, rfl, fun q => ?_, fun q => ?_⟩
  · have q : L.isEmpty = false := by
      rw [Bool.not_eq_true'] at q
      cases L with
      | nil => cases q
      | cons _ _ => rfl
    obtain ⟨r, z, rfl⟩ := snoc_of q
    refine pu_turn css hc hd hf hi fun w' L' s6 s7 i2 lt => ⟨_, lt, w', L', s6, s7, rfl, rfl, i2⟩
  · have q : L = [] := by
      cases L with
      | nil => rfl
      | cons _ _ => cases q
    subst q
    have hfol := fol_pruned (css := css) (k0 := k0) (W := wt w) (last := last) hr (fun y hy => (hi.b y hy).elim .inl fun z => z.elim .inr fun z => by cases z) hd (fun _ h => h) (fun _ h => h) (fun _ h _ => h) (fun p hp hw y hy n => (hi.c p hp hw y hy n).elim .inl fun z => z.elim .inr fun z => by cases z) h0
    dsimp only []
    refine v_forget (v_forget ?_)
    show Sx.wp _ (pE css t us last w [] none none) _
    walk_at "wg"
    refine ⟨_, rfl, rfl, lcW_of lkD (fun p => wt w p.1) (fun p => .int p.2) us [] (fun p hp => ⟨_, rfl, fun K hK => din1_of (neg := false) (a := p.1) (t := w) (v_of rfl) (lookDic_odc rfl) K (by rwa [Bool.false_xor]), fun _ K hK => w_var rfl hK⟩) ?_⟩
    rw [List.nil_append, used_hints]
    have lf : (us.filter fun p => wt w p.1).length ≤ 20 := Nat.le_trans (List.length_filter_le ..) hl2
    have lh : ((us.filter fun p => wt w p.1).map (·.2)).length ≤ 20 := by rwa [List.length_map]
    generalize (us.filter fun p => wt w p.1).map (·.2) = hs at hfol lh
    walk_at "wg"
    refine ⟨show (1 : Nat) ≤ 1000 by decide, _, add_lst (a := hs) (b := [last]) (by simp; omega), ?_⟩
    walk_at "wg"
    exact ⟨_, rfl, h _ hfol (by simp; omega)⟩
end K04
end

section
set_option maxHeartbeats 4000000
namespace K04
open PySem PySem.Spec PyProof.Rows L2 Pu PySem.W Tx TL

/-! ### hints_for -/
def closA (css : List (List Int)) (ks : List Int) (a : Int) : Prop := lft (css.getD a.toNat []) ks ≠ [] ∧ ∀ x, lft (css.getD a.toNat []) ks = [x] → x ∈ ks
def F_hints_for : Fn := ⟨fun ds k _ => ∃ css c os, ds = [clsD css, cl c, .lst (dis os)] ∧ (∀ c ∈ css, isK c) ∧ isK c ∧ (∀ a ∈ os, 0 ≤ a ∧ a < css.length) ∧ (∀ a : Int, 0 ≤ a → a < css.length → a ∈ os) ∧
    (¬ Conf css (ngs c) → k .non) ∧ (Conf css (ngs c) → ∀ hs, fol css hs (ngs c) = true → hs.length ≤ 21 → k (cl hs)),
  fun hk _ ⟨css, c, os, e, h1, h2, h3, h4, h5, h6⟩ => ⟨css, c, os, e, h1, h2, h3, h4, fun z => hk _ (h5 z), fun z hs a b => hk _ (h6 z hs a b)⟩⟩
abbrev hE (css : List (List Int)) (c os : List Int) (t : Tab) (us : List (Int × Int)) (g : Bool) (s7 s8 : Option Ce) : En := [some (.dat (clsD css)), some (.dat (cl c)), some (.dat (.lst (dis os))), some (odcC t), none, some (.own (us.map lkD)), some (.dat (.bl g)), s7, s8]
theorem hE_dic (css : List (List Int)) (c os : List Int) (t : Tab) (us : List (Int × Int)) (g : Bool) (s7 s8 : Option Ce) : lookDic (hE css c os t us g s7 s8) 3 = some t := lookDic_odc rfl
abbrev hBody : Sx := sSeq (sSet 8 (eFrz (eLC [4] (iSeq (eIdx (eVar 0) (eVar 7))) (.name 4) (bV (eDIn true 3 (eOp2 dSub (eC (.int 0)) (eVar 4)))) (eVar 4)))) (sSeq (sIf (bNot (bT (eVar 8))) (sFreezeD 3 (sFreeze 5 (sRet (eCall F__pruned 4 (eCons (eVar 0) (eCons (eVar 3) (eCons (eVar 5) (eCons (eVar 7) (eNil))))))))) (sPass)) (sIf (bAnd (bV (eOp2 dEq (eOpN dLen (eCons (eVar 8) (eNil))) (eC (.int 1)))) (bV (eDIn true 3 (eIdx (eVar 8) (eC (.int 0)))))) (sSeq (sDPut 3 (eIdx (eVar 8) (eC (.int 0))) (eVar 7)) (sSeq (sAppend 5 (eTup (eCons (eIdx (eVar 8) (eC (.int 0))) (eCons (eVar 7) (eNil))))) (sSet 6 (eC (.bl true))))) (sPass)))
theorem us_len {css : List (List Int)} {k0 : List Int} {us : List (Int × Int)} (l6 : ∀ c ∈ css, ∀ x ∈ c, Lit6 x) (nd : k0.Nodup) (hk : ∀ x ∈ k0, Lit6 x) (h : Drv css k0 us) : us.length ≤ 12 := by
  have := len12 (drv_nd nd h) (drv_lit l6 hk h)
  unfold kn at this
  rw [List.length_append, List.length_map] at this
  omega
theorem hi_loop (css : List (List Int)) (c os : List Int) (hc : ∀ c ∈ css, isK c) (h1 : isK c) {E : Fl} (hr : Conf css (ngs c) → ∀ hs, fol css hs (ngs c) = true → hs.length ≤ 21 → ∀ ρ, E.rt (cl hs) ρ) :
    ∀ (r : List Int) (t : Tab) (us : List (Int × Int)) (g : Bool) (s7 s8 : Option Ce), (∀ a ∈ r, 0 ≤ a ∧ a < css.length) → Drv css (ngs c) us → Fit t (ngs c) us → t.length ≤ 100 + us.length →
    (∀ t' us' g' s7 s8, Drv css (ngs c) us' → Fit t' (ngs c) us' → t'.length ≤ 100 + us'.length → ((us.length < us'.length ∧ g' = true) ∨ (us' = us ∧ g' = g ∧ ∀ a ∈ r, closA css (kn (ngs c) us) a)) → E.nx (hE css c os t' us' g' s7 s8)) →
    forW (.name 7) hBody (dis r) (hE css c os t us g s7 s8) E
  | [], t, us, g, s7, s8, _, hd, hf, hl, hx => hx t us g s7 s8 hd hf hl (.inr ⟨rfl, rfl, fun a ha => by cases ha⟩)
  | a :: r, t, us, g, s7, s8, hrg, hd, hf, hl, hx => by
    have l6 : ∀ c ∈ css, ∀ x ∈ c, Lit6 x := fun c hcm x hx => (hc c hcm).1 x hx
    have ul := us_len l6 (ngs_nodup (isK_nodup h1)) (ngs_lit h1) hd
    have rg := hrg a List.mem_cons_self
    have hrg' : ∀ b ∈ r, 0 ≤ b ∧ b < css.length := fun b hb => hrg b (List.mem_cons_of_mem _ hb)
    have ci := cls_idx rg.1 rg.2
    refine ⟨_, rfl, ?_⟩
    show hBody.wp (hE css c os t us g (some (.dat (.int a))) s8) _
    walk_at "wg"
    refine ⟨_, ci, _, rfl, rfl, lft_of (ks := kn (ngs c) us) (fun y hy K hK => din_of (fit_DK hf) (neg_of rfl) (lookDic_odc rfl) K (by simpa using hK)) (fun y => rfl) ?_⟩
    show Sx.wp _ (hE css c os t us g (some (.dat (.int a))) (some (.dat (.lst (dis (lft (css.getD a.toNat []) (kn (ngs c) us))))))) _
    refine v_seq (if_of (bNot_of (bT_lst rfl)) (fun y => ?_) (fun y => ?_))
    · rw [Bool.not_not, List.isEmpty_iff] at y
      refine v_freezeD ⟨t, hE_dic .., v_freeze ⟨_, rfl, ?_⟩⟩
      walk_at "wg"
      refine ⟨rfl, css, t, ngs c, us, a, rfl, hc, hd, hf, by omega, rg, y, fun hs q1 q2 => ?_⟩
      exact hr (conf_of (cls_mem rg.1 rg.2) (drv_sub (fun x hx => .base hx) hd) y) hs q1 q2 _
    rw [Bool.not_not] at y
    refine v_pass ?_
    dsimp only []
    generalize el : lft (css.getD a.toNat []) (kn (ngs c) us) = l at y
    match l, y with
    | [z], _ =>
      refine if_of (p := !decide (z ∈ kn (ngs c) us)) (fun K hK => bAnd_of (p := true) (q := !decide (z ∈ kn (ngs c) us)) (fun K hK => ?_) (fun _ => fun K hK => ?_) K (by rwa [Bool.true_and])) (fun q => ?_) (fun q => ?_)
      · walk_at "wg"
        exact ⟨_, rfl, _, rfl, _, rfl, hK⟩
      · exact din_of (a := z) (neg := true) (fit_DK hf) (fun K hK => w_idx (w_op2 (w_var rfl (w_c ⟨_, rfl, hK⟩)))) (hE_dic ..) K (by rwa [Bool.true_xor])
      · rw [Bool.not_eq_true', decide_eq_false_iff_not] at q
        have l1 := tPut_len t (.inl z) (.int a)
        refine v_seq (v_dput (w_var rfl ⟨by rw [hE_dic]; rfl, w_idx (w_op2 (w_var rfl (w_c ⟨_, rfl, t, _, hE_dic .., rfl, by omega, ?_⟩)))⟩))
        dsimp only []
        refine v_seq (v_append ⟨us.map lkD, rfl, ?_⟩)
        walk_at "wg"
        refine ⟨_, rfl, ?_⟩
        walk_at "wg"
        refine ⟨show (2 : Nat) ≤ 1000 by decide, us.map lkD, rfl, by rw [List.length_map]; omega, ?_⟩
        show forW _ _ (dis r) ([some (.dat (clsD css)), some (.dat (cl c)), some (.dat (.lst (dis os))), some (odcC (tPut t (.inl z) (.int a))), none, some (.own (us.map lkD ++ [lkD (z, a)])), some (.dat (.bl true)), some (.dat (.int a)), _]) E
        rw [show us.map lkD ++ [lkD (z, a)] = (us ++ [(z, a)]).map lkD by simp]
        refine hi_loop css c os hc h1 hr r (tPut t (.inl z) (.int a)) (us ++ [(z, a)]) true _ _ hrg' (drv_snoc hd rg el q) (fit_snoc (p := (z, a)) hf q) (by rw [List.length_append, List.length_singleton]; omega) (fun t' us' g' s7 s8 a1 a2 a3 a4 => ?_)
        refine hx t' us' g' s7 s8 a1 a2 a3 (.inl ?_)
        rcases a4 with ⟨b1, b2⟩ | ⟨b1, b2, _⟩
        · rw [List.length_append] at b1
          exact ⟨by omega, b2⟩
        · rw [b1, List.length_append]
          exact ⟨by simp, b2⟩
      · rw [Bool.not_eq_false', decide_eq_true_eq] at q
        refine v_pass ?_
        refine hi_loop css c os hc h1 hr r t us g _ _ hrg' hd hf hl (fun t' us' g' s7 s8 a1 a2 a3 a4 => hx t' us' g' s7 s8 a1 a2 a3 (a4.imp_right fun ⟨b1, b2, b3⟩ => ⟨b1, b2, fun b hb => ?_⟩))
        rcases List.mem_cons.mp hb with rfl | hb
        · refine ⟨by rw [el]; simp, fun x hx => ?_⟩
          rw [el] at hx
          cases hx
          exact q
        · exact b3 b hb
    | a1 :: b1 :: r1, _ =>
      refine if_of (p := false) (fun K hK => bAnd_of (p := false) (q := true) (fun K hK => ?_) (fun q => by cases q) K hK) (fun q => by cases q) (fun q => ?_)
      · walk_at "wg"
        refine ⟨_, len_lst _, _, dEq_int _ _, _, rfl, ?_⟩
        rw [show decide (((a1 :: b1 :: r1).length : Int) = 1) = false by simp; omega]
        exact hK
      · refine v_pass ?_
        refine hi_loop css c os hc h1 hr r t us g _ _ hrg' hd hf hl (fun t' us' g' s7 s8 a1 a2 a3 a4 => hx t' us' g' s7 s8 a1 a2 a3 (a4.imp_right fun ⟨b1, b2, b3⟩ => ⟨b1, b2, fun b hb => ?_⟩))
        rcases List.mem_cons.mp hb with rfl | hb
        · refine ⟨by rw [el]; simp, fun x hx => ?_⟩
          rw [el] at hx
          cases hx
        · exact b3 b hb
theorem ini_fit {c : List Int} {t : Tab} (e : ∀ x, tGet t (.inl x) = if 0 - x ∈ c then some .non else tGet [] (.inl x)) : Fit t (ngs c) [] := by
  refine ⟨fun x hx => ?_, fun p hp => (by cases hp), fun x hx => ?_⟩
  · rw [e, if_pos (ngs_mem.mp hx)]
  · simp only [kn, List.map_nil, List.append_nil] at hx
    rw [e, if_neg (fun z => hx (ngs_mem.mpr z))]
    rfl
theorem k_hints_for : Keeps 3 N_hints_for.length F_hints_for (S_hints_for F__pruned) := by
  rintro ds k x hl ⟨css, c, os, rfl, hc, h1, h2, h3, h4, h5⟩
  show (S_hints_for F__pruned).wp [some (.dat (clsD css)), some (.dat (cl c)), some (.dat (.lst (dis os))), none, none, none, none, none, none] _
  have l6 : ∀ c ∈ css, ∀ x ∈ c, Lit6 x := fun c hcm x hx => (hc c hcm).1 x hx
  have lk := isK_len h1
  unfold S_hints_for
  refine v_seq (v_dnew ?_)
  dsimp only []
  refine v_seq (v_for (w_seq (w_var rfl ⟨_, rfl, ini_loop (fun t v => [some (.dat (clsD css)), some (.dat (cl c)), some (.dat (.lst (dis os))), some (odcC t), v, none, none, none, none]) (fun _ _ _ => rfl) (fun _ _ => rfl) (fun _ _ => lookDic_odc rfl) (fun _ _ _ => rfl) c [] none (by simp; omega) fun t v e l => ?_⟩)))
  dsimp only []
  refine v_forget ?_
  refine v_seq (v_own (w_disp (w_nil ⟨by decide, ?_⟩)))
  dsimp only []
  refine v_seq (v_set (w_c ?_))
  dsimp only []
  rw [List.length_nil] at l
  refine v_seq (v_while (fun n ρ => ∃ t us g s7 s8, ρ = hE css c os t us g s7 s8 ∧ n = (if g = true then 14 - us.length else 0) ∧ Drv css (ngs c) us ∧ Fit t (ngs c) us ∧ t.length ≤ 100 + us.length ∧ (g = false → ∀ a ∈ os, closA css (kn (ngs c) us) a)) 14 ⟨t, [], true, none, none, rfl, rfl, trivial, ini_fit e, by simp; omega, fun z => by cases z⟩ ?_)
  rintro n ρ ⟨t, us, g, s7, s8, rfl, rfl, hd, hf, hl2, hcl⟩
  have ul := us_len l6 (ngs_nodup (isK_nodup h1)) (ngs_lit h1) hd
  refine w_bT (w_var rfl ⟨g, rfl, fun q => ?_, fun q => ?_⟩)
  · subst q
    refine v_seq (v_set (w_c ?_))
    dsimp only []
    refine v_for (w_seq (w_var rfl ⟨_, rfl, ?_⟩))
    refine hi_loop css c os hc h1 (fun z hs a b ρ => h5 z hs a b) os t us false s7 s8 h2 hd hf hl2 fun t' us' g' s7 s8 a1 a2 a3 a4 => ?_
    refine ⟨_, ?_, t', us', g', s7, s8, rfl, rfl, a1, a2, a3, fun z => ?_⟩
    · rw [if_pos rfl]
      rcases a4 with ⟨b1, b2⟩ | ⟨b1, b2, _⟩
      · rw [b2, if_pos rfl]
        omega
      · rw [b2, if_neg (by decide)]
        omega
    · rcases a4 with ⟨b1, b2⟩ | ⟨b1, b2, b3⟩
      · rw [b2] at z
        cases z
      · rw [b1]
        exact b3
  · subst q
    refine h4 (clos_not (ks := kn (ngs c) us) (fun c hcm => isK_nodup (hc c hcm)) (fun d hdm => ?_) (fun x hx => List.mem_append_left _ hx))
    obtain ⟨i, hi, e⟩ := List.mem_iff_getElem.mp hdm
    have := hcl rfl (i : Int) (h3 i (by omega) (by omega))
    unfold closA at this
    rw [Int.toNat_natCast, List.getD_eq_getElem?_getD, List.getElem?_eq_getElem hi] at this
    rw [← e]
    exact this
end K04
end

section
set_option maxHeartbeats 4000000
namespace K04
open PySem PySem.Spec PyProof.Rows L2 Pu PySem.W Tx TL

theorem sIx_m1 (n d : Nat) : HT.sIx n d (some (-1)) = n - 1 := by
  show (if ((-1 : Int)) < 0 then ((-1 : Int) + (n : Int)).toNat else min ((-1 : Int)).toNat n) = n - 1
  rw [if_pos (by decide)]
  omega
theorem cut_last (l : List Da) : Pu.cutD l none (some (-1)) = l.dropLast := by
  unfold Pu.cutD
  rw [HT.sIx_none, sIx_m1, List.drop_zero, Nat.sub_zero, List.dropLast_eq_take]
theorem sl_front (as : List Int) (z : Int) : dSl (cl (as ++ [z])) none (some (-1)) = some (cl as) := by
  show some (Da.tup (Pu.cutD _ _ _)) = _
  rw [cut_last, show dis (as ++ [z]) = dis as ++ [.int z] by simp [dis], List.dropLast_concat]
  rfl
theorem idx_lastI (as : List Int) (z : Int) : dIdx (cl (as ++ [z])) (.int (-1)) = some (.int z) := by
  show atI (dis (as ++ [z])) (-1) = _
  rw [show dis (as ++ [z]) = dis as ++ [.int z] by simp [dis]]
  exact atI_last _ _
/-! ### hints that fit, taken apart -/
theorem fol_drv {css : List (List Int)} : ∀ {hs ks : List Int}, fol css hs ks = true → ∃ (us : List (Int × Int)) (last : Int), hs = us.map (·.2) ++ [last] ∧ Drv css ks us ∧ (0 ≤ last ∧ last < css.length) ∧ lft (css.getD last.toNat []) (kn ks us) = []
  | [], ks, h => by cases h
  | a :: hs, ks, h => by
    unfold fol at h
    split at h
    · rename_i rg
      split at h
      · rename_i e
        rw [List.isEmpty_iff] at h
        subst h
        exact ⟨[], a, rfl, trivial, rg, by simpa [kn] using e⟩
      · rename_i x e
        rw [Bool.and_eq_true, Bool.not_eq_true', decide_eq_false_iff_not] at h
        obtain ⟨us, last, e1, e2, e3, e4⟩ := fol_drv h.2
        exact ⟨(x, a) :: us, last, by rw [e1]; rfl, ⟨rg, e, h.1, e2⟩, e3, by rw [kn_cons ks (x, a)] at e4; exact e4⟩
      · cases h
    · cases h
theorem drv_unsnoc {css : List (List Int)} : ∀ {us : List (Int × Int)} {ks : List Int} {p : Int × Int}, Drv css ks (us ++ [p]) → Drv css ks us ∧ (0 ≤ p.2 ∧ p.2 < css.length) ∧ lft (css.getD p.2.toNat []) (kn ks us) = [p.1] ∧ p.1 ∉ kn ks us
  | [], ks, p, ⟨a, b, c, _⟩ => ⟨trivial, a, by simpa [kn] using b, by simpa [kn] using c⟩
  | q :: us, ks, p, ⟨a, b, c, d⟩ => by
    obtain ⟨e1, e2, e3, e4⟩ := drv_unsnoc d
    rw [kn_cons] at e3 e4
    exact ⟨⟨a, b, c, e1⟩, e2, e3, e4⟩
def Cons (ks : List Int) : Prop := ∀ z ∈ ks, 0 - z ∉ ks
theorem drv_cons {css : List (List Int)} (l6 : ∀ c ∈ css, ∀ x ∈ c, Lit6 x) : ∀ {us : List (Int × Int)} {ks : List Int}, Cons ks → Drv css ks us → Cons (kn ks us)
  | [], ks, h, _ => by
    simp only [kn, List.map_nil, List.append_nil]
    exact h
  | p :: us, ks, h, ⟨a, b, c, d⟩ => by
    rw [← kn_cons]
    refine drv_cons l6 (fun z hz q => ?_) d
    have o := lft_one b
    have n0 := (l6 _ (cls_mem a.1 a.2) _ o.1).1
    rcases List.mem_append.mp hz with hz | hz <;> rcases List.mem_append.mp q with q | q
    · exact h z hz q
    · rw [List.mem_singleton] at q
      exact o.2 (by rw [← q, show 0 - (0 - z) = z by omega]; exact hz)
    · rw [List.mem_singleton] at hz
      rw [hz] at q
      exact o.2 q
    · rw [List.mem_singleton] at hz q
      omega
theorem ngs_cons {c : List Int} (h : isK c) : Cons (ngs c) := fun z hz q => by
  rw [ngs_mem] at hz q
  exact prop_neg h hz q
theorem cend_snoc (css : List (List Int)) (p : Int × Int) : ∀ (ls : List (Int × Int)) (o : Option (List Int)) (c : List Int), cend css o ls = some c → cend css o (ls ++ [p]) = if 0 ≤ p.1 ∧ p.1 < css.length then lnk c (css.getD p.1.toNat []) p.2 else none
  | [], o, c, h => by
    have h : o = some c := by cases o <;> exact h
    subst h
    show cend css (some c) [p] = _
    unfold cend
    split
    · rename_i rg
      cases lnk c (css.getD p.1.toNat []) p.2 <;> rfl
    · rfl
  | q :: ls, none, c, h => by
    rw [cend_none] at h
    cases h
  | q :: ls, some d, c, h => by
    unfold cend at h
    show cend css (some d) (q :: (ls ++ [p])) = _
    rw [show cend css (some d) (q :: (ls ++ [p])) = if 0 ≤ q.1 ∧ q.1 < css.length then cend css (lnk d (css.getD q.1.toNat []) q.2) (ls ++ [p]) else cend css none (ls ++ [p]) by rw [cend]]
    split
    · rename_i rg
      rw [if_pos rg] at h
      exact cend_snoc css p ls _ c h
    · rename_i rg
      rw [if_neg rg, cend_none] at h
      cases h
/-- one link: what comes of it -/
theorem link_down {a d : List Int} {x : Int} {kp : List Int} (ha : isK a) (hd : isK d) (hx : x ∈ d) (h0 : 0 - x ∈ a) (hk : ∀ y ∈ a, 0 - y ∈ kp ++ [x]) (hl : lft d kp = [x]) (hc : Cons kp) :
    ∃ e, lnk a d (iabs x) = some e ∧ isK e ∧ ∀ y ∈ e, 0 - y ∈ kp := by
  have n0 := (hd.1 x hx).1
  have hd2 : ∀ y ∈ d, y ≠ x → 0 - y ∈ kp := fun y hy n => Classical.byContradiction fun m => n (by
    have : y ∈ lft d kp := lft_mem.mpr ⟨hy, m⟩
    rw [hl, List.mem_singleton] at this
    exact this)
  have ha2 : ∀ y ∈ a, y ≠ 0 - x → 0 - y ∈ kp := fun y hy n => by
    rcases List.mem_append.mp (hk y hy) with q | q
    · exact q
    · rw [List.mem_singleton] at q
      exact absurd (by omega) n
  have fin : ∀ r : List Int, (∀ y, y ∈ r → (y ∈ d ∧ y ≠ x) ∨ (y ∈ a ∧ y ≠ 0 - x)) → ¬ opp r ∧ ∀ y ∈ r, 0 - y ∈ kp := fun r hr => by
    have m : ∀ y ∈ r, 0 - y ∈ kp := fun y hy => (hr y hy).elim (fun q => hd2 y q.1 q.2) (fun q => ha2 y q.1 q.2)
    refine ⟨fun ⟨y, h1, h2⟩ => ?_, m⟩
    rw [← Int.zero_sub] at h2
    exact hc _ (m y h1) (m _ h2)
  by_cases p : 0 < x
  · have e : iabs x = x := by unfold iabs; split <;> omega
    have f := fin (rest d a x) fun y hy => rest_mem.mp hy
    obtain ⟨c, e1, e2, e3⟩ := res_some hd ha f.1
    refine ⟨c, ?_, e2, fun y hy => f.2 y ((e3 y).mp hy)⟩
    unfold lnk
    rw [e, if_neg (fun q => prop_neg ha q.1 h0), if_pos ⟨hx, h0⟩]
    exact e1
  · have e : iabs x = 0 - x := by unfold iabs; split <;> omega
    have e2 : 0 - (0 - x) = x := by omega
    have f := fin (rest a d (0 - x)) fun y hy => (rest_mem.mp hy).elim .inr (fun q => .inl (by rw [e2] at q; exact q))
    obtain ⟨c, g1, g2, g3⟩ := res_some ha hd f.1
    refine ⟨c, ?_, g2, fun y hy => f.2 y ((g3 y).mp hy)⟩
    unfold lnk
    rw [e, if_pos ⟨h0, by rwa [e2]⟩]
    exact g1
/-! ### chain_of -/
def F_chain_of : Fn := ⟨fun ds k _ => ∃ css c hs, ds = [clsD css, cl c, cl hs] ∧ (∀ c ∈ css, isK c) ∧ isK c ∧ hs.length ≤ 100 ∧ fol css hs (ngs c) = true ∧
    ∀ (s : Int) (ls : List (Int × Int)) (e : List Int), (∀ p ∈ ls, 1 ≤ p.2) → ls.length ≤ 100 → cnd css s ls = some e → (∀ y ∈ e, y ∈ c) → k (chnD s ls),
  fun hk _ ⟨css, c, hs, e, h1, h2, h3, h4, h⟩ => ⟨css, c, hs, e, h1, h2, h3, h4, fun s ls e a b c d => hk _ (h s ls e a b c d)⟩⟩
abbrev coE (css : List (List Int)) (c hs : List Int) (t : Tab) (s3 : Option Ce) (os : Ce) (s6 s7 s8 s9 : Option Ce) : En := [some (.dat (clsD css)), some (.dat (cl c)), some (.dat (cl hs)), s3, some (odcC t), some os, s6, s7, s8, s9]
theorem coE_dic (css : List (List Int)) (c hs : List Int) (t : Tab) (s3 : Option Ce) (os : Ce) (s6 s7 s8 s9 : Option Ce) : lookDic (coE css c hs t s3 os s6 s7 s8 s9) 4 = some t := lookDic_odc rfl
abbrev coA : Sx := sSeq (sSet 7 (eFrz (eLC [6] (iSeq (eIdx (eVar 0) (eVar 3))) (.name 6) (bV (eDIn true 4 (eOp2 dSub (eC (.int 0)) (eVar 6)))) (eVar 6)))) (sSeq (sIf (bOr (bV (eOp2 dNe (eOpN dLen (eCons (eVar 7) (eNil))) (eC (.int 1)))) (bV (eDIn false 4 (eIdx (eVar 7) (eC (.int 0)))))) (sRet (eC .non)) (sPass)) (sSeq (sDPut 4 (eIdx (eVar 7) (eC (.int 0))) (eVar 3)) (sAppend 5 (eIdx (eVar 7) (eC (.int 0))))))
theorem co_fwd (css : List (List Int)) (c hs : List Int) {s8 s9 : Option Ce} {E : Fl} : ∀ (us pre : List (Int × Int)) (k0 : List Int) (t : Tab) (s3 s7 : Option Ce), Drv css (kn k0 pre) us → Fit t k0 pre → t.length + us.length ≤ 1000 → pre.length + us.length ≤ 1000 →
    (∀ t' s3 s7, Fit t' k0 (pre ++ us) → E.nx (coE css c hs t' s3 (.own (dis ((pre ++ us).map (·.1)))) none s7 s8 s9)) →
    forW (.name 3) coA (dis (us.map (·.2))) (coE css c hs t s3 (.own (dis (pre.map (·.1)))) none s7 s8 s9) E
  | [], pre, k0, t, s3, s7, hd, hf, hl, hl2, hx => by
    have := hx t s3 s7 (by rwa [List.append_nil])
    rwa [List.append_nil] at this
  | p :: us, pre, k0, t, s3, s7, ⟨rg, e, n, hd⟩, hf, hl, hl2, hx => by
    rw [List.length_cons] at hl hl2
    refine ⟨_, rfl, ?_⟩
    show coA.wp (coE css c hs t (some (.dat (.int p.2))) (.own (dis (pre.map (·.1)))) none s7 s8 s9) _
    have ci := cls_idx rg.1 rg.2
    walk_at "wg"
    refine ⟨_, ci, _, rfl, rfl, lft_of (ks := kn k0 pre) (fun y hy K hK => din_of (fit_DK hf) (neg_of rfl) (lookDic_odc rfl) K (by simpa using hK)) (fun y => rfl) ?_⟩
    rw [e]
    show Sx.wp _ (coE css c hs t (some (.dat (.int p.2))) (.own (dis (pre.map (·.1)))) none (some (.dat (.lst (dis [p.1])))) s8 s9) _
    refine v_seq (if_of (p := false) (fun K hK => bOr_of (p := false) (q := false) (fun K hK => ?_) (fun _ => fun K hK => ?_) K hK) (fun q => by cases q) (fun q => ?_))
    · walk_at "wg"
      exact ⟨_, rfl, _, rfl, _, rfl, hK⟩
    · exact din_of (a := p.1) (neg := false) (fit_DK hf) (fun K hK => w_idx (w_op2 (w_var rfl (w_c ⟨_, rfl, hK⟩)))) (coE_dic ..) K (by rwa [decide_eq_false n])
    refine v_pass ?_
    dsimp only []
    have l1 := tPut_len t (.inl p.1) (.int p.2)
    refine v_seq (v_dput (w_var rfl ⟨by rw [coE_dic]; rfl, w_idx (w_op2 (w_var rfl (w_c ⟨_, rfl, t, _, coE_dic .., rfl, by omega, ?_⟩)))⟩))
    dsimp only []
    refine v_append ⟨_, rfl, w_idx (w_op2 (w_var rfl (w_c ⟨_, rfl, _, rfl, by simp [dis]; omega, ?_⟩)))⟩
    rw [dis_snoc, show pre.map (·.1) ++ [p.1] = (pre ++ [p]).map (·.1) by simp]
    refine co_fwd css c hs us (pre ++ [p]) k0 (tPut t (.inl p.1) (.int p.2)) _ _ (by rw [kn_snoc]; exact hd) (fit_snoc hf n) (by omega) (by rw [List.length_append, List.length_singleton]; omega) (fun t' s3 s7 q => ?_)
    rw [List.append_assoc] at q ⊢
    exact hx t' s3 s7 q
abbrev coB : Sx := sIf (bV (eOp2 (dIn false) (eOp2 dSub (eC (.int 0)) (eVar 6)) (eVar 8))) (sSeq (sSet 8 (eCall F_joined 3 (eCons (eVar 8) (eCons (eIdx (eVar 0) (eDGet 4 (eVar 6))) (eCons (eVar 6) (eNil)))))) (sAppend 9 (eTup (eCons (eDGet 4 (eVar 6)) (eCons (eOpN dAbs (eCons (eVar 6) (eNil))) (eNil)))))) (sPass)
theorem dget_of {i : Nat} {a : Int} {t : Tab} {v : Da} {m : W Da} {ρ : En} {x : Ex → En → Prop} (h1 : ∀ K : Da → En → Prop, K (.int a) ρ → m.wp ρ K x) (e : lookDic ρ i = some t) (hg : tGet t (.inl a) = some v) : ∀ K : Da → En → Prop, K v ρ → (eDGet i m).wp ρ K x := fun K hK =>
  w_dget (by rw [e]; rfl) (h1 _ ⟨t, e, _, rfl, _, hg, hK⟩)
theorem snoc_ind {α : Type} (l : List α) : l = [] ∨ ∃ r z, l = r ++ [z] := by
  rcases List.eq_nil_or_concat l with h | ⟨a, b, h⟩
  · exact .inl h
  · exact .inr ⟨a, b, by simpa using h⟩
theorem co_step (css : List (List Int)) (c hs : List Int) (hc : ∀ c ∈ css, isK c) {s : Int} {t : Tab} {os : Ce} {k0 : List Int} (hk0 : Cons k0) {s3 s7 : Option Ce} {E : Fl} (us : List (Int × Int)) (p : Int × Int) (a : List Int) (L : List (Int × Int)) (hd : Drv css k0 (us ++ [p])) (hg : tGet t (.inl p.1) = some (.int p.2)) (hk : isK a) (hi : ∀ y ∈ a, 0 - y ∈ kn k0 (us ++ [p])) (hL : ∀ p ∈ L, 1 ≤ p.2) (hl : L.length ≤ 200) (e : cnd css s L = some a)
    (hx : ∀ a' L' s6, isK a' → (∀ y ∈ a', 0 - y ∈ kn k0 us) → (∀ p ∈ L', 1 ≤ p.2) → L'.length ≤ L.length + 1 → cnd css s L' = some a' → E.nx (coE css c hs t s3 os s6 s7 (some (.dat (cl a'))) (some (.own (L'.map lkD))))) :
    coB.wp (coE css c hs t s3 os (some (.dat (.int p.1))) s7 (some (.dat (cl a))) (some (.own (L.map lkD)))) E := by
  obtain ⟨d1, rg, d2, d3⟩ := drv_unsnoc hd
  have ci := cls_idx rg.1 rg.2
  have kd := hc _ (cls_mem rg.1 rg.2)
  have l6 : ∀ c ∈ css, ∀ x ∈ c, Lit6 x := fun c hcm x hx => (hc c hcm).1 x hx
  have hcn := drv_cons l6 hk0 d1
  have o := lft_one d2
  rw [kn_snoc] at hi
  refine if_of (in_tt (a := 0 - p.1) (ls := a) (.inr rfl) (neg_of rfl) (v_of rfl)) (fun q => ?_) (fun q => ?_)
  · rw [Bool.false_xor, decide_eq_true_eq] at q
    obtain ⟨a2, g1, g2, g3⟩ := link_down hk kd o.1 q hi d2 hcn
    have cs : cnd css s (L ++ [(p.2, iabs p.1)]) = some a2 := by
      unfold cnd at e ⊢
      split at e
      · rename_i rs
        rw [if_pos rs, cend_snoc css (p.2, iabs p.1) L _ a e, if_pos rg]
        exact g1
      · cases e
    have i1 := iabs_pos (kd.1 _ o.1).1
    have st : (sSet 8 (eCall F_joined 3 (eCons (eVar 8) (eCons (eIdx (eVar 0) (eDGet 4 (eVar 6))) (eCons (eVar 6) (eNil)))))).wp (coE css c hs t s3 os (some (.dat (.int p.1))) s7 (some (.dat (cl a))) (some (.own (L.map lkD)))) { E with nx := fun ρ' => (sAppend 9 (eTup (eCons (eDGet 4 (eVar 6)) (eCons (eOpN dAbs (eCons (eVar 6) (eNil))) (eNil))))).wp ρ' E } := by
      refine v_set (w_call (w_cons (w_var rfl ?_)))
      refine w_cons (w_idx (w_op2 (w_var rfl ?_)))
      refine dget_of (v_of rfl) (coE_dic ..) hg _ ?_
      refine ⟨_, ci, ?_⟩
      refine w_cons (w_var rfl (w_nil ?_))
      refine ⟨rfl, a, _, p.1, rfl, hk, kd, o.1, q, ?_⟩
      rw [g1]
      refine v_append ⟨L.map lkD, rfl, ?_⟩
      refine w_tup (w_cons ?_)
      refine dget_of (v_of rfl) (lookDic_odc rfl) hg _ ?_
      refine w_cons (w_opN (w_cons (w_var rfl (w_nil ⟨_, rfl, ?_⟩))))
      refine w_nil ⟨show (2 : Nat) ≤ 1000 by decide, L.map lkD, rfl, by rw [List.length_map]; omega, ?_⟩
      have en : L.map lkD ++ [Da.tup [.int p.2, .int (iabs p.1)]] = (L ++ [(p.2, iabs p.1)]).map lkD := by simp [lkD]
      rw [en]
      refine hx a2 (L ++ [(p.2, iabs p.1)]) _ g2 g3 (fun z hz => ?_) (by rw [List.length_append, List.length_singleton]; omega) cs
      rcases List.mem_append.mp hz with hz | hz
      · exact hL z hz
      · rw [List.mem_singleton] at hz
        rw [hz]
        exact i1
    exact st
  · rw [Bool.false_xor, decide_eq_false_iff_not] at q
    refine v_pass ?_
    refine hx a L _ hk (fun y hy => ?_) hL (by omega) e
    rcases List.mem_append.mp (hi y hy) with z | z
    · exact z
    · rw [List.mem_singleton] at z
      exact absurd (by rw [← z, show 0 - (0 - y) = y by omega]; exact hy) q
theorem co_bwd (css : List (List Int)) (c hs : List Int) (hc : ∀ c ∈ css, isK c) {s : Int} {t : Tab} {os : Ce} {k0 : List Int} (hk0 : Cons k0) {s3 s7 : Option Ce} {E : Fl} (n : Nat) : ∀ (us : List (Int × Int)) (a : List Int) (L : List (Int × Int)) (s6 : Option Ce), us.length = n → Drv css k0 us → (∀ p ∈ us, tGet t (.inl p.1) = some (.int p.2)) → isK a → (∀ y ∈ a, 0 - y ∈ kn k0 us) → (∀ p ∈ L, 1 ≤ p.2) → L.length + us.length ≤ 100 → cnd css s L = some a →
    (∀ a' L' s6, isK a' → (∀ y ∈ a', 0 - y ∈ k0) → (∀ p ∈ L', 1 ≤ p.2) → L'.length ≤ 100 → cnd css s L' = some a' → E.nx (coE css c hs t s3 os s6 s7 (some (.dat (cl a'))) (some (.own (L'.map lkD))))) →
    forW (.name 6) coB (dis (us.map (·.1)).reverse) (coE css c hs t s3 os s6 s7 (some (.dat (cl a))) (some (.own (L.map lkD)))) E := by
  induction n with
  | zero =>
    intro us a L s6 hn hd ht hk hi hL hl e hx
    have : us = [] := List.length_eq_zero_iff.mp hn
    subst this
    simp only [kn, List.map_nil, List.append_nil] at hi
    exact hx a L s6 hk hi hL (by simpa using hl) e
  | succ n ih =>
    intro us a L s6 hn hd ht hk hi hL hl e hx
    rcases snoc_ind us with rfl | ⟨us, p, rfl⟩
    · cases hn
    have d1 := (drv_unsnoc hd).1
    rw [List.length_append, List.length_singleton] at hn hl
    have er : dis ((us ++ [p]).map (·.1)).reverse = .int p.1 :: dis (us.map (·.1)).reverse := by simp [dis]
    rw [er]
    refine ⟨_, rfl, ?_⟩
    refine co_step css c hs hc (os := os) hk0 us p a L hd (ht p (by simp)) hk hi hL (by omega) e fun a' L' s6 g1 g2 g3 g4 g5 => ?_
    exact ih us a' L' s6 (by omega) d1 (fun q hq => ht q (List.mem_append_left _ hq)) g1 g2 g3 (by omega) g5 hx
theorem rngv_of {css : List (List Int)} {i : Nat} {h : Int} {ρ : En} {x : Ex → En → Prop} (h1 : look ρ i = some (.int h)) (h2 : look ρ 0 = some (clsD css)) :
    ∀ K : Da → En → Prop, K (.bl (decide (0 ≤ h ∧ h < css.length))) ρ → (eChain dLe dLt (eC (.int 0)) (eVar i) (eOpN dLen (eCons (eVar 0) (eNil)))).wp ρ K x := fun K hK => by
  refine w_chain (w_c (w_var h1 ⟨_, rfl, _, rfl, fun y => ?_, fun y => ?_⟩))
  · have y := of_decide_eq_true y
    refine w_opN (w_cons (w_var h2 (w_nil ⟨_, cls_len css, _, rfl, ?_⟩)))
    rw [show decide (h < (css.length : Int)) = decide (0 ≤ h ∧ h < css.length) by simp [y]]
    exact hK
  · have y := of_decide_eq_false y
    rw [show false = decide (0 ≤ h ∧ h < css.length) by simp [y]]
    exact hK
theorem k_chain_of : Keeps 3 N_chain_of.length F_chain_of (S_chain_of F_joined) := by
  rintro ds k x hl ⟨css, c, hs, rfl, hc, h1, l1, hfl, h⟩
  show (S_chain_of F_joined).wp [some (.dat (clsD css)), some (.dat (cl c)), some (.dat (cl hs)), none, none, none, none, none, none, none] _
  obtain ⟨us, last, rfl, hd, rg, h0⟩ := fol_drv hfl
  rw [List.length_append, List.length_map, List.length_singleton] at l1
  have lk := isK_len h1
  have ci := cls_idx rg.1 rg.2
  have k1 := hc _ (cls_mem rg.1 rg.2)
  unfold S_chain_of
  have all : ∀ y ∈ us.map (·.2) ++ [last], 0 ≤ y ∧ y < css.length := fun y hy => by
    rcases List.mem_append.mp hy with q | q
    · obtain ⟨p, hp, rfl⟩ := List.mem_map.mp q
      exact (drv_mem hd hp).1
    · rw [List.mem_singleton] at q
      rw [q]
      exact rg
  refine v_seq (if_of (p := false) (fun K hK => ?_) (fun q => by cases q) (fun q => ?_))
  · refine w_bNot (w_bT (w_opN (w_cons (w_frz (w_lc (w_seq (w_var rfl ⟨_, rfl, rfl, lcW_all Da.int (fun y => Da.bl (decide (0 ≤ y ∧ y < css.length))) (us.map (·.2) ++ [last]) [] (fun y hy => ⟨_, rfl, fun K hK => rngv_of rfl rfl K hK⟩) ?_⟩)))))))
    refine w_nil ⟨_, dAll_map _ _, _, rfl, ?_⟩
    rw [show (us.map (·.2) ++ [last]).all (fun y => decide (0 ≤ y ∧ y < css.length)) = true by
      rw [List.all_eq_true]
      exact fun y hy => decide_eq_true (all y hy)]
    exact hK
  refine v_pass ?_
  dsimp only []
  refine v_seq (v_dnew ?_)
  dsimp only []
  refine v_seq (v_own (w_disp (w_nil ⟨by decide, ?_⟩)))
  dsimp only []
  have ndef : ∀ t v, ([some (.dat (clsD css)), some (.dat (cl c)), some (.dat (cl (us.map (·.2) ++ [last]))), none, some (odcC t), some (.own []), v, none, none, none] : En)[4]? = some (some (odcC t)) := fun _ _ => rfl
  refine v_seq (v_for (w_seq (w_var rfl ⟨_, rfl, ini_loop (i := 4) (j := 6) (fun t v => [some (.dat (clsD css)), some (.dat (cl c)), some (.dat (cl (us.map (·.2) ++ [last]))), none, some (odcC t), some (.own []), v, none, none, none]) (fun _ _ _ => rfl) (fun _ _ => rfl) (fun _ _ => lookDic_odc (ndef _ _)) (fun _ _ _ => rfl) c [] none (by simp; omega) fun t v e l => ?_⟩)))
  dsimp only []
  refine v_forget ?_
  rw [List.length_nil] at l
  refine v_seq (v_for (w_seq (w_sl (w_var rfl (w_onone (w_osome (w_op1 (w_c ⟨_, rfl, _, rfl, _, sl_front _ _, _, rfl, ?_⟩))))))))
  have hfit := ini_fit e
  refine co_fwd css c (us.map (·.2) ++ [last]) us [] (ngs c) t none none (by simpa [kn] using hd) hfit (by omega) (by simp; omega) (fun t' s3 s7 ft => ?_)
  dsimp only []
  rw [List.nil_append] at ft ⊢
  have ix : ∀ {s3 : Option Ce} {os : Ce} {s6 s7 s8 s9 : Option Ce} {x : Ex → En → Prop}, ∀ K : Da → En → Prop, K (.int last) (coE css c (us.map (·.2) ++ [last]) t' s3 os s6 s7 s8 s9) → (eIdx (eVar 2) (eOp1 dNeg (eC (.int 1)))).wp (coE css c (us.map (·.2) ++ [last]) t' s3 os s6 s7 s8 s9) K x := fun K hK => w_idx (w_op2 (w_var rfl (w_op1 (w_c ⟨_, rfl, _, idx_lastI _ _, hK⟩))))
  refine v_seq (if_of (p := false) (fun K hK => bOr_of (p := false) (q := false) (fun K hK => ?_) (fun _ => fun K hK => ?_) K hK) (fun q => by cases q) (fun q => ?_))
  · refine w_bNot (w_bT (w_var rfl ⟨true, ?_, hK⟩))
    show some (!(dis (us.map (·.2) ++ [last])).isEmpty) = _
    rw [← dis_snoc]
    simp
  · refine w_bT (w_frz (w_lc (w_seq (w_idx (w_op2 (w_var rfl (ix _ ⟨_, ci, _, rfl, rfl, lft_of (ks := kn (ngs c) us) (fun y hy K hK => din_of (fit_DK ft) (neg_of rfl) (lookDic_odc rfl) K (by simpa using hK)) (fun y => rfl) ?_⟩)))))))
    rw [h0]
    exact ⟨_, rfl, hK⟩
  refine v_pass ?_
  dsimp only []
  refine v_seq (v_set (w_idx (w_op2 (w_var rfl (ix _ ⟨_, ci, ?_⟩)))))
  dsimp only []
  refine v_seq (v_own (w_disp (w_nil ⟨by decide, ?_⟩)))
  dsimp only []
  refine v_freeze ⟨_, rfl, ?_⟩
  refine v_seq (v_for (w_seq (w_revL (w_var rfl ⟨_, rfl, _, rfl, ?_⟩))))
  rw [rev_dis]
  have c0 : cnd css last [] = some (css.getD last.toNat []) := by
    unfold cnd
    rw [if_pos rg]
    rfl
  refine co_bwd css c (us.map (·.2) ++ [last]) hc (ngs_cons h1) us.length us (css.getD last.toNat []) [] none rfl hd ft.2.1 k1 (fun y hy => Classical.byContradiction fun n => ?_) (fun p hp => by cases hp) (by simp; omega) c0 (fun a' L' s6 g1 g2 g3 g4 g5 => ?_)
  · have : y ∈ lft (css.getD last.toNat []) (kn (ngs c) us) := lft_mem.mpr ⟨hy, n⟩
    rw [h0] at this
    cases this
  dsimp only []
  refine v_freeze ⟨_, rfl, ?_⟩
  refine v_ret (w_tup (w_cons (ix _ ?_)))
  refine w_cons (w_opN (w_cons (w_var rfl (w_nil ⟨_, rfl, ?_⟩))))
  refine w_nil ⟨show (2 : Nat) ≤ 1000 by decide, ?_⟩
  refine h last L' a' g3 g4 g5 fun y hy => ?_
  have := ngs_mem.mp (g2 y hy)
  rwa [show 0 - (0 - y) = y by omega] at this
end K04
end

section
set_option maxHeartbeats 4000000
namespace K04
open PySem PySem.Spec PyProof.Rows L2 Pu PySem.W Tx TL

/-! ### the law's pieces -/
abbrev LP0 : Sx := sOwn 1 (eCallO F__law_pool hF__law_pool 2 (eCons (eVar 0) (eCons (eC (.int 0)) (eNil))))
abbrev LP1 : Sx := sSet 2 (eOp2 dAdd (eC (.int 2)) (eCallP 1 F__law_draw 1 (eCons (eC (.int 5)) (eNil))))
abbrev LP2 : Sx := sOwn 3 (eDisp (eNil))
abbrev LP3 : Sx := sFor (iRange1 (eOp2 dAdd (eC (.int 1)) (eCallP 1 F__law_draw 1 (eCons (eC (.int 9)) (eNil))))) (.name 4) (sAppend 3 (eCallP 1 F__law_literals 2 (eCons (eVar 2) (eCons (eC (.int 3)) (eNil)))))
abbrev LQ0 : Sx := sSet 6 (eCallP 1 F__law_literals 2 (eCons (eVar 2) (eCons (eC (.int 3)) (eNil))))
abbrev LQ1 : Sx := sSet 7 (eFrz (iRange1 (eOpN dLen (eCons (eVar 3) (eNil)))))
abbrev LQ2 : Sx := sIf (bV (eOp2 dEq (eCallP 1 F__law_draw 1 (eCons (eC (.int 3)) (eNil))) (eC (.int 0)))) (sSet 7 (eRevL (eVar 7))) (sPass)
abbrev LQ3 : Sx := sSet 8 (eCall F_hints_for 3 (eCons (eFrz (eList (eVar 3))) (eCons (eVar 6) (eCons (eVar 7) (eNil)))))
abbrev LQ4 : Sx := sSet 9 (eCall F__law_leads 2 (eCons (eVar 3) (eCons (eVar 6) (eNil))))
abbrev LQ5 : Sx := sIf (bV (eOp2 dNe (eOp2 dNotN (eVar 8) (eC .non)) (eVar 9))) (sRet (eC (.bl false))) (sPass)
abbrev LQ6 : Sx := sSet 10 (eFrz (eDisp (eCons (eOpN dTuple (eCons (eFrz (eLC [4] (iRange1 (eCallP 1 F__law_draw 1 (eCons (eC (.int 4)) (eNil)))) (.name 4) bYes (eCallP 1 F__law_draw 1 (eCons (eOp2 dAdd (eOpN dLen (eCons (eVar 3) (eNil))) (eC (.int 1))) (eNil))))) (eNil))) (eNil))))
abbrev LR0 : Sx := sIf (bOr (bNot (bT (eIsi "tuple" (eVar 8)))) (bNot (bT (eCall F_follows 3 (eCons (eVar 3) (eCons (eVar 6) (eCons (eVar 8) (eNil)))))))) (sRet (eC (.bl false))) (sPass)
abbrev LR1 : Sx := sSet 11 (eCallP 1 F__law_draw 1 (eCons (eOpN dLen (eCons (eVar 8) (eNil))) (eNil)))
abbrev LR2 : Sx := sSet 10 (eOp2 dAdd (eVar 10) (eFrz (eDisp (eCons (eVar 8) (eCons (eOp2 dAdd (eSl (eVar 8) (oNone) (oSome (eVar 11))) (eSl (eVar 8) (oSome (eOp2 dAdd (eVar 11) (eC (.int 1)))) (oNone))) (eCons (eOp2 dAdd (eOp2 dAdd (eSl (eVar 8) (oNone) (oSome (eVar 11))) (eSl (eVar 8) (oSome (eVar 11)) (oSome (eOp2 dAdd (eVar 11) (eC (.int 1)))))) (eSl (eVar 8) (oSome (eVar 11)) (oNone))) (eCons (eRevT (eVar 8)) (eCons (eOp2 dAdd (eOp2 dAdd (eSl (eVar 8) (oNone) (oSome (eVar 11))) (eTup (eCons (eCallP 1 F__law_draw 1 (eCons (eOpN dLen (eCons (eVar 3) (eNil))) (eNil))) (eNil)))) (eSl (eVar 8) (oSome (eOp2 dAdd (eVar 11) (eC (.int 1)))) (oNone))) (eCons (eOp2 dAdd (eVar 8) (eTup (eCons (eOp2 dSub (eC (.int 0)) (eC (.int 1))) (eNil)))) (eNil))))))))))
abbrev LR3 : Sx := sIf (bV (eOp2 dNe (eFrz (eLC [12] (iSeq (eCall F__law_rows 1 (eCons (eVar 2) (eNil)))) (.name 12) (bAnd (bT (eCall F__law_good 2 (eCons (eVar 3) (eCons (eVar 12) (eNil))))) (bNot (bT (eCall F__law_holds 2 (eCons (eVar 6) (eCons (eVar 12) (eNil))))))) (eVar 12))) (eFrz (eDisp (eNil))))) (sRet (eC (.bl false))) (sPass)
abbrev LRAll : Sx := sSeq (LR0) (sSeq (LR1) (sSeq (LR2) (LR3)))
abbrev LQ7 : Sx := sIf (bT (eVar 9)) (LRAll) (sPass)
abbrev LT0 : Sx := sSet 14 (eCall F_follows 3 (eCons (eVar 3) (eCons (eVar 6) (eCons (eVar 13) (eNil)))))
abbrev LT1 : Sx := sIf (bNot (bT (eCall (F_same 5) 2 (eCons (eCall F_follows 3 (eCons (eVar 3) (eCons (eVar 6) (eCons (eVar 13) (eNil))))) (eCons (eVar 14) (eNil)))))) (sRet (eC (.bl false))) (sPass)
abbrev LU0 : Sx := sSet 15 (eCall F_chain_of 3 (eCons (eVar 3) (eCons (eVar 6) (eCons (eVar 13) (eNil)))))
abbrev LU1 : Sx := sSet 16 (eCall F_chain_end 2 (eCons (eVar 3) (eCons (eVar 15) (eNil))))
abbrev LU2 : Sx := sIf (bOr (bV (eOp2 dIsN (eVar 16) (eC .non))) (bOr (bV (eOp2 dNe (eFrz (eLC [17] (iSeq (eVar 16)) (.name 17) (bV (eOp2 (dIn true) (eVar 17) (eVar 6))) (eVar 17))) (eFrz (eDisp (eNil))))) (bNot (bT (eCall (F_same 5) 2 (eCons (eCall F_chain_end 2 (eCons (eVar 3) (eCons (eVar 15) (eNil)))) (eCons (eVar 16) (eNil)))))))) (sRet (eC (.bl false))) (sPass)
abbrev LU3 : Sx := sSet 18 (eTup (eCons (eIdx (eVar 15) (eC (.int 0))) (eCons (eSl (eIdx (eVar 15) (eC (.int 1))) (oSome (eC (.int 1))) (oNone)) (eNil))))
abbrev LV0 : Sx := sSet 16 (eCall F_chain_end 2 (eCons (eVar 3) (eCons (eVar 19) (eNil))))
abbrev LV1 : Sx := sIf (bOr (bNot (bT (eCall (F_same 5) 2 (eCons (eCall F_chain_end 2 (eCons (eVar 3) (eCons (eVar 19) (eNil)))) (eCons (eVar 16) (eNil)))))) (bNot (bT (eCall (F_same 5) 2 (eCons (eCall F_chain_right 3 (eCons (eVar 3) (eCons (eVar 6) (eCons (eVar 19) (eNil))))) (eCons (eAnd (eOp2 dNotN (eVar 16) (eC .non)) (eOp2 dEq (eFrz (eLC [17] (iSeq (eVar 16)) (.name 17) (bV (eOp2 (dIn true) (eVar 17) (eVar 6))) (eVar 17))) (eFrz (eDisp (eNil))))) (eNil))))))) (sRet (eC (.bl false))) (sPass)
abbrev LVAll : Sx := sSeq (LV0) (LV1)
abbrev LU4 : Sx := sFor (iSeq (eTup (eCons (eVar 15) (eCons (eVar 18) (eCons (eTup (eCons (eCallP 1 F__law_draw 1 (eCons (eOp2 dAdd (eOpN dLen (eCons (eVar 3) (eNil))) (eC (.int 1))) (eNil))) (eCons (eIdx (eVar 15) (eC (.int 1))) (eNil)))) (eCons (eTup (eCons (eIdx (eVar 15) (eC (.int 0))) (eCons (eOp2 dAdd (eIdx (eVar 15) (eC (.int 1))) (eTup (eCons (eTup (eCons (eCallP 1 F__law_draw 1 (eCons (eOpN dLen (eCons (eVar 3) (eNil))) (eNil))) (eCons (eOp2 dAdd (eC (.int 1)) (eCallP 1 F__law_draw 1 (eCons (eVar 2) (eNil)))) (eNil)))) (eNil)))) (eNil)))) (eNil))))))) (.name 19) (LVAll)
abbrev LUAll : Sx := sSeq (LU0) (sSeq (LU1) (sSeq (LU2) (sSeq (LU3) (LU4))))
abbrev LT2 : Sx := sIf (bT (eVar 14)) (LUAll) (sPass)
abbrev LTAll : Sx := sSeq (LT0) (sSeq (LT1) (LT2))
abbrev LQ8 : Sx := sFor (iSeq (eVar 10)) (.name 13) (LTAll)
abbrev LQAll : Sx := sSeq (LQ0) (sSeq (LQ1) (sSeq (LQ2) (sSeq (LQ3) (sSeq (LQ4) (sSeq (LQ5) (sSeq (LQ6) (sSeq (LQ7) (LQ8))))))))
abbrev LP4 : Sx := sFor (iRange1 (eC (.int 5))) (.name 5) (LQAll)
abbrev LP5 : Sx := sRet (eC (.bl true))
abbrev LPAll : Sx := sSeq (LP0) (sPool 1 (sSeq (LP1) (sSeq (LP2) (sSeq (LP3) (sFreeze 3 (sForget 4 (sSeq (LP4) (LP5))))))))

abbrev LS (ns : List Int) (n : Int) (css : List (List Int)) (s5 s6 s7 s8 s9 s10 s11 s13 s14 s15 s16 s18 s19 : Option Ce) : En := [some (.dat (.scr ns)), some .pool, some (.dat (.int n)), some (.dat (clsD css)), none, s5, s6, s7, s8, s9, s10, s11, none, s13, s14, s15, s16, none, s18, s19]
variable {ns : List Int} {n : Int} {css : List (List Int)} {s5 s6 s7 s8 s9 s10 s11 s13 s14 s15 s16 s18 s19 : Option Ce}
theorem pl_cl {c : List Int} (h : c.length ≤ 1000) : pl 4 (cl c) := ⟨by simp [dis]; omega, fun d hd => by
  obtain ⟨x, _, rfl⟩ := List.mem_map.mp hd
  trivial⟩
theorem cend_isK {css : List (List Int)} (hc : ∀ c ∈ css, isK c) : ∀ (ls : List (Int × Int)) (o : Option (List Int)) (e : List Int), (∀ c, o = some c → isK c) → cend css o ls = some e → isK e
  | [], o, e, h, q => h e (by cases o <;> exact q)
  | p :: ls, none, e, h, q => by
    rw [cend_none] at q
    cases q
  | p :: ls, some c, e, h, q => by
    unfold cend at q
    split at q
    · rename_i rg
      exact cend_isK hc ls _ e (fun c' z => lnk_isK (h c rfl) (hc _ (cls_mem rg.1 rg.2)) z) q
    · rw [cend_none] at q
      cases q
theorem cnd_isK {css : List (List Int)} (hc : ∀ c ∈ css, isK c) {s : Int} {ls : List (Int × Int)} {e : List Int} (h : cnd css s ls = some e) : isK e := by
  unfold cnd at h
  split at h
  · rename_i rg
    exact cend_isK hc ls _ e (fun c z => by cases z; exact hc _ (cls_mem rg.1 rg.2)) h
  · cases h
theorem pl_opt {css : List (List Int)} (hc : ∀ c ∈ css, isK c) {s : Int} {ls : List (Int × Int)} : pl 4 (optD (cnd css s ls)) := by
  cases e : cnd css s ls with
  | none => trivial
  | some c =>
    have := isK_len (cnd_isK hc e)
    exact pl_cl (by omega)
theorem same_of {F1 : Fn} {k1 : Nat} {as : W (List Da)} {d : Da} {i : Nat} {ρ : En} {x : Ex → En → Prop} (h1 : as.wp ρ (fun ds ρ1 => ds.length = k1 ∧ ρ1 = ρ ∧ ∀ (K : Da → Prop) (X : Ex → Prop), K d → F1.wp ds K X) x) (h2 : look ρ i = some d) (hp : pl 4 d) : ∀ K : Bool → En → Prop, K true ρ → (bT (eCall (F_same 5) 2 (eCons (eCall F1 k1 as) (eCons (eVar i) (eNil))))).wp ρ K x := fun K hK => by
  refine w_bT (w_call (w_cons (w_call (as.mono (fun ds ρ1 ⟨e1, e2, q⟩ => ?_) (fun _ _ z => z) h1))))
  subst e2
  exact ⟨e1, q _ _ (w_cons (w_var h2 (w_nil ⟨rfl, d, rfl, hp, true, rfl, hK⟩)))⟩
theorem notin_lc {e c : List Int} {j : Nat} {ρ : En} {kl : List Da → Prop} (hv : ∀ y, look (ρ.set j (some (.dat (.int y)))) j = some (.int y)) (h6 : ∀ y, look (ρ.set j (some (.dat (.int y)))) 6 = some (cl c)) (h : kl (dis (e.filter fun y => !decide (y ∈ c)))) :
    lcW (.name j) (bV (eOp2 (dIn true) (eVar j) (eVar 6))) (eVar j) (dis e) [] ρ kl :=
  lcW_of Da.int (fun y => !decide (y ∈ c)) Da.int e [] (fun y hy => ⟨_, rfl, fun K hK => in_tt (neg := true) (.inr rfl) (v_of (hv y)) (v_of (h6 y)) K (by rwa [Bool.true_xor]), fun _ K hK => w_var (hv y) hK⟩) (by rw [List.nil_append]; exact h)
theorem rgt_filter (e c : List Int) : (e.filter fun y => !decide (y ∈ c)).isEmpty = e.all fun y => decide (y ∈ c) := by
  rw [Bool.eq_iff_iff, List.isEmpty_iff, List.filter_eq_nil_iff, List.all_eq_true]
  simp
theorem LV_ok {c : List Int} {s : Int} {ls : List (Int × Int)} (hc : ∀ c ∈ css, isK c) (hls : ∀ p ∈ ls, 1 ≤ p.2) {E : Fl} (q : ∀ s16, E.nx (LS ns n css s5 (some (.dat (cl c))) s7 s8 s9 s10 s11 s13 s14 s15 s16 s18 (some (.dat (chnD s ls))))) :
    LVAll.wp (LS ns n css s5 (some (.dat (cl c))) s7 s8 s9 s10 s11 s13 s14 s15 s16 s18 (some (.dat (chnD s ls)))) E := by
  refine v_seq (v_set (w_call (w_cons (w_var rfl (w_cons (w_var rfl (w_nil ⟨rfl, css, s, ls, rfl, hc, hls, ?_⟩)))))))
  have po := pl_opt (s := s) (ls := ls) hc
  have pz := fun e => cnd_isK (s := s) (ls := ls) (e := e) hc
  have sm : ∀ ρ : En, look ρ 3 = some (clsD css) → look ρ 19 = some (chnD s ls) → ∀ x : Ex → En → Prop, (eCons (eVar 3) (eCons (eVar 19) (eNil))).wp ρ (fun ds ρ1 => ds.length = 2 ∧ ρ1 = ρ ∧ ∀ (K : Da → Prop) (X : Ex → Prop), K (optD (cnd css s ls)) → F_chain_end.wp ds K X) x := fun ρ h3 h19 x => w_cons (w_var h3 (w_cons (w_var h19 (w_nil ⟨rfl, rfl, fun K X hK => ⟨css, s, ls, rfl, hc, hls, hK⟩⟩))))
  refine if_of (p := false) (fun K hK => bOr_of (p := false) (q := false) (bNot_of (p := true) (same_of (sm _ rfl rfl _) rfl po)) (fun _ => bNot_of (p := true) fun K hK => ?_) K hK) (fun z => by cases z) (fun _ => v_pass (q _))
  refine w_bT (w_call (w_cons (w_call (w_cons (w_var rfl (w_cons (w_var rfl (w_cons (w_var rfl (w_nil ⟨rfl, css, c, s, ls, rfl, hc, hls, ?_⟩))))))))))
  generalize cnd css s ls = o at po pz hK ⊢
  cases o with
  | none =>
    refine w_cons (w_and (w_op2 (w_var rfl (w_c ⟨_, rfl, _, rfl, (fun z => by cases z), fun _ => ?_⟩))))
    exact ⟨rfl, _, rfl, trivial, _, rfl, hK⟩
  | some e =>
    refine w_cons (w_and (w_op2 (w_var rfl (w_c ⟨_, rfl, _, rfl, fun _ => ?_, (fun z => by cases z)⟩))))
    refine w_op2 (w_frz (w_lc (w_seq (w_var rfl ⟨_, rfl, rfl, notin_lc (fun _ => rfl) (fun _ => rfl) ?_⟩))))
    refine w_frz (w_disp (w_nil ⟨by decide, _, dEq_nil _, ?_⟩))
    rw [rgt_filter]
    exact ⟨rfl, _, rfl, trivial, _, rfl, hK⟩
theorem LV_loop {c : List Int} (hc : ∀ c ∈ css, isK c) {E : Fl} (q : ∀ s16 s19, E.nx (LS ns n css s5 (some (.dat (cl c))) s7 s8 s9 s10 s11 s13 s14 s15 s16 s18 s19)) : ∀ (xs : List (Int × List (Int × Int))) (s16 s19 : Option Ce), (∀ x ∈ xs, ∀ p ∈ x.2, 1 ≤ p.2) →
    forW (.name 19) LVAll (xs.map fun x => chnD x.1 x.2) (LS ns n css s5 (some (.dat (cl c))) s7 s8 s9 s10 s11 s13 s14 s15 s16 s18 s19) E
  | [], s16, s19, _ => q _ _
  | x :: xs, s16, s19, h => by
    refine ⟨_, rfl, ?_⟩
    exact LV_ok hc (h x List.mem_cons_self) fun s16 => LV_loop hc q xs _ _ fun y hy => h y (List.mem_cons_of_mem _ hy)
theorem add_lks {ls : List (Int × Int)} {t u : Int} (h : ls.length ≤ 100) : dAdd (lksD ls) (.tup [.tup [.int t, .int u]]) = some (lksD (ls ++ [(t, u)])) := by
  have : ls.length + 1 ≤ sizeLine := Nat.le_trans (by omega : ls.length + 1 ≤ 1000) (by decide)
  simp [lksD, lkD, dAdd, this]
theorem LU_ok {c hs : List Int} (hn : 2 ≤ n ∧ n ≤ 6) (hc : ∀ c ∈ css, isK c) (h1 : isK c) (hl : 1 ≤ css.length ∧ css.length ≤ 9) (hh : hs.length ≤ 100) (hf : fol css hs (ngs c) = true) {E : Fl} (q : ∀ s15 s16 s18 s19, E.nx (LS ns n css s5 (some (.dat (cl c))) s7 s8 s9 s10 s11 (some (.dat (cl hs))) s14 s15 s16 s18 s19)) :
    LUAll.wp (LS ns n css s5 (some (.dat (cl c))) s7 s8 s9 s10 s11 (some (.dat (cl hs))) s14 s15 s16 s18 s19) E := by
  refine v_seq (v_set (w_call (w_cons (w_var rfl (w_cons (w_var rfl (w_cons (w_var rfl (w_nil ⟨rfl, css, c, hs, rfl, hc, h1, hh, hf, fun s ls e h2 h3 h4 h5 => ?_⟩)))))))))
  dsimp only []
  refine v_seq (v_set (w_call (w_cons (w_var rfl (w_cons (w_var rfl (w_nil ⟨rfl, css, s, ls, rfl, hc, h2, ?_⟩)))))))
  dsimp only []
  have po := pl_opt (s := s) (ls := ls) hc
  have sm : ∀ ρ : En, look ρ 3 = some (clsD css) → look ρ 15 = some (chnD s ls) → ∀ x : Ex → En → Prop, (eCons (eVar 3) (eCons (eVar 15) (eNil))).wp ρ (fun ds ρ1 => ds.length = 2 ∧ ρ1 = ρ ∧ ∀ (K : Da → Prop) (X : Ex → Prop), K (optD (cnd css s ls)) → F_chain_end.wp ds K X) x := fun ρ h3 h19 x => w_cons (w_var h3 (w_cons (w_var h19 (w_nil ⟨rfl, rfl, fun K X hK => ⟨css, s, ls, rfl, hc, h2, hK⟩⟩))))
  rw [h4] at po sm ⊢
  have he : (e.filter fun y => !decide (y ∈ c)).isEmpty = true := by
    rw [rgt_filter, List.all_eq_true]
    exact fun y hy => decide_eq_true (h5 y hy)
  refine v_seq (if_of (p := false) (fun K hK => bOr_of (p := false) (q := false) (isn_opt (o := some e) rfl) (fun _ => bOr_of (p := false) (q := false) (fun K hK => ?_) (fun _ => bNot_of (p := true) (same_of (sm _ rfl rfl _) rfl po))) K hK) (fun z => by cases z) (fun _ => v_pass ?_))
  · refine w_bV (w_op2 (w_frz (w_lc (w_seq (w_var rfl ⟨_, rfl, rfl, notin_lc (fun _ => rfl) (fun _ => rfl) ?_⟩)))))
    refine w_frz (w_disp (w_nil ⟨by decide, _, dNe_nil _, _, rfl, ?_⟩))
    rw [he]
    exact hK
  dsimp only []
  refine v_seq (v_set (w_tup (w_cons (w_idx (w_op2 (w_var rfl (w_c ⟨.int s, rfl, ?_⟩)))))))
  refine w_cons (w_sl (w_idx (w_op2 (w_var rfl (w_c ⟨lksD ls, rfl, w_osome (w_c ⟨1, rfl, w_onone ⟨lksD (ls.drop 1), ?_, ?_⟩⟩)⟩)))))
  · show some (Da.tup (Pu.cutD (ls.map lkD) (some 1) none)) = _
    rw [cut1, ← List.map_drop]
    rfl
  refine w_nil ⟨show (2 : Nat) ≤ 1000 by decide, ?_⟩
  have e18 : Da.tup [.int s, lksD (ls.drop 1)] = chnD s (ls.drop 1) := rfl
  rw [e18]
  dsimp only []
  refine v_for (w_seq ?_)
  walk_at "wg"
  refine ⟨_, cls_len css, ?_⟩
  walk_at "wg"
  refine ⟨_, rfl, ?_⟩
  walk_at "wg"
  refine ⟨⟨rfl, rfl⟩, draw_in (by omega) (by omega) fun r r1 r2 => ?_⟩
  walk_at "wg"
  refine ⟨lksD ls, rfl, show (2 : Nat) ≤ 1000 by decide, ?_⟩
  walk_at "wg"
  refine ⟨.int s, rfl, ?_⟩
  walk_at "wg"
  refine ⟨lksD ls, rfl, ?_⟩
  walk_at "wg"
  refine ⟨_, cls_len css, ?_⟩
  walk_at "wg"
  refine ⟨⟨rfl, rfl⟩, draw_in (by omega) (by omega) fun t t1 t2 => ?_⟩
  walk_at "wg"
  refine ⟨⟨rfl, rfl⟩, draw_in (by omega) (by omega) fun u u1 u2 => ?_⟩
  refine ⟨.int (1 + u), rfl, ?_⟩
  walk_at "wg"
  refine ⟨show (2 : Nat) ≤ 1000 by decide, ?_⟩
  walk_at "wg"
  refine ⟨show (1 : Nat) ≤ 1000 by decide, lksD (ls ++ [(t, 1 + u)]), add_lks h3, ?_⟩
  walk_at "wg"
  refine ⟨show (2 : Nat) ≤ 1000 by decide, ?_⟩
  walk_at "wg"
  refine ⟨show (4 : Nat) ≤ 1000 by decide, _, rfl, ?_⟩
  refine LV_loop (s5 := s5) (s7 := s7) (s8 := s8) (s9 := s9) (s10 := s10) (s11 := s11) (s13 := some (.dat (cl hs))) (s14 := s14) (s15 := some (.dat (chnD s ls))) (s18 := some (.dat (chnD s (ls.drop 1)))) (c := c) hc (fun s16 s19 => q _ _ _ _) [(s, ls), (s, ls.drop 1), (r, ls), (s, ls ++ [(t, 1 + u)])] _ _ ?_
  intro x hx
  have hdrop : ∀ p ∈ ls.drop 1, 1 ≤ p.2 := fun p hp => h2 p (List.mem_of_mem_drop hp)
  have happ : ∀ p ∈ ls ++ [(t, 1 + u)], 1 ≤ p.2 := fun p hp => by
    rcases List.mem_append.mp hp with z | z
    · exact h2 p z
    · rw [List.mem_singleton] at z
      rw [z]
      show 1 ≤ 1 + u
      omega
  simp only [List.mem_cons, List.not_mem_nil, or_false] at hx
  rcases hx with rfl | rfl | rfl | rfl
  · exact h2
  · exact hdrop
  · exact h2
  · exact happ
end K04
end

section
set_option maxHeartbeats 4000000
namespace K04
open PySem PySem.Spec PyProof.Rows L2 Pu PySem.W Tx TL
variable {ns : List Int} {n : Int} {css : List (List Int)} {s5 s6 s7 s8 s9 s10 s11 s13 s14 s15 s16 s18 s19 : Option Ce}
theorem LT_ok {c hs : List Int} (hn : 2 ≤ n ∧ n ≤ 6) (hc : ∀ c ∈ css, isK c) (h1 : isK c) (hl : 1 ≤ css.length ∧ css.length ≤ 9) (hh : hs.length ≤ 100) {E : Fl} (q : ∀ s14 s15 s16 s18 s19, E.nx (LS ns n css s5 (some (.dat (cl c))) s7 s8 s9 s10 s11 (some (.dat (cl hs))) s14 s15 s16 s18 s19)) :
    LTAll.wp (LS ns n css s5 (some (.dat (cl c))) s7 s8 s9 s10 s11 (some (.dat (cl hs))) s14 s15 s16 s18 s19) E := by
  have lk := isK_len h1
  have nd : ∀ d ∈ css, d.Nodup := fun d hd => isK_nodup (hc d hd)
  refine v_seq (v_set (w_call (w_cons (w_var rfl (w_cons (w_var rfl (w_cons (w_var rfl (w_nil ⟨rfl, css, c, hs, rfl, nd, by omega, hh, ?_⟩)))))))))
  dsimp only []
  have sm : ∀ ρ : En, look ρ 3 = some (clsD css) → look ρ 6 = some (cl c) → look ρ 13 = some (cl hs) → ∀ x : Ex → En → Prop, (eCons (eVar 3) (eCons (eVar 6) (eCons (eVar 13) (eNil)))).wp ρ (fun ds ρ1 => ds.length = 3 ∧ ρ1 = ρ ∧ ∀ (K : Da → Prop) (X : Ex → Prop), K (.bl (fol css hs (ngs c))) → F_follows.wp ds K X) x := fun ρ e1 e2 e3 x => w_cons (w_var e1 (w_cons (w_var e2 (w_cons (w_var e3 (w_nil ⟨rfl, rfl, fun K X hK => ⟨css, c, hs, rfl, nd, by omega, hh, hK⟩⟩))))))
  refine v_seq (if_of (p := false) (bNot_of (p := true) (same_of (sm _ rfl rfl rfl _) rfl trivial)) (fun z => by cases z) (fun _ => v_pass ?_))
  dsimp only []
  cases e : fol css hs (ngs c) with
  | true => exact if_of (p := true) (fun K hK => w_bT (w_var rfl ⟨_, rfl, hK⟩)) (fun _ => LU_ok hn hc h1 hl hh e (fun _ _ _ _ => q _ _ _ _ _)) (fun z => by cases z)
  | false => exact if_of (p := false) (fun K hK => w_bT (w_var rfl ⟨_, rfl, hK⟩)) (fun z => by cases z) (fun _ => v_pass (q _ _ _ _ _))
theorem LT_loop {c : List Int} (hn : 2 ≤ n ∧ n ≤ 6) (hc : ∀ c ∈ css, isK c) (h1 : isK c) (hl : 1 ≤ css.length ∧ css.length ≤ 9) {E : Fl} (q : ∀ s13 s14 s15 s16 s18 s19, E.nx (LS ns n css s5 (some (.dat (cl c))) s7 s8 s9 s10 s11 s13 s14 s15 s16 s18 s19)) : ∀ (ms : List (List Int)) (s13 s14 s15 s16 s18 s19 : Option Ce), (∀ hs ∈ ms, hs.length ≤ 100) →
    forW (.name 13) LTAll (ms.map cl) (LS ns n css s5 (some (.dat (cl c))) s7 s8 s9 s10 s11 s13 s14 s15 s16 s18 s19) E
  | [], _, _, _, _, _, _, _ => q _ _ _ _ _ _
  | hs :: ms, s13, s14, s15, s16, s18, s19, h => by
    refine ⟨_, rfl, ?_⟩
    exact LT_ok hn hc h1 hl (h hs List.mem_cons_self) fun s14 s15 s16 s18 s19 => LT_loop hn hc h1 hl q ms _ _ _ _ _ _ fun y hy => h y (List.mem_cons_of_mem _ hy)
/-! ### cutting a row of hints -/
theorem sIx_in {n d : Nat} {r : Int} (h0 : 0 ≤ r) (h1 : r ≤ n) : HT.sIx n d (some r) = r.toNat := by
  have : r = ((r.toNat : Nat) : Int) := by omega
  rw [this, HT.sIx_nat]
  omega
theorem sl_to {hs : List Int} {r : Int} (h0 : 0 ≤ r) (h1 : r ≤ hs.length) : dSl (cl hs) none (some r) = some (cl (hs.take r.toNat)) := by
  show some (Da.tup (Pu.cutD _ _ _)) = _
  unfold Pu.cutD
  rw [HT.sIx_none, sIx_in h0 (by simpa [dis] using h1)]
  simp [cl, dis]
theorem sl_from {hs : List Int} {r : Int} (h0 : 0 ≤ r) (h1 : r ≤ hs.length) : dSl (cl hs) (some r) none = some (cl (hs.drop r.toNat)) := by
  show some (Da.tup (Pu.cutD _ _ _)) = _
  unfold Pu.cutD
  rw [HT.sIx_none, sIx_in h0 (by simpa [dis] using h1), List.take_of_length_le (by simp [dis])]
  simp [cl, dis]
theorem sl_mid {hs : List Int} {a b : Int} (h0 : 0 ≤ a) (h1 : a ≤ hs.length) (h2 : 0 ≤ b) (h3 : b ≤ hs.length) : dSl (cl hs) (some a) (some b) = some (cl ((hs.drop a.toNat).take (b.toNat - a.toNat))) := by
  show some (Da.tup (Pu.cutD _ _ _)) = _
  unfold Pu.cutD
  rw [sIx_in h0 (by simpa [dis] using h1), sIx_in h2 (by simpa [dis] using h3)]
  simp [cl, dis]
theorem take_le {α : Type} (l : List α) (n : Nat) : (l.take n).length ≤ l.length := by rw [List.length_take]; omega
theorem drop_le {α : Type} (l : List α) (n : Nat) : (l.drop n).length ≤ l.length := by rw [List.length_drop]; omega
def mdD (ms : List (List Int)) : Da := .lst (ms.map cl)
/-! ### the changed hints -/
theorem LR2_ok {c hs : List Int} {r : Int} {ms : List (List Int)} (hl : 1 ≤ css.length ∧ css.length ≤ 9) (hh : hs.length ≤ 21) (r0 : 0 ≤ r) (r1 : r < hs.length) (hm : ms.length ≤ 100) (hml : ∀ h ∈ ms, h.length ≤ 100) {E : Fl}
    (q : ∀ ms' : List (List Int), (∀ h ∈ ms', h.length ≤ 100) → E.nx (LS ns n css s5 (some (.dat (cl c))) s7 (some (.dat (cl hs))) s9 (some (.dat (mdD ms'))) (some (.dat (.int r))) s13 s14 s15 s16 s18 s19)) :
    LR2.wp (LS ns n css s5 (some (.dat (cl c))) s7 (some (.dat (cl hs))) s9 (some (.dat (mdD ms))) (some (.dat (.int r))) s13 s14 s15 s16 s18 s19) E := by
  have a1 := take_le hs r.toNat
  have a2 := drop_le hs (r + 1).toNat
  have a3 := drop_le hs r.toNat
  have t1 := take_le (hs.drop r.toNat) ((r + 1).toNat - r.toNat)
  have z1 := sl_to (hs := hs) r0 (by omega)
  have z2 := sl_from (hs := hs) (r := r + 1) (by omega) (by omega)
  have z3 := sl_mid (hs := hs) (a := r) (b := r + 1) r0 (by omega) (by omega) (by omega)
  have z4 := sl_from (hs := hs) r0 (by omega)
  generalize hs.take r.toNat = A at a1 z1
  generalize hs.drop (r + 1).toNat = B at a2 z2
  generalize (hs.drop r.toNat).take ((r + 1).toNat - r.toNat) = C at t1 z3
  generalize hs.drop r.toNat = D at a3 t1 z4
  refine v_set (w_op2 (w_var rfl ?_))
  walk_at "wg"
  refine ⟨_, rfl, _, z1, ?_⟩
  walk_at "wg"
  refine ⟨_, rfl, _, rfl, _, z2, _, add_cl (by omega), ?_⟩
  walk_at "wg"
  refine ⟨_, rfl, _, z1, ?_⟩
  walk_at "wg"
  refine ⟨_, rfl, ?_⟩
  walk_at "wg"
  refine ⟨_, rfl, _, rfl, _, z3, _, add_cl (by omega), ?_⟩
  walk_at "wg"
  refine ⟨_, rfl, _, z4, _, add_cl (by rw [List.length_append]; omega), ?_⟩
  walk_at "wg"
  refine ⟨_, rfl, ?_⟩
  rw [rev_dis]
  walk_at "wg"
  refine ⟨_, rfl, _, z1, ?_⟩
  walk_at "wg"
  refine ⟨_, cls_len css, ?_⟩
  walk_at "wg"
  refine ⟨⟨rfl, rfl⟩, draw_in (by omega) (by omega) fun u u1 u2 => ?_⟩
  walk_at "wg"
  refine ⟨show (1 : Nat) ≤ 1000 by decide, _, add_cl (b := [u]) (by simp; omega), ?_⟩
  walk_at "wg"
  refine ⟨_, rfl, _, rfl, _, z2, _, add_cl (by rw [List.length_append]; simp; omega), ?_⟩
  walk_at "wg"
  refine ⟨_, rfl, ?_⟩
  walk_at "wg"
  refine ⟨show (1 : Nat) ≤ 1000 by decide, _, add_cl (b := [-1]) (by simp; omega), ?_⟩
  walk_at "wg"
  refine ⟨show (6 : Nat) ≤ 1000 by decide, _, add_rows (a := ms) (b := [hs, A ++ B, (A ++ C) ++ D, hs.reverse, (A ++ [u]) ++ B, hs ++ [-1]]) (by simp; omega), ?_⟩
  refine q (ms ++ [hs, A ++ B, (A ++ C) ++ D, hs.reverse, (A ++ [u]) ++ B, hs ++ [-1]]) fun h hh2 => ?_
  rcases List.mem_append.mp hh2 with z | z
  · exact hml h z
  · simp only [List.mem_cons, List.not_mem_nil, or_false] at z
    rcases z with rfl | rfl | rfl | rfl | rfl | rfl <;> first | omega | (simp; omega)
theorem isC_K {c : List Int} (hn : n ≤ 6) (h : isC c n) : isK c := ⟨fun x hx => ⟨(h.1 x hx).1, by have := (h.1 x hx).2; omega⟩, h.2⟩
/-- no row of values keeps the clauses and breaks what follows -/
theorem LR3_ok {c : List Int} (hn : 2 ≤ n ∧ n ≤ 6) (hc : ∀ d ∈ css, isC d n) (h1 : isC c n) (hcf : Conf css (ngs c)) {E : Fl} (q : E.nx (LS ns n css s5 (some (.dat (cl c))) s7 s8 s9 s10 s11 s13 s14 s15 s16 s18 s19)) :
    LR3.wp (LS ns n css s5 (some (.dat (cl c))) s7 s8 s9 s10 s11 s13 s14 s15 s16 s18 s19) E := by
  obtain ⟨m, rfl⟩ : ∃ m : Nat, n = (m : Int) := ⟨n.toNat, by omega⟩
  have pos : ∀ (d : List Int), isC d m → ∀ vs : List Int, vs.length = m → ∀ x ∈ d, 1 ≤ iabs x ∧ iabs x ≤ vs.length := fun d hd vs hv x hx => by
    have z := hd.1 x hx
    exact ⟨iabs_pos z.1, by rw [hv]; exact z.2⟩
  refine if_of (p := false) (fun K hK => ?_) (fun z => by cases z) (fun _ => v_pass q)
  refine w_bV (w_op2 (w_frz (w_lc (w_seq (w_call (w_cons (w_var rfl (w_nil ⟨rfl, m, rfl, by omega, _, rfl, rfl, ?_⟩))))))))
  refine lcW_of cl (fun vs => good css vs && !c.any (tv vs)) cl (rowsN m) [] (fun vs hvs => ⟨_, rfl, fun K hK => ?_, fun _ K hK => w_var rfl hK⟩) ?_
  · obtain ⟨lv, _⟩ := rowsN_mem hvs
    refine bAnd_of (p := good css vs) (q := !c.any (tv vs)) (fun K hK => ?_) (fun _ => bNot_of fun K hK => ?_) K hK
    · exact w_bT (w_call (w_cons (w_var rfl (w_cons (w_var rfl (w_nil ⟨rfl, css, vs, rfl, fun d hd => pos d (hc d hd) vs lv, _, rfl, hK⟩))))))
    · exact w_bT (w_call (w_cons (w_var rfl (w_cons (w_var rfl (w_nil ⟨rfl, c, vs, rfl, pos c h1 vs lv, _, rfl, hK⟩))))))
  · have e : (rowsN m).filter (fun vs => good css vs && !c.any (tv vs)) = [] := by
      rw [List.filter_eq_nil_iff]
      intro vs hvs z
      obtain ⟨lv, v01⟩ := rowsN_mem hvs
      rw [Bool.and_eq_true, Bool.not_eq_true'] at z
      have := conf_sound (vs := vs) (fun d hd x hx => ⟨((hc d hd).1 x hx).1, by rw [lv]; exact ((hc d hd).1 x hx).2⟩) (fun x hx => ⟨(h1.1 x hx).1, by rw [lv]; exact (h1.1 x hx).2⟩) v01 z.1 hcf
      rw [z.2] at this
      cases this
    rw [e]
    refine w_frz (w_disp (w_nil ⟨by decide, _, dNe_nil [], _, rfl, hK⟩))
theorem LR_ok {c hs : List Int} {ms : List (List Int)} (hn : 2 ≤ n ∧ n ≤ 6) (hc : ∀ d ∈ css, isC d n) (h1 : isC c n) (hl : 1 ≤ css.length ∧ css.length ≤ 9) (hcf : Conf css (ngs c)) (hf : fol css hs (ngs c) = true) (hh : hs.length ≤ 21) (hm : ms.length ≤ 100) (hml : ∀ h ∈ ms, h.length ≤ 100) {E : Fl}
    (q : ∀ (ms' : List (List Int)) s11, (∀ h ∈ ms', h.length ≤ 100) → E.nx (LS ns n css s5 (some (.dat (cl c))) s7 (some (.dat (cl hs))) s9 (some (.dat (mdD ms'))) s11 s13 s14 s15 s16 s18 s19)) :
    LRAll.wp (LS ns n css s5 (some (.dat (cl c))) s7 (some (.dat (cl hs))) s9 (some (.dat (mdD ms))) s11 s13 s14 s15 s16 s18 s19) E := by
  have k1 := isC_K hn.2 h1
  have lk := isK_len k1
  have nd : ∀ d ∈ css, d.Nodup := fun d hd => isK_nodup (isC_K hn.2 (hc d hd))
  have hp : 1 ≤ hs.length := by
    cases hs with
    | nil => cases hf
    | cons _ _ => simp
  refine v_seq (if_of (p := false) (bOr_of (p := false) (q := false) (bNot_of (p := true) fun K hK => ?_) (fun _ => bNot_of (p := true) fun K hK => ?_)) (fun z => by cases z) (fun _ => v_pass ?_))
  · exact w_bT (w_isi (w_var rfl ⟨_, rfl, _, rfl, hK⟩))
  · refine w_bT (w_call (w_cons (w_var rfl (w_cons (w_var rfl (w_cons (w_var rfl (w_nil ⟨rfl, css, c, hs, rfl, nd, by omega, by omega, true, ?_, hK⟩))))))))
    rw [hf]
    rfl
  dsimp only []
  refine v_seq (v_set (w_callP rfl (w_cons (w_opN (w_cons (w_var rfl (w_nil ⟨_, len_tup hs, w_nil ⟨⟨rfl, rfl⟩, draw_in (by omega) (by omega) fun r r0 r1 => ?_⟩⟩)))))))
  dsimp only []
  refine v_seq (LR2_ok (s5 := s5) (s7 := s7) (s9 := s9) hl hh r0 r1 hm hml fun ms' hm' => ?_)
  exact LR3_ok (s5 := s5) (s7 := s7) (s9 := s9) hn hc h1 hcf (q ms' _ hm')
end K04
end

section
set_option maxHeartbeats 4000000
namespace K04
open PySem PySem.Spec PyProof.Rows L2 Pu PySem.W Tx TL
variable {ns : List Int} {n : Int} {css : List (List Int)} {s5 s6 s7 s8 s9 s10 s11 s13 s14 s15 s16 s18 s19 : Option Ce}
theorem lc_draws {e : W Da} {ρ : En} {kl : List Da → Prop} (he : ∀ d, ∀ K : Da → En → Prop, (∀ r : Int, K (.int r) (ρ.set 4 (some (.dat d)))) → e.wp (ρ.set 4 (some (.dat d))) K noEx) : ∀ (ds : List Da) (acc : List Int), acc.length + ds.length ≤ 100 → (∀ l : List Int, l.length ≤ 100 → kl (dis l)) → lcW (.name 4) bYes e ds (dis acc) ρ kl
  | [], acc, hl, h => h acc (by simpa using hl)
  | d :: ds, acc, hl, h => by
    rw [List.length_cons] at hl
    unfold lcW
    refine ⟨_, rfl, rfl, ?_⟩
    rw [if_pos rfl]
    refine he d _ fun r => ⟨rfl, ?_⟩
    rw [dis_snoc]
    exact lc_draws he ds (acc ++ [r]) (by rw [List.length_append, List.length_singleton]; omega) h
def idxs (m : Nat) : List Int := (List.range m).map fun i : Nat => (i : Int)
theorem idxs_D (m : Nat) : rangeD 0 ((m : Nat) : Int).toNat = dis (idxs m) := by
  unfold rangeD idxs dis
  rw [Int.toNat_natCast, List.map_map]
  refine List.map_congr_left fun i _ => ?_
  simp
theorem idxs_mem {m : Nat} {a : Int} : a ∈ idxs m ↔ 0 ≤ a ∧ a < m := by
  unfold idxs
  rw [List.mem_map]
  constructor
  · rintro ⟨i, hi, rfl⟩
    have := List.mem_range.mp hi
    omega
  · rintro ⟨a1, a2⟩
    exact ⟨a.toNat, List.mem_range.mpr (by omega), by omega⟩
theorem LQ_ok (hn : 2 ≤ n ∧ n ≤ 6) (hc : ∀ d ∈ css, isC d n) (hl : 1 ≤ css.length ∧ css.length ≤ 9) {E : Fl} (q : ∀ s6 s7 s8 s9 s10 s11 s13 s14 s15 s16 s18 s19, E.nx (LS ns n css s5 s6 s7 s8 s9 s10 s11 s13 s14 s15 s16 s18 s19)) :
    LQAll.wp (LS ns n css s5 s6 s7 s8 s9 s10 s11 s13 s14 s15 s16 s18 s19) E := by
  have hk : ∀ d ∈ css, isK d := fun d hd => isC_K hn.2 (hc d hd)
  refine v_seq (v_set (w_callP rfl (w_cons (w_var rfl (w_cons (w_c (w_nil ⟨⟨rfl, rfl⟩, n, 3, rfl, by omega, by omega, by decide, by decide, fun c h1 l1 => ?_⟩)))))))
  dsimp only []
  have k1 := isC_K hn.2 h1
  refine v_seq (v_set (w_frz (w_range1 (w_opN (w_cons (w_var rfl (w_nil ⟨_, cls_len css, _, rfl, by omega, ?_⟩)))))))
  rw [idxs_D]
  dsimp only []
  have main : ∀ os : List Int, (∀ a ∈ os, 0 ≤ a ∧ a < (css.length : Int)) → (∀ a : Int, 0 ≤ a → a < css.length → a ∈ os) →
      Sx.wp (sSeq LQ3 (sSeq LQ4 (sSeq LQ5 (sSeq LQ6 (sSeq LQ7 LQ8))))) (LS ns n css s5 (some (.dat (cl c))) (some (.dat (.lst (dis os)))) s8 s9 s10 s11 s13 s14 s15 s16 s18 s19) E := by
    intro os o1 o2
    have go : ∀ (told : Da), ((told = .non ∧ ¬ Conf css (ngs c)) ∨ ∃ hs, told = cl hs ∧ Conf css (ngs c) ∧ fol css hs (ngs c) = true ∧ hs.length ≤ 21) →
        Sx.wp (sSeq LQ4 (sSeq LQ5 (sSeq LQ6 (sSeq LQ7 LQ8)))) (LS ns n css s5 (some (.dat (cl c))) (some (.dat (.lst (dis os)))) (some (.dat told)) s9 s10 s11 s13 s14 s15 s16 s18 s19) E := by
      intro told ht
      refine v_seq (v_set (w_call (w_cons (w_var rfl (w_cons (w_var rfl (w_nil ⟨rfl, css, c, rfl, hk, k1, by omega, ?_⟩)))))))
      dsimp only []
      have li := ld_iff hk k1
      have l5 : ∀ (b : Bool), (told = .non ∧ b = false ∨ (∃ hs, told = cl hs) ∧ b = true) → ∀ {E : Fl}, E.nx (LS ns n css s5 (some (.dat (cl c))) (some (.dat (.lst (dis os)))) (some (.dat told)) (some (.dat (.bl b))) s10 s11 s13 s14 s15 s16 s18 s19) →
          LQ5.wp (LS ns n css s5 (some (.dat (cl c))) (some (.dat (.lst (dis os)))) (some (.dat told)) (some (.dat (.bl b))) s10 s11 s13 s14 s15 s16 s18 s19) E := by
        intro b hb E q
        refine if_of (p := false) (fun K hK => ?_) (fun z => by cases z) (fun _ => v_pass q)
        rcases hb with ⟨rfl, rfl⟩ | ⟨⟨hs, rfl⟩, rfl⟩
        · exact w_bV (w_op2 (w_op2 (w_var rfl (w_c ⟨_, rfl, w_var rfl ⟨_, rfl, _, rfl, hK⟩⟩))))
        · exact w_bV (w_op2 (w_op2 (w_var rfl (w_c ⟨_, rfl, w_var rfl ⟨_, rfl, _, rfl, hK⟩⟩))))
      have l6 : ∀ (b : Bool) {E : Fl}, (∀ l : List Int, l.length ≤ 100 → E.nx (LS ns n css s5 (some (.dat (cl c))) (some (.dat (.lst (dis os)))) (some (.dat told)) (some (.dat (.bl b))) (some (.dat (mdD [l]))) s11 s13 s14 s15 s16 s18 s19)) →
          LQ6.wp (LS ns n css s5 (some (.dat (cl c))) (some (.dat (.lst (dis os)))) (some (.dat told)) (some (.dat (.bl b))) s10 s11 s13 s14 s15 s16 s18 s19) E := by
        intro b E q
        refine v_set (w_frz (w_disp (w_cons (w_opN (w_cons (w_frz (w_lc (w_range1 (w_callP rfl (w_cons (w_c (w_nil ⟨⟨rfl, rfl⟩, draw_in (by decide) (by decide) fun r r0 r1 => ⟨_, rfl, by omega, rfl, ?_⟩⟩))))))))))))
        refine lc_draws (fun d K hK => ?_) _ [] (by simp [rangeD]; omega) fun l l100 => ?_
        · refine w_callP rfl (w_cons (w_op2 (w_opN (w_cons (w_var rfl (w_nil ⟨_, cls_len css, w_c ⟨_, rfl, w_nil ⟨⟨rfl, rfl⟩, draw_in (by omega) (by omega) fun r _ _ => hK r⟩⟩⟩))))))
        · exact w_nil ⟨_, rfl, w_nil ⟨show (1 : Nat) ≤ 1000 by decide, q l l100⟩⟩
      have l8 : ∀ (s9 s11 : Option Ce) (ms : List (List Int)), (∀ h ∈ ms, h.length ≤ 100) → LQ8.wp (LS ns n css s5 (some (.dat (cl c))) (some (.dat (.lst (dis os)))) (some (.dat told)) s9 (some (.dat (mdD ms))) s11 s13 s14 s15 s16 s18 s19) E := by
        intro s9 s11 ms hm
        refine v_for (w_seq (w_var rfl ⟨_, rfl, ?_⟩))
        exact LT_loop hn hk k1 hl (fun _ _ _ _ _ _ => q _ _ _ _ _ _ _ _ _ _ _ _) ms _ _ _ _ _ _ hm
      rcases ht with ⟨rfl, nc⟩ | ⟨hs, rfl, cf, hf, hh⟩
      · have e : ld css 20 (ngs c) = false := by
          rw [Bool.eq_false_iff]
          exact fun z => nc (li.mp z)
        rw [e]
        refine v_seq (l5 false (.inl ⟨rfl, rfl⟩) ?_)
        refine v_seq (l6 false fun l l100 => ?_)
        dsimp only []
        refine v_seq (if_of (p := false) (fun K hK => w_bT (w_var rfl ⟨_, rfl, hK⟩)) (fun z => by cases z) (fun _ => v_pass ?_))
        exact l8 _ _ [l] fun h hh => by
          rw [List.mem_singleton] at hh
          rw [hh]
          exact l100
      · rw [li.mpr cf]
        refine v_seq (l5 true (.inr ⟨⟨hs, rfl⟩, rfl⟩) ?_)
        refine v_seq (l6 true fun l l100 => ?_)
        dsimp only []
        refine v_seq (if_of (p := true) (fun K hK => w_bT (w_var rfl ⟨_, rfl, hK⟩)) (fun _ => ?_) (fun z => by cases z))
        refine LR_ok (s5 := s5) hn hc h1 hl cf hf hh (ms := [l]) (by simp) (fun h hh => ?_) (fun ms' s11 hm' => ?_)
        · rw [List.mem_singleton] at hh
          rw [hh]
          exact l100
        · exact l8 _ _ ms' hm'
    refine v_seq (v_set (w_call (w_cons (w_frz (w_list (w_var rfl ⟨_, rfl, ?_⟩))))))
    refine w_cons (w_var rfl (w_cons (w_var rfl (w_nil ⟨rfl, css, c, os, rfl, hk, k1, o1, o2, fun nc => ?_, fun cf hs hf hh => ?_⟩))))
    · exact go .non (.inl ⟨rfl, nc⟩)
    · exact go (cl hs) (.inr ⟨hs, rfl, cf, hf, hh⟩)
  refine v_seq (v_if (w_bV (w_op2 (w_callP rfl (w_cons (w_c (w_nil ⟨⟨rfl, rfl⟩, ?_⟩)))))))
  refine draw_in (by decide) (by decide) fun r r0 r1 => w_c ⟨_, dEq_int _ _, _, rfl, fun z => ?_, fun z => ?_⟩
  · refine v_set (w_revL (w_var rfl ⟨_, rfl, ?_⟩))
    rw [rev_dis]
    exact main (idxs css.length).reverse (fun a ha => idxs_mem.mp (List.mem_reverse.mp ha)) (fun a a1 a2 => List.mem_reverse.mpr (idxs_mem.mpr ⟨a1, a2⟩))
  · refine v_pass ?_
    exact main (idxs css.length) (fun a ha => idxs_mem.mp ha) (fun a a1 a2 => idxs_mem.mpr ⟨a1, a2⟩)
end K04
end

section
set_option maxHeartbeats 4000000
namespace K04
open PySem PySem.Spec PyProof.Rows L2 Pu PySem.W Tx TL
variable {ns : List Int} {n : Int} {css : List (List Int)} {s5 s6 s7 s8 s9 s10 s11 s13 s14 s15 s16 s18 s19 : Option Ce}
abbrev LE (ns : List Int) (n : Int) (css : List (List Int)) (s4 : Option Ce) : En := [some (.dat (.scr ns)), some .pool, some (.dat (.int n)), some (.own (css.map cl)), s4, none, none, none, none, none, none, none, none, none, none, none, none, none, none, none]
theorem lcl_loop (hn : 2 ≤ n ∧ n ≤ 6) {E : Fl} : ∀ (ds : List Da) (css : List (List Int)) (s4 : Option Ce), (∀ d ∈ css, isC d n) → css.length + ds.length ≤ 9 → (∀ css' s4, (∀ d ∈ css', isC d n) → css'.length = css.length + ds.length → E.nx (LE ns n css' s4)) →
    forW (.name 4) (sAppend 3 (eCallP 1 F__law_literals 2 (eCons (eVar 2) (eCons (eC (.int 3)) (eNil))))) ds (LE ns n css s4) E
  | [], css, s4, hc, hl, h => h css s4 hc rfl
  | d :: ds, css, s4, hc, hl, h => by
    rw [List.length_cons] at hl h
    refine ⟨_, rfl, ?_⟩
    refine v_append ⟨_, rfl, w_callP rfl (w_cons (w_var rfl (w_cons (w_c (w_nil ⟨⟨rfl, rfl⟩, n, 3, rfl, by omega, by omega, by decide, by decide, fun c h1 l1 => ⟨css.map cl, rfl, ?_, ?_⟩⟩)))))⟩
    · rw [List.length_map]
      omega
    rw [show css.map cl ++ [cl c] = (css ++ [c]).map cl by simp]
    refine lcl_loop hn ds (css ++ [c]) _ (fun e he => ?_) (by rw [List.length_append, List.length_singleton]; omega) (fun css' s4 a b => h css' s4 a (by rw [List.length_append, List.length_singleton] at b; omega))
    rcases List.mem_append.mp he with z | z
    · exact hc e z
    · rw [List.mem_singleton] at z
      rw [z]
      exact h1
theorem LQ_loop (hn : 2 ≤ n ∧ n ≤ 6) (hc : ∀ d ∈ css, isC d n) (hl : 1 ≤ css.length ∧ css.length ≤ 9) {E : Fl} (q : ∀ s5 s6 s7 s8 s9 s10 s11 s13 s14 s15 s16 s18 s19, E.nx (LS ns n css s5 s6 s7 s8 s9 s10 s11 s13 s14 s15 s16 s18 s19)) : ∀ (ds : List Da) (s5 s6 s7 s8 s9 s10 s11 s13 s14 s15 s16 s18 s19 : Option Ce),
    forW (.name 5) LQAll ds (LS ns n css s5 s6 s7 s8 s9 s10 s11 s13 s14 s15 s16 s18 s19) E
  | [], _, _, _, _, _, _, _, _, _, _, _, _, _ => q _ _ _ _ _ _ _ _ _ _ _ _ _
  | d :: ds, s5, s6, s7, s8, s9, s10, s11, s13, s14, s15, s16, s18, s19 => ⟨_, rfl, LQ_ok hn hc hl fun s6 s7 s8 s9 s10 s11 s13 s14 s15 s16 s18 s19 => LQ_loop hn hc hl q ds _ _ _ _ _ _ _ _ _ _ _ _ _⟩
def F_law : Fn := ⟨fun ds k _ => ∃ ns : List Int, ds = [.scr ns] ∧ ns.length ≤ 1000 ∧ k (.bl true), fun hk _ ⟨ns, e, h0, h⟩ => ⟨ns, e, h0, hk _ h⟩⟩
theorem k_law : Keeps 1 N_law.length F_law (S_law hF__law_pool F__law_draw F__law_literals F_hints_for F__law_leads F_follows (F_same 5) F_chain_of F_chain_end F_follows F__law_rows F__law_good F_chain_end F__law_holds F_chain_right) := by
  rintro ds k x hl ⟨ns, rfl, h0, h⟩
  show LPAll.wp [some (.dat (.scr ns)), none, none, none, none, none, none, none, none, none, none, none, none, none, none, none, none, none, none, none] _
  refine v_seq ?_
  refine ⟨rfl, ns, 0, rfl, ?_⟩
  refine ⟨ns, 0, 0, 1, 0, 0, rfl, by decide, by decide, by decide, h0, ?_⟩
  refine v_seq (v_set (w_op2 (w_c (w_callP rfl (w_cons (w_c (w_nil ⟨⟨rfl, rfl⟩, draw_in (by decide) (by decide) fun r r0 r1 => ⟨_, rfl, ?_⟩⟩)))))))
  dsimp only []
  refine v_seq (v_own (w_disp (w_nil ⟨by decide, ?_⟩)))
  dsimp only []
  have hn : 2 ≤ 2 + r ∧ 2 + r ≤ 6 := ⟨by omega, by omega⟩
  refine v_seq (v_for (w_range1 (w_op2 (w_c (w_callP rfl (w_cons (w_c (w_nil ⟨⟨rfl, rfl⟩, ?_⟩))))))))
  refine draw_in (by decide) (by decide) fun m m0 m1 => ⟨_, rfl, _, rfl, by omega, ?_⟩
  refine lcl_loop hn _ [] none (fun d hd => by cases hd) (by simp [rangeD]; omega) fun css s4 hc hcl => ?_
  have hcl2 : 1 ≤ css.length ∧ css.length ≤ 9 := by
    simp [rangeD] at hcl
    omega
  dsimp only []
  refine v_freeze ⟨_, rfl, v_forget ?_⟩
  refine v_seq (v_for (w_range1 (w_c ⟨_, rfl, by decide, ?_⟩)))
  exact LQ_loop hn hc hcl2 (fun _ _ _ _ _ _ _ _ _ _ _ _ _ => h) _ _ _ _ _ _ _ _ _ _ _ _ _ _
end K04
end

section
set_option maxHeartbeats 4000000
namespace K04
open PySem PySem.Spec PyProof.Rows L2 Pu PySem.W

/-! ### the facts of the top, the end -/
theorem sqF_of {K : Frag} {H : Hp} {a : Addr} {xs : List V} (hO : Only H) (hS : SqL K H a xs) : SqF K H a xs := by
  refine ⟨hS, fun H' k => ?_⟩
  rcases hS with (h | ⟨o, h⟩) | h
  · rcases hO a with z | ⟨o, ys, z⟩
    · rw [z] at h
      cases h
    · rw [z] at h
      have h' : HO.frz o (.lst ys) = HO.lst xs := Option.some.inj h
      cases h'
  · exact .inl (.inr ⟨o, k _ _ h (fun z => z)⟩)
  · exact .inr h
/-- the law's promise, without the module's names -/
def spLaw (K : Frag) : Sp := spD K (fun _ => none) 1 F_law
theorem spLaw_ok {K : Frag} {H : Hp} {a : Addr} {ns : List Int} (hl : ns.length ≤ 63) (hO : Only H) (hS : SqL K H a (ns.map V.int)) : spLaw K [.ref a] H (fun v _ => v = .bl true) (fun _ _ _ => False) := by
  refine ⟨fun _ => False, [.scr ns], rfl, ?_, ns, rfl, by omega, fun v H' _ r => rep_bl'.mp r⟩
  simp only [Reps, Rep]
  exact ⟨.ref a, [], rfl, ⟨a, rfl, sqF_of hO hS, by omega⟩, rfl⟩
theorem noCX {P : Program} {w : World} {H : Hp} {s : Shared} {e : Value} {s' : Shared} (h : L2.CX P w [] H s (fun _ _ _ => False) e s') : False := by
  obtain ⟨_, _, _, _, _, _, _, _, _, _, _, _, z⟩ := h
  exact z
theorem spD0 {P : Program} {w : World} {K : Frag} {mg : Str → Option Value} {base : Heap} {CX : CXT} {k : Nat} {f : Addr} {fd : FuncData} {ps : List Str} {n : Nat} {F : Fn} (hF : ∀ ds k x, ¬ F.wp ds k x) : FnOk P w K mg base CX k f fd ps (spD K mg n F) :=
  ⟨fun vs H Q E ⟨_, _, _, _, h⟩ => (hF _ _ _ h).elim, fun A outer s H args us vs Q E hr e0 hb r ⟨_, _, _, _, h⟩ => (hF _ _ _ h).elim⟩
theorem spL0 {P : Program} {w : World} {K : Frag} {mg : Str → Option Value} {base : Heap} {CX : CXT} {k : Nat} {f : Addr} {fd : FuncData} {ps : List Str} {n : Nat} {F : Fn} (hF : ∀ ds k x, ¬ F.wp ds k x) : FnOk P w K mg base CX k f fd ps (spL K mg n F) :=
  ⟨fun vs H Q E ⟨_, _, _, _, _, _, _, _, _, h⟩ => (hF _ _ _ h).elim, fun A outer s H args us vs Q E hr e0 hb r ⟨_, _, _, _, _, _, _, _, _, h⟩ => (hF _ _ _ h).elim⟩
theorem exm_of {K : Frag} {C D : Addr} {b : Bool} {nm qn : Str} {N : Addr} {bs bm sub : List Value} {sn : List Str} {ab bb : Bool} {col : Option Bool} {dd : Option Addr} {k0 k1 k2 k3 k5 : Option Value} {zz : String}
    (e_l : K.lookup D = some (excClassObj nm qn D N bs bm bb sn sub ab col dd k0 k1 k2 k3 k5 zz)) (e_ex : subIn K (.ref D) (.type "BaseException") = some true) (e_ty : typeIn K (.ref D) = some (.type "type")) (e_m : subIn K (.ref C) (.ref D) = some b) : exmOne K (.ref C) (.ref D) = some b := by
  have hcl : (clsIn K D).isSome = true := by unfold clsIn; rw [e_l] <;> rfl
  unfold exmOne
  rw [e_ex, if_pos (by decide)]
  show (if ((clsIn K D).isSome && typeIn K (.ref D) == some (.type "type")) = true then subIn K (.ref C) (.ref D) else none) = some b
  rw [if_pos (by rw [hcl, e_ty]; decide), e_m]

theorem all_mk {P : Program} {w : World} {K : Frag} {h : Heap} {mg : Str → Option Value} {fa : Addr} {a_follows a__pruned a_hints_for a_ordered a_clause_of a_resolved a_joined a_chain_of a_link a_chain_end a_chain_right a__law_pool a__law_draw a__law_same a__law_literals a__law_rows a__law_holds a__law_good a__law_follows a__law_ordered a__law_leads a__law_link a__law_end a_law  : Addr} {od_follows an_follows od__pruned an__pruned od_hints_for an_hints_for od_ordered an_ordered od_clause_of an_clause_of od_resolved an_resolved od_joined an_joined od_chain_of an_chain_of od_link an_link od_chain_end an_chain_end od_chain_right an_chain_right od__law_pool an__law_pool od__law_draw an__law_draw od__law_same an__law_same od__law_literals an__law_literals od__law_rows an__law_rows od__law_holds an__law_holds od__law_good an__law_good od__law_follows an__law_follows od__law_ordered an__law_ordered od__law_leads an__law_leads od__law_link an__law_link od__law_end an__law_end od_law an_law : Option Addr} {sl_follows sl__pruned sl_hints_for sl_ordered sl_clause_of sl_resolved sl_joined sl_chain_of sl_link sl_chain_end sl_chain_right sl__law_pool sl__law_draw sl__law_same sl__law_literals sl__law_rows sl__law_holds sl__law_good sl__law_follows sl__law_ordered sl__law_leads sl__law_link sl__law_end sl_law : Array (Option Value)} {oc_follows kV_follows dc_follows pm_follows cd_follows ct_follows oc__pruned kV__pruned dc__pruned pm__pruned cd__pruned ct__pruned oc_hints_for kV_hints_for dc_hints_for pm_hints_for cd_hints_for ct_hints_for oc_ordered kV_ordered dc_ordered pm_ordered cd_ordered ct_ordered oc_clause_of kV_clause_of dc_clause_of pm_clause_of cd_clause_of ct_clause_of oc_resolved kV_resolved dc_resolved pm_resolved cd_resolved ct_resolved oc_joined kV_joined dc_joined pm_joined cd_joined ct_joined oc_chain_of kV_chain_of dc_chain_of pm_chain_of cd_chain_of ct_chain_of oc_link kV_link dc_link pm_link cd_link ct_link oc_chain_end kV_chain_end dc_chain_end pm_chain_end cd_chain_end ct_chain_end oc_chain_right kV_chain_right dc_chain_right pm_chain_right cd_chain_right ct_chain_right oc__law_pool kV__law_pool dc__law_pool pm__law_pool cd__law_pool ct__law_pool oc__law_draw kV__law_draw dc__law_draw pm__law_draw cd__law_draw ct__law_draw oc__law_same kV__law_same dc__law_same pm__law_same cd__law_same ct__law_same oc__law_literals kV__law_literals dc__law_literals pm__law_literals cd__law_literals ct__law_literals oc__law_rows kV__law_rows dc__law_rows pm__law_rows cd__law_rows ct__law_rows oc__law_holds kV__law_holds dc__law_holds pm__law_holds cd__law_holds ct__law_holds oc__law_good kV__law_good dc__law_good pm__law_good cd__law_good ct__law_good oc__law_follows kV__law_follows dc__law_follows pm__law_follows cd__law_follows ct__law_follows oc__law_ordered kV__law_ordered dc__law_ordered pm__law_ordered cd__law_ordered ct__law_ordered oc__law_leads kV__law_leads dc__law_leads pm__law_leads cd__law_leads ct__law_leads oc__law_link kV__law_link dc__law_link pm__law_link cd__law_link ct__law_link oc__law_end kV__law_end dc__law_end pm__law_end cd__law_end ct__law_end oc_law kV_law dc_law pm_law cd_law ct_law : Value} {tk_MOST_VARIABLE : Tok} {C_BadClause aI_BadClause cda_BadClause cc_BadClause : Addr} {nm_BadClause qn_BadClause : Str} {N_BadClause : Addr} {bs_BadClause bm_BadClause sub_BadClause : List Value} {sn_BadClause : List Str} {ab_BadClause : Bool} {col_BadClause : Option Bool} {dd_BadClause : Option Addr} {k0_BadClause k1_BadClause k2_BadClause k3_BadClause k5_BadClause : Option Value} {iname_BadClause iqual_BadClause : Str} {iparams_BadClause : Arguments} {iscope_BadClause : Scope} {idV_BadClause ikV_BadClause idoc_BadClause ipm_BadClause ict_BadClause ioc_BadClause ccl_BadClause cl_BadClause : Value} {ian_BadClause iod_BadClause cdd_BadClause cld_BadClause : Option Addr} {iosl_BadClause csl_BadClause csl2_BadClause : Array (Option Value)} {p0_BadClause p1_BadClause p2_BadClause p3_BadClause p4_BadClause p5_BadClause p6_BadClause p7_BadClause p8_BadClause p9_BadClause : Pos} {v1_BadClause v2_BadClause : Expr} {vs_BadClause : List Expr} {ar_BadClause : Arg} {xs_BadClause : Array Value} {file_BadClause : Str} {tf_BadClause : Tok} (X : K.In h) (G : h.Ns mainGlobals mg) (hfa : mg "law" = some (.ref fa))
    (n_follows : nsIn K mainGlobals (PySem.Str.ofString "follows") = some (some (.ref a_follows)))
    (l_follows : K.lookup a_follows = some ⟨oc_follows, od_follows, .func (fnOf (PySem.Str.ofString "follows") (PySem.Str.ofString "follows") (defArgs s_follows) (defBody s_follows) (defScope s_follows) .none kV_follows dc_follows pm_follows an_follows cd_follows ct_follows), sl_follows⟩)
    (c_follows : codeIn K cd_follows (PySem.Str.ofString "follows") = true)
    (k_follows : keepIn K (.ref a_follows) = true)
    (n__pruned : nsIn K mainGlobals (PySem.Str.ofString "_pruned") = some (some (.ref a__pruned)))
    (l__pruned : K.lookup a__pruned = some ⟨oc__pruned, od__pruned, .func (fnOf (PySem.Str.ofString "_pruned") (PySem.Str.ofString "_pruned") (defArgs s__pruned) (defBody s__pruned) (defScope s__pruned) .none kV__pruned dc__pruned pm__pruned an__pruned cd__pruned ct__pruned), sl__pruned⟩)
    (c__pruned : codeIn K cd__pruned (PySem.Str.ofString "_pruned") = true)
    (k__pruned : keepIn K (.ref a__pruned) = true)
    (n_hints_for : nsIn K mainGlobals (PySem.Str.ofString "hints_for") = some (some (.ref a_hints_for)))
    (l_hints_for : K.lookup a_hints_for = some ⟨oc_hints_for, od_hints_for, .func (fnOf (PySem.Str.ofString "hints_for") (PySem.Str.ofString "hints_for") (defArgs s_hints_for) (defBody s_hints_for) (defScope s_hints_for) .none kV_hints_for dc_hints_for pm_hints_for an_hints_for cd_hints_for ct_hints_for), sl_hints_for⟩)
    (c_hints_for : codeIn K cd_hints_for (PySem.Str.ofString "hints_for") = true)
    (k_hints_for : keepIn K (.ref a_hints_for) = true)
    (n_ordered : nsIn K mainGlobals (PySem.Str.ofString "ordered") = some (some (.ref a_ordered)))
    (l_ordered : K.lookup a_ordered = some ⟨oc_ordered, od_ordered, .func (fnOf (PySem.Str.ofString "ordered") (PySem.Str.ofString "ordered") (defArgs s_ordered) (defBody s_ordered) (defScope s_ordered) .none kV_ordered dc_ordered pm_ordered an_ordered cd_ordered ct_ordered), sl_ordered⟩)
    (c_ordered : codeIn K cd_ordered (PySem.Str.ofString "ordered") = true)
    (k_ordered : keepIn K (.ref a_ordered) = true)
    (n_clause_of : nsIn K mainGlobals (PySem.Str.ofString "clause_of") = some (some (.ref a_clause_of)))
    (l_clause_of : K.lookup a_clause_of = some ⟨oc_clause_of, od_clause_of, .func (fnOf (PySem.Str.ofString "clause_of") (PySem.Str.ofString "clause_of") (defArgs s_clause_of) (defBody s_clause_of) (defScope s_clause_of) .none kV_clause_of dc_clause_of pm_clause_of an_clause_of cd_clause_of ct_clause_of), sl_clause_of⟩)
    (c_clause_of : codeIn K cd_clause_of (PySem.Str.ofString "clause_of") = true)
    (k_clause_of : keepIn K (.ref a_clause_of) = true)
    (n_resolved : nsIn K mainGlobals (PySem.Str.ofString "resolved") = some (some (.ref a_resolved)))
    (l_resolved : K.lookup a_resolved = some ⟨oc_resolved, od_resolved, .func (fnOf (PySem.Str.ofString "resolved") (PySem.Str.ofString "resolved") (defArgs s_resolved) (defBody s_resolved) (defScope s_resolved) .none kV_resolved dc_resolved pm_resolved an_resolved cd_resolved ct_resolved), sl_resolved⟩)
    (c_resolved : codeIn K cd_resolved (PySem.Str.ofString "resolved") = true)
    (k_resolved : keepIn K (.ref a_resolved) = true)
    (n_joined : nsIn K mainGlobals (PySem.Str.ofString "joined") = some (some (.ref a_joined)))
    (l_joined : K.lookup a_joined = some ⟨oc_joined, od_joined, .func (fnOf (PySem.Str.ofString "joined") (PySem.Str.ofString "joined") (defArgs s_joined) (defBody s_joined) (defScope s_joined) .none kV_joined dc_joined pm_joined an_joined cd_joined ct_joined), sl_joined⟩)
    (c_joined : codeIn K cd_joined (PySem.Str.ofString "joined") = true)
    (k_joined : keepIn K (.ref a_joined) = true)
    (n_chain_of : nsIn K mainGlobals (PySem.Str.ofString "chain_of") = some (some (.ref a_chain_of)))
    (l_chain_of : K.lookup a_chain_of = some ⟨oc_chain_of, od_chain_of, .func (fnOf (PySem.Str.ofString "chain_of") (PySem.Str.ofString "chain_of") (defArgs s_chain_of) (defBody s_chain_of) (defScope s_chain_of) .none kV_chain_of dc_chain_of pm_chain_of an_chain_of cd_chain_of ct_chain_of), sl_chain_of⟩)
    (c_chain_of : codeIn K cd_chain_of (PySem.Str.ofString "chain_of") = true)
    (k_chain_of : keepIn K (.ref a_chain_of) = true)
    (n_link : nsIn K mainGlobals (PySem.Str.ofString "link") = some (some (.ref a_link)))
    (l_link : K.lookup a_link = some ⟨oc_link, od_link, .func (fnOf (PySem.Str.ofString "link") (PySem.Str.ofString "link") (defArgs s_link) (defBody s_link) (defScope s_link) .none kV_link dc_link pm_link an_link cd_link ct_link), sl_link⟩)
    (c_link : codeIn K cd_link (PySem.Str.ofString "link") = true)
    (k_link : keepIn K (.ref a_link) = true)
    (n_chain_end : nsIn K mainGlobals (PySem.Str.ofString "chain_end") = some (some (.ref a_chain_end)))
    (l_chain_end : K.lookup a_chain_end = some ⟨oc_chain_end, od_chain_end, .func (fnOf (PySem.Str.ofString "chain_end") (PySem.Str.ofString "chain_end") (defArgs s_chain_end) (defBody s_chain_end) (defScope s_chain_end) .none kV_chain_end dc_chain_end pm_chain_end an_chain_end cd_chain_end ct_chain_end), sl_chain_end⟩)
    (c_chain_end : codeIn K cd_chain_end (PySem.Str.ofString "chain_end") = true)
    (k_chain_end : keepIn K (.ref a_chain_end) = true)
    (n_chain_right : nsIn K mainGlobals (PySem.Str.ofString "chain_right") = some (some (.ref a_chain_right)))
    (l_chain_right : K.lookup a_chain_right = some ⟨oc_chain_right, od_chain_right, .func (fnOf (PySem.Str.ofString "chain_right") (PySem.Str.ofString "chain_right") (defArgs s_chain_right) (defBody s_chain_right) (defScope s_chain_right) .none kV_chain_right dc_chain_right pm_chain_right an_chain_right cd_chain_right ct_chain_right), sl_chain_right⟩)
    (c_chain_right : codeIn K cd_chain_right (PySem.Str.ofString "chain_right") = true)
    (k_chain_right : keepIn K (.ref a_chain_right) = true)
    (n__law_pool : nsIn K mainGlobals (PySem.Str.ofString "_law_pool") = some (some (.ref a__law_pool)))
    (l__law_pool : K.lookup a__law_pool = some ⟨oc__law_pool, od__law_pool, .func (fnOf (PySem.Str.ofString "_law_pool") (PySem.Str.ofString "_law_pool") (defArgs s__law_pool) (defBody s__law_pool) (defScope s__law_pool) .none kV__law_pool dc__law_pool pm__law_pool an__law_pool cd__law_pool ct__law_pool), sl__law_pool⟩)
    (c__law_pool : codeIn K cd__law_pool (PySem.Str.ofString "_law_pool") = true)
    (k__law_pool : keepIn K (.ref a__law_pool) = true)
    (n__law_draw : nsIn K mainGlobals (PySem.Str.ofString "_law_draw") = some (some (.ref a__law_draw)))
    (l__law_draw : K.lookup a__law_draw = some ⟨oc__law_draw, od__law_draw, .func (fnOf (PySem.Str.ofString "_law_draw") (PySem.Str.ofString "_law_draw") (defArgs s__law_draw) (defBody s__law_draw) (defScope s__law_draw) .none kV__law_draw dc__law_draw pm__law_draw an__law_draw cd__law_draw ct__law_draw), sl__law_draw⟩)
    (c__law_draw : codeIn K cd__law_draw (PySem.Str.ofString "_law_draw") = true)
    (k__law_draw : keepIn K (.ref a__law_draw) = true)
    (n__law_same : nsIn K mainGlobals (PySem.Str.ofString "_law_same") = some (some (.ref a__law_same)))
    (l__law_same : K.lookup a__law_same = some ⟨oc__law_same, od__law_same, .func (fnOf (PySem.Str.ofString "_law_same") (PySem.Str.ofString "_law_same") (defArgs s__law_same) (defBody s__law_same) (defScope s__law_same) .none kV__law_same dc__law_same pm__law_same an__law_same cd__law_same ct__law_same), sl__law_same⟩)
    (c__law_same : codeIn K cd__law_same (PySem.Str.ofString "_law_same") = true)
    (k__law_same : keepIn K (.ref a__law_same) = true)
    (n__law_literals : nsIn K mainGlobals (PySem.Str.ofString "_law_literals") = some (some (.ref a__law_literals)))
    (l__law_literals : K.lookup a__law_literals = some ⟨oc__law_literals, od__law_literals, .func (fnOf (PySem.Str.ofString "_law_literals") (PySem.Str.ofString "_law_literals") (defArgs s__law_literals) (defBody s__law_literals) (defScope s__law_literals) .none kV__law_literals dc__law_literals pm__law_literals an__law_literals cd__law_literals ct__law_literals), sl__law_literals⟩)
    (c__law_literals : codeIn K cd__law_literals (PySem.Str.ofString "_law_literals") = true)
    (k__law_literals : keepIn K (.ref a__law_literals) = true)
    (n__law_rows : nsIn K mainGlobals (PySem.Str.ofString "_law_rows") = some (some (.ref a__law_rows)))
    (l__law_rows : K.lookup a__law_rows = some ⟨oc__law_rows, od__law_rows, .func (fnOf (PySem.Str.ofString "_law_rows") (PySem.Str.ofString "_law_rows") (defArgs s__law_rows) (defBody s__law_rows) (defScope s__law_rows) .none kV__law_rows dc__law_rows pm__law_rows an__law_rows cd__law_rows ct__law_rows), sl__law_rows⟩)
    (c__law_rows : codeIn K cd__law_rows (PySem.Str.ofString "_law_rows") = true)
    (k__law_rows : keepIn K (.ref a__law_rows) = true)
    (n__law_holds : nsIn K mainGlobals (PySem.Str.ofString "_law_holds") = some (some (.ref a__law_holds)))
    (l__law_holds : K.lookup a__law_holds = some ⟨oc__law_holds, od__law_holds, .func (fnOf (PySem.Str.ofString "_law_holds") (PySem.Str.ofString "_law_holds") (defArgs s__law_holds) (defBody s__law_holds) (defScope s__law_holds) .none kV__law_holds dc__law_holds pm__law_holds an__law_holds cd__law_holds ct__law_holds), sl__law_holds⟩)
    (c__law_holds : codeIn K cd__law_holds (PySem.Str.ofString "_law_holds") = true)
    (k__law_holds : keepIn K (.ref a__law_holds) = true)
    (n__law_good : nsIn K mainGlobals (PySem.Str.ofString "_law_good") = some (some (.ref a__law_good)))
    (l__law_good : K.lookup a__law_good = some ⟨oc__law_good, od__law_good, .func (fnOf (PySem.Str.ofString "_law_good") (PySem.Str.ofString "_law_good") (defArgs s__law_good) (defBody s__law_good) (defScope s__law_good) .none kV__law_good dc__law_good pm__law_good an__law_good cd__law_good ct__law_good), sl__law_good⟩)
    (c__law_good : codeIn K cd__law_good (PySem.Str.ofString "_law_good") = true)
    (k__law_good : keepIn K (.ref a__law_good) = true)
    (n__law_follows : nsIn K mainGlobals (PySem.Str.ofString "_law_follows") = some (some (.ref a__law_follows)))
    (l__law_follows : K.lookup a__law_follows = some ⟨oc__law_follows, od__law_follows, .func (fnOf (PySem.Str.ofString "_law_follows") (PySem.Str.ofString "_law_follows") (defArgs s__law_follows) (defBody s__law_follows) (defScope s__law_follows) .none kV__law_follows dc__law_follows pm__law_follows an__law_follows cd__law_follows ct__law_follows), sl__law_follows⟩)
    (c__law_follows : codeIn K cd__law_follows (PySem.Str.ofString "_law_follows") = true)
    (k__law_follows : keepIn K (.ref a__law_follows) = true)
    (n__law_ordered : nsIn K mainGlobals (PySem.Str.ofString "_law_ordered") = some (some (.ref a__law_ordered)))
    (l__law_ordered : K.lookup a__law_ordered = some ⟨oc__law_ordered, od__law_ordered, .func (fnOf (PySem.Str.ofString "_law_ordered") (PySem.Str.ofString "_law_ordered") (defArgs s__law_ordered) (defBody s__law_ordered) (defScope s__law_ordered) .none kV__law_ordered dc__law_ordered pm__law_ordered an__law_ordered cd__law_ordered ct__law_ordered), sl__law_ordered⟩)
    (c__law_ordered : codeIn K cd__law_ordered (PySem.Str.ofString "_law_ordered") = true)
    (k__law_ordered : keepIn K (.ref a__law_ordered) = true)
    (n__law_leads : nsIn K mainGlobals (PySem.Str.ofString "_law_leads") = some (some (.ref a__law_leads)))
    (l__law_leads : K.lookup a__law_leads = some ⟨oc__law_leads, od__law_leads, .func (fnOf (PySem.Str.ofString "_law_leads") (PySem.Str.ofString "_law_leads") (defArgs s__law_leads) (defBody s__law_leads) (defScope s__law_leads) .none kV__law_leads dc__law_leads pm__law_leads an__law_leads cd__law_leads ct__law_leads), sl__law_leads⟩)
    (c__law_leads : codeIn K cd__law_leads (PySem.Str.ofString "_law_leads") = true)
    (k__law_leads : keepIn K (.ref a__law_leads) = true)
    (n__law_link : nsIn K mainGlobals (PySem.Str.ofString "_law_link") = some (some (.ref a__law_link)))
    (l__law_link : K.lookup a__law_link = some ⟨oc__law_link, od__law_link, .func (fnOf (PySem.Str.ofString "_law_link") (PySem.Str.ofString "_law_link") (defArgs s__law_link) (defBody s__law_link) (defScope s__law_link) .none kV__law_link dc__law_link pm__law_link an__law_link cd__law_link ct__law_link), sl__law_link⟩)
    (c__law_link : codeIn K cd__law_link (PySem.Str.ofString "_law_link") = true)
    (k__law_link : keepIn K (.ref a__law_link) = true)
    (n__law_end : nsIn K mainGlobals (PySem.Str.ofString "_law_end") = some (some (.ref a__law_end)))
    (l__law_end : K.lookup a__law_end = some ⟨oc__law_end, od__law_end, .func (fnOf (PySem.Str.ofString "_law_end") (PySem.Str.ofString "_law_end") (defArgs s__law_end) (defBody s__law_end) (defScope s__law_end) .none kV__law_end dc__law_end pm__law_end an__law_end cd__law_end ct__law_end), sl__law_end⟩)
    (c__law_end : codeIn K cd__law_end (PySem.Str.ofString "_law_end") = true)
    (k__law_end : keepIn K (.ref a__law_end) = true)
    (n_law : nsIn K mainGlobals (PySem.Str.ofString "law") = some (some (.ref a_law)))
    (l_law : K.lookup a_law = some ⟨oc_law, od_law, .func (fnOf (PySem.Str.ofString "law") (PySem.Str.ofString "law") (defArgs s_law) (defBody s_law) (defScope s_law) .none kV_law dc_law pm_law an_law cd_law ct_law), sl_law⟩)
    (c_law : codeIn K cd_law (PySem.Str.ofString "law") = true)
    (k_law : keepIn K (.ref a_law) = true)
    (z_enumerate : nsIn K mainGlobals (PySem.Str.ofString "enumerate") = some none)
    (z_len : nsIn K mainGlobals (PySem.Str.ofString "len") = some none)
    (z_tuple : nsIn K mainGlobals (PySem.Str.ofString "tuple") = some none)
    (z_sorted : nsIn K mainGlobals (PySem.Str.ofString "sorted") = some none)
    (z_abs : nsIn K mainGlobals (PySem.Str.ofString "abs") = some none)
    (z_any : nsIn K mainGlobals (PySem.Str.ofString "any") = some none)
    (z_all : nsIn K mainGlobals (PySem.Str.ofString "all") = some none)
    (z_zip : nsIn K mainGlobals (PySem.Str.ofString "zip") = some none)
    (z_list : nsIn K mainGlobals (PySem.Str.ofString "list") = some none)
    (z_int : nsIn K mainGlobals (PySem.Str.ofString "int") = some none)
    (z_isinstance : nsIn K mainGlobals (PySem.Str.ofString "isinstance") = some none)
    (z_range : nsIn K mainGlobals (PySem.Str.ofString "range") = some none)
    (z_bool : nsIn K mainGlobals (PySem.Str.ofString "bool") = some none)
    (z_str : nsIn K mainGlobals (PySem.Str.ofString "str") = some none)
    (z_set : nsIn K mainGlobals (PySem.Str.ofString "set") = some none)
    (z_super : nsIn K mainGlobals (PySem.Str.ofString "super") = some none)
    (z_MOST_VARIABLE : nsIn K mainGlobals (PySem.Str.ofString "MOST_VARIABLE") = some (some (.int 1000000 tk_MOST_VARIABLE)))
    (e_3 : nsIn K cStatics "thirdparty.any" = some none)
    (s10 : (P.main.scope.names.lookup ("super" : Str)).isSome = false)
    (e_n_BadClause : nsIn K mainGlobals (PySem.Str.ofString "BadClause") = some (some (.ref C_BadClause)))
    (e_l_BadClause : K.lookup C_BadClause = some (excClassObj nm_BadClause qn_BadClause C_BadClause N_BadClause bs_BadClause bm_BadClause true sn_BadClause sub_BadClause ab_BadClause col_BadClause dd_BadClause k0_BadClause k1_BadClause k2_BadClause k3_BadClause k5_BadClause "ValueError.__new__"))
    (e_r_BadClause : PySem.HandSPX.refsVE bm_BadClause = true)
    (e_sa_BadClause : findIn K (.ref C_BadClause) "__setattr__" = some (some (.builtin "object.__setattr__")))
    (e_ga_BadClause : findIn K (.ref C_BadClause) "__getattribute__" = some (some (.builtin "BaseException.__getattribute__")))
    (e_gg_BadClause : findIn K (.ref C_BadClause) "__getattr__" = some none)
    (e_ex_BadClause : subIn K (.ref C_BadClause) (.type "BaseException") = some true)
    (e_ve_BadClause : subIn K (.ref C_BadClause) (.type "ValueError") = some true)
    (e_ty_BadClause : typeIn K (.ref C_BadClause) = some (.type "type"))
    (e_k_BadClause : keepIn K (.ref C_BadClause) = true)
    (e_hd_BadClause : hasDictIn K C_BadClause = true)
    (e_w_BadClause : findIn K (.ref C_BadClause) (PySem.Str.ofString "what") = some none)
    (e_i_BadClause : findIn K (.ref C_BadClause) "__init__" = some (some (.ref aI_BadClause)))
    (e_ti_BadClause : typeIn K (.ref aI_BadClause) = some (.type "function"))
    (e_mro_BadClause : mroIn K C_BadClause (.ref C_BadClause) = some true)
    (e_s_BadClause : ks_superIn K C_BadClause C_BadClause "__init__" = some (some (.builtin "ValueError.__init__")))
    (i_l_BadClause : K.lookup aI_BadClause = some ⟨ioc_BadClause, iod_BadClause, .func (ksFn iname_BadClause iqual_BadClause iparams_BadClause [.Expr (.Call (.Attribute (.Call (.Name "super" p0_BadClause) [] [] p1_BadClause) "__init__" p2_BadClause) [.JoinedStr (v1_BadClause :: v2_BadClause :: vs_BadClause) p3_BadClause] [] p4_BadClause) p5_BadClause, .Assign [.Attribute (.Name "self" p6_BadClause) (PySem.Str.ofString "what") p7_BadClause] (.Name (PySem.Str.ofString "what") p8_BadClause) p9_BadClause] iscope_BadClause idV_BadClause ikV_BadClause idoc_BadClause ipm_BadClause ian_BadClause (.ref cda_BadClause) ict_BadClause cc_BadClause), iosl_BadClause⟩)
    (i_c_BadClause : codeIn K (.ref cda_BadClause) iqual_BadClause = true)
    (i_d_BadClause : K.lookup cda_BadClause = some ⟨ccl_BadClause, cdd_BadClause, .fields xs_BadClause, csl_BadClause⟩)
    (i_x_BadClause : xs_BadClause[2]? = some (.str file_BadClause tf_BadClause))
    (i_f_BadClause : ((P.main.file : Str) == file_BadClause) = true)
    (i_e_BadClause : K.lookup cc_BadClause = some ⟨cl_BadClause, cld_BadClause, .cell (some (.ref C_BadClause)), csl2_BadClause⟩)
    (i_a_BadClause : (iparams_BadClause.posonlyargs ++ iparams_BadClause.args).head? = some ar_BadClause)
    (i_a2_BadClause : ar_BadClause.arg = "self")
    (i_p_BadClause : ∀ e ∈ v1_BadClause :: v2_BadClause :: vs_BadClause, Ex.Part (PySem.Str.ofString "what") e)
    (i_pl_BadClause : (v1_BadClause :: v2_BadClause :: vs_BadClause).length ≤ 900)
    (s1_BadClause : iscope_BadClause.names.lookup ("self" : Str) = some .local)
    (s2_BadClause : iscope_BadClause.names.lookup (PySem.Str.ofString "what") = some .local)
    (s3_BadClause : iscope_BadClause.names.lookup ("super" : Str) = some .globalImplicit)
    (s4_BadClause : iscope_BadClause.names.lookup ("__class__" : Str) = some .free)
    (s5_BadClause : decide (∀ x ∈ iscope_BadClause.names, x.2 ≠ .cell) = true)
    (s6_BadClause : iscope_BadClause.isCoroutine = false)
    (s7_BadClause : iscope_BadClause.isGenerator = false)
    (s8_BadClause : iscope_BadClause.kind = .function)
    (s9_BadClause : Ex.SupEv p0_BadClause p1_BadClause p2_BadClause p3_BadClause p4_BadClause v1_BadClause v2_BadClause vs_BadClause)
    (b_i_BadClause : ∀ us : List Value, us.length = 2 → bindArgs (ksFn iname_BadClause iqual_BadClause iparams_BadClause [.Expr (.Call (.Attribute (.Call (.Name "super" p0_BadClause) [] [] p1_BadClause) "__init__" p2_BadClause) [.JoinedStr (v1_BadClause :: v2_BadClause :: vs_BadClause) p3_BadClause] [] p4_BadClause) p5_BadClause, .Assign [.Attribute (.Name "self" p6_BadClause) (PySem.Str.ofString "what") p7_BadClause] (.Name (PySem.Str.ofString "what") p8_BadClause) p9_BadClause] iscope_BadClause idV_BadClause ikV_BadClause idoc_BadClause ipm_BadClause ian_BadClause (.ref cda_BadClause) ict_BadClause cc_BadClause) ⟨us, []⟩ = pure ([(PySem.Str.ofString "self"), (PySem.Str.ofString "what")].zip us)) :
    ∃ fd : FuncData, (∀ (s : Shared) (v : Value), BindsTo s fd ⟨[v], []⟩ [("script", v)]) ∧ ∀ base : Heap, K.In base → base.Ns mainGlobals mg → FnOk P w K mg base (L2.CX P w) 8 fa fd [(PySem.Str.ofString "script")] (spLaw K) := by
  have e := hfa.symm.trans (mg_of X G n_law)
  cases e
  have U_follows := fun_mk (st := s_follows) l_follows c_follows k_follows
  have b_follows := U_follows.binds (ps := [(PySem.Str.ofString "clauses"), (PySem.Str.ofString "clause"), (PySem.Str.ofString "hints")]) fun _ _ _ _ _ _ us hl => match us, hl with | [_, _, _], _ => rfl
  have g_follows := mg_of X G n_follows
  have U__pruned := fun_mk (st := s__pruned) l__pruned c__pruned k__pruned
  have b__pruned := U__pruned.binds (ps := [(PySem.Str.ofString "clauses"), (PySem.Str.ofString "known"), (PySem.Str.ofString "used"), (PySem.Str.ofString "last")]) fun _ _ _ _ _ _ us hl => match us, hl with | [_, _, _, _], _ => rfl
  have g__pruned := mg_of X G n__pruned
  have U_hints_for := fun_mk (st := s_hints_for) l_hints_for c_hints_for k_hints_for
  have b_hints_for := U_hints_for.binds (ps := [(PySem.Str.ofString "clauses"), (PySem.Str.ofString "clause"), (PySem.Str.ofString "order")]) fun _ _ _ _ _ _ us hl => match us, hl with | [_, _, _], _ => rfl
  have g_hints_for := mg_of X G n_hints_for
  have U_ordered := fun_mk (st := s_ordered) l_ordered c_ordered k_ordered
  have b_ordered := U_ordered.binds (ps := [(PySem.Str.ofString "literals")]) fun _ _ _ _ _ _ us hl => match us, hl with | [_], _ => rfl
  have g_ordered := mg_of X G n_ordered
  have U_clause_of := fun_mk (st := s_clause_of) l_clause_of c_clause_of k_clause_of
  have b_clause_of := U_clause_of.binds (ps := [(PySem.Str.ofString "literals")]) fun _ _ _ _ _ _ us hl => match us, hl with | [_], _ => rfl
  have g_clause_of := mg_of X G n_clause_of
  have U_resolved := fun_mk (st := s_resolved) l_resolved c_resolved k_resolved
  have b_resolved := U_resolved.binds (ps := [(PySem.Str.ofString "one"), (PySem.Str.ofString "two"), (PySem.Str.ofString "variable")]) fun _ _ _ _ _ _ us hl => match us, hl with | [_, _, _], _ => rfl
  have g_resolved := mg_of X G n_resolved
  have U_joined := fun_mk (st := s_joined) l_joined c_joined k_joined
  have b_joined := U_joined.binds (ps := [(PySem.Str.ofString "here"), (PySem.Str.ofString "other"), (PySem.Str.ofString "literal")]) fun _ _ _ _ _ _ us hl => match us, hl with | [_, _, _], _ => rfl
  have g_joined := mg_of X G n_joined
  have U_chain_of := fun_mk (st := s_chain_of) l_chain_of c_chain_of k_chain_of
  have b_chain_of := U_chain_of.binds (ps := [(PySem.Str.ofString "clauses"), (PySem.Str.ofString "clause"), (PySem.Str.ofString "hints")]) fun _ _ _ _ _ _ us hl => match us, hl with | [_, _, _], _ => rfl
  have g_chain_of := mg_of X G n_chain_of
  have U_link := fun_mk (st := s_link) l_link c_link k_link
  have b_link := U_link.binds (ps := [(PySem.Str.ofString "here"), (PySem.Str.ofString "other"), (PySem.Str.ofString "variable")]) fun _ _ _ _ _ _ us hl => match us, hl with | [_, _, _], _ => rfl
  have g_link := mg_of X G n_link
  have U_chain_end := fun_mk (st := s_chain_end) l_chain_end c_chain_end k_chain_end
  have b_chain_end := U_chain_end.binds (ps := [(PySem.Str.ofString "clauses"), (PySem.Str.ofString "chain")]) fun _ _ _ _ _ _ us hl => match us, hl with | [_, _], _ => rfl
  have g_chain_end := mg_of X G n_chain_end
  have U_chain_right := fun_mk (st := s_chain_right) l_chain_right c_chain_right k_chain_right
  have b_chain_right := U_chain_right.binds (ps := [(PySem.Str.ofString "clauses"), (PySem.Str.ofString "clause"), (PySem.Str.ofString "chain")]) fun _ _ _ _ _ _ us hl => match us, hl with | [_, _, _], _ => rfl
  have g_chain_right := mg_of X G n_chain_right
  have U__law_pool := fun_mk (st := s__law_pool) l__law_pool c__law_pool k__law_pool
  have b__law_pool := U__law_pool.binds (ps := [(PySem.Str.ofString "script"), (PySem.Str.ofString "budget")]) fun _ _ _ _ _ _ us hl => match us, hl with | [_, _], _ => rfl
  have g__law_pool := mg_of X G n__law_pool
  have U__law_draw := fun_mk (st := s__law_draw) l__law_draw c__law_draw k__law_draw
  have b__law_draw := U__law_draw.binds (ps := [(PySem.Str.ofString "pool"), (PySem.Str.ofString "size")]) fun _ _ _ _ _ _ us hl => match us, hl with | [_, _], _ => rfl
  have g__law_draw := mg_of X G n__law_draw
  have U__law_same := fun_mk (st := s__law_same) l__law_same c__law_same k__law_same
  have b__law_same := U__law_same.binds (ps := [(PySem.Str.ofString "actual"), (PySem.Str.ofString "due")]) fun _ _ _ _ _ _ us hl => match us, hl with | [_, _], _ => rfl
  have g__law_same := mg_of X G n__law_same
  have U__law_literals := fun_mk (st := s__law_literals) l__law_literals c__law_literals k__law_literals
  have b__law_literals := U__law_literals.binds (ps := [(PySem.Str.ofString "pool"), (PySem.Str.ofString "count"), (PySem.Str.ofString "most")]) fun _ _ _ _ _ _ us hl => match us, hl with | [_, _, _], _ => rfl
  have g__law_literals := mg_of X G n__law_literals
  have U__law_rows := fun_mk (st := s__law_rows) l__law_rows c__law_rows k__law_rows
  have b__law_rows := U__law_rows.binds (ps := [(PySem.Str.ofString "count")]) fun _ _ _ _ _ _ us hl => match us, hl with | [_], _ => rfl
  have g__law_rows := mg_of X G n__law_rows
  have U__law_holds := fun_mk (st := s__law_holds) l__law_holds c__law_holds k__law_holds
  have b__law_holds := U__law_holds.binds (ps := [(PySem.Str.ofString "clause"), (PySem.Str.ofString "values")]) fun _ _ _ _ _ _ us hl => match us, hl with | [_, _], _ => rfl
  have g__law_holds := mg_of X G n__law_holds
  have U__law_good := fun_mk (st := s__law_good) l__law_good c__law_good k__law_good
  have b__law_good := U__law_good.binds (ps := [(PySem.Str.ofString "hard"), (PySem.Str.ofString "values")]) fun _ _ _ _ _ _ us hl => match us, hl with | [_, _], _ => rfl
  have g__law_good := mg_of X G n__law_good
  have U__law_follows := fun_mk (st := s__law_follows) l__law_follows c__law_follows k__law_follows
  have b__law_follows := U__law_follows.binds (ps := [(PySem.Str.ofString "clauses"), (PySem.Str.ofString "clause"), (PySem.Str.ofString "hints")]) fun _ _ _ _ _ _ us hl => match us, hl with | [_, _, _], _ => rfl
  have g__law_follows := mg_of X G n__law_follows
  have U__law_ordered := fun_mk (st := s__law_ordered) l__law_ordered c__law_ordered k__law_ordered
  have b__law_ordered := U__law_ordered.binds (ps := [(PySem.Str.ofString "literals")]) fun _ _ _ _ _ _ us hl => match us, hl with | [_], _ => rfl
  have g__law_ordered := mg_of X G n__law_ordered
  have U__law_leads := fun_mk (st := s__law_leads) l__law_leads c__law_leads k__law_leads
  have b__law_leads := U__law_leads.binds (ps := [(PySem.Str.ofString "clauses"), (PySem.Str.ofString "clause")]) fun _ _ _ _ _ _ us hl => match us, hl with | [_, _], _ => rfl
  have g__law_leads := mg_of X G n__law_leads
  have U__law_link := fun_mk (st := s__law_link) l__law_link c__law_link k__law_link
  have b__law_link := U__law_link.binds (ps := [(PySem.Str.ofString "here"), (PySem.Str.ofString "other"), (PySem.Str.ofString "variable")]) fun _ _ _ _ _ _ us hl => match us, hl with | [_, _, _], _ => rfl
  have g__law_link := mg_of X G n__law_link
  have U__law_end := fun_mk (st := s__law_end) l__law_end c__law_end k__law_end
  have b__law_end := U__law_end.binds (ps := [(PySem.Str.ofString "clauses"), (PySem.Str.ofString "chain")]) fun _ _ _ _ _ _ us hl => match us, hl with | [_, _], _ => rfl
  have g__law_end := mg_of X G n__law_end
  have U_law := fun_mk (st := s_law) l_law c_law k_law
  have b_law := U_law.binds (ps := [(PySem.Str.ofString "script")]) fun _ _ _ _ _ _ us hl => match us, hl with | [_], _ => rfl
  have g_law := mg_of X G n_law
  have m_enumerate := mg_none_of X G z_enumerate
  have m_len := mg_none_of X G z_len
  have m_tuple := mg_none_of X G z_tuple
  have m_sorted := mg_none_of X G z_sorted
  have m_abs := mg_none_of X G z_abs
  have m_any := mg_none_of X G z_any
  have m_all := mg_none_of X G z_all
  have m_zip := mg_none_of X G z_zip
  have m_list := mg_none_of X G z_list
  have m_int := mg_none_of X G z_int
  have m_isinstance := mg_none_of X G z_isinstance
  have m_range := mg_none_of X G z_range
  have m_bool := mg_none_of X G z_bool
  have m_str := mg_none_of X G z_str
  have m_set := mg_none_of X G z_set
  have m_super := mg_none_of X G z_super
  have m_MOST_VARIABLE := mg_of X G z_MOST_VARIABLE
  have gE_BadClause := mg_of X G e_n_BadClause
  have T_BadClause : OexC K C_BadClause := ⟨⟨nm_BadClause, qn_BadClause, N_BadClause, bs_BadClause, bm_BadClause, sn_BadClause, sub_BadClause, ab_BadClause, col_BadClause, dd_BadClause, k0_BadClause, k1_BadClause, k2_BadClause, k3_BadClause, k5_BadClause, e_l_BadClause, e_r_BadClause⟩, e_sa_BadClause, e_ex_BadClause, e_ty_BadClause, e_k_BadClause⟩
  have J_BadClause : Ex.Ini P K mg aI_BadClause C_BadClause _ (PySem.Str.ofString "what") (PySem.Str.ofString "what") := ⟨T_BadClause, e_w_BadClause, ⟨iname_BadClause, iqual_BadClause, iparams_BadClause, iscope_BadClause, idV_BadClause, ikV_BadClause, idoc_BadClause, ipm_BadClause, ict_BadClause, ioc_BadClause, ian_BadClause, iod_BadClause, iosl_BadClause, cda_BadClause, cc_BadClause, p0_BadClause, p1_BadClause, p2_BadClause, p3_BadClause, p4_BadClause, p5_BadClause, p6_BadClause, p7_BadClause, p8_BadClause, p9_BadClause, v1_BadClause, v2_BadClause, vs_BadClause, rfl, i_l_BadClause, i_c_BadClause, i_p_BadClause, i_pl_BadClause, ⟨ar_BadClause, i_a_BadClause, i_a2_BadClause⟩, ⟨ccl_BadClause, cdd_BadClause, xs_BadClause, csl_BadClause, file_BadClause, tf_BadClause, i_d_BadClause, i_x_BadClause, i_f_BadClause⟩, ⟨cl_BadClause, cld_BadClause, csl2_BadClause, i_e_BadClause⟩, s1_BadClause, s2_BadClause, s3_BadClause, s4_BadClause, of_decide_eq_true s5_BadClause, s6_BadClause, s7_BadClause, s8_BadClause, s9_BadClause⟩, by decide, by decide, s10, m_super, e_mro_BadClause, e_s_BadClause, e_ve_BadClause, e_3⟩
  have bI_BadClause := Binds.all (K := K) (ps := [(PySem.Str.ofString "self"), (PySem.Str.ofString "what")]) b_i_BadClause
  have XF_BadClause : XfC K C_BadClause := ⟨e_ga_BadClause, e_gg_BadClause, e_ex_BadClause, e_hd_BadClause⟩
  refine ⟨fnOf (PySem.Str.ofString "law") (PySem.Str.ofString "law") (defArgs s_law) (defBody s_law) (defScope s_law) .none kV_law dc_law pm_law an_law cd_law ct_law, fun s v => .of_eq rfl, fun base KB GB => ?_⟩
  have OI_BadClause := Ex.init_ok (w := w) (base := base) (CX := L2.CX P w) J_BadClause 0
  have Ofollows := ok_follows (P := P) (w := w) (mg := mg) (base := base)  U_follows m_enumerate m_len           K04.k_follows
  have O_pruned := ok__pruned (P := P) (w := w) (mg := mg) (base := base)  U__pruned m_tuple           K04.k__pruned
  have Ohints_for := ok_hints_for (P := P) (w := w) (mg := mg) (base := base) F__pruned U_hints_for m_len     O_pruned g__pruned k__pruned b__pruned      K04.k_hints_for
  have Oordered := ok_ordered (P := P) (w := w) (mg := mg) (base := base)  U_ordered m_sorted m_abs           K04.k_ordered
  have Oclause_of := ok_clause_of (P := P) (w := w) (mg := mg) (base := base) F_ordered U_clause_of m_any m_tuple m_all m_abs m_zip m_MOST_VARIABLE    Oordered g_ordered k_ordered b_ordered    T_BadClause e_i_BadClause e_ti_BadClause OI_BadClause bI_BadClause gE_BadClause  K04.k_clause_of
  have Oresolved := ok_resolved (P := P) (w := w) (mg := mg) (base := base) F_clause_of U_resolved m_any     Oclause_of g_clause_of k_clause_of b_clause_of    T_BadClause e_i_BadClause e_ti_BadClause OI_BadClause bI_BadClause gE_BadClause  K04.k_resolved
  have Ojoined := ok_joined (P := P) (w := w) (mg := mg) (base := base) F_resolved U_joined      Oresolved g_resolved k_resolved b_resolved      K04.k_joined
  have Ochain_of := ok_chain_of (P := P) (w := w) (mg := mg) (base := base) F_joined U_chain_of m_all m_tuple m_len m_abs     Ojoined g_joined k_joined b_joined      K04.k_chain_of
  have Olink := ok_link (P := P) (w := w) (mg := mg) (base := base) F_resolved U_link      Oresolved g_resolved k_resolved b_resolved      K04.k_link
  have Ochain_end := ok_chain_end (P := P) (w := w) (mg := mg) (base := base) F_link U_chain_end m_len     Olink g_link k_link b_link      K04.k_chain_end
  have Ochain_right := ok_chain_right (P := P) (w := w) (mg := mg) (base := base) F_chain_end U_chain_right m_all     Ochain_end g_chain_end k_chain_end b_chain_end      K04.k_chain_right
  have O_law_pool := ok__law_pool (P := P) (w := w) (mg := mg) (base := base)  U__law_pool m_list           K04.k__law_pool
  have O_law_draw := ok__law_draw (P := P) (w := w) (mg := mg) (base := base)  U__law_draw m_int m_len           K04.k__law_draw
  have O_law_same_1 : FnOk P w K mg base (L2.CX P w) 1 a__law_same _ [(PySem.Str.ofString "actual"), (PySem.Str.ofString "due")] (spD K mg 2 (F_same 1)) := ok__law_same (kk := 0) (P := P) (w := w) (mg := mg) (base := base) (F_same 0) (F := (F_same 1)) U__law_same m_isinstance m_int m_tuple m_list m_range m_bool m_str m_len     (spD0 (fun _ _ _ h => h)) g__law_same k__law_same b__law_same      (K04.k__law_same 0)
  have O_law_same_2 : FnOk P w K mg base (L2.CX P w) 2 a__law_same _ [(PySem.Str.ofString "actual"), (PySem.Str.ofString "due")] (spD K mg 2 (F_same 2)) := ok__law_same (kk := 1) (P := P) (w := w) (mg := mg) (base := base) (F_same 1) (F := (F_same 2)) U__law_same m_isinstance m_int m_tuple m_list m_range m_bool m_str m_len     O_law_same_1 g__law_same k__law_same b__law_same      (K04.k__law_same 1)
  have O_law_same_3 : FnOk P w K mg base (L2.CX P w) 3 a__law_same _ [(PySem.Str.ofString "actual"), (PySem.Str.ofString "due")] (spD K mg 2 (F_same 3)) := ok__law_same (kk := 2) (P := P) (w := w) (mg := mg) (base := base) (F_same 2) (F := (F_same 3)) U__law_same m_isinstance m_int m_tuple m_list m_range m_bool m_str m_len     O_law_same_2 g__law_same k__law_same b__law_same      (K04.k__law_same 2)
  have O_law_same_4 : FnOk P w K mg base (L2.CX P w) 4 a__law_same _ [(PySem.Str.ofString "actual"), (PySem.Str.ofString "due")] (spD K mg 2 (F_same 4)) := ok__law_same (kk := 3) (P := P) (w := w) (mg := mg) (base := base) (F_same 3) (F := (F_same 4)) U__law_same m_isinstance m_int m_tuple m_list m_range m_bool m_str m_len     O_law_same_3 g__law_same k__law_same b__law_same      (K04.k__law_same 3)
  have O_law_same_5 : FnOk P w K mg base (L2.CX P w) 5 a__law_same _ [(PySem.Str.ofString "actual"), (PySem.Str.ofString "due")] (spD K mg 2 (F_same 5)) := ok__law_same (kk := 4) (P := P) (w := w) (mg := mg) (base := base) (F_same 4) (F := (F_same 5)) U__law_same m_isinstance m_int m_tuple m_list m_range m_bool m_str m_len     O_law_same_4 g__law_same k__law_same b__law_same      (K04.k__law_same 4)
  have O_law_same : FnOk P w K mg base (L2.CX P w) 5 a__law_same _ [(PySem.Str.ofString "actual"), (PySem.Str.ofString "due")] (spD K mg 2 (F_same 5)) := O_law_same_5.mono (by decide)
  have O_law_literals := ok__law_literals (P := P) (w := w) (mg := mg) (base := base) F__law_draw U__law_literals m_range m_tuple m_len     O_law_draw g__law_draw k__law_draw b__law_draw      K04.k__law_literals
  have O_law_rows := ok__law_rows (P := P) (w := w) (mg := mg) (base := base)  U__law_rows m_range           K04.k__law_rows
  have O_law_holds := ok__law_holds (P := P) (w := w) (mg := mg) (base := base)  U__law_holds m_int m_abs           K04.k__law_holds
  have O_law_good := ok__law_good (P := P) (w := w) (mg := mg) (base := base) F__law_holds U__law_good      O_law_holds g__law_holds k__law_holds b__law_holds      K04.k__law_good
  have O_law_follows := ok__law_follows (P := P) (w := w) (mg := mg) (base := base)  U__law_follows m_range m_len           K04.k__law_follows
  have O_law_ordered := ok__law_ordered (P := P) (w := w) (mg := mg) (base := base)  U__law_ordered m_tuple m_sorted m_abs           K04.k__law_ordered
  have O_law_leads := ok__law_leads (P := P) (w := w) (mg := mg) (base := base)  U__law_leads m_range m_len           K04.k__law_leads
  have O_law_link := ok__law_link (P := P) (w := w) (mg := mg) (base := base) F__law_ordered U__law_link m_sorted m_set m_abs     O_law_ordered g__law_ordered k__law_ordered b__law_ordered      K04.k__law_link
  have O_law_end := ok__law_end (P := P) (w := w) (mg := mg) (base := base) F_link U__law_end m_len     O_law_link g__law_link k__law_link b__law_link      K04.k__law_end
  have Olaw := ok_law (P := P) (w := w) (mg := mg) (base := base) hF__law_pool F__law_draw F__law_literals F_hints_for F__law_leads F_follows (F_same 5) F_chain_of F_chain_end F_follows F__law_rows F__law_good F_chain_end F__law_holds F_chain_right U_law m_range m_list m_tuple m_len m_isinstance     O_law_pool g__law_pool k__law_pool b__law_pool O_law_draw g__law_draw k__law_draw b__law_draw O_law_literals g__law_literals k__law_literals b__law_literals Ohints_for g_hints_for k_hints_for b_hints_for O_law_leads g__law_leads k__law_leads b__law_leads O_law_follows g__law_follows k__law_follows b__law_follows O_law_same g__law_same k__law_same b__law_same Ochain_of g_chain_of k_chain_of b_chain_of O_law_end g__law_end k__law_end b__law_end Ofollows g_follows k_follows b_follows O_law_rows g__law_rows k__law_rows b__law_rows O_law_good g__law_good k__law_good b__law_good Ochain_end g_chain_end k_chain_end b_chain_end O_law_holds g__law_holds k__law_holds b__law_holds Ochain_right g_chain_right k_chain_right b_chain_right      K04.k_law
  exact Olaw.imp fun vs H Q E ⟨La, ds, l, r, q⟩ => ⟨La, ds, l, r, q⟩
end K04
end

section
open PySem PySem.W PyProof.Rows
set_option maxHeartbeats 0 in
theorem PySem.Challenge.cw_coresprice_k04_whole_clauses_that_follow_holds : PySem.Challenge.rw_coresprice_k04_whole_clauses_that_follow.Holds := by
  w_on; o_law; k_head; (case hw => w_witness2)
  k_fill
  refine L2.walk_of (l := PySem.Challenge.rw_coresprice_k04_whole_clauses_that_follow) (n := 63) (k := 8) (x := "script") (CX := fun w => L2.CX PySem.Challenge.pw_coresprice_k04_whole_clauses_that_follow w) (sp := fun w => K04.spLaw _) rfl (by decide) rfl ⟨rfl, by decide, by decide⟩ (fun w h Y => PySem.W.kIn_of Y) ?F (fun w H a ns hl hO hS => K04.spLaw_ok hl hO hS) (fun w H s e s' h => K04.noCX h)
  case F =>
    intro w mg fa h KX G hmg
    refine' K04.all_mk KX G hmg ?n_follows ?l_follows ?c_follows ?k_follows ?n__pruned ?l__pruned ?c__pruned ?k__pruned ?n_hints_for ?l_hints_for ?c_hints_for ?k_hints_for ?n_ordered ?l_ordered ?c_ordered ?k_ordered ?n_clause_of ?l_clause_of ?c_clause_of ?k_clause_of ?n_resolved ?l_resolved ?c_resolved ?k_resolved ?n_joined ?l_joined ?c_joined ?k_joined ?n_chain_of ?l_chain_of ?c_chain_of ?k_chain_of ?n_link ?l_link ?c_link ?k_link ?n_chain_end ?l_chain_end ?c_chain_end ?k_chain_end ?n_chain_right ?l_chain_right ?c_chain_right ?k_chain_right ?n__law_pool ?l__law_pool ?c__law_pool ?k__law_pool ?n__law_draw ?l__law_draw ?c__law_draw ?k__law_draw ?n__law_same ?l__law_same ?c__law_same ?k__law_same ?n__law_literals ?l__law_literals ?c__law_literals ?k__law_literals ?n__law_rows ?l__law_rows ?c__law_rows ?k__law_rows ?n__law_holds ?l__law_holds ?c__law_holds ?k__law_holds ?n__law_good ?l__law_good ?c__law_good ?k__law_good ?n__law_follows ?l__law_follows ?c__law_follows ?k__law_follows ?n__law_ordered ?l__law_ordered ?c__law_ordered ?k__law_ordered ?n__law_leads ?l__law_leads ?c__law_leads ?k__law_leads ?n__law_link ?l__law_link ?c__law_link ?k__law_link ?n__law_end ?l__law_end ?c__law_end ?k__law_end ?n_law ?l_law ?c_law ?k_law ?z_enumerate ?z_len ?z_tuple ?z_sorted ?z_abs ?z_any ?z_all ?z_zip ?z_list ?z_int ?z_isinstance ?z_range ?z_bool ?z_str ?z_set ?z_super ?z_MOST_VARIABLE ?e_3 ?s10 ?e_n_BadClause ?e_l_BadClause ?e_r_BadClause ?e_sa_BadClause ?e_ga_BadClause ?e_gg_BadClause ?e_ex_BadClause ?e_ve_BadClause ?e_ty_BadClause ?e_k_BadClause ?e_hd_BadClause ?e_w_BadClause ?e_i_BadClause ?e_ti_BadClause ?e_mro_BadClause ?e_s_BadClause ?i_l_BadClause ?i_c_BadClause ?i_d_BadClause ?i_x_BadClause ?i_f_BadClause ?i_e_BadClause ?i_a_BadClause ?i_a2_BadClause ?i_p_BadClause ?i_pl_BadClause ?s1_BadClause ?s2_BadClause ?s3_BadClause ?s4_BadClause ?s5_BadClause ?s6_BadClause ?s7_BadClause ?s8_BadClause ?s9_BadClause ?b_i_BadClause
    (case n_follows => k_is)
    (case l_follows => k_is)
    (case c_follows => k_is)
    (case k_follows => k_is)
    (case n__pruned => k_is)
    (case l__pruned => k_is)
    (case c__pruned => k_is)
    (case k__pruned => k_is)
    (case n_hints_for => k_is)
    (case l_hints_for => k_is)
    (case c_hints_for => k_is)
    (case k_hints_for => k_is)
    (case n_ordered => k_is)
    (case l_ordered => k_is)
    (case c_ordered => k_is)
    (case k_ordered => k_is)
    (case n_clause_of => k_is)
    (case l_clause_of => k_is)
    (case c_clause_of => k_is)
    (case k_clause_of => k_is)
    (case n_resolved => k_is)
    (case l_resolved => k_is)
    (case c_resolved => k_is)
    (case k_resolved => k_is)
    (case n_joined => k_is)
    (case l_joined => k_is)
    (case c_joined => k_is)
    (case k_joined => k_is)
    (case n_chain_of => k_is)
    (case l_chain_of => k_is)
    (case c_chain_of => k_is)
    (case k_chain_of => k_is)
    (case n_link => k_is)
    (case l_link => k_is)
    (case c_link => k_is)
    (case k_link => k_is)
    (case n_chain_end => k_is)
    (case l_chain_end => k_is)
    (case c_chain_end => k_is)
    (case k_chain_end => k_is)
    (case n_chain_right => k_is)
    (case l_chain_right => k_is)
    (case c_chain_right => k_is)
    (case k_chain_right => k_is)
    (case n__law_pool => k_is)
    (case l__law_pool => k_is)
    (case c__law_pool => k_is)
    (case k__law_pool => k_is)
    (case n__law_draw => k_is)
    (case l__law_draw => k_is)
    (case c__law_draw => k_is)
    (case k__law_draw => k_is)
    (case n__law_same => k_is)
    (case l__law_same => k_is)
    (case c__law_same => k_is)
    (case k__law_same => k_is)
    (case n__law_literals => k_is)
    (case l__law_literals => k_is)
    (case c__law_literals => k_is)
    (case k__law_literals => k_is)
    (case n__law_rows => k_is)
    (case l__law_rows => k_is)
    (case c__law_rows => k_is)
    (case k__law_rows => k_is)
    (case n__law_holds => k_is)
    (case l__law_holds => k_is)
    (case c__law_holds => k_is)
    (case k__law_holds => k_is)
    (case n__law_good => k_is)
    (case l__law_good => k_is)
    (case c__law_good => k_is)
    (case k__law_good => k_is)
    (case n__law_follows => k_is)
    (case l__law_follows => k_is)
    (case c__law_follows => k_is)
    (case k__law_follows => k_is)
    (case n__law_ordered => k_is)
    (case l__law_ordered => k_is)
    (case c__law_ordered => k_is)
    (case k__law_ordered => k_is)
    (case n__law_leads => k_is)
    (case l__law_leads => k_is)
    (case c__law_leads => k_is)
    (case k__law_leads => k_is)
    (case n__law_link => k_is)
    (case l__law_link => k_is)
    (case c__law_link => k_is)
    (case k__law_link => k_is)
    (case n__law_end => k_is)
    (case l__law_end => k_is)
    (case c__law_end => k_is)
    (case k__law_end => k_is)
    (case n_law => k_is)
    (case l_law => k_is)
    (case c_law => k_is)
    (case k_law => k_is)
    (case z_enumerate => k_is)
    (case z_len => k_is)
    (case z_tuple => k_is)
    (case z_sorted => k_is)
    (case z_abs => k_is)
    (case z_any => k_is)
    (case z_all => k_is)
    (case z_zip => k_is)
    (case z_list => k_is)
    (case z_int => k_is)
    (case z_isinstance => k_is)
    (case z_range => k_is)
    (case z_bool => k_is)
    (case z_str => k_is)
    (case z_set => k_is)
    (case z_super => k_is)
    (case z_MOST_VARIABLE => k_is)
    (case e_3 => k_is)
    (case s10 => first | rfl | decide +kernel)
    (case e_n_BadClause => k_is)
    (case e_l_BadClause => k_is)
    (case e_r_BadClause => decide +kernel)
    (case e_sa_BadClause => k_is)
    (case e_ga_BadClause => k_is)
    (case e_gg_BadClause => k_is)
    (case e_ex_BadClause => k_is)
    (case e_ve_BadClause => k_is)
    (case e_ty_BadClause => k_is)
    (case e_k_BadClause => k_is)
    (case e_hd_BadClause => k_is)
    (case e_w_BadClause => k_is)
    (case e_i_BadClause => k_is)
    (case e_ti_BadClause => k_is)
    (case e_mro_BadClause => k_is)
    (case e_s_BadClause => ks_is)
    (case i_l_BadClause => k_is)
    (case i_c_BadClause => k_is)
    (case i_d_BadClause => k_is)
    (case i_x_BadClause => rfl)
    (case i_f_BadClause => first | rfl | decide +kernel)
    (case i_e_BadClause => k_is)
    (case i_a_BadClause => rfl)
    (case i_a2_BadClause => rfl)
    (case i_p_BadClause => (intro e he; simp only [List.mem_cons, List.not_mem_nil, or_false] at he; rcases he with rfl | rfl | rfl <;> first | exact .text _ _ _ (by decide +kernel) | exact .fmt _ _))
    (case i_pl_BadClause => decide)
    (case s1_BadClause => first | rfl | decide +kernel)
    (case s2_BadClause => first | rfl | decide +kernel)
    (case s3_BadClause => first | rfl | decide +kernel)
    (case s4_BadClause => first | rfl | decide +kernel)
    (case s5_BadClause => first | rfl | decide +kernel)
    (case s6_BadClause => rfl)
    (case s7_BadClause => rfl)
    (case s8_BadClause => rfl)
    (case s9_BadClause => (intro env; exact ⟨_, rfl⟩))
    (case b_i_BadClause => (exact fun us hl => match us, hl with | [_, _], _ => rfl))
end
