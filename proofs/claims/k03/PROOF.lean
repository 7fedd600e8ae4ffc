import PyProof.Rows.All
import Wide.All
import OpenK.AllK
import Wide.FinOn
import HandS.ForMost
import HandS.ForExc
import HandS.TryOnly
import HandS.Zip
import HandS.TupSets
import HandS.ExcField
import HandS.TryMany
import HandS.TupAny
import HandS.IsInst
import HandS.Deep
import KE.KDictCopyH
import KE.SortData
import HandS.SetBool
import HandS.ExcInit
import HandS.ExcSuper
import HandS.FStr
import KE.KExcSuper
import HandS.Codes
import PyProof.EnumMake
import PyProof.Draws
import HandS.Iter
import HandS.Exc
import HandS.TupMul
import HandS.Style
import KE.GoesEnum
import HandS.Text
import HandS.StrMore
import HandS.RaiseMore
import KE.IntTextLaws
import PySem.Challenge.RW_coresprice_k03_whole_problem_texts_with
set_option Elab.async false
set_option linter.all false
set_option maxRecDepth 100000
section
namespace Pu
open PySem PySem.Spec PyProof.Rows L2

/-! ### data without a heap -/
inductive Da where
  | non
  | bl (b : Bool)
  | int (i : Int)
  | str (x : Str)
  | tup (xs : List Da)
  | lst (xs : List Da)
  | obj (c : Addr) (ns : List Str) (xs : List Da)
  /-- the law's own script -/
  | scr (ns : List Int)

/-- whose list it is: a slot's, a pending value's -/
inductive Tg where
  | slot (i : Nat) | pend (j : Nat)
  deriving DecidableEq
/-- what is known of a slot: data for ever; a list of our own that may still be changed; the pool of draws; an exception that was caught, with its field -/
inductive Ce where
  | dat (d : Da) | own (ds : List Da) | pool | exn (fld : Str) (what : Da) | set (ds : List Da) | plv (po : List Da)
  /-- an object that its __init__ still makes: its class, its fields so far -/
  | me (c : Addr) (fs : List (Str × Da))
abbrev En := List (Option Ce)

def Chg : HO → Prop
  | .lst _ => True
  | .ins _ _ _ => True
  | .ext _ => True
  | _ => False
def Keep (L : Addr → Prop) (H H' : Hp) : Prop := ∀ b x, H b = some x → (L b ∨ ¬ Chg x) → H' b = some x

/-- a list at a that nobody changes any more -/
def LAt (K : PySem.W.Frag) (L : Addr → Prop) (H : Hp) (a : Addr) (xs : List V) : Prop := H a = some (.lst xs) ∧ L a
theorem LAt.sq {K L H a xs} (h : LAt K L H a xs) : SqL K H a xs := .inl (.inl h.1)
theorem LAt.mono {K L L' H H' a xs} (h : LAt K L H a xs) (k : Keep L H H') (l : ∀ b x, H b = some x → L b → L' b) : LAt K L' H' a xs := ⟨k _ _ h.1 (.inl h.2), l _ _ h.1 h.2⟩
/-- the script's list -/
def SqF (K : PySem.W.Frag) (H : Hp) (a : Addr) (xs : List V) : Prop := SqL K H a xs ∧ ∀ H' : Hp, (∀ b x, H b = some x → ¬ Chg x → H' b = some x) → SqL K H' a xs
theorem SqF.mono {K : PySem.W.Frag} {H H' : Hp} {a : Addr} {xs : List V} (h : SqF K H a xs) (k : ∀ b x, H b = some x → ¬ Chg x → H' b = some x) : SqF K H' a xs := by
  refine ⟨h.2 H' k, fun H'' k2 => h.2 H'' fun b x e n => k2 b x (k b x e n) n⟩
theorem sqT_mono {K H H' a xs} {L : Addr → Prop} (h : SqT K H a xs) (k : Keep L H H') : SqT K H' a xs := by
  rcases h with (h | ⟨o, h⟩) | h
  · exact .inl (.inl (k _ _ h (.inr fun z => z)))
  · exact .inl (.inr ⟨o, k _ _ h (.inr fun z => z)⟩)
  · exact .inr h

/-- a flat item's number; the key of a tuple of such -/
def Da.num : Da → Option Int
  | .int i => some i
  | .bl b => some (if b = true then 1 else 0)
  | _ => none
def Da.key : Da → Option (List Int)
  | .tup (d :: ds) => (d :: ds).mapM Da.num
  | _ => none
/-- the pool as a list -/
def poolD (ns : List Int) (a b c d e : Int) : List Da := [.lst (ns.map Da.int), .int a, .int b, .int c, .int d, .int e]
def PoolOk (po : List Da) : Prop := ∃ ns a b c d e, po = poolD ns a b c d e ∧ 0 ≤ a ∧ 0 ≤ c ∧ c < 2147483647 ∧ ns.length ≤ 1000
/-- the members of the set of ds -/
def SetOf (ds ms : List Da) : Prop := (ms.map Da.key).Nodup ∧ (∀ d ∈ ms, d ∈ ds) ∧ ∀ d ∈ ds, Da.key d ∈ ms.map Da.key

mutual
def Rep (K : PySem.W.Frag) (L : Addr → Prop) (H : Hp) : Da → V → Prop
  | .non, v => v = .non
  | .bl b, v => v = .bl b
  | .int i, v => v = .int i
  | .str x, v => v = .str x
  | .tup ds, v => ∃ a xs, v = .ref a ∧ SqT K H a xs ∧ ds.length ≤ sizeLine ∧ Reps K L H ds xs
  | .lst ds, v => ∃ a xs, v = .ref a ∧ LAt K L H a xs ∧ ds.length ≤ sizeLine ∧ Reps K L H ds xs
  | .obj c ns ds, v => ∃ a dx fs, v = .ref a ∧ (H a = some (.ins c dx fs) ∧ L a) ∧ fs.map (·.1) = ns ∧ Reps K L H ds (fs.map (·.2))
  | .scr ns, v => ∃ a, v = .ref a ∧ SqF K H a (ns.map V.int) ∧ ns.length ≤ 1000
def Reps (K : PySem.W.Frag) (L : Addr → Prop) (H : Hp) : List Da → List V → Prop
  | [], xs => xs = []
  | d :: ds, xs => ∃ x ys, xs = x :: ys ∧ Rep K L H d x ∧ Reps K L H ds ys
end

section
variable {K : PySem.W.Frag} {L L' : Addr → Prop} {H H' : Hp}
mutual
theorem Rep.mono (k : Keep L H H') (l : ∀ b x, H b = some x → L b → L' b) : ∀ (d : Da) (v : V), Rep K L H d v → Rep K L' H' d v
  | .non, v, h => by simpa [Rep] using h
  | .bl b, v, h => by simpa [Rep] using h
  | .int i, v, h => by simpa [Rep] using h
  | .str x, v, h => by simpa [Rep] using h
  | .tup ds, v, h => by
    simp only [Rep] at h ⊢
    obtain ⟨a, xs, e, q, z, r⟩ := h
    exact ⟨a, xs, e, sqT_mono q k, z, Reps.mono k l ds xs r⟩
  | .lst ds, v, h => by
    simp only [Rep] at h ⊢
    obtain ⟨a, xs, e, q, z, r⟩ := h
    exact ⟨a, xs, e, q.mono k l, z, Reps.mono k l ds xs r⟩
  | .obj c ns ds, v, h => by
    simp only [Rep] at h ⊢
    obtain ⟨a, dx, fs, e, q, z, r⟩ := h
    exact ⟨a, dx, fs, e, ⟨k _ _ q.1 (.inl q.2), l _ _ q.1 q.2⟩, z, Reps.mono k l ds _ r⟩
  | .scr ns, v, h => by
    simp only [Rep] at h ⊢
    obtain ⟨a, e, q, z⟩ := h
    exact ⟨a, e, q.mono fun b x e n => k b x e (.inr n), z⟩
theorem Reps.mono (k : Keep L H H') (l : ∀ b x, H b = some x → L b → L' b) : ∀ (ds : List Da) (vs : List V), Reps K L H ds vs → Reps K L' H' ds vs
  | [], vs, h => by simpa [Reps] using h
  | d :: ds, vs, h => by
    simp only [Reps] at h ⊢
    obtain ⟨x, ys, e, r, rs⟩ := h
    exact ⟨x, ys, e, Rep.mono k l d x r, Reps.mono k l ds ys rs⟩
end
theorem Reps.length : ∀ {ds : List Da} {vs : List V}, Reps K L H ds vs → vs.length = ds.length
  | [], vs, h => by simp only [Reps] at h; subst h; rfl
  | d :: ds, vs, h => by
    simp only [Reps] at h
    obtain ⟨x, ys, e, _, rs⟩ := h
    subst e
    simp [Reps.length rs]
theorem Reps.get : ∀ {ds : List Da} {vs : List V} {i : Nat} {x : V}, Reps K L H ds vs → vs[i]? = some x → ∃ d, ds[i]? = some d ∧ Rep K L H d x
  | [], vs, i, x, h, e => by simp only [Reps] at h; subst h; simp at e
  | d :: ds, vs, 0, x, h, e => by
    simp only [Reps] at h
    obtain ⟨y, ys, e1, r, _⟩ := h
    subst e1
    simp at e
    subst e
    exact ⟨d, rfl, r⟩
  | d :: ds, vs, i + 1, x, h, e => by
    simp only [Reps] at h
    obtain ⟨y, ys, e1, _, rs⟩ := h
    subst e1
    obtain ⟨d', h1, h2⟩ := Reps.get (i := i) rs (by simpa using e)
    exact ⟨d', by simpa using h1, h2⟩
theorem Reps.getD {ds : List Da} {vs : List V} {i : Nat} {d : Da} (h : Reps K L H ds vs) (e : ds[i]? = some d) : ∃ x, vs[i]? = some x ∧ Rep K L H d x := by
  have hl := h.length
  have hi : i < ds.length := (List.getElem?_eq_some_iff.mp e).1
  obtain ⟨d', h1, h2⟩ := h.get (i := i) (x := vs[i]'(by omega)) (by simp)
  rw [e] at h1
  cases h1
  exact ⟨_, by simp, h2⟩
theorem Reps.snoc : ∀ {ds : List Da} {vs : List V} {d : Da} {v : V}, Reps K L H ds vs → Rep K L H d v → Reps K L H (ds ++ [d]) (vs ++ [v])
  | [], vs, d, v, h, r => by simp only [Reps] at h; subst h; simp only [List.nil_append, Reps]; exact ⟨v, [], rfl, r, rfl⟩
  | _ :: _, vs, d, v, h, r => by
    simp only [Reps] at h
    obtain ⟨y, ys, e1, q, rs⟩ := h
    subst e1
    simp only [List.cons_append, Reps]
    exact ⟨y, ys ++ [v], rfl, q, Reps.snoc rs r⟩
theorem Reps.app : ∀ {ds es : List Da} {vs ws : List V}, Reps K L H ds vs → Reps K L H es ws → Reps K L H (ds ++ es) (vs ++ ws)
  | [], es, vs, ws, h, r => by simp only [Reps] at h; subst h; exact r
  | _ :: _, es, vs, ws, h, r => by
    simp only [Reps] at h
    obtain ⟨y, ys, e1, q, rs⟩ := h
    subst e1
    simp only [List.cons_append, Reps]
    exact ⟨y, ys ++ ws, rfl, q, Reps.app rs r⟩
theorem Reps.drop : ∀ {ds : List Da} {vs : List V} (n : Nat), Reps K L H ds vs → Reps K L H (ds.drop n) (vs.drop n)
  | ds, vs, 0, h => h
  | [], vs, n + 1, h => by simp only [Reps] at h; subst h; rfl
  | d :: ds, vs, n + 1, h => by
    simp only [Reps] at h
    obtain ⟨y, ys, e1, q, rs⟩ := h
    subst e1
    exact Reps.drop n rs
theorem Reps.take : ∀ {ds : List Da} {vs : List V} (n : Nat), Reps K L H ds vs → Reps K L H (ds.take n) (vs.take n)
  | ds, vs, 0, h => rfl
  | [], vs, n + 1, h => by simp only [Reps] at h; subst h; rfl
  | d :: ds, vs, n + 1, h => by
    simp only [Reps] at h
    obtain ⟨y, ys, e1, q, rs⟩ := h
    subst e1
    simp only [List.take_succ_cons, Reps]
    exact ⟨y, _, rfl, q, Reps.take n rs⟩
theorem Reps.set : ∀ {ds : List Da} {vs : List V} {d : Da} {v : V} (i : Nat), Reps K L H ds vs → Rep K L H d v → Reps K L H (ds.set i d) (vs.set i v)
  | [], vs, d, v, i, h, r => by simp only [Reps] at h; subst h; simp [Reps]
  | _ :: _, vs, d, v, 0, h, r => by
    simp only [Reps] at h
    obtain ⟨y, ys, e1, q, rs⟩ := h
    subst e1
    simp only [List.set_cons_zero, Reps]
    exact ⟨v, ys, rfl, r, rs⟩
  | _ :: _, vs, d, v, i + 1, h, r => by
    simp only [Reps] at h
    obtain ⟨y, ys, e1, q, rs⟩ := h
    subst e1
    simp only [List.set_cons_succ, Reps]
    exact ⟨y, _, rfl, q, Reps.set i rs r⟩
end
end Pu
end

section
namespace Pu
open PySem PySem.Spec PyProof.Rows L2

/-! ### the state of a body: its slots, what is pending, the heap -/
/-- a body's fixed things: the heap at its entry, the pools that it was handed, the lists that it was handed -/
structure Gc where
  H0 : Hp
  P0 : Addr → Prop
  La : Addr → Prop
  xa : Option (Addr × Addr) := none
  so : Addr → List (Addr × List Int) → HO := fun _ _ => .lst []

def Lof (G : Gc) (O : Addr → Option Tg) : Addr → Prop := fun a => O a = none ∧ (G.La a ∨ G.H0 a = none)

/-- a pool of draws: the script's numbers, a place, and four numbers -/
def PoolAt (K : PySem.W.Frag) (L : Addr → Prop) (H : Hp) (p : Addr) : Prop :=
  ∃ (q : Addr) (ns : List Int) (a b c d e : Int), H p = some (.lst [.ref q, .int a, .int b, .int c, .int d, .int e]) ∧ LAt K L H q (ns.map V.int) ∧ 0 ≤ a ∧ 0 ≤ c ∧ c < 2147483647 ∧ ns.length ≤ 1000

def CeOk (K : PySem.W.Frag) (G : Gc) (O : Addr → Option Tg) (H : Hp) (t : Tg) (v : V) : Ce → Prop
  | .dat d => Rep K (Lof G O) H d v
  | .own ds => ∃ p xs, v = .ref p ∧ O p = some t ∧ H p = some (.lst xs) ∧ ds.length ≤ sizeLine ∧ Reps K (Lof G O) H ds xs ∧ ¬ G.P0 p
  | .pool => ∃ p, v = .ref p ∧ O p = some t ∧ PoolAt K (Lof G O) H p
  | .set ds => ∃ (p : Addr) (bs : List (Addr × List Int × Da)), v = .ref p ∧ O p = some t ∧ H p = some (G.so p (bs.map fun b => (b.1, b.2.1))) ∧ ¬ G.P0 p ∧ bs.length ≤ ds.length ∧ SetOf ds (bs.map (·.2.2)) ∧ ∀ b ∈ bs, Rep K (Lof G O) H b.2.2 (.ref b.1) ∧ Da.key b.2.2 = some b.2.1
  | .plv po => ∃ p xs, v = .ref p ∧ O p = some t ∧ H p = some (.lst xs) ∧ Reps K (Lof G O) H po xs ∧ PoolOk po
  | .me c fs => ∃ p dx vs, v = .ref p ∧ O p = some t ∧ H p = some (.ins c dx vs) ∧ vs.map (·.1) = fs.map (·.1) ∧ Reps K (Lof G O) H (fs.map (·.2)) (vs.map (·.2)) ∧ ¬ G.P0 p ∧ G.La p ∧ G.H0 p = none
  | .exn fld what => ∃ a d y, v = .ref a ∧ G.xa = some (a, d) ∧ H d = some (.xd [(fld, y)]) ∧ Rep K (Lof G O) H what y

abbrev Pend := List (V × Ce)
def PeOk (K : PySem.W.Frag) (G : Gc) (O : Addr → Option Tg) (H : Hp) : Pend → Prop
  | [] => True
  | (v, c) :: r => CeOk K G O H (.pend r.length) v c ∧ PeOk K G O H r

structure StO (K : PySem.W.Frag) (G : Gc) (O : Addr → Option Tg) (σ : L2.St) (ρ : En) (pe : Pend) (H : Hp) : Prop where
  frame : ∀ b x, G.H0 b = some x → ¬ G.P0 b → H b = some x ∧ O b = none
  own : ∀ p t, O p = some t → ∃ x, H p = some x ∧ Chg x
  pools : ∀ p, G.P0 p → PoolAt K (Lof G O) H p ∧ ¬ G.La p ∧ (G.H0 p).isSome
  len : ρ.length = σ.length
  slots : ∀ (i : Nat) c, ρ[i]? = some (some c) → ∃ v, σ[i]? = some (some v) ∧ CeOk K G O H (.slot i) v c
  pends : PeOk K G O H pe
def Sd (K : PySem.W.Frag) (G : Gc) (σ : L2.St) (ρ : En) (pe : Pend) (H : Hp) : Prop := ∃ O, StO K G O σ ρ pe H

section
variable {K : PySem.W.Frag} {G : Gc} {O O' : Addr → Option Tg} {σ σ' : L2.St} {ρ ρ' : En} {pe pe' : Pend} {H H' : Hp} {t : Tg} {v : V} {c : Ce}

theorem PoolAt.mono {L L' : Addr → Prop} {p : Addr} (h : PoolAt K L H p) (k : Keep L H H') (l : ∀ b x, H b = some x → L b → L' b) (hp : H' p = H p) : PoolAt K L' H' p := by
  obtain ⟨q, ns, a, b, c, d, e, h1, h2, r⟩ := h
  exact ⟨q, ns, a, b, c, d, e, hp.trans h1, h2.mono k l, r⟩
/-- a cell stays: what is for ever stays, and its own list, if it has one, stands with its tag -/
theorem CeOk.mono (h : CeOk K G O H t v c) (k : Keep (Lof G O) H H') (l : ∀ b x, H b = some x → Lof G O b → Lof G O' b)
    (o : ∀ p, O p = some t → H' p = H p ∧ O' p = some t) : CeOk K G O' H' t v c := by
  cases c with
  | dat d => exact Rep.mono k l d v h
  | own ds =>
    obtain ⟨p, xs, e, ot, hp, z, r, n⟩ := h
    obtain ⟨o1, o2⟩ := o p ot
    exact ⟨p, xs, e, o2, o1.trans hp, z, Reps.mono k l _ _ r, n⟩
  | pool =>
    obtain ⟨p, e, ot, hp⟩ := h
    obtain ⟨o1, o2⟩ := o p ot
    exact ⟨p, e, o2, hp.mono k l o1⟩
  | set ds =>
    obtain ⟨p, bs, e, ot, hp, np, z, so, r⟩ := h
    obtain ⟨o1, o2⟩ := o p ot
    exact ⟨p, bs, e, o2, o1.trans hp, np, z, so, fun b hb => ⟨Rep.mono k l _ _ (r b hb).1, (r b hb).2⟩⟩
  | plv po =>
    obtain ⟨p, xs, e, ot, hp, r, ok⟩ := h
    obtain ⟨o1, o2⟩ := o p ot
    exact ⟨p, xs, e, o2, o1.trans hp, Reps.mono k l _ _ r, ok⟩
  | me c fs =>
    obtain ⟨p, dx, vs, e, ot, hp, k1, r, n⟩ := h
    obtain ⟨o1, o2⟩ := o p ot
    exact ⟨p, dx, vs, e, o2, o1.trans hp, k1, Reps.mono k l _ _ r, n⟩
  | exn fld what =>
    obtain ⟨a, d, y, e, g, h1, r⟩ := h
    exact ⟨a, d, y, e, g, k _ _ h1 (.inr fun z => z), Rep.mono k l _ _ r⟩
theorem PeOk.mono : ∀ {pe : Pend}, PeOk K G O H pe → Keep (Lof G O) H H' → (∀ b x, H b = some x → Lof G O b → Lof G O' b) →
    (∀ j, j < pe.length → ∀ p, O p = some (.pend j) → H' p = H p ∧ O' p = some (.pend j)) → PeOk K G O' H' pe
  | [], _, _, _, _ => trivial
  | (v, c) :: r, h, k, l, o => ⟨h.1.mono k l (fun p hp => o r.length (by simp) p hp), PeOk.mono h.2 k l (fun j hj p hp => o j (by simp only [List.length_cons]; omega) p hp)⟩
/-- what is new stays apart -/
theorem StO.notO (S : StO K G O σ ρ pe H) {p : Addr} (h : H p = none) : O p = none := by
  cases q : O p with
  | none => rfl
  | some t =>
    obtain ⟨x, e, _⟩ := S.own p t q
    rw [h] at e
    cases e
theorem StO.noH0 (S : StO K G O σ ρ pe H) {p : Addr} (h : H p = none) : G.H0 p = none := by
  cases q : G.H0 p with
  | none => rfl
  | some x =>
    by_cases hp : G.P0 p
    · obtain ⟨⟨_, _, _, _, _, _, _, e, _⟩, _⟩ := S.pools p hp
      rw [h] at e
      cases e
    · have e := (S.frame p x q hp).1
      rw [h] at e
      cases e
theorem StO.fresh (S : StO K G O σ ρ pe H) {p : Addr} (h : H p = none) : Lof G O p := ⟨S.notO h, .inr (S.noH0 h)⟩
/-- the heap changed, nothing of ours: all that is for ever, and all own lists, stand -/
theorem StO.heap (S : StO K G O σ ρ pe H) (k : ∀ b x, H b = some x → H' b = some x) : StO K G O σ ρ pe H' where
  frame := fun b x e n => ⟨k _ _ (S.frame b x e n).1, (S.frame b x e n).2⟩
  own := fun p t e => by
    obtain ⟨x, h, z⟩ := S.own p t e
    exact ⟨x, k _ _ h, z⟩
  pools := fun p hp => by
    obtain ⟨h, n⟩ := S.pools p hp
    refine ⟨h.mono (fun b x e _ => k b x e) (fun _ _ _ z => z) ?_, n⟩
    obtain ⟨_, _, _, _, _, _, _, e, _⟩ := h
    rw [e]
    exact k _ _ e
  len := S.len
  slots := fun i c e => by
    obtain ⟨v, h1, h2⟩ := S.slots i c e
    refine ⟨v, h1, h2.mono (fun b x e _ => k b x e) (fun _ _ _ z => z) (fun p e => ⟨?_, e⟩)⟩
    obtain ⟨x, h, _⟩ := S.own p _ e
    rw [h]
    exact k _ _ h
  pends := S.pends.mono (fun b x e _ => k b x e) (fun _ _ _ z => z) (fun j _ p e => ⟨by
    obtain ⟨x, h, _⟩ := S.own p _ e
    rw [h]
    exact k _ _ h, e⟩)
theorem keep_upd {p : Addr} {o : HO} (h : H p = none) : ∀ b x, H b = some x → upd H p o b = some x := fun b x e => by
  rw [upd_ne (ne_of_none e h)]
  exact e
theorem StO.alloc (S : StO K G O σ ρ pe H) {p : Addr} {o : HO} (h : H p = none) : StO K G O σ ρ pe (upd H p o) := S.heap (keep_upd h)
/-- a value more is pending -/
theorem StO.push (S : StO K G O σ ρ pe H) (h : CeOk K G O H (.pend pe.length) v c) : StO K G O σ ρ ((v, c) :: pe) H :=
  ⟨S.frame, S.own, S.pools, S.len, S.slots, ⟨h, S.pends⟩⟩
theorem StO.pushD {d : Da} (S : StO K G O σ ρ pe H) (h : Rep K (Lof G O) H d v) : StO K G O σ ρ ((v, .dat d) :: pe) H := S.push h
theorem StO.top {d : Da} (S : StO K G O σ ρ ((v, .dat d) :: pe) H) : Rep K (Lof G O) H d v := S.pends.1
theorem StO.pop (S : StO K G O σ ρ ((v, c) :: pe) H) : StO K G O σ ρ pe H := ⟨S.frame, S.own, S.pools, S.len, S.slots, S.pends.2⟩
theorem Sd.pop (S : Sd K G σ ρ ((v, c) :: pe) H) : Sd K G σ ρ pe H := let ⟨O, S⟩ := S; ⟨O, S.pop⟩
/-- the tag t is given up -/
def clr (O : Addr → Option Tg) (t : Tg) : Addr → Option Tg := fun a => if O a = some t then none else O a
theorem clr_none {a : Addr} (h : O a = none) : clr O t a = none := by
  unfold clr
  rw [h]
  simp
theorem clr_ne {a : Addr} {u : Tg} (h : O a = some u) (n : u ≠ t) : clr O t a = some u := by
  unfold clr
  rw [h, if_neg]
  intro e
  exact n (Option.some.inj e)
theorem of_clr {a : Addr} {u : Tg} (h : clr O t a = some u) : O a = some u ∧ u ≠ t := by
  unfold clr at h
  by_cases e : O a = some t
  · rw [if_pos e] at h
    cases h
  · rw [if_neg e] at h
    exact ⟨h, fun q => e (q ▸ h)⟩
theorem clr_same {a : Addr} (h : O a = some t) : clr O t a = none := by
  unfold clr
  rw [if_pos h]
theorem lof_clr {a : Addr} (h : Lof G O a) : Lof G (clr O t) a := ⟨clr_none h.1, h.2⟩
/-- an own list becomes data -/
theorem StO.freeze {ds : List Da} (S : StO K G O σ ρ ((v, .own ds) :: pe) H) : StO K G (clr O (.pend pe.length)) σ ρ ((v, .dat (.lst ds)) :: pe) H := by
  obtain ⟨p, xs, e, ot, hp, z, r, n⟩ := S.pends.1
  have hk : Keep (Lof G O) H H := fun _ _ e _ => e
  have hl : ∀ b x, H b = some x → Lof G O b → Lof G (clr O (.pend pe.length)) b := fun _ _ _ h => lof_clr h
  have hP : ∀ q, O q = some (.pend pe.length) → ¬ G.P0 q → G.H0 q = none := fun q hq n => by
    cases w : G.H0 q with
    | none => rfl
    | some x =>
      have := (S.frame q x w n).2
      rw [hq] at this
      cases this
  refine ⟨fun b x e n => ⟨(S.frame b x e n).1, clr_none (S.frame b x e n).2⟩, fun q t h => S.own q t (of_clr h).1, fun q hq => ⟨(S.pools q hq).1.mono hk hl rfl, (S.pools q hq).2⟩, S.len, fun i c h => ?_, ?_, ?_⟩
  · obtain ⟨w, h1, h2⟩ := S.slots i c h
    exact ⟨w, h1, h2.mono hk hl (fun q e => ⟨rfl, clr_ne e (fun z => by cases z)⟩)⟩
  · show Rep K _ H (.lst ds) v
    simp only [Rep]
    refine ⟨p, xs, e, ⟨hp, clr_same ot, ?_⟩, z, Reps.mono hk hl _ _ r⟩
    exact .inr (hP p ot n)
  · exact S.pends.2.mono hk hl (fun j hj q e => ⟨rfl, clr_ne e (fun z => by
      cases z
      omega)⟩)

/-! ### storing -/
theorem getset {α : Type} {l : List α} {i j : Nat} {x y : α} (h : (l.set i x)[j]? = some y) : (i = j ∧ y = x ∧ i < l.length) ∨ (i ≠ j ∧ l[j]? = some y) := by
  by_cases e : i = j
  · subst e
    by_cases hi : i < l.length
    · rw [List.getElem?_set_self hi] at h
      exact .inl ⟨rfl, (Option.some.inj h).symm, hi⟩
    · rw [List.getElem?_eq_none (by simpa using hi)] at h
      cases h
  · rw [List.getElem?_set_ne e] at h
    exact .inr ⟨e, h⟩
/-- a slot is forgotten -/
theorem StO.forget (S : StO K G O σ ρ pe H) (i : Nat) (x : Option V) : StO K G (clr O (.slot i)) (σ.set i x) (ρ.set i none) pe H := by
  have hk : Keep (Lof G O) H H := fun _ _ e _ => e
  have hl : ∀ b x, H b = some x → Lof G O b → Lof G (clr O (.slot i)) b := fun _ _ _ h => lof_clr h
  refine ⟨fun b x e n => ⟨(S.frame b x e n).1, clr_none (S.frame b x e n).2⟩, fun q t h => S.own q t (of_clr h).1, fun q hq => ⟨(S.pools q hq).1.mono hk hl rfl, (S.pools q hq).2⟩, by simp [S.len], fun j c h => ?_, ?_⟩
  · rcases getset h with ⟨_, e, _⟩ | ⟨n, h⟩
    · cases e
    · obtain ⟨w, h1, h2⟩ := S.slots j c h
      exact ⟨w, by rw [List.getElem?_set_ne n]; exact h1, h2.mono hk hl (fun q e => ⟨rfl, clr_ne e (fun z => by cases z; exact n rfl)⟩)⟩
  · exact S.pends.mono hk hl (fun j hj q e => ⟨rfl, clr_ne e (fun z => by cases z)⟩)
/-- what is pending is stored -/
theorem StO.store {d : Da} (S : StO K G O σ ρ ((v, .dat d) :: pe) H) (i : Nat) : StO K G (clr O (.slot i)) (σ.set i (some v)) (ρ.set i (some (.dat d))) pe H := by
  have F := S.pop.forget i (some v)
  have hk : Keep (Lof G O) H H := fun _ _ e _ => e
  have hl : ∀ b x, H b = some x → Lof G O b → Lof G (clr O (.slot i)) b := fun _ _ _ h => lof_clr h
  refine ⟨F.frame, F.own, F.pools, by simpa using F.len, fun j c h => ?_, F.pends⟩
  rcases getset h with ⟨e1, e2, hi⟩ | ⟨n, h⟩
  · subst e1
    cases e2
    exact ⟨v, List.getElem?_set_self (by have := S.len; omega), Rep.mono hk hl _ _ S.top⟩
  · exact F.slots j c (by rw [List.getElem?_set_ne n]; exact h)
/-- the tag t becomes u -/
def ren (O : Addr → Option Tg) (t u : Tg) : Addr → Option Tg := fun a => if O a = some t then some u else clr O u a
/-- a list of our own is stored -/
theorem StO.storeOwn {ds : List Da} (S : StO K G O σ ρ ((v, .own ds) :: pe) H) (i : Nat) : StO K G (ren O (.pend pe.length) (.slot i)) (σ.set i (some v)) (ρ.set i (some (.own ds))) pe H := by
  obtain ⟨p, xs, e, ot, hp, z, r, np⟩ := S.pends.1
  have hk : Keep (Lof G O) H H := fun _ _ e _ => e
  have rn : ∀ {a}, O a = none → ren O (.pend pe.length) (.slot i) a = none := fun {a} h => by
    unfold ren
    rw [h, if_neg (by simp)]
    exact clr_none h
  have rk : ∀ {a u}, O a = some u → u ≠ .pend pe.length → u ≠ .slot i → ren O (.pend pe.length) (.slot i) a = some u := fun {a u} h n m => by
    unfold ren
    rw [h, if_neg (fun q => n (Option.some.inj q))]
    exact clr_ne h m
  have ro : ∀ {a u}, ren O (.pend pe.length) (.slot i) a = some u → ∃ t, O a = some t := fun {a u} h => by
    unfold ren at h
    by_cases q : O a = some (.pend pe.length)
    · exact ⟨_, q⟩
    · rw [if_neg q] at h
      exact ⟨_, (of_clr h).1⟩
  have hl : ∀ b x, H b = some x → Lof G O b → Lof G (ren O (.pend pe.length) (.slot i)) b := fun _ _ _ h => ⟨rn h.1, h.2⟩
  refine ⟨fun b x e n => ⟨(S.frame b x e n).1, rn (S.frame b x e n).2⟩, fun q t h => ?_, fun q hq => ⟨(S.pools q hq).1.mono hk hl rfl, (S.pools q hq).2⟩, by simp [S.len], fun j c h => ?_, ?_⟩
  · obtain ⟨t', h'⟩ := ro h
    exact S.own q t' h'
  · rcases getset h with ⟨e1, e2, hi⟩ | ⟨n, h⟩
    · subst e1
      cases e2
      exact ⟨v, List.getElem?_set_self (by have := S.len; omega), p, xs, e, by unfold ren; rw [if_pos ot], hp, z, Reps.mono hk hl _ _ r, np⟩
    · obtain ⟨w, h1, h2⟩ := S.slots j c h
      exact ⟨w, by rw [List.getElem?_set_ne n]; exact h1, h2.mono hk hl (fun q e => ⟨rfl, rk e (fun z => by cases z) (fun z => by cases z; exact n rfl)⟩)⟩
  · exact S.pends.2.mono hk hl (fun j hj q e => ⟨rfl, rk e (fun z => by cases z; omega) (fun z => by cases z)⟩)
/-- slot i's own list as data -/
theorem StO.freezeSlot {ds : List Da} {i : Nat} (S : StO K G O σ ρ pe H) (h : ρ[i]? = some (some (.own ds))) : StO K G (clr O (.slot i)) σ (ρ.set i (some (.dat (.lst ds)))) pe H := by
  obtain ⟨v, hv, p, xs, e, ot, hp, z, r, np⟩ := S.slots i _ h
  have hk : Keep (Lof G O) H H := fun _ _ e _ => e
  have hl : ∀ b x, H b = some x → Lof G O b → Lof G (clr O (.slot i)) b := fun _ _ _ h => lof_clr h
  have h0 : G.H0 p = none := by
    cases w : G.H0 p with
    | none => rfl
    | some x =>
      have := (S.frame p x w np).2
      rw [ot] at this
      cases this
  refine ⟨fun b x e n => ⟨(S.frame b x e n).1, clr_none (S.frame b x e n).2⟩, fun q t h => S.own q t (of_clr h).1, fun q hq => ⟨(S.pools q hq).1.mono hk hl rfl, (S.pools q hq).2⟩, by simp [S.len], fun j c h => ?_, ?_⟩
  · rcases getset h with ⟨e1, e2, _⟩ | ⟨n, h⟩
    · subst e1
      cases e2
      refine ⟨v, hv, ?_⟩
      show Rep K _ H (.lst ds) v
      simp only [Rep]
      exact ⟨p, xs, e, ⟨hp, clr_same ot, .inr h0⟩, z, Reps.mono hk hl _ _ r⟩
    · obtain ⟨w, h1, h2⟩ := S.slots j c h
      exact ⟨w, h1, h2.mono hk hl (fun q e => ⟨rfl, clr_ne e (fun z => by cases z; exact n rfl)⟩)⟩
  · exact S.pends.mono hk hl (fun j hj q e => ⟨rfl, clr_ne e (fun z => by cases z)⟩)
/-- slot i's own list is changed -/
theorem StO.change {ds es : List Da} {i : Nat} {p : Addr} {xs ys : List V} (S : StO K G O σ ρ pe H) (h : ρ[i]? = some (some (.own ds))) (hv : σ[i]? = some (some (.ref p))) (hp : O p = some (.slot i))
    (z : es.length ≤ sizeLine) (r : Reps K (Lof G O) H es ys) : StO K G O σ (ρ.set i (some (.own es))) pe (upd H p (.lst ys)) := by
  obtain ⟨v, hv', p', xs', e, ot, hp', z', r', np⟩ := S.slots i _ h
  rw [hv] at hv'
  cases hv'
  cases e
  have hk : Keep (Lof G O) H (upd H p (.lst ys)) := fun b x e k => by
    rw [upd_ne]
    · exact e
    · rintro rfl
      rcases k with k | k
      · have k1 := k.1
        rw [hp] at k1
        cases k1
      · rw [hp'] at e
        cases e
        exact k trivial
  have hl : ∀ b x, H b = some x → Lof G O b → Lof G O b := fun _ _ _ h => h
  refine ⟨fun b x e n => ⟨?_, (S.frame b x e n).2⟩, fun q t h => ?_, fun q hq => ⟨(S.pools q hq).1.mono hk hl ?_, (S.pools q hq).2⟩, by simp [S.len], fun j c h => ?_, ?_⟩
  · rw [upd_ne]
    · exact (S.frame b x e n).1
    · rintro rfl
      rw [(S.frame b x e n).2] at hp
      cases hp
  · by_cases e : q = p
    · subst e
      exact ⟨_, upd_same, trivial⟩
    · rw [upd_ne e]
      exact S.own q t h
  · exact upd_ne (fun e => np (e ▸ hq))
  · rcases getset h with ⟨e1, e2, _⟩ | ⟨n, h⟩
    · subst e1
      cases e2
      exact ⟨_, hv, p, ys, rfl, hp, upd_same, z, Reps.mono hk hl _ _ r, np⟩
    · obtain ⟨w, h1, h2⟩ := S.slots j c h
      exact ⟨w, h1, h2.mono hk hl (fun q e => ⟨upd_ne (fun q' => by
        rw [q', hp] at e
        cases e
        exact n rfl), e⟩)⟩
  · exact S.pends.mono hk hl (fun j hj q e => ⟨upd_ne (fun q' => by
      rw [q', hp] at e
      cases e), e⟩)
end
end Pu
end

section
namespace Pu
open PySem PySem.Spec PyProof.Rows L2

/-! ### what is wanted behind a piece of code, said of data alone -/
/-- an exception: its class's name, its one field's name and value -/
structure Ex where
  name : Str
  fld : Str
  what : Da
structure W (α : Type) where
  wp : En → (α → En → Prop) → (Ex → En → Prop) → Prop
  mono : ∀ {ρ : En} {k k' : α → En → Prop} {x x' : Ex → En → Prop}, (∀ a ρ, k a ρ → k' a ρ) → (∀ e ρ, x e ρ → x' e ρ) → wp ρ k x → wp ρ k' x'
namespace W
variable {α β γ : Type}
def ret (a : α) : W α := ⟨fun ρ k _ => k a ρ, fun hk _ h => hk _ _ h⟩
def bind (m : W α) (f : α → W β) : W β := ⟨fun ρ k x => m.wp ρ (fun a ρ1 => (f a).wp ρ1 k x) x, fun hk hx h => m.mono (fun a ρ1 q => (f a).mono hk hx q) hx h⟩
def fail : W α := ⟨fun _ _ _ => False, fun _ _ h => h⟩
def opt : Option α → W α
  | some a => ret a
  | none => fail
/-- a wish of the code's own -/
def req (p : Prop) : W Unit := ⟨fun ρ k _ => p ∧ k () ρ, fun hk _ h => ⟨h.1, hk _ _ h.2⟩⟩
/-- any value of some kind -/
def any (p : α → Prop) : W α := ⟨fun ρ k _ => ∀ a, p a → k a ρ, fun hk _ h a pa => hk _ _ (h a pa)⟩
def env : W En := ⟨fun ρ k _ => k ρ ρ, fun hk _ h => hk _ _ h⟩
def put (ρ' : En) : W Unit := ⟨fun _ k _ => k () ρ', fun hk _ h => hk _ _ h⟩
def ite (b : Bool) (m n : W α) : W α := if b then m else n
@[simp] theorem ret_wp (a : α) (ρ : En) (k : α → En → Prop) (x : Ex → En → Prop) : (ret a).wp ρ k x = k a ρ := rfl
@[simp] theorem bind_wp (m : W α) (f : α → W β) (ρ : En) (k : β → En → Prop) (x : Ex → En → Prop) : (bind m f).wp ρ k x = m.wp ρ (fun a ρ1 => (f a).wp ρ1 k x) x := rfl
@[simp] theorem fail_wp (ρ : En) (k : α → En → Prop) (x : Ex → En → Prop) : (fail : W α).wp ρ k x = False := rfl
@[simp] theorem opt_some (a : α) : opt (some a) = ret a := rfl
@[simp] theorem opt_none : opt (none : Option α) = fail := rfl
@[simp] theorem req_wp (p : Prop) (ρ : En) (k : Unit → En → Prop) (x : Ex → En → Prop) : (req p).wp ρ k x = (p ∧ k () ρ) := rfl
@[simp] theorem any_wp (p : α → Prop) (ρ : En) (k : α → En → Prop) (x : Ex → En → Prop) : (any p).wp ρ k x = ∀ a, p a → k a ρ := rfl
@[simp] theorem env_wp (ρ : En) (k : En → En → Prop) (x : Ex → En → Prop) : env.wp ρ k x = k ρ ρ := rfl
@[simp] theorem put_wp (ρ ρ' : En) (k : Unit → En → Prop) (x : Ex → En → Prop) : (put ρ').wp ρ k x = k () ρ' := rfl
theorem opt_wp {o : Option α} {ρ : En} {k : α → En → Prop} {x : Ex → En → Prop} (h : (opt o).wp ρ k x) : ∃ a, o = some a ∧ k a ρ := by
  cases o with
  | none => exact h.elim
  | some a => exact ⟨a, rfl, h⟩
end W

/-- nothing is raised -/
abbrev noEx : Ex → En → Prop := fun _ _ => False

section
variable (K : PySem.W.Frag) (G : Gc) (x : Ex → En → Prop)
/-- the readings -/
def tp (m : W Da) : TE := fun σ H Q => ∃ ρ pe, Sd K G σ ρ pe H ∧ m.wp ρ (fun d ρ' => ∀ v H', Sd K G σ ρ' ((v, .dat d) :: pe) H' → Q v H') x
def tow (m : W (List Da)) : TE := fun σ H Q => ∃ ρ pe, Sd K G σ ρ pe H ∧ m.wp ρ (fun ds ρ' => ∀ v H', Sd K G σ ρ' ((v, .own ds) :: pe) H' → Q v H') x
def ttt (m : W Bool) : TT := fun σ H Q => ∃ ρ pe, Sd K G σ ρ pe H ∧ m.wp ρ (fun b ρ' => ∀ H', Sd K G σ ρ' pe H' → Q b H') x
def pushAll : List V → List Da → Pend → Pend
  | v :: vs, d :: ds, pe => pushAll vs ds ((v, .dat d) :: pe)
  | _, _, pe => pe
def tar (m : W (List Da)) : TA := fun σ H Q => ∃ ρ pe, Sd K G σ ρ pe H ∧ m.wp ρ (fun ds ρ' => ∀ vs H', vs.length = ds.length → Sd K G σ ρ' (pushAll vs ds pe) H' → Q vs H') x
end

section
variable {X : Cx} {G : Gc} {x : Ex → En → Prop}
theorem _root_.L2.PE.of {e : Expr} {t t' : TE} (h : PE X e t) (w : ∀ σ H Q, t' σ H Q → t σ H Q) : PE X e t' := ⟨fun pins s σ H Q I q => h.run pins s σ H Q I (w σ H Q q)⟩
theorem _root_.L2.PT.of {e : Expr} {t t' : TT} (h : PT X e t) (w : ∀ σ H Q, t' σ H Q → t σ H Q) : PT X e t' := ⟨fun pins s σ H Q I q => h.run pins s σ H Q I (w σ H Q q)⟩
theorem _root_.L2.PA.of {es : List Expr} {t t' : TA} (h : PA X es t) (w : ∀ σ H Q, t' σ H Q → t σ H Q) : PA X es t' := ⟨fun pos pins s σ H Q I q => h.run pos pins s σ H Q I (w σ H Q q)⟩
theorem _root_.L2.PS.of {st : Stmt} {t t' : TS} (h : PS X st t) (w : ∀ D σ H, t' D σ H → t D σ H) : PS X st t' := ⟨fun pins s σ H D I q => h.run pins s σ H D I (w D σ H q)⟩
theorem _root_.L2.PSs.of {st : List Stmt} {t t' : TS} (h : PSs X st t) (w : ∀ D σ H, t' D σ H → t D σ H) : PSs X st t' := ⟨fun pins s σ H D I q => h.run pins s σ H D I (w D σ H q)⟩

/-! ### names and constants -/
def look (ρ : En) (i : Nat) : Option Da := match ρ[i]? with
  | some (some (.dat d)) => some d
  | _ => none
def lookOwn (ρ : En) (i : Nat) : Option (List Da) := match ρ[i]? with
  | some (some (.own ds)) => some ds
  | _ => none
theorem of_look {ρ : En} {i : Nat} {d : Da} (h : look ρ i = some d) : ρ[i]? = some (some (.dat d)) := by
  unfold look at h
  split at h
  · cases h; assumption
  · cases h
theorem of_lookOwn {ρ : En} {i : Nat} {ds : List Da} (h : lookOwn ρ i = some ds) : ρ[i]? = some (some (.own ds)) := by
  unfold lookOwn at h
  split at h
  · cases h; assumption
  · cases h
def eVar (i : Nat) : W Da := W.env.bind fun ρ => W.opt (look ρ i)
def eC (d : Da) : W Da := W.ret d
theorem p_var {e : Expr} (i : Nat) (h : PE X e (tVar i)) : PE X e (tp X.K G x (eVar i)) := h.of fun σ H Q ⟨ρ, pe, ⟨O, S⟩, q⟩ => by
  obtain ⟨d, e, q⟩ := W.opt_wp q
  obtain ⟨v, hv, r⟩ := S.slots i _ (of_look e)
  exact ⟨v, hv, q v H ⟨O, S.push r⟩⟩
theorem p_const {e : Expr} {v : V} {d : Da} (h : PE X e (tC v)) (r : ∀ K L H, Rep K L H d v) : PE X e (tp X.K G x (eC d)) := h.of fun σ H Q ⟨ρ, pe, ⟨O, S⟩, q⟩ => q v H ⟨O, S.push (r _ _ _)⟩
theorem p_int {i j pos} : PE X (.Constant (.int i) j pos) (tp X.K G x (eC (.int i))) := p_const pe_int fun _ _ _ => by simp [Rep]
theorem p_bl {b j pos} : PE X (.Constant (.bool b) j pos) (tp X.K G x (eC (.bl b))) := p_const pe_bl fun _ _ _ => by simp [Rep]
theorem p_non {j pos} : PE X (.Constant .none j pos) (tp X.K G x (eC .non)) := p_const pe_non fun _ _ _ => by simp [Rep]
theorem p_str {s j pos} : PE X (.Constant (.str s) j pos) (tp X.K G x (eC (.str s))) := p_const pe_str fun _ _ _ => by simp [Rep]

/-! ### operations by values -/
/-- a two-place operation that at most lays new objects -/
def Op2 (K : PySem.W.Frag) (r : R2) (f : Da → Da → Option Da) : Prop := ∀ (L : Addr → Prop) (H : Hp) (dx dy d : Da) (a b : V) (Q : VK), Rep K L H dx a → Rep K L H dy b → f dx dy = some d →
  (∀ v H', (∀ c u, H c = some u → H' c = some u) → Rep K (fun c => L c ∨ H c = none) H' d v → Q v H') → r a b H Q
def Op1 (K : PySem.W.Frag) (r : V → Hp → VK → Prop) (f : Da → Option Da) : Prop := ∀ (L : Addr → Prop) (H : Hp) (dx d : Da) (a : V) (Q : VK), Rep K L H dx a → f dx = some d →
  (∀ v H', (∀ c u, H c = some u → H' c = some u) → Rep K (fun c => L c ∨ H c = none) H' d v → Q v H') → r a H Q
def OpN (K : PySem.W.Frag) (r : List V → Hp → VK → Prop) (f : List Da → Option Da) : Prop := ∀ (L : Addr → Prop) (H : Hp) (ds : List Da) (d : Da) (vs : List V) (Q : VK), Reps K L H ds vs → f ds = some d →
  (∀ v H', (∀ c u, H c = some u → H' c = some u) → Rep K (fun c => L c ∨ H c = none) H' d v → Q v H') → r vs H Q
def eOp2 (f : Da → Da → Option Da) (a b : W Da) : W Da := a.bind fun d => b.bind fun e => W.opt (f d e)
def eOp1 (f : Da → Option Da) (a : W Da) : W Da := a.bind fun d => W.opt (f d)
def eOpN (f : List Da → Option Da) (a : W (List Da)) : W Da := a.bind fun d => W.opt (f d)

theorem StO.result {K : PySem.W.Frag} {O : Addr → Option Tg} {σ : L2.St} {ρ : En} {pe : Pend} {H H' : Hp} {d : Da} {v : V} (S : StO K G O σ ρ pe H) (k : ∀ c u, H c = some u → H' c = some u)
    (r : Rep K (fun c => Lof G O c ∨ H c = none) H' d v) : StO K G O σ ρ ((v, .dat d) :: pe) H' :=
  (S.heap k).push (Rep.mono (fun _ _ e _ => e) (fun b _ _ z => z.elim id fun z => S.fresh z) _ _ r)

theorem tp2 {r : R2} {f : Da → Da → Option Da} {ma mb : W Da} (h : Op2 X.K r f) {σ : L2.St} {H : Hp} {Q : VK} (q : tp X.K G x (eOp2 f ma mb) σ H Q) : tOp r (tp X.K G x ma) (tp X.K G x mb) σ H Q := by
  obtain ⟨ρ, pe, S, q⟩ := q
  refine ⟨ρ, pe, S, ma.mono (fun d ρ1 q v H1 S1 => ⟨ρ1, _, S1, mb.mono (fun e ρ2 q w H2 S2 => ?_) (fun _ _ z => z) q⟩) (fun _ _ z => z) q⟩
  obtain ⟨u, e, q⟩ := W.opt_wp q
  obtain ⟨O, S2⟩ := S2
  exact h (Lof G O) H2 _ _ _ v w Q S2.pop.top S2.top e fun v' H' k r => q v' H' ⟨O, S2.pop.pop.result k r⟩
theorem p_op {op : Operator} {r : R2} {f : Da → Da → Option Da} {a b : Expr} {pos : Pos} {ma mb : W Da} (ho : OpR X (binaryOp op) r) (h : Op2 X.K r f) (ha : PE X a (tp X.K G x ma)) (hb : PE X b (tp X.K G x mb)) :
    PE X (.BinOp a op b pos) (tp X.K G x (eOp2 f ma mb)) := (pe_op ho ha hb).of fun _ _ _ q => tp2 h q
theorem p_cmp {op : CmpOp} {r : R2} {f : Da → Da → Option Da} {a b : Expr} {pos : Pos} {ma mb : W Da} (ho : OpR X (compareOp op) r) (h : Op2 X.K r f) (ha : PE X a (tp X.K G x ma)) (hb : PE X b (tp X.K G x mb)) (hm : behindInMarks op b = false) :
    PE X (.Compare a [op] [b] pos) (tp X.K G x (eOp2 f ma mb)) := (pe_cmpR ho ha hb hm).of fun _ _ _ q => tp2 h q
theorem tp1 {r : V → Hp → VK → Prop} {f : Da → Option Da} {ma : W Da} (h : Op1 X.K r f) {σ : L2.St} {H : Hp} {Q : VK} (q : tp X.K G x (eOp1 f ma) σ H Q) : tUn r (tp X.K G x ma) σ H Q := by
  obtain ⟨ρ, pe, S, q⟩ := q
  refine ⟨ρ, pe, S, ma.mono (fun d ρ1 q v H1 S1 => ?_) (fun _ _ z => z) q⟩
  obtain ⟨u, e, q⟩ := W.opt_wp q
  obtain ⟨O, S1⟩ := S1
  exact h (Lof G O) H1 _ _ v Q S1.top e fun v' H' k r => q v' H' ⟨O, S1.pop.result k r⟩
theorem p_un {op : UnaryOp} {r : V → Hp → VK → Prop} {f : Da → Option Da} {a : Expr} {pos : Pos} {ma : W Da} (ho : UnR X (unaryOp op) r) (h : Op1 X.K r f) (ha : PE X a (tp X.K G x ma)) :
    PE X (.UnaryOp op a pos) (tp X.K G x (eOp1 f ma)) := (pe_un ho ha).of fun _ _ _ q => tp1 h q

/-! ### argument lists -/
def eNil : W (List Da) := W.ret []
def eCons (a : W Da) (r : W (List Da)) : W (List Da) := a.bind fun d => r.bind fun ds => W.ret (d :: ds)
theorem pa_nil' : PA X [] (tar X.K G x eNil) := pa_nil.of fun σ H Q ⟨ρ, pe, S, q⟩ => q [] H rfl S
theorem pa_cons' {e : Expr} {es : List Expr} {ma : W Da} {mr : W (List Da)} (ha : PE X e (tp X.K G x ma)) (hr : PA X es (tar X.K G x mr)) (hs : starEach (e :: es) X.env = (false, eval e X.env) :: starEach es X.env := by rfl) :
    PA X (e :: es) (tar X.K G x (eCons ma mr)) := (pa_cons ha hr hs).of fun σ H Q ⟨ρ, pe, S, q⟩ =>
  ⟨ρ, pe, S, ma.mono (fun d ρ1 q v H1 S1 => ⟨ρ1, _, S1, mr.mono (fun ds ρ2 q vs H2 l S2 => q (v :: vs) H2 (by simp [l]) S2) (fun _ _ z => z) q⟩) (fun _ _ z => z) q⟩
theorem pushAll_pop {K : PySem.W.Frag} {O : Addr → Option Tg} {σ : L2.St} {ρ : En} {H : Hp} : ∀ {vs : List V} {ds : List Da} {pe : Pend}, vs.length = ds.length → StO K G O σ ρ (pushAll vs ds pe) H → StO K G O σ ρ pe H ∧ Reps K (Lof G O) H ds vs
  | [], [], pe, _, S => ⟨S, by simp [Reps]⟩
  | v :: vs, d :: ds, pe, l, S => by
    obtain ⟨S1, r⟩ := pushAll_pop (vs := vs) (ds := ds) (by simpa using l) S
    refine ⟨S1.pop, ?_⟩
    simp only [Reps]
    exact ⟨v, vs, rfl, S1.top, r⟩
  | [], _ :: _, _, l, _ => by simp at l
  | _ :: _, [], _, l, _ => by simp at l
theorem tpN {r : List V → Hp → VK → Prop} {f : List Da → Option Da} {ma : W (List Da)} (h : OpN X.K r f) {σ : L2.St} {H : Hp} {Q : VK} (q : tp X.K G x (eOpN f ma) σ H Q) : tCB r (tar X.K G x ma) σ H Q := by
  obtain ⟨ρ, pe, S, q⟩ := q
  refine ⟨ρ, pe, S, ma.mono (fun ds ρ1 q vs H1 l S1 => ?_) (fun _ _ z => z) q⟩
  obtain ⟨u, e, q⟩ := W.opt_wp q
  obtain ⟨O, S1⟩ := S1
  obtain ⟨S2, rs⟩ := pushAll_pop l S1
  exact h (Lof G O) H1 _ _ vs Q rs e fun v' H' k r => q v' H' ⟨O, S2.result k r⟩
theorem p_callB {id : String} {r : List V → Hp → VK → Prop} {f : List Da → Option Da} {n : Str} {p pos : Pos} {e : Expr} {es : List Expr} {ma : W (List Da)} (hc : CallR X (.builtin id) r) (h : OpN X.K r f) (hg : Gl X n) (hm : X.mg n = none)
    (hv : bootBuiltins n = some (.builtin id)) (ha : PA X (e :: es) (tar X.K G x ma)) (hn : n ≠ "__name__" := by decide) (hdb : (n == ("__debug__" : Str)) = false := by decide)
    (he : starEach (e :: es) X.env = (false, eval e X.env) :: starEach es X.env := by rfl) (hpl : (backTo pos (starEach es X.env)).any (·.1) = false := by rfl) : PE X (.Call (.Name n p) (e :: es) [] pos) (tp X.K G x (eOpN f ma)) :=
  (pe_callB hc hg hm hv ha hn hdb he hpl).of fun _ _ _ q => tpN h q
theorem p_callTy {T : String} {r : List V → Hp → VK → Prop} {f : List Da → Option Da} {n : Str} {p pos : Pos} {e : Expr} {es : List Expr} {ma : W (List Da)} (hc : CallR X (.type T) r) (h : OpN X.K r f) (hg : Gl X n) (hm : X.mg n = none)
    (hv : bootBuiltins n = some (.type T)) (ha : PA X (e :: es) (tar X.K G x ma)) (hn : n ≠ "__name__" := by decide) (hdb : (n == ("__debug__" : Str)) = false := by decide)
    (he : starEach (e :: es) X.env = (false, eval e X.env) :: starEach es X.env := by rfl) (hpl : (backTo pos (starEach es X.env)).any (·.1) = false := by rfl) : PE X (.Call (.Name n p) (e :: es) [] pos) (tp X.K G x (eOpN f ma)) :=
  (pe_callTy hc hg hm hv ha hn hdb he hpl).of fun _ _ _ q => tpN h q

/-! ### displays -/
def eTup (a : W (List Da)) : W Da := a.bind fun ds => (W.req (ds.length ≤ 1000)).bind fun _ => W.ret (.tup ds)
def eDisp (a : W (List Da)) : W (List Da) := a.bind fun ds => (W.req (ds.length ≤ 1000)).bind fun _ => W.ret ds
def eFrz (a : W (List Da)) : W Da := a.bind fun ds => W.ret (.lst ds)
theorem le_line {n : Nat} (h : n ≤ 1000) : n ≤ sizeLine := Nat.le_of_lt (small1000 h)
theorem p_tup {es : List Expr} {k pos} {ma : W (List Da)} (ha : PA X es (tar X.K G x ma)) : PE X (.Tuple es k pos) (tp X.K G x (eTup ma)) := (pe_tup ha).of fun σ H Q ⟨ρ, pe, S, q⟩ => by
  refine ⟨ρ, pe, S, ma.mono (fun ds ρ1 q vs H1 l S1 => ?_) (fun _ _ z => z) q⟩
  obtain ⟨z, q⟩ := q
  obtain ⟨O, S1⟩ := S1
  obtain ⟨S2, rs⟩ := pushAll_pop l S1
  refine ⟨by rw [l]; exact le_line z, fun p np => q _ _ ⟨O, S2.result (keep_upd np) ?_⟩⟩
  simp only [Rep]
  exact ⟨p, vs, rfl, .of upd_same, le_line z, Reps.mono (fun b u e _ => keep_upd np b u e) (fun _ _ _ z => .inl z) _ _ rs⟩
theorem StO.pushOwn {K : PySem.W.Frag} {O : Addr → Option Tg} {σ : L2.St} {ρ : En} {pe : Pend} {H : Hp} {ds : List Da} {vs : List V} {p : Addr} (S : StO K G O σ ρ pe H) (np : H p = none) (z : ds.length ≤ sizeLine) (r : Reps K (Lof G O) H ds vs) :
    StO K G (fun a => if a = p then some (.pend pe.length) else clr O (.pend pe.length) a) σ ρ ((.ref p, .own ds) :: pe) (upd H p (.lst vs)) := by
  have S1 := S.alloc (o := .lst vs) np
  have ne : ∀ {b : Addr} {u : HO}, H b = some u → b ≠ p := fun {b u} e => ne_of_none e np
  have hk : Keep (Lof G O) H (upd H p (.lst vs)) := fun b u e _ => keep_upd np b u e
  have hl : ∀ b u, H b = some u → Lof G O b → Lof G (fun a => if a = p then some (.pend pe.length) else clr O (.pend pe.length) a) b := fun b u e h => ⟨(if_neg (ne e)).trans (clr_none h.1), h.2⟩
  have ow : ∀ {q t}, O q = some t → t ≠ .pend pe.length → upd H p (.lst vs) q = H q ∧ (if q = p then some (.pend pe.length) else clr O (.pend pe.length) q) = some t := fun {q t} e n => by
    obtain ⟨u, hu, _⟩ := S.own q t e
    exact ⟨upd_ne (ne hu), (if_neg (ne hu)).trans (clr_ne e n)⟩
  refine ⟨fun b u e n => ?_, fun q t h => ?_, fun q hq => ?_, S.len, fun i c e => ?_, ⟨p, vs, rfl, if_pos rfl, upd_same, z, Reps.mono hk hl _ _ r, fun hp => ?_⟩, ?_⟩
  · obtain ⟨h1, h2⟩ := S.frame b u e n
    exact ⟨keep_upd np b u h1, (if_neg (ne h1)).trans (clr_none h2)⟩
  · by_cases e : q = p
    · subst e
      exact ⟨_, upd_same, trivial⟩
    · rw [if_neg e] at h
      obtain ⟨u, hu, c⟩ := S.own q t (of_clr h).1
      exact ⟨u, keep_upd np q u hu, c⟩
  · obtain ⟨h, n⟩ := S.pools q hq
    have h' := h
    obtain ⟨_, _, _, _, _, _, _, e, _⟩ := h'
    exact ⟨h.mono hk hl (upd_ne (ne e)), n⟩
  · obtain ⟨w, h1, h2⟩ := S.slots i c e
    exact ⟨w, h1, h2.mono hk hl fun q e => ow e (fun z => by cases z)⟩
  · obtain ⟨h, _⟩ := S.pools p hp
    obtain ⟨_, _, _, _, _, _, _, e, _⟩ := h
    rw [np] at e
    cases e
  · exact S.pends.mono hk hl fun j hj q e => ow e (fun z => by cases z; omega)
theorem p_disp {es : List Expr} {pos} {ma : W (List Da)} (ha : PA X es (tar X.K G x ma)) : PE X (.List es pos) (tow X.K G x (eDisp ma)) := (pe_lst ha).of fun σ H Q ⟨ρ, pe, S, q⟩ => by
  refine ⟨ρ, pe, S, ma.mono (fun ds ρ1 q vs H1 l S1 => ?_) (fun _ _ z => z) q⟩
  obtain ⟨z, q⟩ := q
  obtain ⟨O, S1⟩ := S1
  obtain ⟨S2, rs⟩ := pushAll_pop l S1
  exact ⟨by rw [l]; exact le_line z, fun p np => q _ _ ⟨_, S2.pushOwn np (le_line z) rs⟩⟩
theorem p_frz {e : Expr} {ma : W (List Da)} (h : PE X e (tow X.K G x ma)) : PE X e (tp X.K G x (eFrz ma)) := h.of fun σ H Q ⟨ρ, pe, S, q⟩ =>
  ⟨ρ, pe, S, ma.mono (fun ds ρ1 q v H1 ⟨O, S1⟩ => q v H1 ⟨_, S1.freeze⟩) (fun _ _ z => z) q⟩
end
end Pu
end

section
namespace Pu
open PySem PySem.Spec PyProof.Rows L2

section
variable {X : Cx} {G : Gc} {x : Ex → En → Prop}
/-! ### tests -/
def asB : Da → Option Bool
  | .bl b => some b
  | _ => none
@[simp] theorem asB_bl (b : Bool) : asB (.bl b) = some b := rfl
theorem of_asB {d : Da} {b : Bool} (h : asB d = some b) : d = .bl b := by
  cases d <;> simp [asB] at h
  subst h
  rfl
def bV (m : W Da) : W Bool := m.bind fun d => W.opt (asB d)
theorem ttt_tB {m : W Da} {σ : L2.St} {H : Hp} {Q : Bool → Hp → Prop} (q : ttt X.K G x (bV m) σ H Q) : tp X.K G x m σ H fun v H1 => ∃ c, v = .bl c ∧ Q c H1 := by
  obtain ⟨ρ, pe, S, q⟩ := q
  refine ⟨ρ, pe, S, m.mono (fun d ρ1 q v H1 S1 => ?_) (fun _ _ z => z) q⟩
  obtain ⟨b, e, q⟩ := W.opt_wp q
  have e' := of_asB e
  subst e'
  obtain ⟨O, S1⟩ := S1
  have r := S1.top
  simp only [Rep] at r
  exact ⟨b, r, q H1 ⟨O, S1.pop⟩⟩
theorem t_val {e : Expr} {m : W Da} (h : PE X e (tp X.K G x m)) (he : ∀ whole, isTrue e X.env whole = (do let v ← whole; standAt e.pos; holding [v] (truthy v)) := by intro _; rfl) : PT X e (ttt X.K G x (bV m)) :=
  (pt_val h he).of fun _ _ _ q => ttt_tB q
theorem t_cmp {op : CmpOp} {r : R2} {f : Da → Da → Option Da} {a b : Expr} {pos : Pos} {ma mb : W Da} (ho : OpR X (compareOp op) r) (h : Op2 X.K r f) (ha : PE X a (tp X.K G x ma)) (hb : PE X b (tp X.K G x mb)) (hm : behindInMarks op b = false) :
    PT X (.Compare a [op] [b] pos) (ttt X.K G x (bV (eOp2 f ma mb))) := (pt_cmpR ho ha hb hm).of fun _ _ _ q => tp2 h (ttt_tB q)
/-- truth of any value -/
def truth : Da → Option Bool
  | .non => some false
  | .bl b => some b
  | .int i => some (i != 0)
  | .str y => if y.length ≤ sizeLine then some ((y.length : Int) != 0) else none
  | .tup ds => some (!ds.isEmpty)
  | .lst ds => some (!ds.isEmpty)
  | .obj _ _ _ => none
  | .scr ns => some (!ns.isEmpty)
theorem Reps.isEmpty {K : PySem.W.Frag} {L : Addr → Prop} {H : Hp} {ds : List Da} {vs : List V} (h : Reps K L H ds vs) : vs.isEmpty = ds.isEmpty := by
  cases ds with
  | nil => simp only [Reps] at h; subst h; rfl
  | cons d ds =>
    simp only [Reps] at h
    obtain ⟨_, _, e, _⟩ := h
    subst e
    rfl
theorem truth_ok {K : PySem.W.Frag} {L : Addr → Prop} {H : Hp} {d : Da} {v : V} {b : Bool} (r : Rep K L H d v) (h : truth d = some b) : TruV K v H b := by
  cases d with
  | non => simp only [Rep] at r; subst r; simpa [truth, TruV] using h.symm
  | bl c => simp only [Rep] at r; subst r; simpa [truth, TruV] using h.symm
  | int i => simp only [Rep] at r; subst r; simpa [truth, TruV] using h.symm
  | str y =>
    simp only [Rep] at r
    subst r
    simp only [truth] at h
    split at h
    · cases h
      exact ⟨by assumption, rfl⟩
    · cases h
  | tup ds =>
    simp only [Rep] at r
    obtain ⟨a, xs, e, q, _, rs⟩ := r
    subst e
    cases h
    exact .inr (.inl ⟨xs, q, by rw [rs.isEmpty]⟩)
  | lst ds =>
    simp only [Rep] at r
    obtain ⟨a, xs, e, q, _, rs⟩ := r
    subst e
    cases h
    exact .inl ⟨xs, q.sq, by rw [rs.isEmpty]⟩
  | obj c ns ds => cases h
  | scr ns =>
    simp only [Rep] at r
    obtain ⟨a, e, q⟩ := r
    subst e
    cases h
    exact .inl ⟨_, q.1.1, by cases ns <;> rfl⟩
def bT (m : W Da) : W Bool := m.bind fun d => W.opt (truth d)
theorem t_truth {e : Expr} {m : W Da} (h : PE X e (tp X.K G x m)) (he : ∀ whole, isTrue e X.env whole = (do let v ← whole; standAt e.pos; holding [v] (truthy v)) := by intro _; rfl) : PT X e (ttt X.K G x (bT m)) :=
  (pt_truth h he).of fun σ H Q ⟨ρ, pe, S, q⟩ => by
    refine ⟨ρ, pe, S, m.mono (fun d ρ1 q v H1 S1 => ?_) (fun _ _ z => z) q⟩
    obtain ⟨b, e, q⟩ := W.opt_wp q
    obtain ⟨O, S1⟩ := S1
    exact ⟨b, truth_ok S1.top e, q H1 ⟨O, S1.pop⟩⟩
def bAnd (a b : W Bool) : W Bool := a.bind fun c => if c = true then b else W.ret false
def bOr (a b : W Bool) : W Bool := a.bind fun c => if c = true then W.ret true else b
def bNot (a : W Bool) : W Bool := a.bind fun c => W.ret (!c)
section
variable {a b : Expr} {rest : List Expr} {pos : Pos} {ma mb : W Bool} {t : TT}
theorem t_and1 (ha : PT X a (ttt X.K G x ma)) : PW X (.BoolOp .And [a] pos) (ttt X.K G x ma) := pw_and1 ha
theorem t_or1 (ha : PT X a (ttt X.K G x ma)) : PW X (.BoolOp .Or [a] pos) (ttt X.K G x ma) := pw_or1 ha
theorem _root_.L2.PW.of {e : Expr} {t t' : TT} (h : PW X e t) (w : ∀ σ H Q, t' σ H Q → t σ H Q) : PW X e t' := ⟨fun wh pins s σ H Q I q => h.run wh pins s σ H Q I (w σ H Q q)⟩
theorem t_and (ha : PT X a (ttt X.K G x ma)) (hb : PW X (.BoolOp .And (b :: rest) pos) (ttt X.K G x mb)) : PW X (.BoolOp .And (a :: b :: rest) pos) (ttt X.K G x (bAnd ma mb)) :=
  (pw_and ha hb).of fun σ H Q ⟨ρ, pe, S, q⟩ => ⟨ρ, pe, S, ma.mono (fun c ρ1 q H1 S1 => by
    cases c with
    | true => exact iteT ⟨ρ1, pe, S1, q⟩
    | false => exact iteF (q H1 S1)) (fun _ _ z => z) q⟩
theorem t_or (ha : PT X a (ttt X.K G x ma)) (hb : PW X (.BoolOp .Or (b :: rest) pos) (ttt X.K G x mb)) : PW X (.BoolOp .Or (a :: b :: rest) pos) (ttt X.K G x (bOr ma mb)) :=
  (pw_or ha hb).of fun σ H Q ⟨ρ, pe, S, q⟩ => ⟨ρ, pe, S, ma.mono (fun c ρ1 q H1 S1 => by
    cases c with
    | true => exact iteT (q H1 S1)
    | false => exact iteF ⟨ρ1, pe, S1, q⟩) (fun _ _ z => z) q⟩
theorem t_not (ha : PT X a (ttt X.K G x ma)) : PT X (.UnaryOp .Not a pos) (ttt X.K G x (bNot ma)) :=
  (pt_not ha).of fun σ H Q ⟨ρ, pe, S, q⟩ => ⟨ρ, pe, S, ma.mono (fun c ρ1 q H1 S1 => q H1 S1) (fun _ _ z => z) q⟩
end
/-! and, or, not of bools as values -/
def eAnd (a b : W Da) : W Da := (bV a).bind fun c => if c = true then b else W.ret (.bl false)
def eOr (a b : W Da) : W Da := (bV a).bind fun c => if c = true then W.ret (.bl true) else b
def eNot (a : W Da) : W Da := (bV a).bind fun c => W.ret (.bl (!c))
def eIf (c : W Bool) (a b : W Da) : W Da := c.bind fun k => if k = true then a else b
section
variable {a b c : Expr} {rest : List Expr} {pos : Pos} {ma mb : W Da}
theorem rep_bl {K : PySem.W.Frag} {L : Addr → Prop} {H : Hp} (b : Bool) : Rep K L H (.bl b) (.bl b) := by simp [Rep]
theorem asB_run {m : W Da} {ρ : En} {pe : Pend} {σ : L2.St} {R : V → Hp → Prop} {k : Bool → En → Prop} (q : (bV m).wp ρ k x) (h : ∀ c ρ1 H1, k c ρ1 → Sd X.K G σ ρ1 pe H1 → R (.bl c) H1) :
    m.wp ρ (fun d ρ' => ∀ v H', Sd X.K G σ ρ' ((v, .dat d) :: pe) H' → R v H') x := m.mono (fun d ρ1 q v H1 S1 => by
  obtain ⟨b, e, q⟩ := W.opt_wp q
  have e' := of_asB e
  subst e'
  obtain ⟨O, S1⟩ := S1
  have r := S1.top
  simp only [Rep] at r
  subst r
  exact h b ρ1 H1 q ⟨O, S1.pop⟩) (fun _ _ z => z) q
theorem p_one {op} {e : Expr} {m : W Da} (h : PE X e (tp X.K G x m)) : PE X (.BoolOp op [e] pos) (tp X.K G x m) := pe_one h
theorem p_and (ha : PE X a (tp X.K G x ma)) (hb : PE X (.BoolOp .And (b :: rest) pos) (tp X.K G x mb)) : PE X (.BoolOp .And (a :: b :: rest) pos) (tp X.K G x (eAnd ma mb)) :=
  (pe_and ha hb).of fun σ H Q ⟨ρ, pe, S, q⟩ => ⟨ρ, pe, S, asB_run q fun c ρ1 H1 q S1 => ⟨c, rfl, by
    cases c with
    | true => exact iteT ⟨ρ1, pe, S1, q⟩
    | false => exact iteF (let ⟨O, S1⟩ := S1; q _ H1 ⟨O, S1.pushD (rep_bl _)⟩)⟩⟩
theorem p_or (ha : PE X a (tp X.K G x ma)) (hb : PE X (.BoolOp .Or (b :: rest) pos) (tp X.K G x mb)) : PE X (.BoolOp .Or (a :: b :: rest) pos) (tp X.K G x (eOr ma mb)) :=
  (pe_or ha hb).of fun σ H Q ⟨ρ, pe, S, q⟩ => ⟨ρ, pe, S, asB_run q fun c ρ1 H1 q S1 => ⟨c, rfl, by
    cases c with
    | true => exact iteT (let ⟨O, S1⟩ := S1; q _ H1 ⟨O, S1.pushD (rep_bl _)⟩)
    | false => exact iteF ⟨ρ1, pe, S1, q⟩⟩⟩
theorem p_not (ha : PE X a (tp X.K G x ma)) : PE X (.UnaryOp .Not a pos) (tp X.K G x (eNot ma)) :=
  (pe_not ha).of fun σ H Q ⟨ρ, pe, S, q⟩ => ⟨ρ, pe, S, asB_run q fun c ρ1 H1 q ⟨O, S1⟩ => ⟨c, rfl, q _ H1 ⟨O, S1.pushD (rep_bl _)⟩⟩⟩
theorem p_if {mc : W Bool} (hc : PT X c (ttt X.K G x mc)) (ha : PE X a (tp X.K G x ma)) (hb : PE X b (tp X.K G x mb)) : PE X (.IfExp c a b pos) (tp X.K G x (eIf mc ma mb)) :=
  (pe_ifExp hc ha hb).of fun σ H Q ⟨ρ, pe, S, q⟩ => ⟨ρ, pe, S, mc.mono (fun c ρ1 q H1 S1 => by
    cases c with
    | true => exact iteT ⟨ρ1, pe, S1, q⟩
    | false => exact iteF ⟨ρ1, pe, S1, q⟩) (fun _ _ z => z) q⟩
/-- a op b op' c -/
def eChain (f f' : Da → Da → Option Da) (a b c : W Da) : W Da := a.bind fun d => b.bind fun e => (W.opt (f d e)).bind fun r => (W.opt (asB r)).bind fun k => if k = true then c.bind fun g => W.opt (f' e g) else W.ret (.bl false)
theorem tpChain {r r' : R2} {f f' : Da → Da → Option Da} {mc : W Da} (h : Op2 X.K r f) (h' : Op2 X.K r' f') {σ : L2.St} {H : Hp} {Q : VK} (q : tp X.K G x (eChain f f' ma mb mc) σ H Q) :
    tChain r r' (tp X.K G x ma) (tp X.K G x mb) (tp X.K G x mc) σ H Q := by
  obtain ⟨ρ, pe, S, q⟩ := q
  refine ⟨ρ, pe, S, ma.mono (fun d ρ1 q v H1 S1 => ⟨ρ1, _, S1, mb.mono (fun e ρ2 q w H2 S2 => ?_) (fun _ _ z => z) q⟩) (fun _ _ z => z) q⟩
  obtain ⟨u, eu, q⟩ := W.opt_wp q
  obtain ⟨k, ek, q⟩ := W.opt_wp q
  have ek' := of_asB ek
  subst ek'
  obtain ⟨O, S2⟩ := S2
  refine h (Lof G O) H2 _ _ _ v w _ S2.pop.top S2.top eu fun v' H' kk rr => ?_
  simp only [Rep] at rr
  subst rr
  have S3 := S2.heap kk
  refine ⟨k, rfl, ?_⟩
  cases k with
  | true =>
    refine iteT ⟨ρ2, _, ⟨O, S3⟩, mc.mono (fun g ρ3 q u' H4 S4 => ?_) (fun _ _ z => z) q⟩
    obtain ⟨y, ey, q⟩ := W.opt_wp q
    obtain ⟨O4, S4⟩ := S4
    exact h' (Lof G O4) H4 _ _ _ w u' Q S4.pop.top S4.top ey fun v5 H5 k5 r5 => q v5 H5 ⟨O4, S4.pop.pop.pop.result k5 r5⟩
  | false => exact iteF (q _ H' ⟨O, S3.pop.pop.pushD (rep_bl _)⟩)
theorem p_chain {op op' : CmpOp} {r r' : R2} {f f' : Da → Da → Option Da} {mc : W Da} (ho : OpR X (compareOp op) r) (h : Op2 X.K r f) (ho' : OpR X (compareOp op') r') (h' : Op2 X.K r' f') (ha : PE X a (tp X.K G x ma)) (hb : PE X b (tp X.K G x mb)) (hc : PE X c (tp X.K G x mc))
    (hm : lastMarks [op, op'] [b, c] = false := by with_unfolding_all rfl) : PE X (.Compare a [op, op'] [b, c] pos) (tp X.K G x (eChain f f' ma mb mc)) := (pe_chain ho ho' ha hb hc hm).of fun _ _ _ q => tpChain h h' q
theorem t_chain {op op' : CmpOp} {r r' : R2} {f f' : Da → Da → Option Da} {mc : W Da} (ho : OpR X (compareOp op) r) (h : Op2 X.K r f) (ho' : OpR X (compareOp op') r') (h' : Op2 X.K r' f') (ha : PE X a (tp X.K G x ma)) (hb : PE X b (tp X.K G x mb)) (hc : PE X c (tp X.K G x mc))
    (hm : lastMarks [op, op'] [b, c] = false := by with_unfolding_all rfl) : PT X (.Compare a [op, op'] [b, c] pos) (ttt X.K G x (bV (eChain f f' ma mb mc))) := (pt_chain ho ho' ha hb hc hm).of fun _ _ _ q => tpChain h h' (ttt_tB q)
end

/-! ### targets -/
inductive Tt where
  | name (i : Nat)
  | tup (ts : List Tt)
mutual
def Tt.bind : Tt → Da → En → Option En
  | .name i, d, ρ => some (ρ.set i (some (.dat d)))
  | .tup ts, .tup ds, ρ => Tt.binds ts ds ρ
  | .tup ts, .lst ds, ρ => Tt.binds ts ds ρ
  | .tup _, _, _ => none
def Tt.binds : List Tt → List Da → En → Option En
  | [], [], ρ => some ρ
  | t :: ts, d :: ds, ρ => (Tt.bind t d ρ).bind fun ρ' => Tt.binds ts ds ρ'
  | _, _, _ => none
end
mutual
def Tt.slots : Tt → List Nat
  | .name i => [i]
  | .tup ts => Tt.slotss ts
def Tt.slotss : List Tt → List Nat
  | [] => []
  | t :: ts => Tt.slots t ++ Tt.slotss ts
end
def pushR : List V → List Da → Pend → Pend
  | v :: vs, d :: ds, pe => (v, .dat d) :: pushR vs ds pe
  | _, _, pe => pe
/-- the slots but these are as they were -/
def But (l : List Nat) (σ σ' : L2.St) : Prop := σ'.length = σ.length ∧ ∀ i, i ∉ l → σ'[i]? = σ[i]?
theorem But.refl {l : List Nat} {σ : L2.St} : But l σ σ := ⟨rfl, fun _ _ => rfl⟩
theorem But.trans {l l' : List Nat} {σ σ' σ'' : L2.St} (h : But l σ σ') (h' : But l' σ' σ'') : But (l ++ l') σ σ'' :=
  ⟨h'.1.trans h.1, fun i n => (h'.2 i fun z => n (List.mem_append_right _ z)).trans (h.2 i fun z => n (List.mem_append_left _ z))⟩
theorem But.set {σ : L2.St} (i : Nat) (v : Option V) : But [i] σ (σ.set i v) := ⟨by simp, fun j n => List.getElem?_set_ne (fun e => n (by simp [e]))⟩
section
variable (K : PySem.W.Frag) (G : Gc)
def tgg (t : Tt) : TG := fun v σ H Q => ∃ ρ pe d ρ', Sd K G σ ρ ((v, .dat d) :: pe) H ∧ t.bind d ρ = some ρ' ∧ ∀ σ' H', But t.slots σ σ' → Sd K G σ' ρ' pe H' → Q σ' H'
def tggs (ts : List Tt) : TGs := fun vs σ H Q => ∃ ρ pe ds ρ', vs.length = ds.length ∧ Sd K G σ ρ (pushR vs ds pe) H ∧ Tt.binds ts ds ρ = some ρ' ∧ ∀ σ' H', But (Tt.slotss ts) σ σ' → Sd K G σ' ρ' pe H' → Q σ' H'
end
theorem _root_.L2.PG.of {e : Expr} {t t' : TG} (h : PG X e t) (w : ∀ v σ H Q, t' v σ H Q → t v σ H Q) : PG X e t' := ⟨fun pins s σ H v u Q I r q => h.run pins s σ H v u Q I r (w v σ H Q q)⟩
theorem _root_.L2.PGs.of {e : List Expr} {t t' : TGs} (h : PGs X e t) (w : ∀ v σ H Q, t' v σ H Q → t v σ H Q) : PGs X e t' := ⟨fun pins s σ H v u Q I r q => h.run pins s σ H v u Q I r (w v σ H Q q)⟩
theorem g_name {e : Expr} (i : Nat) (h : PG X e (gName i)) : PG X e (tgg X.K G (.name i)) := h.of fun v σ H Q ⟨ρ, pe, d, ρ', ⟨O, S⟩, e, q⟩ => by
  simp only [Tt.bind, Option.some.injEq] at e
  subst e
  exact q _ H (But.set i _) ⟨_, S.store i⟩
theorem gs_nil : PGs X [] (tggs X.K G []) := pgs_nil.of fun vs σ H Q ⟨ρ, pe, ds, ρ', l, S, e, q⟩ => by
  cases ds with
  | cons d ds => simp [Tt.binds] at e
  | nil =>
    simp only [Tt.binds, Option.some.injEq] at e
    subst e
    cases vs with
    | nil => exact ⟨rfl, q σ H But.refl S⟩
    | cons _ _ => simp at l
theorem gs_cons {e : Expr} {es : List Expr} {t : Tt} {ts : List Tt} (h1 : PG X e (tgg X.K G t)) (h2 : PGs X es (tggs X.K G ts))
    (hs : (assignEach (e :: es) X.env).map (·.2) = assign e X.env :: (assignEach es X.env).map (·.2) := by rfl) : PGs X (e :: es) (tggs X.K G (t :: ts)) :=
  (pgs_cons h1 h2 hs).of fun vs σ H Q ⟨ρ, pe, ds, ρ', l, S, e, q⟩ => by
    cases ds with
    | nil => simp [Tt.binds] at e
    | cons d ds =>
      cases vs with
      | nil => simp at l
      | cons v vs =>
        simp only [Tt.binds] at e
        cases e1 : t.bind d ρ with
        | none => rw [e1] at e; cases e
        | some ρ1 =>
          rw [e1] at e
          exact ⟨v, vs, rfl, ρ, _, d, ρ1, S, e1, fun σ1 H1 b1 S1 => ⟨ρ1, pe, ds, ρ', by simpa using l, S1, e, fun σ2 H2 b2 S2 => q σ2 H2 (b1.trans b2) S2⟩⟩
theorem pushR_push {K : PySem.W.Frag} {O : Addr → Option Tg} {σ : L2.St} {ρ : En} {H : Hp} : ∀ {vs : List V} {ds : List Da} {pe : Pend}, StO K G O σ ρ pe H → Reps K (Lof G O) H ds vs → StO K G O σ ρ (pushR vs ds pe) H
  | [], [], pe, S, _ => S
  | [], d :: ds, pe, S, r => S
  | v :: vs, [], pe, S, r => S
  | v :: vs, d :: ds, pe, S, r => by
    simp only [Reps] at r
    obtain ⟨x, ys, e, r1, r2⟩ := r
    cases e
    exact (pushR_push S r2).push r1
theorem _root_.L2.PG.or {e : Expr} {t t' : TG} (h : PG X e t) (h' : PG X e t') : PG X e (fun v σ H Q => t v σ H Q ∨ t' v σ H Q) := ⟨fun pins s σ H v u Q I r q => q.elim (fun q => h.run pins s σ H v u Q I r q) (fun q => h'.run pins s σ H v u Q I r q)⟩
theorem binds_len : ∀ {ts : List Tt} {ds : List Da} {ρ ρ' : En}, Tt.binds ts ds ρ = some ρ' → ds.length = ts.length := by
  intro ts
  induction ts with
  | nil =>
    intro ds ρ ρ' h
    cases ds with
    | nil => rfl
    | cons _ _ => simp [Tt.binds] at h
  | cons t ts ih =>
    intro ds ρ ρ' h
    cases ds with
    | nil => simp [Tt.binds] at h
    | cons d ds =>
      simp only [Tt.binds] at h
      cases e1 : t.bind d ρ with
      | none => rw [e1] at h; cases h
      | some ρ1 =>
        rw [e1] at h
        simp [ih h]
theorem g_tup {es : List Expr} {k : Nat} {ts : List Tt} (hc : X.calm = true) (h : PGs X es (tggs X.K G ts)) (hl : (assignEach es X.env).length = ts.length := by rfl) (hst : (assignEach es X.env).findIdx? (·.1) = none := by rfl) :
    PG X (.Tuple es k pos) (tgg X.K G (.tup ts)) := ((pg_tup hc h hl hst).or (pg_lst hc h hl hst)).of fun v σ H Q ⟨ρ, pe, d, ρ', ⟨O, S⟩, e, q⟩ => by
  cases d with
  | tup ds =>
    have r := S.top
    simp only [Rep] at r
    obtain ⟨a, xs, ev, hq, _, rs⟩ := r
    simp only [Tt.bind] at e
    exact .inl ⟨a, xs, ev, hq, by rw [rs.length, binds_len e], ρ, pe, ds, ρ', rs.length, ⟨O, pushR_push S.pop rs⟩, e, fun σ' H' b S' => q σ' H' (by simpa [Tt.slots] using b) S'⟩
  | lst ds =>
    have r := S.top
    simp only [Rep] at r
    obtain ⟨a, xs, ev, hq, _, rs⟩ := r
    simp only [Tt.bind] at e
    exact .inr ⟨a, xs, ev, hq.sq, by rw [rs.length, binds_len e], ρ, pe, ds, ρ', rs.length, ⟨O, pushR_push S.pop rs⟩, e, fun σ' H' b S' => q σ' H' (by simpa [Tt.slots] using b) S'⟩
  | _ => simp [Tt.bind] at e
end
end Pu
end

section
namespace Pu
open PySem PySem.Spec PyProof.Rows L2

/-! ### pending data, many at once -/
def dats (l : List (V × Da)) : Pend := l.map fun p => (p.1, .dat p.2)
section
variable {K : PySem.W.Frag} {G : Gc} {O : Addr → Option Tg} {σ σ' : L2.St} {ρ ρ' : En} {pe : Pend} {H H' : Hp} {v : V} {d : Da}
theorem StO.popD : ∀ {l : List (V × Da)}, StO K G O σ ρ (dats l ++ pe) H → StO K G O σ ρ pe H ∧ ∀ p ∈ l, Rep K (Lof G O) H p.2 p.1
  | [], S => ⟨S, fun _ h => nomatch h⟩
  | (w, e) :: l, S => by
    have S' : StO K G O σ ρ ((w, .dat e) :: (dats l ++ pe)) H := S
    obtain ⟨h1, h2⟩ := StO.popD (l := l) S'.pop
    exact ⟨h1, fun p hp => (List.mem_cons.mp hp).elim (fun z => z ▸ S'.top) (h2 p)⟩
theorem StO.pushDs : ∀ {l : List (V × Da)}, StO K G O σ ρ pe H → (∀ p ∈ l, Rep K (Lof G O) H p.2 p.1) → StO K G O σ ρ (dats l ++ pe) H
  | [], S, _ => S
  | (w, e) :: l, S, h => (StO.pushDs (l := l) S fun p hp => h p (List.mem_cons_of_mem _ hp)).pushD (h _ List.mem_cons_self)
/-- the own list on top changes -/
theorem StO.changeTop {ds es : List Da} {p : Addr} {ys : List V} (S : StO K G O σ ρ ((.ref p, .own ds) :: pe) H) (z : es.length ≤ sizeLine) (r : Reps K (Lof G O) H es ys) :
    StO K G O σ ρ ((.ref p, .own es) :: pe) (upd H p (.lst ys)) ∧ Keep (Lof G O) H (upd H p (.lst ys)) := by
  obtain ⟨p', xs', e, ot, hp', z', r', np⟩ := S.pends.1
  cases e
  have hk : Keep (Lof G O) H (upd H p (.lst ys)) := fun b x e k => by
    rw [upd_ne]
    · exact e
    · rintro rfl
      rcases k with k | k
      · have k1 := k.1
        rw [ot] at k1
        cases k1
      · rw [hp'] at e
        cases e
        exact k trivial
  have hl : ∀ b x, H b = some x → Lof G O b → Lof G O b := fun _ _ _ h => h
  refine ⟨⟨fun b x e n => ⟨?_, (S.frame b x e n).2⟩, fun q t h => ?_, fun q hq => ⟨(S.pools q hq).1.mono hk hl (upd_ne fun e => np (e ▸ hq)), (S.pools q hq).2⟩, S.len, fun j c h => ?_, ⟨p, ys, rfl, ot, upd_same, z, Reps.mono hk hl _ _ r, np⟩, ?_⟩, hk⟩
  · rw [upd_ne]
    · exact (S.frame b x e n).1
    · rintro rfl
      have f := (S.frame b x e n).2
      rw [ot] at f
      cases f
  · by_cases e : q = p
    · subst e
      exact ⟨_, upd_same, trivial⟩
    · rw [upd_ne e]
      exact S.own q t h
  · obtain ⟨w, h1, h2⟩ := S.slots j c h
    exact ⟨w, h1, h2.mono hk hl (fun q e => ⟨upd_ne (fun q' => by
      rw [q', ot] at e
      cases e), e⟩)⟩
  · exact S.pends.2.mono hk hl (fun j hj q e => ⟨upd_ne (fun q' => by
      rw [q', ot] at e
      cases e
      omega), e⟩)
/-- other slots of which nothing is known -/
theorem StO.slots' (S : StO K G O σ ρ pe H) (l : σ'.length = σ.length) (h : ∀ (i : Nat) c, ρ[i]? = some (some c) → σ'[i]? = σ[i]?) : StO K G O σ' ρ pe H :=
  ⟨S.frame, S.own, S.pools, S.len.trans l.symm, fun i c e => by rw [h i c e]; exact S.slots i c e, S.pends⟩
end

/-! ### what a loop goes over -/
def ItOk (K : PySem.W.Frag) (J : It) (src : List (V × Da)) (ds : List Da) : Prop := ∀ (L : Addr → Prop) (H : Hp), (∀ p ∈ src, Rep K L H p.2 p.1) → ∀ i : Nat,
  (∀ d, ds[i]? = some d → J.go i H ∧ ∀ x H', J.yld i H x H' → (∀ b u, H b = some u → H' b = some u) ∧ Rep K (fun c => L c ∨ H c = none) H' d x) ∧ (ds.length ≤ i → J.stop i H)
def tit (K : PySem.W.Frag) (G : Gc) (x : Ex → En → Prop) (m : W (List Da)) : TI := fun σ H R => ∃ ρ pe, Sd K G σ ρ pe H ∧
  m.wp ρ (fun ds ρ' => ∀ J src H', ItOk K J src ds → ds.length ≤ sizeLine → Sd K G σ ρ' (dats src ++ pe) H' → R J H') x

theorem _root_.L2.PI.of {X : Cx} {tg e : Expr} {t t' : TI} (h : PI X tg e t) (w : ∀ σ H R, t' σ H R → t σ H R) : PI X tg e t' := ⟨fun pins s σ H R I q => h.run pins s σ H R I (w σ H R q)⟩
section
variable {X : Cx} {G : Gc} {x : Ex → En → Prop} {tg e : Expr}
/-- signs of a text -/
def signs (z : Str) : List Da := z.cps.toList.map fun c => .str ⟨#[c]⟩
def itemsOf : Da → Option (List Da)
  | .tup ds => some ds
  | .lst ds => some ds
  | .str z => if z.length ≤ sizeLine then some (signs z) else none
  | _ => none
def iSeq (m : W Da) : W (List Da) := m.bind fun d => W.opt (itemsOf d)
theorem itOk_list {K : PySem.W.Frag} {a : Addr} {ds : List Da} : ItOk K (Itl K a) [(.ref a, .lst ds)] ds := fun L H hs i => by
  have r := hs _ List.mem_cons_self
  simp only [Rep] at r
  obtain ⟨a', xs, e, q, _, rs⟩ := r
  cases e
  refine ⟨fun d e => ?_, fun h => ⟨xs, q.sq, by rw [rs.length]; exact h⟩⟩
  obtain ⟨y, hy, ry⟩ := rs.getD e
  refine ⟨⟨xs, y, q.sq, hy⟩, fun w H' z => ?_⟩
  obtain ⟨rfl, z⟩ := z
  have e2 := z xs q.sq
  rw [hy] at e2
  cases e2
  exact ⟨fun _ _ h => h, Rep.mono (fun _ _ e _ => e) (fun _ _ _ z => .inl z) _ _ ry⟩
theorem itOk_tup {K : PySem.W.Frag} {a : Addr} {ds : List Da} : ItOk K (Itt K a) [(.ref a, .tup ds)] ds := fun L H hs i => by
  have r := hs _ List.mem_cons_self
  simp only [Rep] at r
  obtain ⟨a', xs, e, q, _, rs⟩ := r
  cases e
  refine ⟨fun d e => ?_, fun h => ⟨xs, q, by rw [rs.length]; exact h⟩⟩
  obtain ⟨y, hy, ry⟩ := rs.getD e
  refine ⟨⟨xs, y, q, hy⟩, fun w H' z => ?_⟩
  obtain ⟨rfl, z⟩ := z
  have e2 := z xs q
  rw [hy] at e2
  cases e2
  exact ⟨fun _ _ h => h, Rep.mono (fun _ _ e _ => e) (fun _ _ _ z => .inl z) _ _ ry⟩
theorem itOk_str {K : PySem.W.Frag} {z : Str} {src : List (V × Da)} : ItOk K (Its z) src (signs z) := fun L H hs i => by
  refine ⟨fun d e => ?_, fun h => by show z.cps.size ≤ i; simpa [signs] using h⟩
  simp only [signs, List.getElem?_map, Array.getElem?_toList, Option.map_eq_some_iff] at e
  obtain ⟨c, hc, e⟩ := e
  subst e
  refine ⟨(Array.getElem?_eq_some_iff.mp hc).1, fun w H' y => ?_⟩
  obtain ⟨rfl, c', hc', rfl⟩ := y
  rw [hc] at hc'
  cases hc'
  exact ⟨fun _ _ h => h, by simp [Rep]⟩
theorem itOk_range {K : PySem.W.Frag} {lo : Int} {n : Nat} {src : List (V × Da)} : ItOk K (Itr lo n) src ((List.range n).map fun i : Nat => Da.int (lo + (i : Int))) := fun L H hs i => by
  refine ⟨fun d e => ?_, fun h => by show n ≤ i; simpa using h⟩
  simp only [List.getElem?_map, Option.map_eq_some_iff] at e
  obtain ⟨j, hj, e⟩ := e
  subst e
  obtain ⟨hi, rfl⟩ := List.getElem?_eq_some_iff.mp hj
  simp only [List.length_range] at hi
  refine ⟨hi, fun w H' y => ?_⟩
  obtain ⟨rfl, rfl⟩ := y
  exact ⟨fun _ _ h => h, by simp [Rep]⟩

/-! a list, a tuple or a text is walked -/
section
variable {pins : List (Addr × Obj)} {σ : L2.St} {H : Hp} {s : Shared} {a : Addr} {xs : List V} {R : It → Hp → Prop}
theorem goes_list (I : Inv X pins σ H s) (hq : SqL X.K H a xs) (q : R (Itl X.K a) H) : wpAny (model X.prog X.w) X.A (pyIter (.ref a)) (PIE X pins σ tg R) X.xe s := by
  obtain ⟨its, _, p, _⟩ := I.list hq
  have n := I.hok.fresh (Nat.le_refl s.heap.objs.size)
  exact wpAny_pyIter_list p.isList ⟨_, [s.heap.objs.size], _, _, H, rfl, I.kept (t' := s.toks) (fun _ _ z => Heap.get?_push_of_some _ z), turn_list a s.heap.objs.size, ⟨_, Heap.get?_push_size _ rfl, rfl, rfl⟩,
    (fun b hb => by rw [List.mem_singleton.mp hb]; exact I.fpOk (Nat.le_refl _) n), q⟩
theorem goes_tup (I : Inv X pins σ H s) (hq : SqT X.K H a xs) (q : R (Itt X.K a) H) : wpAny (model X.prog X.w) X.A (pyIter (.ref a)) (PIE X pins σ tg R) X.xe s := by
  obtain ⟨its, _, p, _⟩ := I.tuple hq
  have n := I.hok.fresh (Nat.le_refl s.heap.objs.size)
  exact wpAny_pyIter_tuple (show s.heap.IsTuple a its.toArray from p) ⟨_, [s.heap.objs.size], _, _, H, rfl, I.kept (t' := s.toks) (fun _ _ z => Heap.get?_push_of_some _ z), turn_tuple a s.heap.objs.size, ⟨_, Heap.get?_push_size _ rfl, rfl, rfl⟩,
    (fun b hb => by rw [List.mem_singleton.mp hb]; exact I.fpOk (Nat.le_refl _) n), q⟩
theorem goes_str {z : Str} {t : Tok} (I : Inv X pins σ H s) (q : R (Its z) H) : wpAny (model X.prog X.w) X.A (pyIter (.str z t)) (PIE X pins σ tg R) X.xe s := by
  cases ha : z.cps.all (· < 128) with
  | false => exact wpAny_pyIter_wide ha (pi_one (tk := s.toks) I _ (turn_str _ z t "str_iterator" (.inr rfl)) ⟨_, Heap.get?_push_size _ rfl, rfl, rfl⟩ q)
  | true => exact wpAny_pyIter_ascii ha (pi_one (tk := s.toks) I _ (turn_str _ z t "str_ascii_iterator" (.inl rfl)) ⟨_, Heap.get?_push_size _ rfl, rfl, rfl⟩ q)
end
theorem i_seq {m : W Da} (h : PE X e (tp X.K G x m)) : PI X tg e (tit X.K G x (iSeq m)) := by
  refine ⟨fun pins s σ H R I ⟨ρ, pe, S, q⟩ => ?_⟩
  refine thn (h.run pins s σ H (fun v H1 => ∃ d ds ρ1, itemsOf d = some ds ∧ Sd X.K G σ ρ1 ((v, .dat d) :: pe) H1 ∧ ∀ J src H', ItOk X.K J src ds → ds.length ≤ sizeLine → Sd X.K G σ ρ1 (dats src ++ pe) H' → R J H') I
    ⟨ρ, pe, S, m.mono (fun d ρ1 q v H1 S1 => ?_) (fun _ _ z => z) q⟩) fun v s1 ⟨w, H1, I1, r1, d, ds, ρ1, e1, ⟨O, S1⟩, q1⟩ => ?_
  · obtain ⟨ds, e1, q1⟩ := W.opt_wp q
    exact ⟨d, ds, ρ1, e1, S1, q1⟩
  have rr := S1.top
  cases d with
  | tup ds' =>
    cases e1
    simp only [Rep] at rr
    obtain ⟨a, xs, e2, hq, z, rs⟩ := rr
    subst e2
    cases r1
    exact goes_tup I1 hq (q1 _ _ H1 itOk_tup z ⟨O, S1⟩)
  | lst ds' =>
    cases e1
    simp only [Rep] at rr
    obtain ⟨a, xs, e2, hq, z, rs⟩ := rr
    subst e2
    cases r1
    exact goes_list I1 hq.sq (q1 _ _ H1 itOk_list z ⟨O, S1⟩)
  | str z =>
    simp only [itemsOf] at e1
    split at e1
    · rename_i hz
      cases e1
      simp only [Rep] at rr
      subst rr
      obtain ⟨t, rfl⟩ := r1
      exact goes_str I1 (q1 _ [] H1 itOk_str (by simpa [signs, Str.length] using hz) ⟨O, S1.pop⟩)
    · cases e1
  | _ => cases e1
def asI : Da → Option Int
  | .int i => some i
  | _ => none
theorem of_asI {d : Da} {i : Int} (h : asI d = some i) : d = .int i := by
  cases d <;> simp [asI] at h
  subst h
  rfl
@[simp] theorem asI_int (i : Int) : asI (.int i) = some i := rfl
def rangeD (lo : Int) (n : Nat) : List Da := (List.range n).map fun i : Nat => Da.int (lo + (i : Int))
/-- range(n) -/
def iRange1 (a : W Da) : W (List Da) := (a.bind fun d => W.opt (asI d)).bind fun j => (W.req (j ≤ 1000000 ∧ -1000000 ≤ j)).bind fun _ => W.ret (rangeD 0 j.toNat)
def iRange2 (a b : W Da) : W (List Da) := (a.bind fun d => W.opt (asI d)).bind fun i => (b.bind fun d => W.opt (asI d)).bind fun j => (W.req ((i ≤ 1000000 ∧ -1000000 ≤ i) ∧ j ≤ 1000000 ∧ -1000000 ≤ j)).bind fun _ => W.ret (rangeD i (j - i).toNat)
theorem line_eq : sizeLine = 16777216 := sizeLine_eq
theorem i_range1 {a : Expr} {m : W Da} {p pos : Pos} (hg : Gl X "range") (hm : X.mg "range" = none) (ha : PE X a (tp X.K G x m)) (hs : starEach [a] X.env = (false, eval a X.env) :: starEach [] X.env := by rfl) :
    PI X tg (.Call (.Name "range" p) [a] [] pos) (tit X.K G x (iRange1 m)) := (pi_range1 hg hm (pa_cons ha pa_nil hs) hs).of fun σ H R ⟨ρ, pe, S, q⟩ =>
  ⟨ρ, pe, S, m.mono (fun d ρ1 q v H1 ⟨O, S1⟩ => by
    obtain ⟨j, e, q⟩ := W.opt_wp (o := asI d) q
    have e' := of_asI e
    subst e'
    obtain ⟨⟨h1, h2⟩, q⟩ := q
    have r := S1.top
    simp only [Rep] at r
    subst r
    exact ⟨j, rfl, by omega, by omega, q _ [] H1 itOk_range (by simp [rangeD, line_eq]; omega) ⟨O, S1.pop⟩⟩) (fun _ _ z => z) q⟩
theorem i_range2 {a b : Expr} {m n : W Da} {p pos : Pos} (hg : Gl X "range") (hm : X.mg "range" = none) (ha : PE X a (tp X.K G x m)) (hb : PE X b (tp X.K G x n)) (hs : starEach [a, b] X.env = (false, eval a X.env) :: starEach [b] X.env := by rfl)
    (hs2 : starEach [b] X.env = (false, eval b X.env) :: starEach [] X.env := by rfl) : PI X tg (.Call (.Name "range" p) [a, b] [] pos) (tit X.K G x (iRange2 m n)) := (pi_range2 hg hm (pa_cons ha (pa_cons hb pa_nil hs2) hs) (hs.trans (congrArg _ hs2)) hs2).of fun σ H R ⟨ρ, pe, S, q⟩ =>
  ⟨ρ, pe, S, m.mono (fun d ρ1 q v H1 ⟨O, S1⟩ => by
    obtain ⟨i, e, q⟩ := W.opt_wp q
    have e' := of_asI e
    subst e'
    have r := S1.top
    simp only [Rep] at r
    subst r
    refine ⟨ρ1, _, ⟨O, S1.pop⟩, n.mono (fun d ρ2 q v H2 ⟨O2, S2⟩ => ?_) (fun _ _ z => z) q⟩
    obtain ⟨j, e, q⟩ := W.opt_wp (o := asI d) q
    have e' := of_asI e
    subst e'
    obtain ⟨⟨h1, h2⟩, q⟩ := q
    have r := S2.top
    simp only [Rep] at r
    subst r
    exact ⟨i, j, rfl, ⟨by omega, by omega, by omega, by omega⟩, q _ [] H2 itOk_range (by simp [rangeD, line_eq]; omega) ⟨O2, S2.pop⟩⟩) (fun _ _ z => z) q⟩
/-- zip of two lists, of two tuples -/
def zipD : List Da → List Da → List Da
  | a :: as, b :: bs => .tup [a, b] :: zipD as bs
  | _, _ => []
theorem zipD_get : ∀ {as bs : List Da} {i : Nat} {d : Da}, (zipD as bs)[i]? = some d → ∃ a b, as[i]? = some a ∧ bs[i]? = some b ∧ d = .tup [a, b]
  | [], _, _, _, h => by simp [zipD] at h
  | _ :: _, [], _, _, h => by simp [zipD] at h
  | a :: as, b :: bs, 0, d, h => by
    simp [zipD] at h
    exact ⟨a, b, rfl, rfl, h.symm⟩
  | a :: as, b :: bs, i + 1, d, h => by
    obtain ⟨c, e, h1, h2, h3⟩ := zipD_get (as := as) (bs := bs) (i := i) (d := d) (by simpa [zipD] using h)
    exact ⟨c, e, by simpa using h1, by simpa using h2, h3⟩
theorem zipD_len : ∀ {as bs : List Da}, (zipD as bs).length = min as.length bs.length
  | [], _ => by simp [zipD]
  | _ :: _, [] => by simp [zipD]
  | a :: as, b :: bs => by simp [zipD, zipD_len (as := as) (bs := bs)]
def zip2 : Da → Da → Option (List Da)
  | .lst as, .lst bs => some (zipD as bs)
  | .tup as, .tup bs => some (zipD as bs)
  | _, _ => none
def iZip (a b : W Da) : W (List Da) := a.bind fun d => b.bind fun e => W.opt (zip2 d e)
theorem rep_pair {K : PySem.W.Frag} {L : Addr → Prop} {H : Hp} {T : Addr} {a b : Da} {u w : V} (nT : H T = none) (ra : Rep K L H a u) (rb : Rep K L H b w) : Rep K (fun c => L c ∨ H c = none) (upd H T (.tup [u, w])) (.tup [a, b]) (.ref T) := by
  have hk : Keep L H (upd H T (.tup [u, w])) := fun b x e _ => keep_upd nT b x e
  simp only [Rep, Reps]
  exact ⟨T, [u, w], rfl, .of upd_same, by simp [line_eq], u, [w], rfl, Rep.mono hk (fun _ _ _ z => .inl z) _ _ ra, w, [], rfl, Rep.mono hk (fun _ _ _ z => .inl z) _ _ rb, rfl⟩
theorem itOk_zipL {K : PySem.W.Frag} {a b : Addr} {as bs : List Da} : ItOk K (Itz K a b) [(.ref a, .lst as), (.ref b, .lst bs)] (zipD as bs) := fun L H hs i => by
  have r := hs (.ref a, .lst as) (by simp)
  have r' := hs (.ref b, .lst bs) (by simp)
  simp only [Rep] at r r'
  obtain ⟨a', xs, e, q, _, rs⟩ := r
  obtain ⟨b', ys, e', q', _, rs'⟩ := r'
  cases e
  cases e'
  refine ⟨fun d h => ?_, fun h => ⟨xs, ys, q.sq, q'.sq, ?_⟩⟩
  · obtain ⟨c, c', h1, h2, rfl⟩ := zipD_get h
    obtain ⟨y, hy, ry⟩ := rs.getD h1
    obtain ⟨y', hy', ry'⟩ := rs'.getD h2
    refine ⟨⟨xs, ys, y, y', q.sq, q'.sq, hy, hy'⟩, fun w H' z => ?_⟩
    obtain ⟨T, u, u', rfl, nT, rfl, f1, f2⟩ := z
    have e1 := f1 xs q.sq
    have e2 := f2 ys q'.sq
    rw [hy] at e1
    rw [hy'] at e2
    cases e1
    cases e2
    exact ⟨keep_upd nT, rep_pair nT ry ry'⟩
  · rw [zipD_len] at h
    have := rs.length
    have := rs'.length
    omega
theorem itOk_zipT {K : PySem.W.Frag} {a b : Addr} {as bs : List Da} : ItOk K (RZ.ItzT K a b) [(.ref a, .tup as), (.ref b, .tup bs)] (zipD as bs) := fun L H hs i => by
  have r := hs (.ref a, .tup as) (by simp)
  have r' := hs (.ref b, .tup bs) (by simp)
  simp only [Rep] at r r'
  obtain ⟨a', xs, e, q, _, rs⟩ := r
  obtain ⟨b', ys, e', q', _, rs'⟩ := r'
  cases e
  cases e'
  refine ⟨fun d h => ?_, fun h => ⟨xs, ys, q, q', ?_⟩⟩
  · obtain ⟨c, c', h1, h2, rfl⟩ := zipD_get h
    obtain ⟨y, hy, ry⟩ := rs.getD h1
    obtain ⟨y', hy', ry'⟩ := rs'.getD h2
    refine ⟨⟨xs, ys, y, y', q, q', hy, hy'⟩, fun w H' z => ?_⟩
    obtain ⟨T, u, u', rfl, nT, rfl, f1, f2⟩ := z
    have e1 := f1 xs q
    have e2 := f2 ys q'
    rw [hy] at e1
    rw [hy'] at e2
    cases e1
    cases e2
    exact ⟨keep_upd nT, rep_pair nT ry ry'⟩
  · rw [zipD_len] at h
    have := rs.length
    have := rs'.length
    omega
theorem i_zip {a b : Expr} {m n : W Da} {p pos tpos : Pos} {elts : List Expr} {kk : Nat} (hg : Gl X "zip") (hm : X.mg "zip" = none) (ha : PE X a (tp X.K G x m)) (hb : PE X b (tp X.K G x n))
    (hs0 : starEach [a, b] X.env = (false, eval a X.env) :: starEach [b] X.env := by rfl) (hs : starEach [b] X.env = (false, eval b X.env) :: starEach [] X.env := by rfl) (hpl : (backTo pos (starEach [b] X.env)).any (·.1) = false := by rfl) :
    PI X (.Tuple elts kk tpos) (.Call (.Name "zip" p) [a, b] [] pos) (tit X.K G x (iZip m n)) := (RZ.pi_zipA hg hm (pa_cons ha (pa_cons hb pa_nil hs) hs0) hs0 hpl).of fun σ H R ⟨ρ, pe, S, q⟩ =>
  ⟨ρ, pe, S, m.mono (fun d ρ1 q v H1 S1 => by
    refine ⟨ρ1, _, S1, n.mono (fun d' ρ2 q w H2 ⟨O2, S2⟩ => ?_) (fun _ _ z => z) q⟩
    obtain ⟨ds, e, q⟩ := W.opt_wp q
    have r1 := S2.pop.top
    have r2 := S2.top
    cases d with
    | lst as =>
      cases d' with
      | lst bs =>
        cases e
        have r1' := r1
        have r2' := r2
        simp only [Rep] at r1 r2
        obtain ⟨a', xs, e, q1, z1, rs⟩ := r1
        obtain ⟨b', ys, e', q2, z2, rs'⟩ := r2
        subst e e'
        exact ⟨a', b', xs, ys, rfl, .inl ⟨q1.sq, q2.sq, q _ _ H2 itOk_zipL (by rw [zipD_len]; omega) ⟨O2, S2.pop.pop.pushDs fun p hp => by
          rcases List.mem_cons.mp hp with rfl | hp
          · exact r1'
          · rw [List.mem_singleton.mp hp]
            exact r2'⟩⟩⟩
      | _ => cases e
    | tup as =>
      cases d' with
      | tup bs =>
        cases e
        have r1' := r1
        have r2' := r2
        simp only [Rep] at r1 r2
        obtain ⟨a', xs, e, q1, z1, rs⟩ := r1
        obtain ⟨b', ys, e', q2, z2, rs'⟩ := r2
        subst e e'
        exact ⟨a', b', xs, ys, rfl, .inr ⟨q1, q2, q _ _ H2 itOk_zipT (by rw [zipD_len]; omega) ⟨O2, S2.pop.pop.pushDs fun p hp => by
          rcases List.mem_cons.mp hp with rfl | hp
          · exact r1'
          · rw [List.mem_singleton.mp hp]
            exact r2'⟩⟩⟩
      | _ => cases e
    | _ => cases e) (fun _ _ z => z) q⟩
end
end Pu
end

section
namespace Pu
open PySem PySem.Spec PyProof.Rows L2

/-! ### list comprehensions -/
def wipeE (ρ : En) : List Nat → En
  | [] => ρ
  | v :: vs => (wipeE ρ vs).set v none
def lcW (t : Tt) (c : W Bool) (e : W Da) : List Da → List Da → En → (List Da → Prop) → Prop
  | [], acc, _, k => k acc
  | d :: ds, acc, ρ, k => ∃ ρ', t.bind d ρ = some ρ' ∧ c.wp ρ' (fun b ρ1 => ρ1 = ρ' ∧ if b = true then e.wp ρ' (fun y ρ2 => ρ2 = ρ' ∧ lcW t c e ds (acc ++ [y]) ρ k) noEx else lcW t c e ds acc ρ k) noEx
theorem lcW_mono {t : Tt} {c : W Bool} {e : W Da} {ρ : En} {k k' : List Da → Prop} (hk : ∀ a, k a → k' a) : ∀ {ds acc : List Da}, lcW t c e ds acc ρ k → lcW t c e ds acc ρ k'
  | [], acc, h => hk _ h
  | d :: ds, acc, ⟨ρ', h1, h2⟩ => ⟨ρ', h1, c.mono (fun b ρ1 ⟨e1, q⟩ => ⟨e1, by
    cases b with
    | true => exact iteT (e.mono (fun y ρ2 ⟨e2, q⟩ => ⟨e2, lcW_mono hk q⟩) (fun _ _ z => z) (show (if true = true then _ else _) from q))
    | false => exact iteF (lcW_mono hk (show (if false = true then _ else lcW t c e ds acc ρ k) from q))⟩) (fun _ _ z => z) h2⟩
/-- vs: the slots of the comprehension's own names -/
def eLC (vs : List Nat) (m : W (List Da)) (t : Tt) (c : W Bool) (e : W Da) : W (List Da) :=
  ⟨fun ρ k x => m.wp ρ (fun ds ρ1 => wipeE ρ1 vs = ρ1 ∧ lcW t c e ds [] ρ1 (fun acc => k acc ρ1)) x, fun hk hx h => m.mono (fun _ _ ⟨h1, h2⟩ => ⟨h1, lcW_mono (fun _ z => hk _ _ z) h2⟩) hx h⟩
def bYes : W Bool := W.ret true

section
variable {K : PySem.W.Frag} {G : Gc} {O : Addr → Option Tg} {σ σ' : L2.St} {ρ ρ' : En} {pe : Pend} {H H' : Hp}
theorem wipe_get {σ : L2.St} {i : Nat} : ∀ {vs : List Nat}, i ∉ vs → (wipe σ vs)[i]? = σ[i]?
  | [], _ => rfl
  | v :: vs, h => by
    unfold wipe
    rw [List.getElem?_set_ne (fun e => h (by simp [e])), wipe_get fun z => h (List.mem_cons_of_mem _ z)]
theorem wipeE_none {ρ : En} {i : Nat} : ∀ {vs : List Nat}, i ∈ vs → ∀ c, (wipeE ρ vs)[i]? ≠ some (some c)
  | v :: vs, h, c => by
    unfold wipeE
    intro q
    rcases getset q with ⟨_, e, _⟩ | ⟨n, q⟩
    · cases e
    · rcases List.mem_cons.mp h with e | h
      · exact n e.symm
      · exact wipeE_none h c q
theorem StO.wiped {vs : List Nat} (S : StO K G O σ ρ pe H) (h : wipeE ρ vs = ρ) : StO K G O (wipe σ vs) ρ pe H :=
  S.slots' (wipe_length _ _) fun i c e => by
    by_cases hi : i ∈ vs
    · exact absurd (h ▸ e) (wipeE_none hi c)
    · exact wipe_get hi
theorem StO.unwiped {vs : List Nat} (S : StO K G O (wipe σ vs) ρ pe H) (h : wipeE ρ vs = ρ) : StO K G O σ ρ pe H :=
  S.slots' (wipe_length _ _).symm fun i c e => by
    by_cases hi : i ∈ vs
    · exact absurd (h ▸ e) (wipeE_none hi c)
    · exact (wipe_get hi).symm
theorem ext_get {α : Type} {l l' : List α} (h : ∀ i : Nat, l[i]? = l'[i]?) : l = l' := List.ext_getElem? h
theorem wipe_in {i : Nat} : ∀ {vs : List Nat} {σ : L2.St}, i ∈ vs → (wipe σ vs)[i]? = if i < σ.length then some none else none
  | v :: vs, σ, h => by
    unfold wipe
    by_cases e : v = i
    · subst e
      by_cases hl : v < σ.length
      · rw [List.getElem?_set_self (by rw [wipe_length]; exact hl), if_pos hl]
      · rw [List.getElem?_eq_none (by rw [List.length_set, wipe_length]; omega), if_neg hl]
    · rw [List.getElem?_set_ne e]
      exact wipe_in ((List.mem_cons.mp h).elim (fun z => absurd z.symm e) id)
theorem wipe_but {vs l : List Nat} (b : But l (wipe σ vs) σ') (hl : ∀ i ∈ l, i ∈ vs) : wipe σ' vs = wipe σ vs := ext_get fun i => by
  by_cases hi : i ∈ vs
  · rw [wipe_in hi, wipe_in hi, b.1, wipe_length]
  · rw [wipe_get hi, b.2 i fun z => hi (hl i z)]
end

mutual
theorem bind_but : ∀ {t : Tt} {d : Da} {ρ ρ' : En}, t.bind d ρ = some ρ' → ρ'.length = ρ.length ∧ ∀ i, i ∉ t.slots → ρ'[i]? = ρ[i]?
  | .name i, d, ρ, ρ', h => by
    simp only [Tt.bind, Option.some.injEq] at h
    subst h
    exact ⟨by simp, fun j n => List.getElem?_set_ne (fun e => n (by simp [Tt.slots, e]))⟩
  | .tup ts, .tup ds, ρ, ρ', h => by
    simp only [Tt.bind] at h
    simpa [Tt.slots] using binds_but (ts := ts) h
  | .tup ts, .non, ρ, ρ', h => by simp [Tt.bind] at h
  | .tup ts, .bl _, ρ, ρ', h => by simp [Tt.bind] at h
  | .tup ts, .int _, ρ, ρ', h => by simp [Tt.bind] at h
  | .tup ts, .str _, ρ, ρ', h => by simp [Tt.bind] at h
  | .tup ts, .lst ds, ρ, ρ', h => by
    simp only [Tt.bind] at h
    simpa [Tt.slots] using binds_but (ts := ts) h
  | .tup ts, .obj _ _ _, ρ, ρ', h => by simp [Tt.bind] at h
  | .tup ts, .scr _, ρ, ρ', h => by simp [Tt.bind] at h
theorem binds_but : ∀ {ts : List Tt} {ds : List Da} {ρ ρ' : En}, Tt.binds ts ds ρ = some ρ' → ρ'.length = ρ.length ∧ ∀ i, i ∉ Tt.slotss ts → ρ'[i]? = ρ[i]?
  | [], [], ρ, ρ', h => by
    simp only [Tt.binds, Option.some.injEq] at h
    subst h
    exact ⟨rfl, fun _ _ => rfl⟩
  | [], _ :: _, ρ, ρ', h => by simp [Tt.binds] at h
  | _ :: _, [], ρ, ρ', h => by simp [Tt.binds] at h
  | t :: ts, d :: ds, ρ, ρ', h => by
    simp only [Tt.binds] at h
    cases e1 : t.bind d ρ with
    | none => rw [e1] at h; cases h
    | some ρ1 =>
      rw [e1] at h
      obtain ⟨a1, a2⟩ := bind_but (t := t) e1
      obtain ⟨b1, b2⟩ := binds_but (ts := ts) (ρ := ρ1) h
      refine ⟨b1.trans a1, fun i n => ?_⟩
      simp only [Tt.slotss, List.mem_append, not_or] at n
      exact (b2 i n.2).trans (a2 i n.1)
end
theorem StO.weak {K : PySem.W.Frag} {G : Gc} {O : Addr → Option Tg} {σ σ' : L2.St} {ρ ρ' : En} {pe : Pend} {H : Hp} (S : StO K G O σ ρ pe H) (l : ρ'.length = σ'.length)
    (h : ∀ (i : Nat) c, ρ'[i]? = some (some c) → ρ[i]? = some (some c) ∧ σ'[i]? = σ[i]?) : StO K G O σ' ρ' pe H :=
  ⟨S.frame, S.own, S.pools, l, fun i c e => by
    obtain ⟨h1, h2⟩ := h i c e
    rw [h2]
    exact S.slots i c h1, S.pends⟩
section
variable {X : Cx} {G : Gc} {x : Ex → En → Prop} {tg e it : Expr} {ifs : List Expr}
theorem ts_nil : PTs X [] (ttt X.K G x bYes) := ⟨fun pins s σ H Q I ⟨ρ, pe, S, q⟩ => pts_nil.run pins s σ H Q I (q H S)⟩
theorem ts_one {c : Expr} {m : W Bool} (h : PT X c (ttt X.K G x m)) : PTs X [c] (ttt X.K G x m) := pts_one h
/-- the reading of a comprehension: the new list is our own -/
theorem lc_run {vs : List Nat} {m : W (List Da)} {t : Tt} {c : W Bool} {n : W Da} (hv : ∀ i ∈ t.slots, i ∈ vs) {σ : L2.St} {H : Hp} {Q : VK} (q : tow X.K G x (eLC vs m t c n) σ H Q) :
    tLc (tit X.K G x m) (tgg X.K G t) (ttt X.K G noEx c) (tp X.K G noEx n) vs σ H Q := by
  obtain ⟨ρ, pe, S, q⟩ := q
  refine ⟨ρ, pe, S, m.mono (fun ds ρ1 q J src H1 iok hz S1 D nD => ?_) (fun _ _ z => z) q⟩
  obtain ⟨hw, q⟩ := q
  obtain ⟨O, S1⟩ := S1
  obtain ⟨S2, rs⟩ := S1.popD
  have hkeep : Keep (Lof G O) H1 (upd H1 D (.lst [])) := fun b u e _ => keep_upd nD b u e
  have S3 := S2.pushOwn (ds := []) (vs := []) nD (Nat.zero_le _) (by simp [Reps])
  have nb : ∀ {b u}, H1 b = some u → b ≠ D := fun h => ne_of_none h nD
  have S4 := S3.pushDs (l := src) fun p hp => Rep.mono hkeep (fun b u e z => ⟨(if_neg (nb e)).trans (clr_none z.1), z.2⟩) _ _ (rs p hp)
  refine ⟨fun i k H' => k = ds.length - i ∧ i ≤ ds.length ∧ ∃ acc, acc.length ≤ i ∧ Sd X.K G (wipe σ vs) ρ1 (dats src ++ ((.ref D, .own acc) :: pe)) H' ∧
    lcW t c n (ds.drop i) acc ρ1 (fun acc => ∀ v H', Sd X.K G σ ρ1 ((v, .own acc) :: pe) H' → Q v H'), ⟨_, rfl, Nat.zero_le _, [], Nat.le_refl _, ⟨_, S4.wiped hw⟩, q⟩, ?_⟩
  rintro i k H' ⟨rfl, hi, acc, ha, ⟨O5, S5⟩, q5⟩
  obtain ⟨S6, rs6⟩ := S5.popD
  have io := iok (Lof G O5) H' rs6 i
  by_cases hlt : i < ds.length
  · obtain ⟨g, y⟩ := io.1 ds[i] (List.getElem?_eq_getElem hlt)
    rw [List.drop_eq_getElem_cons hlt] at q5
    refine .inr ⟨g, fun H'' => ∃ acc, acc.length ≤ i + 1 ∧ Sd X.K G (wipe σ vs) ρ1 (dats src ++ ((.ref D, .own acc) :: pe)) H'' ∧
      lcW t c n (ds.drop (i + 1)) acc ρ1 (fun acc => ∀ v H', Sd X.K G σ ρ1 ((v, .own acc) :: pe) H' → Q v H'), fun H'' ⟨acc', h1, h2, h3⟩ => ⟨ds.length - (i + 1), by omega, rfl, hlt, acc', h1, h2, h3⟩, fun w H'' hy => ?_⟩
    obtain ⟨kk, rw'⟩ := y w H'' hy
    obtain ⟨ρ2, hb, qc⟩ := q5
    have S7 : StO X.K G O5 (wipe σ vs) ρ1 ((w, .dat ds[i]) :: (dats src ++ ((.ref D, .own acc) :: pe))) H'' := (S5.heap kk).pushD (Rep.mono (fun _ _ e _ => e) (fun b u e z => z.elim id fun z => S5.fresh z) _ _ rw')
    refine ⟨ρ1, _, _, ρ2, ⟨O5, S7⟩, hb, fun σ2 H2 bt S8 => ⟨wipe_but bt hv, ?_⟩⟩
    refine ⟨ρ2, _, S8, c.mono (fun b ρ3 hq H3 S9 => ?_) (fun _ _ z => z) qc⟩
    obtain ⟨e3, q9⟩ := hq
    subst e3
    -- back to the block's slots
    have toOld : ∀ {pe' : Pend} {Hx : Hp}, Sd X.K G σ2 ρ3 pe' Hx → Sd X.K G (wipe σ vs) ρ1 pe' Hx := fun {pe' Hx} ⟨Oy, Sy⟩ => by
      obtain ⟨bl, bo⟩ := bind_but hb
      refine ⟨Oy, Sy.weak (by rw [← bl, Sy.len, bt.1]) fun j cc ej => ?_⟩
      have nj : j ∉ vs := fun z => wipeE_none z cc (hw.symm ▸ ej)
      have nt : j ∉ t.slots := fun z => nj (hv j z)
      exact ⟨(bo j nt).trans ej, (bt.2 j nt).symm⟩
    cases b with
    | false =>
      refine iteF ⟨acc, Nat.le_succ_of_le ha, toOld S9, ?_⟩
      exact (show (if false = true then _ else lcW t c n (ds.drop (i + 1)) acc ρ1 _) from q9)
    | true =>
      refine iteT ⟨ρ3, _, S9, n.mono (fun yd ρ4 hq yv H4 S10 => ?_) (fun _ _ z => z) (show (if true = true then _ else _) from q9)⟩
      obtain ⟨e4, q10⟩ := hq
      subst e4
      obtain ⟨Oz, Sz⟩ := S10
      have ry := Sz.top
      obtain ⟨Sw, rsw⟩ := Sz.pop.popD
      obtain ⟨p, accv, ep, _, hp, _, ra, _⟩ := Sw.pends.1
      cases ep
      have la := ra.length
      obtain ⟨Sq, kq⟩ := Sw.changeTop (es := acc ++ [yd]) (ys := accv ++ [yv]) (by simp; omega) (ra.snoc ry)
      refine ⟨accv, hp, by omega, acc ++ [yd], by simp; omega, toOld ⟨Oz, Sq.pushDs fun p hp => Rep.mono kq (fun _ _ _ z => z) _ _ (rsw p hp)⟩, q10⟩
  · have e : i = ds.length := by omega
    subst e
    refine .inl ⟨io.2 (Nat.le_refl _), ?_⟩
    rw [List.drop_length] at q5
    exact q5 _ _ ⟨_, S6.unwiped hw⟩
theorem p_lc {elt : Expr} {scope : Scope} {own : List (Str × Nat)} {pos : Pos} {m : W (List Da)} {t : Tt} {c : W Bool} {n : W Da} (hc : X.calm = true) (hN : X.N.Nodup) (hi : PI X tg it (tit X.K G x m)) (ok : BlkOk X.N X.env.scope scope own)
    (hg : ∀ (s : Shared) (H : Hp) (C : Addr) (cl : List (Str × Addr)) (fp : List Addr), PG (X.blk s H scope (compEnvC scope cl C X.env) fp) tg (tgg X.K G t))
    (ht : ∀ (s : Shared) (H : Hp) (C : Addr) (cl : List (Str × Addr)) (fp : List Addr), PTs (X.blk s H scope (compEnvC scope cl C X.env) fp) ifs (ttt X.K G noEx c))
    (he : ∀ (s : Shared) (H : Hp) (C : Addr) (cl : List (Str × Addr)) (fp : List Addr), PE (X.blk s H scope (compEnvC scope cl C X.env) fp) elt (tp X.K G noEx n))
    (hv : ∀ i ∈ t.slots, i ∈ own.map (·.2)) (hs : ∀ y, foldedSetIterable it X.env y = pure y := by intro _; rfl) :
    PE X (.ListComp elt [⟨tg, it, ifs, 0⟩] scope pos) (tow X.K G x (eLC (own.map (·.2)) m t c n)) := (pe_lc hc hN hi ok hg ht he hs).of fun _ _ _ q => lc_run hv q
end
end Pu
end

section
namespace Pu
open PySem PySem.Spec PyProof.Rows L2

/-! ### statements -/
structure Fl where
  nx : En → Prop
  rt : Da → En → Prop
  bk : En → Prop
  ct : En → Prop
  ex : Ex → En → Prop
structure Fl.Le (E E' : Fl) : Prop where
  nx : ∀ ρ, E.nx ρ → E'.nx ρ
  rt : ∀ d ρ, E.rt d ρ → E'.rt d ρ
  bk : ∀ ρ, E.bk ρ → E'.bk ρ
  ct : ∀ ρ, E.ct ρ → E'.ct ρ
  ex : ∀ e ρ, E.ex e ρ → E'.ex e ρ
structure Sx where
  wp : En → Fl → Prop
  mono : ∀ {ρ : En} {E E' : Fl}, Fl.Le E E' → wp ρ E → wp ρ E'
def flOf (K : PySem.W.Frag) (G : Gc) (x : Ex → En → Prop) (σ0 : L2.St) (pe : Pend) (D : Ends) : Fl :=
  ⟨fun ρ => ∀ σ H, Sd K G σ ρ pe H → D.nx σ H, fun d ρ => ∀ v σ H, Sd K G σ ρ ((v, .dat d) :: pe) H → D.rt v H, fun ρ => ∀ σ H, Sd K G σ ρ pe H → D.bk σ H, fun ρ => ∀ σ H, Sd K G σ ρ pe H → D.ct σ H, x⟩
def ts (K : PySem.W.Frag) (G : Gc) (x : Ex → En → Prop) (S : Sx) : TS := fun D σ H => ∃ ρ pe, Sd K G σ ρ pe H ∧ S.wp ρ (flOf K G x σ pe D)

def sPass : Sx := ⟨fun ρ E => E.nx ρ, fun l h => l.nx _ h⟩
def sBreak : Sx := ⟨fun ρ E => E.bk ρ, fun l h => l.bk _ h⟩
def sCont : Sx := ⟨fun ρ E => E.ct ρ, fun l h => l.ct _ h⟩
def sSeq (a b : Sx) : Sx := ⟨fun ρ E => a.wp ρ { E with nx := fun ρ' => b.wp ρ' E }, fun {ρ E E'} l h => a.mono (E := { E with nx := fun ρ' => b.wp ρ' E }) ⟨fun ρ' q => b.mono l q, l.rt, l.bk, l.ct, l.ex⟩ h⟩
def sIf (c : W Bool) (a b : Sx) : Sx := ⟨fun ρ E => c.wp ρ (fun k ρ' => if k = true then a.wp ρ' E else b.wp ρ' E) E.ex, fun l h => c.mono (fun k ρ' q => by
  cases k with
  | true => exact iteT (a.mono l (show (if true = true then _ else _) from q))
  | false => exact iteF (b.mono l (show (if false = true then _ else b.wp ρ' _) from q))) l.ex h⟩
def sExpr (m : W Da) : Sx := ⟨fun ρ E => m.wp ρ (fun _ ρ' => E.nx ρ') E.ex, fun l h => m.mono (fun _ ρ' q => l.nx _ q) l.ex h⟩
def sRet (m : W Da) : Sx := ⟨fun ρ E => m.wp ρ E.rt E.ex, fun l h => m.mono l.rt l.ex h⟩
def sRetN : Sx := ⟨fun ρ E => E.rt .non ρ, fun l h => l.rt _ _ h⟩
def sAsg (m : W Da) (t : Tt) : Sx := ⟨fun ρ E => m.wp ρ (fun d ρ' => ∃ ρ2, t.bind d ρ' = some ρ2 ∧ E.nx ρ2) E.ex, fun l h => m.mono (fun d ρ' ⟨ρ2, e, q⟩ => ⟨ρ2, e, l.nx _ q⟩) l.ex h⟩
def sSet (i : Nat) (m : W Da) : Sx := ⟨fun ρ E => m.wp ρ (fun d ρ' => E.nx (ρ'.set i (some (.dat d)))) E.ex, fun l h => m.mono (fun d ρ' q => l.nx _ q) l.ex h⟩
def sOwn (i : Nat) (m : W (List Da)) : Sx := ⟨fun ρ E => m.wp ρ (fun ds ρ' => E.nx (ρ'.set i (some (.own ds)))) E.ex, fun l h => m.mono (fun d ρ' q => l.nx _ q) l.ex h⟩
def sAug (i : Nat) (f : Da → Da → Option Da) (m : W Da) : Sx := ⟨fun ρ E => ∃ a, look ρ i = some a ∧ m.wp ρ (fun d ρ' => ∃ r, f a d = some r ∧ E.nx (ρ'.set i (some (.dat r)))) E.ex, fun l ⟨a, e, h⟩ => ⟨a, e, m.mono (fun d ρ' ⟨r, e, q⟩ => ⟨r, e, l.nx _ q⟩) l.ex h⟩⟩
/-- what the proof does between two statements: a slot is forgotten, an own list becomes data -/
def sForget (i : Nat) (s : Sx) : Sx := ⟨fun ρ E => s.wp (ρ.set i none) E, fun l h => s.mono l h⟩
def sFreeze (i : Nat) (s : Sx) : Sx := ⟨fun ρ E => ∃ ds, lookOwn ρ i = some ds ∧ s.wp (ρ.set i (some (.dat (.lst ds)))) E, fun l ⟨ds, e, h⟩ => ⟨ds, e, s.mono l h⟩⟩
def forW (t : Tt) (b : Sx) : List Da → En → Fl → Prop
  | [], ρ, E => E.nx ρ
  | d :: ds, ρ, E => ∃ ρ', t.bind d ρ = some ρ' ∧ b.wp ρ' { nx := fun ρ1 => forW t b ds ρ1 E, rt := E.rt, bk := E.nx, ct := fun ρ1 => forW t b ds ρ1 E, ex := E.ex }
theorem forW_mono {t : Tt} {b : Sx} {E E' : Fl} (l : Fl.Le E E') : ∀ {ds : List Da} {ρ : En}, forW t b ds ρ E → forW t b ds ρ E'
  | [], _, h => l.nx _ h
  | d :: ds, ρ, ⟨ρ', e, h⟩ => ⟨ρ', e, b.mono (E := { nx := fun ρ1 => forW t b ds ρ1 E, rt := E.rt, bk := E.nx, ct := fun ρ1 => forW t b ds ρ1 E, ex := E.ex }) ⟨fun _ q => forW_mono l q, l.rt, l.nx, fun _ q => forW_mono l q, l.ex⟩ h⟩
def sFor (m : W (List Da)) (t : Tt) (b : Sx) : Sx := ⟨fun ρ E => m.wp ρ (fun ds ρ' => forW t b ds ρ' E) E.ex, fun l h => m.mono (fun _ _ q => forW_mono l q) l.ex h⟩
def sWhile (c : W Bool) (b : Sx) : Sx := ⟨fun ρ E => ∃ I : Nat → En → Prop, (∃ n, I n ρ) ∧ ∀ n ρ, I n ρ → c.wp ρ (fun k ρ' => if k = true then
    b.wp ρ' { nx := fun ρ1 => ∃ m, m < n ∧ I m ρ1, rt := E.rt, bk := E.nx, ct := fun ρ1 => ∃ m, m < n ∧ I m ρ1, ex := E.ex } else E.nx ρ') E.ex,
  fun {ρ E E'} l ⟨I, h0, h⟩ => ⟨I, h0, fun n ρ hi => c.mono (fun k ρ' q => by
    cases k with
    | true => exact iteT (b.mono (E := { nx := fun ρ1 => ∃ m, m < n ∧ I m ρ1, rt := E.rt, bk := E.nx, ct := fun ρ1 => ∃ m, m < n ∧ I m ρ1, ex := E.ex }) ⟨fun _ z => z, l.rt, l.nx, fun _ z => z, l.ex⟩ (show (if true = true then _ else _) from q))
    | false => exact iteF (l.nx _ (show (if false = true then _ else E.nx ρ') from q))) l.ex (h n ρ hi)⟩⟩

section
variable {X : Cx} {G : Gc} {x : Ex → En → Prop}
theorem flOf_rt {K : PySem.W.Frag} {σ : L2.St} {ρ : En} {pe : Pend} {D : Ends} {d : Da} (h : (flOf K G x σ pe D).rt d ρ) {v : V} {σ' : L2.St} {H : Hp} (S : Sd K G σ' ρ ((v, .dat d) :: pe) H) : D.rt v H := h v σ' H S
theorem s_pass {pos : Pos} : PS X (.Pass pos) (ts X.K G x sPass) := ps_pass.of fun D σ H ⟨ρ, pe, S, q⟩ => q σ H S
theorem s_break {pos : Pos} : PS X (.Break pos) (ts X.K G x sBreak) := ps_break.of fun D σ H ⟨ρ, pe, S, q⟩ => q σ H S
theorem s_cont {pos : Pos} : PS X (.Continue pos) (ts X.K G x sCont) := ps_continue.of fun D σ H ⟨ρ, pe, S, q⟩ => q σ H S
theorem ss_nil : PSs X [] (ts X.K G x sPass) := pss_nil.of fun D σ H ⟨ρ, pe, S, q⟩ => q σ H S
theorem ss_cons {st : Stmt} {rest : List Stmt} {a b : Sx} (h1 : PS X st (ts X.K G x a)) (h2 : PSs X rest (ts X.K G x b)) : PSs X (st :: rest) (ts X.K G x (sSeq a b)) := (pss_cons h1 h2).of fun D σ H ⟨ρ, pe, S, q⟩ =>
  ⟨ρ, pe, S, a.mono (E := { flOf X.K G x σ pe D with nx := fun ρ' => b.wp ρ' (flOf X.K G x σ pe D) }) ⟨fun ρ' q σ' H' S' => ⟨ρ', pe, S', q⟩, fun _ _ z => z, fun _ z => z, fun _ z => z, fun _ _ z => z⟩ q⟩
theorem ss_one {st : Stmt} {a : Sx} (h1 : PS X st (ts X.K G x a)) : PSs X [st] (ts X.K G x a) := pss_one h1
theorem s_if {c : Expr} {a b : List Stmt} {pos : Pos} {mc : W Bool} {sa sb : Sx} (hc : PT X c (ttt X.K G x mc)) (ha : PSs X a (ts X.K G x sa)) (hb : PSs X b (ts X.K G x sb)) : PS X (.If c a b pos) (ts X.K G x (sIf mc sa sb)) :=
  (ps_if hc ha hb).of fun D σ H ⟨ρ, pe, S, q⟩ => ⟨ρ, pe, S, mc.mono (fun k ρ1 q H1 S1 => by
    cases k with
    | true => exact iteT ⟨ρ1, pe, S1, q⟩
    | false => exact iteF ⟨ρ1, pe, S1, q⟩) (fun _ _ z => z) q⟩
theorem s_expr {e : Expr} {pos : Pos} {m : W Da} (he : PE X e (tp X.K G x m)) (hs : swapsWith e none pos.line X.env = pure false := by rfl) : PS X (.Expr e pos) (ts X.K G x (sExpr m)) :=
  (ps_expr he hs).of fun D σ H ⟨ρ, pe, S, q⟩ => ⟨ρ, pe, S, m.mono (fun d ρ1 q v H1 S1 => q σ H1 S1.pop) (fun _ _ z => z) q⟩
theorem s_ret {e : Expr} {pos : Pos} {m : W Da} (he : PE X e (tp X.K G x m)) : PS X (.Return (some e) pos) (ts X.K G x (sRet m)) :=
  (ps_ret he).of fun D σ H ⟨ρ, pe, S, q⟩ => ⟨ρ, pe, S, m.mono (fun d ρ1 q v H1 S1 => q v σ H1 S1) (fun _ _ z => z) q⟩
theorem s_retN {pos : Pos} : PS X (.Return none pos) (ts X.K G x sRetN) := ps_retN.of fun D σ H ⟨ρ, pe, ⟨O, S⟩, q⟩ => q .non σ H ⟨O, S.pushD (by simp [Rep])⟩
theorem s_asg {tg e : Expr} {pos : Pos} {m : W Da} {t : Tt} (he : PE X e (tp X.K G x m)) (hg : PG X tg (tgg X.K G t)) (hs : swapsWithSole [tg] e pos.line X.env = pure false := by rfl) (hw : swappedStores [tg] e X.env = pure none := by rfl)
    (h1 : (assignEach [tg] X.env).map (·.2) = [assign tg X.env] := by rfl) : PS X (.Assign [tg] e pos) (ts X.K G x (sAsg m t)) := (ps_asg he hg hs hw h1).of fun D σ H ⟨ρ, pe, S, q⟩ =>
  ⟨ρ, pe, S, m.mono (fun d ρ1 ⟨ρ2, e, q⟩ v H1 S1 => ⟨ρ1, pe, d, ρ2, S1, e, fun σ' H' _ S' => q σ' H' S'⟩) (fun _ _ z => z) q⟩
theorem s_set {i : Nat} {n : Str} {e : Expr} {pos pos' : Pos} {m : W Da} (hN : X.N.Nodup) (hi : X.N[i]? = some n) (hx : Loc X.env.scope n) (he : PE X e (tp X.K G x m)) (hs : swapsWith e (some (.Name n pos')) pos.line X.env = pure false := by rfl)
    (hf : X.fn n = true ∨ X.env.scope.names.lookup n = some .local := by first | exact .inl rfl | exact .inr rfl | assumption) : PS X (.Assign [.Name n pos'] e pos) (ts X.K G x (sSet i m)) :=
  (ps_set hN hi hx he hs hf).of fun D σ H ⟨ρ, pe, S, q⟩ => ⟨ρ, pe, S, m.mono (fun d ρ1 q v H1 ⟨O, S1⟩ => q _ H1 ⟨_, S1.store i⟩) (fun _ _ z => z) q⟩
theorem s_own {i : Nat} {n : Str} {e : Expr} {pos pos' : Pos} {m : W (List Da)} (hN : X.N.Nodup) (hi : X.N[i]? = some n) (hx : Loc X.env.scope n) (he : PE X e (tow X.K G x m)) (hs : swapsWith e (some (.Name n pos')) pos.line X.env = pure false := by rfl)
    (hf : X.fn n = true ∨ X.env.scope.names.lookup n = some .local := by first | exact .inl rfl | exact .inr rfl | assumption) : PS X (.Assign [.Name n pos'] e pos) (ts X.K G x (sOwn i m)) :=
  (ps_set hN hi hx he hs hf).of fun D σ H ⟨ρ, pe, S, q⟩ => ⟨ρ, pe, S, m.mono (fun d ρ1 q v H1 ⟨O, S1⟩ => q _ H1 ⟨_, S1.storeOwn i⟩) (fun _ _ z => z) q⟩
/-- name = [.. for ..] on one line -/
theorem s_ownLc {i : Nat} {y : Str} {py : Pos} {tg it elt : Expr} {ifs : List Expr} {scope : Scope} {own : List (Str × Nat)} {pos spos : Pos} {m : W (List Da)} {t : Tt} {c : W Bool} {n : W Da} (hc : X.calm = true) (hN : X.N.Nodup) (hy : X.N[i]? = some y)
    (hyl : X.env.scope.names.lookup y = some .local) (hsw : swapsWith (.ListComp elt [⟨tg, it, ifs, 0⟩] scope pos) (some (.Name y py)) spos.line X.env = pure true) (hi : PI X tg it (tit X.K G x m)) (ok : BlkOk X.N X.env.scope scope own)
    (hg : ∀ (s : Shared) (H : Hp) (C : Addr) (cl : List (Str × Addr)) (fp : List Addr), PG (X.blk s H scope (compEnvC scope cl C X.env) fp) tg (tgg X.K G t))
    (ht : ∀ (s : Shared) (H : Hp) (C : Addr) (cl : List (Str × Addr)) (fp : List Addr), PTs (X.blk s H scope (compEnvC scope cl C X.env) fp) ifs (ttt X.K G noEx c))
    (he : ∀ (s : Shared) (H : Hp) (C : Addr) (cl : List (Str × Addr)) (fp : List Addr), PE (X.blk s H scope (compEnvC scope cl C X.env) fp) elt (tp X.K G noEx n))
    (hv : ∀ i ∈ t.slots, i ∈ own.map (·.2)) (hs : ∀ y, foldedSetIterable it X.env y = pure y := by intro _; rfl) :
    PS X (.Assign [.Name y py] (.ListComp elt [⟨tg, it, ifs, 0⟩] scope pos) spos) (ts X.K G x (sOwn i (eLC (own.map (·.2)) m t c n))) := (ps_setLc hc hN hy hyl hsw hi ok hg ht he hs).of fun D σ H ⟨ρ, pe, S, q⟩ =>
  lc_run hv ⟨ρ, pe, S, (eLC (own.map (·.2)) m t c n).mono (ρ := ρ) (k := fun ds ρ' => (flOf X.K G x σ pe D).nx (ρ'.set i (some (.own ds)))) (x := x) (fun d ρ1 q v H1 ⟨O, S1⟩ => q _ H1 ⟨_, S1.storeOwn i⟩) (fun _ _ z => z) (show (eLC (own.map (·.2)) m t c n).wp ρ _ _ from q)⟩
theorem s_setLc {i : Nat} {y : Str} {py : Pos} {tg it elt : Expr} {ifs : List Expr} {scope : Scope} {own : List (Str × Nat)} {pos spos : Pos} {m : W (List Da)} {t : Tt} {c : W Bool} {n : W Da} (hc : X.calm = true) (hN : X.N.Nodup) (hy : X.N[i]? = some y)
    (hyl : X.env.scope.names.lookup y = some .local) (hsw : swapsWith (.ListComp elt [⟨tg, it, ifs, 0⟩] scope pos) (some (.Name y py)) spos.line X.env = pure true) (hi : PI X tg it (tit X.K G x m)) (ok : BlkOk X.N X.env.scope scope own)
    (hg : ∀ (s : Shared) (H : Hp) (C : Addr) (cl : List (Str × Addr)) (fp : List Addr), PG (X.blk s H scope (compEnvC scope cl C X.env) fp) tg (tgg X.K G t))
    (ht : ∀ (s : Shared) (H : Hp) (C : Addr) (cl : List (Str × Addr)) (fp : List Addr), PTs (X.blk s H scope (compEnvC scope cl C X.env) fp) ifs (ttt X.K G noEx c))
    (he : ∀ (s : Shared) (H : Hp) (C : Addr) (cl : List (Str × Addr)) (fp : List Addr), PE (X.blk s H scope (compEnvC scope cl C X.env) fp) elt (tp X.K G noEx n))
    (hv : ∀ i ∈ t.slots, i ∈ own.map (·.2)) (hs : ∀ y, foldedSetIterable it X.env y = pure y := by intro _; rfl) :
    PS X (.Assign [.Name y py] (.ListComp elt [⟨tg, it, ifs, 0⟩] scope pos) spos) (ts X.K G x (sSet i (eFrz (eLC (own.map (·.2)) m t c n)))) := (ps_setLc hc hN hy hyl hsw hi ok hg ht he hs).of fun D σ H ⟨ρ, pe, S, q⟩ =>
  lc_run hv ⟨ρ, pe, S, (eLC (own.map (·.2)) m t c n).mono (ρ := ρ) (k := fun ds ρ' => (flOf X.K G x σ pe D).nx (ρ'.set i (some (.dat (.lst ds))))) (x := x) (fun d ρ1 q v H1 ⟨O, S1⟩ => q _ H1 ⟨_, S1.freeze.store i⟩) (fun _ _ z => z) (show (eLC (own.map (·.2)) m t c n).wp ρ _ _ from q)⟩
theorem ss_forget {st : List Stmt} {a : Sx} (i : Nat) (h : PSs X st (ts X.K G x a)) : PSs X st (ts X.K G x (sForget i a)) := h.of fun D σ H ⟨ρ, pe, ⟨O, S⟩, q⟩ =>
  ⟨ρ.set i none, pe, ⟨O, S.weak (by simp [S.len]) fun j c e => by
    rcases getset e with ⟨_, e, _⟩ | ⟨_, e⟩
    · cases e
    · exact ⟨e, rfl⟩⟩, q⟩
theorem ss_freeze {st : List Stmt} {a : Sx} (i : Nat) (h : PSs X st (ts X.K G x a)) : PSs X st (ts X.K G x (sFreeze i a)) := h.of fun D σ H ⟨ρ, pe, ⟨O, S⟩, ds, e, q⟩ => ⟨_, pe, ⟨_, S.freezeSlot (of_lookOwn e)⟩, q⟩
theorem s_for {tg it : Expr} {body : List Stmt} {pos : Pos} {m : W (List Da)} {t : Tt} {b : Sx} (hp : PassesOwn (model X.prog X.w) X.A X.env X.xe) (hc : X.calm = true) (hi : PI X tg it (tit X.K G x m)) (hg : PG X tg (tgg X.K G t)) (hb : PSs X body (ts X.K G x b))
    (hs : ∀ y, foldedSetIterable it X.env y = pure y := by intro _; rfl) : PS X (.For tg it body [] pos) (ts X.K G x (sFor m t b)) := (ps_for hp hc hi hg hb hs).of fun D σ H ⟨ρ, pe, S, q⟩ => by
  refine ⟨ρ, pe, S, m.mono (fun ds ρ1 q J src H1 iok hz S1 => ?_) (fun _ _ z => z) q⟩
  refine ⟨fun i k σ' H' => k = ds.length - i ∧ i ≤ ds.length ∧ ∃ ρ', Sd X.K G σ' ρ' (dats src ++ pe) H' ∧ forW t b (ds.drop i) ρ' (flOf X.K G x σ pe D), ⟨_, rfl, Nat.zero_le _, ρ1, S1, q⟩, ?_⟩
  rintro i k σ' H' ⟨rfl, hi, ρ', ⟨O, S2⟩, q2⟩
  obtain ⟨S3, rs⟩ := S2.popD
  have io := iok (Lof G O) H' rs i
  by_cases hlt : i < ds.length
  · obtain ⟨g, y⟩ := io.1 ds[i] (List.getElem?_eq_getElem hlt)
    rw [List.drop_eq_getElem_cons hlt] at q2
    obtain ⟨ρ2, hb2, q3⟩ := q2
    refine .inr ⟨g, fun σ'' H'' => ∃ ρ'', Sd X.K G σ'' ρ'' (dats src ++ pe) H'' ∧ forW t b (ds.drop (i + 1)) ρ'' (flOf X.K G x σ pe D), fun σ'' H'' ⟨ρ'', h1, h2⟩ => ⟨ds.length - (i + 1), by omega, rfl, hlt, ρ'', h1, h2⟩, fun w H'' hy => ?_⟩
    obtain ⟨kk, rw'⟩ := y w H'' hy
    have S4 : StO X.K G O σ' ρ' ((w, .dat ds[i]) :: (dats src ++ pe)) H'' := (S2.heap kk).pushD (Rep.mono (fun _ _ e _ => e) (fun _ u e z => z.elim id fun z => S2.fresh z) _ _ rw')
    have pops : ∀ {σ5 : L2.St} {ρ5 : En} {H5 : Hp}, Sd X.K G σ5 ρ5 (dats src ++ pe) H5 → Sd X.K G σ5 ρ5 pe H5 := fun ⟨O5, S5⟩ => ⟨O5, S5.popD.1⟩
    refine ⟨ρ', _, _, ρ2, ⟨O, S4⟩, hb2, fun σ2 H2 _ S5 => ⟨ρ2, _, S5, b.mono (E := { nx := fun ρ1 => forW t b (ds.drop (i + 1)) ρ1 (flOf X.K G x σ pe D), rt := (flOf X.K G x σ pe D).rt, bk := (flOf X.K G x σ pe D).nx, ct := fun ρ1 => forW t b (ds.drop (i + 1)) ρ1 (flOf X.K G x σ pe D), ex := x }) ⟨fun ρ5 q5 σ5 H5 S5 => ⟨ρ5, S5, q5⟩, fun d ρ5 q5 v σ5 H5 ⟨O5, S5⟩ => ?_, fun ρ5 q5 σ5 H5 S5 => q5 σ5 H5 (pops S5), fun ρ5 q5 σ5 H5 S5 => ⟨ρ5, S5, q5⟩, fun _ _ z => z⟩ q3⟩⟩
    exact q5 v σ5 H5 ⟨O5, S5.pop.popD.1.pushD S5.top⟩
  · have e : i = ds.length := by omega
    subst e
    rw [List.drop_length] at q2
    exact .inl ⟨io.2 (Nat.le_refl _), q2 σ' H' ⟨O, S3⟩⟩
theorem s_while {c : Expr} {body : List Stmt} {pos : Pos} {mc : W Bool} {b : Sx} (hp : PassesOwn (model X.prog X.w) X.A X.env X.xe) (hc : PT X c (ttt X.K G x mc)) (hb : PSs X body (ts X.K G x b)) : PS X (.While c body [] pos) (ts X.K G x (sWhile mc b)) :=
  (ps_while hp hc hb).of fun D σ H ⟨ρ, pe, S, I, ⟨n0, h0⟩, h⟩ => ⟨fun n σ' H' => ∃ ρ', Sd X.K G σ' ρ' pe H' ∧ I n ρ', ⟨n0, ρ, S, h0⟩, fun n σ1 H1 ⟨ρ1, S1, i1⟩ => ⟨ρ1, pe, S1, mc.mono (fun k ρ2 q H2 S2 => by
    cases k with
    | true => exact iteT ⟨fun σ' H' => ∃ m, m < n ∧ ∃ ρ', Sd X.K G σ' ρ' pe H' ∧ I m ρ', fun σ' H' z => z, ρ2, pe, S2, b.mono (E := { nx := fun ρ1 => ∃ m, m < n ∧ I m ρ1, rt := (flOf X.K G x σ pe D).rt, bk := (flOf X.K G x σ pe D).nx, ct := fun ρ1 => ∃ m, m < n ∧ I m ρ1, ex := x }) ⟨fun ρ5 ⟨m, hm, z⟩ σ5 H5 S5 => ⟨m, hm, ρ5, S5, z⟩, fun _ _ z => z, fun _ z => z, fun ρ5 ⟨m, hm, z⟩ σ5 H5 S5 => ⟨m, hm, ρ5, S5, z⟩, fun _ _ z => z⟩ q⟩
    | false => exact iteF (q σ1 H2 S2)) (fun _ _ z => z) (h n ρ1 i1)⟩⟩
/-- x op= e -/
def Ip2 (t : TIp) (f : Da → Da → Option Da) (K : PySem.W.Frag) : Prop := ∀ (L : Addr → Prop) (H : Hp) (dx dy d : Da) (a b : V) (Q : VK), Rep K L H dx a → Rep K L H dy b → f dx dy = some d →
  (∀ v H', (∀ c u, H c = some u → H' c = some u) → Rep K (fun c => L c ∨ H c = none) H' d v → Q v H') → t a b H Q
theorem s_aug {i : Nat} {n : Str} {e : Expr} {op : Operator} {ti : TIp} {pos pos' : Pos} {m : W Da} {f : Da → Da → Option Da} (hN : X.N.Nodup) (hi : X.N[i]? = some n) (hx : Loc X.env.scope n) (he : PE X e (tp X.K G x m)) (ho : PIp X op ti) (h : Ip2 ti f X.K)
    (hf : X.fn n = true ∨ X.env.scope.names.lookup n = some .local := by first | exact .inl rfl | exact .inr rfl | assumption) : PS X (.AugAssign (.Name n pos') op e pos) (ts X.K G x (sAug i f m)) :=
  (ps_aug hN hi hx he ho hf).of fun D σ H ⟨ρ, pe, ⟨O, S⟩, a, ea, q⟩ => by
    obtain ⟨v, hv, r⟩ := S.slots i _ (of_look ea)
    have S1 : StO X.K G O σ ρ ((v, .dat a) :: pe) H := S.push r
    refine ⟨v, hv, ρ, _, ⟨O, S1⟩, m.mono (fun d ρ1 ⟨r, er, q⟩ w H1 ⟨O1, S2⟩ => ?_) (fun _ _ z => z) q⟩
    exact h (Lof G O1) H1 _ _ _ v w _ S2.pop.top S2.top er fun u H' k rr => q _ H' ⟨_, (S2.pop.pop.result k rr).store i⟩
end
end Pu
end

section
namespace Pu
open PySem PySem.Spec PyProof.Rows L2

/-! ### defs: what they promise, said of data alone -/
structure Fn where
  wp : List Da → (Da → Prop) → (Ex → Prop) → Prop
  mono : ∀ {as : List Da} {k k' : Da → Prop} {x x' : Ex → Prop}, (∀ d, k d → k' d) → (∀ e, x e → x' e) → wp as k x → wp as k' x'
end Pu
namespace Pu
open PySem PySem.Spec PyProof.Rows L2
/-- how an exception lies: d its dict -/
def XdAt (K : PySem.W.Frag) (L : Addr → Prop) (H : Hp) (d : Addr) (e : Ex) : Prop := ∃ y, H d = some (.xd [(e.fld, y)]) ∧ Rep K L H e.what y
/-- a def of data, n of them -/
def spD (K : PySem.W.Frag) (mg : Str → Option Value) (n : Nat) (F : Fn) : Sp := fun vs H Q E => ∃ (La : Addr → Prop) (ds : List Da), ds.length = n ∧ Reps K La H ds vs ∧
  F.wp ds (fun d => ∀ v H', (∀ b x, H b = some x → H' b = some x) → Rep K (fun c => La c ∨ H c = none) H' d v → Q v H')
    (fun e => ∀ C d H', mg e.name = some (.ref C) → (∀ b x, H b = some x → H' b = some x) → XdAt K (fun c => La c ∨ H c = none) H' d e → E (.ref C) (some d) H')
/-- a def whose first argument is the pool -/
def spL (K : PySem.W.Frag) (mg : Str → Option Value) (n : Nat) (F : Fn) : Sp := fun vs H Q E => ∃ (La : Addr → Prop) (ds : List Da) (p : Addr) (ws : List V), vs = .ref p :: ws ∧ ds.length = n ∧ Reps K La H ds ws ∧ PoolAt K La H p ∧ ¬ La p ∧
  F.wp ds (fun d => ∀ v H', (∀ b x, H b = some x → b ≠ p → H' b = some x) → PoolAt K (fun c => La c ∨ H c = none) H' p → Rep K (fun c => La c ∨ H c = none) H' d v → Q v H')
    (fun e => False)
theorem spD_len {K : PySem.W.Frag} {mg : Str → Option Value} {n : Nat} {F : Fn} : ∀ vs H Q E, spD K mg n F vs H Q E → vs.length = n := fun vs H Q E ⟨_, ds, l, r, _⟩ => r.length.trans l
theorem spL_len {K : PySem.W.Frag} {mg : Str → Option Value} {n : Nat} {F : Fn} : ∀ vs H Q E, spL K mg n F vs H Q E → vs.length = n + 1 := fun vs H Q E ⟨_, ds, p, ws, e, l, r, _⟩ => by
  subst e
  simp [r.length, l]

section
variable {K : PySem.W.Frag} {G : Gc} {O : Addr → Option Tg} {σ : L2.St} {ρ : En} {pe : Pend} {H H' : Hp} {p : Addr} {i : Nat}
/-- the pool in slot i has been drawn from -/
theorem StO.drawn (S : StO K G O σ ρ pe H) (hr : ρ[i]? = some (some .pool)) (hv : σ[i]? = some (some (.ref p))) (hp : O p = some (.slot i)) (k : ∀ b x, H b = some x → b ≠ p → H' b = some x)
    (q : PoolAt K (fun c => Lof G O c ∨ H c = none) H' p) : StO K G O σ ρ pe H' := by
  obtain ⟨w, hw, p', e, hp', q0⟩ := S.slots i _ hr
  rw [hv] at hw
  cases hw
  cases e
  have hH : ∃ xs, H p = some (.lst xs) := by
    obtain ⟨_, _, _, _, _, _, _, e, _⟩ := q0
    exact ⟨_, e⟩
  obtain ⟨xs, hH⟩ := hH
  have kp : Keep (Lof G O) H H' := fun b x e z => k b x e (fun q => by
    subst q
    rcases z with z | z
    · have z1 := z.1
      rw [hp] at z1
      cases z1
    · rw [hH] at e
      cases e
      exact z trivial)
  have kl : ∀ b x, H b = some x → Lof G O b → Lof G O b := fun _ _ _ z => z
  have q' : PoolAt K (Lof G O) H' p := q.mono (fun _ _ e _ => e) (fun _ _ _ z => z.elim id fun z => S.fresh z) rfl
  have pk : ∀ {b : Addr} {L : Addr → Prop}, PoolAt K L H b → b ≠ p → H' b = H b := fun {b L} h n => by
    obtain ⟨_, _, _, _, _, _, _, e, _⟩ := h
    rw [e]
    exact k _ _ e n
  refine ⟨fun b x e n => ⟨k b x (S.frame b x e n).1 (fun q => ?_), (S.frame b x e n).2⟩, fun b t e => ?_, fun b hb => ?_, S.len, fun j c e => ?_, ?_⟩
  · subst q
    have f := (S.frame b x e n).2
    rw [hp] at f
    cases f
  · by_cases z : b = p
    · subst z
      obtain ⟨_, _, _, _, _, _, _, e, _⟩ := q'
      exact ⟨_, e, trivial⟩
    · obtain ⟨x, h1, h2⟩ := S.own b t e
      exact ⟨x, k _ _ h1 z, h2⟩
  · obtain ⟨h1, h2⟩ := S.pools b hb
    by_cases z : b = p
    · subst z
      exact ⟨q', h2⟩
    · exact ⟨h1.mono kp kl (pk h1 z), h2⟩
  · obtain ⟨v, h1, h2⟩ := S.slots j c e
    refine ⟨v, h1, ?_⟩
    by_cases z : j = i
    · subst z
      rw [hr] at e
      cases e
      rw [hv] at h1
      cases h1
      exact ⟨p, rfl, hp, q'⟩
    · exact h2.mono kp kl fun b e => ⟨by
        have nb : b ≠ p := fun q => by
          rw [q, hp] at e
          cases e
          exact z rfl
        obtain ⟨x, h1, _⟩ := S.own b _ e
        rw [h1]
        exact k _ _ h1 nb, e⟩
  · exact S.pends.mono kp kl fun j _ b e => ⟨by
      have nb : b ≠ p := fun q => by
        rw [q, hp] at e
        cases e
      obtain ⟨x, h1, _⟩ := S.own b _ e
      rw [h1]
      exact k _ _ h1 nb, e⟩
end

/-! ### exceptions of a callee -/
/-- what the context wishes of exceptions, said of data: x -/
structure XOk (X : Cx) (G : Gc) (x : Ex → En → Prop) : Prop where
  so : G.so = SetTO X.prog X.w
  ex : ∃ W : WX, Takes X W ∧ ∀ (e : Ex) (ρ : En) (σ : L2.St) (pe : Pend) (H : Hp) (O : Addr → Option Tg) (C d : Addr), x e ρ → StO X.K G O σ ρ pe H → X.mg e.name = some (.ref C) → XdAt X.K (Lof G O) H d e → W (.ref C) (some d) σ H
theorem XOk.no {X : Cx} {G : Gc} (so : G.so = SetTO X.prog X.w) : XOk X G noEx := ⟨so, _, takes0, fun _ _ _ _ _ _ _ _ h => h.elim⟩

def eCall (F : Fn) (n : Nat) (a : W (List Da)) : W Da := a.bind fun ds => (W.req (ds.length = n)).bind fun _ => ⟨fun ρ k x => F.wp ds (fun d => k d ρ) (fun e => x e ρ), fun hk hx h => F.mono (fun d q => hk _ _ q) (fun e q => hx _ _ q) h⟩
/-- f(pool, ..), the pool in slot i -/
def eCallP (i : Nat) (F : Fn) (n : Nat) (a : W (List Da)) : W Da := W.env.bind fun ρ0 => (W.req (ρ0[i]? = some (some .pool))).bind fun _ => a.bind fun ds => W.env.bind fun ρ => (W.req (ds.length = n ∧ ρ[i]? = some (some .pool))).bind fun _ => ⟨fun ρ k _ => F.wp ds (fun d => k d ρ) (fun _ => False), fun hk hx h => F.mono (fun d q => hk _ _ q) (fun e q => q) h⟩
section
variable {X : Cx} {G : Gc} {x : Ex → En → Prop} {k : Nat} {f : Addr} {fd : FuncData} {ps : List Str} {F : Fn} {n : Nat} {nm : Str} {p pos : Pos} {e : Expr} {es : List Expr} {ma : W (List Da)}
theorem XdAt.mono {K : PySem.W.Frag} {L L' : Addr → Prop} {H : Hp} {d : Addr} {e : Ex} (h : XdAt K L H d e) (l : ∀ b, L b → L' b) : XdAt K L' H d e := by
  obtain ⟨y, h1, h2⟩ := h
  exact ⟨y, h1, Rep.mono (fun _ _ e _ => e) (fun b _ _ z => l b z) _ _ h2⟩
theorem p_call (xo : XOk X G x) (fo : FnOk X.prog X.w X.K X.mg X.base (L2.CX X.prog X.w) k f fd ps (spD X.K X.mg n F)) (hr : Room k X.A) (hg : Gl X nm) (hm : X.mg nm = some (.ref f)) (hk : PySem.W.keepIn X.K (.ref f) = true) (hb : Binds X.K fd ps [])
    (ha : PA X (e :: es) (tar X.K G x ma)) (hdb : (nm == ("__debug__" : Str)) = false := by decide)
    (he : starEach (e :: es) X.env = (false, eval e X.env) :: starEach es X.env := by rfl) (hpl : (backTo pos (starEach es X.env)).any (·.1) = false := by rfl) : PE X (.Call (.Name nm p) (e :: es) [] pos) (tp X.K G x (eCall F n ma)) := by
  obtain ⟨W, tk, hW⟩ := xo.ex
  refine (pe_callS fo hr hg hm hk hb (fun σ => passAt tk σ) ha hdb he hpl).of fun σ H Q ⟨ρ, pe, S, q⟩ => ?_
  refine ⟨ρ, pe, S, ma.mono (fun ds ρ1 ⟨hl, q⟩ vs H1 l ⟨O, S1⟩ => ?_) (fun _ _ z => z) q⟩
  obtain ⟨S2, rs⟩ := pushAll_pop l S1
  exact ⟨Lof G O, ds, hl, rs, F.mono (fun d q v H' kk r => q v H' ⟨O, S2.result kk r⟩) (fun ee q C d H' hC kk r => hW ee ρ1 σ pe H' O C d q (S2.heap kk) hC (r.mono fun b z => z.elim id fun z => S2.fresh z)) q⟩
/-- f(pool, ..) -/
theorem p_callP {i : Nat} {np : Str} {pp : Pos} (fo : FnOk X.prog X.w X.K X.mg X.base (L2.CX X.prog X.w) k f fd ps (spL X.K X.mg n F)) (hr : Room k X.A) (hg : Gl X nm) (hm : X.mg nm = some (.ref f)) (hk : PySem.W.keepIn X.K (.ref f) = true) (hb : Binds X.K fd ps [])
    (h0 : PE X (.Name np pp) (tVar i)) (ha : PA X es (tar X.K G x ma)) (hdb : (nm == ("__debug__" : Str)) = false := by decide) (he : starEach (.Name np pp :: es) X.env = (false, eval (.Name np pp) X.env) :: starEach es X.env := by rfl)
    (hpl : (backTo pos (starEach es X.env)).any (·.1) = false := by rfl) : PE X (.Call (.Name nm p) (.Name np pp :: es) [] pos) (tp X.K G x (eCallP i F n ma)) := by
  refine (pe_call fo hr hg hm hk hb .nil passL (pa_cons h0 ha he) hdb he hpl).of fun σ H Q ⟨ρ, pe, S, q⟩ => ?_
  obtain ⟨hp0, q⟩ := q
  obtain ⟨O0, S0⟩ := S
  obtain ⟨w, hv, _⟩ := S0.slots i _ hp0
  refine ⟨w, hv, ρ, pe, ⟨O0, S0⟩, ma.mono (fun ds ρ1 ⟨⟨hl, hp⟩, q⟩ vs H1 l ⟨O, S1⟩ => ?_) (fun _ _ z => z) q⟩
  obtain ⟨S2, rs⟩ := pushAll_pop l S1
  obtain ⟨w', hv', p', ew, op, pa⟩ := S2.slots i _ hp
  rw [hv] at hv'
  cases hv'
  subst ew
  have nl : ¬ Lof G O p' := fun z => by
    have z1 := z.1
    rw [op] at z1
    cases z1
  show spL X.K X.mg n F ((V.ref p' :: vs) ++ []) H1 Q E0
  rw [List.append_nil]
  exact ⟨Lof G O, ds, p', vs, rfl, hl, rs, pa, nl, F.mono (fun d q v H' kk pq r => q v H' ⟨O, (S2.drawn hp hv op kk pq).pushD (Rep.mono (fun _ _ e _ => e) (fun b _ _ z => z.elim id fun z => S2.fresh z) _ _ r)⟩) (fun _ z => z) q⟩
end
end Pu
end

section
namespace Pu
open PySem PySem.Spec PyProof.Rows L2

/-- the data at a def's entry -/
def startE (n : Nat) (ds : List Da) : En := ds.map (fun d => some (.dat d)) ++ List.replicate (n - ds.length) none
def startP (n : Nat) (ds : List Da) : En := some .pool :: startE (n - 1) ds
/-- what a def's body ends in -/
def flFn (k : Da → Prop) (x : Ex → Prop) : Fl := ⟨fun _ => k .non, fun d _ => k d, fun _ => False, fun _ => False, fun e _ => x e⟩
/-- a body keeps a def's promise -/
def Keeps (n N : Nat) (F : Fn) (b : Sx) : Prop := ∀ (ds : List Da) (k : Da → Prop) (x : Ex → Prop), ds.length = n → F.wp ds k x → b.wp (startE N ds) (flFn k x)
def KeepsP (n N : Nat) (F : Fn) (b : Sx) : Prop := ∀ (ds : List Da) (k : Da → Prop), ds.length = n → F.wp ds k (fun _ => False) → b.wp (startP N ds) (flFn k fun _ => False)

section
variable {P : Program} {w : World} {K : PySem.W.Frag} {mg : Str → Option Value} {base : Heap} {x qual : Str} {st : Stmt} {f : Addr} {fd : FuncData} {N ps : List Str} {k n : Nat} {F : Fn} {b : Sx}
theorem startE_len {m : Nat} {ds : List Da} (h : ds.length ≤ m) : (startE m ds).length = m := by
  unfold startE
  simp
  omega
theorem startE_get {m i : Nat} {ds : List Da} {c : Ce} (h : (startE m ds)[i]? = some (some c)) : ∃ d, ds[i]? = some d ∧ c = .dat d := by
  unfold startE at h
  by_cases hi : i < ds.length
  · rw [List.getElem?_append_left (by simpa using hi), List.getElem?_map] at h
    rw [List.getElem?_eq_getElem hi] at h ⊢
    exact ⟨_, rfl, (Option.some.inj (Option.some.inj h)).symm⟩
  · rw [List.getElem?_append_right (by simpa using hi), List.getElem?_replicate] at h
    split at h <;> cases h
theorem start_get {vs : List V} {i : Nat} {v : V} (h : vs[i]? = some v) : (L2.start N vs)[i]? = some (some v) := by
  unfold L2.start
  have hi := (List.getElem?_eq_some_iff.mp h).1
  rw [List.getElem?_append_left (by simpa using hi), List.getElem?_map, h]
  rfl
theorem start_len {vs : List V} (h : vs.length ≤ N.length) : (L2.start N vs).length = N.length := by
  unfold L2.start
  simp
  omega
theorem scope_le {sc : Scope} (S : FnScope N ps sc) : ps.length ≤ N.length := by
  have h := congrArg List.length S.pre
  rw [List.length_take] at h
  omega
theorem okD (Fu : Fun K x qual st f fd) (S : FnScope N ps (defScope st)) (hn : ps.length = n)
    (hb : ∀ (cdv : Value) (A : Around) (outer : List Env) (s : Shared) (H : Hp) (E : XK) (G : Gc) (xw : Ex → En → Prop), Room k (A.deeper (envOfC qual (defScope st) s.heap.objs.size f cdv)) →
      XOk (cxOf (L2.CX P w) P w K mg base N qual (defScope st) f cdv A outer s H E) G xw → PSs (cxOf (L2.CX P w) P w K mg base N qual (defScope st) f cdv A outer s H E) (defBody st) (ts K G xw b))
    (hw : Keeps n N.length F b) : FnOk P w K mg base (L2.CX P w) (k + 1) f fd ps (spD K mg n F) := by
  refine Fu.okX S (fun vs H Q E h => (spD_len vs H Q E h).trans hn.symm) fun cdv A outer s H vs Q E hr ⟨La, ds, l, r, q⟩ => ?_
  refine ⟨_, hb cdv A outer s H E ⟨H, fun _ => False, La, none, SetTO P w⟩ (fun e _ => ∀ C d H', mg e.name = some (.ref C) → (∀ b x, H b = some x → H' b = some x) → XdAt K (fun c => La c ∨ H c = none) H' d e → E (.ref C) (some d) H') hr
    ⟨rfl, fun cls d _ H' => E cls d H', takes_of rfl rfl rfl rfl, fun e ρ σ pe H' O C d hx S' hC hd => hx C d H' hC (fun b y z => (S'.frame b y z fun h => h).1) (hd.mono fun b z => z.2)⟩, ?_⟩
  have hle := scope_le S
  have hvl := r.length
  refine ⟨startE N.length ds, [], ⟨fun _ => none, ⟨fun b y e _ => ⟨e, rfl⟩, fun p t e => (by cases e), fun p h => h.elim, ?_, fun i c e => ?_, trivial⟩⟩, b.mono (E := flFn _ _) ⟨fun ρ q σ H' ⟨O, S'⟩ => ?_, fun d ρ q v σ H' ⟨O, S'⟩ => ?_, fun _ z => z.elim, fun _ z => z.elim, fun _ _ z => z⟩ (hw ds _ _ l q)⟩
  · rw [startE_len (by omega), start_len (by omega)]
  · obtain ⟨d, h1, rfl⟩ := startE_get e
    obtain ⟨v, h2, h3⟩ := r.getD h1
    exact ⟨v, start_get h2, Rep.mono (fun _ _ e _ => e) (fun _ _ _ z => ⟨rfl, .inl z⟩) _ _ h3⟩
  · exact q .non H' (fun b y z => (S'.frame b y z fun h => h).1) (by simp [Rep])
  · exact q v H' (fun b y z => (S'.frame b y z fun h => h).1) (Rep.mono (fun _ _ e _ => e) (fun _ _ _ z => z.2) _ _ S'.top)
theorem okL (Fu : Fun K x qual st f fd) (S : FnScope N ps (defScope st)) (hn : ps.length = n + 1)
    (hb : ∀ (cdv : Value) (A : Around) (outer : List Env) (s : Shared) (H : Hp) (E : XK) (G : Gc) (xw : Ex → En → Prop), Room k (A.deeper (envOfC qual (defScope st) s.heap.objs.size f cdv)) →
      XOk (cxOf (L2.CX P w) P w K mg base N qual (defScope st) f cdv A outer s H E) G xw → PSs (cxOf (L2.CX P w) P w K mg base N qual (defScope st) f cdv A outer s H E) (defBody st) (ts K G xw b))
    (hw : KeepsP n N.length F b) : FnOk P w K mg base (L2.CX P w) (k + 1) f fd ps (spL K mg n F) := by
  refine Fu.okX S (fun vs H Q E h => (spL_len vs H Q E h).trans hn.symm) fun cdv A outer s H vs Q E hr ⟨La, ds, p, ws, ev, l, r, pa, nl, q⟩ => ?_
  subst ev
  refine ⟨_, hb cdv A outer s H E ⟨H, fun a => a = p, La, none, SetTO P w⟩ (fun e _ => False) hr ⟨rfl, fun cls d _ H' => E cls d H', takes_of rfl rfl rfl rfl, fun e ρ σ pe H' O C d hx _ _ _ => hx.elim⟩, ?_⟩
  have hle := scope_le S
  have hvl := r.length
  have hps : (H p).isSome = true := by
    obtain ⟨_, _, _, _, _, _, _, e, _⟩ := pa
    rw [e]
    rfl
  have lo : ∀ {b : Addr}, La b → Lof ⟨H, fun a => a = p, La, none, SetTO P w⟩ (fun a => if a = p then some (.slot 0) else none) b := fun {b} z => ⟨if_neg (fun e : b = p => nl (e ▸ z)), .inl z⟩
  have pa' : PoolAt K (Lof ⟨H, fun a => a = p, La, none, SetTO P w⟩ (fun a => if a = p then some (.slot 0) else none)) H p := pa.mono (fun _ _ e _ => e) (fun _ _ _ z => lo z) rfl
  have fin : ∀ {O : Addr → Option Tg} {σ : L2.St} {ρ : En} {pe : Pend} {H' : Hp}, StO K ⟨H, fun a => a = p, La, none, SetTO P w⟩ O σ ρ pe H' → (∀ b y, H b = some y → b ≠ p → H' b = some y) ∧ PoolAt K (fun c => La c ∨ H c = none) H' p := fun {O σ ρ pe H'} S' =>
    ⟨fun b y z n => (S'.frame b y z n).1, (S'.pools p rfl).1.mono (fun _ _ e _ => e) (fun _ _ _ z => z.2) rfl⟩
  refine ⟨startP N.length ds, [], ⟨fun a => if a = p then some (.slot 0) else none, ⟨fun b y e n => ⟨e, if_neg n⟩, fun a t e => ?_, fun a h => ?_, ?_, fun i c e => ?_, trivial⟩⟩,
    b.mono (E := flFn _ _) ⟨fun ρ q σ H' ⟨O, S'⟩ => ?_, fun d ρ q v σ H' ⟨O, S'⟩ => ?_, fun _ z => z.elim, fun _ z => z.elim, fun _ _ z => z⟩ (hw ds _ l q)⟩
  · by_cases z : a = p
    · subst z
      obtain ⟨_, _, _, _, _, _, _, e, _⟩ := pa
      exact ⟨_, e, trivial⟩
    · rw [if_neg z] at e
      cases e
  · subst h
    exact ⟨pa', nl, hps⟩
  · unfold startP
    rw [List.length_cons, startE_len (by omega), start_len (by simp; omega)]
    omega
  · cases i with
    | zero =>
      cases e
      exact ⟨.ref p, start_get rfl, p, rfl, if_pos rfl, pa'⟩
    | succ i =>
      obtain ⟨d, h1, rfl⟩ := startE_get (show (startE (N.length - 1) ds)[i]? = some (some c) from e)
      obtain ⟨v, h2, h3⟩ := r.getD h1
      exact ⟨v, start_get (show (V.ref p :: ws)[i + 1]? = some v from h2), Rep.mono (fun _ _ e _ => e) (fun _ _ _ z => lo z) _ _ h3⟩
  · exact q .non H' (fin S').1 (fin S').2 (by simp [Rep])
  · exact q v H' (fin S').1 (fin S').2 (Rep.mono (fun _ _ e _ => e) (fun _ _ _ z => z.2) _ _ S'.top)
end
end Pu
end

section
namespace Pu
open PySem PySem.Spec PyProof.Rows L2

section
variable {K : PySem.W.Frag} {L L' : Addr → Prop} {H H' : Hp} {d : Da} {v : V}
theorem rep_int {i : Int} : Rep K L H (.int i) v ↔ v = .int i := by simp [Rep]
theorem rep_bl' {b : Bool} : Rep K L H (.bl b) v ↔ v = .bl b := by simp [Rep]
theorem rep_non : Rep K L H .non v ↔ v = .non := by simp [Rep]
theorem rep_str {s : Str} : Rep K L H (.str s) v ↔ v = .str s := by simp [Rep]
theorem rep_tup {ds : List Da} : Rep K L H (.tup ds) v ↔ ∃ a xs, v = .ref a ∧ SqT K H a xs ∧ ds.length ≤ sizeLine ∧ Reps K L H ds xs := by simp [Rep]
theorem rep_lst {ds : List Da} : Rep K L H (.lst ds) v ↔ ∃ a xs, v = .ref a ∧ (H a = some (.lst xs) ∧ L a) ∧ ds.length ≤ sizeLine ∧ Reps K L H ds xs := by simp [Rep, LAt]
theorem Rep.or (h : Rep K L H d v) : Rep K (fun c => L c ∨ H c = none) H d v := Rep.mono (fun _ _ e _ => e) (fun _ _ _ z => .inl z) _ _ h
theorem Reps.or {ds : List Da} {vs : List V} (h : Reps K L H ds vs) : Reps K (fun c => L c ∨ H c = none) H ds vs := Reps.mono (fun _ _ e _ => e) (fun _ _ _ z => .inl z) _ _ h
theorem same_ok : ∀ c u, H c = some u → H c = some u := fun _ _ h => h
theorem keep_new {p : Addr} {o : HO} (n : H p = none) : Keep L H (upd H p o) := fun b x e _ => keep_upd n b x e
/-- a new tuple, a new list -/
theorem rep_newT {p : Addr} {ds : List Da} {xs : List V} (n : H p = none) (z : ds.length ≤ sizeLine) (r : Reps K L H ds xs) : Rep K (fun c => L c ∨ H c = none) (upd H p (.tup xs)) (.tup ds) (.ref p) :=
  rep_tup.mpr ⟨p, xs, rfl, .of upd_same, z, Reps.mono (keep_new n) (fun _ _ _ z => .inl z) _ _ r⟩
theorem rep_newL {p : Addr} {ds : List Da} {xs : List V} (n : H p = none) (z : ds.length ≤ sizeLine) (r : Reps K L H ds xs) : Rep K (fun c => L c ∨ H c = none) (upd H p (.lst xs)) (.lst ds) (.ref p) :=
  rep_lst.mpr ⟨p, xs, rfl, ⟨upd_same, .inr n⟩, z, Reps.mono (keep_new n) (fun _ _ _ z => .inl z) _ _ r⟩
end

/-! ### arithmetic -/
def dAdd : Da → Da → Option Da
  | .int i, .int j => some (.int (i + j))
  | .str s, .str t => if s.length + t.length ≤ sizeLine then some (.str (s ++ t)) else none
  | .tup xs, .tup ys => if xs.length + ys.length ≤ sizeLine then some (.tup (xs ++ ys)) else none
  | .lst xs, .lst ys => if xs.length + ys.length ≤ sizeLine then some (.lst (xs ++ ys)) else none
  | _, _ => none
def rAdd (K : PySem.W.Frag) : R2 := fun x y H Q => ((∃ i j, x = .int i ∧ y = .int j ∧ Q (.int (i + j)) H) ∨ ∃ i j, x = .str i ∧ y = .str j ∧ i.length + j.length ≤ sizeLine ∧ Q (.str (i ++ j)) H) ∨ (rCatA K x y H Q ∨ rCat x y H Q)
theorem o_add {X : Cx} : OpR X (binaryOp .Add) (rAdd X.K) := (op_add.or op_add_str).or (op_catA.or op_cat)
theorem f_add {K : PySem.W.Frag} : Op2 K (rAdd K) dAdd := by
  intro L H dx dy d a b Q ra rb e q
  unfold dAdd at e
  split at e
  · cases e
    exact .inl (.inl ⟨_, _, rep_int.mp ra, rep_int.mp rb, q _ H same_ok (rep_int.mpr rfl)⟩)
  · split at e
    · cases e
      exact .inl (.inr ⟨_, _, rep_str.mp ra, rep_str.mp rb, by assumption, q _ H same_ok (rep_str.mpr rfl)⟩)
    · cases e
  · rename_i xs ys
    split at e
    · rename_i hz
      cases e
      have ra' := ra
      have rb' := rb
      obtain ⟨p, us, e1, h1, z1, r1⟩ := rep_tup.mp ra
      obtain ⟨p', us', e2, h2, z2, r2⟩ := rep_tup.mp rb
      have l1 := r1.length
      have l2 := r2.length
      refine .inr (.inl ⟨p, p', us, us', e1, e2, h1, h2, by omega, fun c => ?_, fun _ c => ?_, fun _ _ t nt => q _ _ (keep_upd nt) (rep_newT nt (by simpa using hz) (r1.app r2))⟩)
      · subst c
        cases xs with
        | nil => rw [← e2]; exact q _ H same_ok rb'.or
        | cons _ _ => cases l1
      · subst c
        cases ys with
        | nil => rw [← e1, List.append_nil] at *; exact q _ H same_ok ra'.or
        | cons _ _ => cases l2
    · cases e
  · rename_i xs ys
    split at e
    · rename_i hz
      cases e
      obtain ⟨p, us, e1, h1, z1, r1⟩ := rep_lst.mp ra
      obtain ⟨p', us', e2, h2, z2, r2⟩ := rep_lst.mp rb
      have l1 := r1.length
      have l2 := r2.length
      exact .inr (.inr ⟨p, p', us, us', e1, e2, h1.1, h2.1, by omega, fun t nt => q _ _ (keep_upd nt) (rep_newL nt (by simpa using hz) (r1.app r2))⟩)
    · cases e
  · cases e
def dI2 (f : Int → Int → Option Da) : Da → Da → Option Da
  | .int i, .int j => f i j
  | _, _ => none
@[simp] theorem dI2_int (f : Int → Int → Option Da) (i j : Int) : dI2 f (.int i) (.int j) = f i j := rfl
theorem of_dI2 {f : Int → Int → Option Da} {a b d : Da} (h : dI2 f a b = some d) : ∃ i j, a = .int i ∧ b = .int j ∧ f i j = some d := by
  unfold dI2 at h
  split at h
  · exact ⟨_, _, rfl, rfl, h⟩
  · cases h
theorem f_I0 {K : PySem.W.Frag} {g : Int → Int → Int} : Op2 K (rI0 fun i j => .int (g i j)) (dI2 fun i j => some (.int (g i j))) := by
  intro L H dx dy d a b Q ra rb e q
  obtain ⟨i, j, rfl, rfl, e⟩ := of_dI2 e
  cases e
  exact ⟨i, j, rep_int.mp ra, rep_int.mp rb, q _ H same_ok (rep_int.mpr rfl)⟩
theorem f_B0 {K : PySem.W.Frag} {g : Int → Int → Bool} : Op2 K (rI0 fun i j => .bl (g i j)) (dI2 fun i j => some (.bl (g i j))) := by
  intro L H dx dy d a b Q ra rb e q
  obtain ⟨i, j, rfl, rfl, e⟩ := of_dI2 e
  cases e
  exact ⟨i, j, rep_int.mp ra, rep_int.mp rb, q _ H same_ok (rep_bl'.mpr rfl)⟩
theorem f_IC {K : PySem.W.Frag} {C : Int → Int → Prop} [∀ i j, Decidable (C i j)] {g : Int → Int → Int} : Op2 K (rI C fun i j => .int (g i j)) (dI2 fun i j => if C i j then some (.int (g i j)) else none) := by
  intro L H dx dy d a b Q ra rb e q
  obtain ⟨i, j, rfl, rfl, e'⟩ := of_dI2 e
  clear e
  split at e'
  · cases e'
    exact ⟨i, j, rep_int.mp ra, rep_int.mp rb, by assumption, q _ H same_ok (rep_int.mpr rfl)⟩
  · cases e'
instance (i j : Int) : Decidable (CMul i j) := by unfold CMul; infer_instance
instance (i j : Int) : Decidable (CDiv i j) := by unfold CDiv; infer_instance
instance (i j : Int) : Decidable (CPow i j) := by unfold CPow; infer_instance
def dSub := dI2 fun i j => some (.int (i - j))
def dMul := dI2 fun i j => if CMul i j then some (.int (i * j)) else none
def dDiv := dI2 fun i j => if CDiv i j then some (.int (i / j)) else none
def dMod := dI2 fun i j => if 0 < j then some (.int (i % j)) else none
def dPow := dI2 fun i j => if CPow i j then some (.int (i ^ j.toNat)) else none
def dLt := dI2 fun i j => some (.bl (decide (i < j)))
def dLe := dI2 fun i j => some (.bl (decide (i ≤ j)))
def dGt := dI2 fun i j => some (.bl (decide (j < i)))
def dGe := dI2 fun i j => some (.bl (decide (j ≤ i)))
theorem f_sub {K : PySem.W.Frag} : Op2 K (rI0 fun i j => .int (i - j)) dSub := f_I0
theorem f_mul {K : PySem.W.Frag} : Op2 K (rI CMul fun i j => .int (i * j)) dMul := f_IC
theorem f_div {K : PySem.W.Frag} : Op2 K (rI CDiv fun i j => .int (i / j)) dDiv := f_IC
theorem f_mod {K : PySem.W.Frag} : Op2 K (rI (fun _ j => 0 < j) fun i j => .int (i % j)) dMod := f_IC
theorem f_pow {K : PySem.W.Frag} : Op2 K (rI CPow fun i j => .int (i ^ j.toNat)) dPow := f_IC
theorem f_lt {K : PySem.W.Frag} : Op2 K (rI0 fun i j => .bl (decide (i < j))) dLt := f_B0
theorem f_le {K : PySem.W.Frag} : Op2 K (rI0 fun i j => .bl (decide (i ≤ j))) dLe := f_B0
theorem f_gt {K : PySem.W.Frag} : Op2 K (rI0 fun i j => .bl (decide (j < i))) dGt := f_B0
theorem f_ge {K : PySem.W.Frag} : Op2 K (rI0 fun i j => .bl (decide (j ≤ i))) dGe := f_B0
def dNeg : Da → Option Da
  | .int i => some (.int (-i))
  | _ => none
theorem f_neg {K : PySem.W.Frag} : Op1 K (rU fun i => .int (-i)) dNeg := by
  intro L H dx d a Q ra e q
  cases dx <;> simp [dNeg] at e
  subst e
  exact ⟨_, rep_int.mp ra, q _ H same_ok (rep_int.mpr rfl)⟩

/-! ### == of data -/
mutual
def Da.py : Da → PyData
  | .non => .none
  | .bl b => .bool b
  | .int i => .int i
  | .str s => .str s
  | .tup ds => .tuple (Da.pys ds)
  | .lst ds => .list (Da.pys ds)
  | .obj _ _ _ => .none
  | .scr _ => .none
def Da.pys : List Da → List PyData
  | [] => []
  | d :: ds => d.py :: Da.pys ds
end
/-- data that == and in may look at, n deep at most -/
def Da.ok : Nat → Da → Bool
  | _, .non => true
  | _, .bl _ => true
  | _, .int _ => true
  | _, .str s => PyData.strOk s
  | 0, .tup _ => false
  | 0, .lst _ => false
  | n + 1, .tup ds => ds.all (Da.ok n)
  | n + 1, .lst ds => ds.all (Da.ok n)
  | _, .obj _ _ _ => false
  | _, .scr _ => false
mutual
def Da.eqv : Da → Da → Bool
  | .non, .non => true
  | .bl a, .bl b => a == b
  | .bl a, .int j => (if a then 1 else 0) == j
  | .int i, .bl b => i == (if b then 1 else 0)
  | .int i, .int j => i == j
  | .str s, .str t => s == t
  | .tup xs, .tup ys => Da.eqvs xs ys
  | .lst xs, .lst ys => Da.eqvs xs ys
  | _, _ => false
def Da.eqvs : List Da → List Da → Bool
  | [], [] => true
  | x :: xs, y :: ys => Da.eqv x y && Da.eqvs xs ys
  | _, _ => false
end
theorem pys_len (ds : List Da) : Da.pys ds = ds.map Da.py := by
  induction ds with
  | nil => rfl
  | cons d ds ih => simp [Da.pys, ih]
mutual
theorem ok_shape : ∀ (n : Nat) (d : Da), d.ok n = true → d.py.canLay0 = true ∧ d.py.depth ≤ n
  | n, .non, _ => by simp [Da.py, PyData.canLay0, PyData.depth]
  | n, .bl _, _ => by simp [Da.py, PyData.canLay0, PyData.depth]
  | n, .int _, _ => by simp [Da.py, PyData.canLay0, PyData.depth]
  | n, .str s, h => by
    have h' : PyData.strOk s = true := by cases n <;> simpa [Da.ok] using h
    simp [Da.py, PyData.canLay0, PyData.depth, h']
  | 0, .tup _, h => by simp [Da.ok] at h
  | 0, .lst _, h => by simp [Da.ok] at h
  | n + 1, .tup ds, h => by
    have q := ok_shapes n ds (by simpa only [Da.ok] using h)
    simp only [Da.py, PyData.canLay0, PyData.depth, q.1, true_and]
    omega
  | n + 1, .lst ds, h => by
    have q := ok_shapes n ds (by simpa only [Da.ok] using h)
    simp only [Da.py, PyData.canLay0, PyData.depth, q.1, true_and]
    omega
  | n, .obj _ _ _, h => by cases n <;> simp [Da.ok] at h
  | n, .scr _, h => by cases n <;> simp [Da.ok] at h
theorem ok_shapes : ∀ (n : Nat) (ds : List Da), ds.all (Da.ok n) = true → PyData.canLayAll0 (Da.pys ds) = true ∧ PyData.depthAll (Da.pys ds) ≤ n
  | n, [], _ => by simp [Da.pys, PyData.canLayAll0, PyData.depthAll]
  | n, d :: ds, h => by
    simp only [List.all_cons, Bool.and_eq_true] at h
    obtain ⟨a, b⟩ := ok_shape n d h.1
    obtain ⟨a', b'⟩ := ok_shapes n ds h.2
    simp only [Da.pys, PyData.canLayAll0, PyData.depthAll, a, a', Bool.and_self, true_and]
    omega
end
theorem ok_shaped {d : Da} (h : d.ok 60 = true) : SeqAt.shaped d.py = true := by
  obtain ⟨a, b⟩ := ok_shape 60 d h
  unfold SeqAt.shaped
  rw [a, Bool.true_and]
  exact decide_eq_true (by omega)
def Da.isOb : Da → Bool
  | .obj _ _ _ => true
  | .scr _ => true
  | _ => false
theorem ok_noOb {n : Nat} {d : Da} (h : d.ok n = true) : d.isOb = false := by
  cases d <;> first | rfl | (cases n <;> simp [Da.ok] at h)
mutual
theorem eqv_py : ∀ (n : Nat) (a b : Da), a.ok n = true → b.ok n = true → PyData.eqv a.py b.py = Da.eqv a b
  | n, .non, b, ha, hb => by cases b <;> first | (simp [Da.py, PyData.eqv, Da.eqv]; done) | (cases n <;> simp [Da.ok] at hb)
  | n, .bl _, b, ha, hb => by cases b <;> first | (simp [Da.py, PyData.eqv, Da.eqv]; done) | (cases n <;> simp [Da.ok] at hb)
  | n, .int _, b, ha, hb => by cases b <;> first | (simp [Da.py, PyData.eqv, Da.eqv]; done) | (cases n <;> simp [Da.ok] at hb)
  | n, .str _, b, ha, hb => by cases b <;> first | (simp [Da.py, PyData.eqv, Da.eqv]; done) | (cases n <;> simp [Da.ok] at hb)
  | 0, .tup _, b, ha, hb => by simp [Da.ok] at ha
  | 0, .lst _, b, ha, hb => by simp [Da.ok] at ha
  | n + 1, .tup xs, b, ha, hb => by
    cases b with
    | tup ys =>
      simp only [Da.py, PyData.eqv, Da.eqv]
      exact eqvs_py n xs ys (by simpa only [Da.ok] using ha) (by simpa only [Da.ok] using hb)
    | _ => first | (simp [Da.py, PyData.eqv, Da.eqv]; done) | simp [Da.ok] at hb
  | n + 1, .lst xs, b, ha, hb => by
    cases b with
    | lst ys =>
      simp only [Da.py, PyData.eqv, Da.eqv]
      exact eqvs_py n xs ys (by simpa only [Da.ok] using ha) (by simpa only [Da.ok] using hb)
    | _ => first | (simp [Da.py, PyData.eqv, Da.eqv]; done) | simp [Da.ok] at hb
  | n, .obj _ _ _, b, ha, hb => by cases n <;> simp [Da.ok] at ha
  | n, .scr _, b, ha, hb => by cases n <;> simp [Da.ok] at ha
theorem eqvs_py : ∀ (n : Nat) (xs ys : List Da), xs.all (Da.ok n) = true → ys.all (Da.ok n) = true → PyData.eqvAll (Da.pys xs) (Da.pys ys) = Da.eqvs xs ys
  | n, [], [], _, _ => by simp [Da.pys, PyData.eqvAll, Da.eqvs]
  | n, [], _ :: _, _, _ => by simp [Da.pys, PyData.eqvAll, Da.eqvs]
  | n, _ :: _, [], _, _ => by simp [Da.pys, PyData.eqvAll, Da.eqvs]
  | n, x :: xs, y :: ys, ha, hb => by
    simp only [List.all_cons, Bool.and_eq_true] at ha hb
    simp only [Da.pys, PyData.eqvAll, Da.eqvs, eqv_py n x y ha.1 hb.1, eqvs_py n xs ys ha.2 hb.2]
end
mutual
theorem rep_dp {K : PySem.W.Frag} {L : Addr → Prop} {H : Hp} : ∀ (n : Nat) (d : Da) (v : V), d.ok n = true → Rep K L H d v → Dp K H v d.py
  | n, .non, v, h, r => by rw [rep_non.mp r]; exact .non
  | n, .bl b, v, h, r => by rw [rep_bl'.mp r]; exact .bl b
  | n, .int i, v, h, r => by rw [rep_int.mp r]; exact .int i
  | n, .str s, v, h, r => by rw [rep_str.mp r]; exact .str s
  | 0, .tup _, v, h, r => by simp [Da.ok] at h
  | 0, .lst _, v, h, r => by simp [Da.ok] at h
  | n + 1, .tup ds, v, h, r => by
    obtain ⟨a, xs, e, q, _, rs⟩ := rep_tup.mp r
    subst e
    exact .tup q (reps_dp n ds xs (by simpa only [Da.ok] using h) rs)
  | n + 1, .lst ds, v, h, r => by
    obtain ⟨a, xs, e, q, _, rs⟩ := rep_lst.mp r
    subst e
    exact .lst (.of q.1) (reps_dp n ds xs (by simpa only [Da.ok] using h) rs)
  | n, .obj _ _ _, v, h, r => by cases n <;> simp [Da.ok] at h
  | n, .scr _, v, h, r => by cases n <;> simp [Da.ok] at h
theorem reps_dp {K : PySem.W.Frag} {L : Addr → Prop} {H : Hp} : ∀ (n : Nat) (ds : List Da) (vs : List V), ds.all (Da.ok n) = true → Reps K L H ds vs → DpAll K H vs (Da.pys ds)
  | n, [], vs, _, r => by simp only [Reps] at r; subst r; exact .nil
  | n, d :: ds, vs, h, r => by
    simp only [Reps] at r
    obtain ⟨x, ys, e, r1, r2⟩ := r
    subst e
    simp only [List.all_cons, Bool.and_eq_true] at h
    exact .cons (rep_dp n d x h.1 r1) (reps_dp n ds ys h.2 r2)
end
def dEq (a b : Da) : Option Da := if a.ok 60 = true ∧ b.ok 60 = true then some (.bl (a.eqv b)) else none
def dNe (a b : Da) : Option Da := if a.ok 60 = true ∧ b.ok 60 = true then some (.bl (!a.eqv b)) else none
theorem f_eq {K : PySem.W.Frag} : Op2 K (rEqD K) dEq := by
  intro L H dx dy d a b Q ra rb e q
  unfold dEq at e
  split at e
  · rename_i h
    cases e
    exact ⟨_, _, rep_dp 60 _ _ h.1 ra, rep_dp 60 _ _ h.2 rb, ok_shaped h.1, ok_shaped h.2, by rw [eqv_py 60 _ _ h.1 h.2]; exact q _ H same_ok (rep_bl'.mpr rfl)⟩
  · cases e
theorem f_ne {K : PySem.W.Frag} : Op2 K (rNeD K) dNe := by
  intro L H dx dy d a b Q ra rb e q
  unfold dNe at e
  split at e
  · rename_i h
    cases e
    exact ⟨_, _, rep_dp 60 _ _ h.1 ra, rep_dp 60 _ _ h.2 rb, ok_shaped h.1, ok_shaped h.2, by rw [eqv_py 60 _ _ h.1 h.2]; exact q _ H same_ok (rep_bl'.mpr rfl)⟩
  · cases e
/-! is None -/
def Da.isNon : Da → Bool
  | .non => true
  | _ => false
def dIsN (a b : Da) : Option Da := if b.isNon = true then some (.bl a.isNon) else none
def dNotN (a b : Da) : Option Da := if b.isNon = true then some (.bl (!a.isNon)) else none
theorem isNon_v {K : PySem.W.Frag} {L : Addr → Prop} {H : Hp} {d : Da} {v : V} (r : Rep K L H d v) : decide (v = .non) = d.isNon := by
  cases d with
  | non => rw [rep_non.mp r]; rfl
  | bl b => rw [rep_bl'.mp r]; rfl
  | int i => rw [rep_int.mp r]; rfl
  | str s => rw [rep_str.mp r]; rfl
  | tup ds => obtain ⟨a, _, e, _⟩ := rep_tup.mp r; rw [e]; rfl
  | lst ds => obtain ⟨a, _, e, _⟩ := rep_lst.mp r; rw [e]; rfl
  | obj c ns ds => simp only [Rep] at r; obtain ⟨a, _, _, e, _⟩ := r; rw [e]; rfl
  | scr ns => simp only [Rep] at r; obtain ⟨a, e, _⟩ := r; rw [e]; rfl
theorem f_isN {K : PySem.W.Frag} : Op2 K (fun x y H Q => y = .non ∧ Q (.bl (decide (x = .non))) H) dIsN := by
  intro L H dx dy d a b Q ra rb e q
  unfold dIsN at e
  split at e
  · rename_i h
    cases e
    have hb := isNon_v rb
    rw [h] at hb
    exact ⟨of_decide_eq_true hb, by rw [isNon_v ra]; exact q _ H same_ok (rep_bl'.mpr rfl)⟩
  · cases e
theorem f_notN {K : PySem.W.Frag} : Op2 K (fun x y H Q => y = .non ∧ Q (.bl (!decide (x = .non))) H) dNotN := by
  intro L H dx dy d a b Q ra rb e q
  unfold dNotN at e
  split at e
  · rename_i h
    cases e
    have hb := isNon_v rb
    rw [h] at hb
    exact ⟨of_decide_eq_true hb, by rw [isNon_v ra]; exact q _ H same_ok (rep_bl'.mpr rfl)⟩
  · cases e
/-! in -/
def Da.flat : Da → Bool
  | .non => true
  | .bl _ => true
  | .int _ => true
  | .str _ => true
  | _ => false
def dIn (neg : Bool) (a b : Da) : Option Da := match b with
  | .tup ds => if a.flat = true ∧ ds.all Da.flat = true then some (.bl (xor neg (ds.any fun z => z.eqv a))) else none
  | .lst ds => if a.flat = true ∧ ds.all Da.flat = true then some (.bl (xor neg (ds.any fun z => z.eqv a))) else if a.ok 50 = true ∧ ds.all (Da.ok 50) = true then some (.bl (xor neg (ds.any fun z => z.eqv a))) else none
  | _ => none
theorem flat_v {K : PySem.W.Frag} {L : Addr → Prop} {H : Hp} {d : Da} {v : V} (r : Rep K L H d v) (h : d.flat = true) : flatV v = true := by
  cases d <;> simp [Da.flat] at h
  · rw [rep_non.mp r]; rfl
  · rw [rep_bl'.mp r]; rfl
  · rw [rep_int.mp r]; rfl
  · rw [rep_str.mp r]; rfl
theorem eqV_flat {K : PySem.W.Frag} {L : Addr → Prop} {H : Hp} {d e : Da} {v w : V} (r : Rep K L H d v) (q : Rep K L H e w) (h : d.flat = true) (g : e.flat = true) : eqV v w = d.eqv e := by
  cases d <;> simp [Da.flat] at h <;> cases e <;> simp [Da.flat] at g <;> simp only [Rep] at r q <;> subst r <;> subst q <;> simp [eqV, Da.eqv]
theorem inV_flat {K : PySem.W.Frag} {L : Addr → Prop} {H : Hp} {a : Da} {v : V} (ra : Rep K L H a v) (ha : a.flat = true) : ∀ {ds : List Da} {vs : List V}, Reps K L H ds vs → ds.all Da.flat = true → vs.all flatV = true ∧ inV v vs = ds.any fun z => z.eqv a
  | [], vs, r, _ => by simp only [Reps] at r; subst r; exact ⟨rfl, rfl⟩
  | d :: ds, vs, r, h => by
    simp only [Reps] at r
    obtain ⟨x, ys, e, r1, r2⟩ := r
    subst e
    simp only [List.all_cons, Bool.and_eq_true] at h
    obtain ⟨h1, h2⟩ := inV_flat ra ha r2 h.2
    refine ⟨by rw [List.all_cons, flat_v r1 h.1, h1]; rfl, ?_⟩
    unfold inV at h2 ⊢
    rw [List.any_cons, List.any_cons, eqV_flat r1 ra h.1 ha, h2]
def rInA (K : PySem.W.Frag) (neg : Bool) : R2 := fun x y H Q => rIn K neg x y H Q ∨ (if neg then rNotInD K x y H Q else rInD K x y H Q)
theorem o_in {X : Cx} (hu : X.A.units + 65 < cLine) : OpR X (compareOp .In) (rInA X.K false) := op_in_seq.or (op_inD hu)
theorem o_notin {X : Cx} (hu : X.A.units + 65 < cLine) : OpR X (compareOp .NotIn) (rInA X.K true) := op_notIn_seq.or (op_notInD hu)
theorem any_py {a : Da} (ha : a.ok 50 = true) : ∀ {ds : List Da}, ds.all (Da.ok 50) = true → ((Da.pys ds).any fun z => PyData.eqv z a.py) = ds.any fun z => z.eqv a
  | [], _ => rfl
  | d :: ds, h => by
    simp only [List.all_cons, Bool.and_eq_true] at h
    simp only [Da.pys, List.any_cons, eqv_py 50 d a h.1 ha, any_py ha h.2]
theorem ok_mono : ∀ {n m : Nat} {d : Da}, n ≤ m → d.ok n = true → d.ok m = true
  | n, m, .non, _, _ => by cases m <;> simp [Da.ok]
  | n, m, .bl _, _, _ => by cases m <;> simp [Da.ok]
  | n, m, .int _, _, _ => by cases m <;> simp [Da.ok]
  | n, m, .str s, _, h => by
    have h' : PyData.strOk s = true := by cases n <;> simpa [Da.ok] using h
    cases m <;> simpa [Da.ok] using h'
  | 0, m, .tup _, _, h => by simp [Da.ok] at h
  | 0, m, .lst _, _, h => by simp [Da.ok] at h
  | n + 1, 0, .tup _, z, h => by omega
  | n + 1, 0, .lst _, z, h => by omega
  | n + 1, m + 1, .tup ds, z, h => by
    simp only [Da.ok, List.all_eq_true] at h ⊢
    exact fun x hx => ok_mono (by omega) (h x hx)
  | n + 1, m + 1, .lst ds, z, h => by
    simp only [Da.ok, List.all_eq_true] at h ⊢
    exact fun x hx => ok_mono (by omega) (h x hx)
  | n, m, .obj _ _ _, _, h => by cases n <;> simp [Da.ok] at h
  | n, m, .scr _, _, h => by cases n <;> simp [Da.ok] at h
theorem f_in {K : PySem.W.Frag} {neg : Bool} : Op2 K (rInA K neg) (dIn neg) := by
  intro L H dx dy d a b Q ra rb e q
  have fin : ∀ {k : Bool}, (if neg = true then !k else k) = xor neg k := fun {k} => by cases neg <;> cases k <;> rfl
  unfold dIn at e
  split at e
  · split at e
    · rename_i h
      cases e
      obtain ⟨p, xs, e1, hq, _, rs⟩ := rep_tup.mp rb
      obtain ⟨h1, h2⟩ := inV_flat ra h.1 rs h.2
      exact .inl ⟨p, xs, e1, .inr hq, flat_v ra h.1, h1, by rw [h2, fin]; exact q _ H same_ok (rep_bl'.mpr rfl)⟩
    · cases e
  · rename_i ds
    split at e
    · rename_i h
      cases e
      obtain ⟨p, xs, e1, hq, _, rs⟩ := rep_lst.mp rb
      obtain ⟨h1, h2⟩ := inV_flat ra h.1 rs h.2
      exact .inl ⟨p, xs, e1, .inl (.of hq.1), flat_v ra h.1, h1, by rw [h2, fin]; exact q _ H same_ok (rep_bl'.mpr rfl)⟩
    · split at e
      · rename_i h
        cases e
        have okb : (Da.lst ds).ok 51 = true := by simpa only [Da.ok] using h.2
        have db := rep_dp 51 _ _ okb rb
        have sb := ok_shaped (ok_mono (by omega) okb : (Da.lst ds).ok 60 = true)
        refine .inr ?_
        cases neg with
        | false => exact ⟨_, _, rep_dp 50 _ _ h.1 ra, db, ok_shaped (ok_mono (by omega) h.1), sb, by rw [any_py h.1 h.2]; simpa using q _ H same_ok (rep_bl'.mpr rfl)⟩
        | true => exact ⟨_, _, rep_dp 50 _ _ h.1 ra, db, ok_shaped (ok_mono (by omega) h.1), sb, by rw [any_py h.1 h.2]; simpa using q _ H same_ok (rep_bl'.mpr rfl)⟩
      · cases e
  · cases e
end Pu
end

section
namespace Pu
open PySem PySem.Spec PyProof.Rows L2

/-! ### places and slices -/
def dIdx (a b : Da) : Option Da := match b with
  | .int i => match a with
    | .tup ds => atI ds i
    | .lst ds => atI ds i
    | .str z => if z.length ≤ sizeLine then (atI z.cps.toList i).map fun c => .str ⟨#[c]⟩ else none
    | _ => none
  | _ => none
section
variable {K : PySem.W.Frag} {L : Addr → Prop} {H : Hp}
theorem atI_rep {ds : List Da} {xs : List V} {i : Int} {d : Da} (r : Reps K L H ds xs) (h : atI ds i = some d) : ∃ x, atI xs i = some x ∧ Rep K L H d x := by
  unfold atI at h ⊢
  rw [r.length]
  cases e : ixN ds.length i with
  | none => rw [e] at h; cases h
  | some j =>
    rw [e] at h
    exact r.getD h
theorem f_idx : Op2 K (rIx K) dIdx := by
  intro L H dx dy d a b Q ra rb e q
  unfold dIdx at e
  split at e
  · split at e
    · obtain ⟨p, xs, e1, hq, _, rs⟩ := rep_tup.mp ra
      obtain ⟨y, h1, h2⟩ := atI_rep rs e
      exact .inr (.inl ⟨p, xs, _, y, e1, rep_int.mp rb, hq, h1, q _ H same_ok h2.or⟩)
    · obtain ⟨p, xs, e1, hq, _, rs⟩ := rep_lst.mp ra
      obtain ⟨y, h1, h2⟩ := atI_rep rs e
      exact .inl ⟨p, xs, _, y, e1, rep_int.mp rb, .of hq.1, h1, q _ H same_ok h2.or⟩
    · split at e
      · rename_i hz
        simp only [Option.map_eq_some_iff] at e
        obtain ⟨c, h1, rfl⟩ := e
        exact .inr (.inr ⟨_, _, c, rep_str.mp ra, rep_int.mp rb, hz, h1, q _ H same_ok (rep_str.mpr rfl)⟩)
      · cases e
    · cases e
  · cases e
def cutD (ds : List Da) (lo hi : Option Int) : List Da := (ds.drop (HT.sIx ds.length 0 lo)).take (HT.sIx ds.length ds.length hi - HT.sIx ds.length 0 lo)
theorem cutD_rep {ds : List Da} {xs : List V} {lo hi : Option Int} (r : Reps K L H ds xs) : Reps K L H (cutD ds lo hi) (cutV xs lo hi) := by
  unfold cutD cutV
  rw [r.length]
  exact (r.drop _).take _
theorem cutD_len {ds : List Da} {lo hi : Option Int} : (cutD ds lo hi).length ≤ ds.length := by
  unfold cutD
  rw [List.length_take, List.length_drop]
  omega
theorem cutD_whole {ds : List Da} {lo hi : Option Int} (h : HT.sIx ds.length 0 lo = 0 ∧ HT.sIx ds.length ds.length hi = ds.length) : cutD ds lo hi = ds := by
  unfold cutD
  rw [h.1, h.2]
  simp
end
def dSl (a : Da) (lo hi : Option Int) : Option Da := match a with
  | .tup ds => some (.tup (cutD ds lo hi))
  | .lst ds => some (.lst (cutD ds lo hi))
  | .str z => if z.length ≤ sizeLine then some (.str (cutS z lo hi)) else none
  | _ => none
def rSl (K : PySem.W.Frag) : V → Option Int → Option Int → Hp → VK → Prop := fun x lo hi H Q => (rSlL K x lo hi H Q ∨ rSlA K x lo hi H Q) ∨ rSlS x lo hi H Q
theorem sl_any {X : Cx} : SlR X (rSl X.K) := (sl_list.or sl_tupA).or sl_str
section
variable {X : Cx} {G : Gc} {x : Ex → En → Prop}
def tpo (K : PySem.W.Frag) (G : Gc) (x : Ex → En → Prop) (m : W (Option Int)) : TO := fun σ H Q => ∃ ρ pe, Sd K G σ ρ pe H ∧ m.wp ρ (fun o ρ' => ∀ H', Sd K G σ ρ' pe H' → Q o H') x
def oNone : W (Option Int) := W.ret none
def oSome (m : W Da) : W (Option Int) := m.bind fun d => (W.opt (asI d)).bind fun i => W.ret (some i)
theorem _root_.L2.PO.of {e : Option Expr} {t t' : TO} (h : PO X e t) (w : ∀ σ H Q, t' σ H Q → t σ H Q) : PO X e t' := ⟨fun pins s σ H Q I q => h.run pins s σ H Q I (w σ H Q q)⟩
theorem o_none : PO X none (tpo X.K G x oNone) := po_none.of fun σ H Q ⟨ρ, pe, S, q⟩ => q H S
theorem o_some {e : Expr} {m : W Da} (h : PE X e (tp X.K G x m)) : PO X (some e) (tpo X.K G x (oSome m)) := (po_some h).of fun σ H Q ⟨ρ, pe, S, q⟩ => ⟨ρ, pe, S, m.mono (fun d ρ1 q v H1 ⟨O, S1⟩ => by
  obtain ⟨i, e, q⟩ := W.opt_wp (o := asI d) q
  have e' := of_asI e
  subst e'
  exact ⟨i, rep_int.mp S1.top, q H1 ⟨O, S1.pop⟩⟩) (fun _ _ z => z) q⟩
def eIdx (a b : W Da) : W Da := eOp2 dIdx a b
def eSl (a : W Da) (lo hi : W (Option Int)) : W Da := a.bind fun d => lo.bind fun l => hi.bind fun h => W.opt (dSl d l h)
theorem p_idx {a b : Expr} {pos : Pos} {ma mb : W Da} (ha : PE X a (tp X.K G x ma)) (hb : PE X b (tp X.K G x mb)) (hs : PlainIx b := by exact fun _ _ => rfl) : PE X (.Subscript a b pos) (tp X.K G x (eIdx ma mb)) :=
  (pe_ix ix_seq ha hb hs).of fun _ _ _ q => tp2 f_idx q
theorem p_sl {e : Expr} {lo hi : Option Expr} {p2 pos : Pos} {m : W Da} {ml mh : W (Option Int)} (he : PE X e (tp X.K G x m)) (hl : PO X lo (tpo X.K G x ml)) (hu : PO X hi (tpo X.K G x mh)) : PE X (.Subscript e (.Slice lo hi none p2) pos) (tp X.K G x (eSl m ml mh)) :=
  (pe_slice sl_any he hl hu).of fun σ H Q ⟨ρ, pe, S, q⟩ => by
    refine ⟨ρ, pe, S, m.mono (fun d ρ1 q v H1 S1 => ⟨ρ1, _, S1, ml.mono (fun l ρ2 q H2 S2 => ⟨ρ2, _, S2, mh.mono (fun h ρ3 q H3 S3 => ?_) (fun _ _ z => z) q⟩) (fun _ _ z => z) q⟩) (fun _ _ z => z) q⟩
    obtain ⟨r, er, q⟩ := W.opt_wp q
    obtain ⟨O, S3⟩ := S3
    have rd := S3.top
    unfold dSl at er
    split at er
    · rename_i ds
      cases er
      obtain ⟨a, xs, e1, hq, z, rs⟩ := rep_tup.mp rd
      have hl := rs.length
      refine .inl (.inr ⟨a, xs, e1, hq, fun w => ?_, fun _ p np => q _ _ ⟨O, S3.pop.result (keep_upd np) (rep_newT np (Nat.le_trans cutD_len z) (cutD_rep rs))⟩⟩)
      rw [hl] at w
      rw [cutD_whole w] at q
      exact q _ _ ⟨O, by rw [← e1]; exact S3⟩
    · cases er
      obtain ⟨a, xs, e1, hq, z, rs⟩ := rep_lst.mp rd
      exact .inl (.inl ⟨a, xs, e1, .of hq.1, fun p np => q _ _ ⟨O, S3.pop.result (keep_upd np) (rep_newL np (Nat.le_trans cutD_len z) (cutD_rep rs))⟩⟩)
    · split at er
      · rename_i hz
        cases er
        exact .inr ⟨_, rep_str.mp rd, hz, q _ _ ⟨O, S3.pop.pushD (rep_str.mpr rfl)⟩⟩
      · cases er
    · cases er
end

/-! ### built-in functions -/
def dLen : List Da → Option Da
  | [.tup ds] => some (.int ds.length)
  | [.lst ds] => some (.int ds.length)
  | [.str z] => if z.length ≤ sizeLine then some (.int z.length) else none
  | _ => none
def rLen (K : PySem.W.Frag) : List V → Hp → VK → Prop := fun xs H Q => (∃ p ys, xs = [.ref p] ∧ (SqL K H p ys ∨ SqT K H p ys) ∧ Q (.int ys.length) H) ∨ ∃ z, xs = [.str z] ∧ z.length ≤ sizeLine ∧ Q (.int z.length) H
theorem c_len {X : Cx} : CallR X (.builtin "len") (rLen X.K) := call_len_seq.or call_len_str
section
variable {K : PySem.W.Frag} {L : Addr → Prop} {H : Hp}
theorem reps1 {d : Da} {vs : List V} (r : Reps K L H [d] vs) : ∃ v, vs = [v] ∧ Rep K L H d v := by
  simp only [Reps] at r
  obtain ⟨v, ys, e, r, rfl⟩ := r
  exact ⟨v, e, r⟩
theorem reps2 {d e : Da} {vs : List V} (r : Reps K L H [d, e] vs) : ∃ v w, vs = [v, w] ∧ Rep K L H d v ∧ Rep K L H e w := by
  simp only [Reps] at r
  obtain ⟨v, ys, e1, r1, w, zs, e2, r2, rfl⟩ := r
  subst e2
  exact ⟨v, w, e1, r1, r2⟩
theorem f_len : OpN K (rLen K) dLen := by
  intro L H ds d vs Q r e q
  unfold dLen at e
  split at e
  · obtain ⟨v, rfl, rv⟩ := reps1 r
    cases e
    obtain ⟨p, xs, e1, hq, _, rs⟩ := rep_tup.mp rv
    subst e1
    exact .inl ⟨p, xs, rfl, .inr hq, by rw [rs.length]; exact q _ H same_ok (rep_int.mpr rfl)⟩
  · obtain ⟨v, rfl, rv⟩ := reps1 r
    cases e
    obtain ⟨p, xs, e1, hq, _, rs⟩ := rep_lst.mp rv
    subst e1
    exact .inl ⟨p, xs, rfl, .inl (.of hq.1), by rw [rs.length]; exact q _ H same_ok (rep_int.mpr rfl)⟩
  · obtain ⟨v, rfl, rv⟩ := reps1 r
    split at e
    · rename_i hz
      cases e
      exact .inr ⟨_, by rw [rep_str.mp rv], hz, q _ H same_ok (rep_int.mpr rfl)⟩
    · cases e
  · cases e
def iabs (i : Int) : Int := if i < 0 then -i else i
def dAbs : List Da → Option Da
  | [.int i] => some (.int (iabs i))
  | _ => none
theorem f_abs : OpN K (fun xs H Q => ∃ i, xs = [.int i] ∧ Q (.int (if i < 0 then -i else i)) H) dAbs := by
  intro L H ds d vs Q r e q
  unfold dAbs at e
  split at e
  · obtain ⟨v, rfl, rv⟩ := reps1 r
    cases e
    exact ⟨_, by rw [rep_int.mp rv], q _ H same_ok (rep_int.mpr rfl)⟩
  · cases e
def dInt : List Da → Option Da
  | [.int i] => some (.int i)
  | [.bl b] => some (.int (if b then 1 else 0))
  | _ => none
theorem f_int : OpN K (fun xs H Q => (∃ i, xs = [.int i] ∧ Q (.int i) H) ∨ ∃ k, xs = [.bl k] ∧ Q (.int (if k then 1 else 0)) H) dInt := by
  intro L H ds d vs Q r e q
  unfold dInt at e
  split at e
  · obtain ⟨v, rfl, rv⟩ := reps1 r
    cases e
    exact .inl ⟨_, by rw [rep_int.mp rv], q _ H same_ok (rep_int.mpr rfl)⟩
  · obtain ⟨v, rfl, rv⟩ := reps1 r
    cases e
    exact .inr ⟨_, by rw [rep_bl'.mp rv], q _ H same_ok (rep_int.mpr rfl)⟩
  · cases e
def dTuple : List Da → Option Da
  | [.tup ds] => some (.tup ds)
  | [.lst ds] => some (.tup ds)
  | _ => none
theorem f_tuple : OpN K (fun xs H Q => ∃ p ys, xs = [.ref p] ∧ ((SqL K H p ys ∧ ∀ l, H l = none → Q (.ref l) (upd H l (.tup ys))) ∨ (SqT K H p ys ∧ Q (.ref p) H))) dTuple := by
  intro L H ds d vs Q r e q
  unfold dTuple at e
  split at e
  · obtain ⟨v, rfl, rv⟩ := reps1 r
    cases e
    obtain ⟨p, xs, e1, hq, _, rs⟩ := rep_tup.mp rv
    subst e1
    exact ⟨p, xs, rfl, .inr ⟨hq, q _ H same_ok rv.or⟩⟩
  · obtain ⟨v, rfl, rv⟩ := reps1 r
    cases e
    obtain ⟨p, xs, e1, hq, z, rs⟩ := rep_lst.mp rv
    subst e1
    exact ⟨p, xs, rfl, .inl ⟨.of hq.1, fun l nl => q _ _ (keep_upd nl) (rep_newT nl z rs)⟩⟩
  · cases e
/-- a list's items, if all are boolL, intL -/
def boolL : List Da → Option (List Bool)
  | [] => some []
  | .bl b :: r => (boolL r).map (b :: ·)
  | _ => none
def intL : List Da → Option (List Int)
  | [] => some []
  | .int i :: r => (intL r).map (i :: ·)
  | _ => none
theorem boolL_rep : ∀ {ds : List Da} {bs : List Bool} {vs : List V}, boolL ds = some bs → Reps K L H ds vs → vs = bs.map V.bl
  | [], bs, vs, h, r => by
    cases h
    simp only [Reps] at r
    subst r
    rfl
  | .bl b :: ds, bs, vs, h, r => by
    simp only [boolL, Option.map_eq_some_iff] at h
    obtain ⟨bs', h, rfl⟩ := h
    simp only [Reps] at r
    obtain ⟨v, ys, rfl, r1, r2⟩ := r
    rw [rep_bl'.mp r1, boolL_rep h r2]
    rfl
theorem intL_rep : ∀ {ds : List Da} {ns : List Int} {vs : List V}, intL ds = some ns → Reps K L H ds vs → vs = ns.map V.int
  | [], ns, vs, h, r => by
    cases h
    simp only [Reps] at r
    subst r
    rfl
  | .int b :: ds, ns, vs, h, r => by
    simp only [intL, Option.map_eq_some_iff] at h
    obtain ⟨ns', h, rfl⟩ := h
    simp only [Reps] at r
    obtain ⟨v, ys, rfl, r1, r2⟩ := r
    rw [rep_int.mp r1, intL_rep h r2]
    rfl
@[simp] theorem boolL_map (bs : List Bool) : boolL (bs.map Da.bl) = some bs := by
  induction bs with
  | nil => rfl
  | cons b bs ih => simp [boolL, ih]
@[simp] theorem intL_map (ns : List Int) : intL (ns.map Da.int) = some ns := by
  induction ns with
  | nil => rfl
  | cons b bs ih => simp [intL, ih]
def dAll : List Da → Option Da
  | [.lst ds] => (boolL ds).map fun bs => .bl (bs.all id)
  | _ => none
def dAny : List Da → Option Da
  | [.lst ds] => (boolL ds).map fun bs => .bl (bs.any id)
  | _ => none
def dSum : List Da → Option Da
  | [.lst ds] => (intL ds).map fun ns => .int ns.sum
  | _ => none
theorem f_all : OpN K (rAll K) dAll := by
  intro L H ds d vs Q r e q
  unfold dAll at e
  split at e
  · obtain ⟨v, rfl, rv⟩ := reps1 r
    simp only [Option.map_eq_some_iff] at e
    obtain ⟨bs, hb, rfl⟩ := e
    obtain ⟨p, xs, e1, hq, z, rs⟩ := rep_lst.mp rv
    subst e1
    rw [boolL_rep hb rs] at hq
    exact ⟨p, bs, rfl, .of hq.1, q _ H same_ok (rep_bl'.mpr rfl)⟩
  · cases e
theorem f_any : OpN K (rAny K) dAny := by
  intro L H ds d vs Q r e q
  unfold dAny at e
  split at e
  · obtain ⟨v, rfl, rv⟩ := reps1 r
    simp only [Option.map_eq_some_iff] at e
    obtain ⟨bs, hb, rfl⟩ := e
    obtain ⟨p, xs, e1, hq, z, rs⟩ := rep_lst.mp rv
    subst e1
    rw [boolL_rep hb rs] at hq
    exact ⟨p, bs, rfl, .of hq.1, q _ H same_ok (rep_bl'.mpr rfl)⟩
  · cases e
theorem f_sum : OpN K (rSum K) dSum := by
  intro L H ds d vs Q r e q
  unfold dSum at e
  split at e
  · obtain ⟨v, rfl, rv⟩ := reps1 r
    simp only [Option.map_eq_some_iff] at e
    obtain ⟨bs, hb, rfl⟩ := e
    obtain ⟨p, xs, e1, hq, z, rs⟩ := rep_lst.mp rv
    subst e1
    rw [intL_rep hb rs] at hq
    exact ⟨p, bs, rfl, .of hq.1, q _ H same_ok (rep_int.mpr rfl)⟩
  · cases e
end

section
variable {X : Cx} {G : Gc} {x : Ex → En → Prop}
/-- list(e): a list of our own -/
def asSeq : Da → Option (List Da)
  | .tup ds => some ds
  | .lst ds => some ds
  | .scr ns => some (ns.map Da.int)
  | _ => none
def eList (m : W Da) : W (List Da) := m.bind fun d => W.opt (asSeq d)
theorem intL_reps {K : PySem.W.Frag} {L : Addr → Prop} {H : Hp} : ∀ ns : List Int, Reps K L H (ns.map Da.int) (ns.map V.int)
  | [] => rfl
  | n :: ns => by
    simp only [List.map_cons, Reps]
    exact ⟨_, _, rfl, rep_int.mpr rfl, intL_reps ns⟩
/-- isinstance(e, T) -/
def tyD : Da → Option String
  | .non => some "NoneType"
  | .bl _ => some "bool"
  | .int _ => some "int"
  | .str _ => some "str"
  | .tup _ => some "tuple"
  | .lst _ => some "list"
  | _ => none
def isiS (t c : String) : Bool := t == c || (t == "bool" && c == "int")
theorem isi_ok {t c : String} (ht : t ∈ ["NoneType", "bool", "int", "str", "tuple", "list"]) (hc : c ∈ ["bool", "int", "str", "tuple", "list"]) : kitB t c = some (isiS t c) := by
  simp only [List.mem_cons, List.not_mem_nil, or_false] at ht hc
  rcases ht with rfl | rfl | rfl | rfl | rfl | rfl <;> rcases hc with rfl | rfl | rfl | rfl | rfl <;> decide +kernel
theorem tyD_mem {d : Da} {t : String} (h : tyD d = some t) : t ∈ ["NoneType", "bool", "int", "str", "tuple", "list"] := by
  cases d <;> simp [tyD] at h <;> subst h <;> simp
theorem tyD_ty {K : PySem.W.Frag} {L : Addr → Prop} {H : Hp} {d : Da} {v : V} {t : String} (r : Rep K L H d v) (h : tyD d = some t) : TyX K H v (.type t) := by
  cases d <;> simp [tyD] at h <;> subst h
  · rw [rep_non.mp r]; exact .base .non
  · rw [rep_bl'.mp r]; exact .base (.bl _)
  · rw [rep_int.mp r]; exact .base (.int _)
  · rw [rep_str.mp r]; exact .base (.str _)
  · obtain ⟨a, xs, e, q, _⟩ := rep_tup.mp r
    subst e
    rcases q with (q | ⟨o, q⟩) | ⟨o, its, n, q, c, _⟩
    · exact .base (.tup q)
    · exact .fTuple q
    · exact .kTuple q c
  · obtain ⟨a, xs, e, q, _⟩ := rep_lst.mp r
    subst e
    exact .base (.lst q.1)
def eIsi (c : String) (m : W Da) : W Da := m.bind fun d => (W.opt (tyD d)).bind fun t => W.ret (.bl (isiS t c))
theorem p_isi {e : Expr} {p p2 pos : Pos} {m : W Da} {c : String} {cn : Str} (hg : Gl X "isinstance") (hm : X.mg "isinstance" = none) (hv : bootBuiltins "isinstance" = some (.builtin "isinstance")) (he : PE X e (tp X.K G x m))
    (hc : PE X (.Name cn p2) (tC (.ty c))) (hmem : c ∈ ["bool", "int", "str", "tuple", "list"]) (hs0 : starEach [e, .Name cn p2] X.env = (false, eval e X.env) :: starEach [.Name cn p2] X.env := by rfl)
    (hs : starEach [.Name cn p2] X.env = (false, eval (.Name cn p2) X.env) :: starEach [] X.env := by rfl) (hpl : (backTo pos (starEach [.Name cn p2] X.env)).any (·.1) = false := by rfl) :
    PE X (.Call (.Name "isinstance" p) [e, .Name cn p2] [] pos) (tp X.K G x (eIsi c m)) :=
  (pe_callB call_isi hg hm hv (pa_cons he (pa_cons hc pa_nil hs) hs0) (by decide) (by decide) hs0 hpl).of fun σ H Q ⟨ρ, pe, S, q⟩ => ⟨ρ, pe, S, m.mono (fun d ρ1 q v H1 ⟨O, S1⟩ => by
    obtain ⟨t, e, q⟩ := W.opt_wp (o := tyD d) q
    exact ⟨v, .ty c, .type t, .type c, isiS t c, rfl, .ty c, tyD_ty S1.top e, kit_ty (isi_ok (tyD_mem e) hmem), q _ H1 ⟨O, S1.pop.pushD (rep_bl'.mpr rfl)⟩⟩) (fun _ _ z => z) q⟩

/-! ### our own lists are changed -/
def sAppend (i : Nat) (m : W Da) : Sx := ⟨fun ρ E => ∃ ds0, lookOwn ρ i = some ds0 ∧ m.wp ρ (fun d ρ' => ∃ ds, lookOwn ρ' i = some ds ∧ ds.length < 16777216 ∧ E.nx (ρ'.set i (some (.own (ds ++ [d]))))) E.ex,
  fun l ⟨ds0, e0, h⟩ => ⟨ds0, e0, m.mono (fun d ρ' ⟨ds, e, z, q⟩ => ⟨ds, e, z, l.nx _ q⟩) l.ex h⟩⟩
def asL : Da → Option (List Da)
  | .lst ds => some ds
  | _ => none
theorem of_asL {d : Da} {ds : List Da} (h : asL d = some ds) : d = .lst ds := by
  cases d <;> simp [asL] at h
  subst h
  rfl
@[simp] theorem asL_lst (ds : List Da) : asL (.lst ds) = some ds := rfl
def sExtend (i : Nat) (m : W Da) : Sx := ⟨fun ρ E => ∃ ds0, lookOwn ρ i = some ds0 ∧ m.wp ρ (fun d ρ' => ∃ ds es, lookOwn ρ' i = some ds ∧ asL d = some es ∧ ds.length + es.length ≤ 16777216 ∧ E.nx (ρ'.set i (some (.own (ds ++ es))))) E.ex,
  fun l ⟨ds0, e0, h⟩ => ⟨ds0, e0, m.mono (fun d ρ' ⟨ds, es, e, e2, z, q⟩ => ⟨ds, es, e, e2, z, l.nx _ q⟩) l.ex h⟩⟩
theorem s_append {o e : Expr} {i : Nat} {apos cpos pos : Pos} {m : W Da} (ho : PE X o (tVar i)) (he : PE X e (tp X.K G x m)) (hbase : attributeBase o "append" X.env (eval o X.env) = eval o X.env := by rfl)
    (hfew : ((backTo cpos (starEach [e] X.env)).all (fun x => !x.1) && (backToKw cpos (keywordEach [] X.env)).all (fun x => x.1.isSome) && decide ([e].length + ([] : List Keyword).length + (if ([] : List Keyword).isEmpty then 0 else 1) < 30)) = true := by rfl)
    (hline : (apos.endLine == cpos.line) = true := by rfl) (hs : starEach [e] X.env = (false, eval e X.env) :: starEach [] X.env := by rfl) (hsw : swapsWith (.Call (.Attribute o "append" apos) [e] [] cpos) none pos.line X.env = pure false := by rfl) :
    PS X (.Expr (.Call (.Attribute o "append" apos) [e] [] cpos) pos) (ts X.K G x (sAppend i m)) :=
  (ps_expr (pe_bm PySem.F.plainAttrs_list PySem.F.slot_list_append PySem.F.type_list_append mt_append ho (pa_cons he pa_nil hs) hbase hfew hline hs) hsw).of fun D σ H ⟨ρ, pe, ⟨O, S⟩, ds0, e0, q⟩ => by
    obtain ⟨v, hv, p, xs, ev, op, hp, _⟩ := S.slots i _ (of_lookOwn e0)
    subst ev
    refine ⟨_, hv, .inl ⟨rfl, xs, .of hp⟩, ρ, pe, ⟨O, S⟩, m.mono (fun d ρ1 ⟨ds, e1, hz, q⟩ w H1 ⟨O1, S1⟩ => ?_) (fun _ _ z => z) q⟩
    obtain ⟨v', hv', p', xs', ev', op', hp', _, rs, _⟩ := S1.slots i _ (of_lookOwn e1)
    rw [hv] at hv'
    cases hv'
    cases ev'
    have hl := rs.length
    exact ⟨p, xs', w, rfl, rfl, hp', by rw [line_eq]; omega, q σ _ ⟨O1, S1.pop.change (xs := xs') (of_lookOwn e1) hv op' (by rw [line_eq]; simp; omega) (rs.snoc S1.top)⟩⟩
theorem s_extend {o e : Expr} {i : Nat} {apos cpos pos : Pos} {m : W Da} (ho : PE X o (tVar i)) (he : PE X e (tp X.K G x m)) (hbase : attributeBase o "extend" X.env (eval o X.env) = eval o X.env := by rfl)
    (hfew : ((backTo cpos (starEach [e] X.env)).all (fun x => !x.1) && (backToKw cpos (keywordEach [] X.env)).all (fun x => x.1.isSome) && decide ([e].length + ([] : List Keyword).length + (if ([] : List Keyword).isEmpty then 0 else 1) < 30)) = true := by rfl)
    (hline : (apos.endLine == cpos.line) = true := by rfl) (hs : starEach [e] X.env = (false, eval e X.env) :: starEach [] X.env := by rfl) (hsw : swapsWith (.Call (.Attribute o "extend" apos) [e] [] cpos) none pos.line X.env = pure false := by rfl) :
    PS X (.Expr (.Call (.Attribute o "extend" apos) [e] [] cpos) pos) (ts X.K G x (sExtend i m)) :=
  (ps_expr (pe_bm PySem.F.plainAttrs_list PySem.F.slot_list_extend PySem.F.type_list_extend mt_extend ho (pa_cons he pa_nil hs) hbase hfew hline hs) hsw).of fun D σ H ⟨ρ, pe, ⟨O, S⟩, ds0, e0, q⟩ => by
    obtain ⟨v, hv, p, xs, ev, op, hp, _⟩ := S.slots i _ (of_lookOwn e0)
    subst ev
    refine ⟨_, hv, .inl ⟨rfl, xs, .of hp⟩, ρ, pe, ⟨O, S⟩, m.mono (fun d ρ1 ⟨ds, es, e1, e2, hz, q⟩ w H1 ⟨O1, S1⟩ => ?_) (fun _ _ z => z) q⟩
    have ed := of_asL e2
    subst ed
    obtain ⟨v', hv', p', xs', ev', op', hp', _, rs, _⟩ := S1.slots i _ (of_lookOwn e1)
    rw [hv] at hv'
    cases hv'
    cases ev'
    obtain ⟨b, ys, e3, hb, _, rs2⟩ := rep_lst.mp S1.top
    subst e3
    have hl := rs.length
    have hl2 := rs2.length
    exact ⟨p, b, xs', ys, rfl, rfl, hp', hb.1, by rw [line_eq]; omega, q σ _ ⟨O1, S1.pop.change (xs := xs') (of_lookOwn e1) hv op' (by rw [line_eq]; simp; omega) (rs.app rs2)⟩⟩
end
end Pu
end

section
set_option maxHeartbeats 2000000
/-! Us1: sets whose members are tuples of flat items (numbers, truth values, texts, None), by leafKind. -/
namespace Us
open PySem PySem.Spec PyProof.Rows L2

abbrev Ky := List Int
abbrev lf (k : Ky) : List Leaf := k.map Leaf.num
abbrev IsU (P : Program) (w : World) (h : Heap) (k : Ky) (a : Addr) : Prop := IsTupleKey (leafKind P w) h (lf k) a
abbrev hU (P : Program) (w : World) (k : Ky) : Int := tupleKeyHash (leafKind P w) (lf k)
theorem lf_iff {j k : Ky} : lf j = lf k ↔ j = k := by
  refine ⟨fun e => ?_, fun e => by rw [e]⟩
  induction j generalizing k with
  | nil => cases k with
    | nil => rfl
    | cons y k => cases e
  | cons x j ih => cases k with
    | nil => cases e
    | cons y k =>
      simp only [lf, List.map_cons, List.cons.injEq, Leaf.num.injEq] at e
      rw [e.1, ih e.2]
abbrev Mem := List (Addr × Ky)

section small
variable {P : Program} {w : World} {A : Around} {E : Value → Shared → Prop} {s : Shared}

theorem leaf_flat {k : Int} {v : Value} (e : Leaf.isOf (.num k) v = true) : (∀ n, ofAClassStatement n v = pure false) ∧ ∀ n, hashByValue n v = pure true := by
  have q := Leaf.nested (h := default) e
  cases q with
  | int _ t => exact ⟨fun n => by cases n <;> rfl, fun n => by cases n <;> rfl⟩
  | bool => exact ⟨fun n => by cases n <;> rfl, fun n => by cases n <;> rfl⟩
theorem items_flat : ∀ {k : Ky} {vs : List Value} (h : ItemsAre (leafKind P w) (lf k) vs), ∀ v ∈ vs, (∀ n, ofAClassStatement n v = pure false) ∧ ∀ n, hashByValue n v = pure true
  | [], _, h, v, hv => by cases h; cases hv
  | k :: ks, _, h, v, hv => by
    cases h with
    | cons h1 h2 =>
      cases hv with
      | head => exact leaf_flat h1
      | tail _ hv => exact items_flat h2 v hv

theorem noClass {k : Ky} {b : Addr} {Q : Bool → Shared → Prop} (x : IsU P w s.heap k b) (q : Q false s) : wpAny (model P w) A (ofAClassStatement 8 (.ref b)) Q E s := by
  have ty := x.typeIs
  obtain ⟨ob, its, n, g1, _, g2, g3⟩ := x
  have flat := items_flat g3
  unfold ofAClassStatement
  refine wpAny_bind (wpAny_typeOf ty ?_)
  dsimp only
  simp only [show (("tuple" : String) == "tuple") = true by decide, if_true, Bool.not_true, Bool.false_eq_true, if_false]
  try refine wpAny_bind (wpAny_pure ?_)
  try simp only [Bool.not_true, Bool.false_eq_true, if_false]
  show wpAny _ _ (seqItems? (.ref b) >>= _) _ _ s
  refine wpAny_bind (wpAny_seqItems g1 g2 ?_)
  dsimp only
  refine wpAny_bind ?_
  show wpAny _ _ (forIn its _ _) _ _ s
  rw [← Array.forIn_toList]
  refine wpAny_forIn_list _ (fun todo r s' => r.1 = none ∧ s' = s ∧ ∀ v ∈ todo, (∀ n, ofAClassStatement n v = pure false)) _ ?_ ?_ _ _ ⟨rfl, rfl, fun v hv => (flat v hv).1⟩
  · rintro v todo r s' ⟨e1, rfl, al⟩
    rw [al v List.mem_cons_self]
    refine wpAny_bind (wpAny_pure ?_)
    simp only [Bool.false_eq_true, if_false]
    exact wpAny_pure ⟨rfl, rfl, fun u z => al u (List.mem_cons_of_mem _ z)⟩
  · rintro ⟨r1, r2⟩ s' ⟨e1, rfl, _⟩
    simp only at e1
    subst e1
    exact wpAny_pure q
theorem byVal {k : Ky} {b : Addr} {Q : Bool → Shared → Prop} (x : IsU P w s.heap k b) (q : Q true s) : wpAny (model P w) A (hashByValue 8 (.ref b)) Q E s := by
  have ty := x.typeIs
  obtain ⟨ob, its, n, g1, _, g2, g3⟩ := x
  have flat := items_flat g3
  unfold hashByValue
  refine wpAny_bind (wpAny_specialOf ty F.slot_tuple_hash.lookup ?_)
  show wpAny _ _ (seqItems? (.ref b) >>= _) _ _ s
  refine wpAny_bind (wpAny_seqItems g1 g2 ?_)
  refine wpAny_bind ?_
  show wpAny _ _ (forIn its _ _) _ _ s
  rw [← Array.forIn_toList]
  refine wpAny_forIn_list _ (fun todo r s' => r.1 = none ∧ s' = s ∧ ∀ v ∈ todo, (∀ n, hashByValue n v = pure true)) _ ?_ ?_ _ _ ⟨rfl, rfl, fun v hv => (flat v hv).2⟩
  · rintro v todo r s' ⟨e1, rfl, al⟩
    rw [al v List.mem_cons_self]
    refine wpAny_bind (wpAny_pure ?_)
    simp only [Bool.not_true, Bool.false_eq_true, if_false]
    exact wpAny_pure ⟨rfl, rfl, fun u z => al u (List.mem_cons_of_mem _ z)⟩
  · rintro ⟨r1, r2⟩ s' ⟨e1, rfl, _⟩
    simp only at e1
    subst e1
    exact wpAny_pure q
theorem unseen {k : Ky} {b : Addr} {Q : Bool → Shared → Prop} (x : IsU P w s.heap k b) {ys : List Value} (hy : ∀ y ∈ ys, ∃ j c, y = Value.ref c ∧ IsU P w s.heap j c) (q : Q false s) :
    wpAny (model P w) A (searchCouldBeSeen (.ref b) ys) Q E s := by
  unfold searchCouldBeSeen
  refine wpAny_bind ?_
  refine wpAny_forIn_list _ (fun todo r s' => r.1 = none ∧ s' = s ∧ ∀ y ∈ todo, ∃ j c, y = Value.ref c ∧ IsU P w s.heap j c) _ ?_ ?_ _ _ ⟨rfl, rfl, hy⟩
  · rintro v todo r s' ⟨e1, rfl, al⟩
    obtain ⟨j, c, rfl, hc⟩ := al v List.mem_cons_self
    have more : ∀ y ∈ todo, ∃ j c, y = Value.ref c ∧ IsU P w s'.heap j c := fun u z => al u (List.mem_cons_of_mem _ z)
    dsimp only
    by_cases cv : (b == c || (carriedByValue (.ref b) && carriedByValue (.ref c))) = true
    · exact wp_if_pos cv (wpAny_pure ⟨rfl, rfl, more⟩)
    · refine wp_if_neg cv (wpAny_bind (wpAny_eqIsQuiet_tuple x ?_))
      simp only [Bool.not_true, Bool.false_eq_true, if_false]
      refine wpAny_bind (wpAny_eqIsQuiet_tuple hc ?_)
      simp only [Bool.not_true, Bool.false_eq_true, if_false]
      refine wpAny_bind (noClass x ?_)
      simp only [Bool.false_eq_true, if_false]
      refine wpAny_bind (noClass hc ?_)
      simp only [Bool.false_eq_true, if_false]
      exact wpAny_pure ⟨rfl, rfl, more⟩
  · rintro ⟨r1, r2⟩ s' ⟨e1, rfl, _⟩
    simp only at e1
    subst e1
    exact wpAny_pure q
end small

/-! ### the set -/
def rows (P : Program) (w : World) (M : Mem) : List (Int × Value) := M.map fun p => (hU P w p.2, Value.ref p.1)
abbrev hs (P : Program) (w : World) (M : Mem) : List Int := M.map fun p => hU P w p.2
structure SetU (P : Program) (w : World) (h : Heap) (a : Addr) (M : Mem) (xs : Array (Int × Value)) (ep : Nat) (tb : SetTable) : Prop where
  ob : ∃ o, h.get? a = some o ∧ o.ExactSet ∧ o.data = .set xs ep tb
  rw' : xs.toList = rows P w M
  tab : TabOk tb (hs P w M)
  nd : (M.map (·.2)).Nodup
  isu : ∀ p ∈ M, IsU P w h p.2 p.1
  plain : tb.plain = true
  led : w.params.followText "set-order" = true ∨ tb.led = true
  room : M.length * 5 < tb.mask * 3
  few : M.length < 64

section
variable {P : Program} {w : World} {A : Around} {E : Value → Shared → Prop} {s : Shared} {a : Addr} {M : Mem} {xs : Array (Int × Value)} {ep : Nat} {tb : SetTable}
theorem rows_len (M : Mem) : (rows P w M).length = M.length := by unfold rows; rw [List.length_map]
theorem size_of {M : Mem} {xs : Array (Int × Value)} (r : xs.toList = rows P w M) : xs.size = M.length := by
  rw [← Array.length_toList, r, rows_len]
theorem row_at {M : Mem} {xs : Array (Int × Value)} (r : xs.toList = rows P w M) {i : Nat} {p : Addr × Ky} (e : M[i]? = some p) : xs[i]? = some (hU P w p.2, Value.ref p.1) := by
  rw [← Array.getElem?_toList, r]
  unfold rows
  rw [List.getElem?_map, e] <;> rfl
theorem SetU.fits (R : SetU P w s.heap a M xs ep tb) : tb.fits xs.size = true := by
  have e1 := R.tab.sz
  rw [List.length_map] at e1
  have e2 := size_of R.rw'
  have e3 := R.room
  unfold SetTable.fits SetTable.fill
  rw [R.tab.dm, Bool.and_eq_true, beq_iff_eq, decide_eq_true_eq]
  show tb.place.size = xs.size ∧ tb.place.size + 0 ≤ tb.mask
  omega
theorem SetU.kept (R : SetU P w s.heap a M xs ep tb) : ¬ tb.gaveWay = true := by
  unfold SetTable.gaveWay
  rw [mask_odd R.tab.mok]
  decide
theorem hash_at (r : xs.toList = rows P w M) {i : Nat} {p : Addr × Ky} (e : M[i]? = some p) : (xs[i]?.map (·.1)).getD 0 = hU P w p.2 := by
  rw [row_at r e] <;> rfl

/-- the state of the search at its c-th step -/
abbrev stp (tb : SetTable) (h : Int) (c : Nat) : SetTable.Probe := nth tb.mask (runAt tb.mask (SetTable.bits h % (tb.mask + 1)) (SetTable.bits h)) c
theorem stp_add (tb : SetTable) (h : Int) (c q : Nat) : nth tb.mask (stp tb h c) q = stp tb h (c + q) := (nth_add tb.mask c _ q).symm
theorem stp_clean (tb : SetTable) (h : Int) (c : Nat) : (stp tb h c).dummy = none := by
  have key : ∀ (n : Nat) (p : SetTable.Probe), p.dummy = none → (nth tb.mask p n).dummy = none := by
    intro n
    induction n with
    | zero => exact fun p e => e
    | succ n ih =>
      intro p e
      refine ih (adv tb.mask p) ?_
      unfold adv
      split <;> exact e
  exact key c _ rfl

theorem find_from (R : SetU P w s.heap a M xs ep tb) {x : Addr} {k : Ky} (hx : IsU P w s.heap k x) (hu : A.units < cLine) {K : Nat} (k1 : K < 10 * SetTable.turns tb.mask)
    (k2 : way tb.mask (hU P w k) K ∉ tb.place.toList) (k3 : ∀ c, c < K → way tb.mask (hU P w k) c ∈ tb.place.toList) {Q : SetFound → Shared → Prop}
    (qin : k ∈ M.map (·.2) → Q (.there none) s) (qout : k ∉ M.map (·.2) → Q (.free (way tb.mask (hU P w k) K) false) s) :
    ∀ (f c : Nat) (stand : Option SetTable.Probe), stand.getD (tb.probeStart (hU P w k)) = stp tb (hU P w k) c → c ≤ K → K - c < f →
      (∀ (i : Nat) p, M[i]? = some p → p.2 = k → ∃ d, c ≤ d ∧ d < K ∧ tb.place.toList[i]? = some (way tb.mask (hU P w k) d)) →
      wpAny (model P w) A (setSearchFrom a (.ref x) (hU P w k) true f stand) Q E s
  | 0, c, stand, _, _, z, _ => absurd z (Nat.not_lt_zero _)
  | f + 1, c, stand, hst, hc, hf, hre => by
    obtain ⟨ob, g1, gx, g2⟩ := R.ob
    have gf := R.fits
    rw [setSearchFrom_succ]
    refine wpAny_bind (wpAny_setState_of g1 g2 gf ?_)
    dsimp only
    refine wp_if_neg R.kept ?_
    try refine wpAny_bind (wpAny_pure ?_)
    have jj : ∀ q, (nth tb.mask (stp tb (hU P w k) c) q).j = way tb.mask (hU P w k) (c + q) := fun q => congrArg SetTable.Probe.j (stp_add tb _ c q)
    have lands : (nth tb.mask (stp tb (hU P w k) c) (K - c)).j = way tb.mask (hU P w k) K := by rw [jj, show c + (K - c) = K by omega]
    rcases go_spec tb R.tab.ris R.tab.dm (fun i => (xs[i]?.map (·.1)).getD 0) (hU P w k) (10 * SetTable.turns tb.mask) (K - c) _ (stp_clean tb _ c) (by omega)
      (fun q hq => by rw [jj]; exact k3 (c + q) (by omega)) (by rw [lands]; exact k2) with ⟨q, i, hq, hi, hh, first, pr⟩ | ⟨first, pr⟩
    · have pr' : tb.probe (fun i => (xs[i]?.map (·.1)).getD 0) (hU P w k) (stand.getD (tb.probeStart (hU P w k))) = some (.candidate (way tb.mask (hU P w k) (c + q)) i (stp tb (hU P w k) (c + (q + 1)))) := by
        rw [hst, ← jj, ← stp_add]
        exact pr
      rw [pr']
      dsimp only
      rw [jj] at hi
      have il : i < M.length := by
        have z1 : i < tb.place.toList.length := (List.getElem?_eq_some_iff.mp hi).1
        have z2 := R.tab.sz
        rw [List.length_map] at z2
        rw [Array.length_toList, z2] at z1
        exact z1
      obtain ⟨p, ep1⟩ : ∃ p, M[i]? = some p := ⟨_, List.getElem?_eq_getElem il⟩
      have pin : p ∈ M := List.mem_of_getElem? ep1
      have pis := R.isu p pin
      have onwards : wpAny (model P w) A (searchRest a (.ref x) (hU P w k) true f xs tb (way tb.mask (hU P w k) (c + q)) i (stp tb (hU P w k) (c + (q + 1)))) Q E s := by
        unfold searchRest
        rw [row_at R.rw' ep1]
        dsimp only
        refine wpAny_bind (wpAny_holding (wpAny_eqBool_tuple hu pis hx ?_))
        refine wpAny_bind (wpAny_setState_of g1 g2 gf ?_)
        dsimp only
        by_cases same : p.2 = k
        · exact wp_if_pos (by simp [lf_iff, same]) (wpAny_pure (qin (List.mem_map.mpr ⟨p, pin, same⟩)))
        · refine wp_if_neg (by simp [lf_iff, same]) ?_
          try refine wpAny_bind (wpAny_pure ?_)
          rw [sameMem]
          dsimp only
          have live : tb.slot (way tb.mask (hU P w k) (c + q)) = .live i := slot_live R.tab.ris hi
          simp only [if_true, live, row_at R.rw' ep1]
          refine wpAny_bind (wpAny_isSame_ref_self (wpAny_bind (wpAny_pure ?_)))
          simp only [if_true]
          refine wp_if_neg (by simp [lf_iff, same]) ?_
          refine find_from R hx hu k1 k2 k3 qin qout f (c + (q + 1)) _ rfl (by omega) (by omega) fun i0 p0 m0 e0 => ?_
          obtain ⟨d, d1, d2, d3⟩ := hre i0 p0 m0 e0
          refine ⟨d, ?_, d2, d3⟩
          rcases Nat.lt_trichotomy d (c + q) with z | z | z
          · exfalso
            exact first (d - c) i0 (by omega) (by rw [jj, show c + (d - c) = d by omega]; exact d3) ((hash_at R.rw' m0).trans (congrArg (hU P w) e0))
          · exfalso
            rw [z] at d3
            have l2 := slot_live R.tab.ris d3
            rw [live] at l2
            injection l2 with l2
            rw [← l2, ep1] at m0
            exact same ((congrArg Prod.snd (Option.some.inj m0)).trans e0)
          · omega
      by_cases tl : tb.led = true
      · refine wp_if_neg (by simp [tl]) ?_
        try refine wpAny_bind (wpAny_pure ?_)
        exact onwards
      · refine wp_if_pos (by simp [tl]) (wpAny_bind (unseen hx (fun y hy => ?_) ?_))
        · obtain ⟨e, e1, e2⟩ := List.mem_map.mp hy
          have e3 : e ∈ xs ∧ e.1 = hU P w k := by simpa using e1
          have e4 : e ∈ xs.toList := by simpa using e3.1
          rw [R.rw'] at e4
          obtain ⟨r, r1, r2⟩ := List.mem_map.mp e4
          exact ⟨r.2, r.1, by rw [← e2, ← r2], R.isu r r1⟩
        · refine wp_if_neg (by decide) ?_
          try refine wpAny_bind (wpAny_pure ?_)
          exact onwards
    · have pr' : tb.probe (fun i => (xs[i]?.map (·.1)).getD 0) (hU P w k) (stand.getD (tb.probeStart (hU P w k))) = some (.empty (way tb.mask (hU P w k) K) none) := by
        rw [hst, ← lands]
        exact pr
      rw [pr']
      dsimp only
      refine wpAny_pure (qout fun hm => ?_)
      obtain ⟨p0, m1, e0⟩ := List.mem_map.mp hm
      obtain ⟨i0, l0, m2⟩ := List.getElem_of_mem m1
      have m0 : M[i0]? = some p0 := by rw [List.getElem?_eq_getElem l0, m2]
      obtain ⟨d, d1, d2, d3⟩ := hre i0 p0 m0 e0
      exact first (d - c) i0 (by omega) (by rw [jj, show c + (d - c) = d by omega]; exact d3) ((hash_at R.rw' m0).trans (congrArg (hU P w) e0))

theorem find_at (R : SetU P w s.heap a M xs ep tb) {x : Addr} {k : Ky} (hx : IsU P w s.heap k x) (hu : A.units < cLine) {Q : SetFound → Shared → Prop}
    (qin : k ∈ M.map (·.2) → Q (.there none) s)
    (qout : ∀ K, k ∉ M.map (·.2) → way tb.mask (hU P w k) K ∉ tb.place.toList → (∀ c, c < K → way tb.mask (hU P w k) c ∈ tb.place.toList) → Q (.free (way tb.mask (hU P w k) K) false) s) :
    wpAny (model P w) A (setSearch a (.ref x) (hU P w k) true) Q E s := by
  have rm := R.room
  obtain ⟨K, k1, k2, k3⟩ := R.tab.first (by rw [List.length_map]; omega) (hU P w k)
  have big : K < 100000 := by
    have : 10 * SetTable.turns tb.mask ≤ 1420 := by
      unfold SetTable.turns
      rcases R.tab.mok with e | e | e <;> omega
    omega
  unfold setSearch
  refine find_from R hx hu k1 k2 k3 qin (fun z => qout K z k2 k3) 100000 0 none rfl (Nat.zero_le _) (by omega) fun i p e1 e2 => ?_
  have i1 : (hs P w M)[i]? = some (hU P w k) := by rw [List.getElem?_map, e1, ← e2] <;> rfl
  have i2 : i < tb.place.toList.length := by
    have z1 : i < M.length := (List.getElem?_eq_some_iff.mp e1).1
    have z2 := R.tab.sz
    rw [List.length_map] at z2
    rw [Array.length_toList, z2]
    exact z1
  obtain ⟨c, c1, c2⟩ := R.tab.before k2 i1 (List.getElem?_eq_getElem i2)
  exact ⟨c, Nat.zero_le _, c1, by rw [List.getElem?_eq_getElem i2, c2]⟩

/-! ### adding -/
theorem isU_same {h h' : Heap} {k : Ky} {a b : Addr} {o : Obj} {xs : Array (Int × Value)} {ep : Nat} {tb : SetTable} (x : IsU P w h k b) (g : h.get? a = some o) (gd : o.data = .set xs ep tb) (sb : Heap.SameBut a h h') : IsU P w h' k b := by
  obtain ⟨ob, its, n, e1, e2, e3, e4⟩ := x
  have ne : b ≠ a := fun z => by
    rw [z, g] at e1
    rw [← Option.some.inj e1, gd] at e3
    cases e3
  exact ⟨ob, its, n, (sb.2 b ne).trans e1, e2, e3, e4⟩
theorem isU_grow {h h' : Heap} {k : Ky} {b : Addr} (x : IsU P w h k b) (g : ∀ c o, h.get? c = some o → h'.get? c = some o) : IsU P w h' k b := by
  obtain ⟨ob, its, n, e1, r⟩ := x
  exact ⟨ob, its, n, g b ob e1, r⟩
theorem rows_ins (M : Mem) (i : Nat) (x : Addr) (k : Ky) : rows P w (M.take i ++ (x, k) :: M.drop i) = (rows P w M).take i ++ (hU P w k, Value.ref x) :: (rows P w M).drop i := by
  simp only [rows, List.map_append, List.map_cons, List.map_take, List.map_drop]

theorem filter_range {α : Type} (M : List α) : (List.range M.length).filterMap (fun i => M[i]?) = M := by
  have key : ∀ (pre M : List α), (List.range' pre.length M.length).filterMap (fun i => (pre ++ M)[i]?) = M := by
    intro pre M
    induction M generalizing pre with
    | nil => rfl
    | cons x M ih =>
      have q := ih (pre ++ [x])
      rw [List.length_append, List.length_singleton, List.append_assoc] at q
      rw [List.length_cons, List.range'_succ]
      rw [List.filterMap_cons_some (b := x) (by simp), show ([x] ++ M : List α) = x :: M from rfl] at *
      exact congrArg _ q
  have z := key [] M
  rw [List.length_nil, List.nil_append, ← List.range_eq_range'] at z
  exact z
/-- the rows in another order -/
theorem rows_order (M : Mem) (xs : Array (Int × Value)) (order : Array Nat) (r : xs.toList = rows P w M) (p : order.toList.Perm (List.range M.length)) :
    ∃ M2, (order.filterMap (xs[·]?)).toList = rows P w M2 ∧ M2.Perm M ∧ hs P w M2 = order.toList.map fun i => (xs.map (·.1)).getD i 0 := by
  have key : ∀ l : List Nat, (∀ i ∈ l, i < M.length) → l.filterMap (fun i => xs[i]?) = rows P w (l.filterMap fun i => M[i]?) ∧ hs P w (l.filterMap fun i => M[i]?) = l.map fun i => (xs.map (·.1)).getD i 0 := by
    intro l
    induction l with
    | nil => exact fun _ => ⟨rfl, rfl⟩
    | cons i l ih =>
      intro al
      obtain ⟨i1, i2⟩ := ih fun j z => al j (List.mem_cons_of_mem _ z)
      obtain ⟨p, e1⟩ : ∃ p, M[i]? = some p := ⟨_, List.getElem?_eq_getElem (al i List.mem_cons_self)⟩
      have e2 := row_at r e1
      have e3 : (xs.map (·.1)).getD i 0 = hU P w p.2 := by simp [Array.getD_eq_getD_getElem?, Array.getElem?_map, e2]
      refine ⟨?_, ?_⟩
      · rw [List.filterMap_cons_some e2, List.filterMap_cons_some e1, i1] <;> rfl
      · rw [List.filterMap_cons_some e1, List.map_cons, e3, ← i2] <;> rfl
  obtain ⟨k1, k2⟩ := key order.toList fun i z => List.mem_range.mp (p.mem_iff.mp z)
  refine ⟨_, by rw [Array.toList_filterMap]; exact k1, ?_, k2⟩
  have z := p.filterMap (fun i => M[i]?)
  rw [filter_range] at z
  exact z

theorem lay_again {o : Obj} (g1 : s.heap.get? a = some o) (gx : o.ExactSet) (g2 : o.data = .set xs ep tb) (r : xs.toList = rows P w M) (tsz : tb.place.size = xs.size) (tdm : tb.dummies = #[]) (tm : xs.size ≤ tb.mask)
    (nd : (M.map (·.2)).Nodup) (al : ∀ p ∈ M, IsU P w s.heap p.2 p.1) (pl : tb.plain = true) (ld : w.params.followText "set-order" = true ∨ tb.led = true) (few : M.length < 64) {wanted m : Nat}
    (w1 : SetTable.sizeAbove wanted - 1 = m) (mk : MaskOk m) (w2 : SetTable.sizeAbove wanted ≤ 128) (w3 : M.length * 5 < m * 3) {Q : Unit → Shared → Prop}
    (q : ∀ h' M' xs' ep' tb', Heap.SameBut a s.heap h' → SetU P w h' a M' xs' ep' tb' → M'.Perm M → Q () { s with heap := h' }) : wpAny (model P w) A (setRelay a wanted) Q E s := by
  have sz := size_of r
  have tf : tb.fits xs.size = true := by
    unfold SetTable.fits SetTable.fill
    rw [tdm, Bool.and_eq_true, beq_iff_eq, decide_eq_true_eq]
    show tb.place.size = xs.size ∧ tb.place.size + 0 ≤ tb.mask
    omega
  obtain ⟨t', order, e, op, T, em, el, ep', ed⟩ := relaid_ok tb (hs := xs.map (·.1)) (wanted := wanted) w1 mk (by rw [Array.size_map, sz]; omega)
  rw [Array.size_map, sz] at op
  obtain ⟨M2, r1, r2, r3⟩ := rows_order M xs order r op
  rw [← r3] at T
  have s2 : (order.filterMap (xs[·]?)).size = xs.size := by rw [size_of r1, r2.length_eq, sz]
  rw [setRelay_eq]
  refine wpAny_bind (wpAny_setState_of g1 g2 tf ?_)
  dsimp only
  refine wp_if_neg (by rw [sizeLine_eq]; omega) ?_
  try refine wpAny_bind (wpAny_pure ?_)
  rw [e]
  dsimp only
  refine wpAny_bind (wp_if_neg (by rw [s2]; simp) ?_)
  try refine wpAny_bind (wpAny_pure ?_)
  refine wpAny_pure ?_
  dsimp only
  refine wpAny_storeSet_of g1 g2 ?_ (by rw [s2, sz, sizeLine_eq]; omega)
  have sb : Heap.SameBut a s.heap (s.heap.update a (Obj.putSet (order.filterMap (xs[·]?)) t')) := Heap.SameBut.update ..
  refine q _ M2 (order.filterMap (xs[·]?)) (ep + 1) t' sb ⟨⟨_, store_at g1 g2, ⟨gx.1, gx.2.1, gx.2.2⟩, rfl⟩, r1, T, (r2.map (·.2)).nodup_iff.mpr nd, fun p z => isU_same (al p (r2.mem_iff.mp z)) g1 g2 sb, ep'.trans pl, by rw [el]; exact ld, ?_, by rw [r2.length_eq]; exact few⟩ r2
  rw [r2.length_eq, em]
  exact w3

theorem add_one (R : SetU P w s.heap a M xs ep tb) {x : Addr} {k : Ky} (hx : IsU P w s.heap k x) (hu : A.units < cLine) (few : M.length + 1 < 64) {Q : Bool → Shared → Prop}
    (q : ∀ b h' M' xs' ep' tb', Heap.SameBut a s.heap h' → SetU P w h' a M' xs' ep' tb' → (k ∈ M.map (·.2) → M' = M) → (k ∉ M.map (·.2) → M'.Perm ((x, k) :: M)) → Q b { s with heap := h' }) :
    wpAny (model P w) A (setAddHashed a (.ref x) (hU P w k)) Q E s := by
  obtain ⟨ob, g1, gx, g2⟩ := R.ob
  have sz := size_of R.rw'
  have rm := R.room
  have gf := R.fits
  unfold setAddHashed
  refine wpAny_holding ?_
  rw [show (100000 : Nat) = 99999 + 1 from rfl, setAddHashedIn_succ]
  refine wpAny_bind (wpAny_setState_of g1 g2 gf ?_)
  dsimp only
  refine wp_if_neg (by simp [byScan, Value.scannable]) ?_
  try refine wpAny_bind (wpAny_pure ?_)
  refine wpAny_bind (find_at R hx hu (fun hm => ?_) fun K hm k2 k3 => ?_)
  · dsimp only
    exact wpAny_pure (q false s.heap M xs ep tb (Heap.SameBut.refl a s.heap) R (fun _ => rfl) fun z => absurd hm z)
  · dsimp only
    refine wpAny_bind (wpAny_setState_of g1 g2 gf ?_)
    dsimp only
    obtain ⟨q1, q2, q3, q4, q5, q6, q7, q8, q9⟩ := R.tab.put k2 k3
    have pl : (tb.put (way tb.mask (hU P w k) K)).1.plain = true := q6.trans R.plain
    generalize hpt : tb.put (way tb.mask (hU P w k) K) = pt at q1 q3 q4 q5 q6 q7 q8 q9 pl ⊢
    obtain ⟨t1, i⟩ := pt
    dsimp only at q1 q3 q4 q5 q6 q7 q8 q9 pl ⊢
    subst q1
    first
      | (refine wpAny_bind ?_; refine wp_if_pos pl ?_; refine byVal hx ?_)
      | refine wp_if_pos pl (wpAny_bind (byVal hx ?_))
    simp only [if_true]
    have rr : (SetTable.insertAt xs (SetTable.below tb.place (way tb.mask (hU P w k) K)) (hU P w k, Value.ref x)).toList = rows P w (M.take (SetTable.below tb.place (way tb.mask (hU P w k) K)) ++ (x, k) :: M.drop (SetTable.below tb.place (way tb.mask (hU P w k) K))) := by
      rw [SetTable.toList_insertAt, rows_ins, R.rw']
    generalize SetTable.below tb.place (way tb.mask (hU P w k) K) = i at q2 q3 rr ⊢
    have pm := put_perm M i (x, k)
    have hl : (M.take i ++ (x, k) :: M.drop i).length = M.length + 1 := pm.length_eq
    rw [show (hs P w M).take i ++ hU P w k :: (hs P w M).drop i = hs P w (M.take i ++ (x, k) :: M.drop i) by simp only [hs, List.map_append, List.map_cons, List.map_take, List.map_drop]] at q3
    have nd1 : ((M.take i ++ (x, k) :: M.drop i).map (·.2)).Nodup := (pm.map (·.2)).nodup_iff.mpr (List.nodup_cons.mpr ⟨hm, R.nd⟩)
    have sz1 := (size_of rr).trans hl
    generalize SetTable.insertAt xs i (hU P w k, Value.ref x) = xs1 at rr sz1 ⊢
    generalize M.take i ++ (x, k) :: M.drop i = M1 at pm hl q3 nd1 rr
    refine wpAny_bind (wpAny_storeSet_of g1 g2 ?_ (by rw [sz1, sizeLine_eq]; omega))
    have sb : Heap.SameBut a s.heap (s.heap.update a (Obj.putSet xs1 t1)) := Heap.SameBut.update ..
    have g3 := store_at (es' := xs1) (t' := t1) g1 g2
    generalize s.heap.update a (Obj.putSet xs1 t1) = h1 at sb g3 ⊢
    have al1 : ∀ p ∈ M1, IsU P w h1 p.2 p.1 := fun p z => by
      rcases List.mem_cons.mp (pm.mem_iff.mp z) with e | z
      · rw [e]; exact isU_same hx g1 g2 sb
      · exact isU_same (R.isu p z) g1 g2 sb
    have ld1 : w.params.followText "set-order" = true ∨ t1.led = true := by rw [q5]; exact R.led
    have full_iff : t1.tooFull = decide ((M.length + 1) * 5 ≥ t1.mask * 3) := by
      unfold SetTable.tooFull
      rw [q9, List.length_map]
    by_cases tf : t1.tooFull = true
    · first
        | (refine wpAny_bind ?_; refine wp_if_pos (by simp [tf]) ?_)
        | (refine wp_if_pos (by simp [tf]) ?_; refine wpAny_bind ?_)
      have full : (M.length + 1) * 5 ≥ t1.mask * 3 := by
        rw [full_iff, decide_eq_true_eq] at tf
        exact tf
      rw [sz]
      have tsz : t1.place.size = xs1.size := by
        have z := q3.sz
        rw [List.length_map, hl] at z
        rw [z, sz1]
      rw [q4] at full
      have go : ∀ m, SetTable.sizeAbove (SetTable.grown (M.length + 1)) - 1 = m → MaskOk m → SetTable.sizeAbove (SetTable.grown (M.length + 1)) ≤ 128 → (M.length + 1) * 5 < m * 3 → M.length + 1 ≤ tb.mask →
          wpAny (model P w) A (setRelay a (SetTable.grown (M.length + 1))) (fun _ s' => wpAny (model P w) A (pure true) Q E s') E { s with heap := h1 } := fun m a1 a2 a3 a4 a5 => by
        refine lay_again (s := { s with heap := h1 }) g3 ⟨gx.1, gx.2.1, gx.2.2⟩ rfl rr tsz q3.dm (by rw [sz1, q4]; exact a5) nd1 al1 pl ld1 (by rw [hl]; exact few) a1 a2 a3 (by rw [hl]; exact a4) fun h2 M2 xs2 ep2 t2 sb2 R2 pm2 => ?_
        exact wpAny_pure (q true h2 M2 xs2 ep2 t2 (sb.trans sb2) R2 (fun z => absurd z hm) fun _ => pm2.trans pm)
      rcases R.tab.mok with e | e | e
      · rw [e] at full rm
        have e2 : M.length = 4 := by omega
        exact go 31 (by rw [e2, size_20]) (.inr (.inl rfl)) (by rw [e2, size_20]; decide) (by omega) (by omega)
      · rw [e] at full rm
        have e2 : M.length = 18 := by omega
        exact go 127 (by rw [e2, size_76]) (.inr (.inr rfl)) (by rw [e2, size_76]; decide) (by omega) (by omega)
      · exfalso
        rw [e] at full
        omega
    · first
        | refine wp_if_neg (by simp [tf]) ?_
        | (refine wpAny_bind ?_; refine wp_if_neg (by simp [tf]) ?_; refine wpAny_pure ?_)
      refine wpAny_pure (q true h1 M1 xs1 (ep + 1) t1 sb ⟨⟨_, g3, ⟨gx.1, gx.2.1, gx.2.2⟩, rfl⟩, rr, q3, nd1, al1, pl, ld1, ?_, by rw [hl]; exact few⟩ (fun z => absurd z hm) fun _ => pm)
      rw [full_iff, decide_eq_true_eq] at tf
      rw [hl]
      omega

/-- S.add(x) -/
theorem call_add (R : SetU P w s.heap a M xs ep tb) {x : Addr} {k : Ky} (hx : IsU P w s.heap k x) (hu : A.units + 4 < cLine) (few : M.length + 1 < 64) {Q : Value → Shared → Prop}
    (q : ∀ h' tk M' xs' ep' tb', Heap.SameBut a s.heap h' → SetU P w h' a M' xs' ep' tb' → (k ∈ M.map (·.2) → M' = M) → (k ∉ M.map (·.2) → M'.Perm ((x, k) :: M)) → Q .none { s with heap := h', toks := tk }) :
    wpAny (model P w) A (call (.builtin "set.add") [.ref a, .ref x]) Q E s := by
  have ty : s.TypeIs (.ref a) "set" := by
    obtain ⟨o, g1, gx, _⟩ := R.ob
    exact ⟨o, g1, gx.1⟩
  refine wpAny_call_entry F.slot_set_add ty F.entry_set_add ?_ (F.args_set_add_2 _ _)
  unfold Builtin.«set.add» Builtin.Frozenset.oneOther
  simp only [List.isEmpty_nil, bind_assoc]
  unfold Builtin.Frozenset.addrOf setAdd
  refine wpAny_bind (wpAny_pure ?_)
  try dsimp only
  refine wpAny_bind (wpAny_pure ?_)
  try dsimp only
  have hu1 : A.in1.units < cLine := by show A.units + 1 < cLine; omega
  refine wpAny_bind (wpAny_holding (wpAny_bind (wpAny_pyHash_tuple hu1 hx ?_)))
  refine add_one (s := { s with toks := s.toks + ((lf k).length + 1) }) R hx hu1 few fun b h' M' xs' ep' tb' sb R' c1 c2 => ?_
  show wpAny _ _ (ret Value.none) _ _ _
  exact wpAny_pure ⟨_, rfl, q h' _ M' xs' ep' tb' sb R' c1 c2⟩
end
end Us
end

section
set_option maxHeartbeats 2000000
/-! Us2: the same sets in the walk: adding, sorted. -/
namespace Us
open PySem PySem.Spec PyProof.Rows L2 PySem.W

theorem hU_eq (P : Program) (w : World) (k : Ky) : hU P w k = L2.thash P w k := by
  show reduceHash (Builtin.Tuple.tupleHashOf ((lf k).map (leafKind P w).hash)) = reduceHash (Builtin.Tuple.tupleHashOf (k.map (intKind P w).hash))
  rw [show (lf k).map (leafKind P w).hash = k.map (intKind P w).hash by
    rw [lf, List.map_map]
    exact List.map_congr_left fun i _ => rfl]
theorem hs_eq (P : Program) (w : World) (M : Mem) : hs P w M = M.map fun p => L2.thash P w p.2 := List.map_congr_left fun p _ => hU_eq P w p.2
theorem rows_eq (P : Program) (w : World) (M : Mem) : rows P w M = L2.rowsOf P w M := List.map_congr_left fun p _ => by rw [hU_eq]
theorem SetU.t0 {P : Program} {w : World} {h : Heap} {a : Addr} {M : Mem} {xs : Array (Int × Value)} {ep : Nat} {tb : SetTable} (R : SetU P w h a M xs ep tb) : SetT0 P w h a M :=
  ⟨xs, ep, tb, R.ob, by rw [← rows_eq]; exact R.rw', by rw [← hs_eq]; exact R.tab, R.nd, R.plain, R.led, R.room, R.few⟩
theorem full {P : Program} {w : World} {h : Heap} {a : Addr} {M : Mem} (R : SetT0 P w h a M) (al : ∀ p ∈ M, IsU P w h p.2 p.1) : ∃ xs ep tb, SetU P w h a M xs ep tb := by
  obtain ⟨xs, ep, tb, h1, h2, h3, h4, h5, h6, h7, h8⟩ := R.ex
  exact ⟨xs, ep, tb, h1, by rw [rows_eq]; exact h2, by rw [hs_eq]; exact h3, h4, al, h5, h6, h7, h8⟩

/-- a flat item's number -/
def vk : V → Option Int
  | .int n => some n
  | .bl b => some (if b = true then 1 else 0)
  | _ => none
def venc : V → PyData
  | .int n => .int n
  | .bl b => .bool b
  | _ => .none
def Flat (xs : List V) (k : Ky) : Prop := xs.map vk = k.map some
def enc (xs : List V) : PyData := .tuple (xs.map venc)
theorem vk_is {P : Program} {w : World} {x : V} {n : Int} {u : Value} (r : L2.RelV x u) (e : vk x = some n) : (leafKind P w).is (.num n) u = true := by
  cases x <;> try (exfalso; simp [vk] at e; done)
  case int m =>
    obtain ⟨t, rfl⟩ := r
    exact decide_eq_true (by simpa [vk] using e)
  case bl b =>
    cases r
    exact decide_eq_true (by simpa [vk] using e)
theorem flat_items {P : Program} {w : World} : ∀ {xs : List V} {k : Ky} {us : List Value}, Flat xs k → Vals xs us → ItemsAre (leafKind P w) (lf k) us
  | [], [], _, _, .nil => .nil
  | [], _ :: _, _, e, _ => by cases e
  | _ :: _, [], _, e, _ => by cases e
  | x :: xs, n :: k, _, e, .cons r t => by
    have e' : vk x = some n ∧ xs.map vk = k.map some := by simpa [Flat] using e
    exact .cons (vk_is r e'.1) (flat_items e'.2 t)
theorem flat_reads {h : Heap} : ∀ {xs : List V} {k : Ky} {us : List Value}, Flat xs k → Vals xs us → ReadsAll h us (xs.map venc) []
  | [], [], _, _, .nil => .nil
  | [], _ :: _, _, e, _ => by cases e
  | _ :: _, [], _, e, _ => by cases e
  | x :: xs, n :: k, _, e, .cons r t => by
    have e' : vk x = some n ∧ xs.map vk = k.map some := by simpa [Flat] using e
    have q := flat_reads (h := h) e'.2 t
    have e1 := e'.1
    cases x <;> try (exfalso; simp [vk] at e1; done)
    case int m =>
      obtain ⟨t, rfl⟩ := r
      exact ReadsAll.cons (as := []) (bs := []) (.int _ _) q
    case bl b =>
      cases r
      exact ReadsAll.cons (as := []) (bs := []) (.bool _) q

theorem perm_map {α β : Type} {f : α → β} {a b : List β} (p : a.Perm b) : ∀ M : List α, b = M.map f → ∃ M1 : List α, M1.Perm M ∧ a = M1.map f := by
  induction p with
  | nil => exact fun M e => ⟨M, .refl _, e⟩
  | cons x _ ih =>
    intro M e
    cases M with
    | nil => cases e
    | cons m M =>
      injection e with e1 e2
      obtain ⟨M1, p1, q1⟩ := ih M e2
      exact ⟨m :: M1, p1.cons m, by rw [List.map_cons, e1, q1]⟩
  | swap x y l =>
    intro M e
    cases M with
    | nil => cases e
    | cons m M => cases M with
      | nil => cases e
      | cons m' M =>
        injection e with e1 e2
        injection e2 with e2 e3
        exact ⟨m' :: m :: M, .swap m m' M, by rw [List.map_cons, List.map_cons, e1, e2, e3]⟩
  | trans _ _ ih1 ih2 =>
    intro M e
    obtain ⟨M1, p1, q1⟩ := ih2 M e
    obtain ⟨M2, p2, q2⟩ := ih1 M1 q1
    exact ⟨M2, p2.trans p1, q2⟩

section
variable {X : Cx}
theorem isU_of {pins : List (Addr × Obj)} {σ : L2.St} {H : Hp} {s : Shared} {b : Addr} {xs : List V} {k : Ky} (I : Inv X pins σ H s) (h : SqT X.K H b xs) (e : Flat xs k) : IsU X.prog X.w s.heap k b := by
  obtain ⟨its, r, ⟨o, ho, hc, n, hd⟩, _⟩ := I.tuple h
  exact ⟨o, its.toArray, n, ho, hc, hd, by simpa using flat_items e r⟩
theorem reads_of {pins : List (Addr × Obj)} {σ : L2.St} {H : Hp} {s : Shared} {b : Addr} {xs : List V} {k : Ky} (I : Inv X pins σ H s) (h : SqT X.K H b xs) (e : Flat xs k) : Reads s.heap (.ref b) (enc xs) [] := by
  obtain ⟨its, r, ⟨o, ho, hc, n, hd⟩, _⟩ := I.tuple h
  exact .tuple ho hc hd (by simpa using flat_reads e r)
/-- what the set's members are -/
def Mems (K : PySem.W.Frag) (H : Hp) (M : Mem) : Prop := ∀ p ∈ M, ∃ xs, SqT K H p.1 xs ∧ Flat xs p.2
theorem Mems.isU {pins : List (Addr × Obj)} {σ : L2.St} {H : Hp} {s : Shared} {M : Mem} (h : Mems X.K H M) (I : Inv X pins σ H s) : ∀ p ∈ M, IsU X.prog X.w s.heap p.2 p.1 := fun p hp => by
  obtain ⟨xs, h1, h2⟩ := h p hp
  exact isU_of I h1 h2

theorem addU_ok {pins : List (Addr × Obj)} {σ : L2.St} {H : Hp} {s : Shared} {E : Value → Shared → Prop} {D x : Addr} {M : Mem} {k : Ky} {xs : List V} {Q : Value → Shared → Prop} (I : Inv X pins σ H s) (hD : H D = some (SetTO X.prog X.w D M)) (hm : Mems X.K H M)
    (hx : SqT X.K H x xs) (hk : Flat xs k) (few : M.length + 1 < 64) (hu : X.A.units + 4 < cLine)
    (h : ∀ M' s', (k ∈ M.map (·.2) → M' = M) → (k ∉ M.map (·.2) → M'.Perm ((x, k) :: M)) → Inv X pins σ (upd H D (SetTO X.prog X.w D M')) s' → Q .none s') : wpAny (model X.prog X.w) X.A (call (.builtin "set.add") [.ref D, .ref x]) Q E s := by
  have R0 : SetT0 X.prog X.w s.heap D M := (I.hok D _ hD).1
  obtain ⟨xs', ep, tb, R⟩ := full R0 (hm.isU I)
  refine call_add R (isU_of I hx hk) hu few fun h' tk M' xs2 ep2 tb2 sb R2 c1 c2 => ?_
  have he : ∃ u, h'.get? D = some u := by
    obtain ⟨o, ho, _⟩ := R2.ob
    exact ⟨o, ho⟩
  exact h M' _ c1 c2 (I.write (e := D) (t' := tk) (by rw [hD]; trivial) (.inl rfl) (fun b u hb hu => (sb.2 b hb).trans hu) he (setTO_new R2.t0))

/-- sorted(set): bs the members, g their place and key, e their data -/
def rSortedU (β : Type) (K : PySem.W.Frag) (P : Program) (w : World) : List V → Hp → VK → Prop := fun vs H Q => ∃ (a : Addr) (bs : List β) (g : β → Addr × Ky) (e : β → PyData), vs = [V.ref a] ∧ H a = some (SetTO P w a (bs.map g)) ∧
  (∀ b ∈ bs, ∃ xs, SqT K H (g b).1 xs ∧ Flat xs (g b).2 ∧ e b = enc xs ∧ xs ≠ []) ∧ AllAlike (bs.map e) ∧
  ∀ (bs' : List β) (l : Addr), bs'.Perm bs → H l = none → Q (.ref l) (upd H l (.lst ((bs'.mergeSort (dataLe false e)).map fun b => V.ref (g b).1)))

theorem each_self {α β : Type} (g : β → α) : ∀ l : List β, EachIs (fun a b => a = g b) (l.map g) l
  | [] => .nil
  | x :: l => .cons rfl (each_self g l)
theorem each_eq {α β : Type} {g : β → α} : ∀ {as : List α} {l : List β}, EachIs (fun a b => a = g b) as l → as = l.map g
  | _, _, .nil => rfl
  | _, _, .cons e t => by rw [e, each_eq t, List.map_cons]
theorem each_all {α β : Type} {R R' : α → β → Prop} : ∀ {as : List α} {l : List β}, EachIs R as l → (∀ a b, b ∈ l → R a b → R' a b) → EachIs R' as l
  | _, _, .nil, _ => .nil
  | _, _, .cons e t, h => .cons (h _ _ List.mem_cons_self e) (each_all t fun a b hb r => h a b (List.mem_cons_of_mem _ hb) r)
theorem depth_enc (xs : List V) : (enc xs).depth ≤ 1 := by
  have key : ∀ xs : List V, PyData.depthAll (xs.map venc) = 0 := by
    intro xs
    induction xs with
    | nil => simp [PyData.depthAll]
    | cons x xs ih =>
      show PyData.depthAll (venc x :: xs.map venc) = 0
      rw [PyData.depthAll, ih]
      cases x <;> simp [venc, PyData.depth]
  unfold enc
  rw [PyData.depth, key xs]
  first | exact Nat.le_refl _ | decide | simp

theorem vals_refs {β : Type} (g : β → Addr × Ky) : ∀ l : List β, Vals (l.map fun b => V.ref (g b).1) (l.map fun b => Value.ref (g b).1)
  | [] => .nil
  | b :: l => .cons rfl (vals_refs g l)
theorem cr_sortedU {β : Type} (hc : X.calm = true) (hu : X.A.units + 8 < cLine) : CallR X (.builtin "sorted") (rSortedU β X.K X.prog X.w) := by
  intro pins s σ H vs us Q I r h
  obtain ⟨a, bs, g, en, rfl, ha, hm, hal, q⟩ := h
  have R0 : SetT0 X.prog X.w s.heap a (bs.map g) := (I.hok a _ ha).1
  obtain ⟨xs, ep, tb, R⟩ := full R0 (Mems.isU (fun p hp => by
    obtain ⟨b, hb, e⟩ := List.mem_map.mp hp
    obtain ⟨xs, x1, x2, _⟩ := hm b hb
    exact ⟨xs, by rw [← e]; exact x1, by rw [← e]; exact x2⟩) I)
  rw [Vals.ref1 r]
  obtain ⟨o, g1, gx, g2⟩ := R.ob
  have sz := size_of R.rw'
  have few := R.few
  rw [List.length_map] at few
  refine Calls.call_function_entry kind_sorted plain_sorted entry_sorted (args_sorted1 _) ?_
  unfold Builtin.«sorted»
  refine wpAny_bind (m := checkCount "sorted" 1 1 _) (wpAny_pure ?_)
  refine wpAny_bind (collect_set (A := X.A.in1) (I.ok.hd hc) ⟨o, g1, gx.1, g2⟩ R.fits (by unfold scanBound; rw [List.length_map] at sz; omega) R.tab.ris R.led fun s1 vs k1 hz ge os pm => ?_)
  have e1 : xs.toList.map (·.2) = bs.map fun b => Value.ref (g b).1 := by
    rw [R.rw']
    unfold rows
    rw [List.map_map, List.map_map] <;> rfl
  rw [e1] at pm
  obtain ⟨M1, pM, rfl⟩ := perm_map pm bs rfl
  have l1 : (M1.map fun b => Value.ref (g b).1).length < 64 := by rw [List.length_map, pM.length_eq]; exact few
  refine wpAny_bind (wpAny_newList ?_ (by rw [sizeLine_eq]; omega))
  have oL : (s1.heap.push (seqObj "list" (M1.map fun b => Value.ref (g b).1).toArray 0)).get? s1.heap.objs.size = some (seqObj "list" (M1.map fun b => Value.ref (g b).1).toArray 0) := Heap.get?_push_size _ rfl
  have rd : EachIs (fun v (p : β) => ∃ as, Reads (s1.heap.push (seqObj "list" (M1.map fun b => Value.ref (g b).1).toArray 0)) v (en p) as ∧ s1.heap.objs.size ∉ as) (M1.map fun b => Value.ref (g b).1) M1 :=
    each_all (each_self (fun p : β => Value.ref (g p).1) M1) fun v p hp e => by
      have hp' := pM.mem_iff.mp hp
      obtain ⟨ys, y1, y2, y3, _⟩ := hm p hp'
      refine ⟨[], ?_, fun z => nomatch z⟩
      rw [e, y3]
      exact PyProof.Rows.Reads.keeps (fun b o z => Heap.get?_push_of_some _ (k1 b o z)) (reads_of I y1 y2)
  have al1 : AllAlike (M1.map en) := fun d hd d' hd' => hal d ((pM.map en).mem_iff.mp hd) d' ((pM.map en).mem_iff.mp hd')
  have so : Sortable (M1.map en) := .inl fun d hd => by
    obtain ⟨p, hp, e⟩ := List.mem_map.mp hd
    obtain ⟨ys, _, _, y3, y4⟩ := hm p (pM.mem_iff.mp hp)
    cases ys with
    | nil => exact absurd rfl y4
    | cons x r => exact ⟨venc x, r.map venc, by rw [← e, y3] <;> rfl⟩
  refine wpAny_bind (wpAny_holding (list_sort_data (s := { s1 with heap := s1.heap.push (seqObj "list" (M1.map fun b => Value.ref (g b).1).toArray 0) }) (R := fun v (p : β) => v = Value.ref (g p).1) oL (each_self _ M1) rd al1 so (by rw [sizeLine_eq, pM.length_eq]; omega) (fun p hp => ?_) fun out ol eo => ?_))
  · obtain ⟨ys, _, _, y3, _⟩ := hm p (pM.mem_iff.mp hp)
    have z := depth_enc ys
    rw [← y3] at z
    show X.A.units + 1 + 1 + _ < _
    omega
  · rw [each_eq eo]
    obtain ⟨c, hcg⟩ := sortedHeap_at (vs := M1.map fun b => Value.ref (g b).1) (out := ((M1.mergeSort (dataLe false en)).map fun b => Value.ref (g b).1).toArray) oL
    have hn : H s1.heap.objs.size = none := I.hok.fresh hz
    have k2 : ∀ b u, s.heap.get? b = some u → (sortedHeap (s1.heap.push (seqObj "list" (M1.map fun b => Value.ref (g b).1).toArray 0)) s1.heap.objs.size (M1.map fun b => Value.ref (g b).1) ((M1.mergeSort (dataLe false en)).map fun b => Value.ref (g b).1).toArray).get? b = some u := fun b u e => by
      have e2 := k1 b u e
      have lt := Heap.lt_size e2
      rw [sortedHeap_old (Nat.ne_of_lt lt) (by rw [size_push']; exact Nat.lt_succ_of_lt lt)]
      exact Heap.get?_push_of_some _ e2
    have ml : (M1.mergeSort (dataLe false en)).length = bs.length := by rw [List.length_mergeSort, pM.length_eq]
    have J : Inv X pins σ (upd H s1.heap.objs.size (.lst ((M1.mergeSort (dataLe false en)).map fun b => V.ref (g b).1))) { s with heap := sortedHeap (s1.heap.push (seqObj "list" (M1.map fun b => Value.ref (g b).1).toArray 0)) s1.heap.objs.size (M1.map fun b => Value.ref (g b).1) ((M1.mergeSort (dataLe false en)).map fun b => Value.ref (g b).1).toArray, gens := s1.gens, drawn := s1.drawn, toks := s1.toks } :=
      I.call (ch := []) (Un.laid k2 hz hn) (I.hok.laid k2 hz ⟨by rw [List.length_map, ml, sizeLine_eq]; omega, (M1.mergeSort (dataLe false en)).map fun b => Value.ref (g b).1, c, by simpa using vals_refs g _, hcg⟩) (by rw [ge]; exact I.bare) (fun _ z => nomatch z)
    have e : ({ s1 with heap := sortedHeap (s1.heap.push (seqObj "list" (M1.map fun b => Value.ref (g b).1).toArray 0)) s1.heap.objs.size (M1.map fun b => Value.ref (g b).1) ((M1.mergeSort (dataLe false en)).map fun b => Value.ref (g b).1).toArray } : Shared) = { s with heap := sortedHeap (s1.heap.push (seqObj "list" (M1.map fun b => Value.ref (g b).1).toArray 0)) s1.heap.objs.size (M1.map fun b => Value.ref (g b).1) ((M1.mergeSort (dataLe false en)).map fun b => Value.ref (g b).1).toArray, gens := s1.gens, drawn := s1.drawn, toks := s1.toks } := by
      cases s1
      cases s
      cases os
      rfl
    refine wpAny_pure ⟨_, rfl, ?_⟩
    show ∃ _, _
    rw [e]
    exact ⟨.ref s1.heap.objs.size, _, J, rfl, q M1 _ pM hn⟩
end
end Us
end

section
set_option maxHeartbeats 2000000
/-! Us3: the set comprehension, whatever adding to the new set means. -/
namespace Us
open PySem PySem.Spec PyProof.Rows L2

/-- the wish that y can be added to the set D, and that Nx holds of the heap behind -/
abbrev Addx := Addr → V → Hp → (Hp → Prop) → Prop
structure Adds (X : Cx) (Ad : Addx) : Prop where
  run : ∀ (X' : Cx) (pn : List (Addr × Obj)) (τ : L2.St) (H : Hp) (s : Shared) (D : Addr) (y : V) (u : Value) (Nx : Hp → Prop) (E : Value → Shared → Prop), X'.prog = X.prog → X'.w = X.w → X'.K = X.K → X'.A = X.A → Inv X' pn τ H s → RelV y u → Ad D y H Nx →
    wpAny (model X.prog X.w) X.A (call (.builtin "set.add") [.ref D, u]) (fun _ s' => ∃ H', Inv X' pn τ H' s' ∧ Nx H') E s
/-- {elt for tg in it if ..}: D the new set, o its first look -/
def tSC (o : Addr → HO) (Ad : Addx) (wi : TI) (g : TG) (tt : TT) (te : TE) (vs : List Nat) : TE := fun σ H Q => wi σ H fun J H1 => ∀ D, H1 D = none → ∃ St : Nat → Nat → Hp → Prop, (∃ m, St 0 m (upd H1 D (o D))) ∧ ∀ i m Hi, St i m Hi →
  (J.stop i Hi ∧ Q (.ref D) Hi) ∨ (J.go i Hi ∧ ∃ Nx : Hp → Prop, (∀ H', Nx H' → ∃ m', m' < m ∧ St (i + 1) m' H') ∧ ∀ x H', J.yld i Hi x H' → g x (wipe σ vs) H' fun σ2 H2 => wipe σ2 vs = wipe σ vs ∧ tt σ2 H2 fun b H3 =>
    if b = true then te σ2 H3 fun y H4 => Ad D y H4 Nx else Nx H3)
section
variable {X : Cx}
abbrev bare0 (w : World) : Obj := { cls := .type "set", dict := none, data := .set #[] 0 (.fresh 0 0 (!w.params.followText "set-order")) }
theorem pe_SC {elt tg it : Expr} {ifs : List Expr} {scope : Scope} {own : List (PySem.Str × Nat)} {pos : Pos} {wi : TI} {g : TG} {tt : TT} {te : TE} {o : Addr → HO} {Ad : Addx} (hc : X.calm = true) (hN : X.N.Nodup) (hi : PI X tg it wi) (ok : BlkOk X.N X.env.scope scope own) (ads : Adds X Ad)
    (new : ∀ (H : Hp) (h : Heap) (a : Addr), h.get? a = some (bare0 X.w) → ObjOk X.prog X.w H h a (o a))
    (hg : ∀ (s : Shared) (H : Hp) (C : Addr) (cl : List (PySem.Str × Addr)) (fp : List Addr), PG (X.blk s H scope (compEnvC scope cl C X.env) fp) tg g) (ht : ∀ (s : Shared) (H : Hp) (C : Addr) (cl : List (PySem.Str × Addr)) (fp : List Addr), PTs (X.blk s H scope (compEnvC scope cl C X.env) fp) ifs tt)
    (he : ∀ (s : Shared) (H : Hp) (C : Addr) (cl : List (PySem.Str × Addr)) (fp : List Addr), PE (X.blk s H scope (compEnvC scope cl C X.env) fp) elt te) (hs : ∀ x, foldedSetIterable it X.env x = pure x := by intro _; rfl) :
    PE X (.SetComp elt [⟨tg, it, ifs, 0⟩] scope pos) (tSC o Ad wi g tt te (own.map (·.2))) := by
  refine ⟨fun pn s τ H Q I want => ?_⟩
  rw [PpSet.eval_SetComp]
  have frees : ∀ y ∈ scope.names, y.2 = .free → ∃ c, X.env.cells.lookup y.1 = some c := fun y hy e => I.ok.has _ (ok.free y hy e)
  refine wpAny_comprehension_free (use := none) rfl hs (closure_ok frees) ok.kind (fun y hy e => by rw [ok.uniq y hy, e]) (thn (hi.run pn s τ H _ I want) fun xv s1 hx => thn hx fun itv s2 h2 => ?_)
  obtain ⟨j, fp, tn, J, H2, e, I2, T, st2, f2, body⟩ := h2
  subst e
  refine PpSet.newSet_ok (newEnv_comp ?_)
  obtain ⟨D, hD⟩ : ∃ D, s2.heap.objs.size = D := ⟨_, rfl⟩
  rw [hD]
  have freeD : H2 D = none := I2.hok.fresh (Nat.le_of_eq hD)
  obtain ⟨St, ⟨m0, st0⟩, turn⟩ := body D freeD
  have up3 : ∀ b u, s2.heap.get? b = some u → (s2.heap.push (bare0 X.w)).get? b = some u := fun b u e => Heap.get?_push_of_some _ e
  have I3 : Inv X pn τ (upd H2 D (o D)) { s2 with heap := s2.heap.push (bare0 X.w) } := I2.laid (t' := s2.toks) up3 (Nat.le_of_eq hD) (new _ _ _ (by rw [← hD]; exact Heap.get?_push_size _ rfl))
  have small : ∀ b ∈ fp, b < s2.heap.objs.size := fun b hb => by
    obtain ⟨u, e, _⟩ := T.obj _ _ st2 b hb
    exact Heap.lt_size e
  have sz3 : (s2.heap.push (bare0 X.w)).objs.size = s2.heap.objs.size + 1 := Heap.size_push ..
  have f3 : ∀ b ∈ fp, FpOk X pn (upd H2 D (o D)) b ∧ b < (s2.heap.push (bare0 X.w)).objs.size := fun b hb => by
    have lt := small b hb
    have q := f2 b hb
    refine ⟨⟨?_, q.2⟩, by rw [sz3]; exact Nat.lt_succ_of_lt lt⟩
    rw [upd_ne (by rw [← hD]; exact Nat.ne_of_lt lt)]
    exact q.1
  have st3 : tn 0 (s2.heap.push (bare0 X.w)) := T.keep _ _ _ st2 fun b _ u e => up3 b u e
  have I4 := block_start I3 ok hN f3
  obtain ⟨ce, hce⟩ : ∃ ce, compEnvC scope (cellsFrom ((s2.heap.push (bare0 X.w)).objs.size + 1) scope.names (cloFrom X.env.cells scope.names [])) (s2.heap.push (bare0 X.w)).objs.size X.env = ce := ⟨_, rfl⟩
  have pg : PG (X.blk { s2 with heap := s2.heap.push (bare0 X.w) } (upd H2 D (o D)) scope ce fp) tg g := by rw [← hce]; exact hg ..
  have pt : PTs (X.blk { s2 with heap := s2.heap.push (bare0 X.w) } (upd H2 D (o D)) scope ce fp) ifs tt := by rw [← hce]; exact ht ..
  have pe : PE (X.blk { s2 with heap := s2.heap.push (bare0 X.w) } (upd H2 D (o D)) scope ce fp) elt te := by rw [← hce]; exact he ..
  show codeAny _ _ (.compStart (.SetComp elt [⟨tg, it, ifs, 0⟩] scope pos) 0 (.ref j) (.ref D) (compEnvC scope (cellsFrom ((s2.heap.push (bare0 X.w)).objs.size + 1) scope.names (cloFrom X.env.cells scope.names [])) (s2.heap.push (bare0 X.w)).objs.size X.env))
    (compPost (model X.prog X.w) X.A X.xe none (fun v s' => ∃ y H', Inv X pn τ H' s' ∧ RelV y v ∧ Q y H') (.ref D) (s2.heap.push (bare0 X.w)).objs.size) { s2 with heap := pushCells ((s2.heap.push (bare0 X.w)).push { cls := .type "dict", data := .dict #[] }) scope.names }
  rw [hce]
  have I4' : Inv (X.blk { s2 with heap := s2.heap.push (bare0 X.w) } (upd H2 D (o D)) scope ce fp) [] (wipe τ (own.map (·.2))) (upd H2 D (o D)) { s2 with heap := pushCells ((s2.heap.push (bare0 X.w)).push { cls := .type "dict", data := .dict #[] }) scope.names } := by rw [← hce]; exact I4
  have ceL : ce.locals = (s2.heap.push (bare0 X.w)).objs.size := by rw [← hce] <;> rfl
  clear I4 hce
  obtain ⟨s3, hs3⟩ : ∃ s3 : Shared, ({ s2 with heap := s2.heap.push (bare0 X.w) } : Shared) = s3 := ⟨_, rfl⟩
  obtain ⟨H3, hH3⟩ : ∃ H3, upd H2 D (o D) = H3 := ⟨_, rfl⟩
  obtain ⟨s4, hs4⟩ : ∃ s4 : Shared, ({ s2 with heap := pushCells ((s2.heap.push (bare0 X.w)).push { cls := .type "dict", data := .dict #[] }) scope.names } : Shared) = s4 := ⟨_, rfl⟩
  obtain ⟨n3, hn3⟩ : ∃ n, (s2.heap.push (bare0 X.w)).objs.size = n := ⟨_, rfl⟩
  have st4 : tn 0 s4.heap := by
    rw [← hs4]
    exact T.keep _ _ _ st3 fun b _ u e => pushCells_keeps _ _ _ _ (Heap.get?_push_of_some _ e)
  rw [hs3, hH3] at I3
  rw [hs3, hH3, hs4] at I4'
  rw [hs3, hH3] at pg pt pe
  rw [hH3] at st0 f3
  rw [hs4]
  rw [hn3] at ceL f3 ⊢
  have free3 : ∀ b ∈ fp, H3 b = none := fun b hb => (f3 b hb).1.1
  have fpok : ∀ {τ' : L2.St} {Hx : Hp} {sx : Shared}, Inv (X.blk s3 H3 scope ce fp) [] τ' Hx sx → (∀ b ∈ fp, Hx b = none) → ∀ b ∈ fp, FpOk (X.blk s3 H3 scope ce fp) [] Hx b := fun {τ' Hx sx} Ix nx b hb =>
    ⟨nx b hb, (Ix.ok.exf b hb).1, Ix.ok.exfs b hb, .inl hb, fun x c e => (Ix.ok.exf b hb).2 x c e, fun p hp => absurd (show p ∈ ([] : List (Addr × Obj)) ++ [] from hp) (by simp)⟩
  have run : codeAny (model X.prog X.w) X.A (.compLoop (.SetComp elt [⟨tg, it, ifs, 0⟩] scope pos) 0 (.ref j) (.ref D) ce) (compPost (model X.prog X.w) X.A X.xe none (fun v s' => ∃ y H', Inv X pn τ H' s' ∧ RelV y v ∧ Q y H') (.ref D) n3) s4 := by
    refine PpSet.compLoopS_any (fun n sx => ∃ i Hx, Inv (X.blk s3 H3 scope ce fp) [] (wipe τ (own.map (·.2))) Hx sx ∧ tn i sx.heap ∧ (∀ b ∈ fp, Hx b = none) ∧ St i n Hx) ?_ m0 ⟨0, H3, I4', st4, free3, st0⟩
    rintro n s5 ⟨i, H5, I5, st5, free5, w5⟩
    rcases turn i n H5 w5 with ⟨stop, fin⟩ | ⟨go, Nx, less, step⟩
    · refine thnF (T.done (X.blk s3 H3 scope ce fp) rfl rfl rfl hc i [] s5 _ H5 (fun _ _ => False) I5 (fpok I5 free5) st5 stop) fun r s6 ⟨hr, I6⟩ => ?_
      subst hr
      have I7 : Inv X pn τ H5 s6 := I3.call' (ch := fp) I6.os I6.base I6.hok I6.bare fun b hb => ⟨(f3 b hb).1.2.2.2.1, (f3 b hb).1.2.1, (f3 b hb).1.2.2.2.2.1, (f3 b hb).1.2.2.2.2.2⟩
      have freeC : H5 n3 = none := by rw [← ceL]; exact I6.free
      obtain ⟨k, ns, _⟩ := I6.loc
      have ns : s6.heap.Ns n3 k := by rw [← ceL]; exact ns
      have sz : s3.heap.objs.size ≤ n3 := by rw [← hs3]; exact Nat.le_of_eq hn3
      obtain ⟨f0, f1, f2', f3', f4, f5⟩ := I3.fpOk sz freeC
      exact ⟨k, ns, fun h'' sb => ⟨.ref D, H5, I7.turned (t' := s6.toks) (fun b u hb e => (sb.2 b hb).trans e) f0 f1 f3' f4 f5, rfl, fin⟩⟩
    · refine thnF (T.item (X.blk s3 H3 scope ce fp) rfl rfl rfl hc i [] s5 _ H5 (fun _ _ => False) I5 (fpok I5 free5) st5 go) fun r s6 ⟨u, hr, h6⟩ => ?_
      subst hr
      refine thnF h6 fun _ s7 ⟨x, H7, I7, r7, y7, st7, free7⟩ => ?_
      refine thnF (pg.run _ s7 _ H7 x u _ (I7.pinned (fpok I7 free7) (T.obj _ _ st7)) r7 (step x H7 y7)) fun _ s8 ⟨τ8, H8, I8, wp8, q8⟩ => ?_
      refine thnF (pt.run _ s8 τ8 H8 _ I8 q8) fun b s9 ⟨H9, I9, q9⟩ => ?_
      have again : ∀ {sx : Shared} {Hx : Hp}, Inv (X.blk s3 H3 scope ce fp) ([] ++ pinsAt fp s7.heap) τ8 Hx sx → Nx Hx → ∃ m, m < n ∧ ∃ i Hx, Inv (X.blk s3 H3 scope ce fp) [] (wipe τ (own.map (·.2))) Hx sx ∧ tn i sx.heap ∧ (∀ b ∈ fp, Hx b = none) ∧ St i m Hx := fun {sx Hx} Ix nx => by
        obtain ⟨m', lt, wx⟩ := less Hx nx
        have pin : ∀ b ∈ fp, ∀ u, s7.heap.get? b = some u → sx.heap.get? b = some u ∧ Hx b = none := fun b hb u e => by
          have z := Ix.pin (b, u) (List.mem_append_right _ (List.mem_append_right _ (mem_pinsAt hb e)))
          exact ⟨z.1, z.2.1⟩
        refine ⟨m', lt, i + 1, Hx, (Ix.unpinned (pins := [])).weak (by rw [← wp8, wipe_length]) (fun k v e => ?_), T.keep _ _ _ st7 fun b hb u e => (pin b hb u e).1, fun b hb => ?_, wx⟩
        · rw [← wp8] at e
          exact (wipe_some e).1
        · obtain ⟨u, e, _⟩ := T.obj _ _ st7 b hb
          exact (pin b hb u e).2
      cases b with
      | false =>
        simp only [Bool.false_eq_true, if_false] at q9 ⊢
        exact again I9 q9
      | true =>
        simp only [if_true] at q9 ⊢
        refine thnF (pe.run _ s9 τ8 H9 _ I9 q9) fun z s10 ⟨y, H10, I10, r10, add⟩ => ?_
        exact thn (ads.run (X.blk s3 H3 scope ce fp) _ τ8 H10 s10 D y z Nx _ rfl rfl rfl rfl I10 r10 add) fun _ s11 ⟨H11, I11, nx⟩ => again I11 nx
  exact PpSet.codeAny_compStart_set run (T.self X.A 0 _ _ _ st4 run)
end
end Us
end

section
set_option maxHeartbeats 2000000
namespace Pu
open PySem PySem.Spec PyProof.Rows L2 Us PySem.W

section
variable {K : PySem.W.Frag} {G : Gc} {O : Addr → Option Tg} {σ σ' : L2.St} {ρ ρ' : En} {pe : Pend} {H H' : Hp} {v : V} {d : Da}
/-- the owners behind a new object on top -/
def own1 (O : Addr → Option Tg) (p : Addr) (n : Nat) : Addr → Option Tg := fun a => if a = p then some (.pend n) else clr O (.pend n) a
theorem own1_at {p : Addr} {n : Nat} : own1 O p n p = some (.pend n) := if_pos rfl
/-- a new object of our own -/
theorem StO.pushNew {o : HO} {p : Addr} {c : Ce} (S : StO K G O σ ρ pe H) (np : H p = none) (ch : Chg o) (hc : CeOk K G (own1 O p pe.length) (upd H p o) (.pend pe.length) (.ref p) c) : StO K G (own1 O p pe.length) σ ρ ((.ref p, c) :: pe) (upd H p o) := by
  have ne : ∀ {b : Addr} {u : HO}, H b = some u → b ≠ p := fun {b u} e => ne_of_none e np
  have hk : Keep (Lof G O) H (upd H p o) := fun b u e _ => keep_upd np b u e
  have hl : ∀ b u, H b = some u → Lof G O b → Lof G (own1 O p pe.length) b := fun b u e h => ⟨(if_neg (ne e)).trans (clr_none h.1), h.2⟩
  have ow : ∀ {q t}, O q = some t → t ≠ .pend pe.length → upd H p o q = H q ∧ own1 O p pe.length q = some t := fun {q t} e n => by
    obtain ⟨u, hu, _⟩ := S.own q t e
    exact ⟨upd_ne (ne hu), (if_neg (ne hu)).trans (clr_ne e n)⟩
  refine ⟨fun b u e n => ?_, fun q t h => ?_, fun q hq => ?_, S.len, fun i c e => ?_, hc, ?_⟩
  · obtain ⟨h1, h2⟩ := S.frame b u e n
    exact ⟨keep_upd np b u h1, (if_neg (ne h1)).trans (clr_none h2)⟩
  · by_cases e : q = p
    · subst e
      exact ⟨_, upd_same, ch⟩
    · unfold own1 at h
      rw [if_neg e] at h
      obtain ⟨u, hu, c⟩ := S.own q t (of_clr h).1
      exact ⟨u, keep_upd np q u hu, c⟩
  · obtain ⟨h, n⟩ := S.pools q hq
    have h' := h
    obtain ⟨_, _, _, _, _, _, _, e, _⟩ := h'
    exact ⟨h.mono hk hl (upd_ne (ne e)), n⟩
  · obtain ⟨w, h1, h2⟩ := S.slots i c e
    exact ⟨w, h1, h2.mono hk hl fun q e => ow e (fun z => by cases z)⟩
  · exact S.pends.mono hk hl fun j hj q e => ow e (fun z => by cases z; omega)
theorem StO.notP {o : HO} {p : Addr} (S : StO K G O σ ρ pe H) (np : H p = none) : ¬ G.P0 p := fun hp => by
  obtain ⟨⟨_, _, _, _, _, _, _, e, _⟩, _⟩ := S.pools p hp
  rw [np] at e
  cases e
theorem StO.lof1 {p : Addr} {b : Addr} {u : HO} (S : StO K G O σ ρ pe H) (np : H p = none) (e : H b = some u) (h : Lof G O b) : Lof G (own1 O p pe.length) b := ⟨(if_neg (ne_of_none e np)).trans (clr_none h.1), h.2⟩
/-- the object of our own on top changes -/
theorem StO.turnTop {c c' : Ce} {p : Addr} {o o' : HO} (S : StO K G O σ ρ ((.ref p, c) :: pe) H) (ot : O p = some (.pend pe.length)) (hp : H p = some o) (ch : Chg o) (np : ¬ G.P0 p) (ch' : Chg o')
    (hc : Keep (Lof G O) H (upd H p o') → CeOk K G O (upd H p o') (.pend pe.length) (.ref p) c') : StO K G O σ ρ ((.ref p, c') :: pe) (upd H p o') ∧ Keep (Lof G O) H (upd H p o') := by
  have hk : Keep (Lof G O) H (upd H p o') := fun b x e k => by
    rw [upd_ne]
    · exact e
    · rintro rfl
      rcases k with k | k
      · have k1 := k.1
        rw [ot] at k1
        cases k1
      · rw [hp] at e
        cases e
        exact k ch
  have hl : ∀ b x, H b = some x → Lof G O b → Lof G O b := fun _ _ _ h => h
  refine ⟨⟨fun b x e n => ⟨?_, (S.frame b x e n).2⟩, fun q t h => ?_, fun q hq => ⟨(S.pools q hq).1.mono hk hl (upd_ne fun e => np (e ▸ hq)), (S.pools q hq).2⟩, S.len, fun j c h => ?_, hc hk, ?_⟩, hk⟩
  · rw [upd_ne]
    · exact (S.frame b x e n).1
    · rintro rfl
      have f := (S.frame b x e n).2
      rw [ot] at f
      cases f
  · by_cases e : q = p
    · subst e
      exact ⟨_, upd_same, ch'⟩
    · rw [upd_ne e]
      exact S.own q t h
  · obtain ⟨w, h1, h2⟩ := S.slots j c h
    exact ⟨w, h1, h2.mono hk hl (fun q e => ⟨upd_ne (fun q' => by
      rw [q', ot] at e
      cases e), e⟩)⟩
  · exact S.pends.2.mono hk hl (fun j hj q e => ⟨upd_ne (fun q' => by
      rw [q', ot] at e
      cases e
      omega), e⟩)
end

/-! ### members -/
def numsOf (ds : List Da) : Option (List Int) := ds.mapM Da.num
theorem nums_flat {K : PySem.W.Frag} {L : Addr → Prop} {H : Hp} : ∀ {ds : List Da} {k : List Int} {vs : List V}, ds.mapM Da.num = some k → Reps K L H ds vs → Flat vs k ∧ vs.map venc = Da.pys ds
  | [], k, vs, e, r => by
    simp only [List.mapM_nil] at e
    cases e
    simp only [Reps] at r
    subst r
    exact ⟨rfl, rfl⟩
  | d :: ds, k, vs, e, r => by
    simp only [Reps] at r
    obtain ⟨v, ws, rfl, r1, r2⟩ := r
    simp only [List.mapM_cons, Option.pure_def, Option.bind_eq_bind, Option.bind_eq_some_iff, Option.some.injEq] at e
    obtain ⟨n, e1, ns, e2, rfl⟩ := e
    obtain ⟨h1, h2⟩ := nums_flat e2 r2
    have q : vk v = some n ∧ venc v = d.py := by
      cases d <;> simp [Da.num] at e1
      · rw [rep_bl'.mp r1]
        exact ⟨by simp [vk, e1], rfl⟩
      · rw [rep_int.mp r1]
        exact ⟨by simp [vk, e1], rfl⟩
    exact ⟨by unfold Flat at h1 ⊢; rw [List.map_cons, List.map_cons, q.1, h1], by rw [List.map_cons, q.2, h2, Da.pys]⟩
/-- a keyed datum is a tuple -/
theorem key_rep {K : PySem.W.Frag} {L : Addr → Prop} {H : Hp} {d : Da} {k : List Int} {v : V} (e : Da.key d = some k) (r : Rep K L H d v) : ∃ a vs, v = .ref a ∧ SqT K H a vs ∧ Flat vs k ∧ d.py = enc vs ∧ vs ≠ [] := by
  unfold Da.key at e
  split at e
  · rename_i d0 ds
    obtain ⟨a, vs, e1, q, z, rs⟩ := rep_tup.mp r
    obtain ⟨h1, h2⟩ := nums_flat e rs
    refine ⟨a, vs, e1, q, h1, by rw [Da.py, enc, h2], fun z => ?_⟩
    have l := rs.length
    rw [z] at l
    cases l
  · cases e

section
variable {X : Cx} {G : Gc} {x : Ex → En → Prop}
/-- the reading of an expression whose value is a new set of our own -/
def tst (K : PySem.W.Frag) (G : Gc) (x : Ex → En → Prop) (m : W (List Da)) : TE := fun σ H Q => ∃ ρ pe, Sd K G σ ρ pe H ∧ m.wp ρ (fun ds ρ' => ∀ v H', Sd K G σ ρ' ((v, .set ds) :: pe) H' → Q v H') x
def eKey (e : W Da) : W Da := e.bind fun y => (W.req ((Da.key y).isSome = true)).bind fun _ => W.ret y
/-- {e for t in m if c} -/
def eSC (vs : List Nat) (m : W (List Da)) (t : Tt) (c : W Bool) (e : W Da) : W (List Da) :=
  ⟨fun ρ k x => m.wp ρ (fun ds ρ1 => ds.length < 60 ∧ wipeE ρ1 vs = ρ1 ∧ lcW t c (eKey e) ds [] ρ1 (fun acc => k acc ρ1)) x, fun hk hx h => m.mono (fun _ _ ⟨h0, h1, h2⟩ => ⟨h0, h1, lcW_mono (fun _ z => hk _ _ z) h2⟩) hx h⟩

/-- adding a datum, told of the members -/
def addD (P : Program) (w : World) (K : PySem.W.Frag) : Addx := fun D y H Nx => ∃ (a : Addr) (M : Mem) (k : Ky) (xs : List V), y = .ref a ∧ H D = some (SetTO P w D M) ∧ Mems K H M ∧ SqT K H a xs ∧ Flat xs k ∧ M.length + 1 < 64 ∧
  ∀ M', (k ∈ M.map (·.2) → M' = M) → (k ∉ M.map (·.2) → M'.Perm ((a, k) :: M)) → Nx (upd H D (SetTO P w D M'))
theorem addD_adds (hu : X.A.units + 4 < cLine) : Adds X (addD X.prog X.w X.K) := ⟨fun X' pn τ H s D y u Nx E e1 e2 e3 e4 I r h => by
  obtain ⟨a, M, k, xs, rfl, hD, hm, hx, hk, few, nx⟩ := h
  cases r
  rw [← e1, ← e2] at hD nx
  rw [← e3] at hm hx
  rw [← e4] at hu
  rw [← e1, ← e2, ← e4]
  exact addU_ok I hD hm hx hk few hu fun M' s' c1 c2 I' => ⟨_, I', nx M' c1 c2⟩⟩
theorem fresh_set {P : Program} {w : World} (H : Hp) (h : Heap) (a : Addr) (e : h.get? a = some (bare0 w)) : ObjOk P w H h a (SetTO P w a []) := setTO_new (setTR_fresh e).t0

theorem perm_pull {β : Type} (g : β → Addr × Ky) {M' : Mem} {b : β} {bs : List β} (p : M'.Perm (g b :: bs.map g)) : ∃ bs' : List β, bs'.Perm (b :: bs) ∧ M' = bs'.map g := perm_map p (b :: bs) rfl
theorem setOf_old {ds ms : List Da} {d : Da} (h : SetOf ds ms) (hd : Da.key d ∈ ms.map Da.key) : SetOf (ds ++ [d]) ms :=
  ⟨h.1, fun e he => List.mem_append_left _ (h.2.1 e he), fun e he => (List.mem_append.mp he).elim (h.2.2 e) fun z => by rw [List.mem_singleton.mp z]; exact hd⟩
theorem setOf_new {ds ms ms' : List Da} {d : Da} (h : SetOf ds ms) (hd : Da.key d ∉ ms.map Da.key) (p : ms'.Perm (d :: ms)) : SetOf (ds ++ [d]) ms' := by
  refine ⟨(p.map Da.key).nodup_iff.mpr (List.nodup_cons.mpr ⟨hd, h.1⟩), fun e he => ?_, fun e he => ?_⟩
  · rcases List.mem_cons.mp (p.mem_iff.mp he) with z | z
    · rw [z]; exact List.mem_append_right _ (List.mem_singleton.mpr rfl)
    · exact List.mem_append_left _ (h.2.1 e z)
  · refine (p.map Da.key).mem_iff.mpr ?_
    rcases List.mem_append.mp he with z | z
    · exact List.mem_cons_of_mem _ (h.2.2 e z)
    · rw [List.mem_singleton.mp z]; exact List.mem_cons_self

theorem sc_run {vs : List Nat} {m : W (List Da)} {t : Tt} {c : W Bool} {n : W Da} (so : G.so = SetTO X.prog X.w) (hv : ∀ i ∈ t.slots, i ∈ vs) {σ : L2.St} {H : Hp} {Q : VK} (q : tst X.K G x (eSC vs m t c n) σ H Q) :
    tSC (fun D => SetTO X.prog X.w D []) (addD X.prog X.w X.K) (tit X.K G x m) (tgg X.K G t) (ttt X.K G noEx c) (tp X.K G noEx n) vs σ H Q := by
  obtain ⟨ρ, pe, S, q⟩ := q
  refine ⟨ρ, pe, S, m.mono (fun ds ρ1 q J src H1 iok hz S1 D nD => ?_) (fun _ _ z => z) q⟩
  obtain ⟨few, hw, q⟩ := q
  obtain ⟨O, S1⟩ := S1
  obtain ⟨S2, rs⟩ := S1.popD
  have hkeep : Keep (Lof G O) H1 (upd H1 D (SetTO X.prog X.w D [])) := fun b u e _ => keep_upd nD b u e
  have S3 : StO X.K G (own1 O D pe.length) σ ρ1 ((.ref D, .set []) :: pe) (upd H1 D (SetTO X.prog X.w D [])) := S2.pushNew nD trivial ⟨D, [], rfl, own1_at, by rw [so]; exact upd_same, S2.notP (o := .lst []) nD, Nat.le_refl _, ⟨List.nodup_nil, fun _ h => (nomatch h), fun _ h => (nomatch h)⟩, fun _ h => (nomatch h)⟩
  have S4 := S3.pushDs (l := src) fun p hp => Rep.mono hkeep (fun b u e z => S2.lof1 nD e z) _ _ (rs p hp)
  refine ⟨fun i k H' => k = ds.length - i ∧ i ≤ ds.length ∧ ∃ acc, acc.length ≤ i ∧ Sd X.K G (wipe σ vs) ρ1 (dats src ++ ((.ref D, .set acc) :: pe)) H' ∧
    lcW t c (eKey n) (ds.drop i) acc ρ1 (fun acc => ∀ v H', Sd X.K G σ ρ1 ((v, .set acc) :: pe) H' → Q v H'), ⟨_, rfl, Nat.zero_le _, [], Nat.le_refl _, ⟨_, S4.wiped hw⟩, q⟩, ?_⟩
  rintro i k H' ⟨rfl, hi, acc, ha, ⟨O5, S5⟩, q5⟩
  obtain ⟨S6, rs6⟩ := S5.popD
  have io := iok (Lof G O5) H' rs6 i
  by_cases hlt : i < ds.length
  · obtain ⟨g, y⟩ := io.1 ds[i] (List.getElem?_eq_getElem hlt)
    rw [List.drop_eq_getElem_cons hlt] at q5
    refine .inr ⟨g, fun H'' => ∃ acc, acc.length ≤ i + 1 ∧ Sd X.K G (wipe σ vs) ρ1 (dats src ++ ((.ref D, .set acc) :: pe)) H'' ∧
      lcW t c (eKey n) (ds.drop (i + 1)) acc ρ1 (fun acc => ∀ v H', Sd X.K G σ ρ1 ((v, .set acc) :: pe) H' → Q v H'), fun H'' ⟨acc', h1, h2, h3⟩ => ⟨ds.length - (i + 1), by omega, rfl, hlt, acc', h1, h2, h3⟩, fun w H'' hy => ?_⟩
    obtain ⟨kk, rw'⟩ := y w H'' hy
    obtain ⟨ρ2, hb, qc⟩ := q5
    have S7 : StO X.K G O5 (wipe σ vs) ρ1 ((w, .dat ds[i]) :: (dats src ++ ((.ref D, .set acc) :: pe))) H'' := (S5.heap kk).pushD (Rep.mono (fun _ _ e _ => e) (fun b u e z => z.elim id fun z => S5.fresh z) _ _ rw')
    refine ⟨ρ1, _, _, ρ2, ⟨O5, S7⟩, hb, fun σ2 H2 bt S8 => ⟨wipe_but bt hv, ?_⟩⟩
    refine ⟨ρ2, _, S8, c.mono (fun b ρ3 hq H3 S9 => ?_) (fun _ _ z => z) qc⟩
    obtain ⟨e3, q9⟩ := hq
    subst e3
    have toOld : ∀ {pe' : Pend} {Hx : Hp}, Sd X.K G σ2 ρ3 pe' Hx → Sd X.K G (wipe σ vs) ρ1 pe' Hx := fun {pe' Hx} ⟨Oy, Sy⟩ => by
      obtain ⟨bl, bo⟩ := bind_but hb
      refine ⟨Oy, Sy.weak (by rw [← bl, Sy.len, bt.1]) fun j cc ej => ?_⟩
      have nj : j ∉ vs := fun z => wipeE_none z cc (hw.symm ▸ ej)
      have nt : j ∉ t.slots := fun z => nj (hv j z)
      exact ⟨(bo j nt).trans ej, (bt.2 j nt).symm⟩
    cases b with
    | false =>
      refine iteF ⟨acc, Nat.le_succ_of_le ha, toOld S9, ?_⟩
      exact (show (if false = true then _ else lcW t c (eKey n) (ds.drop (i + 1)) acc ρ1 _) from q9)
    | true =>
      have q9' : (eKey n).wp ρ3 _ noEx := (show (if true = true then _ else _) from q9)
      refine iteT ⟨ρ3, _, S9, n.mono (fun yd ρ4 hq yv H4 S10 => ?_) (fun _ _ z => z) (show n.wp ρ3 _ noEx from q9')⟩
      obtain ⟨hkey, e4, q10⟩ := hq
      subst e4
      obtain ⟨Oz, Sz⟩ := S10
      have ry := Sz.top
      obtain ⟨Sw, rsw⟩ := Sz.pop.popD
      obtain ⟨p, bs, ep, op, hp, np, hlen, hset, hall⟩ := Sw.pends.1
      cases ep
      obtain ⟨ky, ek⟩ := Option.isSome_iff_exists.mp hkey
      obtain ⟨a, xs, ea, hsq, hfl, _, _⟩ := key_rep ek ry
      subst ea
      rw [so] at hp
      refine ⟨a, _, ky, xs, rfl, hp, fun r hr => ?_, hsq, hfl, by rw [List.length_map]; omega, fun M' c1 c2 => ?_⟩
      · obtain ⟨b, hb', e⟩ := List.mem_map.mp hr
        obtain ⟨h1, h2⟩ := hall b hb'
        obtain ⟨a', xs', ea', s1, s2, _⟩ := key_rep h2 h1
        cases ea'
        exact ⟨xs', by rw [← e]; exact s1, by rw [← e]; exact s2⟩
      · have same : Da.key yd ∈ (bs.map (·.2.2)).map Da.key ↔ ky ∈ (bs.map fun b => (b.1, b.2.1)).map (·.2) := by
          rw [ek, List.map_map, List.map_map]
          simp only [List.mem_map, Function.comp_apply]
          constructor
          · rintro ⟨b, hb', e⟩
            rw [(hall b hb').2] at e
            exact ⟨b, hb', Option.some.inj e⟩
          · rintro ⟨b, hb', e⟩
            exact ⟨b, hb', by rw [(hall b hb').2, e]⟩
        obtain ⟨Sq, kq⟩ := Sw.turnTop (c' := .set (acc ++ [yd])) (o' := SetTO X.prog X.w D M') op hp trivial np trivial (fun kq => by
          by_cases hin : ky ∈ (bs.map fun b => (b.1, b.2.1)).map (·.2)
          · exact ⟨D, bs, rfl, op, by rw [so, c1 hin]; exact upd_same, np, by simp; omega, setOf_old hset (same.mpr hin), fun b hb' => ⟨Rep.mono kq (fun _ _ _ z => z) _ _ (hall b hb').1, (hall b hb').2⟩⟩
          · obtain ⟨bs', p', e'⟩ := perm_pull (fun b : Addr × List Int × Da => (b.1, b.2.1)) (b := (a, ky, yd)) (c2 hin)
            refine ⟨D, bs', rfl, op, by rw [so, ← e']; exact upd_same, np, ?_, setOf_new hset (fun z => hin (same.mp z)) (p'.map (·.2.2)), fun b hb' => ?_⟩
            · have l := p'.length_eq
              simp only [List.length_cons, List.length_append, List.length_nil] at l ⊢
              omega
            · rcases List.mem_cons.mp (p'.mem_iff.mp hb') with z | z
              · rw [z]
                exact ⟨Rep.mono kq (fun _ _ _ z => z) _ _ ry, ek⟩
              · exact ⟨Rep.mono kq (fun _ _ _ z => z) _ _ (hall b z).1, (hall b z).2⟩)
        exact ⟨acc ++ [yd], by simp; omega, toOld ⟨Oz, Sq.pushDs fun p hp => Rep.mono kq (fun _ _ _ z => z) _ _ (rsw p hp)⟩, q10⟩
  · have e : i = ds.length := by omega
    subst e
    refine .inl ⟨io.2 (Nat.le_refl _), ?_⟩
    rw [List.drop_length] at q5
    exact q5 _ _ ⟨_, S6.unwiped hw⟩
theorem p_sc {tg e it : Expr} {ifs : List Expr} {scope : Scope} {own : List (Str × Nat)} {pos : Pos} {m : W (List Da)} {t : Tt} {c : W Bool} {n : W Da} (so : G.so = SetTO X.prog X.w) (hu : X.A.units + 4 < cLine) (hc : X.calm = true) (hN : X.N.Nodup) (hi : PI X tg it (tit X.K G x m)) (ok : BlkOk X.N X.env.scope scope own)
    (hg : ∀ (s : Shared) (H : Hp) (C : Addr) (cl : List (Str × Addr)) (fp : List Addr), PG (X.blk s H scope (compEnvC scope cl C X.env) fp) tg (tgg X.K G t))
    (ht : ∀ (s : Shared) (H : Hp) (C : Addr) (cl : List (Str × Addr)) (fp : List Addr), PTs (X.blk s H scope (compEnvC scope cl C X.env) fp) ifs (ttt X.K G noEx c))
    (he : ∀ (s : Shared) (H : Hp) (C : Addr) (cl : List (Str × Addr)) (fp : List Addr), PE (X.blk s H scope (compEnvC scope cl C X.env) fp) e (tp X.K G noEx n))
    (hv : ∀ i ∈ t.slots, i ∈ own.map (·.2)) (hs : ∀ y, foldedSetIterable it X.env y = pure y := by intro _; rfl) :
    PE X (.SetComp e [⟨tg, it, ifs, 0⟩] scope pos) (tst X.K G x (eSC (own.map (·.2)) m t c n)) :=
  (pe_SC hc hN hi ok (addD_adds hu) (fun H h a e => fresh_set H h a e) hg ht he hs).of fun _ _ _ q => sc_run so hv q

/-! ### sorted(set) -/
def alikeD (ds : List Da) : Prop := ∀ a ∈ ds, ∀ b ∈ ds, alike a.py b.py = true
def sortD (ds : List Da) : List Da := ds.mergeSort (dataLe false Da.py)
def eSortS (m : W (List Da)) : W (List Da) := m.bind fun ds => ⟨fun ρ k x => alikeD ds ∧ ds.length ≤ 1000 ∧ ∀ ms, SetOf ds ms → k (sortD ms) ρ, fun hk hx h => ⟨h.1, h.2.1, fun ms hm => hk _ _ (h.2.2 ms hm)⟩⟩

theorem ms_map {α β : Type} {f : α → β} {le : β → β → Bool} (l : List α) : (l.map f).mergeSort le = (l.mergeSort fun a b => le (f a) (f b)).map f := by
  rw [List.map_mergeSort]
  exact fun _ _ _ _ => rfl
theorem reps_of {K : PySem.W.Frag} {L : Addr → Prop} {H : Hp} {β : Type} (f : β → V) (g : β → Da) : ∀ {l : List β}, (∀ b ∈ l, Rep K L H (g b) (f b)) → Reps K L H (l.map g) (l.map f)
  | [], _ => rfl
  | b :: l, h => by
    simp only [List.map_cons, Reps]
    exact ⟨_, _, rfl, h b List.mem_cons_self, reps_of f g fun c hc => h c (List.mem_cons_of_mem _ hc)⟩
theorem p_sortS {e : Expr} {p pos : Pos} {m : W (List Da)} (so : G.so = SetTO X.prog X.w) (hu : X.A.units + 8 < cLine) (hc : X.calm = true) (hg : Gl X "sorted") (hm : X.mg "sorted" = none) (he : PE X e (tst X.K G x m))
    (hs : starEach [e] X.env = (false, eval e X.env) :: starEach [] X.env := by rfl) : PE X (.Call (.Name "sorted" p) [e] [] pos) (tow X.K G x (eSortS m)) :=
  (pe_callB (cr_sortedU (β := Addr × List Int × Da) hc hu) hg hm rfl (pa_cons he pa_nil hs) (by decide) (by decide) hs).of fun σ H Q ⟨ρ, pe, S, q⟩ => by
  refine ⟨ρ, pe, S, m.mono (fun ds ρ1 q v H1 S1 => ?_) (fun _ _ z => z) q⟩
  obtain ⟨hal, h1000, q⟩ := q
  obtain ⟨O, S1⟩ := S1
  obtain ⟨p, bs, ep, op, hp, np, hlen, hset, hall⟩ := S1.pends.1
  subst ep
  rw [so] at hp
  refine ⟨p, bs, fun b => (b.1, b.2.1), fun b => b.2.2.py, rfl, hp, fun b hb => ?_, ?_, fun bs' l pm nl => ?_⟩
  · obtain ⟨h1, h2⟩ := hall b hb
    obtain ⟨a, xs, ea, s1, s2, s3, s4⟩ := key_rep h2 h1
    cases ea
    exact ⟨xs, s1, s2, s3, s4⟩
  · intro d hd d' hd'
    obtain ⟨b, hb, rfl⟩ := List.mem_map.mp hd
    obtain ⟨b', hb', rfl⟩ := List.mem_map.mp hd'
    exact hal _ (hset.2.1 _ (List.mem_map.mpr ⟨b, hb, rfl⟩)) _ (hset.2.1 _ (List.mem_map.mpr ⟨b', hb', rfl⟩))
  · have pm2 := pm.map (·.2.2)
    have hset' : SetOf ds (bs'.map (·.2.2)) := ⟨(pm2.map Da.key).nodup_iff.mpr hset.1, fun d hd => hset.2.1 d (pm2.mem_iff.mp hd), fun d hd => (pm2.map Da.key).mem_iff.mpr (hset.2.2 d hd)⟩
    have eq : sortD (bs'.map (·.2.2)) = (bs'.mergeSort (dataLe false fun b => b.2.2.py)).map (·.2.2) := ms_map (f := fun b : Addr × List Int × Da => b.2.2) (le := dataLe false Da.py) bs'
    refine q _ hset' _ _ ⟨_, S1.pop.pushOwn (p := l) nl ?_ ?_⟩
    · rw [eq, List.length_map, List.length_mergeSort, pm.length_eq, line_eq]
      omega
    · rw [eq]
      exact reps_of _ _ fun b hb => (hall b (pm.mem_iff.mp (List.mem_mergeSort.mp hb))).1
end
end Pu
end

section
set_option maxHeartbeats 2000000
namespace Pu
open PySem PySem.Spec PyProof.Rows L2 Us PySem.W

/-! ### set(list of tuples of ints), list(e) -/
def intsD : List Da → Option (List Int)
  | [] => some []
  | .int i :: r => (intsD r).map (i :: ·)
  | _ => none
def intKey : Da → Option (List Int)
  | .tup (d :: ds) => intsD (d :: ds)
  | _ => none
theorem intsD_nums : ∀ {ds : List Da} {k : List Int}, intsD ds = some k → ds = k.map Da.int ∧ ds.mapM Da.num = some k
  | [], k, e => by cases e; exact ⟨rfl, rfl⟩
  | d :: ds, k, e => by
    cases d <;> simp [intsD] at e
    obtain ⟨k', e1, rfl⟩ := e
    obtain ⟨h1, h2⟩ := intsD_nums e1
    exact ⟨by rw [h1]; rfl, by simp [List.mapM_cons, h2, Da.num]⟩
theorem intKey_key {d : Da} {k : List Int} (e : intKey d = some k) : Da.key d = some k ∧ d = .tup (k.map Da.int) := by
  unfold intKey at e
  split at e
  · obtain ⟨h1, h2⟩ := intsD_nums e
    exact ⟨h2, by rw [h1]⟩
  · cases e
theorem ints_vs {K : PySem.W.Frag} {L : Addr → Prop} {H : Hp} : ∀ {k : List Int} {vs : List V}, Reps K L H (k.map Da.int) vs → vs = k.map V.int
  | [], vs, r => by simpa [Reps] using r
  | n :: k, vs, r => by
    simp only [List.map_cons, Reps] at r
    obtain ⟨v, ws, rfl, r1, r2⟩ := r
    rw [rep_int.mp r1, ints_vs r2, List.map_cons]
theorem intKey_rep {K : PySem.W.Frag} {L : Addr → Prop} {H : Hp} {d : Da} {k : List Int} {v : V} (e : intKey d = some k) (r : Rep K L H d v) : ∃ a, v = .ref a ∧ SqT K H a (k.map V.int) := by
  obtain ⟨_, h⟩ := intKey_key e
  subst h
  obtain ⟨a, vs, e1, q, z, rs⟩ := rep_tup.mp r
  rw [ints_vs rs] at q
  exact ⟨a, e1, q⟩
/-- a choice for each of a list -/
theorem list_choice {α β : Type} {R : α → β → Prop} : ∀ {l : List α}, (∀ a ∈ l, ∃ b, R a b) → ∃ bs : List (α × β), l = bs.map (·.1) ∧ ∀ p ∈ bs, R p.1 p.2
  | [], _ => ⟨[], rfl, fun _ h => nomatch h⟩
  | a :: l, h => by
    obtain ⟨b, hb⟩ := h a List.mem_cons_self
    obtain ⟨bs, e, hr⟩ := list_choice (l := l) fun c hc => h c (List.mem_cons_of_mem _ hc)
    refine ⟨(a, b) :: bs, by rw [List.map_cons, ← e], fun p hp => ?_⟩
    rcases List.mem_cons.mp hp with z | z
    · rw [z]; exact hb
    · exact hr p z
theorem keyed_list {K : PySem.W.Frag} {L : Addr → Prop} {H : Hp} : ∀ {ds : List Da} {vs : List V}, (∀ d ∈ ds, (intKey d).isSome = true) → Reps K L H ds vs →
    ∃ bs : List (Addr × List Int × Da), vs = bs.map (fun b => V.ref b.1) ∧ ds = bs.map (·.2.2) ∧ ∀ b ∈ bs, intKey b.2.2 = some b.2.1 ∧ Rep K L H b.2.2 (.ref b.1) ∧ SqT K H b.1 (b.2.1.map V.int)
  | [], vs, _, r => ⟨[], by simpa [Reps] using r, rfl, fun _ h => nomatch h⟩
  | d :: ds, vs, h, r => by
    simp only [Reps] at r
    obtain ⟨v, ws, rfl, r1, r2⟩ := r
    obtain ⟨k, hk⟩ := Option.isSome_iff_exists.mp (h d List.mem_cons_self)
    obtain ⟨a, rfl, q⟩ := intKey_rep hk r1
    obtain ⟨bs, e1, e2, hb⟩ := keyed_list (fun c hc => h c (List.mem_cons_of_mem _ hc)) r2
    refine ⟨(a, k, d) :: bs, by rw [List.map_cons, ← e1], by rw [List.map_cons, ← e2], fun b hp => ?_⟩
    rcases List.mem_cons.mp hp with z | z
    · rw [z]; exact ⟨hk, r1, q⟩
    · exact hb b z

section
variable {X : Cx} {G : Gc} {x : Ex → En → Prop}
/-- set(xs), with the members' keys apart -/
def rSetU (K : PySem.W.Frag) (P : Program) (w : World) : List V → Hp → VK → Prop := fun xs H Q => ∃ (l : Addr) (ks : List (Addr × List Int)), xs = [V.ref l] ∧ SqL K H l (ks.map fun p => V.ref p.1) ∧ (∀ p ∈ ks, SqT K H p.1 (p.2.map V.int)) ∧ ks.length < 64 ∧
  ∀ a L, H a = none → (L.map (·.2)).Nodup → L.length ≤ ks.length → (∀ p ∈ L, p ∈ ks) → (∀ p ∈ ks, p.2 ∈ L.map (·.2)) → Q (.ref a) (upd H a (SetTO P w a L))
theorem cr_setU (hc : X.calm = true) (hu : X.A.units + 64 < cLine) : CallR X (.type "set") (rSetU X.K X.prog X.w) := by
  intro pn s τ H xs us Q I r h
  obtain ⟨l, ks, rfl, hl, hk, few, q⟩ := h
  rw [Vals.ref1 r]
  obtain ⟨its, rv, pl, _⟩ := I.list hl
  have fr : H s.heap.objs.size = none := I.hok.fresh (Nat.le_refl _)
  refine call_set_tups (P := X.prog) (w := X.w) ks (I.ok.hd hc) pl.isList (by simpa using refs_of_vals rv) (fun p hp => I.isT (hk p hp)) few (by omega) fun h' tk L es ep t R g k => ?_
  refine ⟨.ref s.heap.objs.size, _, I.laid (t' := tk) k (Nat.le_refl _) (setTO_new R.t0), rfl, q _ L fr R.nd g.len (fun p hp => List.mem_of_mem_take (g.sub p hp)) fun p hp => g.all p ?_⟩
  rw [List.take_length]
  exact hp
def eSetOf (m : W (List Da)) : W (List Da) := m.bind fun ds => (W.req (ds.length < 60 ∧ ∀ d ∈ ds, (intKey d).isSome = true)).bind fun _ => W.ret ds
theorem p_setOf {e : Expr} {p pos : Pos} {m : W (List Da)} (so : G.so = SetTO X.prog X.w) (hu : X.A.units + 64 < cLine) (hc : X.calm = true) (hg : Gl X "set") (hm : X.mg "set" = none) (he : PE X e (tow X.K G x m))
    (hs : starEach [e] X.env = (false, eval e X.env) :: starEach [] X.env := by rfl) : PE X (.Call (.Name "set" p) [e] [] pos) (tst X.K G x (eSetOf m)) :=
  (pe_callTy (cr_setU hc hu) hg hm rfl (pa_cons he pa_nil hs) (by decide) (by decide) hs).of fun σ H Q ⟨ρ, pe, S, q⟩ => by
  refine ⟨ρ, pe, S, m.mono (fun ds ρ1 q v H1 S1 => ?_) (fun _ _ z => z) q⟩
  obtain ⟨⟨hl, hk⟩, q⟩ := q
  obtain ⟨O, S1⟩ := S1
  obtain ⟨p, xs, ep, op, hp, z, rs, np⟩ := S1.pends.1
  subst ep
  obtain ⟨bs, e1, e2, hb⟩ := keyed_list hk rs
  refine ⟨p, bs.map fun b => (b.1, b.2.1), rfl, .inl (.inl (by rw [hp, e1, List.map_map] <;> rfl)), fun r hr => ?_, by rw [e2, List.length_map] at hl; rw [List.length_map]; omega, fun a L na nd ll hsub hall => ?_⟩
  · obtain ⟨b, hb', e⟩ := List.mem_map.mp hr
    rw [← e]
    exact (hb b hb').2.2
  · obtain ⟨cs, ec, hcs⟩ := list_choice (R := fun (r : Addr × List Int) (b : Addr × List Int × Da) => b ∈ bs ∧ (b.1, b.2.1) = r) (l := L) fun r hr => List.mem_map.mp (hsub r hr)
    -- the members
    have em : L = (cs.map (·.2)).map fun b => (b.1, b.2.1) := by
      rw [ec, List.map_map]
      exact List.map_congr_left fun c hc => (hcs c hc).2.symm
    have hms : ∀ b ∈ cs.map (·.2), b ∈ bs := fun b hb' => by
      obtain ⟨c, hc, e⟩ := List.mem_map.mp hb'
      rw [← e]; exact (hcs c hc).1
    have keys : ((cs.map (·.2)).map (·.2.2)).map Da.key = (L.map (·.2)).map some := by
      rw [em]
      generalize hcs2 : cs.map (·.2) = cs2 at hms
      rw [List.map_map, List.map_map, List.map_map]
      exact List.map_congr_left fun b hb' => (intKey_key (hb b (hms b hb')).1).1
    refine q _ _ ⟨_, S1.pop.pushNew (p := a) (c := .set ds) na trivial ⟨a, cs.map (·.2), rfl, own1_at, by rw [so, ← em]; exact upd_same, S1.pop.notP (o := .lst []) na, ?_, ⟨?_, fun d hd => ?_, fun d hd => ?_⟩, fun b hb' => ?_⟩⟩
    · rw [em, List.length_map, List.length_map, List.length_map] at ll
      rw [List.length_map, e2, List.length_map]
      exact ll
    · rw [keys]
      exact nd.map some (fun a b hne e => hne (Option.some.inj e))
    · obtain ⟨b, hb', e⟩ := List.mem_map.mp hd
      rw [← e, e2]
      exact List.mem_map.mpr ⟨b, hms b hb', rfl⟩
    · rw [keys]
      rw [e2] at hd
      obtain ⟨b, hb', e⟩ := List.mem_map.mp hd
      rw [← e, (intKey_key (hb b hb').1).1]
      exact List.mem_map.mpr ⟨_, hall _ (List.mem_map.mpr ⟨b, hb', rfl⟩), rfl⟩
    · have h := hb b (hms b hb')
      exact ⟨Rep.mono (fun b u e _ => keep_upd na b u e) (fun b u e z => S1.pop.lof1 na e z) _ _ h.2.1, (intKey_key h.1).1⟩

/-! ### list(e) -/
theorem p_list {e : Expr} {p pos : Pos} {m : W Da} (hg : Gl X "list") (hm : X.mg "list" = none) (he : PE X e (tp X.K G x m))
    (hs : starEach [e] X.env = (false, eval e X.env) :: starEach [] X.env := by rfl) : PE X (.Call (.Name "list" p) [e] [] pos) (tow X.K G x (eList m)) :=
  (pe_callTy call_list_of hg hm rfl (pa_cons he pa_nil hs) (by decide) (by decide) hs).of fun σ H Q ⟨ρ, pe, S, q⟩ => by
  refine ⟨ρ, pe, S, m.mono (fun d ρ1 q v H1 S1 => ?_) (fun _ _ z => z) q⟩
  obtain ⟨ds, e, q⟩ := W.opt_wp q
  obtain ⟨O, S1⟩ := S1
  have r := S1.top
  cases d with
  | tup es =>
    cases e
    obtain ⟨a, vs, rfl, hq, z, rs⟩ := rep_tup.mp r
    exact ⟨a, vs, rfl, .inr hq, fun l nl => q _ _ ⟨_, S1.pop.pushOwn nl z rs⟩⟩
  | lst es =>
    cases e
    obtain ⟨a, vs, rfl, hq, z, rs⟩ := rep_lst.mp r
    exact ⟨a, vs, rfl, .inl (LAt.sq hq), fun l nl => q _ _ ⟨_, S1.pop.pushOwn nl z rs⟩⟩
  | scr ns =>
    cases e
    simp only [Rep] at r
    obtain ⟨a, rfl, hq, z⟩ := r
    exact ⟨a, _, rfl, .inl hq.1, fun l nl => q _ _ ⟨_, S1.pop.pushOwn nl (by rw [List.length_map, line_eq]; omega) (intL_reps ns)⟩⟩
  | _ => cases e
end
end Pu
end

section
set_option maxHeartbeats 4000000
/-! Ex1: __init__ of an exception class of the program's own, over another such class: super().__init__(f'..'), self.fld = arg. -/
namespace Ex
open PySem PySem.Spec PyProof.Rows L2 PySem.W

/-- the parts of the f-string -/
inductive Part (arg : Str) : Expr → Prop where
  | text (x : Str) (j p) (h : x.length ≤ 1000) : Part arg (.Constant (.str x) j p)
  | fmt (p p') : Part arg (.FormattedValue (.Name arg p) (-1) none p')
/-- the argument: a short text or a small number -/
def Arg0 (y : V) : Prop := (∃ z : Str, y = .str z ∧ z.length ≤ 1000) ∨ ∃ i : Int, y = .int i ∧ i.natAbs.log2 < 1920 ∧ (PySem.Str.ofString (toString i)).length ≤ 1000
section
variable {P : Program} {w : World} {A : Around} {E : Value → Shared → Prop} {s : Shared} {env : Env} {m : Str → Option Value} {arg : Str} {y : V} {u : Value}
theorem part_ok {e : Expr} {Q : Value → Shared → Prop} (hp : Part arg e) (hy : Arg0 y) (r : RelV y u) (hn : s.heap.Ns env.locals m) (hv : m arg = some u) (hk : env.scope.kind = .function) (hl : env.kindOf arg = some .local) (hd : (arg == ("__debug__" : Str)) = false)
    (q : ∀ (x : Str) t n, x.length ≤ 1000 → Q (.str x t) { s with toks := n }) : wpAny (model P w) A (eval e env) Q E s := by
  cases hp with
  | text x j p h => exact Calls.Constant_str (q x _ _ h)
  | fmt p p' =>
    refine wpAny_FormattedValue_plain (wpAny_Name (wpAny_loadName_local hk hl hn hv ?_) hd)
    rcases hy with ⟨z, rfl, hz⟩ | ⟨i, rfl, h1, h2⟩
    · obtain ⟨t, rfl⟩ := r
      refine wpAny_formatField_str ?_ (q z _ _ hz) (by rw [sizeLine_eq]; omega)
      have h := q z t s.toks hz
      exact h
    · obtain ⟨t, rfl⟩ := r
      exact wpAny_formatField_int h1 (q _ _ _ h2)
theorem parts_ok {Q : Str → Shared → Prop} (hy : Arg0 y) (r : RelV y u) (hv : m arg = some u) (hk : env.scope.kind = .function) (hl : env.kindOf arg = some .local) (hd : (arg == ("__debug__" : Str)) = false) :
    ∀ (es : List Expr) (acc : Str) (s : Shared), (∀ e ∈ es, Part arg e) → acc.length + 1000 * es.length ≤ 1000000 → s.heap.Ns env.locals m → (∀ out n, out.length ≤ 1000000 → Q out { s with toks := n }) →
      Joins (model P w) A E (evalEach es env) acc Q s
  | [], acc, s, _, hz, _, q => by
    rw [show evalEach [] env = [] by first | rfl | simp [evalEach]]
    exact q acc s.toks (by simpa using hz)
  | e :: es, acc, s, hp, hz, hn, q => by
    rw [show evalEach (e :: es) env = eval e env :: evalEach es env by first | rfl | simp [evalEach]]
    refine part_ok (hp e List.mem_cons_self) hy r hn hv hk hl hd fun x t n hx => ?_
    have hz2 : (acc ++ x).length + 1000 * es.length ≤ 1000000 := by
      rw [strLen_append]
      rw [List.length_cons] at hz
      omega
    exact ⟨x, t, rfl, by rw [sizeLine_eq]; omega, parts_ok hy r hv hk hl hd es (acc ++ x) { s with toks := n } (fun c hc => hp c (List.mem_cons_of_mem _ hc)) hz2 hn fun out n' ho => q out n' ho⟩
end

/-- how the call is evaluated (by rfl, once the places are there) -/
def SupEv (p0 p1 p2 p3 p4 : Pos) (v1 v2 : Expr) (vs : List Expr) : Prop := ∀ env : Env, ∃ pl : Sem Bool, eval (.Call (.Attribute (.Call (.Name "super" p0) [] [] p1) "__init__" p2) [.JoinedStr (v1 :: v2 :: vs) p3] [] p4) env = (do
  let ov ← attributeBase (.Call (.Name "super" p0) [] [] p1) "__init__" env (eval (.Call (.Name "super" p0) [] [] p1) env)
  standAt p2.atName
  let (f, first) ← holding [ov] (getMethod ov "__init__" pl)
  callWith p4 f first (backTo p4 (starEach [.JoinedStr (v1 :: v2 :: vs) p3] env)) [])
/-- the class and its __init__, as they stand in the written part -/
structure Ini (P : Program) (K : Frag) (mg : Str → Option Value) (f C : Addr) (fd : FuncData) (arg fld : Str) : Prop where
  oex : OexC K C
  noFld : findIn K (.ref C) fld = some none
  fn : ∃ (name qual : Str) (params : Arguments) (scope : Scope) (dV kV doc pm ct oc : Value) (an od : Option Addr) (osl : Array (Option Value)) (cda cc : Addr) (p0 p1 p2 p3 p4 p5 p6 p7 p8 p9 : Pos) (v1 v2 : Expr) (vs : List Expr),
    fd = ksFn name qual params [.Expr (.Call (.Attribute (.Call (.Name "super" p0) [] [] p1) "__init__" p2) [.JoinedStr (v1 :: v2 :: vs) p3] [] p4) p5, .Assign [.Attribute (.Name "self" p6) fld p7] (.Name arg p8) p9] scope dV kV doc pm an (.ref cda) ct cc ∧
    K.lookup f = some ⟨oc, od, .func fd, osl⟩ ∧ codeIn K (.ref cda) qual = true ∧ (∀ e ∈ v1 :: v2 :: vs, Part arg e) ∧ (v1 :: v2 :: vs).length ≤ 900 ∧
    (∃ ar, (params.posonlyargs ++ params.args).head? = some ar ∧ ar.arg = "self") ∧
    (∃ (ccl : Value) (cdd : Option Addr) (xs : Array Value) (csl : Array (Option Value)) (file : Str) (tf : Tok), K.lookup cda = some ⟨ccl, cdd, .fields xs, csl⟩ ∧ xs[2]? = some (.str file tf) ∧ ((P.main.file : Str) == file) = true) ∧
    (∃ (cl : Value) (cld : Option Addr) (csl : Array (Option Value)), K.lookup cc = some ⟨cl, cld, .cell (some (.ref C)), csl⟩) ∧
    scope.names.lookup ("self" : Str) = some .local ∧ scope.names.lookup arg = some .local ∧ scope.names.lookup ("super" : Str) = some .globalImplicit ∧ scope.names.lookup ("__class__" : Str) = some .free ∧ (∀ x ∈ scope.names, x.2 ≠ .cell) ∧
    scope.isCoroutine = false ∧ scope.isGenerator = false ∧ scope.kind = .function ∧ SupEv p0 p1 p2 p3 p4 v1 v2 vs
  argD : (arg == ("__debug__" : Str)) = false
  argS : arg ≠ "self"
  top : (P.main.scope.names.lookup ("super" : Str)).isSome = false
  sup : mg "super" = none
  mro : mroIn K C (.ref C) = some true
  base : ks_superIn K C C "__init__" = some (some (.builtin "ValueError.__init__"))
  subV : subIn K (.ref C) (.type "ValueError") = some true
  third : nsIn K cStatics "thirdparty.any" = some none

/-- what such an __init__ promises -/
def spI (K : Frag) (C : Addr) (fld : Str) : Sp := fun vs H Q _ => ∃ (a : Addr) (y : V), vs = [.ref a, y] ∧ Arg0 y ∧ H a = some (exo a C none) ∧ ∀ dx, H dx = none → dx ≠ a → Q .non (upd (upd H dx (exd dx [(fld, y)])) a (exo a C (some dx)))

theorem boot_super : bootBuiltins "super" = some (.type "super") := by first | rfl | decide +kernel | kernel_rfl
section
variable {P : Program} {w : World} {K : Frag} {mg : Str → Option Value} {base : Heap} {f C : Addr} {fd : FuncData} {arg fld : Str} {CX : CXT}

/-- the call of what super() found -/
theorem call_mw {A : Around} {E : Value → Shared → Prop} {h : Heap} {g : Array GenState} {d : Drawn} {t : Nat} {os : OsState} {nm q : Str} {N : Addr} {bs bm : List Value} {hd : Bool} {sn : List Str} {sub : List Value} {ab : Bool} {col : Option Bool} {dd : Option Addr} {k0 k1 k2 k3 k5 : Option Value} {u e t0 : Addr} {rest : List Value} {Q : Value → Shared → Prop}
    (hC : h.get? C = some (excClassObj nm q C N bs bm hd sn sub ab col dd k0 k1 k2 k3 k5 "ValueError.__new__")) (he : h.get? e = some ({ cls := .ref C, dict := none, data := .fields #[.ref t0, .none, .none, .none, .bool false, .none] } : Obj)) (hu : h.get? u = some (kxs_mw "ValueError.__init__" e)) (hz : rest.length ≤ sizeLine)
    (fin : ∀ h' t1, (∀ b o, b ≠ e → h.get? b = some o → h'.get? b = some o) → h'.get? e = some ({ cls := .ref C, dict := none, data := .fields #[.ref t1, .none, .none, .none, .bool false, .none] } : Obj) → Q .none ⟨h', g, d, t, os⟩) :
    wpAny (model P w) A (call (.ref u) rest) Q E ⟨h, g, d, t, os⟩ := by
  have FB := F.excBase_ValueError
  refine wpAny_call (codeAny_of_tree ?_)
  show wpAny _ A.in1 (callAny (.ref u) ⟨rest, []⟩) _ _ _
  simp only [callAny]
  refine wpAny_bind (wpAny_load hu ?_)
  simp only [kxs_mw, show (Value.type "method-wrapper" == Value.type "method" || Value.type "method-wrapper" == Value.type "builtin_function_or_method" || Value.type "method-wrapper" == Value.type "method-wrapper") = true by decide, if_true]
  refine KFB.if_so (by decide) ?_
  refine wpAny_bind (check_bound_init FB.toExcCallFacts hC he rfl ?_)
  refine wpAny_bind (wpAny_pure (wpAny_pure ?_))
  refine ⟨plainId_quiet FB.init.plain _, codeAny_builtin FB.initEntry ?_⟩
  exact exc_init_tree (cls := .ref C) (t0 := t0) (dv := none) (c2 := .none) (c3 := .none) (b4 := .bool false) he hz fun h' k e' _ => fin h' _ k e'

theorem init_ok (J : Ini P K mg f C fd arg fld) (k : Nat) : FnOk P w K mg base CX (k + 1) f fd ["self", arg] (spI K C fld) := by
  refine ⟨fun vs H Q E ⟨a, y, e, _⟩ => by rw [e]; rfl, fun A outer s H args us vs Q E hr e0 hb r hsp => ?_⟩
  obtain ⟨a, y, rfl, hy, ha, q⟩ := hsp
  obtain ⟨name, qual, params, scope, dV, kV, doc, pm, ct, oc, an, od, osl, cda, cc, p0, p1, p2, p3, p4, p5, p6, p7, p8, p9, v1, v2, es, rfl, lk, hcode, hparts, hlen, ⟨ar, har, hself⟩, ⟨ccl, cdd, xs, csl, file, tf, hcda, hx2, hfile⟩, ⟨cl, cld, csl2, hcell⟩, n1, n2, n3, n4, ncell, nco, ngen, nk, hev⟩ := J.fn
  cases r with
  | cons ra r => cases r with
    | cons ry r =>
      cases r
      cases ra
      rename_i u
      obtain ⟨nm, qn, N, bs, bm, sn, sub, ab, col, dd, k0, k1, k2, k3, k5, hC, hbm⟩ := J.oex.cls
      have hcl : clsIn K C = some { name := nm, bases := bs, mro := .ref C :: bm, ns := N, qualname := qn, hasDict := true, slotNames := sn, subclasses := sub, abstract := ab, collection := col, hasDel := false } := by unfold clsIn; rw [hC] <;> rfl
      obtain ⟨t1, ho⟩ := exo_at e0.hok ha
      have bk : ∀ b o, base.get? b = some o → s.heap.get? b = some o := fun b o e => (e0.bs b o e).1
      have KX : K.In s.heap := e0.mod.kin.keeps bk
      have lim : s.heap.NoLimit := e0.mod.nolimit.keeps bk
      obtain ⟨mb, hb1, hb2⟩ := e0.mod.blt
      refine ks_codeAny_call_defAt hr.depth (KX _ _ lk) rfl lim (codeRec_of KX hcode) rfl hb ncell (fun z hz => ?_) (fun h0 hns hk0 => ?_) nco ngen nk
      · have hz' : z = (("self" : Str), Value.ref a) ∨ z = (arg, u) := by simpa using hz
        rcases hz' with e | e
        · rw [e]; exact n1
        · rw [e]; exact n2
      have vself : (([("self" : Str), arg].zip [Value.ref a, u]).reverse).lookup ("self" : Str) = some (Value.ref a) := by
        show [(arg, u), (("self" : Str), Value.ref a)].lookup ("self" : Str) = _
        rw [List.lookup_cons, show (("self" : Str) == arg) = false from beq_false_of_ne (Ne.symm J.argS)]
        simp
      have varg : (([("self" : Str), arg].zip [Value.ref a, u]).reverse).lookup arg = some u := by
        show [(arg, u), (("self" : Str), Value.ref a)].lookup arg = _
        simp
      obtain ⟨hh, g, d, tk, os⟩ := s
      dsimp only at hns hk0 ⊢
      have kb0 : ∀ b o, base.get? b = some o → h0.get? b = some o := fun b o e => hk0 b o (bk b o e)
      have X0 : K.In h0 := e0.mod.kin.keeps kb0
      have ho0 := hk0 _ _ ho
      have lk0 := X0 _ _ lk
      have hC0 := X0 _ _ hC
      -- super()
      refine ks_wpAt_execs_cons ?_
      refine ks_wpAt_Expr_any ?_ (hi := by unfold interactive; show (scope.kind == .module && _) = false; rw [nk]; rfl)
      obtain ⟨pl, hev⟩ := hev (callEnv (ksFn name qual params _ scope dV kV doc pm an (.ref cda) ct cc) hh.objs.size f)
      refine ks_wpAt_MethodCall ?_ hev
      refine ks_wpAt_super_base (env := callEnv _ _ _) n3 n4 (by decide) rfl lk0 rfl har rfl (X0 _ _ hcda) rfl hx2 hfile J.top ?_
      refine ks_loadName_global nk n3 (Calls.loadGlobal_builtin (env := callEnv _ _ _) (mg := mg) (mb := mb) (e0.mod.glob.keeps kb0) J.sup (hb1.keeps kb0) ((hb2 _ (by decide)).trans boot_super) ⟨rfl, ?_⟩)
      refine wpAny_loadName_free nk n4 rfl ⟨_, X0 _ _ hcell, rfl⟩ ?_
      rw [hself]
      refine wpAny_loadName_local nk n1 hns vself ?_
      refine ks_wpAny_isType_cls hC0 rfl ⟨rfl, ?_⟩
      refine ks_wpAny_call_super hC0 rfl ho0 rfl (fun c e => by cases e) (looks_mroIn X0 J.mro) (fun h1 hso hk1 => ?_)
      have X1 : K.In h1 := X0.keeps hk1
      have ho1 := hk1 _ _ ho0
      have I1 : InstAt h1 a _ C none := ⟨ho1, rfl, rfl, trivial⟩
      have base1 := J.base
      unfold ks_superIn at base1
      rw [hcl] at base1
      refine kxs_getMethod kxs_ValueError hso (looks_opaque X1 J.third) (l₀ := .ref C :: bm) ((looks_clsIn X1 hcl).andThen .now) rfl X1 base1 (I1.type.andThen (looks_subIn X1 J.subV)) (ks_ne X1 I1 hcl) (by decide) ?_
      have mw : (h1.push (kxs_mw "ValueError.__init__" a)).get? h1.objs.size = some (kxs_mw "ValueError.__init__" a) := Heap.get?_push_at rfl rfl
      have hk2 : ∀ b o, h1.get? b = some o → (h1.push (kxs_mw "ValueError.__init__" a)).get? b = some o := fun b o e => Heap.get?_push_of_some _ e
      have hns2 : (h1.push (kxs_mw "ValueError.__init__" a)).Ns hh.objs.size (fun x => (([("self" : Str), arg].zip [Value.ref a, u]).reverse).lookup x) := (hns.keeps hk1).keeps hk2
      refine kxs_callWith (i := "ValueError.__init__") (x := a) rfl ?_
      refine Calls.evalArgs_plain (Calls.spliced_cons ?_)
      show wpAny _ _ (eval (.JoinedStr (v1 :: v2 :: es) p3) _) _ _ _
      refine wpAny_JoinedStr (parts_ok (env := callEnv (ksFn name qual params _ scope dV kV doc pm an (.ref cda) ct cc) hh.objs.size f) hy ry varg nk n2 J.argD _ _ _ hparts ?_ hns2 fun out n hout => ?_)
      · show 0 + 1000 * _ ≤ 1000000
        omega
      refine ⟨by rw [sizeLine_eq]; omega, Calls.spliced_nil ⟨mw, ?_⟩⟩
      refine call_mw (hk2 _ _ (X1 _ _ hC)) (hk2 _ _ ho1) mw (by rw [sizeLine_eq]; exact (show (1 : Nat) ≤ 16777216 by decide)) fun h3 t3 hk3 ho3 => ?_
      -- self.fld = arg
      have X3 : K.In h3 := fun b o e => hk3 b o (fun z => by
        have e1 := X0 _ _ e
        rw [z, ho0] at e1
        have e2 := Option.some.inj e1
        have lt : ∃ o, base.get? a = some o := ⟨_, by rw [← z]; exact e0.mod.kin _ _ e⟩
        obtain ⟨o', e3⟩ := lt
        have := (e0.bs a o' e3).2
        rw [ha] at this
        cases this) (hk2 _ _ (X1 _ _ e))
      have nL : hh.objs.size ≠ a := fun z => absurd (Heap.lt_size ho) (by rw [← z]; exact Nat.lt_irrefl _)
      have hns3 : h3.Ns hh.objs.size (fun x => (([("self" : Str), arg].zip [Value.ref a, u]).reverse).lookup x) := by
        obtain ⟨oL, e1, ep, e2, r⟩ := hns2
        exact ⟨oL, e1, ep, hk3 _ _ nL e2, r⟩
      refine ks_wpAt_execs_cons (wpAt_of_wpAny ?_)
      refine plainObj_wpAny_Assign_Attribute (wpAny_Name (wpAny_loadName_local nk n2 hns3 varg ?_) J.argD) rfl
      refine wpAny_Name (wpAny_loadName_local nk n1 hns3 vself ?_) (by decide)
      refine set_plain X3 (ox := { cls := .ref C, dict := none, data := .fields #[.ref t3, .none, .none, .none, .bool false, .none] }) (od := none) ⟨ho3, rfl, rfl, trivial⟩ J.oex.sa ?_
      refine PySem.HandSPX.exc_osa X3 ho3 hcl (show PySem.HandSPX.refsVE (.ref C :: bm) = true from hbm) rfl J.noFld (fun h4 tk4 dx hk4 dn dne hx hn => ?_)
      refine wpAt_of_wpAny (wpAny_execs_nil ?_)
      -- the end
      have kk : ∀ b o, b ≠ a → hh.get? b = some o → h4.get? b = some o := fun b o n e => hk4 b o n (hk3 b o n (hk2 b o (hk1 b o (hk0 b o e))))
      have szs : hh.objs.size ≤ dx := by
        obtain ⟨oL, e1, ep, e2, _⟩ := hns3
        exact Nat.le_of_lt (Nat.lt_of_lt_of_le (Heap.lt_size e2) dn)
      have fr : H dx = none := e0.hok.fresh szs
      have nd : ∀ {b : Addr} {o : Obj}, hh.get? b = some o → b ≠ dx := fun {b o} z => Nat.ne_of_lt (Nat.lt_of_lt_of_le (Heap.lt_size z) szs)
      have na : ∀ {b : Addr}, H b = none → b ≠ a := fun {b} n z => by
        rw [z, ha] at n
        cases n
      refine ⟨.non, _, rfl, e0.bare, ⟨fun b o z n _ _ => kk b o (na n) z, fun b o z n _ _ => ⟨o.slots, kk b o (na n) z⟩, fun b o z n _ => ?_, fun b o z _ => ?_, fun b ys z => ?_, fun b o v z => ?_, fun b ps z => ⟨#[], ?_⟩⟩, fun b o z => ?_, rfl, q dx fr dne⟩
      · rw [upd_ne (na n), upd_ne (nd z)]
        exact n
      · by_cases hb : b = a
        · exact ⟨_, by rw [hb]; exact hx⟩
        · exact ⟨o, kk b o hb z⟩
      · rw [upd_ne (at_ne ha z exo_tup), upd_ne (ne_of_none z fr)]
        exact z
      · rw [upd_ne (at_ne ha z exo_frz), upd_ne (ne_of_none z fr)]
        exact z
      · rw [upd_ne (at_ne ha z exo_tbl), upd_ne (ne_of_none z fr), z]
        simp
      · by_cases hb : b = a
        · subst hb
          rw [upd_same] at z
          cases z
          exact exo_ok hx
        · rw [upd_ne hb] at z
          by_cases hd' : b = dx
          · subst hd'
            rw [upd_same] at z
            cases z
            exact exd_ok hn (relO_put (fs := []) ry fun _ => True.intro)
          · rw [upd_ne hd'] at z
            refine (e0.hok b o z).stay (fun c v hc y => kk c v ?_ y) (fun c hc => ?_) (fun c ys hc => ?_)
            · rcases hc with hc | hc
              · rw [hc]; exact hb
              · exact at_ne ha hc exo_own
            · rw [upd_ne (at_ne ha hc exo_own), upd_ne (ne_of_none hc fr)]
              exact hc
            · rw [upd_ne (at_ne ha hc exo_tup), upd_ne (ne_of_none hc fr)]
              exact hc
end
end Ex
end

section
set_option maxHeartbeats 2000000
namespace Pu
open PySem PySem.Spec PyProof.Rows L2

/-! ### raise C(e) -/
/-- what an exception may be made with -/
def ArgD : Da → Prop
  | .str z => z.length ≤ 1000
  | .int i => i.natAbs.log2 < 1920 ∧ (PySem.Str.ofString (toString i)).length ≤ 1000
  | _ => False
theorem argD_arg {K : PySem.W.Frag} {L : Addr → Prop} {H : Hp} {d : Da} {y : V} (h : ArgD d) (r : Rep K L H d y) : Ex.Arg0 y := by
  cases d <;> first | exact h.elim | skip
  · rw [rep_int.mp r]
    exact .inr ⟨_, rfl, h.1, h.2⟩
  · rw [rep_str.mp r]
    exact .inl ⟨_, rfl, h⟩
def sRaise (nm fld : Str) (m : W Da) : Sx := ⟨fun ρ E => m.wp ρ (fun d ρ' => ArgD d ∧ E.ex ⟨nm, fld, d⟩ ρ') E.ex, fun l h => m.mono (fun d ρ' q => ⟨q.1, l.ex _ _ q.2⟩) l.ex h⟩
section
variable {X : Cx} {G : Gc} {x : Ex → En → Prop}
theorem s_raise {C fI : Addr} {k : Nat} {fd : FuncData} {nm arg fld : Str} {e : Expr} {p pos pos' : Pos} {m : W Da} (xo : XOk X G x) (hc : X.calm = true) (T : OexC X.K C) (iC : PySem.W.findIn X.K (.ref C) "__init__" = some (some (.ref fI)))
    (tI : PySem.W.typeIn X.K (.ref fI) = some (.type "function")) (fo : FnOk X.prog X.w X.K X.mg X.base (L2.CX X.prog X.w) k fI fd ["self", arg] (Ex.spI X.K C fld)) (hr : Room (k + 1) X.A) (hb : Binds X.K fd ["self", arg] []) (hg : Gl X nm) (hm : X.mg nm = some (.ref C))
    (ha : PE X e (tp X.K G x m)) (hdb : (nm == ("__debug__" : Str)) = false := by decide) (he : starEach [e] X.env = (false, eval e X.env) :: starEach [] X.env := by rfl) :
    PS X (.Raise (some (.Call (.Name nm p) [e] [] pos)) none pos') (ts X.K G x (sRaise nm fld m)) := by
  obtain ⟨Wx, tk, hW⟩ := xo.ex
  refine (ps_raise hc tk (pmk_oex T iC tI fo hr hb .nil passL hg hm (pa_cons ha pa_nil he) hdb he)).of fun D σ H ⟨ρ, pe, S, q⟩ => ?_
  refine ⟨ρ, pe, S, m.mono (fun d ρ1 q v H1 S1 => ?_) (fun _ _ z => z) q⟩
  obtain ⟨hd, q⟩ := q
  obtain ⟨O, S1⟩ := S1
  refine ⟨show (1 : Nat) ≤ 1000 by decide, fun a na => ?_⟩
  have r := S1.top
  refine ⟨a, v, rfl, argD_arg hd r, upd_same, fun dx nx ne => ?_⟩
  have nx1 : H1 dx = none := by rw [upd_ne ne] at nx; exact nx
  refine ⟨rfl, dx, [(fld, v)], upd_same, ?_, nx1, ?_⟩
  · rw [upd_ne ne]
    exact upd_same
  · have kk : ∀ b u, H1 b = some u → upd (del (upd (upd (upd H1 a (exo a C none)) dx (exd dx [(fld, v)])) a (exo a C (some dx))) a) dx (.xd [(fld, v)]) b = some u := fun b u e => by
      rw [upd_ne (ne_of_none e nx1), del_ne (ne_of_none e na), upd_ne (ne_of_none e na), upd_ne (ne_of_none e nx1), upd_ne (ne_of_none e na)]
      exact e
    exact hW _ ρ1 σ _ _ O C dx q (S1.heap kk) hm ⟨v, upd_same, Rep.mono (fun b u e _ => kk b u e) (fun _ _ _ z => z) _ _ r⟩

/-! ### a def's body from its start: nothing is pending -/
def ts0 (K : PySem.W.Frag) (G : Gc) (x : Ex → En → Prop) (S : Sx) : TS := fun D σ H => ∃ ρ, Sd K G σ ρ [] H ∧ S.wp ρ (flOf K G x σ [] D)
theorem s0 {st : Stmt} {a : Sx} (h : PS X st (ts X.K G x a)) : PS X st (ts0 X.K G x a) := h.of fun D σ H ⟨ρ, S, q⟩ => ⟨ρ, [], S, q⟩
theorem ss0 {st : List Stmt} {a : Sx} (h : PSs X st (ts X.K G x a)) : PSs X st (ts0 X.K G x a) := h.of fun D σ H ⟨ρ, S, q⟩ => ⟨ρ, [], S, q⟩
theorem ss_cons0 {st : Stmt} {rest : List Stmt} {a b : Sx} (h1 : PS X st (ts0 X.K G x a)) (h2 : PSs X rest (ts0 X.K G x b)) : PSs X (st :: rest) (ts0 X.K G x (sSeq a b)) := (pss_cons h1 h2).of fun D σ H ⟨ρ, S, q⟩ =>
  ⟨ρ, S, a.mono (E := { flOf X.K G x σ [] D with nx := fun ρ' => b.wp ρ' (flOf X.K G x σ [] D) }) ⟨fun ρ' q σ' H' S' => ⟨ρ', S', q⟩, fun _ _ z => z, fun _ z => z, fun _ z => z, fun _ _ z => z⟩ q⟩
theorem ss_one0 {st : Stmt} {a : Sx} (h1 : PS X st (ts0 X.K G x a)) : PSs X [st] (ts0 X.K G x a) := pss_one h1
theorem StO.bare {K : PySem.W.Frag} {O : Addr → Option Tg} {σ : L2.St} {ρ : En} {pe : Pend} {H : Hp} (S : StO K G O σ ρ pe H) : StO K G O σ ρ [] H := ⟨S.frame, S.own, S.pools, S.len, S.slots, trivial⟩

/-! ### try: .. except C as n: .. -/
def NoExn (ρ : En) : Prop := ∀ (i : Nat) f w, ρ[i]? ≠ some (some (.exn f w))
theorem StO.exnOf {K : PySem.W.Frag} {O : Addr → Option Tg} {σ : L2.St} {ρ : En} {H : Hp} (S : StO K G O σ ρ [] H) (n : NoExn ρ) (xa : Option (Addr × Addr)) : StO K { G with xa := xa } O σ ρ [] H := by
  refine ⟨S.frame, S.own, S.pools, S.len, fun i c e => ?_, trivial⟩
  obtain ⟨v, h1, h2⟩ := S.slots i c e
  refine ⟨v, h1, ?_⟩
  cases c with
  | dat d => exact h2
  | own ds => exact h2
  | pool => exact h2
  | set ds => exact h2
  | plv po => exact h2
  | me c fs => exact h2
  | exn f w => exact absurd e (n i f w)
theorem StO.exnTo {K : PySem.W.Frag} {O : Addr → Option Tg} {σ : L2.St} {ρ : En} {H : Hp} {xa : Option (Addr × Addr)} (S : StO K { G with xa := xa } O σ ρ [] H) (n : NoExn ρ) : StO K G O σ ρ [] H := by
  refine ⟨S.frame, S.own, S.pools, S.len, fun i c e => ?_, trivial⟩
  obtain ⟨v, h1, h2⟩ := S.slots i c e
  refine ⟨v, h1, ?_⟩
  cases c with
  | dat d => exact h2
  | own ds => exact h2
  | pool => exact h2
  | set ds => exact h2
  | plv po => exact h2
  | me c fs => exact h2
  | exn f w => exact absurd e (n i f w)
/-- a body with a suite for the exceptions that cat names; slot i is the exception's -/
def sufl (i : Nat) (E : Fl) : Fl := ⟨fun ρ => NoExn (ρ.set i none) ∧ E.nx (ρ.set i none), fun d ρ => NoExn (ρ.set i none) ∧ E.rt d (ρ.set i none), fun ρ => NoExn (ρ.set i none) ∧ E.bk (ρ.set i none), fun ρ => NoExn (ρ.set i none) ∧ E.ct (ρ.set i none), fun _ _ => False⟩
theorem sufl_le {i : Nat} {E E' : Fl} (l : Fl.Le E E') : Fl.Le (sufl i E) (sufl i E') := ⟨fun _ q => ⟨q.1, l.nx _ q.2⟩, fun _ _ q => ⟨q.1, l.rt _ _ q.2⟩, fun _ q => ⟨q.1, l.bk _ q.2⟩, fun _ q => ⟨q.1, l.ct _ q.2⟩, fun _ _ z => z⟩
def tryEx (cat : Str → Option Bool) (i : Nat) (s : Sx) (E : Fl) : Ex → En → Prop := fun e ρ => match cat e.name with
  | some true => NoExn ρ ∧ s.wp (ρ.set i (some (.exn e.fld e.what))) (sufl i E)
  | some false => E.ex e ρ
  | none => False
theorem tryEx_mono {cat : Str → Option Bool} {i : Nat} {s : Sx} {E E' : Fl} (l : Fl.Le E E') (e : Ex) (ρ : En) (h : tryEx cat i s E e ρ) : tryEx cat i s E' e ρ := by
  unfold tryEx at h ⊢
  split
  · rename_i q
    rw [q] at h
    exact ⟨h.1, s.mono (sufl_le l) h.2⟩
  · rename_i q
    rw [q] at h
    exact l.ex _ _ h
  · rename_i q
    rw [q] at h
    exact h
def sTry (cat : Str → Option Bool) (i : Nat) (b s : Sx) : Sx := ⟨fun ρ E => b.wp ρ { E with ex := tryEx cat i s E }, fun {ρ E E'} l h => b.mono (E := { E with ex := tryEx cat i s E }) ⟨l.nx, l.rt, l.bk, l.ct, fun e ρ q => tryEx_mono l e ρ q⟩ h⟩

def lookExn (ρ : En) (i : Nat) (f : Str) : Option Da := match ρ[i]? with
  | some (some (.exn g w)) => if g = f then some w else none
  | _ => none
def eExn (i : Nat) (f : Str) : W Da := W.env.bind fun ρ => W.opt (lookExn ρ i f)
theorem of_lookExn {ρ : En} {i : Nat} {f : Str} {d : Da} (h : lookExn ρ i f = some d) : ρ[i]? = some (some (.exn f d)) := by
  unfold lookExn at h
  split at h
  · rename_i g w e
    split at h
    · rename_i eg
      cases h
      rw [e, eg]
    · cases h
  · cases h
/-- e.f in a suite -/
theorem p_exn {a dd C : Addr} {oe : Obj} {pn : List (Addr × Obj)} {i : Nat} {e : Expr} {f : Str} {pos : Pos} {x : Ex → En → Prop} (T : XfC X.K C) (hno : PySem.W.findIn X.K (.ref C) f = some none) (hz : Zc (.ref C) (some dd) oe) (hf : ∃ vs, oe.data = .fields vs)
    (he : PE (X.suite a ((a, oe) :: pn)) e (tVar i)) (hb : attributeBase e f X.env (eval e X.env) = eval e X.env := by rfl) : PE (X.suite a ((a, oe) :: pn)) (.Attribute e f pos) (tp X.K { G with xa := some (a, dd) } x (eExn i f)) :=
  (pe_xf T hno hz hf he hb).of fun σ H Q ⟨ρ, pe, ⟨O, S⟩, q⟩ => by
    obtain ⟨d, ed, q⟩ := W.opt_wp q
    obtain ⟨v, hv, a', d', y, ev, exa, hd, r⟩ := S.slots i _ (of_lookExn ed)
    subst ev
    cases exa
    exact ⟨_, hv, rfl, rfl, dd, [(f, y)], y, rfl, hd, by simp, q y H ⟨O, S.pushD r⟩⟩

theorem s_try {cn n : Str} {c : Value} {i : Nat} {body suite : List Stmt} {b₀ : Stmt} {np pos pos' : Pos} {cat : Str → Option Bool} {fld : Str} {b s : Sx} (xo : XOk X G x) (hs : X.stack = X.env :: X.outer) (hf : X.env.frame = some X.env.locals) (hN : X.N.Nodup) (hi : X.N[i]? = some n)
    (hln : X.env.kindOf n = some .local) (hc : Names X cn c)
    (hcat : ∀ (nm : Str) (C : Addr), X.mg nm = some (.ref C) → (cat nm = some true → XfC X.K C ∧ PySem.W.findIn X.K (.ref C) fld = some none ∧ PySem.W.exmOne X.K (.ref C) c = some true) ∧ (cat nm = some false → PySem.W.exmOne X.K (.ref C) c = some false))
    (hb : ∀ (pn : List (Addr × Obj)) (xe : Value → Shared → Prop) (x' : Ex → En → Prop), XOk (X.tr pn xe) G x' → PassesOwn (model X.prog X.w) X.A X.env xe → PSs (X.tr pn xe) body (ts0 X.K G x' b))
    (hsu : ∀ (a dd C : Addr) (oe : Obj) (pn : List (Addr × Obj)), XfC X.K C → PySem.W.findIn X.K (.ref C) fld = some none → Zc (.ref C) (some dd) oe → (∃ vs, oe.data = .fields vs) → PSs (X.suite a ((a, oe) :: pn)) (b₀ :: suite) (ts0 X.K { G with xa := some (a, dd) } noEx s)) :
    PS X (.Try body [.ExceptHandler (some (.Name cn np)) (some n) (b₀ :: suite) pos'] [] [] pos) (ts0 X.K G x (sTry cat i b s)) := by
  obtain ⟨Wx, tk, hW⟩ := xo.ex
  have big := ps_try_as (X := X) (x := cn) (n := n) (c := c) (i := i) (body := body) (suite := suite) (b₀ := b₀) (np := np) (pos := pos) (pos' := pos')
    (tb := fun Wt D σ H => ∃ x' : Ex → En → Prop, (∀ (e : Ex) (ρ : En) (σ : L2.St) (pe : Pend) (H : Hp) (O : Addr → Option Tg) (C d : Addr), x' e ρ → StO X.K G O σ ρ pe H → X.mg e.name = some (.ref C) → XdAt X.K (Lof G O) H d e → Wt (.ref C) (some d) σ H) ∧ ts0 X.K G x' b D σ H)
    (ts := fun a cls d D σ H => ∃ C dd, cls = .ref C ∧ d = some dd ∧ XfC X.K C ∧ PySem.W.findIn X.K (.ref C) fld = some none ∧ ts0 X.K { G with xa := some (a, dd) } noEx s D σ H)
    (Wout := Wx) hs hf hN hi hln hc tk (fun Wt pn xe tk' po => ⟨fun pins s1 σ H D I ⟨x', hx', q⟩ => (hb pn xe x' ⟨xo.so, Wt, tk', hx'⟩ po).run pins s1 σ H D I q⟩)
    (fun a oe cls d pn hz hfi => ⟨fun pins s1 σ H D I ⟨C, dd, ec, ed, T, hno, q⟩ => by
      subst ec
      subst ed
      exact (hsu a dd C oe pn T hno hz hfi).run pins s1 σ H D I q⟩)
  refine big.of fun D σ H ⟨ρ, S, q⟩ => ?_
  refine ⟨tryEx cat i s (flOf X.K G x σ [] D), fun e ρ1 σ1 pe1 H1 O1 C d h S1 hC hd => ?_, ρ, S, q⟩
  unfold tryEx at h
  split at h
  · rename_i hcat'
    obtain ⟨nex, h⟩ := h
    obtain ⟨T, hno, hex⟩ := (hcat _ _ hC).1 hcat'
    refine ⟨true, hex, fun _ a na => ?_, fun z => Bool.noConfusion z⟩
    obtain ⟨y, hdx, ry⟩ := hd
    have S2 := (S1.bare.exnOf nex (some (a, d))).forget i (some (.ref a))
    have S3 : StO X.K { G with xa := some (a, d) } (clr O1 (.slot i)) (σ1.set i (some (.ref a))) (ρ1.set i (some (.exn e.fld e.what))) [] H1 := by
      refine ⟨S2.frame, S2.own, S2.pools, by have := S1.len; simpa using this, fun j cc ej => ?_, trivial⟩
      rcases getset ej with ⟨e1, e2, hl⟩ | ⟨nj, ej⟩
      · subst e1
        cases e2
        exact ⟨.ref a, List.getElem?_set_self (by rw [← S1.len]; exact hl), a, d, y, rfl, rfl, hdx, Rep.mono (fun _ _ e _ => e) (fun _ _ _ z => lof_clr z) _ _ ry⟩
      · exact S2.slots j cc (by rw [List.getElem?_set_ne nj]; exact ej)
    refine ⟨C, d, rfl, rfl, T, hno, _, ⟨_, S3⟩, s.mono (E := sufl i (flOf X.K G x σ [] D)) ⟨fun ρ2 q2 σ' H' ⟨O', S'⟩ => ?_, fun dv ρ2 q2 v σ' H' ⟨O', S'⟩ => ?_, fun ρ2 q2 σ' H' ⟨O', S'⟩ => ?_, fun ρ2 q2 σ' H' ⟨O', S'⟩ => ?_, fun _ _ z => z⟩ h⟩
    · exact q2.2 _ H' ⟨_, (S'.forget i none).exnTo q2.1⟩
    · refine q2.2 v σ' H' ⟨O', ?_⟩
      have S4 : StO X.K { G with xa := some (a, d) } O' σ' (ρ2.set i none) [] H' := S'.bare.weak (by have := S'.len; simpa using this) fun j cc ej => by
        rcases getset ej with ⟨_, e, _⟩ | ⟨_, e⟩
        · cases e
        · exact ⟨e, rfl⟩
      exact (S4.exnTo q2.1).pushD S'.top
    · exact q2.2 _ H' ⟨_, (S'.forget i none).exnTo q2.1⟩
    · exact q2.2 _ H' ⟨_, (S'.forget i none).exnTo q2.1⟩
  · rename_i hcat'
    exact ⟨false, (hcat _ _ hC).2 hcat', fun z => absurd z Bool.false_ne_true, fun _ => hW e ρ1 σ1 pe1 H1 O1 C d h S1 hC hd⟩
  · exact h.elim
end

/-- okD for a body that is judged from its start -/
theorem okD0 {P : Program} {w : World} {K : PySem.W.Frag} {mg : Str → Option Value} {base : Heap} {x qual : Str} {st : Stmt} {f : Addr} {fd : FuncData} {N ps : List Str} {k n : Nat} {F : Fn} {b : Sx} (Fu : Fun K x qual st f fd) (S : FnScope N ps (defScope st)) (hn : ps.length = n)
    (hb : ∀ (cdv : Value) (A : Around) (outer : List Env) (s : Shared) (H : Hp) (E : XK) (G : Gc) (xw : Ex → En → Prop), Room k (A.deeper (envOfC qual (defScope st) s.heap.objs.size f cdv)) →
      XOk (cxOf (L2.CX P w) P w K mg base N qual (defScope st) f cdv A outer s H E) G xw → PSs (cxOf (L2.CX P w) P w K mg base N qual (defScope st) f cdv A outer s H E) (defBody st) (ts0 K G xw b))
    (hw : Keeps n N.length F b) : FnOk P w K mg base (L2.CX P w) (k + 1) f fd ps (spD K mg n F) := by
  refine Fu.okX S (fun vs H Q E h => (spD_len vs H Q E h).trans hn.symm) fun cdv A outer s H vs Q E hr ⟨La, ds, l, r, q⟩ => ?_
  refine ⟨_, hb cdv A outer s H E ⟨H, fun _ => False, La, none, SetTO P w⟩ (fun e _ => ∀ C d H', mg e.name = some (.ref C) → (∀ b x, H b = some x → H' b = some x) → XdAt K (fun c => La c ∨ H c = none) H' d e → E (.ref C) (some d) H') hr
    ⟨rfl, fun cls d _ H' => E cls d H', takes_of rfl rfl rfl rfl, fun e ρ σ pe H' O C d hx S' hC hd => hx C d H' hC (fun b y z => (S'.frame b y z fun h => h).1) (hd.mono fun b z => z.2)⟩, ?_⟩
  have hle := scope_le S
  have hvl := r.length
  refine ⟨startE N.length ds, ⟨fun _ => none, ⟨fun b y e _ => ⟨e, rfl⟩, fun p t e => (by cases e), fun p h => h.elim, ?_, fun i c e => ?_, trivial⟩⟩, b.mono (E := flFn _ _) ⟨fun ρ q σ H' ⟨O, S'⟩ => ?_, fun d ρ q v σ H' ⟨O, S'⟩ => ?_, fun _ z => z.elim, fun _ z => z.elim, fun _ _ z => z⟩ (hw ds _ _ l q)⟩
  · rw [startE_len (by omega), start_len (by omega)]
  · obtain ⟨d, h1, rfl⟩ := startE_get e
    obtain ⟨v, h2, h3⟩ := r.getD h1
    exact ⟨v, start_get h2, Rep.mono (fun _ _ e _ => e) (fun _ _ _ z => ⟨rfl, .inl z⟩) _ _ h3⟩
  · exact q .non H' (fun b y z => (S'.frame b y z fun h => h).1) (by simp [Rep])
  · exact q v H' (fun b y z => (S'.frame b y z fun h => h).1) (Rep.mono (fun _ _ e _ => e) (fun _ _ _ z => z.2) _ _ S'.top)
end Pu
end

section
set_option maxHeartbeats 2000000
namespace Pu
open PySem PySem.Spec PyProof.Rows L2

/-! ### own lists in place -/
/-- x[e], len(x): x a list of our own in slot i -/
def eIxO (i : Nat) (m : W Da) : W Da := W.env.bind fun ρ0 => (W.req ((lookOwn ρ0 i).isSome = true)).bind fun _ => m.bind fun d => W.env.bind fun ρ => (W.opt (lookOwn ρ i)).bind fun ds => W.opt (dIdx (.lst ds) d)
def eLenO (i : Nat) : W Da := W.env.bind fun ρ => (W.opt (lookOwn ρ i)).bind fun ds => W.ret (.int ds.length)
/-- e in x, e not in x -/
def eInO (neg : Bool) (i : Nat) (m : W Da) : W Da := m.bind fun d => W.env.bind fun ρ => (W.opt (lookOwn ρ i)).bind fun ds => W.opt (dIn neg d (.lst ds))
/-- x[e1] = e2 -/
def sPut (i : Nat) (m1 m2 : W Da) : Sx := ⟨fun ρ E => m2.wp ρ (fun d ρ1 => (lookOwn ρ1 i).isSome = true ∧ m1.wp ρ1 (fun k ρ2 => ∃ j ds n, asI k = some j ∧ lookOwn ρ2 i = some ds ∧ ixN ds.length j = some n ∧ E.nx (ρ2.set i (some (.own (ds.set n d))))) E.ex) E.ex,
  fun l h => m2.mono (fun d ρ1 q => ⟨q.1, m1.mono (fun k ρ2 ⟨j, ds, n, e1, e2, e3, q⟩ => ⟨j, ds, n, e1, e2, e3, l.nx _ q⟩) l.ex q.2⟩) l.ex h⟩
section
variable {X : Cx} {G : Gc} {x : Ex → En → Prop}
theorem own_slot {K : PySem.W.Frag} {O : Addr → Option Tg} {σ : L2.St} {ρ : En} {pe : Pend} {H : Hp} {i : Nat} (S : StO K G O σ ρ pe H) (h : (lookOwn ρ i).isSome = true) : ∃ p, σ[i]? = some (some (.ref p)) := by
  obtain ⟨ds, e⟩ := Option.isSome_iff_exists.mp h
  obtain ⟨v, hv, p, xs, ev, _⟩ := S.slots i _ (of_lookOwn e)
  exact ⟨p, by rw [hv, ev]⟩
theorem own_at {K : PySem.W.Frag} {O : Addr → Option Tg} {σ : L2.St} {ρ : En} {pe : Pend} {H : Hp} {i : Nat} {p : Addr} {ds : List Da} (S : StO K G O σ ρ pe H) (hp : σ[i]? = some (some (.ref p))) (e : lookOwn ρ i = some ds) :
    ∃ xs, O p = some (.slot i) ∧ H p = some (.lst xs) ∧ ds.length ≤ sizeLine ∧ Reps K (Lof G O) H ds xs ∧ ¬ G.P0 p := by
  obtain ⟨v, hv, p', xs, ev, op, h, z, r, np⟩ := S.slots i _ (of_lookOwn e)
  rw [hp] at hv
  cases hv
  cases ev
  exact ⟨xs, op, h, z, r, np⟩
theorem p_ixOwn {i : Nat} {a b : Expr} {pos : Pos} {m : W Da} (ha : PE X a (tVar i)) (hb : PE X b (tp X.K G x m)) (hs : PlainIx b := by exact fun _ _ => rfl) : PE X (.Subscript a b pos) (tp X.K G x (eIxO i m)) := by
  refine (pe_ix (ix_list (X := X)) ha hb hs).of fun σ H Q ⟨ρ, pe, ⟨O, S⟩, q0, q⟩ => ?_
  obtain ⟨p, hp⟩ := own_slot S q0
  refine ⟨.ref p, hp, ρ, pe, ⟨O, S⟩, m.mono (fun d ρ1 q w H1 ⟨O1, S1⟩ => ?_) (fun _ _ z => z) q⟩
  obtain ⟨ds, e1, q⟩ := W.opt_wp q
  obtain ⟨r, e2, q2⟩ := W.opt_wp (o := dIdx (.lst ds) d) q
  obtain ⟨xs, op, h, z, rs, np⟩ := own_at S1 hp e1
  unfold dIdx at e2
  split at e2
  · obtain ⟨y, h1, h2⟩ := atI_rep rs e2
    exact ⟨p, xs, _, y, rfl, rep_int.mp S1.top, .inl (.inl h), h1, q2 _ _ ⟨O1, S1.pop.pushD h2⟩⟩
  · cases e2
theorem g_put {i : Nat} {a b e : Expr} {pos pos' : Pos} {m1 m2 : W Da} (ha : PE X a (tVar i)) (hb : PE X b (tp X.K G x m1)) (he : PE X e (tp X.K G x m2))
    (hx : ∀ v, assign (.Subscript a b pos) X.env v = (do
      let ov ← holding [v] (eval a X.env)
      let iv ← holding [v, ov] (eval b X.env)
      standAt pos
      holding [v, ov, iv] (setItem ov iv v)
      release [v, ov, iv] []) := by intro _; rfl)
    (hs : swapsWithSole [.Subscript a b pos] e pos'.line X.env = pure false := by rfl) (hw : swappedStores [.Subscript a b pos] e X.env = pure none := by rfl)
    (h1 : (assignEach [.Subscript a b pos] X.env).map (·.2) = [assign (.Subscript a b pos) X.env] := by rfl) : PS X (.Assign [.Subscript a b pos] e pos') (ts X.K G x (sPut i m1 m2)) :=
  (ps_asg he (pg_sub ha hb set_list hx) hs hw h1).of fun D σ H ⟨ρ, pe, S, q⟩ => by
    refine ⟨ρ, pe, S, m2.mono (fun d ρ1 q v H1 ⟨O1, S1⟩ => ?_) (fun _ _ z => z) q⟩
    obtain ⟨q0, q⟩ := q
    obtain ⟨p, hp⟩ := own_slot S1 q0
    refine ⟨.ref p, hp, ρ1, _, ⟨O1, S1⟩, m1.mono (fun k ρ2 q w H2 ⟨O2, S2⟩ => ?_) (fun _ _ z => z) q⟩
    obtain ⟨j, ds, n, e1, e2, e3, q⟩ := q
    have e1 := of_asI e1
    subst e1
    obtain ⟨xs, op, h, z, rs, np⟩ := own_at S2 hp e2
    have rv : Rep X.K (Lof G O2) H2 d v := S2.pop.top
    refine ⟨p, xs, j, n, rfl, rep_int.mp S2.top, h, by rw [rs.length]; exact e3, q σ _ ⟨O2, S2.pop.pop.change (xs := xs) (of_lookOwn e2) hp op (by rw [List.length_set]; exact z) (rs.set n rv)⟩⟩
end

/-! ### the pool, made and drawn from -/
def sPool (i : Nat) (s : Sx) : Sx := ⟨fun ρ E => ∃ ns a b c d e, lookOwn ρ i = some (poolD ns a b c d e) ∧ 0 ≤ a ∧ 0 ≤ c ∧ c < 2147483647 ∧ ns.length ≤ 1000 ∧ s.wp (ρ.set i (some .pool)) E, fun l ⟨ns, a, b, c, d, e, h1, h2, h3, h4, h5, h⟩ => ⟨ns, a, b, c, d, e, h1, h2, h3, h4, h5, s.mono l h⟩⟩
theorem poolD_reps {K : PySem.W.Frag} {L : Addr → Prop} {H : Hp} {ns : List Int} {a b c d e : Int} {xs : List V} (r : Reps K L H (poolD ns a b c d e) xs) : ∃ q, xs = [.ref q, .int a, .int b, .int c, .int d, .int e] ∧ LAt K L H q (ns.map V.int) := by
  simp only [poolD, Reps] at r
  obtain ⟨v0, x0, rfl, r0, v1, x1, rfl, r1, v2, x2, rfl, r2, v3, x3, rfl, r3, v4, x4, rfl, r4, v5, x5, rfl, r5, rfl⟩ := r
  obtain ⟨q, ys, e, hq, _, rs⟩ := rep_lst.mp r0
  rw [ints_vs rs] at hq
  exact ⟨q, by rw [e, rep_int.mp r1, rep_int.mp r2, rep_int.mp r3, rep_int.mp r4, rep_int.mp r5], hq⟩
theorem reps_poolD {K : PySem.W.Frag} {L : Addr → Prop} {H : Hp} {ns : List Int} {a b c d e : Int} {q : Addr} (h : LAt K L H q (ns.map V.int)) (hl : ns.length ≤ 1000) : Reps K L H (poolD ns a b c d e) [.ref q, .int a, .int b, .int c, .int d, .int e] := by
  simp only [poolD, Reps]
  exact ⟨_, _, rfl, rep_lst.mpr ⟨q, _, rfl, h, by rw [List.length_map, line_eq]; omega, intL_reps ns⟩, _, _, rfl, rep_int.mpr rfl, _, _, rfl, rep_int.mpr rfl, _, _, rfl, rep_int.mpr rfl, _, _, rfl, rep_int.mpr rfl, _, _, rfl, rep_int.mpr rfl, rfl⟩
section
variable {X : Cx} {G : Gc} {x : Ex → En → Prop}
theorem StO.toPool {K : PySem.W.Frag} {O : Addr → Option Tg} {σ : L2.St} {ρ : En} {pe : Pend} {H : Hp} {i : Nat} {ns : List Int} {a b c d e : Int} (S : StO K G O σ ρ pe H) (h1 : lookOwn ρ i = some (poolD ns a b c d e)) (h2 : 0 ≤ a) (h3 : 0 ≤ c) (h4 : c < 2147483647) (h5 : ns.length ≤ 1000) :
    StO K G O σ (ρ.set i (some .pool)) pe H := by
  obtain ⟨v, hv, p, xs, ev, op, hp, z, rs, np⟩ := S.slots i _ (of_lookOwn h1)
  obtain ⟨q, rfl, hq⟩ := poolD_reps rs
  refine ⟨S.frame, S.own, S.pools, by simpa using S.len, fun j cc ej => ?_, S.pends⟩
  rcases getset ej with ⟨e1, e2, hl⟩ | ⟨nj, ej⟩
  · subst e1
    cases e2
    exact ⟨v, hv, p, ev, op, q, ns, a, b, c, d, e, hp, hq, h2, h3, h4, h5⟩
  · exact S.slots j cc ej
theorem ss_pool {st : List Stmt} {s : Sx} (i : Nat) (h : PSs X st (ts X.K G x s)) : PSs X st (ts X.K G x (sPool i s)) := h.of fun D σ H ⟨ρ, pe, ⟨O, S⟩, ns, a, b, c, d, e, h1, h2, h3, h4, h5, q⟩ => ⟨_, pe, ⟨O, S.toPool h1 h2 h3 h4 h5⟩, q⟩
end

/-! ### a def that hands out a new list: return e -/
def spO (K : PySem.W.Frag) (n : Nat) (F : List Da → (List Da → Prop) → Prop) : Sp := fun vs H Q _ => ∃ (La : Addr → Prop) (ds : List Da), ds.length = n ∧ Reps K La H ds vs ∧
  F ds (fun es => ∀ p xs H', H p = none → (∀ b x, H b = some x → H' b = some x) → H' p = some (.lst xs) → es.length ≤ sizeLine → Reps K (fun c => (La c ∨ H c = none) ∧ c ≠ p) H' es xs → Q (.ref p) H')
theorem spO_len {K : PySem.W.Frag} {n : Nat} {F : List Da → (List Da → Prop) → Prop} : ∀ vs H Q E, spO K n F vs H Q E → vs.length = n := fun vs H Q E ⟨_, ds, l, r, _⟩ => r.length.trans l
theorem okO {P : Program} {w : World} {K : PySem.W.Frag} {mg : Str → Option Value} {base : Heap} {x qual : Str} {st : Stmt} {f : Addr} {fd : FuncData} {N ps : List Str} {k n : Nat} {F : List Da → (List Da → Prop) → Prop} {e : Expr} {pos : Pos} {m : W (List Da)} (Fu : Fun K x qual st f fd) (S : FnScope N ps (defScope st)) (hn : ps.length = n)
    (hst : defBody st = [.Return (some e) pos])
    (hb : ∀ (cdv : Value) (A : Around) (outer : List Env) (s : Shared) (H : Hp) (E : XK) (G : Gc) (xw : Ex → En → Prop), Room k (A.deeper (envOfC qual (defScope st) s.heap.objs.size f cdv)) →
      XOk (cxOf (L2.CX P w) P w K mg base N qual (defScope st) f cdv A outer s H E) G xw → PE (cxOf (L2.CX P w) P w K mg base N qual (defScope st) f cdv A outer s H E) e (tow K G xw m))
    (hw : ∀ ds k, ds.length = n → F ds k → m.wp (startE N.length ds) (fun es _ => k es) noEx) : FnOk P w K mg base (L2.CX P w) (k + 1) f fd ps (spO K n F) := by
  refine Fu.okX S (fun vs H Q E h => (spO_len vs H Q E h).trans hn.symm) fun cdv A outer s H vs Q E hr ⟨La, ds, l, r, q⟩ => ?_
  rw [hst]
  refine ⟨_, pss_one (ps_ret (hb cdv A outer s H E ⟨H, fun _ => False, La, none, SetTO P w⟩ noEx hr (XOk.no rfl))), ?_⟩
  have hle := scope_le S
  have hvl := r.length
  refine ⟨startE N.length ds, [], ⟨fun _ => none, ⟨fun b y e _ => ⟨e, rfl⟩, fun p t e => (by cases e), fun p h => h.elim, ?_, fun i c e => ?_, trivial⟩⟩, m.mono (fun es ρ q v H' ⟨O, S'⟩ => ?_) (fun _ _ z => z) (hw ds _ l q)⟩
  · rw [startE_len (by omega), start_len (by omega)]
  · obtain ⟨d, h1, rfl⟩ := startE_get e
    obtain ⟨v, h2, h3⟩ := r.getD h1
    exact ⟨v, start_get h2, Rep.mono (fun _ _ e _ => e) (fun _ _ _ z => ⟨rfl, .inl z⟩) _ _ h3⟩
  · obtain ⟨p, xs, ev, op, hp, z, rs, np⟩ := S'.pends.1
    subst ev
    have h0 : H p = none := by
      cases e : H p with
      | none => rfl
      | some o =>
        have z := (S'.frame p o e fun h => h).2
        rw [op] at z
        cases z
    exact q p xs H' h0 (fun b y z => (S'.frame b y z fun h => h).1) hp z (Reps.mono (fun _ _ e _ => e) (fun b _ _ z => ⟨z.2, fun e => by
      have z1 := z.1
      rw [e, op] at z1
      cases z1⟩) _ _ rs)
/-- f(..) that hands out a new list -/
def eCallO (F : List Da → (List Da → Prop) → Prop) (hF : ∀ as k k', (∀ d, k d → k' d) → F as k → F as k') (n : Nat) (a : W (List Da)) : W (List Da) := a.bind fun ds => (W.req (ds.length = n)).bind fun _ => ⟨fun ρ k x => F ds (fun es => k es ρ), fun hk hx h => hF _ _ _ (fun es q => hk _ _ q) h⟩
section
variable {X : Cx} {G : Gc} {x : Ex → En → Prop} {k : Nat} {f : Addr} {fd : FuncData} {ps : List Str} {n : Nat} {nm : Str} {p pos : Pos} {e : Expr} {es : List Expr} {ma : W (List Da)} {F : List Da → (List Da → Prop) → Prop}
theorem StO.pushH {K : PySem.W.Frag} {O : Addr → Option Tg} {σ : L2.St} {ρ : En} {pe : Pend} {H H' : Hp} {p : Addr} {ds : List Da} {xs : List V} (S : StO K G O σ ρ pe H) (np : H p = none) (kk : ∀ b x, H b = some x → H' b = some x) (hp : H' p = some (.lst xs)) (z : ds.length ≤ sizeLine)
    (r : Reps K (fun c => (Lof G O c ∨ H c = none) ∧ c ≠ p) H' ds xs) : StO K G (own1 O p pe.length) σ ρ ((.ref p, .own ds) :: pe) H' := by
  have ne : ∀ {b : Addr} {u : HO}, H b = some u → b ≠ p := fun {b u} e => ne_of_none e np
  have hk : Keep (Lof G O) H H' := fun b u e _ => kk b u e
  have l1 : ∀ {b}, Lof G O b → b ≠ p → Lof G (own1 O p pe.length) b := fun {b} h n => ⟨(if_neg n).trans (clr_none h.1), h.2⟩
  have hl : ∀ b u, H b = some u → Lof G O b → Lof G (own1 O p pe.length) b := fun b u e h => l1 h (ne e)
  have ow : ∀ {q t}, O q = some t → t ≠ .pend pe.length → H' q = H q ∧ own1 O p pe.length q = some t := fun {q t} e n => by
    obtain ⟨u, hu, _⟩ := S.own q t e
    exact ⟨(kk q u hu).trans hu.symm, (if_neg (ne hu)).trans (clr_ne e n)⟩
  refine ⟨fun b u e n => ?_, fun q t h => ?_, fun q hq => ?_, S.len, fun i c e => ?_, ⟨p, xs, rfl, own1_at, hp, z, Reps.mono (fun _ _ e _ => e) (fun b _ _ z => ?_) _ _ r, S.notP (o := .lst []) np⟩, ?_⟩
  · obtain ⟨h1, h2⟩ := S.frame b u e n
    exact ⟨kk b u h1, (if_neg (ne h1)).trans (clr_none h2)⟩
  · by_cases e : q = p
    · subst e
      exact ⟨_, hp, trivial⟩
    · unfold own1 at h
      rw [if_neg e] at h
      obtain ⟨u, hu, c⟩ := S.own q t (of_clr h).1
      exact ⟨u, kk q u hu, c⟩
  · obtain ⟨h, n⟩ := S.pools q hq
    have h' := h
    obtain ⟨_, _, _, _, _, _, _, e, _⟩ := h'
    exact ⟨h.mono hk hl (by rw [e]; exact kk _ _ e), n⟩
  · obtain ⟨w, h1, h2⟩ := S.slots i c e
    exact ⟨w, h1, h2.mono hk hl fun q e => ow e (fun z => by cases z)⟩
  · exact z.1.elim (fun z1 => l1 z1 z.2) (fun z1 => l1 (S.fresh z1) z.2)
  · exact S.pends.mono hk hl fun j hj q e => ow e (fun z => by cases z; omega)
theorem p_callO {hF} (fo : FnOk X.prog X.w X.K X.mg X.base (L2.CX X.prog X.w) k f fd ps (spO X.K n F)) (hr : Room k X.A) (hg : Gl X nm) (hm : X.mg nm = some (.ref f)) (hk : PySem.W.keepIn X.K (.ref f) = true) (hb : Binds X.K fd ps [])
    (ha : PA X (e :: es) (tar X.K G x ma)) (hdb : (nm == ("__debug__" : Str)) = false := by decide) (he : starEach (e :: es) X.env = (false, eval e X.env) :: starEach es X.env := by rfl) (hpl : (backTo pos (starEach es X.env)).any (·.1) = false := by rfl) :
    PE X (.Call (.Name nm p) (e :: es) [] pos) (tow X.K G x (eCallO F hF n ma)) :=
  (pe_call fo hr hg hm hk hb .nil passL ha hdb he hpl).of fun σ H Q ⟨ρ, pe, S, q⟩ => by
    refine ⟨ρ, pe, S, ma.mono (fun ds ρ1 ⟨hl, q⟩ vs H1 l ⟨O, S1⟩ => ?_) (fun _ _ z => z) q⟩
    obtain ⟨S2, rs⟩ := pushAll_pop l S1
    show spO X.K n F (vs ++ []) H1 Q E0
    rw [List.append_nil]
    exact ⟨Lof G O, ds, hl, rs, hF _ _ _ (fun es q p xs H' np kk hp z r => q _ H' ⟨_, S2.pushH np kk hp z r⟩) q⟩
end

/-! ### the pool in slot i, opened -/
def lookP (ρ : En) (i : Nat) : Option (List Da) := match ρ[i]? with
  | some (some (.plv po)) => some po
  | _ => none
theorem of_lookP {ρ : En} {i : Nat} {po : List Da} (h : lookP ρ i = some po) : ρ[i]? = some (some (.plv po)) := by
  unfold lookP at h
  split at h
  · cases h; assumption
  · cases h
def eIxP (i : Nat) (m : W Da) : W Da := W.env.bind fun ρ0 => (W.req ((lookP ρ0 i).isSome = true)).bind fun _ => m.bind fun d => W.env.bind fun ρ => (W.opt (lookP ρ i)).bind fun ds => W.opt (dIdx (.lst ds) d)
def sPutP (i : Nat) (m1 m2 : W Da) : Sx := ⟨fun ρ E => m2.wp ρ (fun d ρ1 => (lookP ρ1 i).isSome = true ∧ m1.wp ρ1 (fun k ρ2 => ∃ j ds n, asI k = some j ∧ lookP ρ2 i = some ds ∧ ixN ds.length j = some n ∧ PoolOk (ds.set n d) ∧ E.nx (ρ2.set i (some (.plv (ds.set n d))))) E.ex) E.ex,
  fun l h => m2.mono (fun d ρ1 q => ⟨q.1, m1.mono (fun k ρ2 ⟨j, ds, n, e1, e2, e3, e4, q⟩ => ⟨j, ds, n, e1, e2, e3, e4, l.nx _ q⟩) l.ex q.2⟩) l.ex h⟩
def sOpen (i : Nat) (s : Sx) : Sx := ⟨fun ρ E => ρ[i]? = some (some .pool) ∧ ∀ po, PoolOk po → s.wp (ρ.set i (some (.plv po))) E, fun l h => ⟨h.1, fun po ok => s.mono l (h.2 po ok)⟩⟩
section
variable {X : Cx} {G : Gc} {x : Ex → En → Prop}
theorem plv_at {K : PySem.W.Frag} {O : Addr → Option Tg} {σ : L2.St} {ρ : En} {pe : Pend} {H : Hp} {i : Nat} {p : Addr} {ds : List Da} (S : StO K G O σ ρ pe H) (hp : σ[i]? = some (some (.ref p))) (e : lookP ρ i = some ds) :
    ∃ xs, O p = some (.slot i) ∧ H p = some (.lst xs) ∧ Reps K (Lof G O) H ds xs ∧ PoolOk ds := by
  obtain ⟨v, hv, p', xs, ev, op, h, r, ok⟩ := S.slots i _ (of_lookP e)
  rw [hp] at hv
  cases hv
  cases ev
  exact ⟨xs, op, h, r, ok⟩
theorem plv_slot {K : PySem.W.Frag} {O : Addr → Option Tg} {σ : L2.St} {ρ : En} {pe : Pend} {H : Hp} {i : Nat} (S : StO K G O σ ρ pe H) (h : (lookP ρ i).isSome = true) : ∃ p, σ[i]? = some (some (.ref p)) := by
  obtain ⟨ds, e⟩ := Option.isSome_iff_exists.mp h
  obtain ⟨v, hv, p, xs, ev, _⟩ := S.slots i _ (of_lookP e)
  exact ⟨p, by rw [hv, ev]⟩
theorem p_ixP {i : Nat} {a b : Expr} {pos : Pos} {m : W Da} (ha : PE X a (tVar i)) (hb : PE X b (tp X.K G x m)) (hs : PlainIx b := by exact fun _ _ => rfl) : PE X (.Subscript a b pos) (tp X.K G x (eIxP i m)) := by
  refine (pe_ix (ix_list (X := X)) ha hb hs).of fun σ H Q ⟨ρ, pe, ⟨O, S⟩, q0, q⟩ => ?_
  obtain ⟨p, hp⟩ := plv_slot S q0
  refine ⟨.ref p, hp, ρ, pe, ⟨O, S⟩, m.mono (fun d ρ1 q w H1 ⟨O1, S1⟩ => ?_) (fun _ _ z => z) q⟩
  obtain ⟨ds, e1, q⟩ := W.opt_wp q
  obtain ⟨r, e2, q2⟩ := W.opt_wp (o := dIdx (.lst ds) d) q
  obtain ⟨xs, op, h, rs, _⟩ := plv_at S1 hp e1
  unfold dIdx at e2
  split at e2
  · obtain ⟨y, h1, h2⟩ := atI_rep rs e2
    exact ⟨p, xs, _, y, rfl, rep_int.mp S1.top, .inl (.inl h), h1, q2 _ _ ⟨O1, S1.pop.pushD h2⟩⟩
  · cases e2
theorem pool_of {K : PySem.W.Frag} {L : Addr → Prop} {H : Hp} {po : List Da} {xs : List V} {p : Addr} (hp : H p = some (.lst xs)) (r : Reps K L H po xs) (ok : PoolOk po) : PoolAt K L H p := by
  obtain ⟨ns, a, b, c, d, e, rfl, h1, h2, h3, h4⟩ := ok
  obtain ⟨q, rfl, hq⟩ := poolD_reps r
  exact ⟨q, ns, a, b, c, d, e, hp, hq, h1, h2, h3, h4⟩
theorem StO.changeP {K : PySem.W.Frag} {O : Addr → Option Tg} {σ : L2.St} {ρ : En} {pe : Pend} {H : Hp} {ds es : List Da} {i : Nat} {p : Addr} {ys : List V} (S : StO K G O σ ρ pe H) (h : lookP ρ i = some ds) (hv : σ[i]? = some (some (.ref p)))
    (ok : PoolOk es) (r : Reps K (Lof G O) H es ys) : StO K G O σ (ρ.set i (some (.plv es))) pe (upd H p (.lst ys)) := by
  obtain ⟨xs, op, hp, _, _⟩ := plv_at S hv h
  have hk : Keep (Lof G O) H (upd H p (.lst ys)) := fun b x e k => by
    rw [upd_ne]
    · exact e
    · rintro rfl
      rcases k with k | k
      · have k1 := k.1
        rw [op] at k1
        cases k1
      · rw [hp] at e
        cases e
        exact k trivial
  have hl : ∀ b x, H b = some x → Lof G O b → Lof G O b := fun _ _ _ h => h
  have r' : Reps K (Lof G O) (upd H p (.lst ys)) es ys := Reps.mono hk hl _ _ r
  refine ⟨fun b x e n => ⟨?_, (S.frame b x e n).2⟩, fun q t h => ?_, fun q hq => ?_, by simpa using S.len, fun j c h => ?_, ?_⟩
  · rw [upd_ne]
    · exact (S.frame b x e n).1
    · rintro rfl
      rw [(S.frame b x e n).2] at op
      cases op
  · by_cases e : q = p
    · subst e
      exact ⟨_, upd_same, trivial⟩
    · rw [upd_ne e]
      exact S.own q t h
  · obtain ⟨h1, h2⟩ := S.pools q hq
    by_cases e : q = p
    · subst e
      exact ⟨pool_of upd_same r' ok, h2⟩
    · exact ⟨h1.mono hk hl (upd_ne e), h2⟩
  · rcases getset h with ⟨e1, e2, _⟩ | ⟨n, h⟩
    · subst e1
      cases e2
      exact ⟨_, hv, p, ys, rfl, op, upd_same, r', ok⟩
    · obtain ⟨w, h1, h2⟩ := S.slots j c h
      exact ⟨w, h1, h2.mono hk hl (fun q e => ⟨upd_ne (fun q' => by
        rw [q', op] at e
        cases e
        exact n rfl), e⟩)⟩
  · exact S.pends.mono hk hl (fun j hj q e => ⟨upd_ne (fun q' => by
      rw [q', op] at e
      cases e), e⟩)
theorem g_putP {i : Nat} {a b e : Expr} {pos pos' : Pos} {m1 m2 : W Da} (ha : PE X a (tVar i)) (hb : PE X b (tp X.K G x m1)) (he : PE X e (tp X.K G x m2))
    (hx : ∀ v, assign (.Subscript a b pos) X.env v = (do
      let ov ← holding [v] (eval a X.env)
      let iv ← holding [v, ov] (eval b X.env)
      standAt pos
      holding [v, ov, iv] (setItem ov iv v)
      release [v, ov, iv] []) := by intro _; rfl)
    (hs : swapsWithSole [.Subscript a b pos] e pos'.line X.env = pure false := by rfl) (hw : swappedStores [.Subscript a b pos] e X.env = pure none := by rfl)
    (h1 : (assignEach [.Subscript a b pos] X.env).map (·.2) = [assign (.Subscript a b pos) X.env] := by rfl) : PS X (.Assign [.Subscript a b pos] e pos') (ts X.K G x (sPutP i m1 m2)) :=
  (ps_asg he (pg_sub ha hb set_list hx) hs hw h1).of fun D σ H ⟨ρ, pe, S, q⟩ => by
    refine ⟨ρ, pe, S, m2.mono (fun d ρ1 q v H1 ⟨O1, S1⟩ => ?_) (fun _ _ z => z) q⟩
    obtain ⟨q0, q⟩ := q
    obtain ⟨p, hp⟩ := plv_slot S1 q0
    refine ⟨.ref p, hp, ρ1, _, ⟨O1, S1⟩, m1.mono (fun k ρ2 q w H2 ⟨O2, S2⟩ => ?_) (fun _ _ z => z) q⟩
    obtain ⟨j, ds, n, e1, e2, e3, e4, q⟩ := q
    have e1 := of_asI e1
    subst e1
    obtain ⟨xs, op, h, rs, ok⟩ := plv_at S2 hp e2
    have rv : Rep X.K (Lof G O2) H2 d v := S2.pop.top
    refine ⟨p, xs, j, n, rfl, rep_int.mp S2.top, h, by rw [rs.length]; exact e3, q σ _ ⟨O2, S2.pop.pop.changeP e2 hp e4 (rs.set n rv)⟩⟩
theorem ss_open {st : List Stmt} {s : Sx} (i : Nat) (h : PSs X st (ts X.K G x s)) : PSs X st (ts X.K G x (sOpen i s)) := h.of fun D σ H ⟨ρ, pe, ⟨O, S⟩, h0, q⟩ => by
  obtain ⟨v, hv, p, ev, op, q0, ns, a, b, c, d, e, hp, hq, h1, h2, h3, h4⟩ := S.slots i _ h0
  refine ⟨_, pe, ⟨O, S.frame, S.own, S.pools, by simpa using S.len, fun j cc ej => ?_, S.pends⟩, q (poolD ns a b c d e) ⟨ns, a, b, c, d, e, rfl, h1, h2, h3, h4⟩⟩
  rcases getset ej with ⟨e1, e2, hl⟩ | ⟨nj, ej⟩
  · subst e1
    cases e2
    exact ⟨v, hv, p, _, ev, op, hp, reps_poolD hq h4, ns, a, b, c, d, e, rfl, h1, h2, h3, h4⟩
  · exact S.slots j cc ej
end
end Pu
end

section
namespace Pu
open PySem PySem.Spec PyProof.Rows L2

/-! ### objects of the program's own classes -/
theorem rep_obj {K : PySem.W.Frag} {L : Addr → Prop} {H : Hp} {c : Addr} {ns : List Str} {ds : List Da} {v : V} : Rep K L H (.obj c ns ds) v ↔ ∃ a dx fs, v = .ref a ∧ (H a = some (.ins c dx fs) ∧ L a) ∧ fs.map (·.1) = ns ∧ Reps K L H ds (fs.map (·.2)) := by
  simp only [Rep]
def Da.fld (C : Addr) (f : Str) : Da → Option Da
  | .obj c ns xs => if c = C then (ns.zip xs).lookup f else none
  | _ => none
/-- no field of that name -/
def Da.noFld (C : Addr) (m : Str) : Da → Bool
  | .obj c ns _ => decide (c = C) && !(ns.contains m)
  | _ => false
theorem flds_get {K : PySem.W.Frag} {L : Addr → Prop} {H : Hp} {f : Str} {d : Da} : ∀ {fs : List (Str × V)} {xs : List Da}, Reps K L H xs (fs.map (·.2)) → ((fs.map (·.1)).zip xs).lookup f = some d → ∃ v, fs.lookup f = some v ∧ Rep K L H d v
  | [], xs, r, e => by simp at e
  | (g, v) :: fs, [], r, e => by simp at e
  | (g, v) :: fs, x :: xs, r, e => by
    simp only [List.map_cons, Reps] at r
    obtain ⟨y, ys, e1, r1, r2⟩ := r
    cases e1
    simp only [List.map_cons, List.zip_cons_cons, List.lookup_cons] at e ⊢
    split at e
    · cases e
      exact ⟨_, rfl, r1⟩
    · exact flds_get r2 e
theorem flds_none {m : Str} : ∀ {fs : List (Str × V)}, (fs.map (·.1)).contains m = false → fs.lookup m = none
  | [], _ => rfl
  | (g, v) :: fs, e => by
    simp only [List.map_cons, List.contains_cons, Bool.or_eq_false_iff] at e
    simp only [List.lookup_cons]
    have h1 : (m == g) = false := e.1
    rw [h1]
    exact flds_none e.2
theorem of_fld {C : Addr} {f : Str} {u : Da} : ∀ {d : Da}, d.fld C f = some u → ∃ ns xs, d = .obj C ns xs ∧ (ns.zip xs).lookup f = some u
  | .obj c ns xs, e => by
    simp only [Da.fld] at e
    by_cases hc : c = C
    · subst hc
      rw [if_pos rfl] at e
      exact ⟨ns, xs, rfl, e⟩
    · rw [if_neg hc] at e
      cases e
  | .non, e => by cases e
  | .bl _, e => by cases e
  | .int _, e => by cases e
  | .str _, e => by cases e
  | .tup _, e => by cases e
  | .lst _, e => by cases e
  | .scr _, e => by cases e
theorem of_noFld {C : Addr} {m : Str} : ∀ {d : Da}, d.noFld C m = true → ∃ ns xs, d = .obj C ns xs ∧ ns.contains m = false
  | .obj c ns xs, h => by
    simp only [Da.noFld, Bool.and_eq_true, decide_eq_true_eq, Bool.not_eq_true'] at h
    obtain ⟨rfl, h⟩ := h
    exact ⟨ns, xs, rfl, h⟩
  | .non, e => by cases e
  | .bl _, e => by cases e
  | .int _, e => by cases e
  | .str _, e => by cases e
  | .tup _, e => by cases e
  | .lst _, e => by cases e
  | .scr _, e => by cases e
def eFld (C : Addr) (f : Str) (m : W Da) : W Da := m.bind fun d => W.opt (d.fld C f)
section
variable {X : Cx} {G : Gc} {x : Ex → En → Prop} {C : Addr}
theorem p_fld {e : Expr} {f : Str} {pos : Pos} {m : W Da} (c : Cls X.K C) (n : NoAttr X.K C f) (he : PE X e (tp X.K G x m)) (hb : attributeBase e f X.env (eval e X.env) = eval e X.env := by rfl) : PE X (.Attribute e f pos) (tp X.K G x (eFld C f m)) :=
  (pe_fld he hb).of fun σ H Q ⟨ρ, pe, S, q⟩ => by
    refine ⟨ρ, pe, S, m.mono (fun d ρ1 q v H1 ⟨O, S1⟩ => ?_) (fun _ _ z => z) q⟩
    obtain ⟨u, e1, q2⟩ := W.opt_wp q
    obtain ⟨ns, xs, ed, e3⟩ := of_fld e1
    obtain ⟨a, dx, fs, ev, ⟨ha, _⟩, hn, rs⟩ := rep_obj.mp (ed ▸ S1.top)
    rw [← hn] at e3
    obtain ⟨y, h1, h2⟩ := flds_get rs e3
    exact ⟨a, C, dx, fs, y, ev, ha, c, n, h1, q2 _ _ ⟨O, S1.pop.pushD h2⟩⟩
end

/-! ### a method that raises nothing -/
def eMeth (C : Addr) (m : Str) (F : Fn) (n : Nat) (o : W Da) (a : W (List Da)) : W Da := o.bind fun d => (W.req (d.noFld C m = true)).bind fun _ => a.bind fun ds => (W.req (ds.length = n)).bind fun _ => ⟨fun ρ k _ => F.wp (d :: ds) (fun d => k d ρ) (fun _ => False), fun hk hx h => F.mono (fun d q => hk _ _ q) (fun e q => q) h⟩
section
variable {X : Cx} {G : Gc} {x : Ex → En → Prop} {C : Addr} {k : Nat} {f : Addr} {fd : FuncData} {ps : List Str} {F : Fn} {n : Nat} {m : Str} {p pos apos : Pos} {o e : Expr} {es : List Expr} {mo : W Da} {ma : W (List Da)}
theorem obj_noFld {K : PySem.W.Frag} {L : Addr → Prop} {H : Hp} {d : Da} {v : V} (r : Rep K L H d v) (h : d.noFld C m = true) : ∃ a dx fs, v = .ref a ∧ H a = some (.ins C dx fs) ∧ fs.lookup m = none := by
  obtain ⟨ns, xs, ed, h1⟩ := of_noFld h
  obtain ⟨a, dx, fs, ev, ⟨ha, _⟩, hn, _⟩ := rep_obj.mp (ed ▸ r)
  rw [← hn] at h1
  exact ⟨a, dx, fs, ev, ha, flds_none h1⟩
theorem p_meth {pl : Sem Bool} (c : Cls X.K C) (hm : Meth X.K C m f) (fo : FnOk X.prog X.w X.K X.mg X.base (L2.CX X.prog X.w) k f fd ps (spD X.K X.mg (n + 1) F)) (hr : Room k X.A) (hb : Binds X.K fd ps []) (ho : PE X o (tp X.K G x mo)) (ha : PA X (e :: es) (tar X.K G x ma))
    (hst : starEach (e :: es) X.env = (false, eval e X.env) :: starEach es X.env := by rfl) (hpl : (backTo pos (starEach es X.env)).any (·.1) = false := by rfl)
    (ht : eval (.Call (.Attribute o m apos) (e :: es) [] pos) X.env = (do
      let ov ← eval o X.env
      standAt apos.atName
      let (f, first) ← holding [ov] (getMethod ov m pl)
      callWith pos f first (backTo pos (starEach (e :: es) X.env)) (backToKw pos (keywordEach [] X.env))) := by rfl) :
    PE X (.Call (.Attribute o m apos) (e :: es) [] pos) (tp X.K G x (eMeth C m F n mo ma)) :=
  (pe_meth ho c hm fo hr hb .nil passL ha hst hpl ht).of fun σ H Q ⟨ρ, pe, S, q⟩ => by
    refine ⟨ρ, pe, S, mo.mono (fun d ρ1 q v H1 ⟨O1, S1⟩ => ?_) (fun _ _ z => z) q⟩
    obtain ⟨q0, q⟩ := q
    obtain ⟨a, dx, fs, rfl, h1, h2⟩ := obj_noFld S1.top q0
    refine ⟨a, dx, fs, rfl, h1, h2, ρ1, _, ⟨O1, S1⟩, ma.mono (fun ds ρ2 ⟨hl, q⟩ vs H2 l ⟨O, S2⟩ => ?_) (fun _ _ z => z) q⟩
    obtain ⟨S3, rs⟩ := pushAll_pop l S2
    show spD X.K X.mg (n + 1) F (V.ref a :: (vs ++ [])) H2 Q E0
    rw [List.append_nil]
    refine ⟨Lof G O, d :: ds, by simp [hl], ?_, F.mono (fun d' q v H' kk r => q v H' ⟨O, S3.pop.result kk r⟩) (fun _ z => z.elim) q⟩
    simp only [Reps]
    exact ⟨_, _, rfl, S3.top, rs⟩
theorem p_meth0 {pl : Sem Bool} (c : Cls X.K C) (hm : Meth X.K C m f) (fo : FnOk X.prog X.w X.K X.mg X.base (L2.CX X.prog X.w) k f fd ps (spD X.K X.mg 1 F)) (hr : Room k X.A) (hb : Binds X.K fd ps []) (ho : PE X o (tp X.K G x mo))
    (ht : eval (.Call (.Attribute o m apos) [] [] pos) X.env = (do
      let ov ← eval o X.env
      standAt apos.atName
      let (f, first) ← holding [ov] (getMethod ov m pl)
      callWith pos f first (backTo pos (starEach [] X.env)) (backToKw pos (keywordEach [] X.env))) := by rfl) :
    PE X (.Call (.Attribute o m apos) [] [] pos) (tp X.K G x (eMeth C m F 0 mo eNil)) :=
  (pe_meth0 ho c hm fo hr hb .nil passL ht).of fun σ H Q ⟨ρ, pe, S, q⟩ => by
    refine ⟨ρ, pe, S, mo.mono (fun d ρ1 q v H1 ⟨O, S1⟩ => ?_) (fun _ _ z => z) q⟩
    obtain ⟨q0, _, q⟩ := q
    obtain ⟨a, dx, fs, rfl, h1, h2⟩ := obj_noFld S1.top q0
    refine ⟨a, dx, fs, rfl, h1, h2, ?_⟩
    show spD X.K X.mg 1 F (V.ref a :: ([] ++ [])) H1 Q E0
    refine ⟨Lof G O, [d], rfl, ?_, F.mono (fun d' q v H' kk r => q v H' ⟨O, S1.pop.result kk r⟩) (fun _ z => z.elim) q⟩
    simp only [Reps]
    exact ⟨_, _, rfl, S1.top, rfl⟩
end
end Pu
end

section
namespace Pu
open PySem PySem.Spec PyProof.Rows L2

/-! ### self in an __init__: slot i -/
def lookMe (ρ : En) (i : Nat) : Option (Addr × List (Str × Da)) := match ρ[i]? with
  | some (some (.me c fs)) => some (c, fs)
  | _ => none
theorem of_lookMe {ρ : En} {i : Nat} {z : Addr × List (Str × Da)} (h : lookMe ρ i = some z) : ρ[i]? = some (some (.me z.1 z.2)) := by
  unfold lookMe at h
  split at h
  · cases h; assumption
  · cases h
def putD (f : Str) (d : Da) : List (Str × Da) → List (Str × Da)
  | [] => [(f, d)]
  | (g, x) :: r => if g = f then (g, d) :: r else (g, x) :: putD f d r
/-- self.f -/
def eMe (C : Addr) (f : Str) (i : Nat) : W Da := W.env.bind fun ρ => (W.opt (lookMe ρ i)).bind fun z => (W.req (z.1 = C)).bind fun _ => W.opt (z.2.lookup f)
/-- self.f = m -/
def sMe (C : Addr) (f : Str) (i : Nat) (m : W Da) : Sx := ⟨fun ρ E => m.wp ρ (fun d ρ1 => ∃ fs, lookMe ρ1 i = some (C, fs) ∧ fs.length < 1000 ∧ E.nx (ρ1.set i (some (.me C (putD f d fs))))) E.ex,
  fun l h => m.mono (fun d ρ1 ⟨fs, h1, h2, q⟩ => ⟨fs, h1, h2, l.nx _ q⟩) l.ex h⟩
theorem me_get {K : PySem.W.Frag} {L : Addr → Prop} {H : Hp} {f : Str} {d : Da} : ∀ {vs : List (Str × V)} {fs : List (Str × Da)}, vs.map (·.1) = fs.map (·.1) → Reps K L H (fs.map (·.2)) (vs.map (·.2)) → fs.lookup f = some d → ∃ v, vs.lookup f = some v ∧ Rep K L H d v
  | [], [], _, _, e => by simp at e
  | [], _ :: _, h, _, _ => by simp at h
  | _ :: _, [], h, _, _ => by simp at h
  | (g, v) :: vs, (g', y) :: fs, h, r, e => by
    simp only [List.map_cons, List.cons.injEq] at h
    obtain ⟨rfl, h⟩ := h
    simp only [List.map_cons, Reps] at r
    obtain ⟨y', ys, e1, r1, r2⟩ := r
    cases e1
    simp only [List.lookup_cons] at e ⊢
    split at e
    · cases e
      exact ⟨_, rfl, r1⟩
    · exact me_get h r2 e
theorem me_put {K : PySem.W.Frag} {L : Addr → Prop} {H : Hp} {f : Str} {d : Da} {w : V} (rw : Rep K L H d w) : ∀ {vs : List (Str × V)} {fs : List (Str × Da)}, vs.map (·.1) = fs.map (·.1) → Reps K L H (fs.map (·.2)) (vs.map (·.2)) →
    (putF f w vs).map (·.1) = (putD f d fs).map (·.1) ∧ Reps K L H ((putD f d fs).map (·.2)) ((putF f w vs).map (·.2))
  | [], [], _, _ => by
    simp only [putF, putD, List.map_cons, List.map_nil, Reps]
    exact ⟨trivial, _, _, rfl, rw, rfl⟩
  | [], _ :: _, h, _ => by simp at h
  | _ :: _, [], h, _ => by simp at h
  | (g, v) :: vs, (g', y) :: fs, h, r => by
    simp only [List.map_cons, List.cons.injEq] at h
    obtain ⟨rfl, h⟩ := h
    simp only [List.map_cons, Reps] at r
    obtain ⟨y', ys, e1, r1, r2⟩ := r
    cases e1
    simp only [putF, putD]
    by_cases e : g = f
    · rw [if_pos e, if_pos e]
      simp only [List.map_cons, Reps]
      exact ⟨by rw [h], _, _, rfl, rw, r2⟩
    · rw [if_neg e, if_neg e]
      obtain ⟨i1, i2⟩ := me_put rw h r2
      simp only [List.map_cons, Reps]
      exact ⟨by rw [i1], _, _, rfl, r1, i2⟩
section
variable {K : PySem.W.Frag} {G : Gc} {O : Addr → Option Tg} {σ : L2.St} {ρ : En} {pe : Pend} {H : Hp} {i : Nat}
theorem me_at {z : Addr × List (Str × Da)} {p : Addr} (S : StO K G O σ ρ pe H) (hv : σ[i]? = some (some (.ref p))) (h : lookMe ρ i = some z) :
    ∃ dx vs, O p = some (.slot i) ∧ H p = some (.ins z.1 dx vs) ∧ vs.map (·.1) = z.2.map (·.1) ∧ Reps K (Lof G O) H (z.2.map (·.2)) (vs.map (·.2)) ∧ ¬ G.P0 p ∧ G.La p ∧ G.H0 p = none := by
  obtain ⟨v, hv', p', dx, vs, ev, op, h1, h2, h3, h4⟩ := S.slots i _ (of_lookMe h)
  rw [hv] at hv'
  cases hv'
  cases ev
  exact ⟨dx, vs, op, h1, h2, h3, h4⟩
theorem me_slot {z : Addr × List (Str × Da)} (S : StO K G O σ ρ pe H) (h : lookMe ρ i = some z) : ∃ p, σ[i]? = some (some (.ref p)) := by
  obtain ⟨v, hv, p', dx, vs, ev, _⟩ := S.slots i _ (of_lookMe h)
  exact ⟨p', by rw [hv, ev]⟩
theorem StO.changeMe {z : Addr × List (Str × Da)} {p dx' : Addr} {es : List (Str × Da)} {ys : List (Str × V)} (S : StO K G O σ ρ pe H) (h : lookMe ρ i = some z) (hv : σ[i]? = some (some (.ref p)))
    (he : ys.map (·.1) = es.map (·.1)) (r : Reps K (Lof G O) H (es.map (·.2)) (ys.map (·.2))) : StO K G O σ (ρ.set i (some (.me z.1 es))) pe (upd H p (.ins z.1 dx' ys)) := by
  obtain ⟨dx, xs, op, hp, _, _, np, nz⟩ := me_at S hv h
  have hk : Keep (Lof G O) H (upd H p (.ins z.1 dx' ys)) := fun b x e k => by
    rw [upd_ne]
    · exact e
    · rintro rfl
      rcases k with k | k
      · have k1 := k.1
        rw [op] at k1
        cases k1
      · rw [hp] at e
        cases e
        exact k trivial
  have hl : ∀ b x, H b = some x → Lof G O b → Lof G O b := fun _ _ _ h => h
  refine ⟨fun b x e n => ⟨?_, (S.frame b x e n).2⟩, fun q t h => ?_, fun q hq => ⟨(S.pools q hq).1.mono hk hl (upd_ne (fun e => np (e ▸ hq))), (S.pools q hq).2⟩, by simpa using S.len, fun j c h => ?_, ?_⟩
  · rw [upd_ne]
    · exact (S.frame b x e n).1
    · rintro rfl
      rw [(S.frame b x e n).2] at op
      cases op
  · by_cases e : q = p
    · subst e
      exact ⟨_, upd_same, trivial⟩
    · rw [upd_ne e]
      exact S.own q t h
  · rcases getset h with ⟨e1, e2, _⟩ | ⟨n, h⟩
    · subst e1
      cases e2
      exact ⟨_, hv, p, dx', ys, rfl, op, upd_same, he, Reps.mono hk hl _ _ r, np, nz⟩
    · obtain ⟨w, h1, h2⟩ := S.slots j c h
      exact ⟨w, h1, h2.mono hk hl (fun q e => ⟨upd_ne (fun q' => by
        rw [q', op] at e
        cases e
        exact n rfl), e⟩)⟩
  · exact S.pends.mono hk hl (fun j hj q e => ⟨upd_ne (fun q' => by
      rw [q', op] at e
      cases e), e⟩)
end
section
variable {X : Cx} {G : Gc} {x : Ex → En → Prop} {C : Addr} {i : Nat} {f : Str}
theorem p_me {e : Expr} {pos : Pos} (c : Cls X.K C) (n : NoAttr X.K C f) (he : PE X e (tVar i)) (hb : attributeBase e f X.env (eval e X.env) = eval e X.env := by rfl) : PE X (.Attribute e f pos) (tp X.K G x (eMe C f i)) :=
  (pe_fld he hb).of fun σ H Q ⟨ρ, pe, ⟨O, S⟩, q⟩ => by
    obtain ⟨⟨c', fs⟩, e1, e2, q2⟩ := W.opt_wp q
    obtain ⟨d, e3, q3⟩ := W.opt_wp (o := fs.lookup f) q2
    have e2 : c' = C := e2
    subst e2
    obtain ⟨p, hp⟩ := me_slot S e1
    obtain ⟨dx, vs, op, h1, h2, h3, h4⟩ := me_at S hp e1
    obtain ⟨v, h5, h6⟩ := me_get h2 h3 e3
    exact ⟨.ref p, hp, p, c', dx, vs, v, rfl, h1, c, n, h5, q3 v H ⟨O, S.pushD h6⟩⟩
theorem s_me {o value : Expr} {pos pos' : Pos} {m : W Da} (c : Cls X.K C) (n : NoAttr X.K C f) (ho : PE X o (tVar i)) (hv : PE X value (tp X.K G x m)) (hs : swapsWith value (some (.Attribute o f pos')) pos.line X.env = pure false := by rfl) :
    PS X (.Assign [.Attribute o f pos'] value pos) (ts X.K G x (sMe C f i m)) :=
  (ps_fld ho hv hs).of fun D σ H ⟨ρ, pe, S, q⟩ => by
    refine ⟨ρ, pe, S, m.mono (fun d ρ1 q v H1 ⟨O, S1⟩ => ?_) (fun _ _ z => z) q⟩
    obtain ⟨fs, h1, hl, q⟩ := q
    obtain ⟨p, hp⟩ := me_slot S1 h1
    obtain ⟨dx, vs, op, g1, g2, g3, g4⟩ := me_at S1 hp h1
    obtain ⟨k1, k2⟩ := me_put (f := f) S1.top g2 g3
    have lv : vs.length = fs.length := by
      have := congrArg List.length g2
      simpa using this
    exact ⟨.ref p, hp, p, C, dx, vs, rfl, g1, c, n, by omega, q σ _ ⟨O, S1.pop.changeMe (z := (C, fs)) h1 hp k1 k2⟩⟩
end
end Pu
end

section
namespace Pu
open PySem PySem.Spec PyProof.Rows L2

/-! ### __init__, and making -/
/-- an __init__ of n arguments beside self: F gives the object -/
def spI (K : PySem.W.Frag) (mg : Str → Option Value) (C : Addr) (n : Nat) (F : Fn) : Sp := fun vs H Q E => ∃ (La : Addr → Prop) (ds : List Da) (p dx : Addr) (ws : List V), vs = .ref p :: ws ∧ ds.length = n ∧ Reps K La H ds ws ∧ H p = some (.ins C dx []) ∧ ¬ La p ∧
  F.wp ds (fun d => ∀ ns xs dx' fs H', d = .obj C ns xs → (∀ b x, H b = some x → b ≠ p → H' b = some x) → H' p = some (.ins C dx' fs) → fs.map (·.1) = ns → Reps K (fun c => La c ∨ H c = none) H' xs (fs.map (·.2)) → Q .non H')
    (fun e => ∀ B d H', mg e.name = some (.ref B) → (∀ b x, H b = some x → b ≠ p → H' b = some x) → XdAt K (fun c => La c ∨ H c = none) H' d e → E (.ref B) (some d) H')
theorem spI_len {K : PySem.W.Frag} {mg : Str → Option Value} {C : Addr} {n : Nat} {F : Fn} : ∀ vs H Q E, spI K mg C n F vs H Q E → vs.length = n + 1 := fun vs H Q E ⟨_, ds, p, dx, ws, e, l, r, _⟩ => by
  subst e
  simp [r.length, l]
def startI (n : Nat) (C : Addr) (ds : List Da) : En := some (.me C []) :: startE (n - 1) ds
def isMe (C : Addr) (ρ : En) : Prop := ∃ fs, lookMe ρ 0 = some (C, fs)
def flI (C : Addr) (k : Da → Prop) (x : Ex → Prop) : Fl := ⟨fun ρ => ∃ fs, lookMe ρ 0 = some (C, fs) ∧ k (.obj C (fs.map (·.1)) (fs.map (·.2))), fun _ _ => False, fun _ => False, fun _ => False, fun e ρ => isMe C ρ ∧ x e⟩
def KeepsI (n N : Nat) (C : Addr) (F : Fn) (b : Sx) : Prop := ∀ (ds : List Da) (k : Da → Prop) (x : Ex → Prop), ds.length = n → F.wp ds k x → b.wp (startI N C ds) (flI C k x)
section
variable {P : Program} {w : World} {K : PySem.W.Frag} {mg : Str → Option Value} {base : Heap} {x qual : Str} {st : Stmt} {f C : Addr} {fd : FuncData} {N ps : List Str} {k n : Nat} {F : Fn} {b : Sx}
theorem okI (Fu : Fun K x qual st f fd) (S : FnScope N ps (defScope st)) (hn : ps.length = n + 1)
    (hb : ∀ (cdv : Value) (A : Around) (outer : List Env) (s : Shared) (H : Hp) (E : XK) (G : Gc) (xw : Ex → En → Prop), Room k (A.deeper (envOfC qual (defScope st) s.heap.objs.size f cdv)) →
      XOk (cxOf (L2.CX P w) P w K mg base N qual (defScope st) f cdv A outer s H E) G xw → PSs (cxOf (L2.CX P w) P w K mg base N qual (defScope st) f cdv A outer s H E) (defBody st) (ts K G xw b))
    (hw : KeepsI n N.length C F b) : FnOk P w K mg base (L2.CX P w) (k + 1) f fd ps (spI K mg C n F) := by
  refine Fu.okX S (fun vs H Q E h => (spI_len vs H Q E h).trans hn.symm) fun cdv A outer s H vs Q E hr ⟨La, ds, p, dx, ws, ev, l, r, hp, nl, q⟩ => ?_
  subst ev
  let G : Gc := ⟨fun b => if b = p then none else H b, fun _ => False, fun b => (La b ∧ (H b).isSome = true) ∨ b = p, none, SetTO P w⟩
  let O0 : Addr → Option Tg := fun a => if a = p then some (.slot 0) else none
  have gH : ∀ {b : Addr} {y : HO}, H b = some y → b ≠ p → G.H0 b = some y := fun {b y} e n => (if_neg n).trans e
  have hg : ∀ {b : Addr} {y : HO}, G.H0 b = some y → b ≠ p ∧ H b = some y := fun {b y} e => by
    have e' : (if b = p then none else H b) = some y := e
    by_cases z : b = p
    · rw [if_pos z] at e'
      cases e'
    · rw [if_neg z] at e'
      exact ⟨z, e'⟩
  have uniq : ∀ {b : Addr}, G.La b → G.H0 b = none → b = p := fun {b} h1 h2 => by
    rcases h1 with ⟨_, h1⟩ | h1
    · by_cases z : b = p
      · exact z
      · have h2' : (if b = p then none else H b) = none := h2
        rw [if_neg z] at h2'
        rw [h2'] at h1
        cases h1
    · exact h1
  -- what is for ever at the end, as the caller sees it
  have fin : ∀ {O : Addr → Option Tg} {σ : L2.St} {ρ : En} {pe : Pend} {H' : Hp} {fs : List (Str × Da)}, StO K G O σ ρ pe H' → lookMe ρ 0 = some (C, fs) → (∀ b y, H b = some y → b ≠ p → H' b = some y) ∧ (∀ b, Lof G O b → La b ∨ H b = none) ∧
      ∃ dx' vs, H' p = some (.ins C dx' vs) ∧ vs.map (·.1) = fs.map (·.1) ∧ Reps K (Lof G O) H' (fs.map (·.2)) (vs.map (·.2)) := fun {O σ ρ pe H' fs} S' h1 => by
    obtain ⟨p', e0⟩ := me_slot S' h1
    obtain ⟨dx', vs, op, g1, g2, g3, _, g4, g5⟩ := me_at S' e0 h1
    have ep := uniq g4 g5
    subst ep
    refine ⟨fun b y e n => (S'.frame b y (gH e n) fun h => h).1, fun b z => ?_, dx', vs, g1, g2, g3⟩
    have nb : b ≠ p' := fun e => by
      have z1 := z.1
      rw [e, op] at z1
      cases z1
    rcases z.2 with (z2 | z2) | z2
    · exact .inl z2.1
    · exact absurd z2 nb
    · exact .inr (by
        have z3 : (if b = p' then none else H b) = none := z2
        rwa [if_neg nb] at z3)
  refine ⟨_, hb cdv A outer s H E G (fun e ρ => isMe C ρ ∧ ∀ B d H', mg e.name = some (.ref B) → (∀ b x, H b = some x → b ≠ p → H' b = some x) → XdAt K (fun c => La c ∨ H c = none) H' d e → E (.ref B) (some d) H') hr
    ⟨rfl, fun cls d _ H' => E cls d H', takes_of rfl rfl rfl rfl, fun e ρ σ pe H' O B d ⟨⟨fs, hm⟩, hx⟩ S' hC hd => hx B d H' hC (fin S' hm).1 (hd.mono (fin S' hm).2.1)⟩, ?_⟩
  have hle := scope_le S
  have hvl := r.length
  have lo : ∀ b y, H b = some y → La b → Lof G O0 b := fun b y e z => ⟨if_neg (fun e : b = p => nl (e ▸ z)), .inl (.inl ⟨z, by rw [e]; rfl⟩)⟩
  refine ⟨startI N.length C ds, [], ⟨O0, ⟨fun b y e n => ⟨(hg e).2, if_neg (hg e).1⟩, fun a t e => ?_, fun a h => h.elim, ?_, fun i c e => ?_, trivial⟩⟩,
    b.mono (E := flI C _ _) ⟨fun ρ q σ H' ⟨O, S'⟩ => ?_, fun d ρ q => q.elim, fun _ z => z.elim, fun _ z => z.elim, fun _ _ z => z⟩ (hw ds _ _ l q)⟩
  · by_cases z : a = p
    · subst z
      exact ⟨_, hp, trivial⟩
    · have e' : (if a = p then some (Tg.slot 0) else none) = some t := e
      rw [if_neg z] at e'
      cases e'
  · unfold startI
    rw [List.length_cons, startE_len (by omega), start_len (by simp; omega)]
    omega
  · cases i with
    | zero =>
      cases e
      exact ⟨.ref p, start_get rfl, p, dx, [], rfl, if_pos rfl, hp, rfl, rfl, fun h => h, .inr rfl, if_pos rfl⟩
    | succ i =>
      obtain ⟨d, h1, rfl⟩ := startE_get (show (startE (N.length - 1) ds)[i]? = some (some c) from e)
      obtain ⟨v, h2, h3⟩ := r.getD h1
      exact ⟨v, start_get (show (V.ref p :: ws)[i + 1]? = some v from h2), Rep.mono (fun _ _ e _ => e) lo _ _ h3⟩
  · obtain ⟨fs, h1, q⟩ := q
    obtain ⟨f1, f2, dx', vs, g1, g2, g3⟩ := fin S' h1
    exact q _ _ dx' vs H' rfl f1 g1 g2 (Reps.mono (fun _ _ e _ => e) (fun b _ _ z => f2 b z) _ _ g3)
end
end Pu
end

section
namespace Pu
open PySem PySem.Spec PyProof.Rows L2

section
variable {X : Cx} {CX : CXT} {k : Nat} {f C : Addr} {fd : FuncData} {ps : List Str} {sp : Sp} {E : L2.St → XK} {x : Str} {p pos : Pos} {e : Expr} {es : List Expr} {t : TA}
/-- C(..): what __init__ raises is wished for at the slots as they stand -/
def tMakeS (C : Addr) (sp : Sp) (E : L2.St → XK) (t : TA) : TE := fun σ H Q => t σ H fun vs H1 => ∀ x dx, H1 x = none → H1 dx = none → dx ≠ x →
  sp (.ref x :: vs) (upd (upd H1 dx (.own x)) x (.ins C dx [])) (fun v H2 => v = .non ∧ Q (.ref x) H2) (E σ)
theorem run_makeS {pins : List (Addr × Obj)} {σ : L2.St} {H : Hp} {s : Shared} {Q : VK} {us : List Value} {vs : List V} (M : Mk X.K C f) (F : FnOk X.prog X.w X.K X.mg X.base CX k f fd ps sp) (hr : Room (k + 1) X.A) (hb : Binds X.K fd ps [])
    (hx : PassesAt CX X σ (E σ)) (I : Inv X pins σ H s) (r : Vals vs us)
    (h : ∀ x dx, H x = none → H dx = none → dx ≠ x → sp (.ref x :: vs) (upd (upd H dx (.own x)) x (.ins C dx [])) (fun v H2 => v = .non ∧ Q (.ref x) H2) (E σ)) :
    wpAny (model X.prog X.w) X.A (call (.ref C) us) (EP X pins σ Q) X.xe s := by
  have hq := h (s.heap.objs.size + 1) s.heap.objs.size (I.hok.fresh (Nat.le_succ _)) (I.hok.fresh (Nat.le_refl _)) (Nat.ne_of_lt (Nat.lt_succ_self _))
  have I2 := Inv.made (C := C) I
  have r2 : Vals (V.ref (s.heap.objs.size + 1) :: vs) (Value.ref (s.heap.objs.size + 1) :: us) := .cons rfl r
  have hl : (Value.ref (s.heap.objs.size + 1) :: us).length = ps.length := by
    have e := r2.length
    rw [F.len _ _ _ _ hq] at e
    exact e.symm
  have b := hb _ (Value.ref (s.heap.objs.size + 1) :: us) I2.kIn (by rw [List.append_nil]; exact hl)
  rw [List.append_nil] at b
  refine wpAny_call (make_map (f := f) I.kIn M.makes M.init (beq_iff_eq.mp M.fn) (codeAny_mono (F.run _ X.stack _ _ ⟨Value.ref (s.heap.objs.size + 1) :: us, []⟩ (Value.ref (s.heap.objs.size + 1) :: us) _ _ (E σ) (hr.make C us [])
    (I2.env0.make C us []) b r2 hq) fun r s' hq' => ?_))
  cases r with
  | error e => exact hx pins _ _ e s' I2 hq'
  | ok fl =>
    cases fl with
    | ret u =>
      obtain ⟨v, H', I3, rv, ev, q3⟩ := I2.after hq'
      subst ev
      exact ⟨rv, ⟨V.ref (s.heap.objs.size + 1), H', I3, rfl, q3⟩⟩
    | next => exact False.elim hq'
    | brk => exact False.elim hq'
    | cont => exact False.elim hq'
theorem pe_makeS (M : Mk X.K C f) (F : FnOk X.prog X.w X.K X.mg X.base CX k f fd ps sp) (hr : Room (k + 1) X.A) (hg : Gl X x) (hm : X.mg x = some (.ref C)) (hb : Binds X.K fd ps []) (hx : ∀ σ, PassesAt CX X σ (E σ))
    (ha : PA X (e :: es) t) (hdb : (x == ("__debug__" : Str)) = false := by decide) (he : starEach (e :: es) X.env = (false, eval e X.env) :: starEach es X.env := by rfl) (hpl : (backTo pos (starEach es X.env)).any (·.1) = false := by rfl) :
    PE X (.Call (.Name x p) (e :: es) [] pos) (tMakeS C sp E t) := by
  refine ⟨fun pins s σ H Q I h => ?_⟩
  refine wpAny_Call_Name_kw (ld_glob I hg hm ?_ hdb)
  refine PySem.W.callWith_K (h₀ := X.base) I.ok.mod.kin M.kp (thn (ha.run pos pins s σ H _ I h) fun us s1 ⟨vs, H1, I1, r, q⟩ => ⟨I1.kIn, ?_⟩) he hpl
  exact run_makeS M F hr hb (hx σ) I1 r q
end
section
variable {X : Cx} {G : Gc} {x : Ex → En → Prop} {k : Nat} {f C : Addr} {fd : FuncData} {ps : List Str} {F : Fn} {n : Nat} {nm : Str} {p pos : Pos} {e : Expr} {es : List Expr} {ma : W (List Da)}
theorem keep2 {H H' : Hp} {x dx : Addr} {o u : HO} (hx : H x = none) (hd : H dx = none) (kk : ∀ b y, upd (upd H dx o) x u b = some y → b ≠ x → H' b = some y) : ∀ b y, H b = some y → H' b = some y := fun b y e =>
  kk b y (by rw [upd_ne (ne_of_none e hx), upd_ne (ne_of_none e hd)]; exact e) (ne_of_none e hx)
/-- the callee's results are objects of its class -/
def Objs (C : Addr) (F : Fn) : Prop := ∀ ds k x, F.wp ds k x → F.wp ds (fun d => (∃ ns xs, d = .obj C ns xs) ∧ k d) x
theorem p_make (xo : XOk X G x) (M : Mk X.K C f) (fo : FnOk X.prog X.w X.K X.mg X.base (L2.CX X.prog X.w) k f fd ps (spI X.K X.mg C n F)) (hr : Room (k + 1) X.A) (hg : Gl X nm) (hm : X.mg nm = some (.ref C)) (hb : Binds X.K fd ps [])
    (ha : PA X (e :: es) (tar X.K G x ma)) (hdb : (nm == ("__debug__" : Str)) = false := by decide)
    (he : starEach (e :: es) X.env = (false, eval e X.env) :: starEach es X.env := by rfl) (hpl : (backTo pos (starEach es X.env)).any (·.1) = false := by rfl) : PE X (.Call (.Name nm p) (e :: es) [] pos) (tp X.K G x (eCall F n ma)) := by
  obtain ⟨W, tk, hW⟩ := xo.ex
  refine (pe_makeS M fo hr hg hm hb (fun σ => passAt tk σ) ha hdb he hpl).of fun σ H Q ⟨ρ, pe, S, q⟩ => ?_
  refine ⟨ρ, pe, S, ma.mono (fun ds ρ1 ⟨hl, q⟩ vs H1 l ⟨O, S1⟩ a dx hx hd ne => ?_) (fun _ _ z => z) q⟩
  obtain ⟨S2, rs⟩ := pushAll_pop l S1
  have h2 : ∀ {b : Addr}, upd (upd H1 dx (.own a)) a (.ins C dx []) b = none → H1 b = none := fun {b} z => by
    cases e : H1 b with
    | none => rfl
    | some y =>
      rw [upd_ne (ne_of_none e hx), upd_ne (ne_of_none e hd), e] at z
      cases z
  have lf : ∀ {b : Addr}, (Lof G O b ∧ b ≠ a) ∨ upd (upd H1 dx (.own a)) a (.ins C dx []) b = none → Lof G O b := fun {b} z => z.elim (·.1) fun z => S2.fresh (h2 z)
  have r0 : Reps X.K (fun b => Lof G O b ∧ b ≠ a) (upd (upd H1 dx (.own a)) a (.ins C dx [])) ds vs :=
    Reps.mono (L := Lof G O) (H := H1) (fun b y e _ => by rw [upd_ne (ne_of_none e hx), upd_ne (ne_of_none e hd)]; exact e) (fun b y e z => ⟨z, ne_of_none e hx⟩) _ _ rs
  refine ⟨fun b => Lof G O b ∧ b ≠ a, ds, a, dx, vs, rfl, hl, r0, upd_same, fun z => z.2 rfl,
    F.mono (fun d q ns xs dx' fs H' ed kk ha' hn r => ?_) (fun ee q B d H' hB kk r => hW ee ρ1 σ pe H' O B d q (S2.heap (keep2 hx hd kk)) hB (r.mono fun b z => lf z)) q⟩
  subst ed
  exact ⟨rfl, q _ H' ⟨O, (S2.heap (keep2 hx hd kk)).push (rep_obj.mpr ⟨a, dx', fs, rfl, ⟨ha', S2.fresh hx⟩, hn, Reps.mono (fun _ _ e _ => e) (fun b _ _ z => lf z) _ _ r⟩)⟩⟩
end
end Pu
end

section
namespace Pu
open PySem PySem.Spec PyProof.Rows L2

/-! ### == of two objects of one class by its own __eq__ -/
def rObjEq (C : Addr) (sp : Sp) : R2 := fun x y H Q => ∃ a b dx dy fs gs, x = .ref a ∧ y = .ref b ∧ H a = some (.ins C dx fs) ∧ H b = some (.ins C dy gs) ∧ sp [.ref a, .ref b] H (fun z H' => ∃ t, z = .bl t ∧ Q z H') E0
theorem op_objEq {X : Cx} {k : Nat} {f C : Addr} {fd : FuncData} {ps : List Str} {sp : Sp} (F : FnOk X.prog X.w X.K X.mg X.base (L2.CX X.prog X.w) k f fd ps sp) (hr : Room k X.A)
    (hs : PySem.W.findIn X.K (.ref C) "__eq__" = some (some (.ref f))) (hf : PySem.W.isFn X.K (.ref f) = true) (hb : Binds X.K fd ps []) : OpR X (compareOp .Eq) (rObjEq C sp) := by
  intro pins s σ H x y u v Q I rx ry ⟨a, b, dx, dy, fs, gs, ex, ey, ha, hb', hsp⟩
  subst ex ey
  cases rx
  cases ry
  show wpAny (model X.prog X.w) X.A (richCompare .Eq (.ref a) (.ref b)) (EP X pins σ Q) X.xe s
  obtain ⟨mA, J, _⟩ := ins_get I.hok ha
  obtain ⟨mB, J', _⟩ := ins_get I.hok hb'
  obtain ⟨od, J, _⟩ := J.look
  obtain ⟨od', J', _⟩ := J'.look
  obtain ⟨m, hF⟩ := I.fr
  refine PySem.W.cmp_K (op := .Eq) (tb := .ref C) hr.units0 hF I.ok.mod.kin J J'.type (by simp [PySem.W.notFirst]) hs hf ?_
  have hl := F.len _ _ _ _ hsp
  have r2 : Vals [V.ref a, V.ref b] [Value.ref a, Value.ref b] := .cons rfl (.cons rfl .nil)
  refine wpAny_call (codeAny_mono (F.run X.A X.stack s H ⟨[.ref a, .ref b], []⟩ [.ref a, .ref b] [.ref a, .ref b] _ E0 hr I.env0 (by
    have := hb s [.ref a, .ref b] I.kIn (by simpa using hl)
    simpa using this) r2 hsp) fun r s' hq => ?_)
  cases r with
  | error e => exact passL pins σ H s e s' I hq
  | ok fl =>
    cases fl with
    | ret w =>
      obtain ⟨z, H', I', rz, t, ez, q⟩ := I.after hq
      subst ez
      cases rz
      exact ⟨.bl t, H', I', rfl, q⟩
    | next => exact False.elim hq
    | brk => exact False.elim hq
    | cont => exact False.elim hq
end Pu
end

section
namespace Pu
open PySem PySem.Spec PyProof.Rows L2

/-! ### a == b by the class's own __eq__, said of data -/
def Da.isObj (C : Addr) : Da → Bool
  | .obj c _ _ => decide (c = C)
  | _ => false
theorem of_isObj {C : Addr} : ∀ {d : Da}, d.isObj C = true → ∃ ns xs, d = .obj C ns xs
  | .obj c ns xs, h => by
    have h := of_decide_eq_true (show decide (c = C) = true from h)
    subst h
    exact ⟨ns, xs, rfl⟩
  | .non, e => by cases e
  | .bl _, e => by cases e
  | .int _, e => by cases e
  | .str _, e => by cases e
  | .tup _, e => by cases e
  | .lst _, e => by cases e
  | .scr _, e => by cases e
def eObjEq (C : Addr) (F : Fn) (a b : W Da) : W Da := a.bind fun d => b.bind fun e => (W.req (d.isObj C = true ∧ e.isObj C = true)).bind fun _ => ⟨fun ρ k _ => F.wp [d, e] (fun r => (∃ t, r = .bl t) ∧ k r ρ) (fun _ => False), fun hk hx h => F.mono (fun d q => ⟨q.1, hk _ _ q.2⟩) (fun e q => q) h⟩
section
variable {X : Cx} {G : Gc} {x : Ex → En → Prop} {k : Nat} {f C : Addr} {fd : FuncData} {ps : List Str} {F : Fn} {a b : Expr} {pos : Pos} {ma mb : W Da}
theorem p_objEq (fo : FnOk X.prog X.w X.K X.mg X.base (L2.CX X.prog X.w) k f fd ps (spD X.K X.mg 2 F)) (hr : Room k X.A) (hs : PySem.W.findIn X.K (.ref C) "__eq__" = some (some (.ref f))) (hf : PySem.W.isFn X.K (.ref f) = true) (hb : Binds X.K fd ps [])
    (pa : PE X a (tp X.K G x ma)) (pb : PE X b (tp X.K G x mb)) (hm : behindInMarks .Eq b = false) : PE X (.Compare a [.Eq] [b] pos) (tp X.K G x (eObjEq C F ma mb)) :=
  (pe_cmpR (op_objEq (C := C) fo hr hs hf hb) pa pb hm).of fun σ H Q ⟨ρ, pe, S, q⟩ => by
    refine ⟨ρ, pe, S, ma.mono (fun d ρ1 q v H1 S1 => ⟨ρ1, _, S1, mb.mono (fun e ρ2 q w H2 ⟨O, S2⟩ => ?_) (fun _ _ z => z) q⟩) (fun _ _ z => z) q⟩
    obtain ⟨⟨h1, h2⟩, q⟩ := q
    obtain ⟨ns, xs, rfl⟩ := of_isObj h1
    obtain ⟨ms, ys, rfl⟩ := of_isObj h2
    obtain ⟨a', dx, fs, rfl, ⟨ha, _⟩, _⟩ := rep_obj.mp S2.pop.top
    obtain ⟨b', dy, gs, rfl, ⟨hb', _⟩, _⟩ := rep_obj.mp S2.top
    refine ⟨a', b', dx, dy, fs, gs, rfl, rfl, ha, hb', Lof G O, [.obj C ns xs, .obj C ms ys], rfl, ?_, F.mono (fun r q v H' kk rr => ?_) (fun _ z => z.elim) q⟩
    · simp only [Reps]
      exact ⟨_, _, rfl, S2.pop.top, _, _, rfl, S2.top, rfl⟩
    · obtain ⟨⟨t, rfl⟩, q⟩ := q
      have := rep_bl'.mp rr
      exact ⟨t, this, q v H' ⟨O, S2.pop.pop.result kk rr⟩⟩
end
/-! ### isinstance(x, C), x of the class C -/
def eIsC (C : Addr) (m : W Da) : W Da := m.bind fun d => (W.req (d.isObj C = true)).bind fun _ => W.ret (.bl true)
end Pu
end

section
set_option maxHeartbeats 1000000
/-! enumerate of a tuple -/
namespace EnT
open PySem
open PySem.Sem (wp)
open AutoSeq1 (wpAny_loadPart')

theorem meets_enumerate_newT (l : Addr) (items : Array Value) (n : Nat) (dct : Option Addr) (sl : Array (Option Value)) :
    Meets (Builtin.«enumerate.__new__» ⟨[.type "enumerate", .ref l], []⟩) (fun _ R s => s.heap.get? l = some { cls := .type "tuple", dict := dct, data := .seq items n, slots := sl } ∧
      R (.ok (.ret (.ref (s.heap.push { cls := .type "tuple_iterator", data := .fields #[.ref l, .int 0 0] }).objs.size)))
        { s with heap := (s.heap.push { cls := .type "tuple_iterator", data := .fields #[.ref l, .int 0 0] }).push { cls := .type "enumerate", data := .fields #[.none, .bool false, .ref s.heap.objs.size, rawInt 0, .none, .none] } }) :=
  .of_wp fun prog w A R s h => by
    obtain ⟨hp, g, d, tk, os⟩ := s; obtain ⟨hl, h⟩ := h
    have hsub := sub_enumerate
    have hL : Heap.IsTuple (Shared.heap ⟨hp, g, d, tk, os⟩) l items := ⟨_, hl, rfl, n, rfl⟩
    wp_walk using wpAny_loadPart' hl
    refine wpAny_stack_any fun st => wpAny_pure ?_
    split
    · rename_i c _ _ _ _ _
      cases (c == Value.type "enumerate")
      · wp_walk using wpAny_loadPart' hl, wpAny_pyIter_tuple hL
        exact ⟨_, rfl, h⟩
      · wp_walk using wpAny_loadPart' hl, wpAny_pyIter_tuple hL
        exact ⟨_, rfl, h⟩
    · wp_walk using wpAny_loadPart' hl, wpAny_pyIter_tuple hL
      exact ⟨_, rfl, h⟩
section
variable {prog : Program} {w : World} {A : Around} {E : Value → Shared → Prop} {s : Shared}
theorem call_enumerate_tuple {l : Addr} {items : Array Value} {Q : Value → Shared → Prop} (hL : s.heap.IsTuple l items)
    (h : ∀ h', IsEnum h' (s.heap.objs.size + 1) s.heap.objs.size 0 .none → h'.IsTupleIter s.heap.objs.size l 0 → h'.objs.size = s.heap.objs.size + 2 →
      (∀ b o, s.heap.get? b = some o → h'.get? b = some o) → Q (.ref (s.heap.objs.size + 1)) { s with heap := h' }) :
    wpAny (model prog w) A (call (.type "enumerate") [.ref l]) Q E s := by
  obtain ⟨⟨c, dct, dt, sl⟩, hl, hc, n, hd⟩ := hL
  replace hc : c = .type "tuple" := hc
  replace hd : dt = .seq items n := hd
  subst hc hd
  refine callType_new F.called_enumerate (by decide) (F.typeCall_enumerate_1 _) (F.newCall_enumerate_1 _) (fun obj => F.args_object_init_2 obj _) F.entry_enumerate_new
    (meets_enumerate_newT l items n dct sl) ⟨hl, ?_⟩
  have hz : (s.heap.push { cls := .type "tuple_iterator", data := .fields #[.ref l, .int 0 0] }).objs.size = s.heap.objs.size + 1 := Heap.size_push ..
  show _ ∧ _
  rw [hz]
  have he : IsEnum ((s.heap.push { cls := .type "tuple_iterator", data := .fields #[.ref l, .int 0 0] }).push
      { cls := .type "enumerate", data := .fields #[.none, .bool false, .ref s.heap.objs.size, rawInt 0, .none, .none] }) (s.heap.objs.size + 1) s.heap.objs.size 0 .none := by
    have := Heap.get?_push_size (s.heap.push { cls := .type "tuple_iterator", data := .fields #[.ref l, .int 0 0] })
      (o := { cls := .type "enumerate", data := .fields #[.none, .bool false, .ref s.heap.objs.size, rawInt 0, .none, .none] }) rfl
    rw [hz] at this; exact this
  refine ⟨⟨_, he, rfl⟩, h _ he ⟨_, Heap.get?_push_of_some _ (Heap.get?_push_size _ rfl), rfl, rfl⟩ (by rw [Heap.size_push, hz]) fun b o x => Heap.get?_push_of_some _ (Heap.get?_push_of_some _ x)⟩
end
theorem RZ_end {prog : Program} {w : World} {A : Around} {E : Value → Shared → Prop} {s : Shared} {e it l : Addr} {i : Nat} {c : Int} {items : Array Value} {old : Value} {Q : Option Value → Shared → Prop} (hh : A.handled = none) (he : IsEnum s.heap e it c old)
    (hit : s.heap.IsTupleIter it l i) (hl : s.heap.IsTuple l items) (hx : items[i]? = none) (hQ : ∀ h', Heap.ExtBut it s.heap h' → Q none { s with heap := h' }) : wpAny (model prog w) A (pyNext (.ref e)) Q E s := by
  have hT : s.TypeIs (.ref e) "enumerate" := ⟨_, he, rfl⟩
  unfold pyNext
  refine wpAny_bind (wpAny_attempt (wpAny_callSpecial?_slot (name := Str.ofString "__next__") hT F.slot_enumerate_next
    (wpAny_call_entry F.slot_enumerate_next hT F.entry_enumerate_next ?_ (F.args_enumerate_next_1 _))))
  show wpAny _ _ (field (.ref e) 2 >>= _) _ _ _
  refine wpAny_bind (wpAny_field he rfl (x := .ref it) rfl ?_)
  refine wpAny_bind (RZ.nextOf_tuple_end hh hit hl hx fun h' x he' hx' => ?_)
  obtain ⟨o, ho, hc⟩ := hx'
  refine wpAny_bind (wpAny_isInstance (T := "StopIteration") (b := true) ⟨o, ho, hc⟩ isSubtype_stop ?_)
  exact wpAny_pure (hQ _ he')
theorem drawsT {prog : Program} {w : World} {A : Around} (hh : A.handled = none) (it l : Addr) (hne : l ≠ it) (items : Array Value) :
    Draws prog w A it [it, l] items.size (fun i v => items[i]? = some v) (fun i h => h.IsTupleIter it l i ∧ h.IsTuple l items) where
  live := fun _ _ st => let ⟨o, ho, _⟩ := st.1; ⟨o, ho⟩
  frame := fun _ _ _ st hk => ⟨st.1.at fun o e => hk it (by simp) o e, st.2.at fun o e => hk l (by simp) o e⟩
  item := fun i s Q E hi st hQ => by
    refine RZ.nextOf_tuple_item st.1 st.2 (x := items[i]) (by simp [hi]) fun h' hit' hs' => ?_
    exact hQ _ h' s.toks (by simp [hi]) ⟨hit', st.2.at fun o e => hs'.extBut l o hne e⟩ hs'
  done := fun s Q E st hE => RZ.nextOf_tuple_end hh st.1 st.2 (by simp) hE
end EnT
namespace EnT
open PySem PySem.Spec PyProof.Rows L2
/-- the tuple at a, each item in a new pair -/
def IteT (K : PySem.W.Frag) (a : Addr) : It :=
  ⟨fun i H => ∃ (xs : List V) (x : V), SqT K H a xs ∧ xs[i]? = some x, fun i H v H' => ∃ T x, v = .ref T ∧ H T = none ∧ H' = upd H T (.tup [.int (i : Nat), x]) ∧ ∀ xs, SqT K H a xs → xs[i]? = some x, fun i H => ∃ xs : List V, SqT K H a xs ∧ xs.length ≤ i⟩
theorem turn_enumT {P : Program} {w : World} {K : PySem.W.Frag} {elts : List Expr} {kk : Nat} {tpos : Pos} (a e it : Addr) :
    Turn P w K (.Tuple elts kk tpos) (IteT K a) [e, it] e (fun i h => (∃ old, IsEnum h e it ((i : Nat) : Int) old) ∧ h.IsTupleIter it a i ∧ e ≠ it) where
  mem := by simp
  obj := fun i h st b hb => by
    obtain ⟨⟨old, he⟩, ⟨o, ho, hc, hd⟩, _⟩ := st
    have e' : b = e ∨ b = it := by simpa using hb
    rcases e' with z | z
    · rw [z]; exact ⟨_, he, fun v q => nomatch q⟩
    · rw [z]; exact ⟨o, ho, fun v q => by rw [hd] at q; cases q⟩
  keep := fun i h h' st k => let ⟨⟨old, he⟩, hi, hne⟩ := st; ⟨⟨old, k e (by simp) _ he⟩, hi.at fun o q => k it (by simp) o q, hne⟩
  item := by
    intro X hP hw hK hc i pins s σ H E I hf st hg
    subst hP hw hK
    obtain ⟨⟨old, he⟩, hit, hne⟩ := st
    obtain ⟨xs, x, hq, hx⟩ := hg
    obtain ⟨its, rv, p, hz⟩ := I.tuple hq
    have p : s.heap.IsTuple a its.toArray := p
    obtain ⟨u, hu, ru⟩ := rv.get hx
    have hel : e < s.heap.objs.size := Heap.lt_size he
    have hil : it < s.heap.objs.size := by obtain ⟨_, q, _⟩ := hit; exact Heap.lt_size q
    have nai : a ≠ it := fun q => by
      subst q
      obtain ⟨o, h1, h2, _⟩ := hit
      obtain ⟨o', h3, h4, _⟩ := p
      rw [h1] at h3
      cases h3
      rw [h2] at h4
      simp at h4
    have nae : e ≠ a := fun q => by
      subst q
      obtain ⟨o', h3, h4, _⟩ := p
      have he' := he
      unfold IsEnum at he'
      rw [he'] at h3
      cases h3
      simp at h4
    refine wpAny_pyNext_enum_itemD (fp := [it, a]) (n := its.toArray.size) (drawsT (prog := X.prog) (w := X.w) (A := X.A.in1) (show X.A.in1.handled = none from I.ok.hd hc) it a nai its.toArray) he ⟨hit, p⟩ (i := i) (by simpa using (List.getElem?_eq_some_iff.mp hu).1) hne (by simp [hne, nae]) fun x' h' tk hP ho st' hT hsz hk => ?_
    have ex : x' = u := by
      have hP' : its.toArray[i]? = some x' := hP
      have hu' : its.toArray[i]? = some u := by simpa using hu
      rw [hu'] at hP'
      exact (Option.some.inj hP').symm
    subst ex
    have hit' := st'.1
    refine ⟨_, rfl, wpAny_letOwnedTupleGo_enum (s := { s with heap := h', toks := tk + 1 }) ho fun h'' he' sb => ?_⟩
    have hT2 : h''.get? s.heap.objs.size = some { cls := .type "tuple", data := .seq #[.int i tk, x'] } := (sb.2 _ (Nat.ne_of_gt hel)).trans hT
    have new : ObjOk X.prog X.w (upd H s.heap.objs.size (.tup [.int (i : Nat), x])) h'' s.heap.objs.size (.tup [.int (i : Nat), x]) :=
      ⟨by show 2 ≤ sizeLine; decide, [.int i tk, x'], .cons ⟨_, rfl⟩ (.cons ru .nil), ⟨_, hT2, rfl, _, rfl⟩⟩
    have I1 : Inv X pins σ (upd H s.heap.objs.size (.tup [.int (i : Nat), x])) { s with heap := h'', toks := tk + 1 } :=
      I.turnedNew (ch := [e, it]) (fun b ob hb q => (sb.2 b (fun z => hb (by simp [z]))).trans (hk b ob (fun z => hb (by simp [z])) (fun z => hb (by simp [z])) q)) hf (Nat.le_refl _) new
    refine ⟨.ref s.heap.objs.size, _, I1, rfl, ⟨_, x, rfl, I.hok.fresh (Nat.le_refl _), rfl, fun ys hy => by rw [I.tuple_inj hy hq]; exact hx⟩, ⟨⟨x', ?_⟩, hit'.at fun o q => (sb.2 it (Ne.symm hne)).trans q, hne⟩, fun b hb => ?_⟩
    · have e1 : ((i + 1 : Nat) : Int) = (i : Int) + 1 := by omega
      rw [e1]; exact he'
    · have hb' : b < s.heap.objs.size := by
        have e' : b = e ∨ b = it := by simpa using hb
        rcases e' with z | z
        · rw [z]; exact hel
        · rw [z]; exact hil
      rw [upd_ne (Nat.ne_of_lt hb')]
      exact (hf b hb).1
  done := by
    intro X hP hw hK hc i pins s σ H E I hf st hg
    subst hP hw hK
    obtain ⟨⟨old, he⟩, hit, hne⟩ := st
    obtain ⟨xs, hq, hx⟩ := hg
    obtain ⟨its, rv, p, hz⟩ := I.tuple hq
    have p : s.heap.IsTuple a its.toArray := p
    obtain ⟨f0, f1, f2, f3, f4, f5⟩ := hf it (by simp)
    have hl := rv.length
    refine (RZ_end (I.ok.hd hc) he hit p (by simp; omega) fun h' eb => ⟨rfl, I.turned (t' := s.toks) (fun b o hb q => eb b o hb q) f0 f1 f3 f4 f5⟩)
  self := fun A i s Q E st h => let ⟨⟨_, he⟩, _⟩ := st; wpAny_pyIter_enum he h
def iEnumT (K : PySem.W.Frag) (ta : TA) : TI := fun σ H R => ta σ H fun vs H1 => ∃ a xs, vs = [.ref a] ∧ SqT K H1 a xs ∧ R (IteT K a) H1
theorem pi_enumT {X : Cx} {e : Expr} {ta : TA} {p pos tpos : Pos} {elts : List Expr} {kk : Nat} (hg : Gl X "enumerate") (hm : X.mg "enumerate" = none) (ha : PA X [e] ta) (hs : starEach [e] X.env = [(false, eval e X.env)] := by rfl) :
    PI X (.Tuple elts kk tpos) (.Call (.Name "enumerate" p) [e] [] pos) (iEnumT X.K ta) := by
  refine ⟨fun pins s σ H R I h => ?_⟩
  refine Call_ (ld_blt I hg hm boot_enumerate (PyProof.Rows.callWith_type1 (thn (ha.run pos pins s σ H _ I h) fun us s1 ⟨vs, H1, I1, r1, q1⟩ => ?_) hs rfl))
  obtain ⟨a, xs, ex, hq, q⟩ := q1
  subst ex
  cases r1 with
  | cons r rr =>
    cases rr
    cases r
    obtain ⟨its, rv, p', hz⟩ := I1.tuple hq
    refine call_enumerate_tuple (show s1.heap.IsTuple a its.toArray from p') fun h' he hit hsz hk => wpAny_pyIter_enum he ?_
    have I2 : Inv X pins σ H1 { s1 with heap := h' } := I1.kept (t' := s1.toks) hk
    refine ⟨s1.heap.objs.size + 1, [s1.heap.objs.size + 1, s1.heap.objs.size], _, _, H1, rfl, I2, turn_enumT a (s1.heap.objs.size + 1) s1.heap.objs.size, ⟨⟨.none, he⟩, hit, Nat.succ_ne_self _⟩, fun b hb => ?_, q⟩
    have e' : b = s1.heap.objs.size + 1 ∨ b = s1.heap.objs.size := by simpa using hb
    have hle : s1.heap.objs.size ≤ b := by
      rcases e' with z | z
      · rw [z]; exact Nat.le_add_right _ _
      · rw [z]; exact Nat.le_refl _
    exact I1.fpOk hle (I1.hok.fresh hle)
end EnT
end

section
namespace Pu
open PySem PySem.Spec PyProof.Rows L2

/-! ### enumerate(d) -/
def enumF : Nat → List Da → List Da
  | _, [] => []
  | i, d :: ds => .tup [.int (i : Int), d] :: enumF (i + 1) ds
theorem enumF_len : ∀ {n : Nat} {ds : List Da}, (enumF n ds).length = ds.length
  | _, [] => rfl
  | n, d :: ds => by simp [enumF, enumF_len (n := n + 1) (ds := ds)]
theorem enumF_get : ∀ {n i : Nat} {ds : List Da} {d : Da}, (enumF n ds)[i]? = some d → ∃ a, ds[i]? = some a ∧ d = .tup [.int ((n + i : Nat) : Int), a]
  | _, _, [], _, h => by simp [enumF] at h
  | n, 0, d :: ds, _, h => by
    simp [enumF] at h
    exact ⟨d, rfl, h.symm⟩
  | n, i + 1, d :: ds, e, h => by
    obtain ⟨a, h1, h2⟩ := enumF_get (n := n + 1) (i := i) (ds := ds) (d := e) (by simpa [enumF] using h)
    exact ⟨a, by simpa using h1, by rw [h2, show n + 1 + i = n + (i + 1) by omega]⟩
theorem itOk_enumL {K : PySem.W.Frag} {a : Addr} {ds : List Da} : ItOk K (Ite K a) [(.ref a, .lst ds)] (enumF 0 ds) := fun L H hs i => by
  have r := hs _ List.mem_cons_self
  simp only [Rep] at r
  obtain ⟨a', xs, e, q, _, rs⟩ := r
  cases e
  refine ⟨fun d h => ?_, fun h => ⟨xs, q.sq, by rw [rs.length]; rw [enumF_len] at h; exact h⟩⟩
  obtain ⟨c, h1, rfl⟩ := enumF_get h
  obtain ⟨y, hy, ry⟩ := rs.getD h1
  refine ⟨⟨xs, y, q.sq, hy⟩, fun w H' z => ?_⟩
  obtain ⟨T, u, rfl, nT, rfl, f⟩ := z
  have e1 := f xs q.sq
  rw [hy] at e1
  cases e1
  refine ⟨keep_upd nT, rep_pair nT (rep_int.mpr (by rw [Nat.zero_add])) ry⟩
theorem itOk_enumT {K : PySem.W.Frag} {a : Addr} {ds : List Da} : ItOk K (EnT.IteT K a) [(.ref a, .tup ds)] (enumF 0 ds) := fun L H hs i => by
  have r := hs _ List.mem_cons_self
  simp only [Rep] at r
  obtain ⟨a', xs, e, q, _, rs⟩ := r
  cases e
  refine ⟨fun d h => ?_, fun h => ⟨xs, q, by rw [rs.length]; rw [enumF_len] at h; exact h⟩⟩
  obtain ⟨c, h1, rfl⟩ := enumF_get h
  obtain ⟨y, hy, ry⟩ := rs.getD h1
  refine ⟨⟨xs, y, q, hy⟩, fun w H' z => ?_⟩
  obtain ⟨T, u, rfl, nT, rfl, f⟩ := z
  have e1 := f xs q
  rw [hy] at e1
  cases e1
  refine ⟨keep_upd nT, rep_pair nT (rep_int.mpr (by rw [Nat.zero_add])) ry⟩
def asT : Da → Option (List Da)
  | .tup ds => some ds
  | _ => none
theorem of_asT {d : Da} {ds : List Da} (h : asT d = some ds) : d = .tup ds := by
  cases d <;> simp [asT] at h
  subst h
  rfl
def iEnumT (m : W Da) : W (List Da) := m.bind fun d => (W.opt (asT d)).bind fun ds => W.ret (enumF 0 ds)
def iEnumL (m : W Da) : W (List Da) := m.bind fun d => (W.opt (asL d)).bind fun ds => W.ret (enumF 0 ds)
section
variable {X : Cx} {G : Gc} {x : Ex → En → Prop}
theorem i_enumT {a : Expr} {m : W Da} {p pos tpos : Pos} {elts : List Expr} {kk : Nat} (hg : Gl X "enumerate") (hm : X.mg "enumerate" = none) (ha : PE X a (tp X.K G x m)) (hs : starEach [a] X.env = (false, eval a X.env) :: starEach [] X.env := by rfl) (hs2 : starEach [a] X.env = [(false, eval a X.env)] := by rfl) :
    PI X (.Tuple elts kk tpos) (.Call (.Name "enumerate" p) [a] [] pos) (tit X.K G x (iEnumT m)) := (EnT.pi_enumT hg hm (pa_cons ha pa_nil hs) hs2).of fun σ H R ⟨ρ, pe, S, q⟩ =>
  ⟨ρ, pe, S, m.mono (fun d ρ1 q v H1 ⟨O, S1⟩ => by
    obtain ⟨ds, e, q⟩ := W.opt_wp q
    have e' := of_asT e
    subst e'
    have r := S1.top
    have r' := r
    simp only [Rep] at r
    obtain ⟨a', xs, e, h1, z, rs⟩ := r
    subst e
    exact ⟨a', xs, rfl, h1, q _ [(.ref a', .tup ds)] H1 itOk_enumT (by rw [enumF_len]; exact z) ⟨O, S1.pop.pushDs fun p hp => by
      rw [List.mem_singleton.mp hp]
      exact r'⟩⟩) (fun _ _ z => z) q⟩
theorem i_enumL {a : Expr} {m : W Da} {p pos tpos : Pos} {elts : List Expr} {kk : Nat} (hg : Gl X "enumerate") (hm : X.mg "enumerate" = none) (ha : PE X a (tp X.K G x m)) (hs : starEach [a] X.env = (false, eval a X.env) :: starEach [] X.env := by rfl) (hs2 : starEach [a] X.env = [(false, eval a X.env)] := by rfl) :
    PI X (.Tuple elts kk tpos) (.Call (.Name "enumerate" p) [a] [] pos) (tit X.K G x (iEnumL m)) := (pi_enum hg hm (pa_cons ha pa_nil hs) hs2).of fun σ H R ⟨ρ, pe, S, q⟩ =>
  ⟨ρ, pe, S, m.mono (fun d ρ1 q v H1 ⟨O, S1⟩ => by
    obtain ⟨ds, e, q⟩ := W.opt_wp q
    have e' := of_asL e
    subst e'
    have r := S1.top
    have r' := r
    simp only [Rep] at r
    obtain ⟨a', xs, e, h1, z, rs⟩ := r
    subst e
    exact ⟨a', xs, rfl, h1.sq, q _ [(.ref a', .lst ds)] H1 itOk_enumL (by rw [enumF_len]; exact z) ⟨O, S1.pop.pushDs fun p hp => by
      rw [List.mem_singleton.mp hp]
      exact r'⟩⟩) (fun _ _ z => z) q⟩

/-! ### isinstance(d, C), d an object of C -/
theorem p_isC {e : Expr} {C : Addr} {p p2 pos : Pos} {m : W Da} {cn : Str} (c : C8.InsC X.K C) (hg : Gl X "isinstance") (hm : X.mg "isinstance" = none) (hv : bootBuiltins "isinstance" = some (.builtin "isinstance")) (he : PE X e (tp X.K G x m))
    (hc : PE X (.Name cn p2) (tC (.ref C))) (hs0 : starEach [e, .Name cn p2] X.env = (false, eval e X.env) :: starEach [.Name cn p2] X.env := by rfl)
    (hs : starEach [.Name cn p2] X.env = (false, eval (.Name cn p2) X.env) :: starEach [] X.env := by rfl) (hpl : (backTo pos (starEach [.Name cn p2] X.env)).any (·.1) = false := by rfl) :
    PE X (.Call (.Name "isinstance" p) [e, .Name cn p2] [] pos) (tp X.K G x (eIsC C m)) :=
  (pe_callB (C8.call_isC c) hg hm hv (pa_cons he (pa_cons hc pa_nil hs) hs0) (by decide) (by decide) hs0 hpl).of fun σ H Q ⟨ρ, pe, S, q⟩ => ⟨ρ, pe, S, m.mono (fun d ρ1 q v H1 ⟨O, S1⟩ => by
    obtain ⟨h1, q⟩ := q
    obtain ⟨ns, xs, ed⟩ := of_isObj h1
    obtain ⟨a', dx, fs, rfl, ⟨ha, _⟩, _⟩ := rep_obj.mp (ed ▸ S1.top)
    exact ⟨a', dx, fs, rfl, ha, q _ H1 ⟨O, S1.pop.pushD (rep_bl'.mpr rfl)⟩⟩) (fun _ _ z => z) q⟩
end
end Pu
end

section
/-! several except clauses, each with a name (ps_try_many's and ps_try_as's proofs turned to it) -/
namespace L2
open PySem PySem.Spec PyProof.Rows
abbrev Hd := Value × Nat × (Addr → Value → Option Addr → TS)
def offSlot (D : Ends) (i : Nat) : Ends := { nx := fun σ' H' => D.nx (σ'.set i none) H', rt := D.rt, bk := fun σ' H' => D.bk (σ'.set i none) H', ct := fun σ' H' => D.ct (σ'.set i none) H' }
def wN (K : PySem.W.Frag) (Wout : WX) (D : Ends) : List Hd → WX
  | [] => Wout
  | (c, i, ts) :: r => fun cls d σ H => ∃ b, PySem.W.exmOne K cls c = some b ∧ (b = true → ∀ a, H a = none → ts a cls d (offSlot D i) (σ.set i (some (.ref a))) H) ∧ (b = false → wN K Wout D r cls d σ H)
inductive HdsN (X : Cx) : List ExceptHandler → List Hd → Prop
  | nil : HdsN X [] []
  | cons {x n : Str} {c : Value} {i : Nat} {ts : Addr → Value → Option Addr → TS} {b₀ : Stmt} {suite : List Stmt} {np pos' : Pos} {hds : List ExceptHandler} {l : List Hd} (hi : X.N[i]? = some n) (hln : X.env.kindOf n = some .local) (hc : Names X x c)
      (hsu : ∀ (a : Addr) (oe : Obj) (cls : Value) (d : Option Addr) (pn : List (Addr × Obj)), Zc cls d oe → (∃ vs, oe.data = .fields vs) → PSs (X.suite a ((a, oe) :: pn)) (b₀ :: suite) (ts a cls d)) (r : HdsN X hds l) :
      HdsN X (.ExceptHandler (some (.Name x np)) (some n) (b₀ :: suite) pos' :: hds) ((c, i, ts) :: l)
section
variable {X : Cx} {body : List Stmt} {h₀ : ExceptHandler} {hds : List ExceptHandler} {l : List Hd} {pos : Pos} {tb : WX → TS} {Wout : WX}
theorem ps_try_named (hs : X.stack = X.env :: X.outer) (hf : X.env.frame = some X.env.locals) (hN : X.N.Nodup) (tk : Takes X Wout)
    (hb : ∀ (W : WX) (pn : List (Addr × Obj)) (xe : Value → Shared → Prop), Takes (X.tr pn xe) W → PassesOwn (model X.prog X.w) X.A X.env xe → PSs (X.tr pn xe) body (tb W))
    (hh : HdsN X (h₀ :: hds) l) : PS X (.Try body (h₀ :: hds) [] [] pos) (fun D σ H => tb (wN X.K Wout D l) D σ H) := by
  refine ⟨fun pins s σ H D I h => ?_⟩
  have ok := I.ok
  have hfr : X.A.frames = some (X.env :: X.outer) := by rw [ok.frames, hs]
  refine wpAny_Try_except ?_
  refine wpAny_mono ((hb (wN X.K Wout D l) (X.pn ++ pins) (fun e s₁ => wpAny (model X.prog X.w) X.A (noteFrame e X.env) (fun _ s₂ => wpAny (model X.prog X.w) X.A (setFlight e none) (fun _ s₃ =>
    wpAny (model X.prog X.w) X.A (handleBy e X.env (h₀ :: hds)) (SP X pins D) X.xe s₃) X.xe s₂) X.xe s₁) (fun u s' xx => ?_) PassesOwn.looking).run [] s σ H D (I.toTry _) h) (fun f s1 hsp => ?_) (fun e s1 he => he)
  · -- the catch
    obtain ⟨a, B, sI, pins', σ', H', cls, d, rfl, J', nb, up, sky, na, os, ag, w⟩ := xx
    have J : Inv X pins σ' H' sI := J'.ofTry ok
    have sky' : Sky B (X.env :: X.outer) a (Zc cls d) X.env.locals s'.heap := by rw [← hs]; exact sky
    show wpAny (model X.prog X.w) X.A (noteFrame (.ref a) X.env) _ _ _
    refine Sky.land Zc.steady hfr hf sky' fun h3 fl3 up3 => ?_
    have J3 : Inv X pins σ' H' { s' with heap := h3 } := J.landed nb fl3.1 (up.trans up3) os ag
    obtain ⟨oe3, vs3, he3, hz3, hd3⟩ := fl3.there
    have notFr : ∀ {h : Heap} {o : Obj} {vs : Array Value}, h.FunFrames B (X.env :: X.outer) → h.get? a = some o → o.data = .fields vs → a ∉ frs (X.env :: X.outer) := fun {h o vs} ff e dd hm => by
      obtain ⟨_, o', e', hnf⟩ := ff.mem hm
      rw [e] at e'; cases e'
      exact hnf _ dd
    have nfr := notFr fl3.2.2.1 he3 hd3
    have nL : a ≠ X.env.locals := fun z => nfr (List.mem_filterMap.mpr ⟨X.env, List.mem_cons_self, by rw [hf, z]⟩)
    have nF : a ∉ X.fs := fun hm => by
      obtain ⟨e, he, q⟩ := List.mem_filterMap.mp hm
      exact nfr (List.mem_filterMap.mpr ⟨e, List.mem_cons_of_mem _ he, q⟩)
    have S3 := J3.suite he3 hd3 na nL nF
    have go : ∀ {hds' : List ExceptHandler} {l' : List Hd}, HdsN X hds' l' → wN X.K Wout D l' cls d σ' H' →
        wpAny (model X.prog X.w) X.A (handleBy (.ref a) X.env hds') (SP X pins D) X.xe { s' with heap := h3 } := by
      intro hds' l' hk
      induction hk with
      | nil =>
        intro w
        refine wpAny_handleBy_nil ?_
        obtain ⟨k1, k2, k3, oe, vs, T, oT, ts', he, hz, hd, h1, hr⟩ := id fl3
        unfold PySem.passOn
        refine wpAny_bind (wpAny_field he hd h1 ?_)
        rw [if_neg (show ¬ ((Value.ref T == Value.none) = true) from by simp)]
        have fin : wpAny (model X.prog X.w) X.A (setFlight (.ref a) X.env.frame) (fun _ s4 => wpAny (model X.prog X.w) X.A (throw (.ref a) : Sem Flow) (SP X pins D) X.xe s4) X.xe { s' with heap := h3 } := by
          rw [hf]
          refine HandSPX.setFlight_upZ fl3 fun h4 hh4 up4 => wpAny_throw (tk _ _ ?_)
          exact ⟨a, B, sI, pins, σ', H', cls, d, rfl, J, nb, (up.trans up3).trans up4, .inr (.inr (by rw [hs]; exact hh4)), na, os, ag, w⟩
        first
          | exact wpAny_bind (wpAny_pure (wpAny_bind fin))
          | exact wpAny_bind fin
      | @cons x n c i ts b₀ suite np pos' hds2 l2 hi hln hc hsu r ih =>
        intro w
        obtain ⟨b, hb1, hyes, hno⟩ := w
        refine wpAny_handleBy_cons (codeAny_handlers_test ?_) (by intro q; cases q)
        have LT : PySem.W.Looks (model X.prog X.w) h3 (typeOf (.ref a)) cls := fun A Q E s k q => wpAny_typeOf_ref (k _ _ he3) (by rw [hz3.1]; exact q)
        have LM := PySem.W.exm_one (M := model X.prog X.w) (J3.kIn) LT hb1
        have test : ∀ {Q : Value → Shared → Prop} {E : Value → Shared → Prop}, Q c { s' with heap := h3 } → wpAny (model X.prog X.w) (X.A.mark (some (.ref a))) (eval (.Name x np) X.env) Q E { s' with heap := h3 } := fun {Q E} q => by
          obtain ⟨hg, hdbg, hm | ⟨hm, hv, hnn⟩⟩ := hc
          · exact ld_glob (X := X.suite a ((a, oe3) :: (X.pn ++ pins))) S3 hg hm q hdbg
          · exact ld_blt (X := X.suite a ((a, oe3) :: (X.pn ++ pins))) S3 hg hm hv q hnn hdbg
        refine test (LM.here ?_)
        cases b with
        | true =>
          refine codeAny_handlers_suite_as ?_
          refine HandSPX.lands_againZ fl3 fun h4 fl4 up4 => ?_
          have J4 : Inv X pins σ' H' { s' with heap := h4 } := J.landed nb fl4.1 ((up.trans up3).trans up4) os ag
          obtain ⟨oe4, vs4, he4, hz4, hd4⟩ := fl4.there
          have S4 := J4.suite he4 hd4 na nL nF
          refine store_ok (X := X.suite a ((a, oe4) :: (X.pn ++ pins))) (v := .ref a) S4 hN hi (.inl hln) rfl (fun s5 S5 => ?_) (.inr hln)
          refine wpAny_mono ((hsu a oe4 cls d (X.pn ++ pins) hz4 ⟨_, hd4⟩).run [] s5 _ H' _ S5 (hyes rfl a na)) (fun f s6 hsp => ?_) (fun _ _ z => False.elim z)
          have end_ : ∀ {σ6 : St} {H6 : Hp} {Q : Shared → Prop}, Inv (X.suite a ((a, oe4) :: (X.pn ++ pins))) [] σ6 H6 s6 → (∀ s7, Inv X pins (σ6.set i none) H6 s7 → Q s7) →
              wpAny (model X.prog X.w) X.A (do bindName X.env n .none; unbindBehindTheSuite X.env n pos') (fun _ s7 => Q s7) X.xe s6 := fun {σ6 H6 Q} S6 hq => gone_ok (S6.unsuite ok) hN hi hln hq
          cases f with
          | next =>
            obtain ⟨σ6, H6, S6, q6⟩ := hsp
            exact end_ S6 fun s7 J7 => ⟨_, _, J7, q6⟩
          | brk =>
            obtain ⟨σ6, H6, S6, q6⟩ := hsp
            exact end_ S6 fun s7 J7 => ⟨_, _, J7, q6⟩
          | cont =>
            obtain ⟨σ6, H6, S6, q6⟩ := hsp
            exact end_ S6 fun s7 J7 => ⟨_, _, J7, q6⟩
          | ret u =>
            obtain ⟨v6, σ6, H6, S6, r6, q6⟩ := hsp
            exact end_ S6 fun s7 J7 => ⟨_, _, _, J7, r6, q6⟩
        | false =>
          show wpAny _ X.A (handleBy (.ref a) X.env hds2) _ _ _
          exact ih (hno rfl)
    exact go hh w
  · cases f with
    | next =>
      obtain ⟨σ', H', J', q⟩ := hsp
      exact wpAny_execs_nil ⟨σ', H', J'.ofTry ok, q⟩
    | brk =>
      obtain ⟨σ', H', J', q⟩ := hsp
      exact ⟨σ', H', J'.ofTry ok, q⟩
    | cont =>
      obtain ⟨σ', H', J', q⟩ := hsp
      exact ⟨σ', H', J'.ofTry ok, q⟩
    | ret u =>
      obtain ⟨v, σ', H', J', r, q⟩ := hsp
      exact ⟨v, σ', H', J'.ofTry ok, r, q⟩
end
end L2
end

section
namespace Pu
open PySem PySem.Spec PyProof.Rows L2

/-! ### try: .. except C: .. without a name -/
def tryExU (cat : Str → Option Bool) (s : Sx) (E : Fl) : Ex → En → Prop := fun e ρ => match cat e.name with
  | some true => s.wp ρ { E with ex := fun _ _ => False }
  | some false => E.ex e ρ
  | none => False
theorem tryExU_mono {cat : Str → Option Bool} {s : Sx} {E E' : Fl} (l : Fl.Le E E') (e : Ex) (ρ : En) (h : tryExU cat s E e ρ) : tryExU cat s E' e ρ := by
  unfold tryExU at h ⊢
  split
  · rename_i q
    rw [q] at h
    exact s.mono (E := { E with ex := fun _ _ => False }) ⟨l.nx, l.rt, l.bk, l.ct, fun _ _ z => z⟩ h
  · rename_i q
    rw [q] at h
    exact l.ex _ _ h
  · rename_i q
    rw [q] at h
    exact h
def sTryU (cat : Str → Option Bool) (b s : Sx) : Sx := ⟨fun ρ E => b.wp ρ { E with ex := tryExU cat s E }, fun {ρ E E'} l h => b.mono (E := { E with ex := tryExU cat s E }) ⟨l.nx, l.rt, l.bk, l.ct, fun e ρ q => tryExU_mono l e ρ q⟩ h⟩
section
variable {X : Cx} {G : Gc} {x : Ex → En → Prop}
theorem s_tryU {cn : Str} {c : Value} {body suite : List Stmt} {b₀ : Stmt} {np pos pos' : Pos} {cat : Str → Option Bool} {b s : Sx} (xo : XOk X G x) (hs : X.stack = X.env :: X.outer) (hf : X.env.frame = some X.env.locals)
    (hc : Names X cn c)
    (hcat : ∀ (nm : Str) (C : Addr), X.mg nm = some (.ref C) → (cat nm = some true → PySem.W.exmOne X.K (.ref C) c = some true) ∧ (cat nm = some false → PySem.W.exmOne X.K (.ref C) c = some false))
    (hb : ∀ (pn : List (Addr × Obj)) (xe : Value → Shared → Prop) (x' : Ex → En → Prop), XOk (X.tr pn xe) G x' → PassesOwn (model X.prog X.w) X.A X.env xe → PSs (X.tr pn xe) body (ts0 X.K G x' b))
    (hsu : ∀ (a : Addr) (oe : Obj) (pn : List (Addr × Obj)), PSs (X.suite a ((a, oe) :: pn)) (b₀ :: suite) (ts0 X.K G noEx s)) :
    PS X (.Try body [.ExceptHandler (some (.Name cn np)) none (b₀ :: suite) pos'] [] [] pos) (ts0 X.K G x (sTryU cat b s)) := by
  obtain ⟨Wx, tk, hW⟩ := xo.ex
  have big := ps_try_many (X := X) (body := body) (h₀ := .ExceptHandler (some (.Name cn np)) none (b₀ :: suite) pos') (hds := []) (l := [(c, fun _ _ _ => ts0 X.K G noEx s)]) (pos := pos)
    (tb := fun Wt D σ H => ∃ x' : Ex → En → Prop, (∀ (e : Ex) (ρ : En) (σ : L2.St) (pe : Pend) (H : Hp) (O : Addr → Option Tg) (C d : Addr), x' e ρ → StO X.K G O σ ρ pe H → X.mg e.name = some (.ref C) → XdAt X.K (Lof G O) H d e → Wt (.ref C) (some d) σ H) ∧ ts0 X.K G x' b D σ H)
    (Wout := Wx) hs hf tk (fun Wt pn xe tk' po => ⟨fun pins s1 σ H D I ⟨x', hx', q⟩ => (hb pn xe x' ⟨xo.so, Wt, tk', hx'⟩ po).run pins s1 σ H D I q⟩)
    (.cons hc (fun a oe cls d pn _ _ => hsu a oe pn) .nil)
  refine big.of fun D σ H ⟨ρ, S, q⟩ => ?_
  refine ⟨tryExU cat s (flOf X.K G x σ [] D), fun e ρ1 σ1 pe1 H1 O1 C d h S1 hC hd => ?_, ρ, S, q⟩
  unfold tryExU at h
  split at h
  · rename_i hcat'
    refine ⟨true, (hcat _ _ hC).1 hcat', fun _ a na => ⟨ρ1, ⟨_, S1.bare⟩, s.mono (E := { flOf X.K G x σ [] D with ex := fun _ _ => False }) ⟨fun _ z => z, fun _ _ z => z, fun _ z => z, fun _ z => z, fun _ _ z => z⟩ h⟩, fun z => Bool.noConfusion z⟩
  · rename_i hcat'
    exact ⟨false, (hcat _ _ hC).2 hcat', fun z => absurd z Bool.false_ne_true, fun _ => hW e ρ1 σ1 pe1 H1 O1 C d h S1 hC hd⟩
  · exact h.elim
end
end Pu
end

section
namespace Pu
open PySem PySem.Spec PyProof.Rows L2

/-! ### try: .. except C1 as n: .. except C2 as n: .. -/
def tryEx2 (cat : Str → Option (Option Bool)) (i : Nat) (s1 s2 : Sx) (E : Fl) : Ex → En → Prop := fun e ρ => match cat e.name with
  | some (some true) => NoExn ρ ∧ s1.wp (ρ.set i (some (.exn e.fld e.what))) (sufl i E)
  | some (some false) => NoExn ρ ∧ s2.wp (ρ.set i (some (.exn e.fld e.what))) (sufl i E)
  | some none => E.ex e ρ
  | none => False
theorem tryEx2_mono {cat : Str → Option (Option Bool)} {i : Nat} {s1 s2 : Sx} {E E' : Fl} (l : Fl.Le E E') (e : Ex) (ρ : En) (h : tryEx2 cat i s1 s2 E e ρ) : tryEx2 cat i s1 s2 E' e ρ := by
  unfold tryEx2 at h ⊢
  split
  · rename_i q
    rw [q] at h
    exact ⟨h.1, s1.mono (sufl_le l) h.2⟩
  · rename_i q
    rw [q] at h
    exact ⟨h.1, s2.mono (sufl_le l) h.2⟩
  · rename_i q
    rw [q] at h
    exact l.ex _ _ h
  · rename_i q
    rw [q] at h
    exact h
def sTry2 (cat : Str → Option (Option Bool)) (i : Nat) (b s1 s2 : Sx) : Sx := ⟨fun ρ E => b.wp ρ { E with ex := tryEx2 cat i s1 s2 E }, fun {ρ E E'} l h => b.mono (E := { E with ex := tryEx2 cat i s1 s2 E }) ⟨l.nx, l.rt, l.bk, l.ct, fun e ρ q => tryEx2_mono l e ρ q⟩ h⟩
section
variable {X : Cx} {G : Gc} {x : Ex → En → Prop}
theorem suite_in {i : Nat} {s : Sx} {D : Ends} {σ σ1 : L2.St} {ρ1 : En} {pe1 : Pend} {H1 : Hp} {O1 : Addr → Option Tg} {e : Ex} {a d : Addr} (S1 : StO X.K G O1 σ1 ρ1 pe1 H1) (hd : XdAt X.K (Lof G O1) H1 d e) (nex : NoExn ρ1)
    (h : s.wp (ρ1.set i (some (.exn e.fld e.what))) (sufl i (flOf X.K G x σ [] D))) : ts0 X.K { G with xa := some (a, d) } noEx s (offSlot D i) (σ1.set i (some (.ref a))) H1 := by
  obtain ⟨y, hdx, ry⟩ := hd
  have S2 := (S1.bare.exnOf nex (some (a, d))).forget i (some (.ref a))
  have S3 : StO X.K { G with xa := some (a, d) } (clr O1 (.slot i)) (σ1.set i (some (.ref a))) (ρ1.set i (some (.exn e.fld e.what))) [] H1 := by
    refine ⟨S2.frame, S2.own, S2.pools, by have := S1.len; simpa using this, fun j cc ej => ?_, trivial⟩
    rcases getset ej with ⟨e1, e2, hl⟩ | ⟨nj, ej⟩
    · subst e1
      cases e2
      exact ⟨.ref a, List.getElem?_set_self (by rw [← S1.len]; exact hl), a, d, y, rfl, rfl, hdx, Rep.mono (fun _ _ e _ => e) (fun _ _ _ z => lof_clr z) _ _ ry⟩
    · exact S2.slots j cc (by rw [List.getElem?_set_ne nj]; exact ej)
  refine ⟨_, ⟨_, S3⟩, s.mono (E := sufl i (flOf X.K G x σ [] D)) ⟨fun ρ2 q2 σ' H' ⟨O', S'⟩ => ?_, fun dv ρ2 q2 v σ' H' ⟨O', S'⟩ => ?_, fun ρ2 q2 σ' H' ⟨O', S'⟩ => ?_, fun ρ2 q2 σ' H' ⟨O', S'⟩ => ?_, fun _ _ z => z⟩ h⟩
  · exact q2.2 _ H' ⟨_, (S'.forget i none).exnTo q2.1⟩
  · refine q2.2 v σ' H' ⟨O', ?_⟩
    have S4 : StO X.K { G with xa := some (a, d) } O' σ' (ρ2.set i none) [] H' := S'.bare.weak (by have := S'.len; simpa using this) fun j cc ej => by
      rcases getset ej with ⟨_, e, _⟩ | ⟨_, e⟩
      · cases e
      · exact ⟨e, rfl⟩
    exact (S4.exnTo q2.1).pushD S'.top
  · exact q2.2 _ H' ⟨_, (S'.forget i none).exnTo q2.1⟩
  · exact q2.2 _ H' ⟨_, (S'.forget i none).exnTo q2.1⟩
/-- what a suite's derivation may use of its exception -/
def Suite (X : Cx) (G : Gc) (fld : Str) (st : List Stmt) (s : Sx) : Prop := ∀ (a dd C : Addr) (oe : Obj) (pn : List (Addr × Obj)), XfC X.K C → PySem.W.findIn X.K (.ref C) fld = some none → Zc (.ref C) (some dd) oe → (∃ vs, oe.data = .fields vs) →
  PSs (X.suite a ((a, oe) :: pn)) st (ts0 X.K { G with xa := some (a, dd) } noEx s)
theorem s_try2 {cn cn' n : Str} {c c' : Value} {i : Nat} {body suite suite' : List Stmt} {b₀ b₀' : Stmt} {np np' pos pos' pos'' : Pos} {cat : Str → Option (Option Bool)} {fld : Str} {b s s' : Sx} (xo : XOk X G x) (hs : X.stack = X.env :: X.outer) (hf : X.env.frame = some X.env.locals) (hN : X.N.Nodup) (hi : X.N[i]? = some n)
    (hln : X.env.kindOf n = some .local) (hc : Names X cn c) (hc' : Names X cn' c')
    (hcat : ∀ (nm : Str) (C : Addr), X.mg nm = some (.ref C) → (cat nm = some (some true) → XfC X.K C ∧ PySem.W.findIn X.K (.ref C) fld = some none ∧ PySem.W.exmOne X.K (.ref C) c = some true) ∧
      (cat nm = some (some false) → XfC X.K C ∧ PySem.W.findIn X.K (.ref C) fld = some none ∧ PySem.W.exmOne X.K (.ref C) c = some false ∧ PySem.W.exmOne X.K (.ref C) c' = some true) ∧
      (cat nm = some none → PySem.W.exmOne X.K (.ref C) c = some false ∧ PySem.W.exmOne X.K (.ref C) c' = some false))
    (hb : ∀ (pn : List (Addr × Obj)) (xe : Value → Shared → Prop) (x' : Ex → En → Prop), XOk (X.tr pn xe) G x' → PassesOwn (model X.prog X.w) X.A X.env xe → PSs (X.tr pn xe) body (ts0 X.K G x' b))
    (hsu : Suite X G fld (b₀ :: suite) s) (hsu' : Suite X G fld (b₀' :: suite') s') :
    PS X (.Try body [.ExceptHandler (some (.Name cn np)) (some n) (b₀ :: suite) pos', .ExceptHandler (some (.Name cn' np')) (some n) (b₀' :: suite') pos''] [] [] pos) (ts0 X.K G x (sTry2 cat i b s s')) := by
  obtain ⟨Wx, tk, hW⟩ := xo.ex
  let T : Sx → Addr → Value → Option Addr → TS := fun s a cls d D σ H => ∃ C dd, cls = .ref C ∧ d = some dd ∧ XfC X.K C ∧ PySem.W.findIn X.K (.ref C) fld = some none ∧ ts0 X.K { G with xa := some (a, dd) } noEx s D σ H
  have big := ps_try_named (X := X) (body := body) (h₀ := .ExceptHandler (some (.Name cn np)) (some n) (b₀ :: suite) pos') (hds := [.ExceptHandler (some (.Name cn' np')) (some n) (b₀' :: suite') pos'']) (l := [(c, i, T s), (c', i, T s')]) (pos := pos)
    (tb := fun Wt D σ H => ∃ x' : Ex → En → Prop, (∀ (e : Ex) (ρ : En) (σ : L2.St) (pe : Pend) (H : Hp) (O : Addr → Option Tg) (C d : Addr), x' e ρ → StO X.K G O σ ρ pe H → X.mg e.name = some (.ref C) → XdAt X.K (Lof G O) H d e → Wt (.ref C) (some d) σ H) ∧ ts0 X.K G x' b D σ H)
    (Wout := Wx) hs hf hN tk (fun Wt pn xe tk' po => ⟨fun pins s1 σ H D I ⟨x', hx', q⟩ => (hb pn xe x' ⟨xo.so, Wt, tk', hx'⟩ po).run pins s1 σ H D I q⟩)
    (.cons hi hln hc (fun a oe cls d pn hz hfi => ⟨fun pins s1 σ H D I ⟨C, dd, ec, ed, T, hno, q⟩ => by
      subst ec
      subst ed
      exact (hsu a dd C oe pn T hno hz hfi).run pins s1 σ H D I q⟩)
    (.cons hi hln hc' (fun a oe cls d pn hz hfi => ⟨fun pins s1 σ H D I ⟨C, dd, ec, ed, T, hno, q⟩ => by
      subst ec
      subst ed
      exact (hsu' a dd C oe pn T hno hz hfi).run pins s1 σ H D I q⟩) .nil))
  refine big.of fun D σ H ⟨ρ, S, q⟩ => ?_
  refine ⟨tryEx2 cat i s s' (flOf X.K G x σ [] D), fun e ρ1 σ1 pe1 H1 O1 C d h S1 hC hd => ?_, ρ, S, q⟩
  unfold tryEx2 at h
  split at h
  · rename_i hk
    obtain ⟨nex, h⟩ := h
    obtain ⟨t1, hno, hex⟩ := (hcat _ _ hC).1 hk
    exact ⟨true, hex, fun _ a na => ⟨C, d, rfl, rfl, t1, hno, suite_in S1 hd nex h⟩, fun z => Bool.noConfusion z⟩
  · rename_i hk
    obtain ⟨nex, h⟩ := h
    obtain ⟨t1, hno, hex, hex'⟩ := (hcat _ _ hC).2.1 hk
    exact ⟨false, hex, fun z => absurd z Bool.false_ne_true, fun _ => ⟨true, hex', fun _ a na => ⟨C, d, rfl, rfl, t1, hno, suite_in S1 hd nex h⟩, fun z => Bool.noConfusion z⟩⟩
  · rename_i hk
    obtain ⟨hex, hex'⟩ := (hcat _ _ hC).2.2 hk
    exact ⟨false, hex, fun z => absurd z Bool.false_ne_true, fun _ => ⟨false, hex', fun z => absurd z Bool.false_ne_true, fun _ => hW e ρ1 σ1 pe1 H1 O1 C d h S1 hC hd⟩⟩
  · exact h.elim
end
end Pu
end

section
namespace Pu
open PySem PySem.Spec PyProof.Rows L2

/-! ### min, max of a list of ints -/
def leastI : List Int → Option Int
  | [] => none
  | [n] => some n
  | n :: r => (leastI r).map fun m => if m < n then m else n
def mostI : List Int → Option Int
  | [] => none
  | [n] => some n
  | n :: r => (mostI r).map fun m => if n < m then m else n
theorem leastI_ok : ∀ {ns : List Int} {m : Int}, leastI ns = some m → m ∈ ns ∧ ∀ y ∈ ns, m ≤ y
  | [], m, e => by cases e
  | [n], m, e => by
    cases e
    simp
  | n :: k :: r, m, e => by
    simp only [leastI, Option.map_eq_some_iff] at e
    obtain ⟨m', e, rfl⟩ := e
    obtain ⟨h1, h2⟩ := leastI_ok (ns := k :: r) (m := m') e
    by_cases h : m' < n
    · rw [if_pos h]
      refine ⟨List.mem_cons_of_mem _ h1, fun y hy => ?_⟩
      rcases List.mem_cons.mp hy with rfl | hy
      · omega
      · exact h2 y hy
    · rw [if_neg h]
      refine ⟨List.mem_cons_self, fun y hy => ?_⟩
      rcases List.mem_cons.mp hy with rfl | hy
      · omega
      · have := h2 y hy
        omega
theorem mostI_ok : ∀ {ns : List Int} {m : Int}, mostI ns = some m → m ∈ ns ∧ ∀ y ∈ ns, y ≤ m
  | [], m, e => by cases e
  | [n], m, e => by
    cases e
    simp
  | n :: k :: r, m, e => by
    simp only [mostI, Option.map_eq_some_iff] at e
    obtain ⟨m', e, rfl⟩ := e
    obtain ⟨h1, h2⟩ := mostI_ok (ns := k :: r) (m := m') e
    by_cases h : n < m'
    · rw [if_pos h]
      refine ⟨List.mem_cons_of_mem _ h1, fun y hy => ?_⟩
      rcases List.mem_cons.mp hy with rfl | hy
      · omega
      · exact h2 y hy
    · rw [if_neg h]
      refine ⟨List.mem_cons_self, fun y hy => ?_⟩
      rcases List.mem_cons.mp hy with rfl | hy
      · omega
      · have := h2 y hy
        omega
def dMin : List Da → Option Da
  | [.lst ds] => (intL ds).bind fun ns => (leastI ns).map Da.int
  | _ => none
def dMax : List Da → Option Da
  | [.lst ds] => (intL ds).bind fun ns => (mostI ns).map Da.int
  | _ => none
section
variable {K : PySem.W.Frag}
theorem f_min : OpN K (rMin K) dMin := by
  intro L H ds d vs Q r e q
  unfold dMin at e
  split at e
  · obtain ⟨v, rfl, rv⟩ := reps1 r
    simp only [Option.bind_eq_some_iff, Option.map_eq_some_iff] at e
    obtain ⟨ns, hb, m, hm, rfl⟩ := e
    obtain ⟨p, xs, e1, hq, z, rs⟩ := rep_lst.mp rv
    subst e1
    rw [intL_rep hb rs] at hq
    obtain ⟨h1, h2⟩ := leastI_ok hm
    refine ⟨p, ns, rfl, .of hq.1, List.length_pos_of_mem h1, fun m' k1 k2 => ?_⟩
    have e2 : m' = m := Int.le_antisymm (k2 m h1) (h2 m' k1)
    subst e2
    exact q _ H same_ok (rep_int.mpr rfl)
  · cases e
theorem f_max : OpN K (rMax K) dMax := by
  intro L H ds d vs Q r e q
  unfold dMax at e
  split at e
  · obtain ⟨v, rfl, rv⟩ := reps1 r
    simp only [Option.bind_eq_some_iff, Option.map_eq_some_iff] at e
    obtain ⟨ns, hb, m, hm, rfl⟩ := e
    obtain ⟨p, xs, e1, hq, z, rs⟩ := rep_lst.mp rv
    subst e1
    rw [intL_rep hb rs] at hq
    obtain ⟨h1, h2⟩ := mostI_ok hm
    refine ⟨p, ns, rfl, .of hq.1, List.length_pos_of_mem h1, fun m' k1 k2 => ?_⟩
    have e2 : m' = m := Int.le_antisymm (h2 m' k1) (k2 m h1)
    subst e2
    exact q _ H same_ok (rep_int.mpr rfl)
  · cases e
end
end Pu
end

section
namespace Pu
open PySem PySem.Spec PyProof.Rows L2

/-! ### tuple * int, two times or more -/
def dRepT : Da → Da → Option Da
  | .tup ds, .int k => if 0 < ds.length ∧ 2 ≤ k ∧ k ≤ 1000 ∧ ds.length ≤ 1000 then some (.tup (List.replicate k.toNat ds).flatten) else none
  | _, _ => none
theorem reps_rep {K : PySem.W.Frag} {L : Addr → Prop} {H : Hp} {ds : List Da} {vs : List V} (r : Reps K L H ds vs) : ∀ n : Nat, Reps K L H (List.replicate n ds).flatten (List.replicate n vs).flatten
  | 0 => by simp [Reps]
  | n + 1 => by
    rw [List.replicate_succ, List.replicate_succ, List.flatten_cons, List.flatten_cons]
    exact r.app (reps_rep r n)
theorem f_repT {K : PySem.W.Frag} : Op2 K (rRepT K) dRepT := by
  intro L H dx dy d a b Q ra rb e q
  unfold dRepT at e
  split at e
  · rename_i ds k
    split at e
    · rename_i h
      cases e
      obtain ⟨h0, h1, h2, h3⟩ := h
      obtain ⟨p, us, e1, hs, z, r⟩ := rep_tup.mp ra
      have l := r.length
      refine ⟨p, k, us, e1, rep_int.mp rb, hs, fun c => by rw [c] at l; simp at l; omega, h1, h2, by omega, fun t nt => q _ _ (keep_upd nt) (rep_newT nt ?_ (reps_rep r _))⟩
      have hl : (List.replicate k.toNat ds).flatten.length = k.toNat * ds.length := by simp
      rw [hl, line_eq]
      have : k.toNat * ds.length ≤ 1000 * 1000 := Nat.mul_le_mul (by omega) h3
      omega
    · cases e
  · cases e
end Pu
end

section
set_option maxHeartbeats 4000000
/-! tuple * 1; tuple[::-1] -/
namespace TupX
open PySem PySem.Spec PyProof.Rows L2 HT

theorem tuple_mul1 (l : Addr) (items : Array Value) (n : Nat) (dd : Option Addr) (sl : Array (Option Value)) (u : Tok) :
    Meets (Builtin.«tuple.__mul__» ⟨[.ref l, .int 1 u], []⟩) (fun _ R s => s.heap.get? l = some { cls := .type "tuple", dict := dd, data := .seq items n, slots := sl } ∧ R (.ok (.ret (Value.ref l))) s) :=
  .of_wp fun prog w A R s h => by
    obtain ⟨hp, g, d, tk, os⟩ := s
    obtain ⟨hl, h⟩ := h
    have f1 := AutoSeq1.idx_int
    wp_walk using wpAny_loadPart' hl
    repeat (first
      | (refine wpAny_ite_true (decide_eq_true (by simp)) ?_; wp_walk using wpAny_loadPart' hl)
      | (refine wpAny_ite_false (decide_eq_false (by simp)) ?_; wp_walk using wpAny_loadPart' hl))
    exact ⟨_, rfl, h⟩
def rOnceT (K : PySem.W.Frag) : R2 := fun x y H Q => ∃ l xs, x = .ref l ∧ y = .int 1 ∧ SqT K H l xs ∧ Q (.ref l) H
section
variable {X : Cx}
theorem op_onceT : OpR X (binaryOp .Mult) (rOnceT X.K) := by
  intro pins s σ H x y v u Q I rx ry h
  obtain ⟨l, xs, rfl, rfl, hT, q⟩ := h
  cases rx
  obtain ⟨t, rfl⟩ := ry
  obtain ⟨its, r, ⟨⟨cls, dd, data, sl⟩, ho, hc, n, hd⟩, hs⟩ := I.tuple hT
  simp only at hc hd
  subst hc hd
  refine wpAny_binaryOp_repeat_ref (T := "tuple") (U := "int") (by decide) ⟨_, ho, rfl⟩ (fun s' => typeIs_int s' 1 t) noFill_tuple_mul F.fills_int_mul F.slot_int_rmul repeat_tuple F.slot_int_index.lookup
    (call_meets F.slot_int_rmul (typeIs_int s 1 t) F.entry_int_rmul (F.args_int_rmul_2 _ _) (int_rmul_tuple 1 t l its.toArray n dd sl)
      ⟨ho, rfl, ⟨_, ho, rfl⟩, call_meets F.slot_tuple_mul ⟨_, ho, rfl⟩ F.entry_tuple_mul (F.args_tuple_mul_2 _ _) (tuple_mul1 l its.toArray n dd sl t) ⟨ho, ?_⟩⟩)
  exact ⟨.ref l, H, I, rfl, q⟩
end
section
variable {prog : Program} {w : World} {A : Around} {E : Value → Shared → Prop} {s : Shared}
theorem applied_rev {sl : Addr} {vs : Value} {n : Nat} {Q : Int × Int × Nat → Shared → Prop} (hs : s.heap.IsSliceOf sl .none .none vs) (ps : IsPart vs (some (-1)))
    (h : Q (((n : Int) - 1), -1, n) s) : wpAny (model prog w) A (Builtin.Slice.sliceApplied (.ref sl) (pure (n : Int))) Q E s := by
  obtain ⟨os, hos, hcs, hds⟩ := id hs
  unfold Builtin.Slice.sliceApplied Builtin.Slice.sliceFields
  refine wpAny_bind (wpAny_bind (wpAny_field hos hds (x := .none) rfl (wpAny_bind (wpAny_field hos hds (x := .none) rfl (wpAny_bind (wpAny_field hos hds (x := vs) rfl (wpAny_pure ?_)))))))
  refine wpAny_bind (slicePart_ ps ?_)
  show wpAny _ _ (if ((-1 : Int) == 0) = true then _ else _) _ _ s
  rw [if_neg (by decide)]
  refine wpAny_bind (slicePart_none (wpAny_bind (slicePart_none (wpAny_bind (wpAny_pure ?_)))))
  have ep : Builtin.Slice.slicePlaces ((n : Int) - 1) (-1) (-1) = n := by
    unfold Builtin.Slice.slicePlaces
    have h1 : ¬ ((-1 : Int) > 0) := by decide
    rw [if_neg h1]
    by_cases h : (n : Int) - 1 > -1
    · rw [if_pos h]
      have e : ((n : Int) - 1 - -1 - 1) / (- -1) + 1 = (n : Int) := by
        rw [show (- -1 : Int) = 1 by decide, Int.ediv_one]
        omega
      rw [e, Int.toNat_natCast]
    · rw [if_neg h]
      show 0 = n
      omega
  show wpAny _ _ (pure (((n : Int) - 1), (-1 : Int), Builtin.Slice.slicePlaces ((n : Int) - 1) (-1) (-1))) _ _ s
  rw [ep]
  exact wpAny_pure h
theorem fm_congr {β : Type} {f g : Nat → Option β} : ∀ {l : List Nat}, (∀ x ∈ l, f x = g x) → l.filterMap f = l.filterMap g
  | [], _ => rfl
  | a :: l, h => by
    rw [List.filterMap_cons, List.filterMap_cons, h a List.mem_cons_self, fm_congr fun x hx => h x (List.mem_cons_of_mem _ hx)]
theorem pick_rev (xs : Array Value) : ((List.range xs.size).filterMap fun (m : Nat) => xs[(((xs.size : Int) - 1) + (m : Int) * -1).toNat]?).toArray = xs.toList.reverse.toArray := by
  have e : ((List.range xs.size).filterMap fun (m : Nat) => xs[(((xs.size : Int) - 1) + (m : Int) * -1).toNat]?) = ((List.range xs.size).map fun k => xs.size - 1 - k).filterMap (xs[·]?) := by
    rw [List.filterMap_map]
    refine fm_congr fun m hm => ?_
    have := List.mem_range.mp hm
    show xs[_]? = xs[xs.size - 1 - m]?
    rw [show (((xs.size : Int) - 1) + (m : Int) * -1).toNat = xs.size - 1 - m by omega]
  rw [e, PySem.W.krv_range, List.filterMap_reverse, PySem.W.krv_all]
theorem getItem_tuple_rev {t sl : Addr} {items : Array Value} {vs : Value} {Q : Value → Shared → Prop} (ht : IsTup s.heap t items) (hs : s.heap.IsSliceOf sl .none .none vs) (ps : IsPart vs (some (-1)))
    (h : Q (.ref s.heap.objs.size) { s with heap := s.heap.push { cls := .type "tuple", data := .seq items.toList.reverse.toArray } })
    (hsz : items.size ≤ sizeLine) : wpAny (model prog w) A (getItem (.ref t) (.ref sl)) Q E s := by
  have htake : sizeOk (.seq items.toList.reverse.toArray) := by
    show items.toList.reverse.toArray.size ≤ sizeLine
    rw [List.size_toArray, List.length_reverse, Array.length_toList]
    omega
  obtain ⟨os, hos, hcs, hds⟩ := id hs
  have hTs : s.TypeIs (.ref sl) "slice" := ⟨os, hos, hcs⟩
  unfold getItem
  try with_reducible refine wpAny_holding ?_
  first | refine wpAny_bind (wpAny_pure ?_) | skip
  refine wpAny_bind (wpAny_sequenceKey ht.typeIs (by decide) ?_)
  refine wpAny_bind (wpAny_callSpecial?_slot (name := Str.ofString "__getitem__") ht.typeIs PyProof.Rows.slot_tuple_getitem
    (wpAny_call_entry PyProof.Rows.slot_tuple_getitem ht.typeIs entry_tuple_getitem ?_ (args_tuple_getitem _ _)))
  show wpAny _ _ (Builtin.Tuple.tupleItemsOf (.ref t) >>= _) _ _ s
  refine wpAny_bind (tupleItemsOf_ ht ?_)
  refine wpAny_bind (wpAny_typeOf hTs ?_)
  rw [if_pos (by decide)]
  refine wpAny_bind (applied_rev hs ps ?_)
  have hno : ¬ ((((items.size : Int) - 1) == 0 && (-1 : Int) == 1 && items.size == items.size) = true) := by
    intro q
    rw [Bool.and_eq_true, Bool.and_eq_true] at q
    exact absurd q.1.2 (by decide)
  show wpAny _ _ (if (((items.size : Int) - 1) == 0 && (-1 : Int) == 1 && items.size == items.size) = true then _ else _) _ _ s
  rw [if_neg hno, pick_rev]
  first
    | exact wpAny_bind (m := Builtin.Tuple.tupleExact _) (wpAny_newObj_type (wpAny_pure ⟨_, rfl, wpAny_pure h⟩) htake)
    | exact wpAny_bind (m := Builtin.Tuple.tupleExact _) (wpAny_newObj_type (wpAny_bind (wpAny_pure (wpAny_pure ⟨_, rfl, wpAny_pure h⟩))) htake)
    | exact wpAny_bind (wpAny_bind (m := Builtin.Tuple.tupleExact _) (wpAny_newObj_type (wpAny_pure (wpAny_pure ⟨_, rfl, wpAny_pure h⟩)) htake))
    | exact wpAny_bind (wpAny_bind (m := Builtin.Tuple.tupleExact _) (wpAny_newObj_type (wpAny_pure ⟨_, rfl, wpAny_pure h⟩) htake))
end
/-! t[::-1] -/
def tRevT (K : PySem.W.Frag) (te : TE) : TE := fun σ H Q => te σ H fun x H1 => ∃ a xs, x = .ref a ∧ SqT K H1 a xs ∧ ∀ p, H1 p = none → Q (.ref p) (upd H1 p (.tup xs.reverse))
section
variable {X : Cx}
theorem pe_revT {e : Expr} {te : TE} {k : Nat} {p1 p2 p3 pos : Pos} (he : PE X e te) : PE X (.Subscript e (.Slice none none (some (.UnaryOp .USub (.Constant (.int 1) k p1) p2)) p3) pos) (tRevT X.K te) := by
  refine ⟨fun pins s σ H Q I h => ?_⟩
  refine Subscript_ (thn (he.run pins s σ H _ I h) fun v s1 ⟨x, H1, I1, r1, q1⟩ => ?_)
  obtain ⟨a, xs, ex, hx, q⟩ := q1
  subst ex
  cases r1
  have hst : PO X (some (.UnaryOp .USub (.Constant (.int 1) k p1) p2)) (tPart (tUn (rU fun i => .int (-i)) (tC (.int 1)))) := po_some (pe_un un_neg pe_int)
  refine wpAny_Slice ?_
  rw [evalPart_none]
  refine wpAny_pure ?_
  refine wpAny_pure ?_
  refine thn (hst.run pins s1 σ H1 (fun o H4 => o = some (-1) ∧ H4 = H1) I1 ⟨1, rfl, -1, rfl, rfl, rfl⟩) fun vs s4 ⟨o, H4, I4, ps, eo, e4⟩ => ?_
  subst eo e4
  have I5 : Inv X pins σ H4 { s4 with heap := s4.heap.push { cls := .type "slice", data := .fields #[.none, .none, vs] } } := I4.kept (t' := s4.toks) fun b ob q => Heap.get?_push_of_some _ q
  obtain ⟨its, r, ht, hz⟩ := I5.tuple hx
  have hlen := r.length
  show wpAny (model X.prog X.w) X.A (subscriptTail e (.Slice none none (some (.UnaryOp .USub (.Constant (.int 1) k p1) p2)) p3) (.ref a) (.ref s4.heap.objs.size)) (EP X pins σ Q) X.xe { s4 with heap := s4.heap.push { cls := .type "slice", data := .fields #[.none, .none, vs] } }
  refine tail_any (ops := [.ref a, .ref s4.heap.objs.size]) ht.typeIs (PyProof.Rows.slot_tuple_getitem.lookup) ?_ (by with_unfolding_all rfl)
  refine getItem_tuple_rev ht (Heap.IsSliceOf.new _ .none .none vs) ps ?_ (by rw [List.size_toArray]; omega)
  refine ⟨.ref _, _, I5.laid (t' := s4.toks) (o := .tup xs.reverse) (fun b ob q => Heap.get?_push_of_some _ q) (Nat.le_refl _) ?_, rfl, q _ (I5.hok.fresh (Nat.le_refl _))⟩
  exact ⟨by rw [List.length_reverse]; exact hz, _, r.reverse, IsTup.new _ _⟩
end
end TupX
end

section
namespace Pu
open PySem PySem.Spec PyProof.Rows L2

/-! ### a * b: a tuple times an int from 1 on, a list times an int, ints -/
def rMulA (K : PySem.W.Frag) : R2 := fun x y H Q => ((rRepT K x y H Q ∨ TupX.rOnceT K x y H Q) ∨ rRep x y H Q) ∨ rI CMul (fun i j => .int (i * j)) x y H Q
theorem op_mulA {X : Cx} : OpR X (binaryOp .Mult) (rMulA X.K) := ((op_repT.or TupX.op_onceT).or op_rep).or op_mul
def dMulA : Da → Da → Option Da
  | .tup ds, .int k => if 0 < ds.length ∧ 1 ≤ k ∧ k ≤ 1000 ∧ ds.length ≤ 1000 then some (.tup (List.replicate k.toNat ds).flatten) else none
  | .lst ds, .int k => if 1 ≤ k ∧ k ≤ 1000 ∧ ds.length ≤ 1000 then some (.lst (List.replicate k.toNat ds).flatten) else none
  | .int i, .int j => if CMul i j then some (.int (i * j)) else none
  | _, _ => none
theorem f_mulA {K : PySem.W.Frag} : Op2 K (rMulA K) dMulA := by
  intro L H dx dy d a b Q ra rb e q
  unfold dMulA at e
  split at e
  · rename_i ds k
    split at e
    · rename_i h
      obtain ⟨h0, h1, h2, h3⟩ := h
      by_cases hk : k = 1
      · subst hk
        have e' : d = .tup ds := by
          cases e
          simp
        subst e'
        obtain ⟨p, us, e1, hs, z, r⟩ := rep_tup.mp ra
        exact .inl (.inl (.inr ⟨p, us, e1, rep_int.mp rb, hs, by rw [← e1]; exact q _ H same_ok ra.or⟩))
      · refine .inl (.inl (.inl (f_repT L H (.tup ds) (.int k) d a b Q ra rb ?_ q)))
        show (if _ then _ else _) = _
        rw [if_pos ⟨h0, by omega, h2, h3⟩]
        exact e
    · cases e
  · rename_i ds k
    split at e
    · rename_i h
      cases e
      obtain ⟨h1, h2, h3⟩ := h
      obtain ⟨p, us, e1, hs, z, r⟩ := rep_lst.mp ra
      have l := r.length
      have hm : k.toNat * ds.length ≤ 1000 * 1000 := Nat.mul_le_mul (by omega) h3
      refine .inl (.inr ⟨p, k, us, e1, rep_int.mp rb, hs.1, by omega, by omega, ?_, fun t nt => q _ _ (keep_upd nt) (rep_newL nt ?_ (reps_rep r _))⟩)
      · rw [line_eq, l, Nat.mul_comm]
        omega
      · have hl : (List.replicate k.toNat ds).flatten.length = k.toNat * ds.length := by simp
        rw [hl, line_eq]
        omega
    · cases e
  · split at e
    · cases e
      exact .inr ⟨_, _, rep_int.mp ra, rep_int.mp rb, by assumption, q _ H same_ok (rep_int.mpr rfl)⟩
    · cases e
  · cases e

/-! ### t[::-1], t a tuple -/
theorem reps_rev {K : PySem.W.Frag} {L : Addr → Prop} {H : Hp} : ∀ {ds : List Da} {vs : List V}, Reps K L H ds vs → Reps K L H ds.reverse vs.reverse
  | [], vs, r => by simp only [Reps] at r; subst r; simp [Reps]
  | d :: ds, vs, r => by
    simp only [Reps] at r
    obtain ⟨x, ys, e, r1, r2⟩ := r
    subst e
    rw [List.reverse_cons, List.reverse_cons]
    exact (reps_rev r2).snoc r1
def eRevT (m : W Da) : W Da := m.bind fun d => (W.opt (asT d)).bind fun ds => W.ret (.tup ds.reverse)
section
variable {X : Cx} {G : Gc} {x : Ex → En → Prop}
theorem p_revT {e : Expr} {k : Nat} {p1 p2 p3 pos : Pos} {m : W Da} (he : PE X e (tp X.K G x m)) : PE X (.Subscript e (.Slice none none (some (.UnaryOp .USub (.Constant (.int 1) k p1) p2)) p3) pos) (tp X.K G x (eRevT m)) :=
  (TupX.pe_revT he).of fun σ H Q ⟨ρ, pe, S, q⟩ => ⟨ρ, pe, S, m.mono (fun d ρ1 q v H1 ⟨O, S1⟩ => by
    obtain ⟨ds, e1, q⟩ := W.opt_wp q
    have ed := of_asT e1
    obtain ⟨a, us, ev, hs, z, r⟩ := rep_tup.mp (ed ▸ S1.top)
    refine ⟨a, us, ev, hs, fun p np => q _ _ ⟨O, S1.pop.result (keep_upd np) (rep_newT np (by rw [List.length_reverse]; exact z) (reps_rev r))⟩⟩) (fun _ _ z => z) q⟩

/-! ### a == b of two objects, as a condition -/
theorem tpObj {k : Nat} {f C : Addr} {fd : FuncData} {ps : List Str} {F : Fn} {ma mb : W Da} {σ : L2.St} {H : Hp} {Q : VK} (q : tp X.K G x (eObjEq C F ma mb) σ H Q) :
    tOp (rObjEq C (spD X.K X.mg 2 F)) (tp X.K G x ma) (tp X.K G x mb) σ H Q := by
  obtain ⟨ρ, pe, S, q⟩ := q
  refine ⟨ρ, pe, S, ma.mono (fun d ρ1 q v H1 S1 => ⟨ρ1, _, S1, mb.mono (fun e ρ2 q w H2 ⟨O, S2⟩ => ?_) (fun _ _ z => z) q⟩) (fun _ _ z => z) q⟩
  obtain ⟨⟨h1, h2⟩, q⟩ := q
  obtain ⟨ns, xs, rfl⟩ := of_isObj h1
  obtain ⟨ms, ys, rfl⟩ := of_isObj h2
  obtain ⟨a', dx, fs, rfl, ⟨ha, _⟩, _⟩ := rep_obj.mp S2.pop.top
  obtain ⟨b', dy, gs, rfl, ⟨hb', _⟩, _⟩ := rep_obj.mp S2.top
  refine ⟨a', b', dx, dy, fs, gs, rfl, rfl, ha, hb', Lof G O, [.obj C ns xs, .obj C ms ys], rfl, ?_, F.mono (fun r q v H' kk rr => ?_) (fun _ z => z.elim) q⟩
  · simp only [Reps]
    exact ⟨_, _, rfl, S2.pop.top, _, _, rfl, S2.top, rfl⟩
  · obtain ⟨⟨t, rfl⟩, q⟩ := q
    have := rep_bl'.mp rr
    exact ⟨t, this, q v H' ⟨O, S2.pop.pop.result kk rr⟩⟩
theorem t_objEq {k : Nat} {f C : Addr} {fd : FuncData} {ps : List Str} {F : Fn} {a b : Expr} {pos : Pos} {ma mb : W Da} (fo : FnOk X.prog X.w X.K X.mg X.base (L2.CX X.prog X.w) k f fd ps (spD X.K X.mg 2 F)) (hr : Room k X.A) (hs : PySem.W.findIn X.K (.ref C) "__eq__" = some (some (.ref f))) (hf : PySem.W.isFn X.K (.ref f) = true) (hb : Binds X.K fd ps [])
    (pa : PE X a (tp X.K G x ma)) (pb : PE X b (tp X.K G x mb)) (hm : behindInMarks .Eq b = false) : PT X (.Compare a [.Eq] [b] pos) (ttt X.K G x (bV (eObjEq C F ma mb))) :=
  (pt_cmpR (op_objEq (C := C) fo hr hs hf hb) pa pb hm).of fun _ _ _ q => tpObj (k := k) (f := f) (fd := fd) (ps := ps) (ttt_tB q)

/-! ### len(x), x a list of our own in slot i -/
theorem p_lenOwn {i : Nat} {a : Expr} {p pos : Pos} (hg : Gl X "len") (hm : X.mg "len" = none) (ha : PE X a (tVar i)) (hs : starEach [a] X.env = (false, eval a X.env) :: starEach [] X.env := by rfl) (hpl : (backTo pos (starEach [] X.env)).any (·.1) = false := by rfl) :
    PE X (.Call (.Name "len" p) [a] [] pos) (tp X.K G x (eLenO i)) :=
  (pe_callB (c_len (X := X)) hg hm rfl (pa_cons ha pa_nil hs) (by decide) (by decide) hs hpl).of fun σ H Q ⟨ρ, pe, ⟨O, S⟩, q⟩ => by
    obtain ⟨ds, e, q⟩ := W.opt_wp q
    obtain ⟨q', hp⟩ := own_slot S (by rw [e]; rfl)
    obtain ⟨xs, op, h, z, rs, np⟩ := own_at S hp e
    exact ⟨.ref q', hp, .inl ⟨q', xs, rfl, .inl (.inl (.inl h)), q _ _ ⟨O, S.pushD (rep_int.mpr (by rw [rs.length]))⟩⟩⟩

/-! ### a, b = x, y with two plain names -/
def sPar (i j : Nat) (m : W (List Da)) : Sx := ⟨fun ρ E => m.wp ρ (fun ds ρ1 => ∃ d e, ds = [d, e] ∧ E.nx ((ρ1.set i (some (.dat d))).set j (some (.dat e)))) E.ex, fun l h => m.mono (fun ds ρ1 ⟨d, e, h1, q⟩ => ⟨d, e, h1, l.nx _ q⟩) l.ex h⟩
theorem s_par {i j : Nat} {n n' : Str} {a b : Expr} {px py pt pos : Pos} {kt k2 pt2} {m : W (List Da)} (hc : X.calm = true) (hN : X.N.Nodup) (hi : X.N[i]? = some n) (hj : X.N[j]? = some n') (hij : i ≠ j)
    (hx : X.env.scope.names.lookup n = some .local) (hy : X.env.scope.names.lookup n' = some .local) (ha : PA X [a, b] (tar X.K G x m))
    (hw : swappedStores [.Tuple [.Name n px, .Name n' py] kt pt] (.Tuple [a, b] k2 pt2) X.env = pure (some [n, n']))
    (hs : swapsWithSole [.Tuple [.Name n px, .Name n' py] kt pt] (.Tuple [a, b] k2 pt2) pos.line X.env = pure false := by rfl) :
    PS X (.Assign [.Tuple [.Name n px, .Name n' py] kt pt] (.Tuple [a, b] k2 pt2) pos) (ts X.K G x (sPar i j m)) :=
  (ps_par hc hN hi hj hij hx hy ha hw hs).of fun D σ H ⟨ρ, pe, S, q⟩ => ⟨ρ, pe, S, m.mono (fun ds ρ1 ⟨d, e, ed, q⟩ vs H1 l ⟨O, S1⟩ => by
    subst ed
    obtain ⟨v, w, rfl⟩ : ∃ v w, vs = [v, w] := by
      match vs, l with
      | [v, w], _ => exact ⟨v, w, rfl⟩
    refine ⟨v, w, rfl, ?_⟩
    have S2 : StO X.K G O σ ρ1 ((w, .dat e) :: (v, .dat d) :: pe) H1 := S1
    have S3 := S2.store j
    have S4 := S3.store i
    rw [List.set_comm _ _ (Ne.symm hij), List.set_comm _ _ (Ne.symm hij)] at S4
    exact q _ _ ⟨_, S4⟩) (fun _ _ z => z) q⟩
end
end Pu
end

section
namespace Pu
open PySem PySem.Spec PyProof.Rows L2

/-! ### what is wanted of a piece of code, step by step -/
section
variable {ρ : En} {x : Ex → En → Prop} {k : Da → En → Prop} {kl : List Da → En → Prop} {kb : Bool → En → Prop} {ko : Option Int → En → Prop} {E : Fl}
theorem w_opt {α : Type} {o : Option α} {ka : α → En → Prop} (h : ∃ a, o = some a ∧ ka a ρ) : (W.opt o).wp ρ ka x := by
  obtain ⟨a, e, h⟩ := h
  rw [e]
  exact h
theorem w_c {d : Da} (h : k d ρ) : (eC d).wp ρ k x := h
theorem w_var {i : Nat} {d : Da} (e : look ρ i = some d) (h : k d ρ) : (eVar i).wp ρ k x := w_opt ⟨d, e, h⟩
theorem w_op2 {f : Da → Da → Option Da} {a b : W Da} (h : a.wp ρ (fun d ρ1 => b.wp ρ1 (fun e ρ2 => ∃ r, f d e = some r ∧ k r ρ2) x) x) : (eOp2 f a b).wp ρ k x :=
  a.mono (fun d ρ1 q => b.mono (fun e ρ2 q => w_opt q) (fun _ _ z => z) q) (fun _ _ z => z) h
theorem w_op1 {f : Da → Option Da} {a : W Da} (h : a.wp ρ (fun d ρ1 => ∃ r, f d = some r ∧ k r ρ1) x) : (eOp1 f a).wp ρ k x := a.mono (fun d ρ1 q => w_opt q) (fun _ _ z => z) h
theorem w_opN {f : List Da → Option Da} {a : W (List Da)} (h : a.wp ρ (fun d ρ1 => ∃ r, f d = some r ∧ k r ρ1) x) : (eOpN f a).wp ρ k x := a.mono (fun d ρ1 q => w_opt q) (fun _ _ z => z) h
theorem w_idx {a b : W Da} (h : (eOp2 dIdx a b).wp ρ k x) : (eIdx a b).wp ρ k x := h
theorem w_nil (h : kl [] ρ) : eNil.wp ρ kl x := h
theorem w_cons {a : W Da} {r : W (List Da)} (h : a.wp ρ (fun d ρ1 => r.wp ρ1 (fun ds ρ2 => kl (d :: ds) ρ2) x) x) : (eCons a r).wp ρ kl x := h
theorem w_tup {a : W (List Da)} (h : a.wp ρ (fun ds ρ1 => ds.length ≤ 1000 ∧ k (.tup ds) ρ1) x) : (eTup a).wp ρ k x := h
theorem w_disp {a : W (List Da)} (h : a.wp ρ (fun ds ρ1 => ds.length ≤ 1000 ∧ kl ds ρ1) x) : (eDisp a).wp ρ kl x := h
theorem w_frz {a : W (List Da)} (h : a.wp ρ (fun ds ρ1 => k (.lst ds) ρ1) x) : (eFrz a).wp ρ k x := h
theorem w_list {a : W Da} (h : a.wp ρ (fun d ρ1 => ∃ ds, asSeq d = some ds ∧ kl ds ρ1) x) : (eList a).wp ρ kl x := a.mono (fun d ρ1 q => w_opt q) (fun _ _ z => z) h
theorem w_bV {m : W Da} (h : m.wp ρ (fun d ρ1 => ∃ b, asB d = some b ∧ kb b ρ1) x) : (bV m).wp ρ kb x := m.mono (fun d ρ1 q => w_opt q) (fun _ _ z => z) h
theorem w_bT {m : W Da} (h : m.wp ρ (fun d ρ1 => ∃ b, truth d = some b ∧ kb b ρ1) x) : (bT m).wp ρ kb x := m.mono (fun d ρ1 q => w_opt q) (fun _ _ z => z) h
theorem w_bNot {a : W Bool} (h : a.wp ρ (fun c ρ1 => kb (!c) ρ1) x) : (bNot a).wp ρ kb x := h
theorem w_bAnd {a b : W Bool} (h : a.wp ρ (fun c ρ1 => (c = true → b.wp ρ1 kb x) ∧ (c = false → kb false ρ1)) x) : (bAnd a b).wp ρ kb x :=
  a.mono (fun c ρ1 ⟨h1, h2⟩ => by
    cases c with
    | true => exact h1 rfl
    | false => exact h2 rfl) (fun _ _ z => z) h
theorem w_bOr {a b : W Bool} (h : a.wp ρ (fun c ρ1 => (c = true → kb true ρ1) ∧ (c = false → b.wp ρ1 kb x)) x) : (bOr a b).wp ρ kb x :=
  a.mono (fun c ρ1 ⟨h1, h2⟩ => by
    cases c with
    | true => exact h1 rfl
    | false => exact h2 rfl) (fun _ _ z => z) h
theorem w_and {a b : W Da} (h : a.wp ρ (fun d ρ1 => ∃ c, asB d = some c ∧ (c = true → b.wp ρ1 k x) ∧ (c = false → k (.bl false) ρ1)) x) : (eAnd a b).wp ρ k x :=
  a.mono (fun d ρ1 ⟨c, e, h1, h2⟩ => w_opt ⟨c, e, by
    cases c with
    | true => exact h1 rfl
    | false => exact h2 rfl⟩) (fun _ _ z => z) h
theorem w_or {a b : W Da} (h : a.wp ρ (fun d ρ1 => ∃ c, asB d = some c ∧ (c = true → k (.bl true) ρ1) ∧ (c = false → b.wp ρ1 k x)) x) : (eOr a b).wp ρ k x :=
  a.mono (fun d ρ1 ⟨c, e, h1, h2⟩ => w_opt ⟨c, e, by
    cases c with
    | true => exact h1 rfl
    | false => exact h2 rfl⟩) (fun _ _ z => z) h
theorem w_not {a : W Da} (h : a.wp ρ (fun d ρ1 => ∃ c, asB d = some c ∧ k (.bl !c) ρ1) x) : (eNot a).wp ρ k x :=
  a.mono (fun d ρ1 ⟨c, e, h1⟩ => w_opt ⟨c, e, h1⟩) (fun _ _ z => z) h
theorem w_ife {c : W Bool} {a b : W Da} (h : c.wp ρ (fun q ρ1 => (q = true → a.wp ρ1 k x) ∧ (q = false → b.wp ρ1 k x)) x) : (eIf c a b).wp ρ k x :=
  c.mono (fun q ρ1 ⟨h1, h2⟩ => by
    cases q with
    | true => exact h1 rfl
    | false => exact h2 rfl) (fun _ _ z => z) h
theorem w_chain {f f' : Da → Da → Option Da} {a b c : W Da} (h : a.wp ρ (fun d ρ1 => b.wp ρ1 (fun e ρ2 => ∃ r, f d e = some r ∧ ∃ q, asB r = some q ∧ (q = true → c.wp ρ2 (fun g ρ3 => ∃ r', f' e g = some r' ∧ k r' ρ3) x) ∧ (q = false → k (.bl false) ρ2)) x) x) : (eChain f f' a b c).wp ρ k x :=
  a.mono (fun d ρ1 h => b.mono (fun e ρ2 ⟨r, e1, q, e2, h1, h2⟩ => w_opt ⟨r, e1, w_opt ⟨q, e2, by
    cases q with
    | true => exact c.mono (fun g ρ3 q => w_opt q) (fun _ _ z => z) (h1 rfl)
    | false => exact h2 rfl⟩⟩) (fun _ _ z => z) h) (fun _ _ z => z) h
theorem w_fld {C : Addr} {f : Str} {m : W Da} (h : m.wp ρ (fun d ρ1 => ∃ r, d.fld C f = some r ∧ k r ρ1) x) : (eFld C f m).wp ρ k x := m.mono (fun d ρ1 q => w_opt q) (fun _ _ z => z) h
theorem w_me {C : Addr} {f : Str} {i : Nat} (h : ∃ z, lookMe ρ i = some z ∧ z.1 = C ∧ ∃ d, z.2.lookup f = some d ∧ k d ρ) : (eMe C f i).wp ρ k x := by
  obtain ⟨z, e1, e2, d, e3, h⟩ := h
  exact w_opt ⟨z, e1, e2, w_opt ⟨d, e3, h⟩⟩
theorem w_isC {C : Addr} {m : W Da} (h : m.wp ρ (fun d ρ1 => d.isObj C = true ∧ k (.bl true) ρ1) x) : (eIsC C m).wp ρ k x := h
theorem w_isi {c : String} {m : W Da} (h : m.wp ρ (fun d ρ1 => ∃ t, tyD d = some t ∧ k (.bl (isiS t c)) ρ1) x) : (eIsi c m).wp ρ k x := m.mono (fun d ρ1 q => w_opt q) (fun _ _ z => z) h
theorem w_onone (h : ko none ρ) : oNone.wp ρ ko x := h
theorem w_osome {m : W Da} (h : m.wp ρ (fun d ρ1 => ∃ i, asI d = some i ∧ ko (some i) ρ1) x) : (oSome m).wp ρ ko x := m.mono (fun d ρ1 q => w_opt q) (fun _ _ z => z) h
theorem w_sl {a : W Da} {l u : W (Option Int)} (h : a.wp ρ (fun d ρ1 => l.wp ρ1 (fun i ρ2 => u.wp ρ2 (fun j ρ3 => ∃ r, dSl d i j = some r ∧ k r ρ3) x) x) x) : (eSl a l u).wp ρ k x :=
  a.mono (fun d ρ1 q => l.mono (fun i ρ2 q => u.mono (fun j ρ3 q => w_opt q) (fun _ _ z => z) q) (fun _ _ z => z) q) (fun _ _ z => z) h
theorem w_revT {m : W Da} (h : m.wp ρ (fun d ρ1 => ∃ ds, asT d = some ds ∧ k (.tup ds.reverse) ρ1) x) : (eRevT m).wp ρ k x := m.mono (fun d ρ1 q => w_opt q) (fun _ _ z => z) h
theorem w_call {F : Fn} {n : Nat} {a : W (List Da)} (h : a.wp ρ (fun ds ρ1 => ds.length = n ∧ F.wp ds (fun d => k d ρ1) (fun e => x e ρ1)) x) : (eCall F n a).wp ρ k x := h
theorem w_callP {i : Nat} {F : Fn} {n : Nat} {a : W (List Da)} (h0 : ρ[i]? = some (some .pool)) (h : a.wp ρ (fun ds ρ1 => (ds.length = n ∧ ρ1[i]? = some (some .pool)) ∧ F.wp ds (fun d => k d ρ1) (fun _ => False)) x) : (eCallP i F n a).wp ρ k x := ⟨h0, h⟩
theorem w_meth {C : Addr} {m : Str} {F : Fn} {n : Nat} {o : W Da} {a : W (List Da)} (h : o.wp ρ (fun d ρ1 => d.noFld C m = true ∧ a.wp ρ1 (fun ds ρ2 => ds.length = n ∧ F.wp (d :: ds) (fun d => k d ρ2) (fun _ => False)) x) x) : (eMeth C m F n o a).wp ρ k x := h
theorem w_objEq {C : Addr} {F : Fn} {a b : W Da} (h : a.wp ρ (fun d ρ1 => b.wp ρ1 (fun e ρ2 => (d.isObj C = true ∧ e.isObj C = true) ∧ F.wp [d, e] (fun r => (∃ t, r = .bl t) ∧ k r ρ2) (fun _ => False)) x) x) : (eObjEq C F a b).wp ρ k x := h
theorem w_seq {m : W Da} (h : m.wp ρ (fun d ρ1 => ∃ ds, itemsOf d = some ds ∧ kl ds ρ1) x) : (iSeq m).wp ρ kl x := m.mono (fun d ρ1 q => w_opt q) (fun _ _ z => z) h
theorem w_range1 {a : W Da} (h : a.wp ρ (fun d ρ1 => ∃ j, asI d = some j ∧ (j ≤ 1000000 ∧ -1000000 ≤ j) ∧ kl (rangeD 0 j.toNat) ρ1) x) : (iRange1 a).wp ρ kl x := a.mono (fun d ρ1 q => w_opt q) (fun _ _ z => z) h
theorem w_range2 {a b : W Da} (h : a.wp ρ (fun d ρ1 => ∃ i, asI d = some i ∧ b.wp ρ1 (fun e ρ2 => ∃ j, asI e = some j ∧ ((i ≤ 1000000 ∧ -1000000 ≤ i) ∧ j ≤ 1000000 ∧ -1000000 ≤ j) ∧ kl (rangeD i (j - i).toNat) ρ2) x) x) : (iRange2 a b).wp ρ kl x :=
  a.mono (fun d ρ1 ⟨i, e, q⟩ => w_opt ⟨i, e, b.mono (fun e ρ2 q => w_opt q) (fun _ _ z => z) q⟩) (fun _ _ z => z) h
theorem w_zip {a b : W Da} (h : a.wp ρ (fun d ρ1 => b.wp ρ1 (fun e ρ2 => ∃ ds, zip2 d e = some ds ∧ kl ds ρ2) x) x) : (iZip a b).wp ρ kl x :=
  a.mono (fun d ρ1 q => b.mono (fun e ρ2 q => w_opt q) (fun _ _ z => z) q) (fun _ _ z => z) h
theorem w_enumT {a : W Da} (h : a.wp ρ (fun d ρ1 => ∃ ds, asT d = some ds ∧ kl (enumF 0 ds) ρ1) x) : (iEnumT a).wp ρ kl x := a.mono (fun d ρ1 q => w_opt q) (fun _ _ z => z) h
theorem w_enumL {a : W Da} (h : a.wp ρ (fun d ρ1 => ∃ ds, asL d = some ds ∧ kl (enumF 0 ds) ρ1) x) : (iEnumL a).wp ρ kl x := a.mono (fun d ρ1 q => w_opt q) (fun _ _ z => z) h
theorem w_lc {vs : List Nat} {m : W (List Da)} {t : Tt} {c : W Bool} {e : W Da} (h : m.wp ρ (fun ds ρ1 => wipeE ρ1 vs = ρ1 ∧ lcW t c e ds [] ρ1 (fun acc => kl acc ρ1)) x) : (eLC vs m t c e).wp ρ kl x := h
theorem w_lenO {i : Nat} (h : ∃ ds, lookOwn ρ i = some ds ∧ k (.int ds.length) ρ) : (eLenO i).wp ρ k x := w_opt h
theorem w_callO {F : List Da → (List Da → Prop) → Prop} {hF : ∀ as k k', (∀ d, k d → k' d) → F as k → F as k'} {n : Nat} {a : W (List Da)} (h : a.wp ρ (fun ds ρ1 => ds.length = n ∧ F ds (fun es => kl es ρ1)) x) : (eCallO F hF n a).wp ρ kl x := h
theorem w_exn {i : Nat} {f : Str} (h : ∃ d, lookExn ρ i f = some d ∧ k d ρ) : (eExn i f).wp ρ k x := w_opt h
/-! statements -/
theorem v_seq {a b : Sx} (h : a.wp ρ { E with nx := fun ρ' => b.wp ρ' E }) : (sSeq a b).wp ρ E := h
theorem v_pass (h : E.nx ρ) : sPass.wp ρ E := h
theorem v_ret {m : W Da} (h : m.wp ρ E.rt E.ex) : (sRet m).wp ρ E := h
theorem v_if {c : W Bool} {a b : Sx} (h : c.wp ρ (fun q ρ' => (q = true → a.wp ρ' E) ∧ (q = false → b.wp ρ' E)) E.ex) : (sIf c a b).wp ρ E :=
  c.mono (fun q ρ' ⟨h1, h2⟩ => by
    cases q with
    | true => exact h1 rfl
    | false => exact h2 rfl) (fun _ _ z => z) h
theorem v_expr {m : W Da} (h : m.wp ρ (fun _ ρ' => E.nx ρ') E.ex) : (sExpr m).wp ρ E := h
theorem v_asg {m : W Da} {t : Tt} (h : m.wp ρ (fun d ρ' => ∃ ρ2, t.bind d ρ' = some ρ2 ∧ E.nx ρ2) E.ex) : (sAsg m t).wp ρ E := h
theorem v_set {i : Nat} {m : W Da} (h : m.wp ρ (fun d ρ' => E.nx (ρ'.set i (some (.dat d)))) E.ex) : (sSet i m).wp ρ E := h
theorem v_own {i : Nat} {m : W (List Da)} (h : m.wp ρ (fun ds ρ' => E.nx (ρ'.set i (some (.own ds)))) E.ex) : (sOwn i m).wp ρ E := h
theorem v_for {m : W (List Da)} {t : Tt} {b : Sx} (h : m.wp ρ (fun ds ρ' => forW t b ds ρ' E) E.ex) : (sFor m t b).wp ρ E := h
theorem v_append {i : Nat} {m : W Da} (h : ∃ ds0, lookOwn ρ i = some ds0 ∧ m.wp ρ (fun d ρ' => ∃ ds, lookOwn ρ' i = some ds ∧ ds.length < 16777216 ∧ E.nx (ρ'.set i (some (.own (ds ++ [d]))))) E.ex) : (sAppend i m).wp ρ E := h
theorem v_freeze {i : Nat} {s : Sx} (h : ∃ ds, lookOwn ρ i = some ds ∧ s.wp (ρ.set i (some (.dat (.lst ds)))) E) : (sFreeze i s).wp ρ E := h
theorem v_forget {i : Nat} {s : Sx} (h : s.wp (ρ.set i none) E) : (sForget i s).wp ρ E := h
theorem v_me {C : Addr} {f : Str} {i : Nat} {m : W Da} (h : m.wp ρ (fun d ρ1 => ∃ fs, lookMe ρ1 i = some (C, fs) ∧ fs.length < 1000 ∧ E.nx (ρ1.set i (some (.me C (putD f d fs))))) E.ex) : (sMe C f i m).wp ρ E := h
theorem v_raise {nm fld : Str} {m : W Da} (h : m.wp ρ (fun d ρ' => ArgD d ∧ E.ex ⟨nm, fld, d⟩ ρ') E.ex) : (sRaise nm fld m).wp ρ E := h
theorem v_par {i j : Nat} {m : W (List Da)} (h : m.wp ρ (fun ds ρ1 => ∃ d e, ds = [d, e] ∧ E.nx ((ρ1.set i (some (.dat d))).set j (some (.dat e)))) E.ex) : (sPar i j m).wp ρ E := h
theorem v_try2 {cat : Str → Option (Option Bool)} {i : Nat} {b s1 s2 : Sx} (h : b.wp ρ { E with ex := tryEx2 cat i s1 s2 E }) : (sTry2 cat i b s1 s2).wp ρ E := h
theorem v_try {cat : Str → Option Bool} {i : Nat} {b s : Sx} (h : b.wp ρ { E with ex := tryEx cat i s E }) : (sTry cat i b s).wp ρ E := h
end
end Pu
end
local macro_rules | `(tactic| walk_at "w1") => `(tactic| with_reducible refine Pu.v_try ?_)
local macro_rules | `(tactic| walk_at "w1") => `(tactic| with_reducible refine Pu.v_try2 ?_)
local macro_rules | `(tactic| walk_at "w1") => `(tactic| with_reducible refine Pu.v_par ?_)
local macro_rules | `(tactic| walk_at "w1") => `(tactic| with_reducible refine Pu.v_raise ?_)
local macro_rules | `(tactic| walk_at "w1") => `(tactic| with_reducible refine Pu.v_me ?_)
local macro_rules | `(tactic| walk_at "w1") => `(tactic| with_reducible refine Pu.v_forget ?_)
local macro_rules | `(tactic| walk_at "w1") => `(tactic| with_reducible refine Pu.v_freeze ?_)
local macro_rules | `(tactic| walk_at "w1") => `(tactic| with_reducible refine Pu.v_append ?_)
local macro_rules | `(tactic| walk_at "w1") => `(tactic| with_reducible refine Pu.v_for ?_)
local macro_rules | `(tactic| walk_at "w1") => `(tactic| with_reducible refine Pu.v_own ?_)
local macro_rules | `(tactic| walk_at "w1") => `(tactic| with_reducible refine Pu.v_asg ?_)
local macro_rules | `(tactic| walk_at "w1") => `(tactic| with_reducible refine Pu.v_expr ?_)
local macro_rules | `(tactic| walk_at "w1") => `(tactic| with_reducible refine Pu.w_exn ?_)
local macro_rules | `(tactic| walk_at "w1") => `(tactic| with_reducible refine Pu.w_callO ?_)
local macro_rules | `(tactic| walk_at "w1") => `(tactic| with_reducible refine Pu.w_lenO ?_)
local macro_rules | `(tactic| walk_at "w1") => `(tactic| with_reducible refine Pu.w_enumL ?_)
local macro_rules | `(tactic| walk_at "w1") => `(tactic| with_reducible refine Pu.w_enumT ?_)
local macro_rules | `(tactic| walk_at "w1") => `(tactic| with_reducible refine Pu.w_zip ?_)
local macro_rules | `(tactic| walk_at "w1") => `(tactic| with_reducible refine Pu.w_range2 ?_)
local macro_rules | `(tactic| walk_at "w1") => `(tactic| with_reducible refine Pu.w_range1 ?_)
local macro_rules | `(tactic| walk_at "w1") => `(tactic| with_reducible refine Pu.w_lc ?_)
local macro_rules | `(tactic| walk_at "w1") => `(tactic| with_reducible refine Pu.w_objEq ?_)
local macro_rules | `(tactic| walk_at "w1") => `(tactic| with_reducible refine Pu.w_meth ?_)
local macro_rules | `(tactic| walk_at "w1") => `(tactic| with_reducible refine Pu.w_callP (by with_unfolding_all rfl) ?_)
local macro_rules | `(tactic| walk_at "w1") => `(tactic| with_reducible refine Pu.w_revT ?_)
local macro_rules | `(tactic| walk_at "w1") => `(tactic| with_reducible refine Pu.w_sl ?_)
local macro_rules | `(tactic| walk_at "w1") => `(tactic| with_reducible refine Pu.w_osome ?_)
local macro_rules | `(tactic| walk_at "w1") => `(tactic| with_reducible refine Pu.w_onone ?_)
local macro_rules | `(tactic| walk_at "w1") => `(tactic| with_reducible refine Pu.w_isi ?_)
local macro_rules | `(tactic| walk_at "w1") => `(tactic| with_reducible refine Pu.w_isC ?_)
local macro_rules | `(tactic| walk_at "w1") => `(tactic| with_reducible refine Pu.w_me ?_)
local macro_rules | `(tactic| walk_at "w1") => `(tactic| with_reducible refine Pu.w_chain ?_)
local macro_rules | `(tactic| walk_at "w1") => `(tactic| with_reducible refine Pu.w_ife ?_)
local macro_rules | `(tactic| walk_at "w1") => `(tactic| with_reducible refine Pu.w_not ?_)
local macro_rules | `(tactic| walk_at "w1") => `(tactic| with_reducible refine Pu.w_or ?_)
local macro_rules | `(tactic| walk_at "w1") => `(tactic| with_reducible refine Pu.w_and ?_)
local macro_rules | `(tactic| walk_at "w1") => `(tactic| with_reducible refine Pu.w_bOr ?_)
local macro_rules | `(tactic| walk_at "w1") => `(tactic| with_reducible refine Pu.w_bAnd ?_)
local macro_rules | `(tactic| walk_at "w1") => `(tactic| with_reducible refine Pu.w_bNot ?_)
local macro_rules | `(tactic| walk_at "w1") => `(tactic| with_reducible refine Pu.w_bT ?_)
local macro_rules | `(tactic| walk_at "w1") => `(tactic| with_reducible refine Pu.w_bV ?_)
local macro_rules | `(tactic| walk_at "w1") => `(tactic| with_reducible refine Pu.w_list ?_)
local macro_rules | `(tactic| walk_at "w1") => `(tactic| with_reducible refine Pu.w_frz ?_)
local macro_rules | `(tactic| walk_at "w1") => `(tactic| with_reducible refine Pu.w_disp ?_)
local macro_rules | `(tactic| walk_at "w1") => `(tactic| with_reducible refine Pu.w_fld ?_)
local macro_rules | `(tactic| walk_at "w1") => `(tactic| with_reducible refine Pu.w_seq ?_)
local macro_rules | `(tactic| walk_at "w1") => `(tactic| with_reducible refine Pu.w_call ?_)
local macro_rules | `(tactic| walk_at "w1") => `(tactic| with_reducible refine Pu.w_tup ?_)
local macro_rules | `(tactic| walk_at "w1") => `(tactic| with_reducible refine Pu.w_op1 ?_)
local macro_rules | `(tactic| walk_at "w1") => `(tactic| with_reducible refine Pu.w_opN ?_)
local macro_rules | `(tactic| walk_at "w1") => `(tactic| with_reducible refine Pu.w_idx ?_)
local macro_rules | `(tactic| walk_at "w1") => `(tactic| with_reducible refine Pu.w_op2 ?_)
local macro_rules | `(tactic| walk_at "w1") => `(tactic| with_reducible refine Pu.v_set ?_)
local macro_rules | `(tactic| walk_at "w1") => `(tactic| with_reducible refine Pu.v_if ?_)
local macro_rules | `(tactic| walk_at "w1") => `(tactic| with_reducible refine Pu.v_ret ?_)
local macro_rules | `(tactic| walk_at "w1") => `(tactic| with_reducible refine Pu.v_pass ?_)
local macro_rules | `(tactic| walk_at "w1") => `(tactic| with_reducible refine Pu.v_seq ?_)
local macro_rules | `(tactic| walk_at "w1") => `(tactic| with_reducible refine Pu.w_nil ?_)
local macro_rules | `(tactic| walk_at "w1") => `(tactic| with_reducible refine Pu.w_cons ?_)
local macro_rules | `(tactic| walk_at "w1") => `(tactic| with_reducible refine Pu.w_c ?_)
local macro_rules | `(tactic| walk_at "w1") => `(tactic| with_reducible refine Pu.w_var (by with_unfolding_all rfl) ?_)
local macro_rules | `(tactic| walk_at "wg") => `(tactic| repeat (first | walk_at "w1" | dsimp only []))

section
set_option maxHeartbeats 1000000
/-! enumerate of a list from a start -/
namespace EnS
open PySem PySem.Spec PyProof.Rows L2
theorem enum_endC {prog : Program} {w : World} {A : Around} {E : Value → Shared → Prop} {s : Shared} {e it l : Addr} {i : Nat} {c : Int} {items : Array Value} {old : Value} {Q : Option Value → Shared → Prop} (hh : A.handled = none) (he : IsEnum s.heap e it c old)
    (hit : s.heap.IsListIter it l i) (hl : s.heap.IsList l items) (hx : items[i]? = none) (hQ : ∀ h', Heap.ExtBut it s.heap h' → Q none { s with heap := h' }) : wpAny (model prog w) A (pyNext (.ref e)) Q E s := by
  have hT : s.TypeIs (.ref e) "enumerate" := ⟨_, he, rfl⟩
  unfold pyNext
  refine wpAny_bind (wpAny_attempt (wpAny_callSpecial?_slot (name := Str.ofString "__next__") hT F.slot_enumerate_next
    (wpAny_call_entry F.slot_enumerate_next hT F.entry_enumerate_next ?_ (F.args_enumerate_next_1 _))))
  show wpAny _ _ (field (.ref e) 2 >>= _) _ _ _
  refine wpAny_bind (wpAny_field he rfl (x := .ref it) rfl ?_)
  refine wpAny_bind (wpAny_nextOf_list_end hh hit hl hx fun h' x he' hx' => ?_)
  obtain ⟨o, ho, hc⟩ := hx'
  refine wpAny_bind (wpAny_isInstance (T := "StopIteration") (b := true) ⟨o, ho, hc⟩ isSubtype_stop ?_)
  exact wpAny_pure (hQ _ he')
/-- the list at a, each item in a new pair, counted from k0 -/
def IteS (K : PySem.W.Frag) (k0 : Int) (a : Addr) : It :=
  ⟨fun i H => ∃ (xs : List V) (x : V), SqL K H a xs ∧ xs[i]? = some x, fun i H v H' => ∃ T x, v = .ref T ∧ H T = none ∧ H' = upd H T (.tup [.int (k0 + (i : Nat)), x]) ∧ ∀ xs, SqL K H a xs → xs[i]? = some x, fun i H => ∃ xs : List V, SqL K H a xs ∧ xs.length ≤ i⟩
theorem turn_enumS {P : Program} {w : World} {K : PySem.W.Frag} {elts : List Expr} {kk : Nat} {tpos : Pos} (k0 : Int) (a e it : Addr) :
    Turn P w K (.Tuple elts kk tpos) (IteS K k0 a) [e, it] e (fun i h => (∃ old, IsEnum h e it (k0 + ((i : Nat) : Int)) old) ∧ h.IsListIter it a i ∧ e ≠ it) where
  mem := by simp
  obj := fun i h st b hb => by
    obtain ⟨⟨old, he⟩, ⟨o, ho, hc, hd⟩, _⟩ := st
    have e' : b = e ∨ b = it := by simpa using hb
    rcases e' with z | z
    · rw [z]; exact ⟨_, he, fun v q => nomatch q⟩
    · rw [z]; exact ⟨o, ho, fun v q => by rw [hd] at q; cases q⟩
  keep := fun i h h' st k => let ⟨⟨old, he⟩, hi, hne⟩ := st; ⟨⟨old, k e (by simp) _ he⟩, hi.at fun o q => k it (by simp) o q, hne⟩
  item := by
    intro X hP hw hK hc i pins s σ H E I hf st hg
    subst hP hw hK
    obtain ⟨⟨old, he⟩, hit, hne⟩ := st
    obtain ⟨xs, x, hq, hx⟩ := hg
    obtain ⟨its, rv, p, hz⟩ := I.list hq
    have p : s.heap.IsList a its.toArray := p.isList
    obtain ⟨u, hu, ru⟩ := rv.get hx
    have hel : e < s.heap.objs.size := Heap.lt_size he
    have hil : it < s.heap.objs.size := by obtain ⟨_, q, _⟩ := hit; exact Heap.lt_size q
    have nai : a ≠ it := fun q => by
      subst q
      obtain ⟨o, h1, h2, _⟩ := hit
      obtain ⟨o', h3, h4, _⟩ := p
      rw [h1] at h3
      cases h3
      rw [h2] at h4
      simp at h4
    have nae : e ≠ a := fun q => by
      subst q
      obtain ⟨o', h3, h4, _⟩ := p
      have he' := he
      unfold IsEnum at he'
      rw [he'] at h3
      cases h3
      simp at h4
    refine wpAny_pyNext_enum_itemC (fp := [it, a]) (n := its.toArray.size) (Draws.list (prog := X.prog) (w := X.w) (A := X.A.in1) (show X.A.in1.handled = none from I.ok.hd hc) it a nai its.toArray) he ⟨hit, p⟩ (i := i) (by simpa using (List.getElem?_eq_some_iff.mp hu).1) hne (by simp [hne, nae]) fun x' h' tk hP ho st' hT hsz hk => ?_
    have ex : x' = u := by
      have hP' : its.toArray[i]? = some x' := hP
      have hu' : its.toArray[i]? = some u := by simpa using hu
      rw [hu'] at hP'
      exact (Option.some.inj hP').symm
    subst ex
    have hit' := st'.1
    refine ⟨_, rfl, wpAny_letOwnedTupleGo_enum (s := { s with heap := h', toks := tk + 1 }) ho fun h'' he' sb => ?_⟩
    have hT2 : h''.get? s.heap.objs.size = some { cls := .type "tuple", data := .seq #[.int (k0 + (i : Nat)) tk, x'] } := (sb.2 _ (Nat.ne_of_gt hel)).trans hT
    have new : ObjOk X.prog X.w (upd H s.heap.objs.size (.tup [.int (k0 + (i : Nat)), x])) h'' s.heap.objs.size (.tup [.int (k0 + (i : Nat)), x]) :=
      ⟨by show 2 ≤ sizeLine; decide, [.int (k0 + (i : Nat)) tk, x'], .cons ⟨_, rfl⟩ (.cons ru .nil), ⟨_, hT2, rfl, _, rfl⟩⟩
    have I1 : Inv X pins σ (upd H s.heap.objs.size (.tup [.int (k0 + (i : Nat)), x])) { s with heap := h'', toks := tk + 1 } :=
      I.turnedNew (ch := [e, it]) (fun b ob hb q => (sb.2 b (fun z => hb (by simp [z]))).trans (hk b ob (fun z => hb (by simp [z])) (fun z => hb (by simp [z])) q)) hf (Nat.le_refl _) new
    refine ⟨.ref s.heap.objs.size, _, I1, rfl, ⟨_, x, rfl, I.hok.fresh (Nat.le_refl _), rfl, fun ys hy => by rw [I.list_inj hy hq]; exact hx⟩, ⟨⟨x', ?_⟩, hit'.at fun o q => (sb.2 it (Ne.symm hne)).trans q, hne⟩, fun b hb => ?_⟩
    · have e1 : k0 + ((i + 1 : Nat) : Int) = k0 + (i : Int) + 1 := by omega
      rw [e1]; exact he'
    · have hb' : b < s.heap.objs.size := by
        have e' : b = e ∨ b = it := by simpa using hb
        rcases e' with z | z
        · rw [z]; exact hel
        · rw [z]; exact hil
      rw [upd_ne (Nat.ne_of_lt hb')]
      exact (hf b hb).1
  done := by
    intro X hP hw hK hc i pins s σ H E I hf st hg
    subst hP hw hK
    obtain ⟨⟨old, he⟩, hit, hne⟩ := st
    obtain ⟨xs, hq, hx⟩ := hg
    obtain ⟨its, rv, p, hz⟩ := I.list hq
    have p : s.heap.IsList a its.toArray := p.isList
    obtain ⟨f0, f1, f2, f3, f4, f5⟩ := hf it (by simp)
    have hl := rv.length
    refine (enum_endC (I.ok.hd hc) he hit p (by simp; omega) fun h' eb => ⟨rfl, I.turned (t' := s.toks) (fun b o hb q => eb b o hb q) f0 f1 f3 f4 f5⟩)
  self := fun A i s Q E st h => let ⟨⟨_, he⟩, _⟩ := st; wpAny_pyIter_enum he h
def iEnumS (K : PySem.W.Frag) (k0 : Int) (ta : TA) : TI := fun σ H R => ta σ H fun vs H1 => ∃ a xs, vs = [.ref a, .int k0] ∧ SqL K H1 a xs ∧ R (IteS K k0 a) H1
theorem pi_enumS {X : Cx} {e e2 : Expr} {ta : TA} {p pos tpos : Pos} {elts : List Expr} {kk : Nat} {k0 : Int} (h0 : -(2 ^ 63) ≤ k0) (h1 : k0 < 2 ^ 63) (hg : Gl X "enumerate") (hm : X.mg "enumerate" = none) (ha : PA X [e, e2] ta) (hs : starEach [e, e2] X.env = (false, eval e X.env) :: starEach [e2] X.env := by rfl)
    (hpl : (backTo pos (starEach [e2] X.env)).any (·.1) = false := by rfl) :
    PI X (.Tuple elts kk tpos) (.Call (.Name "enumerate" p) [e, e2] [] pos) (iEnumS X.K k0 ta) := by
  refine ⟨fun pins s σ H R I h => ?_⟩
  refine Call_ (ld_blt I hg hm boot_enumerate (PyProof.Rows.callWith_type1 (thn (ha.run pos pins s σ H _ I h) fun us s1 ⟨vs, H1, I1, r1, q1⟩ => ?_) hs hpl))
  obtain ⟨a, xs, ex, hq, q⟩ := q1
  subst ex
  cases r1 with
  | cons r rr =>
    cases rr with
    | cons r' rr =>
      cases rr
      cases r
      obtain ⟨tk, rfl⟩ := r'
      obtain ⟨its, rv, p', hz⟩ := I1.list hq
      refine enum_begins (begins_list a its.toArray) p'.isList h0 h1 fun h' he hit hsz hk => wpAny_pyIter_enum he ?_
      have hit' : h'.IsListIter s1.heap.objs.size a 0 := ⟨_, hit, rfl, rfl⟩
      have I2 : Inv X pins σ H1 { s1 with heap := h' } := I1.kept (t' := s1.toks) hk
      refine ⟨s1.heap.objs.size + 1, [s1.heap.objs.size + 1, s1.heap.objs.size], _, _, H1, rfl, I2, turn_enumS k0 a (s1.heap.objs.size + 1) s1.heap.objs.size, ⟨⟨.none, by rw [show k0 + ((0 : Nat) : Int) = k0 by omega]; exact he⟩, hit', Nat.succ_ne_self _⟩, fun b hb => ?_, q⟩
      have e' : b = s1.heap.objs.size + 1 ∨ b = s1.heap.objs.size := by simpa using hb
      have hle : s1.heap.objs.size ≤ b := by
        rcases e' with z | z
        · rw [z]; exact Nat.le_add_right _ _
        · rw [z]; exact Nat.le_refl _
      exact I1.fpOk hle (I1.hok.fresh hle)
end EnS
end

section
namespace Pu
open PySem PySem.Spec PyProof.Rows L2

/-! ### methods of texts with one argument -/
def asS : Da → Option Str
  | .str z => some z
  | _ => none
theorem of_asS {d : Da} {z : Str} (h : asS d = some z) : d = .str z := by
  cases d <;> simp [asS] at h
  subst h
  rfl
def eM1 (f : Da → Da → Option Da) (a b : W Da) : W Da := a.bind fun d => (W.req ((asS d).isSome = true)).bind fun _ => b.bind fun e => W.opt (f d e)
theorem w_m1 {f : Da → Da → Option Da} {a b : W Da} {ρ : En} {k : Da → En → Prop} {x : Ex → En → Prop} (h : a.wp ρ (fun d ρ1 => (asS d).isSome = true ∧ b.wp ρ1 (fun e ρ2 => ∃ r, f d e = some r ∧ k r ρ2) x) x) : (eM1 f a b).wp ρ k x :=
  a.mono (fun d ρ1 ⟨h0, q⟩ => ⟨h0, b.mono (fun e ρ2 q => w_opt q) (fun _ _ z => z) q⟩) (fun _ _ z => z) h
section
variable {X : Cx} {G : Gc} {x : Ex → En → Prop}
theorem p_m1 {o e : Expr} {id : String} {name : Str} {apos pos : Pos} {r : V → List V → Hp → VK → Prop} {f : Da → Da → Option Da} {mo me : W Da} (slot : Slot "str" name id) (ty : typeOf (.builtin id) = pure (.type "method_descriptor")) (rule : MtR X id r) (h : Op2 X.K (fun x y H Q => r x [y] H Q) f)
    (ho : PE X o (tp X.K G x mo)) (he : PE X e (tp X.K G x me)) (hs : starEach [e] X.env = [(false, eval e X.env)] := by rfl) (hbase : attributeBase o name X.env (eval o X.env) = eval o X.env := by rfl) (hline : (apos.endLine == pos.line) = true := by rfl) :
    PE X (.Call (.Attribute o name apos) [e] [] pos) (tp X.K G x (eM1 f mo me)) :=
  (pe_m1 slot ty rule ho he hs hbase hline).of fun σ H Q ⟨ρ, pe, S, q⟩ => by
    refine ⟨ρ, pe, S, mo.mono (fun d ρ1 q v H1 S1 => ?_) (fun _ _ z => z) q⟩
    obtain ⟨q0, q⟩ := q
    obtain ⟨z, ez⟩ := Option.isSome_iff_exists.mp q0
    have ed := of_asS ez
    subst ed
    have rv : v = .str z := by
      obtain ⟨O, S1⟩ := S1
      exact rep_str.mp S1.top
    refine ⟨⟨z, rv⟩, ρ1, _, S1, me.mono (fun e ρ2 q w H2 ⟨O, S2⟩ => ?_) (fun _ _ z => z) q⟩
    obtain ⟨r', er, q⟩ := W.opt_wp q
    exact h (Lof G O) H2 _ _ _ v w Q S2.pop.top S2.top er fun v' H' k rr => q v' H' ⟨O, S2.pop.pop.result k rr⟩
end
section
variable {K : PySem.W.Frag} {L : Addr → Prop} {H : Hp}
theorem reps_strs : ∀ ss : List Str, Reps K L H (ss.map Da.str) (ss.map V.str)
  | [] => rfl
  | s :: ss => by
    simp only [List.map_cons, Reps]
    exact ⟨_, _, rfl, rep_str.mpr rfl, reps_strs ss⟩
def strsL : List Da → Option (List Str)
  | [] => some []
  | .str i :: r => (strsL r).map (i :: ·)
  | _ => none
theorem strsL_rep : ∀ {ds : List Da} {ns : List Str} {vs : List V}, strsL ds = some ns → Reps K L H ds vs → vs = ns.map V.str
  | [], ns, vs, e, r => by
    simp only [strsL, Option.some.injEq] at e
    subst e
    simp only [Reps] at r
    subst r
    rfl
  | d :: ds, ns, vs, e, r => by
    cases d <;> simp only [strsL] at e <;> first | cases e | skip
    rename_i i
    simp only [Option.map_eq_some_iff] at e
    obtain ⟨ms, e1, rfl⟩ := e
    simp only [Reps] at r
    obtain ⟨y, ys, rfl, r1, r2⟩ := r
    rw [strsL_rep e1 r2, rep_str.mp r1]
    rfl
@[simp] theorem strsL_map : ∀ ss : List Str, strsL (ss.map Da.str) = some ss
  | [] => rfl
  | s :: ss => by simp [strsL, strsL_map ss]
end
section
variable {K : PySem.W.Frag}
def dSplit : Da → Da → Option Da
  | .str a, .str b => if (b.length == 0) = false ∧ a.length + 2 ≤ 1000000 then some (.lst ((Txt.split a b).map Da.str)) else none
  | _, _ => none
theorem f_split : Op2 K (fun x y H Q => ∃ a b, x = .str a ∧ [y] = [.str b] ∧ (b.length == 0) = false ∧ a.length + 2 ≤ sizeLine ∧ rNewStrs (Txt.split a b) H Q) dSplit := by
  intro L H dx dy d a b Q ra rb e q
  unfold dSplit at e
  split at e
  · rename_i y z
    split at e
    · rename_i h
      cases e
      refine ⟨y, z, rep_str.mp ra, by rw [rep_str.mp rb], h.1, by rw [line_eq]; omega, fun p np => q _ _ (keep_upd np) (rep_newL np ?_ (reps_strs _))⟩
      rw [List.length_map, line_eq]
      have := split_le y z
      omega
    · cases e
  · cases e
def dJoin : Da → Da → Option Da
  | .str a, .lst ds => (strsL ds).bind fun ys => if (ys.map (·.length)).sum + ys.length * a.length ≤ 16777216 then some (.str (Txt.join a ys)) else none
  | .str a, .tup ds => (strsL ds).bind fun ys => if (ys.map (·.length)).sum + ys.length * a.length ≤ 16777216 then some (.str (Txt.join a ys)) else none
  | _, _ => none
theorem f_join : Op2 K (fun x y H Q => ∃ a p, ∃ ys : List Str, x = .str a ∧ [y] = [.ref p] ∧ (SqL K H p (ys.map V.str) ∨ SqT K H p (ys.map V.str)) ∧
    (ys.map (·.length)).sum + ys.length * a.length ≤ 16777216 ∧ Q (.str (Txt.join a ys)) H) dJoin := by
  intro L H dx dy d a b Q ra rb e q
  unfold dJoin at e
  split at e
  · rename_i y ds
    simp only [Option.bind_eq_some_iff] at e
    obtain ⟨ys, e1, e⟩ := e
    split at e
    · rename_i h
      cases e
      obtain ⟨p, us, e2, hs, z, r⟩ := rep_lst.mp rb
      have eu := strsL_rep e1 r
      subst eu
      exact ⟨y, p, ys, rep_str.mp ra, by rw [e2], .inl (.inl (.inl hs.1)), h, q _ H same_ok (rep_str.mpr rfl)⟩
    · cases e
  · rename_i y ds
    simp only [Option.bind_eq_some_iff] at e
    obtain ⟨ys, e1, e⟩ := e
    split at e
    · rename_i h
      cases e
      obtain ⟨p, us, e2, hs, z, r⟩ := rep_tup.mp rb
      have eu := strsL_rep e1 r
      subst eu
      exact ⟨y, p, ys, rep_str.mp ra, by rw [e2], .inr hs, h, q _ H same_ok (rep_str.mpr rfl)⟩
    · cases e
  · cases e
/-- s.index(y), y found -/
def rIdxF : V → List V → Hp → VK → Prop := fun x xs H Q => ∃ (a b : Str) (k : Nat), x = .str a ∧ xs = [.str b] ∧ Txt.index0 a b = some k ∧ Q (.int (k : Nat)) H
theorem mt_indexF {X : Cx} : MtR X "str.index" rIdxF := by
  intro pins s σ H x xs v us Q I rx rs h
  obtain ⟨a, b, k, rfl, rfl, hk, w⟩ := h
  obtain ⟨t, rfl⟩ := rx
  cases rs with
  | cons r1 rs =>
    cases rs
    obtain ⟨u, rfl⟩ := r1
    cases q : Builtin.Str.occurrences a b 0 a.length 1 with
    | nil =>
      unfold Txt.index0 at hk
      rw [q] at hk
      cases hk
    | cons j rest =>
      unfold Txt.index0 at hk
      rw [q] at hk
      cases hk
      exact PySem.SC.index q ⟨.int (k : Nat), H, I.tok _, ⟨_, rfl⟩, w⟩
def dIndex : Da → Da → Option Da
  | .str a, .str b => (Txt.index0 a b).map fun k => .int (k : Nat)
  | _, _ => none
theorem f_index : Op2 K (fun x y H Q => rIdxF x [y] H Q) dIndex := by
  intro L H dx dy d a b Q ra rb e q
  unfold dIndex at e
  split at e
  · rename_i y z
    simp only [Option.map_eq_some_iff] at e
    obtain ⟨k, e1, rfl⟩ := e
    exact ⟨y, z, k, rep_str.mp ra, by rw [rep_str.mp rb], e1, q _ H same_ok (rep_int.mpr rfl)⟩
  · cases e
/-! str(x), int(x) -/
def rStr : List V → Hp → VK → Prop := fun xs H Q => (∃ i, xs = [.int i] ∧ i.natAbs.log2 < 1920 ∧ Q (.str (toString i)) H) ∨ ∃ a, xs = [.str a] ∧ Q (.str a) H
theorem c_str {X : Cx} : CallR X (.type "str") rStr := call_str_int.or SkE.call_str_str
def numS (i : Int) : Str := toString i
def dStr : List Da → Option Da
  | [.int i] => if i.natAbs.log2 < 1920 then some (.str (numS i)) else none
  | [.str a] => some (.str a)
  | _ => none
theorem f_str : OpN K rStr dStr := by
  intro L H ds d vs Q r e q
  unfold dStr at e
  split at e
  · split at e
    · rename_i i h
      cases e
      obtain ⟨v, rfl, r1⟩ := reps1 r
      exact .inl ⟨i, by rw [rep_int.mp r1], h, q _ H same_ok (rep_str.mpr rfl)⟩
    · cases e
  · cases e
    obtain ⟨v, rfl, r1⟩ := reps1 r
    exact .inr ⟨_, by rw [rep_str.mp r1], q _ H same_ok (rep_str.mpr rfl)⟩
  · cases e
def rInt : List V → Hp → VK → Prop := fun xs H Q => ((∃ i, xs = [.int i] ∧ Q (.int i) H) ∨ ∃ k, xs = [.bl k] ∧ Q (.int (if k then 1 else 0)) H) ∨ ∃ a n, xs = [.str a] ∧ PySem.intText? a = some n ∧ a.length ≤ 640 ∧ Q (.int n) H
theorem c_int {X : Cx} : CallR X (.type "int") rInt := call_int1.or call_int_str
def dIntS : List Da → Option Da
  | [.str a] => if a.length ≤ 640 then (PySem.intText? a).map Da.int else none
  | ds => dInt ds
theorem f_intS : OpN K rInt dIntS := by
  intro L H ds d vs Q r e q
  unfold dIntS at e
  split at e
  · rename_i a
    split at e
    · rename_i h
      simp only [Option.map_eq_some_iff] at e
      obtain ⟨n, e1, rfl⟩ := e
      obtain ⟨v, rfl, r1⟩ := reps1 r
      exact .inr ⟨a, n, by rw [rep_str.mp r1], e1, h, q _ H same_ok (rep_int.mpr rfl)⟩
    · cases e
  · exact .inl (f_int L H ds d vs Q r e q)
/-! a sign in a text -/
def rSign (neg : Bool) : R2 := fun x y H Q => ∃ (c : Nat) (z : Str), x = .str ⟨#[c]⟩ ∧ y = .str z ∧ Q (.bl (xor neg (decide (c ∈ z.cps.toList)))) H
theorem o_inS {X : Cx} (hu : X.A.units + 65 < cLine) : OpR X (compareOp .In) (fun x y H Q => rInA X.K false x y H Q ∨ rSign false x y H Q) := (o_in hu).or fun pins s σ H x y v u Q I rx ry ⟨c, z, e1, e2, q⟩ => op_in_sign pins s σ H x y v u Q I rx ry ⟨c, z, e1, e2, by simpa using q⟩
theorem o_notinS {X : Cx} (hu : X.A.units + 65 < cLine) : OpR X (compareOp .NotIn) (fun x y H Q => rInA X.K true x y H Q ∨ rSign true x y H Q) := (o_notin hu).or fun pins s σ H x y v u Q I rx ry ⟨c, z, e1, e2, q⟩ => op_notIn_sign pins s σ H x y v u Q I rx ry ⟨c, z, e1, e2, by simpa using q⟩
def dInS (neg : Bool) : Da → Da → Option Da
  | .str s, .str z => match s.cps.toList with
    | [c] => some (.bl (xor neg (decide (c ∈ z.cps.toList))))
    | _ => none
  | a, b => dIn neg a b
theorem f_inS {neg : Bool} : Op2 K (fun x y H Q => (if neg then rInA K true x y H Q else rInA K false x y H Q) ∨ rSign neg x y H Q) (dInS neg) := by
  intro L H dx dy d a b Q ra rb e q
  unfold dInS at e
  split at e
  · rename_i s z
    split at e
    · rename_i c hc
      cases e
      have es : s = ⟨#[c]⟩ := Str.ext' (Array.toList_inj.mp hc)
      exact .inr ⟨c, z, by rw [rep_str.mp ra, es], rep_str.mp rb, q _ H same_ok (rep_bl'.mpr rfl)⟩
    · cases e
  · left
    cases neg with
    | true => exact f_in (neg := true) L H dx dy d a b Q ra rb e q
    | false => exact f_in (neg := false) L H dx dy d a b Q ra rb e q
theorem f_inF : Op2 K (fun x y H Q => rInA K false x y H Q ∨ rSign false x y H Q) (dInS false) := f_inS (neg := false)
theorem f_inT : Op2 K (fun x y H Q => rInA K true x y H Q ∨ rSign true x y H Q) (dInS true) := f_inS (neg := true)
end
/-! ### enumerate(xs, n), xs[::-1], x and y from two new lists, f'..{e}' -/
theorem itOk_enumS {K : PySem.W.Frag} {a : Addr} {ds : List Da} (n : Nat) : ItOk K (EnS.IteS K (n : Int) a) [(.ref a, .lst ds)] (enumF n ds) := fun L H hs i => by
  have r := hs _ List.mem_cons_self
  simp only [Rep] at r
  obtain ⟨a', xs, e, q, _, rs⟩ := r
  cases e
  refine ⟨fun d h => ?_, fun h => ⟨xs, q.sq, by rw [rs.length]; rw [enumF_len] at h; exact h⟩⟩
  obtain ⟨c, h1, rfl⟩ := enumF_get h
  obtain ⟨y, hy, ry⟩ := rs.getD h1
  refine ⟨⟨xs, y, q.sq, hy⟩, fun w H' z => ?_⟩
  obtain ⟨T, u, rfl, nT, rfl, f⟩ := z
  have e1 := f xs q.sq
  rw [hy] at e1
  cases e1
  refine ⟨keep_upd nT, rep_pair nT (rep_int.mpr (by rw [show ((n + i : Nat) : Int) = (n : Int) + (i : Nat) by omega])) ry⟩
def iEnumS (n : Nat) (m : W Da) : W (List Da) := m.bind fun d => (W.opt (asL d)).bind fun ds => W.ret (enumF n ds)
theorem w_enumS {n : Nat} {a : W Da} {ρ : En} {kl : List Da → En → Prop} {x : Ex → En → Prop} (h : a.wp ρ (fun d ρ1 => ∃ ds, asL d = some ds ∧ kl (enumF n ds) ρ1) x) : (iEnumS n a).wp ρ kl x := a.mono (fun d ρ1 q => w_opt q) (fun _ _ z => z) h
def eRevL (m : W Da) : W Da := m.bind fun d => (W.opt (asL d)).bind fun ds => W.ret (.lst ds.reverse)
theorem w_revL {m : W Da} {ρ : En} {k : Da → En → Prop} {x : Ex → En → Prop} (h : m.wp ρ (fun d ρ1 => ∃ ds, asL d = some ds ∧ k (.lst ds.reverse) ρ1) x) : (eRevL m).wp ρ k x := m.mono (fun d ρ1 q => w_opt q) (fun _ _ z => z) h
def sParO (i j : Nat) (a b : W (List Da)) : Sx := ⟨fun ρ E => a.wp ρ (fun ds ρ1 => b.wp ρ1 (fun es ρ2 => E.nx ((ρ2.set i (some (.own ds))).set j (some (.own es)))) E.ex) E.ex, fun l h => a.mono (fun ds ρ1 q => b.mono (fun es ρ2 q => l.nx _ q) l.ex q) l.ex h⟩
theorem v_parO {i j : Nat} {a b : W (List Da)} {ρ : En} {E : Fl} (h : a.wp ρ (fun ds ρ1 => b.wp ρ1 (fun es ρ2 => E.nx ((ρ2.set i (some (.own ds))).set j (some (.own es)))) E.ex) E.ex) : (sParO i j a b).wp ρ E := h
def dFmt (t : Str) : Da → Option Da
  | .int i => if i.natAbs.log2 < 1920 ∧ (Str.empty ++ t).length ≤ sizeLine ∧ (Str.empty ++ t ++ numS i).length ≤ sizeLine then some (.str (Str.empty ++ t ++ numS i)) else none
  | .str y => if y.length ≤ sizeLine ∧ (Str.empty ++ t).length ≤ sizeLine ∧ (Str.empty ++ t ++ y).length ≤ sizeLine then some (.str (Str.empty ++ t ++ y)) else none
  | _ => none
def eFmt (t : Str) (m : W Da) : W Da := (W.req ((Str.empty ++ t).length ≤ sizeLine)).bind fun _ => eOp1 (dFmt t) m
section
variable {X : Cx} {G : Gc} {x : Ex → En → Prop}
theorem w_fmt {t : Str} {m : W Da} {ρ : En} {k : Da → En → Prop} (h : (Str.empty ++ t).length ≤ sizeLine ∧ m.wp ρ (fun d ρ1 => ∃ r, dFmt t d = some r ∧ k r ρ1) x) : (eFmt t m).wp ρ k x := ⟨h.1, w_op1 h.2⟩
theorem p_fmt {t : Str} {e : Expr} {j : Nat} {p1 p2 pos : Pos} {m : W Da} (he : PE X e (tp X.K G x m)) : PE X (.JoinedStr [.Constant (.str t) j p1, .FormattedValue e (-1) none p2] pos) (tp X.K G x (eFmt t m)) :=
  (pe_joined (.cons pe_str (.cons (pe_fmt he) .nil))).of fun σ H Q ⟨ρ, pe, ⟨O, S⟩, h, q⟩ => by
    refine ⟨t, rfl, h, ρ, pe, ⟨O, S⟩, m.mono (fun d ρ1 q v H1 ⟨O1, S1⟩ => ?_) (fun _ _ z => z) q⟩
    obtain ⟨r, er, q⟩ := W.opt_wp q
    have top := S1.top
    have pop := S1.pop
    unfold dFmt at er
    split at er
    · split at er
      · rename_i hi
        cases er
        exact .inr ⟨_, rep_int.mp top, hi.1, _, rfl, hi.2.2, q _ H1 ⟨O1, pop.pushD (rep_str.mpr rfl)⟩⟩
      · cases er
    · split at er
      · rename_i hi
        cases er
        exact .inl ⟨_, rep_str.mp top, hi.1, _, rfl, hi.2.2, q _ H1 ⟨O1, pop.pushD (rep_str.mpr rfl)⟩⟩
      · cases er
    · cases er
theorem i_enumS {a : Expr} {m : W Da} {p pos tpos p3 : Pos} {elts : List Expr} {kk j : Nat} (n : Nat) (hn : (n : Int) < 2 ^ 63) (hg : Gl X "enumerate") (hm : X.mg "enumerate" = none) (ha : PE X a (tp X.K G x m)) (hs : starEach [a, .Constant (.int (n : Int)) j p3] X.env = (false, eval a X.env) :: starEach [.Constant (.int (n : Int)) j p3] X.env := by rfl)
    (hs2 : starEach [.Constant (.int (n : Int)) j p3] X.env = (false, eval (.Constant (.int (n : Int)) j p3) X.env) :: starEach [] X.env := by rfl) (hpl : (backTo pos (starEach [.Constant (.int (n : Int)) j p3] X.env)).any (·.1) = false := by rfl) :
    PI X (.Tuple elts kk tpos) (.Call (.Name "enumerate" p) [a, .Constant (.int (n : Int)) j p3] [] pos) (tit X.K G x (iEnumS n m)) := (EnS.pi_enumS (by omega) hn hg hm (pa_cons ha (pa_cons pe_int pa_nil hs2) hs) hs hpl).of fun σ H R ⟨ρ, pe, S, q⟩ =>
  ⟨ρ, pe, S, m.mono (fun d ρ1 q v H1 ⟨O, S1⟩ => by
    obtain ⟨ds, e, q⟩ := W.opt_wp q
    have e' := of_asL e
    subst e'
    have r := S1.top
    have r' := r
    simp only [Rep] at r
    obtain ⟨a', xs, e, h1, z, rs⟩ := r
    subst e
    exact ⟨a', xs, rfl, h1.sq, q _ [(.ref a', .lst ds)] H1 (itOk_enumS n) (by rw [enumF_len]; exact z) ⟨O, S1.pop.pushDs fun p hp => by
      rw [List.mem_singleton.mp hp]
      exact r'⟩⟩) (fun _ _ z => z) q⟩
theorem p_revL {e : Expr} {k : Nat} {p1 p2 p3 pos : Pos} {m : W Da} (he : PE X e (tp X.K G x m)) : PE X (.Subscript e (.Slice none none (some (.UnaryOp .USub (.Constant (.int 1) k p1) p2)) p3) pos) (tp X.K G x (eRevL m)) :=
  (pe_revL he).of fun σ H Q ⟨ρ, pe, S, q⟩ => ⟨ρ, pe, S, m.mono (fun d ρ1 q v H1 ⟨O, S1⟩ => by
    obtain ⟨ds, e1, q⟩ := W.opt_wp q
    have ed := of_asL e1
    obtain ⟨a, us, ev, hs, z, r⟩ := rep_lst.mp (ed ▸ S1.top)
    refine ⟨a, us, ev, .inl (.inl hs.1), fun p np => q _ _ ⟨O, S1.pop.result (keep_upd np) (rep_newL np (by rw [List.length_reverse]; exact z) (reps_rev r))⟩⟩) (fun _ _ z => z) q⟩
theorem s_parO {i j : Nat} {n n' : Str} {a b : Expr} {px py pt pos : Pos} {kt k2 pt2} {ma mb : W (List Da)} (hc : X.calm = true) (hN : X.N.Nodup) (hi : X.N[i]? = some n) (hj : X.N[j]? = some n') (hij : i ≠ j)
    (hx : X.env.scope.names.lookup n = some .local) (hy : X.env.scope.names.lookup n' = some .local) (ha : PE X a (tow X.K G x ma)) (hb : PE X b (tow X.K G x mb))
    (hw : swappedStores [.Tuple [.Name n px, .Name n' py] kt pt] (.Tuple [a, b] k2 pt2) X.env = pure (some [n, n']))
    (hs : swapsWithSole [.Tuple [.Name n px, .Name n' py] kt pt] (.Tuple [a, b] k2 pt2) pos.line X.env = pure false := by rfl)
    (h1 : starEach [a, b] X.env = (false, eval a X.env) :: starEach [b] X.env := by rfl) (h2 : starEach [b] X.env = (false, eval b X.env) :: starEach [] X.env := by rfl) :
    PS X (.Assign [.Tuple [.Name n px, .Name n' py] kt pt] (.Tuple [a, b] k2 pt2) pos) (ts X.K G x (sParO i j ma mb)) :=
  (ps_par hc hN hi hj hij hx hy (pa_cons ha (pa_cons hb pa_nil h2) h1) hw hs).of fun D σ H ⟨ρ, pe, S, q⟩ => ⟨ρ, pe, S, ma.mono (fun ds ρ1 q v H1 S1 => ⟨ρ1, _, S1, mb.mono (fun es ρ2 q w H2 ⟨O, S2⟩ => by
    refine ⟨v, w, rfl, ?_⟩
    have S3 := S2.storeOwn j
    have S4 := S3.storeOwn i
    rw [List.set_comm _ _ (Ne.symm hij), List.set_comm _ _ (Ne.symm hij)] at S4
    exact q _ _ ⟨_, S4⟩) (fun _ _ z => z) q⟩) (fun _ _ z => z) q⟩
/-! the truth of a list of our own -/
def bOwn (i : Nat) : W Bool := W.env.bind fun ρ => (W.opt (lookOwn ρ i)).bind fun ds => W.ret (!ds.isEmpty)
theorem w_bOwn {i : Nat} {ρ : En} {kb : Bool → En → Prop} (h : ∃ ds, lookOwn ρ i = some ds ∧ kb (!ds.isEmpty) ρ) : (bOwn i).wp ρ kb x := w_opt h
theorem t_own {i : Nat} {e : Expr} (h : PE X e (tVar i)) (he : ∀ whole, isTrue e X.env whole = (do let v ← whole; standAt e.pos; holding [v] (truthy v)) := by intro _; rfl) : PT X e (ttt X.K G x (bOwn i)) :=
  (pt_truth h he).of fun σ H Q ⟨ρ, pe, ⟨O, S⟩, q⟩ => by
    obtain ⟨ds, e, q⟩ := W.opt_wp q
    obtain ⟨p, hp⟩ := own_slot S (by rw [e]; rfl)
    obtain ⟨xs, op, h, z, rs, np⟩ := own_at S hp e
    exact ⟨.ref p, hp, !ds.isEmpty, .inl ⟨xs, .inl (.inl h), by rw [rs.isEmpty]⟩, q H ⟨O, S⟩⟩
end
/-! ### a list of our own in slot i, compared -/
def eOwnCmp (f : Da → Da → Option Da) (i : Nat) (m : W Da) : W Da := W.env.bind fun ρ0 => (W.req ((lookOwn ρ0 i).isSome = true)).bind fun _ => m.bind fun d => W.env.bind fun ρ => (W.opt (lookOwn ρ i)).bind fun ds => (W.opt (f (.lst ds) d)).bind fun r => (W.opt (asB r)).bind fun b => W.ret (.bl b)
section
variable {X : Cx} {G : Gc} {x : Ex → En → Prop}
theorem w_ownCmp {f : Da → Da → Option Da} {i : Nat} {m : W Da} {ρ : En} {k : Da → En → Prop} (h0 : (lookOwn ρ i).isSome = true) (h : m.wp ρ (fun d ρ1 => ∃ ds, lookOwn ρ1 i = some ds ∧ ∃ r, f (.lst ds) d = some r ∧ ∃ b, asB r = some b ∧ k (.bl b) ρ1) x) : (eOwnCmp f i m).wp ρ k x :=
  ⟨h0, m.mono (fun d ρ1 ⟨ds, e1, r, e2, b, e3, q⟩ => w_opt ⟨ds, e1, w_opt ⟨r, e2, w_opt ⟨b, e3, q⟩⟩⟩) (fun _ _ z => z) h⟩
theorem tpOwn {r : R2} {f : Da → Da → Option Da} {i : Nat} {m : W Da} (h : Op2 X.K r f) {σ : L2.St} {H : Hp} {Q : VK} (q : tp X.K G x (eOwnCmp f i m) σ H Q) : tOp r (tVar i) (tp X.K G x m) σ H Q := by
  obtain ⟨ρ, pe, ⟨O, S⟩, q0, q⟩ := q
  obtain ⟨p, hp⟩ := own_slot S q0
  refine ⟨.ref p, hp, ρ, pe, ⟨O, S⟩, m.mono (fun d ρ1 q w H1 ⟨O1, S1⟩ => ?_) (fun _ _ z => z) q⟩
  obtain ⟨ds, e1, q⟩ := W.opt_wp q
  obtain ⟨r', e2, q⟩ := W.opt_wp (o := f (.lst ds) d) q
  obtain ⟨b, e3, q⟩ := W.opt_wp (o := asB r') q
  have e3 := of_asB e3
  subst e3
  obtain ⟨xs, op, hl, z, rs, np⟩ := own_at S1 hp e1
  refine h (fun _ => True) H1 _ _ _ (.ref p) w Q (rep_lst.mpr ⟨p, xs, rfl, ⟨hl, trivial⟩, z, Reps.mono (fun _ _ e _ => e) (fun _ _ _ _ => trivial) _ _ rs⟩) (Rep.mono (fun _ _ e _ => e) (fun _ _ _ _ => trivial) _ _ S1.top) e2 fun v' H' k rr => ?_
  have := rep_bl'.mp rr
  exact q v' H' ⟨O1, S1.pop.result k (rep_bl'.mpr this)⟩
theorem p_ownCmp {op : CmpOp} {r : R2} {f : Da → Da → Option Da} {a b : Expr} {i : Nat} {pos : Pos} {m : W Da} (ho : OpR X (compareOp op) r) (h : Op2 X.K r f) (ha : PE X a (tVar i)) (hb : PE X b (tp X.K G x m)) (hm : behindInMarks op b = false) :
    PE X (.Compare a [op] [b] pos) (tp X.K G x (eOwnCmp f i m)) := (pe_cmpR ho ha hb hm).of fun _ _ _ q => tpOwn h q
theorem t_ownCmp {op : CmpOp} {r : R2} {f : Da → Da → Option Da} {a b : Expr} {i : Nat} {pos : Pos} {m : W Da} (ho : OpR X (compareOp op) r) (h : Op2 X.K r f) (ha : PE X a (tVar i)) (hb : PE X b (tp X.K G x m)) (hm : behindInMarks op b = false) :
    PT X (.Compare a [op] [b] pos) (ttt X.K G x (bV (eOwnCmp f i m))) := (pt_cmpR ho ha hb hm).of fun _ _ _ q => tpOwn h (ttt_tB q)
end
end Pu
end
local macro_rules | `(tactic| walk_at "w1") => `(tactic| with_reducible refine Pu.w_ownCmp (by with_unfolding_all rfl) ?_)
local macro_rules | `(tactic| walk_at "w1") => `(tactic| with_reducible refine Pu.w_m1 ?_)
local macro_rules | `(tactic| walk_at "w1") => `(tactic| with_reducible refine Pu.w_enumS ?_)
local macro_rules | `(tactic| walk_at "w1") => `(tactic| with_reducible refine Pu.w_revL ?_)
local macro_rules | `(tactic| walk_at "w1") => `(tactic| with_reducible refine Pu.w_fmt ?_)
local macro_rules | `(tactic| walk_at "w1") => `(tactic| with_reducible refine Pu.w_bOwn ?_)
local macro_rules | `(tactic| walk_at "w1") => `(tactic| with_reducible refine Pu.v_parO ?_)

section
set_option maxHeartbeats 4000000
/-! texts, plain: cut at a sign, joined, whole numbers -/
namespace Tx
open PySem PySem.Spec PyProof.Rows L2 Pu TL

abbrev nlS : Str := PySem.Str.ofString "\n"
abbrev spS : Str := PySem.Str.ofString " "
theorem tl_nl : tl nlS = [10] := by decide +kernel
theorem tl_sp : tl spS = [32] := by decide +kernel
theorem nl_ok : nlS.cps.all (· < 256) = true := by decide +kernel
theorem sp_ok : spS.cps.all (· < 256) = true := by decide +kernel
/-- each sign one byte -/
def Asc (z : Str) : Prop := ∀ c ∈ tl z, c < 256
theorem Asc.ok {z : Str} (h : Asc z) : PyData.strOk z = true := by
  unfold PyData.strOk
  rw [← Array.all_toList, List.all_eq_true]
  intro c hc
  have := h c hc
  simp
  omega
/-! ### cut at one sign -/
def cutL (s : Nat) : List Nat → List Nat → List (List Nat)
  | acc, [] => [acc]
  | acc, c :: r => if c = s then acc :: cutL s [] r else cutL s (acc ++ [c]) r
theorem spl_cut (s : Nat) : ∀ (l acc : List Nat), spl [s] 0 acc l = cutL s acc l
  | [], acc => spl_nil _ _ _
  | c :: r, acc => by
    unfold cutL
    by_cases h : c = s
    · rw [if_pos h, spl_hit (by unfold pre; simp [h])]
      exact congrArg _ (spl_cut s r [])
    · rw [if_neg h, spl_miss (by unfold pre; simp [h])]
      exact spl_cut s r _
theorem cut_ne (s : Nat) : ∀ (l acc : List Nat), cutL s acc l ≠ []
  | [], acc => by simp [cutL]
  | c :: r, acc => by
    unfold cutL
    split
    · simp
    · exact cut_ne s r _
theorem cut_mem {s : Nat} : ∀ {l acc : List Nat}, s ∉ acc → ∀ p ∈ cutL s acc l, s ∉ p ∧ ∀ c ∈ p, c ∈ acc ∨ c ∈ l
  | [], acc, h, p, hp => by
    rw [List.mem_singleton.mp hp]
    exact ⟨h, fun c hc => .inl hc⟩
  | c :: r, acc, h, p, hp => by
    unfold cutL at hp
    split at hp
    · rcases List.mem_cons.mp hp with rfl | hp
      · exact ⟨h, fun c hc => .inl hc⟩
      · obtain ⟨a, b⟩ := cut_mem (s := s) (l := r) (acc := []) (by simp) p hp
        exact ⟨a, fun c hc => (b c hc).elim (fun z => by cases z) fun z => .inr (List.mem_cons_of_mem _ z)⟩
    · rename_i hc
      obtain ⟨a, b⟩ := cut_mem (s := s) (l := r) (acc := acc ++ [c]) (by simp [h]; exact fun e => hc e.symm) p hp
      refine ⟨a, fun d hd => (b d hd).elim (fun z => ?_) fun z => .inr (List.mem_cons_of_mem _ z)⟩
      rcases List.mem_append.mp z with z | z
      · exact .inl z
      · exact .inr (by rw [List.mem_singleton.mp z]; exact List.mem_cons_self)
def costL (ls : List (List Nat)) : Nat := (ls.map fun p => p.length + 1).sum
theorem cut_cost (s : Nat) : ∀ (l acc : List Nat), costL (cutL s acc l) = acc.length + l.length + 1
  | [], acc => by simp [cutL, costL]
  | c :: r, acc => by
    unfold cutL
    split
    · have := cut_cost s r []
      unfold costL at this ⊢
      simp only [List.map_cons, List.sum_cons, this, List.length_nil, List.length_cons]
      omega
    · rw [cut_cost s r _]
      simp
      omega
/-- the cost of parts: with one sign behind each -/
def cost (ps : List Str) : Nat := (ps.map fun p => p.length + 1).sum
theorem cost_tl (ps : List Str) : cost ps = costL (ps.map tl) := by
  unfold cost costL
  rw [List.map_map]
  refine congrArg List.sum (List.map_congr_left fun p _ => ?_)
  show p.length + 1 = (tl p).length + 1
  rw [len_tl]
theorem cost_sum (ps : List Str) : (ps.map (·.length)).sum + ps.length * 1 = cost ps := by
  induction ps with
  | nil => rfl
  | cons p ps ih =>
    unfold cost at *
    simp only [List.map_cons, List.sum_cons, List.length_cons]
    omega
theorem cost_app (a b : List Str) : cost (a ++ b) = cost a + cost b := by simp [cost]
theorem cost_take (n : Nat) (a : List Str) : cost (a.take n) ≤ cost a := by
  have e := cost_app (a.take n) (a.drop n)
  rw [List.take_append_drop] at e
  omega
theorem cost_drop (n : Nat) (a : List Str) : cost (a.drop n) ≤ cost a := by
  have e := cost_app (a.take n) (a.drop n)
  rw [List.take_append_drop] at e
  omega
theorem cost_td (n : Nat) (a : List Str) : cost (a.take n) + cost (a.drop n) = cost a := by
  have e := cost_app (a.take n) (a.drop n)
  rw [List.take_append_drop] at e
  omega
theorem len_cost (a : List Str) : a.length ≤ cost a := by
  have := cost_sum a
  omega
theorem mem_cost {a : List Str} {p : Str} (h : p ∈ a) : p.length < cost a := by
  induction a with
  | nil => cases h
  | cons q a ih =>
    unfold cost at *
    simp only [List.map_cons, List.sum_cons]
    rcases List.mem_cons.mp h with rfl | h
    · omega
    · have := ih h
      omega
section
variable {x y : Str} {s : Nat}
theorem split_tl (ey : tl y = [s]) (hk : y.cps.all (· < 256) = true) : (Txt.split x y).map tl = cutL s [] (tl x) := by
  rw [split_spl x y (by rw [ey]; simp) (kind_ok hk), ey, spl_cut]
theorem split_ne (ey : tl y = [s]) (hk : y.cps.all (· < 256) = true) : Txt.split x y ≠ [] := fun e => by
  have := split_tl (x := x) ey hk
  rw [e] at this
  exact cut_ne s _ _ this.symm
theorem split_mem (ey : tl y = [s]) (hk : y.cps.all (· < 256) = true) {p : Str} (hp : p ∈ Txt.split x y) : s ∉ tl p ∧ ∀ c ∈ tl p, c ∈ tl x := by
  have e := split_tl (x := x) ey hk
  have hm : tl p ∈ cutL s [] (tl x) := by
    rw [← e]
    exact List.mem_map.mpr ⟨p, hp, rfl⟩
  obtain ⟨a, b⟩ := cut_mem (by simp) _ hm
  exact ⟨a, fun c hc => (b c hc).elim (fun z => by cases z) id⟩
theorem split_cost (ey : tl y = [s]) (hk : y.cps.all (· < 256) = true) : cost (Txt.split x y) = x.length + 1 := by
  rw [cost_tl, split_tl ey hk, cut_cost, len_tl]
  simp
theorem sep_len (ey : tl y = [s]) : y.length = 1 := by rw [len_tl, ey]; rfl
theorem dSplit_eq (ey : tl y = [s]) (hl : x.length ≤ 999998) : dSplit (.str x) (.str y) = some (.lst ((Txt.split x y).map Da.str)) := by
  show (if _ then _ else _) = _
  rw [if_pos ⟨by rw [sep_len ey]; rfl, by omega⟩]
theorem joinL_len (s : Nat) : ∀ ls : List (List Nat), (joinL [s] ls).length ≤ costL ls
  | [] => Nat.zero_le _
  | [p] => by simp [joinL, costL]
  | p :: q :: r => by
    have := joinL_len s (q :: r)
    unfold costL at *
    simp only [joinL, List.length_append, List.map_cons, List.sum_cons, List.length_singleton] at *
    omega
theorem joinL_mem {s : Nat} : ∀ {ls : List (List Nat)} {c : Nat}, c ∈ joinL [s] ls → c = s ∨ ∃ p ∈ ls, c ∈ p
  | [], c, h => by cases h
  | [p], c, h => .inr ⟨p, List.mem_singleton.mpr rfl, h⟩
  | p :: q :: r, c, h => by
    simp only [joinL, List.mem_append, List.mem_singleton] at h
    rcases h with h | h | h
    · exact .inr ⟨p, List.mem_cons_self, h⟩
    · exact .inl h
    · exact (joinL_mem h).imp id fun ⟨z, hz, hc⟩ => ⟨z, List.mem_cons_of_mem _ hz, hc⟩
theorem join_tl (ey : tl y = [s]) (ps : List Str) : tl (Txt.join y ps) = joinL [s] (ps.map tl) := by rw [join_eq, tl_join, ey]
theorem join_len (ey : tl y = [s]) (ps : List Str) : (Txt.join y ps).length ≤ cost ps := by
  rw [len_tl, join_tl ey, cost_tl]
  exact joinL_len s _
theorem join_mem (ey : tl y = [s]) {ps : List Str} {c : Nat} (h : c ∈ tl (Txt.join y ps)) : c = s ∨ ∃ p ∈ ps, c ∈ tl p := by
  rw [join_tl ey] at h
  refine (joinL_mem h).imp id fun ⟨p, hp, hc⟩ => ?_
  obtain ⟨z, hz, rfl⟩ := List.mem_map.mp hp
  exact ⟨z, hz, hc⟩
theorem dJoin_lst (ey : tl y = [s]) {ps : List Str} (h : cost ps ≤ 16777216) : dJoin (.str y) (.lst (ps.map Da.str)) = some (.str (Txt.join y ps)) := by
  show (strsL _).bind _ = _
  rw [strsL_map]
  show (if _ then _ else _) = _
  rw [if_pos (by rw [sep_len ey, cost_sum]; exact h)]
theorem split_join1 (ey : tl y = [s]) (hk : y.cps.all (· < 256) = true) {ps : List Str} (hne : ps ≠ []) (hp : ∀ p ∈ ps, s ∉ tl p) : Txt.split (Txt.join y ps) y = ps := split_join ey hk hne hp
end
/-! ### whole numbers -/
abbrev emS : Str := PySem.Str.ofString ""
abbrev zrS : Str := PySem.Str.ofString "0"
abbrev miS : Str := PySem.Str.ofString "-"
abbrev dgS : Str := PySem.Str.ofString "0123456789"
theorem tl_em : tl emS = [] := by decide +kernel
theorem tl_zr : tl zrS = [48] := by decide +kernel
theorem tl_mi : tl miS = [45] := by decide +kernel
theorem tl_dg : tl dgS = [48, 49, 50, 51, 52, 53, 54, 55, 56, 57] := by decide +kernel
/-- the figures of a word -/
def figs (w : Str) : List Nat := match tl w with
  | 45 :: r => r
  | l => l
def negW (w : Str) : Bool := match tl w with
  | 45 :: _ => true
  | _ => false
def isDig (c : Nat) : Bool := decide (c ∈ tl dgS)
def wholeB (w : Str) : Bool := !(figs w).isEmpty && (decide ((figs w).length ≤ 12) && (figs w).all isDig) && (decide (tl w = [48]) || decide ((figs w).head? ≠ some 48))
def wholeV (w : Str) : Int := if negW w then - ((NumText.digitsVal (figs w) : Nat) : Int) else ((NumText.digitsVal (figs w) : Nat) : Int)
def whole (w : Str) : Option Int := if wholeB w then some (wholeV w) else none
theorem isDig_iff (c : Nat) : isDig c = true ↔ 48 ≤ c ∧ c ≤ 57 := by
  unfold isDig
  rw [decide_eq_true_eq, tl_dg]
  simp
  omega
theorem wholeB_figs {w : Str} (h : wholeB w = true) : figs w ≠ [] ∧ (figs w).length ≤ 12 ∧ NumText.AllDigits (figs w) ∧ (tl w = [48] ∨ (figs w).head? ≠ some 48) := by
  unfold wholeB at h
  simp only [Bool.and_eq_true, Bool.or_eq_true, Bool.not_eq_true', decide_eq_true_eq, List.all_eq_true] at h
  refine ⟨fun e => by rw [e] at h; simp at h, h.1.2.1, fun c hc => (isDig_iff c).mp (h.1.2.2 c hc), h.2⟩
theorem figs_neg {w : Str} {r : List Nat} (h : tl w = 45 :: r) : figs w = r ∧ negW w = true := by
  unfold figs negW
  rw [h]
  exact ⟨rfl, rfl⟩
theorem figs_pos {w : Str} (h : (tl w).head? ≠ some 45) : figs w = tl w ∧ negW w = false := by
  unfold figs negW
  cases e : tl w with
  | nil => exact ⟨rfl, rfl⟩
  | cons c r =>
    rw [e] at h
    have hc : c ≠ 45 := fun z => h (by rw [z]; rfl)
    constructor
    · split
      · rename_i r' e'
        cases e'
        exact absurd rfl hc
      · rfl
    · split
      · rename_i r' e'
        cases e'
        exact absurd rfl hc
      · rfl
theorem tl_cases (w : Str) : (∃ r, tl w = 45 :: r) ∨ (tl w).head? ≠ some 45 := by
  cases e : tl w with
  | nil => exact .inr (by simp)
  | cons c r =>
    by_cases h : c = 45
    · exact .inl ⟨r, by rw [h]⟩
    · exact .inr (by simpa using h)
theorem val_pos : ∀ (l : List Nat) (a : Nat), 0 < a → 0 < l.foldl (fun acc c => acc * 10 + (c - 48)) a
  | [], a, h => h
  | c :: r, a, h => val_pos r (a * 10 + (c - 48)) (by omega)
theorem head_pos {l : List Nat} (h : NumText.AllDigits l) (hn : l ≠ []) (h0 : l.head? ≠ some 48) : 0 < NumText.digitsVal l := by
  cases l with
  | nil => exact absurd rfl hn
  | cons c r =>
    have hc := h.head
    have : c ≠ 48 := fun e => h0 (by rw [e]; rfl)
    unfold NumText.digitsVal
    rw [List.foldl_cons]
    exact val_pos r _ (by omega)
/-- the program's int() of a whole word -/
theorem whole_int {w : Str} (h : wholeB w = true) : PySem.intText? w = some (wholeV w) ∧ w.length ≤ 640 := by
  obtain ⟨h1, h2, h3, _⟩ := wholeB_figs h
  rcases tl_cases w with ⟨r, e⟩ | e
  · obtain ⟨f, g⟩ := figs_neg e
    rw [f] at h1 h2 h3
    have hl : w.length ≤ 640 := by rw [len_tl, e, List.length_cons]; omega
    unfold wholeV
    rw [f, g, if_pos rfl]
    exact ⟨intText_neg e h3 h1 (by omega), hl⟩
  · obtain ⟨f, g⟩ := figs_pos e
    rw [f] at h1 h2 h3
    have hl : w.length ≤ 640 := by rw [len_tl]; omega
    unfold wholeV
    rw [f, g, if_neg Bool.false_ne_true]
    exact ⟨intText_digits h3 h1 (by omega), hl⟩
theorem dInt_whole {w : Str} (h : wholeB w = true) : dIntS [.str w] = some (.int (wholeV w)) := by
  obtain ⟨e, hl⟩ := whole_int h
  show (if _ then _ else _) = _
  rw [if_pos hl, e]
  rfl
/-- the sign of a whole number -/
theorem whole_sign {w : Str} (h : wholeB w = true) : (0 ≤ wholeV w ↔ (tl w).head? ≠ some 45) ∧ (wholeV w = 0 ↔ tl w = [48]) := by
  obtain ⟨h1, h2, h3, h4⟩ := wholeB_figs h
  rcases tl_cases w with ⟨r, e⟩ | e
  · obtain ⟨f, g⟩ := figs_neg e
    rw [e] at h4
    have h5 : (figs w).head? ≠ some 48 := h4.resolve_left (by simp)
    have := head_pos h3 h1 h5
    unfold wholeV
    rw [g, if_pos rfl, e]
    exact ⟨⟨fun z => by omega, fun z => absurd rfl z⟩, ⟨fun z => by omega, fun z => by simp at z⟩⟩
  · obtain ⟨f, g⟩ := figs_pos e
    unfold wholeV
    rw [g, if_neg Bool.false_ne_true]
    refine ⟨⟨fun _ => e, fun _ => by omega⟩, ⟨fun z => ?_, fun z => ?_⟩⟩
    · refine h4.resolve_right fun h5 => ?_
      have := head_pos h3 h1 h5
      omega
    · rw [f, z]
      rfl
/-! numbers as texts -/
theorem num_pos (n : Nat) : tl (numS (n : Int)) = numL n := tl_num n
theorem num_neg (m : Nat) : tl (numS (Int.negSucc m)) = 45 :: numL (m + 1) := by
  have e : (toString (Int.negSucc m) : String) = "-" ++ toString ((m + 1 : Nat) : Int) := rfl
  show tl (Str.ofString (toString (Int.negSucc m))) = _
  rw [e, tl_ofString, String.toList_append, List.map_append]
  have := tl_num (m + 1)
  rw [tl_ofString] at this
  rw [this]
  rfl
theorem numL_head {n : Nat} (h : 0 < n) : (numL n).head? ≠ some 48 := by
  induction n using Nat.strongRecOn with
  | _ n ih =>
    by_cases h1 : n < 10
    · rw [numL_lt h1]
      simp
      omega
    · rw [numL_step (by omega)]
      have := ih (n / 10) (by omega) (by omega)
      cases e : numL (n / 10) with
      | nil => exact absurd e (numL_ne _)
      | cons c r =>
        rw [e] at this
        simpa using this
theorem digs_all {l : List Nat} (h : NumText.AllDigits l) : l.all isDig = true := by
  rw [List.all_eq_true]
  exact fun c hc => (isDig_iff c).mpr (h c hc)
theorem numL_no45 (n : Nat) : (numL n).head? ≠ some 45 := fun e => by
  have : 45 ∈ numL n := List.mem_of_mem_head? e
  exact numL_free (by omega) this
theorem whole_num {i : Int} (h : i.natAbs < 10 ^ 12) : whole (numS i) = some i := by
  unfold whole
  cases i with
  | ofNat n =>
    have et : tl (numS (Int.ofNat n)) = numL n := num_pos n
    have hn : n < 10 ^ 12 := h
    obtain ⟨f, g⟩ := figs_pos (w := numS (Int.ofNat n)) (by rw [et]; exact numL_no45 n)
    rw [et] at f
    have hb : wholeB (numS (Int.ofNat n)) = true := by
      unfold wholeB
      rw [f, et]
      have h1 : (numL n).isEmpty = false := by
        cases e : numL n with
        | nil => exact absurd e (numL_ne n)
        | cons c r => rfl
      have h2 : (numL n).length ≤ 12 := numL_len (by decide) hn
      rw [h1, digs_all (numL_digits n), decide_eq_true h2]
      by_cases h0 : n = 0
      · subst h0
        rfl
      · have := numL_head (n := n) (by omega)
        simp [this]
    rw [if_pos hb]
    unfold wholeV
    rw [g, if_neg Bool.false_ne_true, f, numL_val]
    rfl
  | negSucc m =>
    have et := num_neg m
    have hn : m + 1 < 10 ^ 12 := h
    obtain ⟨f, g⟩ := figs_neg et
    have hb : wholeB (numS (Int.negSucc m)) = true := by
      unfold wholeB
      rw [f, et]
      have h1 : (numL (m + 1)).isEmpty = false := by
        cases e : numL (m + 1) with
        | nil => exact absurd e (numL_ne _)
        | cons c r => rfl
      have h2 : (numL (m + 1)).length ≤ 12 := numL_len (by decide) hn
      have := numL_head (n := m + 1) (by omega)
      rw [h1, digs_all (numL_digits _), decide_eq_true h2]
      simp [this]
    rw [if_pos hb]
    unfold wholeV
    rw [g, if_pos rfl, f, numL_val]
    rfl
end Tx
end

section
namespace PySem.W
open PySem PySem.Calls PyProof.Rows
theorem rvo_range (m : Nat) : (List.range m).map (fun k => m - k) = ((List.range m).map (1 + ·)).reverse := by
  apply List.ext_getElem
  · simp
  · intro i h1 h2
    rw [List.getElem_map, List.getElem_reverse, List.getElem_map]
    simp only [List.getElem_range, List.length_map, List.length_range]
    simp at h1
    omega
theorem rvo_bounds (n : Nat) : sliceBounds none (some 0) (some (-1)) n = ((n : Int) - 1, min 0 ((n : Int) - 1), -1) := by
  simp [sliceBounds]
  omega
theorem rvo_sliceRange (n : Nat) : sliceRange ((n : Int) - 1) (min 0 ((n : Int) - 1)) (-1) = (List.range (n - 1)).map fun k => n - 1 - k := by
  unfold sliceRange
  have h1 : ¬ ((-1 : Int) > 0) := by decide
  by_cases h : (n : Int) - 1 > min 0 ((n : Int) - 1)
  · have e : ((n : Int) - 1 - min 0 ((n : Int) - 1) - -1 - 1) / (- -1) = ((n - 1 : Nat) : Int) := by
      rw [show (- -1 : Int) = 1 by decide, Int.ediv_one]
      omega
    simp only [h1, if_false, h, if_true, e, Int.toNat_natCast]
    apply List.map_congr_left
    intro k hk
    have := List.mem_range.mp hk
    omega
  · have e : n - 1 = 0 := by omega
    rw [e]
    simp [h1, h]
theorem rvo_pick (items : Array Value) : slicePick items none (some 0) (some (-1)) = (items.toList.drop 1).reverse.toArray := by
  unfold slicePick
  rw [rvo_bounds]
  show ((sliceRange ((items.size : Int) - 1) (min 0 ((items.size : Int) - 1)) (-1)).filterMap (items[·]?)).toArray = _
  rw [rvo_sliceRange, rvo_range, List.filterMap_reverse, pick_run]
  rw [List.take_of_length_le (by simp)]
end PySem.W
namespace L2
open PySem PySem.Spec PyProof.Rows
section
variable {X : Cx}
/-! ### xs[:0:-1] -/
def tRevO (K : PySem.W.Frag) (te : TE) : TE := fun σ H Q => te σ H fun x H1 => ∃ a xs, x = .ref a ∧ SqL K H1 a xs ∧ ∀ p, H1 p = none → Q (.ref p) (upd H1 p (.lst (xs.drop 1).reverse))
theorem pe_revO {e : Expr} {te : TE} {k k0 : Nat} {p0 p1 p2 p3 pos : Pos} (he : PE X e te) : PE X (.Subscript e (.Slice none (some (.Constant (.int 0) k0 p0)) (some (.UnaryOp .USub (.Constant (.int 1) k p1) p2)) p3) pos) (tRevO X.K te) := by
  refine ⟨fun pins s σ H Q I h => ?_⟩
  refine Subscript_ (thn (he.run pins s σ H _ I h) fun v s1 ⟨x, H1, I1, r1, q1⟩ => ?_)
  obtain ⟨a, xs, ex, hx, q⟩ := q1
  subst ex
  cases r1
  have hst : PO X (some (.UnaryOp .USub (.Constant (.int 1) k p1) p2)) (tPart (tUn (rU fun i => .int (-i)) (tC (.int 1)))) := po_some (pe_un un_neg pe_int)
  have hhi : PO X (some (.Constant (.int 0) k0 p0)) (tPart (tC (.int 0))) := po_some pe_int
  refine wpAny_Slice (thn (po_none.run pins s1 σ H1 (fun o H2 => o = none ∧ H2 = H1) I1 ⟨rfl, rfl⟩) fun vl s2 ⟨l, H2, I2, pl, el, e2⟩ => ?_)
  subst el e2
  refine thn (hhi.run pins s2 σ H2 (fun o H3 => o = some 0 ∧ H3 = H2) I2 ⟨0, rfl, rfl, rfl⟩) fun vu s3 ⟨u, H3, I3, pu, eu, e3⟩ => ?_
  subst eu e3
  refine thn (hst.run pins s3 σ H3 (fun o H4 => o = some (-1) ∧ H4 = H3) I3 ⟨1, rfl, -1, rfl, rfl, rfl⟩) fun vs s4 ⟨o, H4, I4, ps, eo, e4⟩ => ?_
  subst eo e4
  have I5 : Inv X pins σ H4 { s4 with heap := s4.heap.push { cls := .type "slice", data := .fields #[vl, vu, vs] } } := I4.kept (t' := s4.toks) fun b ob q => Heap.get?_push_of_some _ q
  obtain ⟨its, r, ht, hz⟩ := I5.list hx
  have hlen := r.length
  show wpAny (model X.prog X.w) X.A (subscriptTail e (.Slice none (some (.Constant (.int 0) k0 p0)) (some (.UnaryOp .USub (.Constant (.int 1) k p1) p2)) p3) (.ref a) (.ref s4.heap.objs.size)) (EP X pins σ Q) X.xe { s4 with heap := s4.heap.push { cls := .type "slice", data := .fields #[vl, vu, vs] } }
  refine tail_any (ops := [.ref a, .ref s4.heap.objs.size]) ht.isList.typeIs (PySem.slot_list_getitem.lookup) ?_ (by with_unfolding_all rfl)
  refine wpAny_getItem_list_slice ht.isList (Heap.IsSliceOf.new _ vl vu vs) pl pu ps (by decide) ?_ (by rw [List.size_toArray]; omega)
  rw [PySem.W.rvo_pick]
  refine ⟨.ref _, _, I5.laid (t' := s4.toks) (o := .lst (xs.drop 1).reverse) (fun b ob q => Heap.get?_push_of_some _ q) (Nat.le_refl _) ?_, rfl, q _ (I5.hok.fresh (Nat.le_refl _))⟩
  refine ⟨by rw [List.length_reverse, List.length_drop]; omega, _, 0, (r.drop 1).reverse, Heap.get?_push_size _ rfl⟩
end
end L2
end

section
namespace Pu
open PySem PySem.Spec PyProof.Rows L2

/-! ### xs[:0:-1] -/
def eRevO (m : W Da) : W Da := m.bind fun d => (W.opt (asL d)).bind fun ds => W.ret (.lst (ds.drop 1).reverse)
theorem w_revO {m : W Da} {ρ : En} {k : Da → En → Prop} {x : Ex → En → Prop} (h : m.wp ρ (fun d ρ1 => ∃ ds, asL d = some ds ∧ k (.lst (ds.drop 1).reverse) ρ1) x) : (eRevO m).wp ρ k x := m.mono (fun d ρ1 q => w_opt q) (fun _ _ z => z) h
section
variable {X : Cx} {G : Gc} {x : Ex → En → Prop}
theorem reps_drop {K : PySem.W.Frag} {L : Addr → Prop} {H : Hp} : ∀ {n : Nat} {ds : List Da} {vs : List V}, Reps K L H ds vs → Reps K L H (ds.drop n) (vs.drop n)
  | 0, _, _, h => h
  | n + 1, [], vs, h => by
    simp only [Reps] at h
    subst h
    simp only [List.drop_nil, Reps]
  | n + 1, d :: ds, vs, h => by
    simp only [Reps] at h
    obtain ⟨v, us, rfl, h1, h2⟩ := h
    exact reps_drop (n := n) h2
theorem p_revO {e : Expr} {k k0 : Nat} {p0 p1 p2 p3 pos : Pos} {m : W Da} (he : PE X e (tp X.K G x m)) : PE X (.Subscript e (.Slice none (some (.Constant (.int 0) k0 p0)) (some (.UnaryOp .USub (.Constant (.int 1) k p1) p2)) p3) pos) (tp X.K G x (eRevO m)) :=
  (pe_revO he).of fun σ H Q ⟨ρ, pe, S, q⟩ => ⟨ρ, pe, S, m.mono (fun d ρ1 q v H1 ⟨O, S1⟩ => by
    obtain ⟨ds, e1, q⟩ := W.opt_wp q
    have ed := of_asL e1
    obtain ⟨a, us, ev, hs, z, r⟩ := rep_lst.mp (ed ▸ S1.top)
    refine ⟨a, us, ev, .inl (.inl hs.1), fun p np => q _ _ ⟨O, S1.pop.result (keep_upd np) (rep_newL np (by rw [List.length_reverse, List.length_drop]; omega) (reps_rev (reps_drop r)))⟩⟩) (fun _ _ z => z) q⟩
end
theorem v_tryU {cat : Str → Option Bool} {b s : Sx} {ρ : En} {E : Fl} (h : b.wp ρ { E with ex := tryExU cat s E }) : (sTryU cat b s).wp ρ E := h
theorem w_setOf {m : W (List Da)} {ρ : En} {kl : List Da → En → Prop} {x : Ex → En → Prop} (h : m.wp ρ (fun ds ρ1 => (ds.length < 60 ∧ ∀ d ∈ ds, (intKey d).isSome = true) ∧ kl ds ρ1) x) : (eSetOf m).wp ρ kl x := h
theorem w_sortS {m : W (List Da)} {ρ : En} {kl : List Da → En → Prop} {x : Ex → En → Prop} (h : m.wp ρ (fun ds ρ1 => alikeD ds ∧ ds.length ≤ 1000 ∧ ∀ ms, SetOf ds ms → kl (sortD ms) ρ1) x) : (eSortS m).wp ρ kl x := h
end Pu
end
local macro_rules | `(tactic| walk_at "w1") => `(tactic| with_reducible refine Pu.w_setOf ?_)
local macro_rules | `(tactic| walk_at "w1") => `(tactic| with_reducible refine Pu.w_sortS ?_)
local macro_rules | `(tactic| walk_at "w1") => `(tactic| with_reducible refine Pu.v_tryU ?_)
local macro_rules | `(tactic| walk_at "w1") => `(tactic| with_reducible refine Pu.w_revO ?_)

section
set_option maxHeartbeats 4000000
namespace K03
open PySem PySem.Spec PyProof.Rows L2 Pu
def topS (i : Nat) : Stmt := PySem.Challenge.pw_coresprice_k03_whole_problem_texts_with.main.body.getD i (.Pass ⟨0, 0, 0, 0⟩)
/-- a class's statement -/
def clsS : Stmt → Nat → Stmt
  | .ClassDef _ _ _ body _ _ _ _ _ _ _, j => body.getD j (.Pass ⟨0, 0, 0, 0⟩)
  | s, _ => s
theorem units_of {A : Around} {k n : Nat} (hr : Room k A) (h : n ≤ 200) : A.units + n < cLine := by
  have := hr.un
  omega

abbrev s_ordered : Stmt := topS 7
abbrev N_ordered : List Str := [(PySem.Str.ofString "literals"), (PySem.Str.ofString "own"), (PySem.Str.ofString "literal")]
theorem sc_ordered : FnScope N_ordered [(PySem.Str.ofString "literals")] (defScope s_ordered) := ⟨rfl, rfl, rfl, by decide +kernel, rfl, by decide +kernel, by decide +kernel⟩
def S_ordered  : Sx := sRet (eFrz (eLC [1] (iSeq (eFrz (eSortS (eSC [2] (iSeq (eVar 0)) (.name 2) bYes (eTup (eCons (eOpN dAbs (eCons (eVar 2) (eNil))) (eCons (eOp2 dLt (eVar 2) (eC (.int 0))) (eCons (eVar 2) (eNil))))))))) (.name 1) bYes (eIdx (eVar 1) (eC (.int 2)))))
theorem ok_ordered {P : Program} {w : World} {K : PySem.W.Frag} {mg : Str → Option Value} {base : Heap} {a0 : Addr} {d0 : FuncData}  {F : Fn} (Fu : Fun K (PySem.Str.ofString "ordered") (PySem.Str.ofString "ordered") s_ordered a0 d0) (m_sorted : mg (PySem.Str.ofString "sorted") = none) (m_abs : mg (PySem.Str.ofString "abs") = none) (hw : Keeps 1 N_ordered.length F (S_ordered )) : FnOk P w K mg base (L2.CX P w) (0 + 1) a0 d0 [(PySem.Str.ofString "literals")] (spD K mg 1 F) :=
  okD Fu sc_ordered rfl (fun cdv A outer s H E G xw hr xo => have nd := sc_ordered.nd; (ss_one (s_ret (p_frz (p_lc rfl nd (i_seq (p_frz (p_sortS xo.so (units_of hr (by decide)) rfl (by rfl) m_sorted (p_sc xo.so (units_of hr (by decide)) rfl nd (i_seq (p_var 0 (pv 0))) (blkOk_by (own := [((PySem.Str.ofString "literal"), 2)]) (N := N_ordered) (sc := defScope (s_ordered)) (by decide +kernel)) (fun _ _ _ _ _ => (g_name 2 (pg_name (i := 2) nd rfl (by first | exact .inl rfl | exact .inr rfl)))) (fun _ _ _ _ _ => ts_nil) (fun _ _ _ _ _ => (p_tup (pa_cons' (p_callB call_abs f_abs (by rfl) m_abs rfl (pa_cons' (p_var 2 (pv 2)) pa_nil')) (pa_cons' (p_cmp op_lt f_lt (p_var 2 (pv 2)) p_int (by first | exact nomark _ | rfl)) (pa_cons' (p_var 2 (pv 2)) pa_nil'))))) (by decide))))) (blkOk_by (own := [((PySem.Str.ofString "own"), 1)]) (N := N_ordered) (sc := defScope (s_ordered)) (by decide +kernel)) (fun _ _ _ _ _ => (g_name 1 (pg_name (i := 1) nd rfl (by first | exact .inl rfl | exact .inr rfl)))) (fun _ _ _ _ _ => ts_nil) (fun _ _ _ _ _ => (p_idx (p_var 1 (pv 1)) p_int)) (by decide)))))) hw
abbrev s_clause_of : Stmt := topS 8
abbrev N_clause_of : List Str := [(PySem.Str.ofString "literals"), (PySem.Str.ofString "found"), (PySem.Str.ofString "literal"), (PySem.Str.ofString "one"), (PySem.Str.ofString "two")]
theorem sc_clause_of : FnScope N_clause_of [(PySem.Str.ofString "literals")] (defScope s_clause_of) := ⟨rfl, rfl, rfl, by decide +kernel, rfl, by decide +kernel, by decide +kernel⟩
def S_clause_of (F_ordered : Fn) : Sx := sSeq (sSet 1 (eCall F_ordered 1 (eCons (eVar 0) (eNil)))) (sSeq (sIf (bNot (bT (eOpN dAll (eCons (eFrz (eLC [2] (iSeq (eVar 1)) (.name 2) bYes (eAnd (eOp2 dNe (eVar 2) (eC (.int 0))) (eOp2 dLe (eOpN dAbs (eCons (eVar 2) (eNil))) (eC (.int 1000000)))))) (eNil))))) (sRaise (PySem.Str.ofString "BadClause") (PySem.Str.ofString "what") (eC (.str (PySem.Str.ofString "literal")))) (sPass)) (sSeq (sIf (bT (eOpN dAny (eCons (eFrz (eLC [3, 4] (iZip (eVar 1) (eSl (eVar 1) (oSome (eC (.int 1))) (oNone))) (.tup [.name 3, .name 4]) bYes (eOp2 dEq (eOpN dAbs (eCons (eVar 3) (eNil))) (eOpN dAbs (eCons (eVar 4) (eNil)))))) (eNil)))) (sRaise (PySem.Str.ofString "BadClause") (PySem.Str.ofString "what") (eC (.str (PySem.Str.ofString "opposites")))) (sPass)) (sRet (eOpN dTuple (eCons (eVar 1) (eNil))))))
theorem ok_clause_of {P : Program} {w : World} {K : PySem.W.Frag} {mg : Str → Option Value} {base : Heap} {a0 : Addr} {d0 : FuncData} (F_ordered : Fn) {F : Fn} (Fu : Fun K (PySem.Str.ofString "clause_of") (PySem.Str.ofString "clause_of") s_clause_of a0 d0) (m_any : mg (PySem.Str.ofString "any") = none) (m_tuple : mg (PySem.Str.ofString "tuple") = none) (m_all : mg (PySem.Str.ofString "all") = none) (m_abs : mg (PySem.Str.ofString "abs") = none) (m_zip : mg (PySem.Str.ofString "zip") = none) {tk_MOST_VARIABLE : Tok} (m_MOST_VARIABLE : mg (PySem.Str.ofString "MOST_VARIABLE") = some (.int 1000000 tk_MOST_VARIABLE)) {a_ordered : Addr} {d_ordered : FuncData} (fordered : FnOk P w K mg base (L2.CX P w) 1 a_ordered d_ordered [(PySem.Str.ofString "literals")] (spD K mg 1 F_ordered)) (gordered : mg (PySem.Str.ofString "ordered") = some (.ref a_ordered)) (kordered : PySem.W.keepIn K (.ref a_ordered) = true) (bordered : Binds K d_ordered [(PySem.Str.ofString "literals")] []) {C_BadClause a_BadClause : Addr} {d_BadClause : FuncData} (oBadClause : OexC K C_BadClause) (iBadClause : PySem.W.findIn K (.ref C_BadClause) "__init__" = some (some (.ref a_BadClause))) (tBadClause : PySem.W.typeIn K (.ref a_BadClause) = some (.type "function")) (FBadClause : FnOk P w K mg base (L2.CX P w) 1 a_BadClause d_BadClause [(PySem.Str.ofString "self"), (PySem.Str.ofString "what")] (Ex.spI K C_BadClause (PySem.Str.ofString "what"))) (bBadClause : Binds K d_BadClause [(PySem.Str.ofString "self"), (PySem.Str.ofString "what")] []) (gBadClause : mg (PySem.Str.ofString "BadClause") = some (.ref C_BadClause)) (hw : Keeps 1 N_clause_of.length F (S_clause_of F_ordered)) : FnOk P w K mg base (L2.CX P w) (2 + 1) a0 d0 [(PySem.Str.ofString "literals")] (spD K mg 1 F) :=
  okD Fu sc_clause_of rfl (fun cdv A outer s H E G xw hr xo => have nd := sc_clause_of.nd; (ss_cons (s_set (i := 1) nd rfl (by first | exact .inl rfl | exact .inr rfl) (p_call xo (fordered.mono (by first | decide | exact Nat.le_refl _)) (hr.mono (by first | decide | exact Nat.le_refl _)) (by rfl) gordered kordered bordered (pa_cons' (p_var 0 (pv 0)) pa_nil'))) (ss_cons (s_if (t_not (t_truth (p_callB (cr_all rfl) f_all (by rfl) m_all rfl (pa_cons' (p_frz (p_lc rfl nd (i_seq (p_var 1 (pv 1))) (blkOk_by (own := [((PySem.Str.ofString "literal"), 2)]) (N := N_clause_of) (sc := defScope (s_clause_of)) (by decide +kernel)) (fun _ _ _ _ _ => (g_name 2 (pg_name (i := 2) nd rfl (by first | exact .inl rfl | exact .inr rfl)))) (fun _ _ _ _ _ => ts_nil) (fun _ _ _ _ _ => (p_and (p_cmp (op_neD (units_of hr (by decide))) f_ne (p_var 2 (pv 2)) p_int (by first | exact nomark _ | rfl)) (p_one (p_cmp op_le f_le (p_callB call_abs f_abs (by rfl) m_abs rfl (pa_cons' (p_var 2 (pv 2)) pa_nil')) (p_const (pe_glob (v := .int 1000000) (by rfl) m_MOST_VARIABLE ⟨_, rfl⟩) fun _ _ _ => by simp [Rep]) (by first | exact nomark _ | rfl))))) (by decide))) pa_nil')))) (ss_one (s_raise xo rfl oBadClause iBadClause tBadClause (FBadClause.mono (by first | decide | exact Nat.le_refl _)) (hr.mono (by first | decide | exact Nat.le_refl _)) bBadClause (by rfl) gBadClause p_str)) ss_nil) (ss_cons (s_if (t_truth (p_callB (cr_any rfl) f_any (by rfl) m_any rfl (pa_cons' (p_frz (p_lc rfl nd (i_zip (by rfl) m_zip (p_var 1 (pv 1)) (p_sl (p_var 1 (pv 1)) (o_some p_int) o_none)) (blkOk_by (own := [((PySem.Str.ofString "one"), 3), ((PySem.Str.ofString "two"), 4)]) (N := N_clause_of) (sc := defScope (s_clause_of)) (by decide +kernel)) (fun _ _ _ _ _ => (g_tup rfl (gs_cons (g_name 3 (pg_name (i := 3) nd rfl (by first | exact .inl rfl | exact .inr rfl))) (gs_cons (g_name 4 (pg_name (i := 4) nd rfl (by first | exact .inl rfl | exact .inr rfl))) gs_nil)))) (fun _ _ _ _ _ => ts_nil) (fun _ _ _ _ _ => (p_cmp (op_eqD (units_of hr (by decide))) f_eq (p_callB call_abs f_abs (by rfl) m_abs rfl (pa_cons' (p_var 3 (pv 3)) pa_nil')) (p_callB call_abs f_abs (by rfl) m_abs rfl (pa_cons' (p_var 4 (pv 4)) pa_nil')) (by first | exact nomark _ | rfl))) (by decide))) pa_nil'))) (ss_one (s_raise xo rfl oBadClause iBadClause tBadClause (FBadClause.mono (by first | decide | exact Nat.le_refl _)) (hr.mono (by first | decide | exact Nat.le_refl _)) bBadClause (by rfl) gBadClause p_str)) ss_nil) (ss_one (s_ret (p_callTy call_tuple_of f_tuple (by rfl) m_tuple rfl (pa_cons' (p_var 1 (pv 1)) pa_nil')))))))) hw
abbrev s_is_clause : Stmt := topS 9
abbrev N_is_clause : List Str := [(PySem.Str.ofString "clause"), (PySem.Str.ofString "count"), (PySem.Str.ofString "literal"), (PySem.Str.ofString "one"), (PySem.Str.ofString "two")]
theorem sc_is_clause : FnScope N_is_clause [(PySem.Str.ofString "clause"), (PySem.Str.ofString "count")] (defScope s_is_clause) := ⟨rfl, rfl, rfl, by decide +kernel, rfl, by decide +kernel, by decide +kernel⟩
def S_is_clause  : Sx := sSeq (sIf (bNot (bT (eOpN dAll (eCons (eFrz (eLC [2] (iSeq (eVar 0)) (.name 2) bYes (eAnd (eOp2 dNe (eVar 2) (eC (.int 0))) (eOp2 dLe (eOpN dAbs (eCons (eVar 2) (eNil))) (eVar 1))))) (eNil))))) (sRet (eC (.bl false))) (sPass)) (sRet (eOpN dAll (eCons (eFrz (eLC [3, 4] (iZip (eVar 0) (eSl (eVar 0) (oSome (eC (.int 1))) (oNone))) (.tup [.name 3, .name 4]) bYes (eOp2 dLt (eOpN dAbs (eCons (eVar 3) (eNil))) (eOpN dAbs (eCons (eVar 4) (eNil)))))) (eNil))))
theorem ok_is_clause {P : Program} {w : World} {K : PySem.W.Frag} {mg : Str → Option Value} {base : Heap} {a0 : Addr} {d0 : FuncData}  {F : Fn} (Fu : Fun K (PySem.Str.ofString "is_clause") (PySem.Str.ofString "is_clause") s_is_clause a0 d0) (m_all : mg (PySem.Str.ofString "all") = none) (m_abs : mg (PySem.Str.ofString "abs") = none) (m_zip : mg (PySem.Str.ofString "zip") = none) (hw : Keeps 2 N_is_clause.length F (S_is_clause )) : FnOk P w K mg base (L2.CX P w) (0 + 1) a0 d0 [(PySem.Str.ofString "clause"), (PySem.Str.ofString "count")] (spD K mg 2 F) :=
  okD Fu sc_is_clause rfl (fun cdv A outer s H E G xw hr xo => have nd := sc_is_clause.nd; (ss_cons (s_if (t_not (t_truth (p_callB (cr_all rfl) f_all (by rfl) m_all rfl (pa_cons' (p_frz (p_lc rfl nd (i_seq (p_var 0 (pv 0))) (blkOk_by (own := [((PySem.Str.ofString "literal"), 2)]) (N := N_is_clause) (sc := defScope (s_is_clause)) (by decide +kernel)) (fun _ _ _ _ _ => (g_name 2 (pg_name (i := 2) nd rfl (by first | exact .inl rfl | exact .inr rfl)))) (fun _ _ _ _ _ => ts_nil) (fun _ _ _ _ _ => (p_and (p_cmp (op_neD (units_of hr (by decide))) f_ne (p_var 2 (pv 2)) p_int (by first | exact nomark _ | rfl)) (p_one (p_cmp op_le f_le (p_callB call_abs f_abs (by rfl) m_abs rfl (pa_cons' (p_var 2 (pv 2)) pa_nil')) (p_var 1 (pv 1)) (by first | exact nomark _ | rfl))))) (by decide))) pa_nil')))) (ss_one (s_ret p_bl)) ss_nil) (ss_one (s_ret (p_callB (cr_all rfl) f_all (by rfl) m_all rfl (pa_cons' (p_frz (p_lc rfl nd (i_zip (by rfl) m_zip (p_var 0 (pv 0)) (p_sl (p_var 0 (pv 0)) (o_some p_int) o_none)) (blkOk_by (own := [((PySem.Str.ofString "one"), 3), ((PySem.Str.ofString "two"), 4)]) (N := N_is_clause) (sc := defScope (s_is_clause)) (by decide +kernel)) (fun _ _ _ _ _ => (g_tup rfl (gs_cons (g_name 3 (pg_name (i := 3) nd rfl (by first | exact .inl rfl | exact .inr rfl))) (gs_cons (g_name 4 (pg_name (i := 4) nd rfl (by first | exact .inl rfl | exact .inr rfl))) gs_nil)))) (fun _ _ _ _ _ => ts_nil) (fun _ _ _ _ _ => (p_cmp op_lt f_lt (p_callB call_abs f_abs (by rfl) m_abs rfl (pa_cons' (p_var 3 (pv 3)) pa_nil')) (p_callB call_abs f_abs (by rfl) m_abs rfl (pa_cons' (p_var 4 (pv 4)) pa_nil')) (by first | exact nomark _ | rfl))) (by decide))) pa_nil')))))) hw
abbrev s_is_soft : Stmt := topS 16
abbrev N_is_soft : List Str := [(PySem.Str.ofString "one"), (PySem.Str.ofString "count"), (PySem.Str.ofString "clause"), (PySem.Str.ofString "weight")]
theorem sc_is_soft : FnScope N_is_soft [(PySem.Str.ofString "one"), (PySem.Str.ofString "count")] (defScope s_is_soft) := ⟨rfl, rfl, rfl, by decide +kernel, rfl, by decide +kernel, by decide +kernel⟩
def S_is_soft (F_is_clause : Fn) : Sx := sSeq (sAsg (eVar 0) (.tup [.name 2, .name 3])) (sRet (eAnd (eCall F_is_clause 2 (eCons (eVar 2) (eCons (eVar 1) (eNil)))) (eChain dLe dLe (eC (.int 1)) (eVar 3) (eC (.int 1000000000)))))
theorem ok_is_soft {P : Program} {w : World} {K : PySem.W.Frag} {mg : Str → Option Value} {base : Heap} {a0 : Addr} {d0 : FuncData} (F_is_clause : Fn) {F : Fn} (Fu : Fun K (PySem.Str.ofString "is_soft") (PySem.Str.ofString "is_soft") s_is_soft a0 d0) {tk_MOST_WEIGHT : Tok} (m_MOST_WEIGHT : mg (PySem.Str.ofString "MOST_WEIGHT") = some (.int 1000000000 tk_MOST_WEIGHT)) {a_is_clause : Addr} {d_is_clause : FuncData} (fis_clause : FnOk P w K mg base (L2.CX P w) 1 a_is_clause d_is_clause [(PySem.Str.ofString "clause"), (PySem.Str.ofString "count")] (spD K mg 2 F_is_clause)) (gis_clause : mg (PySem.Str.ofString "is_clause") = some (.ref a_is_clause)) (kis_clause : PySem.W.keepIn K (.ref a_is_clause) = true) (bis_clause : Binds K d_is_clause [(PySem.Str.ofString "clause"), (PySem.Str.ofString "count")] []) (hw : Keeps 2 N_is_soft.length F (S_is_soft F_is_clause)) : FnOk P w K mg base (L2.CX P w) (1 + 1) a0 d0 [(PySem.Str.ofString "one"), (PySem.Str.ofString "count")] (spD K mg 2 F) :=
  okD Fu sc_is_soft rfl (fun cdv A outer s H E G xw hr xo => have nd := sc_is_soft.nd; (ss_cons (s_asg (p_var 0 (pv 0)) (g_tup rfl (gs_cons (g_name 2 (pg_name (i := 2) nd rfl (by first | exact .inl rfl | exact .inr rfl))) (gs_cons (g_name 3 (pg_name (i := 3) nd rfl (by first | exact .inl rfl | exact .inr rfl))) gs_nil)))) (ss_one (s_ret (p_and (p_call xo (fis_clause.mono (by first | decide | exact Nat.le_refl _)) (hr.mono (by first | decide | exact Nat.le_refl _)) (by rfl) gis_clause kis_clause bis_clause (pa_cons' (p_var 2 (pv 2)) (pa_cons' (p_var 1 (pv 1)) pa_nil'))) (p_one (p_chain op_le f_le op_le f_le p_int (p_var 3 (pv 3)) (p_const (pe_glob (v := .int 1000000000) (by rfl) m_MOST_WEIGHT ⟨_, rfl⟩) fun _ _ _ => by simp [Rep])))))))) hw
abbrev s_Problem___init__ : Stmt := clsS (topS 15) 0
abbrev N_Problem___init__ : List Str := [(PySem.Str.ofString "self"), (PySem.Str.ofString "count"), (PySem.Str.ofString "hard"), (PySem.Str.ofString "soft"), (PySem.Str.ofString "clause"), (PySem.Str.ofString "weight"), (PySem.Str.ofString "one")]
theorem sc_Problem___init__ : FnScope N_Problem___init__ [(PySem.Str.ofString "self"), (PySem.Str.ofString "count"), (PySem.Str.ofString "hard"), (PySem.Str.ofString "soft")] (defScope s_Problem___init__) := ⟨rfl, rfl, rfl, by decide +kernel, rfl, by decide +kernel, by decide +kernel⟩
def S_Problem___init__ (aProblem : Addr) (F_is_clause : Fn) (F_is_soft : Fn) : Sx := sSeq (sMe aProblem (PySem.Str.ofString "count") 0 (eVar 1)) (sSeq (sMe aProblem (PySem.Str.ofString "hard") 0 (eOpN dTuple (eCons (eFrz (eLC [4] (iSeq (eVar 2)) (.name 4) bYes (eOpN dTuple (eCons (eVar 4) (eNil))))) (eNil)))) (sSeq (sMe aProblem (PySem.Str.ofString "soft") 0 (eOpN dTuple (eCons (eFrz (eLC [4, 5] (iSeq (eVar 3)) (.tup [.name 4, .name 5]) bYes (eTup (eCons (eOpN dTuple (eCons (eVar 4) (eNil))) (eCons (eVar 5) (eNil)))))) (eNil)))) (sSeq (sIf (bNot (bV (eChain dLe dLe (eC (.int 0)) (eVar 1) (eC (.int 300))))) (sRaise (PySem.Str.ofString "BadProblem") (PySem.Str.ofString "what") (eC (.str (PySem.Str.ofString "count")))) (sPass)) (sSeq (sIf (bOr (bV (eOp2 dGt (eOpN dLen (eCons (eMe aProblem (PySem.Str.ofString "hard") 0) (eNil))) (eC (.int 3000)))) (bNot (bT (eOpN dAll (eCons (eFrz (eLC [4] (iSeq (eMe aProblem (PySem.Str.ofString "hard") 0)) (.name 4) bYes (eCall F_is_clause 2 (eCons (eVar 4) (eCons (eVar 1) (eNil)))))) (eNil)))))) (sRaise (PySem.Str.ofString "BadProblem") (PySem.Str.ofString "what") (eC (.str (PySem.Str.ofString "hard")))) (sPass)) (sIf (bOr (bV (eOp2 dGt (eOpN dLen (eCons (eMe aProblem (PySem.Str.ofString "soft") 0) (eNil))) (eC (.int 300)))) (bNot (bT (eOpN dAll (eCons (eFrz (eLC [6] (iSeq (eMe aProblem (PySem.Str.ofString "soft") 0)) (.name 6) bYes (eCall F_is_soft 2 (eCons (eVar 6) (eCons (eVar 1) (eNil)))))) (eNil)))))) (sRaise (PySem.Str.ofString "BadProblem") (PySem.Str.ofString "what") (eC (.str (PySem.Str.ofString "soft")))) (sPass))))))
theorem ok_Problem___init__ {P : Program} {w : World} {K : PySem.W.Frag} {mg : Str → Option Value} {base : Heap} {a0 : Addr} {d0 : FuncData} (aProblem : Addr) (F_is_clause : Fn) (F_is_soft : Fn) {F : Fn} (Fu : Fun K (PySem.Str.ofString "__init__") (PySem.Str.ofString "Problem.__init__") s_Problem___init__ a0 d0) (m_tuple : mg (PySem.Str.ofString "tuple") = none) (m_len : mg (PySem.Str.ofString "len") = none) (m_all : mg (PySem.Str.ofString "all") = none) {tk_MOST_COUNT : Tok} (m_MOST_COUNT : mg (PySem.Str.ofString "MOST_COUNT") = some (.int 300 tk_MOST_COUNT)) {tk_MOST_HARD : Tok} (m_MOST_HARD : mg (PySem.Str.ofString "MOST_HARD") = some (.int 3000 tk_MOST_HARD)) {tk_MOST_SOFT : Tok} (m_MOST_SOFT : mg (PySem.Str.ofString "MOST_SOFT") = some (.int 300 tk_MOST_SOFT)) (cProblem : Cls K aProblem) (gProblem : mg (PySem.Str.ofString "Problem") = some (.ref aProblem)) (na_count : NoAttr K aProblem (PySem.Str.ofString "count")) (na_hard : NoAttr K aProblem (PySem.Str.ofString "hard")) (na_soft : NoAttr K aProblem (PySem.Str.ofString "soft")) {a_is_clause : Addr} {d_is_clause : FuncData} (fis_clause : FnOk P w K mg base (L2.CX P w) 1 a_is_clause d_is_clause [(PySem.Str.ofString "clause"), (PySem.Str.ofString "count")] (spD K mg 2 F_is_clause)) (gis_clause : mg (PySem.Str.ofString "is_clause") = some (.ref a_is_clause)) (kis_clause : PySem.W.keepIn K (.ref a_is_clause) = true) (bis_clause : Binds K d_is_clause [(PySem.Str.ofString "clause"), (PySem.Str.ofString "count")] []) {a_is_soft : Addr} {d_is_soft : FuncData} (fis_soft : FnOk P w K mg base (L2.CX P w) 2 a_is_soft d_is_soft [(PySem.Str.ofString "one"), (PySem.Str.ofString "count")] (spD K mg 2 F_is_soft)) (gis_soft : mg (PySem.Str.ofString "is_soft") = some (.ref a_is_soft)) (kis_soft : PySem.W.keepIn K (.ref a_is_soft) = true) (bis_soft : Binds K d_is_soft [(PySem.Str.ofString "one"), (PySem.Str.ofString "count")] []) {C_BadProblem a_BadProblem : Addr} {d_BadProblem : FuncData} (oBadProblem : OexC K C_BadProblem) (iBadProblem : PySem.W.findIn K (.ref C_BadProblem) "__init__" = some (some (.ref a_BadProblem))) (tBadProblem : PySem.W.typeIn K (.ref a_BadProblem) = some (.type "function")) (FBadProblem : FnOk P w K mg base (L2.CX P w) 1 a_BadProblem d_BadProblem [(PySem.Str.ofString "self"), (PySem.Str.ofString "what")] (Ex.spI K C_BadProblem (PySem.Str.ofString "what"))) (bBadProblem : Binds K d_BadProblem [(PySem.Str.ofString "self"), (PySem.Str.ofString "what")] []) (gBadProblem : mg (PySem.Str.ofString "BadProblem") = some (.ref C_BadProblem)) (hw : KeepsI 3 N_Problem___init__.length aProblem F (S_Problem___init__ aProblem F_is_clause F_is_soft)) : FnOk P w K mg base (L2.CX P w) (2 + 1) a0 d0 [(PySem.Str.ofString "self"), (PySem.Str.ofString "count"), (PySem.Str.ofString "hard"), (PySem.Str.ofString "soft")] (spI K mg aProblem 3 F) :=
  okI Fu sc_Problem___init__ rfl (fun cdv A outer s H E G xw hr xo => have nd := sc_Problem___init__.nd; (ss_cons (s_me cProblem na_count (pv 0) (p_var 1 (pv 1))) (ss_cons (s_me cProblem na_hard (pv 0) (p_callTy call_tuple_of f_tuple (by rfl) m_tuple rfl (pa_cons' (p_frz (p_lc rfl nd (i_seq (p_var 2 (pv 2))) (blkOk_by (own := [((PySem.Str.ofString "clause"), 4)]) (N := N_Problem___init__) (sc := defScope (s_Problem___init__)) (by decide +kernel)) (fun _ _ _ _ _ => (g_name 4 (pg_name (i := 4) nd rfl (by first | exact .inl rfl | exact .inr rfl)))) (fun _ _ _ _ _ => ts_nil) (fun _ _ _ _ _ => (p_callTy call_tuple_of f_tuple (by rfl) m_tuple rfl (pa_cons' (p_var 4 (pv 4)) pa_nil'))) (by decide))) pa_nil'))) (ss_cons (s_me cProblem na_soft (pv 0) (p_callTy call_tuple_of f_tuple (by rfl) m_tuple rfl (pa_cons' (p_frz (p_lc rfl nd (i_seq (p_var 3 (pv 3))) (blkOk_by (own := [((PySem.Str.ofString "clause"), 4), ((PySem.Str.ofString "weight"), 5)]) (N := N_Problem___init__) (sc := defScope (s_Problem___init__)) (by decide +kernel)) (fun _ _ _ _ _ => (g_tup rfl (gs_cons (g_name 4 (pg_name (i := 4) nd rfl (by first | exact .inl rfl | exact .inr rfl))) (gs_cons (g_name 5 (pg_name (i := 5) nd rfl (by first | exact .inl rfl | exact .inr rfl))) gs_nil)))) (fun _ _ _ _ _ => ts_nil) (fun _ _ _ _ _ => (p_tup (pa_cons' (p_callTy call_tuple_of f_tuple (by rfl) m_tuple rfl (pa_cons' (p_var 4 (pv 4)) pa_nil')) (pa_cons' (p_var 5 (pv 5)) pa_nil')))) (by decide))) pa_nil'))) (ss_cons (s_if (t_not (t_chain op_le f_le op_le f_le p_int (p_var 1 (pv 1)) (p_const (pe_glob (v := .int 300) (by rfl) m_MOST_COUNT ⟨_, rfl⟩) fun _ _ _ => by simp [Rep]))) (ss_one (s_raise xo rfl oBadProblem iBadProblem tBadProblem (FBadProblem.mono (by first | decide | exact Nat.le_refl _)) (hr.mono (by first | decide | exact Nat.le_refl _)) bBadProblem (by rfl) gBadProblem p_str)) ss_nil) (ss_cons (s_if (PW.pt (t_or (t_cmp op_gt f_gt (p_callB c_len f_len (by rfl) m_len rfl (pa_cons' (p_me cProblem na_hard (pv 0)) pa_nil')) (p_const (pe_glob (v := .int 3000) (by rfl) m_MOST_HARD ⟨_, rfl⟩) fun _ _ _ => by simp [Rep]) (by first | exact nomark _ | rfl)) (t_or1 (t_not (t_truth (p_callB (cr_all rfl) f_all (by rfl) m_all rfl (pa_cons' (p_frz (p_lc rfl nd (i_seq (p_me cProblem na_hard (pv 0))) (blkOk_by (own := [((PySem.Str.ofString "clause"), 4)]) (N := N_Problem___init__) (sc := defScope (s_Problem___init__)) (by decide +kernel)) (fun _ _ _ _ _ => (g_name 4 (pg_name (i := 4) nd rfl (by first | exact .inl rfl | exact .inr rfl)))) (fun _ _ _ _ _ => ts_nil) (fun _ _ _ _ _ => (p_call (XOk.no xo.so) (fis_clause.mono (by first | decide | exact Nat.le_refl _)) (hr.mono (by first | decide | exact Nat.le_refl _)) (by rfl) gis_clause kis_clause bis_clause (pa_cons' (p_var 4 (pv 4)) (pa_cons' (p_var 1 (pv 1)) pa_nil')))) (by decide))) pa_nil'))))))) (ss_one (s_raise xo rfl oBadProblem iBadProblem tBadProblem (FBadProblem.mono (by first | decide | exact Nat.le_refl _)) (hr.mono (by first | decide | exact Nat.le_refl _)) bBadProblem (by rfl) gBadProblem p_str)) ss_nil) (ss_one (s_if (PW.pt (t_or (t_cmp op_gt f_gt (p_callB c_len f_len (by rfl) m_len rfl (pa_cons' (p_me cProblem na_soft (pv 0)) pa_nil')) (p_const (pe_glob (v := .int 300) (by rfl) m_MOST_SOFT ⟨_, rfl⟩) fun _ _ _ => by simp [Rep]) (by first | exact nomark _ | rfl)) (t_or1 (t_not (t_truth (p_callB (cr_all rfl) f_all (by rfl) m_all rfl (pa_cons' (p_frz (p_lc rfl nd (i_seq (p_me cProblem na_soft (pv 0))) (blkOk_by (own := [((PySem.Str.ofString "one"), 6)]) (N := N_Problem___init__) (sc := defScope (s_Problem___init__)) (by decide +kernel)) (fun _ _ _ _ _ => (g_name 6 (pg_name (i := 6) nd rfl (by first | exact .inl rfl | exact .inr rfl)))) (fun _ _ _ _ _ => ts_nil) (fun _ _ _ _ _ => (p_call (XOk.no xo.so) (fis_soft.mono (by first | decide | exact Nat.le_refl _)) (hr.mono (by first | decide | exact Nat.le_refl _)) (by rfl) gis_soft kis_soft bis_soft (pa_cons' (p_var 6 (pv 6)) (pa_cons' (p_var 1 (pv 1)) pa_nil')))) (by decide))) pa_nil'))))))) (ss_one (s_raise xo rfl oBadProblem iBadProblem tBadProblem (FBadProblem.mono (by first | decide | exact Nat.le_refl _)) (hr.mono (by first | decide | exact Nat.le_refl _)) bBadProblem (by rfl) gBadProblem p_str)) ss_nil)))))))) hw
abbrev s_Problem_whole_price : Stmt := clsS (topS 15) 6
abbrev N_Problem_whole_price : List Str := [(PySem.Str.ofString "self"), (PySem.Str.ofString "_"), (PySem.Str.ofString "weight")]
theorem sc_Problem_whole_price : FnScope N_Problem_whole_price [(PySem.Str.ofString "self")] (defScope s_Problem_whole_price) := ⟨rfl, rfl, rfl, by decide +kernel, rfl, by decide +kernel, by decide +kernel⟩
def S_Problem_whole_price (aProblem : Addr) : Sx := sRet (eOpN dSum (eCons (eFrz (eLC [1, 2] (iSeq (eFld aProblem (PySem.Str.ofString "soft") (eVar 0))) (.tup [.name 1, .name 2]) bYes (eVar 2))) (eNil)))
theorem ok_Problem_whole_price {P : Program} {w : World} {K : PySem.W.Frag} {mg : Str → Option Value} {base : Heap} {a0 : Addr} {d0 : FuncData} (aProblem : Addr) {F : Fn} (Fu : Fun K (PySem.Str.ofString "whole_price") (PySem.Str.ofString "Problem.whole_price") s_Problem_whole_price a0 d0) (m_sum : mg (PySem.Str.ofString "sum") = none) (cProblem : Cls K aProblem) (gProblem : mg (PySem.Str.ofString "Problem") = some (.ref aProblem)) (na_soft : NoAttr K aProblem (PySem.Str.ofString "soft")) (hw : Keeps 1 N_Problem_whole_price.length F (S_Problem_whole_price aProblem)) : FnOk P w K mg base (L2.CX P w) (0 + 1) a0 d0 [(PySem.Str.ofString "self")] (spD K mg 1 F) :=
  okD Fu sc_Problem_whole_price rfl (fun cdv A outer s H E G xw hr xo => have nd := sc_Problem_whole_price.nd; (ss_one (s_ret (p_callB (cr_sum rfl) f_sum (by rfl) m_sum rfl (pa_cons' (p_frz (p_lc rfl nd (i_seq (p_fld cProblem na_soft (p_var 0 (pv 0)))) (blkOk_by (own := [((PySem.Str.ofString "_"), 1), ((PySem.Str.ofString "weight"), 2)]) (N := N_Problem_whole_price) (sc := defScope (s_Problem_whole_price)) (by decide +kernel)) (fun _ _ _ _ _ => (g_tup rfl (gs_cons (g_name 1 (pg_name (i := 1) nd rfl (by first | exact .inl rfl | exact .inr rfl))) (gs_cons (g_name 2 (pg_name (i := 2) nd rfl (by first | exact .inl rfl | exact .inr rfl))) gs_nil)))) (fun _ _ _ _ _ => ts_nil) (fun _ _ _ _ _ => (p_var 2 (pv 2))) (by decide))) pa_nil'))))) hw
abbrev s_is_whole : Stmt := topS 19
abbrev N_is_whole : List Str := [(PySem.Str.ofString "word"), (PySem.Str.ofString "figures"), (PySem.Str.ofString "sign")]
theorem sc_is_whole : FnScope N_is_whole [(PySem.Str.ofString "word")] (defScope s_is_whole) := ⟨rfl, rfl, rfl, by decide +kernel, rfl, by decide +kernel, by decide +kernel⟩
def S_is_whole  : Sx := sSeq (sSet 1 (eIf (bV (eOp2 dEq (eSl (eVar 0) (oNone) (oSome (eC (.int 1)))) (eC (.str (PySem.Str.ofString "-"))))) (eSl (eVar 0) (oSome (eC (.int 1))) (oNone)) (eVar 0))) (sSeq (sIf (bOr (bV (eOp2 dEq (eVar 1) (eC (.str (PySem.Str.ofString ""))))) (bOr (bV (eOp2 dGt (eOpN dLen (eCons (eVar 1) (eNil))) (eC (.int 12)))) (bNot (bT (eOpN dAll (eCons (eFrz (eLC [2] (iSeq (eVar 1)) (.name 2) bYes (eOp2 (dInS false) (eVar 2) (eC (.str (PySem.Str.ofString "0123456789")))))) (eNil))))))) (sRet (eC (.bl false))) (sPass)) (sRet (eOr (eOp2 dEq (eVar 0) (eC (.str (PySem.Str.ofString "0")))) (eOp2 dNe (eIdx (eVar 1) (eC (.int 0))) (eC (.str (PySem.Str.ofString "0")))))))
theorem ok_is_whole {P : Program} {w : World} {K : PySem.W.Frag} {mg : Str → Option Value} {base : Heap} {a0 : Addr} {d0 : FuncData}  {F : Fn} (Fu : Fun K (PySem.Str.ofString "is_whole") (PySem.Str.ofString "is_whole") s_is_whole a0 d0) (m_len : mg (PySem.Str.ofString "len") = none) (m_all : mg (PySem.Str.ofString "all") = none) {tk_MOST_DIGITS : Tok} (m_MOST_DIGITS : mg (PySem.Str.ofString "MOST_DIGITS") = some (.int 12 tk_MOST_DIGITS)) (hw : Keeps 1 N_is_whole.length F (S_is_whole )) : FnOk P w K mg base (L2.CX P w) (0 + 1) a0 d0 [(PySem.Str.ofString "word")] (spD K mg 1 F) :=
  okD Fu sc_is_whole rfl (fun cdv A outer s H E G xw hr xo => have nd := sc_is_whole.nd; (ss_cons (s_set (i := 1) nd rfl (by first | exact .inl rfl | exact .inr rfl) (p_if (t_cmp (op_eqD (units_of hr (by decide))) f_eq (p_sl (p_var 0 (pv 0)) o_none (o_some p_int)) p_str (by first | exact nomark _ | rfl)) (p_sl (p_var 0 (pv 0)) (o_some p_int) o_none) (p_var 0 (pv 0)))) (ss_cons (s_if (PW.pt (t_or (t_cmp (op_eqD (units_of hr (by decide))) f_eq (p_var 1 (pv 1)) p_str (by first | exact nomark _ | rfl)) (t_or (t_cmp op_gt f_gt (p_callB c_len f_len (by rfl) m_len rfl (pa_cons' (p_var 1 (pv 1)) pa_nil')) (p_const (pe_glob (v := .int 12) (by rfl) m_MOST_DIGITS ⟨_, rfl⟩) fun _ _ _ => by simp [Rep]) (by first | exact nomark _ | rfl)) (t_or1 (t_not (t_truth (p_callB (cr_all rfl) f_all (by rfl) m_all rfl (pa_cons' (p_frz (p_lc rfl nd (i_seq (p_var 1 (pv 1))) (blkOk_by (own := [((PySem.Str.ofString "sign"), 2)]) (N := N_is_whole) (sc := defScope (s_is_whole)) (by decide +kernel)) (fun _ _ _ _ _ => (g_name 2 (pg_name (i := 2) nd rfl (by first | exact .inl rfl | exact .inr rfl)))) (fun _ _ _ _ _ => ts_nil) (fun _ _ _ _ _ => (p_cmp (o_inS (units_of hr (by decide))) f_inF (p_var 2 (pv 2)) p_str (by first | exact nomark _ | rfl))) (by decide))) pa_nil')))))))) (ss_one (s_ret p_bl)) ss_nil) (ss_one (s_ret (p_or (p_cmp (op_eqD (units_of hr (by decide))) f_eq (p_var 0 (pv 0)) p_str (by first | exact nomark _ | rfl)) (p_one (p_cmp (op_neD (units_of hr (by decide))) f_ne (p_idx (p_var 1 (pv 1)) p_int) p_str (by first | exact nomark _ | rfl))))))))) hw
abbrev s_is_number : Stmt := topS 20
abbrev N_is_number : List Str := [(PySem.Str.ofString "word"), (PySem.Str.ofString "most")]
theorem sc_is_number : FnScope N_is_number [(PySem.Str.ofString "word"), (PySem.Str.ofString "most")] (defScope s_is_number) := ⟨rfl, rfl, rfl, by decide +kernel, rfl, by decide +kernel, by decide +kernel⟩
def S_is_number (F_is_whole : Fn) : Sx := sRet (eAnd (eCall F_is_whole 1 (eCons (eVar 0) (eNil))) (eAnd (eOp2 dNe (eIdx (eVar 0) (eC (.int 0))) (eC (.str (PySem.Str.ofString "-")))) (eOp2 dLe (eOpN dIntS (eCons (eVar 0) (eNil))) (eVar 1))))
theorem ok_is_number {P : Program} {w : World} {K : PySem.W.Frag} {mg : Str → Option Value} {base : Heap} {a0 : Addr} {d0 : FuncData} (F_is_whole : Fn) {F : Fn} (Fu : Fun K (PySem.Str.ofString "is_number") (PySem.Str.ofString "is_number") s_is_number a0 d0) (m_int : mg (PySem.Str.ofString "int") = none) {a_is_whole : Addr} {d_is_whole : FuncData} (fis_whole : FnOk P w K mg base (L2.CX P w) 1 a_is_whole d_is_whole [(PySem.Str.ofString "word")] (spD K mg 1 F_is_whole)) (gis_whole : mg (PySem.Str.ofString "is_whole") = some (.ref a_is_whole)) (kis_whole : PySem.W.keepIn K (.ref a_is_whole) = true) (bis_whole : Binds K d_is_whole [(PySem.Str.ofString "word")] []) (hw : Keeps 2 N_is_number.length F (S_is_number F_is_whole)) : FnOk P w K mg base (L2.CX P w) (1 + 1) a0 d0 [(PySem.Str.ofString "word"), (PySem.Str.ofString "most")] (spD K mg 2 F) :=
  okD Fu sc_is_number rfl (fun cdv A outer s H E G xw hr xo => have nd := sc_is_number.nd; (ss_one (s_ret (p_and (p_call xo (fis_whole.mono (by first | decide | exact Nat.le_refl _)) (hr.mono (by first | decide | exact Nat.le_refl _)) (by rfl) gis_whole kis_whole bis_whole (pa_cons' (p_var 0 (pv 0)) pa_nil')) (p_and (p_cmp (op_neD (units_of hr (by decide))) f_ne (p_idx (p_var 0 (pv 0)) p_int) p_str (by first | exact nomark _ | rfl)) (p_one (p_cmp op_le f_le (p_callTy c_int f_intS (by rfl) m_int rfl (pa_cons' (p_var 0 (pv 0)) pa_nil')) (p_var 1 (pv 1)) (by first | exact nomark _ | rfl)))))))) hw
abbrev s_split : Stmt := topS 21
abbrev N_split : List Str := [(PySem.Str.ofString "line")]
theorem sc_split : FnScope N_split [(PySem.Str.ofString "line")] (defScope s_split) := ⟨rfl, rfl, rfl, by decide +kernel, rfl, by decide +kernel, by decide +kernel⟩
def S_split  : Sx := sRet (eIf (bV (eOp2 dEq (eVar 0) (eC (.str (PySem.Str.ofString ""))))) (eFrz (eDisp (eNil))) (eM1 dSplit (eVar 0) (eC (.str (PySem.Str.ofString " ")))))
theorem ok_split {P : Program} {w : World} {K : PySem.W.Frag} {mg : Str → Option Value} {base : Heap} {a0 : Addr} {d0 : FuncData}  {F : Fn} (Fu : Fun K (PySem.Str.ofString "split") (PySem.Str.ofString "split") s_split a0 d0)  (hw : Keeps 1 N_split.length F (S_split )) : FnOk P w K mg base (L2.CX P w) (0 + 1) a0 d0 [(PySem.Str.ofString "line")] (spD K mg 1 F) :=
  okD Fu sc_split rfl (fun cdv A outer s H E G xw hr xo => have nd := sc_split.nd; (ss_one (s_ret (p_if (t_cmp (op_eqD (units_of hr (by decide))) f_eq (p_var 0 (pv 0)) p_str (by first | exact nomark _ | rfl)) (p_frz (p_disp pa_nil')) (p_m1 PySem.F.slot_str_split PySem.F.type_str_split mt_split f_split (p_var 0 (pv 0)) p_str))))) hw
abbrev s_joined : Stmt := topS 22
abbrev N_joined : List Str := [(PySem.Str.ofString "numbers"), (PySem.Str.ofString "number")]
theorem sc_joined : FnScope N_joined [(PySem.Str.ofString "numbers")] (defScope s_joined) := ⟨rfl, rfl, rfl, by decide +kernel, rfl, by decide +kernel, by decide +kernel⟩
def S_joined  : Sx := sRet (eM1 dJoin (eC (.str (PySem.Str.ofString " "))) (eFrz (eLC [1] (iSeq (eVar 0)) (.name 1) bYes (eOpN dStr (eCons (eVar 1) (eNil))))))
theorem ok_joined {P : Program} {w : World} {K : PySem.W.Frag} {mg : Str → Option Value} {base : Heap} {a0 : Addr} {d0 : FuncData}  {F : Fn} (Fu : Fun K (PySem.Str.ofString "joined") (PySem.Str.ofString "joined") s_joined a0 d0) (m_str : mg (PySem.Str.ofString "str") = none) (hw : Keeps 1 N_joined.length F (S_joined )) : FnOk P w K mg base (L2.CX P w) (0 + 1) a0 d0 [(PySem.Str.ofString "numbers")] (spD K mg 1 F) :=
  okD Fu sc_joined rfl (fun cdv A outer s H E G xw hr xo => have nd := sc_joined.nd; (ss_one (s_ret (p_m1 PySem.F.slot_str_join PySem.F.type_str_join mt_join f_join p_str (p_frz (p_lc rfl nd (i_seq (p_var 0 (pv 0))) (blkOk_by (own := [((PySem.Str.ofString "number"), 1)]) (N := N_joined) (sc := defScope (s_joined)) (by decide +kernel)) (fun _ _ _ _ _ => (g_name 1 (pg_name (i := 1) nd rfl (by first | exact .inl rfl | exact .inr rfl)))) (fun _ _ _ _ _ => ts_nil) (fun _ _ _ _ _ => (p_callTy c_str f_str (by rfl) m_str rfl (pa_cons' (p_var 1 (pv 1)) pa_nil'))) (by decide))))))) hw
abbrev s_wcnf_text : Stmt := topS 24
abbrev N_wcnf_text : List Str := [(PySem.Str.ofString "problem"), (PySem.Str.ofString "top"), (PySem.Str.ofString "lines"), (PySem.Str.ofString "clause"), (PySem.Str.ofString "weight")]
theorem sc_wcnf_text : FnScope N_wcnf_text [(PySem.Str.ofString "problem")] (defScope s_wcnf_text) := ⟨rfl, rfl, rfl, by decide +kernel, rfl, by decide +kernel, by decide +kernel⟩
def S_wcnf_text (aProblem : Addr) (F_joined : Fn) (F_Problem_whole_price : Fn) : Sx := sSeq (sSet 1 (eOp2 dAdd (eMeth aProblem (PySem.Str.ofString "whole_price") F_Problem_whole_price 0 (eVar 0) eNil) (eC (.int 1)))) (sSeq (sOwn 2 (eDisp (eCons (eCall F_joined 1 (eCons (eTup (eCons (eC (.str (PySem.Str.ofString "p"))) (eCons (eC (.str (PySem.Str.ofString "wcnf"))) (eCons (eFld aProblem (PySem.Str.ofString "count") (eVar 0)) (eCons (eOp2 dAdd (eOpN dLen (eCons (eFld aProblem (PySem.Str.ofString "hard") (eVar 0)) (eNil))) (eOpN dLen (eCons (eFld aProblem (PySem.Str.ofString "soft") (eVar 0)) (eNil)))) (eCons (eVar 1) (eNil))))))) (eNil))) (eNil)))) (sSeq (sFor (iSeq (eFld aProblem (PySem.Str.ofString "hard") (eVar 0))) (.name 3) (sAppend 2 (eCall F_joined 1 (eCons (eOp2 dAdd (eOp2 dAdd (eTup (eCons (eVar 1) (eNil))) (eVar 3)) (eTup (eCons (eC (.int 0)) (eNil)))) (eNil))))) (sSeq (sFor (iSeq (eFld aProblem (PySem.Str.ofString "soft") (eVar 0))) (.tup [.name 3, .name 4]) (sAppend 2 (eCall F_joined 1 (eCons (eOp2 dAdd (eOp2 dAdd (eTup (eCons (eVar 4) (eNil))) (eVar 3)) (eTup (eCons (eC (.int 0)) (eNil)))) (eNil))))) (sFreeze 2 (sRet (eM1 dJoin (eC (.str (PySem.Str.ofString "\n"))) (eVar 2)))))))
theorem ok_wcnf_text {P : Program} {w : World} {K : PySem.W.Frag} {mg : Str → Option Value} {base : Heap} {a0 : Addr} {d0 : FuncData} (aProblem : Addr) (F_joined : Fn) (F_Problem_whole_price : Fn) {F : Fn} (Fu : Fun K (PySem.Str.ofString "wcnf_text") (PySem.Str.ofString "wcnf_text") s_wcnf_text a0 d0) (m_len : mg (PySem.Str.ofString "len") = none) (cProblem : Cls K aProblem) (gProblem : mg (PySem.Str.ofString "Problem") = some (.ref aProblem)) (na_hard : NoAttr K aProblem (PySem.Str.ofString "hard")) (na_soft : NoAttr K aProblem (PySem.Str.ofString "soft")) (na_count : NoAttr K aProblem (PySem.Str.ofString "count")) {a_joined : Addr} {d_joined : FuncData} (fjoined : FnOk P w K mg base (L2.CX P w) 1 a_joined d_joined [(PySem.Str.ofString "numbers")] (spD K mg 1 F_joined)) (gjoined : mg (PySem.Str.ofString "joined") = some (.ref a_joined)) (kjoined : PySem.W.keepIn K (.ref a_joined) = true) (bjoined : Binds K d_joined [(PySem.Str.ofString "numbers")] []) {a_Problem_whole_price : Addr} {d_Problem_whole_price : FuncData} (fProblem_whole_price : FnOk P w K mg base (L2.CX P w) 1 a_Problem_whole_price d_Problem_whole_price [(PySem.Str.ofString "self")] (spD K mg 1 F_Problem_whole_price)) (bProblem_whole_price : Binds K d_Problem_whole_price [(PySem.Str.ofString "self")] []) (me_whole_price : Meth K aProblem (PySem.Str.ofString "whole_price") a_Problem_whole_price) (hw : Keeps 1 N_wcnf_text.length F (S_wcnf_text aProblem F_joined F_Problem_whole_price)) : FnOk P w K mg base (L2.CX P w) (1 + 1) a0 d0 [(PySem.Str.ofString "problem")] (spD K mg 1 F) :=
  okD Fu sc_wcnf_text rfl (fun cdv A outer s H E G xw hr xo => have nd := sc_wcnf_text.nd; (ss_cons (s_set (i := 1) nd rfl (by first | exact .inl rfl | exact .inr rfl) (p_op o_add f_add (p_meth0 cProblem me_whole_price (fProblem_whole_price.mono (by first | decide | exact Nat.le_refl _)) (hr.mono (by first | decide | exact Nat.le_refl _)) bProblem_whole_price (p_var 0 (pv 0))) p_int)) (ss_cons (s_own (i := 2) nd rfl (by first | exact .inl rfl | exact .inr rfl) (p_disp (pa_cons' (p_call xo (fjoined.mono (by first | decide | exact Nat.le_refl _)) (hr.mono (by first | decide | exact Nat.le_refl _)) (by rfl) gjoined kjoined bjoined (pa_cons' (p_tup (pa_cons' p_str (pa_cons' p_str (pa_cons' (p_fld cProblem na_count (p_var 0 (pv 0))) (pa_cons' (p_op o_add f_add (p_callB c_len f_len (by rfl) m_len rfl (pa_cons' (p_fld cProblem na_hard (p_var 0 (pv 0))) pa_nil')) (p_callB c_len f_len (by rfl) m_len rfl (pa_cons' (p_fld cProblem na_soft (p_var 0 (pv 0))) pa_nil'))) (pa_cons' (p_var 1 (pv 1)) pa_nil')))))) pa_nil')) pa_nil'))) (ss_cons (s_for (passes_of rfl) rfl (i_seq (p_fld cProblem na_hard (p_var 0 (pv 0)))) (g_name 3 (pg_name (i := 3) nd rfl (by first | exact .inl rfl | exact .inr rfl))) (ss_one (s_append (pv 2) (p_call xo (fjoined.mono (by first | decide | exact Nat.le_refl _)) (hr.mono (by first | decide | exact Nat.le_refl _)) (by rfl) gjoined kjoined bjoined (pa_cons' (p_op o_add f_add (p_op o_add f_add (p_tup (pa_cons' (p_var 1 (pv 1)) pa_nil')) (p_var 3 (pv 3))) (p_tup (pa_cons' p_int pa_nil'))) pa_nil'))))) (ss_cons (s_for (passes_of rfl) rfl (i_seq (p_fld cProblem na_soft (p_var 0 (pv 0)))) (g_tup rfl (gs_cons (g_name 3 (pg_name (i := 3) nd rfl (by first | exact .inl rfl | exact .inr rfl))) (gs_cons (g_name 4 (pg_name (i := 4) nd rfl (by first | exact .inl rfl | exact .inr rfl))) gs_nil))) (ss_one (s_append (pv 2) (p_call xo (fjoined.mono (by first | decide | exact Nat.le_refl _)) (hr.mono (by first | decide | exact Nat.le_refl _)) (by rfl) gjoined kjoined bjoined (pa_cons' (p_op o_add f_add (p_op o_add f_add (p_tup (pa_cons' (p_var 4 (pv 4)) pa_nil')) (p_var 3 (pv 3))) (p_tup (pa_cons' p_int pa_nil'))) pa_nil'))))) (ss_freeze 2 (ss_one (s_ret (p_m1 PySem.F.slot_str_join PySem.F.type_str_join mt_join f_join p_str (p_var 2 (pv 2))))))))))) hw
abbrev s_read_head : Stmt := topS 26
abbrev N_read_head : List Str := [(PySem.Str.ofString "words"), (PySem.Str.ofString "word"), (PySem.Str.ofString "head")]
theorem sc_read_head : FnScope N_read_head [(PySem.Str.ofString "words")] (defScope s_read_head) := ⟨rfl, rfl, rfl, by decide +kernel, rfl, by decide +kernel, by decide +kernel⟩
def S_read_head (F_is_number : Fn) : Sx := sSeq (sIf (bOr (bV (eOp2 dNe (eOpN dLen (eCons (eVar 0) (eNil))) (eC (.int 5)))) (bOr (bV (eOp2 dNe (eSl (eVar 0) (oNone) (oSome (eC (.int 2)))) (eFrz (eDisp (eCons (eC (.str (PySem.Str.ofString "p"))) (eCons (eC (.str (PySem.Str.ofString "wcnf"))) (eNil))))))) (bNot (bT (eOpN dAll (eCons (eFrz (eLC [1] (iSeq (eSl (eVar 0) (oSome (eC (.int 2))) (oNone))) (.name 1) bYes (eCall F_is_number 2 (eCons (eVar 1) (eCons (eOp2 dPow (eC (.int 10)) (eC (.int 12))) (eNil)))))) (eNil))))))) (sRet (eC .non)) (sPass)) (sSeq (sSet 2 (eOpN dTuple (eCons (eFrz (eLC [1] (iSeq (eSl (eVar 0) (oSome (eC (.int 2))) (oNone))) (.name 1) bYes (eOpN dIntS (eCons (eVar 1) (eNil))))) (eNil)))) (sSeq (sIf (bOr (bV (eOp2 dGt (eIdx (eVar 2) (eC (.int 0))) (eC (.int 300)))) (bOr (bV (eOp2 dGt (eIdx (eVar 2) (eC (.int 1))) (eOp2 dAdd (eC (.int 3000)) (eC (.int 300))))) (bV (eOp2 dLt (eIdx (eVar 2) (eC (.int 2))) (eC (.int 1)))))) (sRet (eC .non)) (sPass)) (sRet (eVar 2))))
theorem ok_read_head {P : Program} {w : World} {K : PySem.W.Frag} {mg : Str → Option Value} {base : Heap} {a0 : Addr} {d0 : FuncData} (F_is_number : Fn) {F : Fn} (Fu : Fun K (PySem.Str.ofString "read_head") (PySem.Str.ofString "read_head") s_read_head a0 d0) (m_tuple : mg (PySem.Str.ofString "tuple") = none) (m_len : mg (PySem.Str.ofString "len") = none) (m_all : mg (PySem.Str.ofString "all") = none) (m_int : mg (PySem.Str.ofString "int") = none) {tk_MOST_COUNT : Tok} (m_MOST_COUNT : mg (PySem.Str.ofString "MOST_COUNT") = some (.int 300 tk_MOST_COUNT)) {tk_MOST_HARD : Tok} (m_MOST_HARD : mg (PySem.Str.ofString "MOST_HARD") = some (.int 3000 tk_MOST_HARD)) {tk_MOST_SOFT : Tok} (m_MOST_SOFT : mg (PySem.Str.ofString "MOST_SOFT") = some (.int 300 tk_MOST_SOFT)) {a_is_number : Addr} {d_is_number : FuncData} (fis_number : FnOk P w K mg base (L2.CX P w) 2 a_is_number d_is_number [(PySem.Str.ofString "word"), (PySem.Str.ofString "most")] (spD K mg 2 F_is_number)) (gis_number : mg (PySem.Str.ofString "is_number") = some (.ref a_is_number)) (kis_number : PySem.W.keepIn K (.ref a_is_number) = true) (bis_number : Binds K d_is_number [(PySem.Str.ofString "word"), (PySem.Str.ofString "most")] []) (hw : Keeps 1 N_read_head.length F (S_read_head F_is_number)) : FnOk P w K mg base (L2.CX P w) (2 + 1) a0 d0 [(PySem.Str.ofString "words")] (spD K mg 1 F) :=
  okD Fu sc_read_head rfl (fun cdv A outer s H E G xw hr xo => have nd := sc_read_head.nd; (ss_cons (s_if (PW.pt (t_or (t_cmp (op_neD (units_of hr (by decide))) f_ne (p_callB c_len f_len (by rfl) m_len rfl (pa_cons' (p_var 0 (pv 0)) pa_nil')) p_int (by first | exact nomark _ | rfl)) (t_or (t_cmp (op_neD (units_of hr (by decide))) f_ne (p_sl (p_var 0 (pv 0)) o_none (o_some p_int)) (p_frz (p_disp (pa_cons' p_str (pa_cons' p_str pa_nil')))) (by first | exact nomark _ | rfl)) (t_or1 (t_not (t_truth (p_callB (cr_all rfl) f_all (by rfl) m_all rfl (pa_cons' (p_frz (p_lc rfl nd (i_seq (p_sl (p_var 0 (pv 0)) (o_some p_int) o_none)) (blkOk_by (own := [((PySem.Str.ofString "word"), 1)]) (N := N_read_head) (sc := defScope (s_read_head)) (by decide +kernel)) (fun _ _ _ _ _ => (g_name 1 (pg_name (i := 1) nd rfl (by first | exact .inl rfl | exact .inr rfl)))) (fun _ _ _ _ _ => ts_nil) (fun _ _ _ _ _ => (p_call (XOk.no xo.so) (fis_number.mono (by first | decide | exact Nat.le_refl _)) (hr.mono (by first | decide | exact Nat.le_refl _)) (by rfl) gis_number kis_number bis_number (pa_cons' (p_var 1 (pv 1)) (pa_cons' (p_op op_pow f_pow p_int p_int) pa_nil')))) (by decide))) pa_nil')))))))) (ss_one (s_ret p_non)) ss_nil) (ss_cons (s_set (i := 2) nd rfl (by first | exact .inl rfl | exact .inr rfl) (p_callTy call_tuple_of f_tuple (by rfl) m_tuple rfl (pa_cons' (p_frz (p_lc rfl nd (i_seq (p_sl (p_var 0 (pv 0)) (o_some p_int) o_none)) (blkOk_by (own := [((PySem.Str.ofString "word"), 1)]) (N := N_read_head) (sc := defScope (s_read_head)) (by decide +kernel)) (fun _ _ _ _ _ => (g_name 1 (pg_name (i := 1) nd rfl (by first | exact .inl rfl | exact .inr rfl)))) (fun _ _ _ _ _ => ts_nil) (fun _ _ _ _ _ => (p_callTy c_int f_intS (by rfl) m_int rfl (pa_cons' (p_var 1 (pv 1)) pa_nil'))) (by decide))) pa_nil'))) (ss_cons (s_if (PW.pt (t_or (t_cmp op_gt f_gt (p_idx (p_var 2 (pv 2)) p_int) (p_const (pe_glob (v := .int 300) (by rfl) m_MOST_COUNT ⟨_, rfl⟩) fun _ _ _ => by simp [Rep]) (by first | exact nomark _ | rfl)) (t_or (t_cmp op_gt f_gt (p_idx (p_var 2 (pv 2)) p_int) (p_op o_add f_add (p_const (pe_glob (v := .int 3000) (by rfl) m_MOST_HARD ⟨_, rfl⟩) fun _ _ _ => by simp [Rep]) (p_const (pe_glob (v := .int 300) (by rfl) m_MOST_SOFT ⟨_, rfl⟩) fun _ _ _ => by simp [Rep])) (by first | exact nomark _ | rfl)) (t_or1 (t_cmp op_lt f_lt (p_idx (p_var 2 (pv 2)) p_int) p_int (by first | exact nomark _ | rfl)))))) (ss_one (s_ret p_non)) ss_nil) (ss_one (s_ret (p_var 2 (pv 2)))))))) hw
abbrev s_read_row : Stmt := topS 27
abbrev N_read_row : List Str := [(PySem.Str.ofString "words"), (PySem.Str.ofString "head"), (PySem.Str.ofString "word"), (PySem.Str.ofString "numbers"), (PySem.Str.ofString "literal")]
theorem sc_read_row : FnScope N_read_row [(PySem.Str.ofString "words"), (PySem.Str.ofString "head")] (defScope s_read_row) := ⟨rfl, rfl, rfl, by decide +kernel, rfl, by decide +kernel, by decide +kernel⟩
def S_read_row (F_clause_of : Fn) (F_is_whole : Fn) (cat_read_row : Str → Option (Bool)) : Sx := sSeq (sIf (bOr (bV (eOp2 dLt (eOpN dLen (eCons (eVar 0) (eNil))) (eC (.int 2)))) (bOr (bV (eOp2 dNe (eIdx (eVar 0) (eOp1 dNeg (eC (.int 1)))) (eC (.str (PySem.Str.ofString "0"))))) (bNot (bT (eOpN dAll (eCons (eFrz (eLC [2] (iSeq (eVar 0)) (.name 2) bYes (eCall F_is_whole 1 (eCons (eVar 2) (eNil))))) (eNil))))))) (sRet (eC .non)) (sPass)) (sSeq (sSet 3 (eFrz (eLC [2] (iSeq (eVar 0)) (.name 2) bYes (eOpN dIntS (eCons (eVar 2) (eNil)))))) (sSeq (sIf (bOr (bNot (bV (eChain dLe dLe (eC (.int 1)) (eIdx (eVar 3) (eC (.int 0))) (eIdx (eVar 1) (eC (.int 2)))))) (bAnd (bV (eOp2 dLt (eIdx (eVar 3) (eC (.int 0))) (eIdx (eVar 1) (eC (.int 2))))) (bV (eOp2 dGt (eIdx (eVar 3) (eC (.int 0))) (eC (.int 1000000000)))))) (sRet (eC .non)) (sPass)) (sSeq (sIf (bNot (bT (eOpN dAll (eCons (eFrz (eLC [4] (iSeq (eSl (eVar 3) (oSome (eC (.int 1))) (oSome (eOp1 dNeg (eC (.int 1)))))) (.name 4) bYes (eAnd (eOp2 dNe (eVar 4) (eC (.int 0))) (eOp2 dLe (eOpN dAbs (eCons (eVar 4) (eNil))) (eIdx (eVar 1) (eC (.int 0))))))) (eNil))))) (sRet (eC .non)) (sPass)) (sTryU cat_read_row (sRet (eTup (eCons (eCall F_clause_of 1 (eCons (eSl (eVar 3) (oSome (eC (.int 1))) (oSome (eOp1 dNeg (eC (.int 1))))) (eNil))) (eCons (eIdx (eVar 3) (eC (.int 0))) (eNil))))) (sRet (eC .non))))))
theorem ok_read_row {P : Program} {w : World} {K : PySem.W.Frag} {mg : Str → Option Value} {base : Heap} {a0 : Addr} {d0 : FuncData} (F_clause_of : Fn) (F_is_whole : Fn) (cat_read_row : Str → Option (Bool)) {F : Fn} (Fu : Fun K (PySem.Str.ofString "read_row") (PySem.Str.ofString "read_row") s_read_row a0 d0) (m_int : mg (PySem.Str.ofString "int") = none) (m_all : mg (PySem.Str.ofString "all") = none) (m_len : mg (PySem.Str.ofString "len") = none) (m_abs : mg (PySem.Str.ofString "abs") = none) {tk_MOST_WEIGHT : Tok} (m_MOST_WEIGHT : mg (PySem.Str.ofString "MOST_WEIGHT") = some (.int 1000000000 tk_MOST_WEIGHT)) {a_clause_of : Addr} {d_clause_of : FuncData} (fclause_of : FnOk P w K mg base (L2.CX P w) 3 a_clause_of d_clause_of [(PySem.Str.ofString "literals")] (spD K mg 1 F_clause_of)) (gclause_of : mg (PySem.Str.ofString "clause_of") = some (.ref a_clause_of)) (kclause_of : PySem.W.keepIn K (.ref a_clause_of) = true) (bclause_of : Binds K d_clause_of [(PySem.Str.ofString "literals")] []) {a_is_whole : Addr} {d_is_whole : FuncData} (fis_whole : FnOk P w K mg base (L2.CX P w) 1 a_is_whole d_is_whole [(PySem.Str.ofString "word")] (spD K mg 1 F_is_whole)) (gis_whole : mg (PySem.Str.ofString "is_whole") = some (.ref a_is_whole)) (kis_whole : PySem.W.keepIn K (.ref a_is_whole) = true) (bis_whole : Binds K d_is_whole [(PySem.Str.ofString "word")] []) {C_BadClause : Addr} (gBadClause : mg (PySem.Str.ofString "BadClause") = some (.ref C_BadClause)) (c_read_row : ∀ (nm : Str) (C : Addr), mg nm = some (.ref C) → (cat_read_row nm = some true → PySem.W.exmOne K (.ref C) (.ref C_BadClause) = some true) ∧ (cat_read_row nm = some false → PySem.W.exmOne K (.ref C) (.ref C_BadClause) = some false)) (hw : Keeps 2 N_read_row.length F (S_read_row F_clause_of F_is_whole cat_read_row)) : FnOk P w K mg base (L2.CX P w) (3 + 1) a0 d0 [(PySem.Str.ofString "words"), (PySem.Str.ofString "head")] (spD K mg 2 F) :=
  okD0 Fu sc_read_row rfl (fun cdv A outer s H E G xw hr xo => have nd := sc_read_row.nd; (ss_cons0 (s0 (s_if (PW.pt (t_or (t_cmp op_lt f_lt (p_callB c_len f_len (by rfl) m_len rfl (pa_cons' (p_var 0 (pv 0)) pa_nil')) p_int (by first | exact nomark _ | rfl)) (t_or (t_cmp (op_neD (units_of hr (by decide))) f_ne (p_idx (p_var 0 (pv 0)) (p_un un_neg f_neg p_int)) p_str (by first | exact nomark _ | rfl)) (t_or1 (t_not (t_truth (p_callB (cr_all rfl) f_all (by rfl) m_all rfl (pa_cons' (p_frz (p_lc rfl nd (i_seq (p_var 0 (pv 0))) (blkOk_by (own := [((PySem.Str.ofString "word"), 2)]) (N := N_read_row) (sc := defScope (s_read_row)) (by decide +kernel)) (fun _ _ _ _ _ => (g_name 2 (pg_name (i := 2) nd rfl (by first | exact .inl rfl | exact .inr rfl)))) (fun _ _ _ _ _ => ts_nil) (fun _ _ _ _ _ => (p_call (XOk.no xo.so) (fis_whole.mono (by first | decide | exact Nat.le_refl _)) (hr.mono (by first | decide | exact Nat.le_refl _)) (by rfl) gis_whole kis_whole bis_whole (pa_cons' (p_var 2 (pv 2)) pa_nil'))) (by decide))) pa_nil')))))))) (ss_one (s_ret p_non)) ss_nil)) (ss_cons0 (s0 (s_setLc (i := 3) rfl nd rfl rfl (sw_true rfl rfl rfl (by decide +kernel)) (i_seq (p_var 0 (pv 0))) (blkOk_by (own := [((PySem.Str.ofString "word"), 2)]) (N := N_read_row) (sc := defScope (s_read_row)) (by decide +kernel)) (fun _ _ _ _ _ => (g_name 2 (pg_name (i := 2) nd rfl (by first | exact .inl rfl | exact .inr rfl)))) (fun _ _ _ _ _ => ts_nil) (fun _ _ _ _ _ => (p_callTy c_int f_intS (by rfl) m_int rfl (pa_cons' (p_var 2 (pv 2)) pa_nil'))) (by decide))) (ss_cons0 (s0 (s_if (PW.pt (t_or (t_not (t_chain op_le f_le op_le f_le p_int (p_idx (p_var 3 (pv 3)) p_int) (p_idx (p_var 1 (pv 1)) p_int))) (t_or1 (PW.pt (t_and (t_cmp op_lt f_lt (p_idx (p_var 3 (pv 3)) p_int) (p_idx (p_var 1 (pv 1)) p_int) (by first | exact nomark _ | rfl)) (t_and1 (t_cmp op_gt f_gt (p_idx (p_var 3 (pv 3)) p_int) (p_const (pe_glob (v := .int 1000000000) (by rfl) m_MOST_WEIGHT ⟨_, rfl⟩) fun _ _ _ => by simp [Rep]) (by first | exact nomark _ | rfl)))))))) (ss_one (s_ret p_non)) ss_nil)) (ss_cons0 (s0 (s_if (t_not (t_truth (p_callB (cr_all rfl) f_all (by rfl) m_all rfl (pa_cons' (p_frz (p_lc rfl nd (i_seq (p_sl (p_var 3 (pv 3)) (o_some p_int) (o_some (p_un un_neg f_neg p_int)))) (blkOk_by (own := [((PySem.Str.ofString "literal"), 4)]) (N := N_read_row) (sc := defScope (s_read_row)) (by decide +kernel)) (fun _ _ _ _ _ => (g_name 4 (pg_name (i := 4) nd rfl (by first | exact .inl rfl | exact .inr rfl)))) (fun _ _ _ _ _ => ts_nil) (fun _ _ _ _ _ => (p_and (p_cmp (op_neD (units_of hr (by decide))) f_ne (p_var 4 (pv 4)) p_int (by first | exact nomark _ | rfl)) (p_one (p_cmp op_le f_le (p_callB call_abs f_abs (by rfl) m_abs rfl (pa_cons' (p_var 4 (pv 4)) pa_nil')) (p_idx (p_var 1 (pv 1)) p_int) (by first | exact nomark _ | rfl))))) (by decide))) pa_nil')))) (ss_one (s_ret p_non)) ss_nil)) (ss_one0 (s_tryU xo rfl rfl ⟨by rfl, by decide, .inl gBadClause⟩ c_read_row (fun pn xe x' xo' po' => (ss_one0 (s0 (s_ret (p_tup (pa_cons' (p_call xo' (fclause_of.mono (by first | decide | exact Nat.le_refl _)) (hr.mono (by first | decide | exact Nat.le_refl _)) (by rfl) gclause_of kclause_of bclause_of (pa_cons' (p_sl (p_var 3 (pv 3)) (o_some p_int) (o_some (p_un un_neg f_neg p_int))) pa_nil')) (pa_cons' (p_idx (p_var 3 (pv 3)) p_int) pa_nil'))))))) (fun a oe pn => (ss_one0 (s0 (s_ret p_non))))))))))) hw
abbrev s_read_wcnf : Stmt := topS 25
abbrev N_read_wcnf : List Str := [(PySem.Str.ofString "text"), (PySem.Str.ofString "lines"), (PySem.Str.ofString "rows"), (PySem.Str.ofString "at"), (PySem.Str.ofString "line"), (PySem.Str.ofString "head"), (PySem.Str.ofString "hard"), (PySem.Str.ofString "soft"), (PySem.Str.ofString "words"), (PySem.Str.ofString "told")]
theorem sc_read_wcnf : FnScope N_read_wcnf [(PySem.Str.ofString "text")] (defScope s_read_wcnf) := ⟨rfl, rfl, rfl, by decide +kernel, rfl, by decide +kernel, by decide +kernel⟩
def S_read_wcnf (aProblem : Addr) (F_read_head : Fn) (F_read_row : Fn) (F_split : Fn) (F_Problem___init__ : Fn) : Sx := sSeq (sSet 1 (eM1 dSplit (eVar 0) (eC (.str (PySem.Str.ofString "\n"))))) (sSeq (sSet 2 (eFrz (eLC [3, 4] (iEnumL (eVar 1)) (.tup [.name 3, .name 4]) (bV (eOp2 dNe (eSl (eCall F_split 1 (eCons (eVar 4) (eNil))) (oNone) (oSome (eC (.int 1)))) (eFrz (eDisp (eCons (eC (.str (PySem.Str.ofString "c"))) (eNil)))))) (eTup (eCons (eVar 3) (eCons (eCall F_split 1 (eCons (eVar 4) (eNil))) (eNil))))))) (sSeq (sIf (bNot (bT (eVar 2))) (sRaise (PySem.Str.ofString "BadText") (PySem.Str.ofString "at") (eOpN dLen (eCons (eVar 1) (eNil)))) (sPass)) (sSeq (sSet 5 (eCall F_read_head 1 (eCons (eIdx (eIdx (eVar 2) (eC (.int 0))) (eC (.int 1))) (eNil)))) (sSeq (sIf (bV (eOp2 dIsN (eVar 5) (eC .non))) (sRaise (PySem.Str.ofString "BadText") (PySem.Str.ofString "at") (eIdx (eIdx (eVar 2) (eC (.int 0))) (eC (.int 0)))) (sPass)) (sSeq (sOwn 6 (eDisp (eNil))) (sSeq (sOwn 7 (eDisp (eNil))) (sSeq (sFor (iSeq (eSl (eVar 2) (oSome (eC (.int 1))) (oNone))) (.tup [.name 3, .name 8]) (sSeq (sSet 9 (eCall F_read_row 2 (eCons (eVar 8) (eCons (eVar 5) (eNil))))) (sSeq (sIf (bOr (bV (eOp2 dIsN (eVar 9) (eC .non))) (bV (eOp2 dEq (eOp2 dAdd (eLenO 6) (eLenO 7)) (eIdx (eVar 5) (eC (.int 1)))))) (sRaise (PySem.Str.ofString "BadText") (PySem.Str.ofString "at") (eVar 3)) (sPass)) (sIf (bV (eOp2 dEq (eIdx (eVar 9) (eC (.int 1))) (eIdx (eVar 5) (eC (.int 2))))) (sAppend 6 (eIdx (eVar 9) (eC (.int 0)))) (sAppend 7 (eVar 9)))))) (sSeq (sIf (bOr (bV (eOp2 dLt (eOp2 dAdd (eLenO 6) (eLenO 7)) (eIdx (eVar 5) (eC (.int 1))))) (bOr (bV (eOp2 dGt (eLenO 6) (eC (.int 3000)))) (bV (eOp2 dGt (eLenO 7) (eC (.int 300)))))) (sRaise (PySem.Str.ofString "BadText") (PySem.Str.ofString "at") (eOpN dLen (eCons (eVar 1) (eNil)))) (sPass)) (sFreeze 6 (sFreeze 7 (sRet (eCall F_Problem___init__ 3 (eCons (eIdx (eVar 5) (eC (.int 0))) (eCons (eVar 6) (eCons (eVar 7) (eNil))))))))))))))))
theorem ok_read_wcnf {P : Program} {w : World} {K : PySem.W.Frag} {mg : Str → Option Value} {base : Heap} {a0 : Addr} {d0 : FuncData} (aProblem : Addr) (F_read_head : Fn) (F_read_row : Fn) (F_split : Fn) (F_Problem___init__ : Fn) {F : Fn} (Fu : Fun K (PySem.Str.ofString "read_wcnf") (PySem.Str.ofString "read_wcnf") s_read_wcnf a0 d0) (m_enumerate : mg (PySem.Str.ofString "enumerate") = none) (m_len : mg (PySem.Str.ofString "len") = none) {tk_MOST_HARD : Tok} (m_MOST_HARD : mg (PySem.Str.ofString "MOST_HARD") = some (.int 3000 tk_MOST_HARD)) {tk_MOST_SOFT : Tok} (m_MOST_SOFT : mg (PySem.Str.ofString "MOST_SOFT") = some (.int 300 tk_MOST_SOFT)) (cProblem : Cls K aProblem) (gProblem : mg (PySem.Str.ofString "Problem") = some (.ref aProblem)) {a_read_head : Addr} {d_read_head : FuncData} (fread_head : FnOk P w K mg base (L2.CX P w) 3 a_read_head d_read_head [(PySem.Str.ofString "words")] (spD K mg 1 F_read_head)) (gread_head : mg (PySem.Str.ofString "read_head") = some (.ref a_read_head)) (kread_head : PySem.W.keepIn K (.ref a_read_head) = true) (bread_head : Binds K d_read_head [(PySem.Str.ofString "words")] []) {a_read_row : Addr} {d_read_row : FuncData} (fread_row : FnOk P w K mg base (L2.CX P w) 4 a_read_row d_read_row [(PySem.Str.ofString "words"), (PySem.Str.ofString "head")] (spD K mg 2 F_read_row)) (gread_row : mg (PySem.Str.ofString "read_row") = some (.ref a_read_row)) (kread_row : PySem.W.keepIn K (.ref a_read_row) = true) (bread_row : Binds K d_read_row [(PySem.Str.ofString "words"), (PySem.Str.ofString "head")] []) {a_split : Addr} {d_split : FuncData} (fsplit : FnOk P w K mg base (L2.CX P w) 1 a_split d_split [(PySem.Str.ofString "line")] (spD K mg 1 F_split)) (gsplit : mg (PySem.Str.ofString "split") = some (.ref a_split)) (ksplit : PySem.W.keepIn K (.ref a_split) = true) (bsplit : Binds K d_split [(PySem.Str.ofString "line")] []) {a_Problem___init__ : Addr} {d_Problem___init__ : FuncData} (fProblem___init__ : FnOk P w K mg base (L2.CX P w) 3 a_Problem___init__ d_Problem___init__ [(PySem.Str.ofString "self"), (PySem.Str.ofString "count"), (PySem.Str.ofString "hard"), (PySem.Str.ofString "soft")] (spI K mg aProblem 3 F_Problem___init__)) (bProblem___init__ : Binds K d_Problem___init__ [(PySem.Str.ofString "self"), (PySem.Str.ofString "count"), (PySem.Str.ofString "hard"), (PySem.Str.ofString "soft")] []) (mkProblem : Mk K aProblem a_Problem___init__) {C_BadText a_BadText : Addr} {d_BadText : FuncData} (oBadText : OexC K C_BadText) (iBadText : PySem.W.findIn K (.ref C_BadText) "__init__" = some (some (.ref a_BadText))) (tBadText : PySem.W.typeIn K (.ref a_BadText) = some (.type "function")) (FBadText : FnOk P w K mg base (L2.CX P w) 1 a_BadText d_BadText [(PySem.Str.ofString "self"), (PySem.Str.ofString "at")] (Ex.spI K C_BadText (PySem.Str.ofString "at"))) (bBadText : Binds K d_BadText [(PySem.Str.ofString "self"), (PySem.Str.ofString "at")] []) (gBadText : mg (PySem.Str.ofString "BadText") = some (.ref C_BadText)) (hw : Keeps 1 N_read_wcnf.length F (S_read_wcnf aProblem F_read_head F_read_row F_split F_Problem___init__)) : FnOk P w K mg base (L2.CX P w) (4 + 1) a0 d0 [(PySem.Str.ofString "text")] (spD K mg 1 F) :=
  okD Fu sc_read_wcnf rfl (fun cdv A outer s H E G xw hr xo => have nd := sc_read_wcnf.nd; (ss_cons (s_set (i := 1) nd rfl (by first | exact .inl rfl | exact .inr rfl) (p_m1 PySem.F.slot_str_split PySem.F.type_str_split mt_split f_split (p_var 0 (pv 0)) p_str)) (ss_cons (s_setLc (i := 2) rfl nd rfl rfl (sw_true rfl rfl rfl (by decide +kernel)) (i_enumL (by rfl) m_enumerate (p_var 1 (pv 1))) (blkOk_by (own := [((PySem.Str.ofString "at"), 3), ((PySem.Str.ofString "line"), 4)]) (N := N_read_wcnf) (sc := defScope (s_read_wcnf)) (by decide +kernel)) (fun _ _ _ _ _ => (g_tup rfl (gs_cons (g_name 3 (pg_name (i := 3) nd rfl (by first | exact .inl rfl | exact .inr rfl))) (gs_cons (g_name 4 (pg_name (i := 4) nd rfl (by first | exact .inl rfl | exact .inr rfl))) gs_nil)))) (fun _ _ _ _ _ => (ts_one (t_cmp (op_neD (units_of hr (by decide))) f_ne (p_sl (p_call (XOk.no xo.so) (fsplit.mono (by first | decide | exact Nat.le_refl _)) (hr.mono (by first | decide | exact Nat.le_refl _)) (by rfl) gsplit ksplit bsplit (pa_cons' (p_var 4 (pv 4)) pa_nil')) o_none (o_some p_int)) (p_frz (p_disp (pa_cons' p_str pa_nil'))) (by first | exact nomark _ | rfl)))) (fun _ _ _ _ _ => (p_tup (pa_cons' (p_var 3 (pv 3)) (pa_cons' (p_call (XOk.no xo.so) (fsplit.mono (by first | decide | exact Nat.le_refl _)) (hr.mono (by first | decide | exact Nat.le_refl _)) (by rfl) gsplit ksplit bsplit (pa_cons' (p_var 4 (pv 4)) pa_nil')) pa_nil')))) (by decide)) (ss_cons (s_if (t_not (t_truth (p_var 2 (pv 2)))) (ss_one (s_raise xo rfl oBadText iBadText tBadText (FBadText.mono (by first | decide | exact Nat.le_refl _)) (hr.mono (by first | decide | exact Nat.le_refl _)) bBadText (by rfl) gBadText (p_callB c_len f_len (by rfl) m_len rfl (pa_cons' (p_var 1 (pv 1)) pa_nil')))) ss_nil) (ss_cons (s_set (i := 5) nd rfl (by first | exact .inl rfl | exact .inr rfl) (p_call xo (fread_head.mono (by first | decide | exact Nat.le_refl _)) (hr.mono (by first | decide | exact Nat.le_refl _)) (by rfl) gread_head kread_head bread_head (pa_cons' (p_idx (p_idx (p_var 2 (pv 2)) p_int) p_int) pa_nil'))) (ss_cons (s_if (t_cmp op_isN f_isN (p_var 5 (pv 5)) p_non (by first | exact nomark _ | rfl)) (ss_one (s_raise xo rfl oBadText iBadText tBadText (FBadText.mono (by first | decide | exact Nat.le_refl _)) (hr.mono (by first | decide | exact Nat.le_refl _)) bBadText (by rfl) gBadText (p_idx (p_idx (p_var 2 (pv 2)) p_int) p_int))) ss_nil) (ss_cons (s_own (i := 6) nd rfl (by first | exact .inl rfl | exact .inr rfl) (p_disp pa_nil')) (ss_cons (s_own (i := 7) nd rfl (by first | exact .inl rfl | exact .inr rfl) (p_disp pa_nil')) (ss_cons (s_for (passes_of rfl) rfl (i_seq (p_sl (p_var 2 (pv 2)) (o_some p_int) o_none)) (g_tup rfl (gs_cons (g_name 3 (pg_name (i := 3) nd rfl (by first | exact .inl rfl | exact .inr rfl))) (gs_cons (g_name 8 (pg_name (i := 8) nd rfl (by first | exact .inl rfl | exact .inr rfl))) gs_nil))) (ss_cons (s_set (i := 9) nd rfl (by first | exact .inl rfl | exact .inr rfl) (p_call xo (fread_row.mono (by first | decide | exact Nat.le_refl _)) (hr.mono (by first | decide | exact Nat.le_refl _)) (by rfl) gread_row kread_row bread_row (pa_cons' (p_var 8 (pv 8)) (pa_cons' (p_var 5 (pv 5)) pa_nil')))) (ss_cons (s_if (PW.pt (t_or (t_cmp op_isN f_isN (p_var 9 (pv 9)) p_non (by first | exact nomark _ | rfl)) (t_or1 (t_cmp (op_eqD (units_of hr (by decide))) f_eq (p_op o_add f_add (p_lenOwn (by rfl) m_len (pv 6)) (p_lenOwn (by rfl) m_len (pv 7))) (p_idx (p_var 5 (pv 5)) p_int) (by first | exact nomark _ | rfl))))) (ss_one (s_raise xo rfl oBadText iBadText tBadText (FBadText.mono (by first | decide | exact Nat.le_refl _)) (hr.mono (by first | decide | exact Nat.le_refl _)) bBadText (by rfl) gBadText (p_var 3 (pv 3)))) ss_nil) (ss_one (s_if (t_cmp (op_eqD (units_of hr (by decide))) f_eq (p_idx (p_var 9 (pv 9)) p_int) (p_idx (p_var 5 (pv 5)) p_int) (by first | exact nomark _ | rfl)) (ss_one (s_append (pv 6) (p_idx (p_var 9 (pv 9)) p_int))) (ss_one (s_append (pv 7) (p_var 9 (pv 9))))))))) (ss_cons (s_if (PW.pt (t_or (t_cmp op_lt f_lt (p_op o_add f_add (p_lenOwn (by rfl) m_len (pv 6)) (p_lenOwn (by rfl) m_len (pv 7))) (p_idx (p_var 5 (pv 5)) p_int) (by first | exact nomark _ | rfl)) (t_or (t_cmp op_gt f_gt (p_lenOwn (by rfl) m_len (pv 6)) (p_const (pe_glob (v := .int 3000) (by rfl) m_MOST_HARD ⟨_, rfl⟩) fun _ _ _ => by simp [Rep]) (by first | exact nomark _ | rfl)) (t_or1 (t_cmp op_gt f_gt (p_lenOwn (by rfl) m_len (pv 7)) (p_const (pe_glob (v := .int 300) (by rfl) m_MOST_SOFT ⟨_, rfl⟩) fun _ _ _ => by simp [Rep]) (by first | exact nomark _ | rfl)))))) (ss_one (s_raise xo rfl oBadText iBadText tBadText (FBadText.mono (by first | decide | exact Nat.le_refl _)) (hr.mono (by first | decide | exact Nat.le_refl _)) bBadText (by rfl) gBadText (p_callB c_len f_len (by rfl) m_len rfl (pa_cons' (p_var 1 (pv 1)) pa_nil')))) ss_nil) (ss_freeze 6 (ss_freeze 7 (ss_one (s_ret (p_make xo mkProblem (fProblem___init__.mono (by first | decide | exact Nat.le_refl _)) (hr.mono (by first | decide | exact Nat.le_refl _)) (by rfl) gProblem bProblem___init__ (pa_cons' (p_idx (p_var 5 (pv 5)) p_int) (pa_cons' (p_var 6 (pv 6)) (pa_cons' (p_var 7 (pv 7)) pa_nil')))))))))))))))))) hw
abbrev s__law_pool : Stmt := topS 29
abbrev N__law_pool : List Str := [(PySem.Str.ofString "script"), (PySem.Str.ofString "budget")]
theorem sc__law_pool : FnScope N__law_pool [(PySem.Str.ofString "script"), (PySem.Str.ofString "budget")] (defScope s__law_pool) := ⟨rfl, rfl, rfl, by decide +kernel, rfl, by decide +kernel, by decide +kernel⟩
def S__law_pool  : W (List Da) := eDisp (eCons (eFrz (eList (eVar 0))) (eCons (eC (.int 0)) (eCons (eC (.int 0)) (eCons (eC (.int 1)) (eCons (eC (.int 0)) (eCons (eVar 1) (eNil)))))))
theorem ok__law_pool {P : Program} {w : World} {K : PySem.W.Frag} {mg : Str → Option Value} {base : Heap} {a0 : Addr} {d0 : FuncData}  {F : List Da → (List Da → Prop) → Prop} (Fu : Fun K (PySem.Str.ofString "_law_pool") (PySem.Str.ofString "_law_pool") s__law_pool a0 d0) (m_list : mg (PySem.Str.ofString "list") = none) (hw : ∀ ds k, ds.length = 2 → F ds k → (S__law_pool ).wp (startE N__law_pool.length ds) (fun es _ => k es) noEx) : FnOk P w K mg base (L2.CX P w) (0 + 1) a0 d0 [(PySem.Str.ofString "script"), (PySem.Str.ofString "budget")] (spO K 2 F) :=
  okO Fu sc__law_pool rfl rfl (fun cdv A outer s H E G xw hr xo => have nd := sc__law_pool.nd; (p_disp (pa_cons' (p_frz (p_list (by rfl) m_list (p_var 0 (pv 0)))) (pa_cons' p_int (pa_cons' p_int (pa_cons' p_int (pa_cons' p_int (pa_cons' (p_var 1 (pv 1)) pa_nil')))))))) hw
abbrev s__law_draw : Stmt := topS 30
abbrev N__law_draw : List Str := [(PySem.Str.ofString "pool"), (PySem.Str.ofString "size"), (PySem.Str.ofString "cell"), (PySem.Str.ofString "value")]
theorem sc__law_draw : FnScope N__law_draw [(PySem.Str.ofString "pool"), (PySem.Str.ofString "size")] (defScope s__law_draw) := ⟨rfl, rfl, rfl, by decide +kernel, rfl, by decide +kernel, by decide +kernel⟩
def S__law_draw  : Sx := sOpen 0 (sSeq (sIf (bAnd (bV (eOp2 dLe (eIxP 0 (eC (.int 2))) (eC (.int 0)))) (bAnd (bV (eOp2 dLe (eIxP 0 (eC (.int 4))) (eC (.int 0)))) (bV (eOp2 dLt (eIxP 0 (eC (.int 1))) (eOpN dLen (eCons (eIxP 0 (eC (.int 0))) (eNil))))))) (sSeq (sSet 2 (eIdx (eIxP 0 (eC (.int 0))) (eIxP 0 (eC (.int 1))))) (sSeq (sPutP 0 (eC (.int 1)) (eOp2 dAdd (eIxP 0 (eC (.int 1))) (eC (.int 1)))) (sSeq (sPutP 0 (eC (.int 3)) (eOp2 dMod (eOpN dInt (eCons (eOp2 dAdd (eOp2 dMul (eIxP 0 (eC (.int 3))) (eC (.int 31))) (eVar 2)) (eNil))) (eC (.int 2147483647)))) (sSeq (sPutP 0 (eC (.int 4)) (eC (.int 7))) (sIf (bV (eOp2 dGe (eVar 2) (eOp2 dPow (eC (.int 10)) (eC (.int 18))))) (sPutP 0 (eC (.int 2)) (eVar 2)) (sPass)))))) (sPass)) (sSeq (sIf (bV (eOp2 dGt (eIxP 0 (eC (.int 2))) (eC (.int 0)))) (sSeq (sSet 3 (eOp2 dMod (eOpN dInt (eCons (eIxP 0 (eC (.int 2))) (eNil))) (eVar 1))) (sSeq (sPutP 0 (eC (.int 2)) (eOp2 dDiv (eIxP 0 (eC (.int 2))) (eVar 1))) (sSeq (sPutP 0 (eC (.int 4)) (eC (.int 0))) (sRet (eVar 3))))) (sPass)) (sSeq (sPutP 0 (eC (.int 4)) (eOp2 dSub (eIxP 0 (eC (.int 4))) (eC (.int 1)))) (sSeq (sPutP 0 (eC (.int 3)) (eOp2 dMod (eOpN dInt (eCons (eOp2 dAdd (eOp2 dMul (eIxP 0 (eC (.int 3))) (eC (.int 48271))) (eC (.int 12345))) (eNil))) (eC (.int 2147483647)))) (sRet (eOp2 dMod (eOp2 dMod (eOpN dInt (eCons (eOp2 dAdd (eOp2 dMul (eIxP 0 (eC (.int 3))) (eC (.int 69621))) (eC (.int 7919))) (eNil))) (eC (.int 2147483647))) (eVar 1)))))))
theorem ok__law_draw {P : Program} {w : World} {K : PySem.W.Frag} {mg : Str → Option Value} {base : Heap} {a0 : Addr} {d0 : FuncData}  {F : Fn} (Fu : Fun K (PySem.Str.ofString "_law_draw") (PySem.Str.ofString "_law_draw") s__law_draw a0 d0) (m_int : mg (PySem.Str.ofString "int") = none) (m_len : mg (PySem.Str.ofString "len") = none) (hw : KeepsP 1 N__law_draw.length F (S__law_draw )) : FnOk P w K mg base (L2.CX P w) (0 + 1) a0 d0 [(PySem.Str.ofString "pool"), (PySem.Str.ofString "size")] (spL K mg 1 F) :=
  okL Fu sc__law_draw rfl (fun cdv A outer s H E G xw hr xo => have nd := sc__law_draw.nd; (ss_open 0 (ss_cons (s_if (PW.pt (t_and (t_cmp op_le f_le (p_ixP (pv 0) p_int) p_int (by first | exact nomark _ | rfl)) (t_and (t_cmp op_le f_le (p_ixP (pv 0) p_int) p_int (by first | exact nomark _ | rfl)) (t_and1 (t_cmp op_lt f_lt (p_ixP (pv 0) p_int) (p_callB c_len f_len (by rfl) m_len rfl (pa_cons' (p_ixP (pv 0) p_int) pa_nil')) (by first | exact nomark _ | rfl)))))) (ss_cons (s_set (i := 2) nd rfl (by first | exact .inl rfl | exact .inr rfl) (p_idx (p_ixP (pv 0) p_int) (p_ixP (pv 0) p_int))) (ss_cons (g_putP (pv 0) p_int (p_op o_add f_add (p_ixP (pv 0) p_int) p_int)) (ss_cons (g_putP (pv 0) p_int (p_op op_mod f_mod (p_callTy call_int1 f_int (by rfl) m_int rfl (pa_cons' (p_op o_add f_add (p_op op_mul f_mul (p_ixP (pv 0) p_int) p_int) (p_var 2 (pv 2))) pa_nil')) p_int)) (ss_cons (g_putP (pv 0) p_int p_int) (ss_one (s_if (t_cmp op_ge f_ge (p_var 2 (pv 2)) (p_op op_pow f_pow p_int p_int) (by first | exact nomark _ | rfl)) (ss_one (g_putP (pv 0) p_int (p_var 2 (pv 2)))) ss_nil)))))) ss_nil) (ss_cons (s_if (t_cmp op_gt f_gt (p_ixP (pv 0) p_int) p_int (by first | exact nomark _ | rfl)) (ss_cons (s_set (i := 3) nd rfl (by first | exact .inl rfl | exact .inr rfl) (p_op op_mod f_mod (p_callTy call_int1 f_int (by rfl) m_int rfl (pa_cons' (p_ixP (pv 0) p_int) pa_nil')) (p_var 1 (pv 1)))) (ss_cons (g_putP (pv 0) p_int (p_op op_fdiv f_div (p_ixP (pv 0) p_int) (p_var 1 (pv 1)))) (ss_cons (g_putP (pv 0) p_int p_int) (ss_one (s_ret (p_var 3 (pv 3))))))) ss_nil) (ss_cons (g_putP (pv 0) p_int (p_op op_sub f_sub (p_ixP (pv 0) p_int) p_int)) (ss_cons (g_putP (pv 0) p_int (p_op op_mod f_mod (p_callTy call_int1 f_int (by rfl) m_int rfl (pa_cons' (p_op o_add f_add (p_op op_mul f_mul (p_ixP (pv 0) p_int) p_int) p_int) pa_nil')) p_int)) (ss_one (s_ret (p_op op_mod f_mod (p_op op_mod f_mod (p_callTy call_int1 f_int (by rfl) m_int rfl (pa_cons' (p_op o_add f_add (p_op op_mul f_mul (p_ixP (pv 0) p_int) p_int) p_int) pa_nil')) p_int) (p_var 1 (pv 1))))))))))) hw
abbrev s__law_same : Stmt := topS 31
abbrev N__law_same : List Str := [(PySem.Str.ofString "actual"), (PySem.Str.ofString "due"), (PySem.Str.ofString "k")]
theorem sc__law_same : FnScope N__law_same [(PySem.Str.ofString "actual"), (PySem.Str.ofString "due")] (defScope s__law_same) := ⟨rfl, rfl, rfl, by decide +kernel, rfl, by decide +kernel, by decide +kernel⟩
def S__law_same (F__law_same : Fn) : Sx := sSeq (sIf (bOr (bT (eIsi "tuple" (eVar 1))) (bT (eIsi "list" (eVar 1)))) (sSeq (sIf (bOr (bV (eOp2 dNe (eIsi "tuple" (eVar 1)) (eIsi "tuple" (eVar 0)))) (bV (eOp2 dNe (eIsi "list" (eVar 1)) (eIsi "list" (eVar 0))))) (sRet (eC (.bl false))) (sPass)) (sSeq (sIf (bV (eOp2 dNe (eOpN dLen (eCons (eVar 0) (eNil))) (eOpN dLen (eCons (eVar 1) (eNil))))) (sRet (eC (.bl false))) (sPass)) (sSeq (sFor (iRange1 (eOpN dLen (eCons (eVar 1) (eNil)))) (.name 2) (sIf (bNot (bT (eCall F__law_same 2 (eCons (eIdx (eVar 0) (eVar 2)) (eCons (eIdx (eVar 1) (eVar 2)) (eNil)))))) (sRet (eC (.bl false))) (sPass))) (sRet (eC (.bl true)))))) (sPass)) (sSeq (sIf (bOr (bV (eOp2 dIsN (eVar 1) (eC .non))) (bT (eIsi "bool" (eVar 1)))) (sRet (eAnd (eOp2 dEq (eOp2 dIsN (eVar 0) (eC .non)) (eOp2 dIsN (eVar 1) (eC .non))) (eAnd (eOr (eOp2 dIsN (eVar 1) (eC .non)) (eIsi "bool" (eVar 0))) (eOp2 dEq (eVar 0) (eVar 1))))) (sPass)) (sSeq (sIf (bT (eIsi "int" (eVar 1))) (sRet (eAnd (eIsi "int" (eVar 0)) (eAnd (eNot (eIsi "bool" (eVar 0))) (eOp2 dEq (eVar 0) (eVar 1))))) (sPass)) (sRet (eAnd (eIsi "str" (eVar 0)) (eOp2 dEq (eVar 0) (eVar 1))))))
theorem ok__law_same {P : Program} {w : World} {K : PySem.W.Frag} {mg : Str → Option Value} {base : Heap} {kk : Nat} {a0 : Addr} {d0 : FuncData} (F__law_same : Fn) {F : Fn} (Fu : Fun K (PySem.Str.ofString "_law_same") (PySem.Str.ofString "_law_same") s__law_same a0 d0) (m_isinstance : mg (PySem.Str.ofString "isinstance") = none) (m_int : mg (PySem.Str.ofString "int") = none) (m_tuple : mg (PySem.Str.ofString "tuple") = none) (m_list : mg (PySem.Str.ofString "list") = none) (m_range : mg (PySem.Str.ofString "range") = none) (m_bool : mg (PySem.Str.ofString "bool") = none) (m_str : mg (PySem.Str.ofString "str") = none) (m_len : mg (PySem.Str.ofString "len") = none) {a__law_same : Addr} {d__law_same : FuncData} (f_law_same : FnOk P w K mg base (L2.CX P w) (kk) a__law_same d__law_same [(PySem.Str.ofString "actual"), (PySem.Str.ofString "due")] (spD K mg 2 F__law_same)) (g_law_same : mg (PySem.Str.ofString "_law_same") = some (.ref a__law_same)) (k_law_same : PySem.W.keepIn K (.ref a__law_same) = true) (b_law_same : Binds K d__law_same [(PySem.Str.ofString "actual"), (PySem.Str.ofString "due")] []) (hw : Keeps 2 N__law_same.length F (S__law_same F__law_same)) : FnOk P w K mg base (L2.CX P w) (kk + 1) a0 d0 [(PySem.Str.ofString "actual"), (PySem.Str.ofString "due")] (spD K mg 2 F) :=
  okD Fu sc__law_same rfl (fun cdv A outer s H E G xw hr xo => have nd := sc__law_same.nd; (ss_cons (s_if (PW.pt (t_or (t_truth (p_isi (by rfl) m_isinstance rfl (p_var 1 (pv 1)) (pe_bltn (by rfl) m_tuple rfl rfl) (by simp))) (t_or1 (t_truth (p_isi (by rfl) m_isinstance rfl (p_var 1 (pv 1)) (pe_bltn (by rfl) m_list rfl rfl) (by simp)))))) (ss_cons (s_if (PW.pt (t_or (t_cmp (op_neD (units_of hr (by decide))) f_ne (p_isi (by rfl) m_isinstance rfl (p_var 1 (pv 1)) (pe_bltn (by rfl) m_tuple rfl rfl) (by simp)) (p_isi (by rfl) m_isinstance rfl (p_var 0 (pv 0)) (pe_bltn (by rfl) m_tuple rfl rfl) (by simp)) (by first | exact nomark _ | rfl)) (t_or1 (t_cmp (op_neD (units_of hr (by decide))) f_ne (p_isi (by rfl) m_isinstance rfl (p_var 1 (pv 1)) (pe_bltn (by rfl) m_list rfl rfl) (by simp)) (p_isi (by rfl) m_isinstance rfl (p_var 0 (pv 0)) (pe_bltn (by rfl) m_list rfl rfl) (by simp)) (by first | exact nomark _ | rfl))))) (ss_one (s_ret p_bl)) ss_nil) (ss_cons (s_if (t_cmp (op_neD (units_of hr (by decide))) f_ne (p_callB c_len f_len (by rfl) m_len rfl (pa_cons' (p_var 0 (pv 0)) pa_nil')) (p_callB c_len f_len (by rfl) m_len rfl (pa_cons' (p_var 1 (pv 1)) pa_nil')) (by first | exact nomark _ | rfl)) (ss_one (s_ret p_bl)) ss_nil) (ss_cons (s_for (passes_of rfl) rfl (i_range1 (by rfl) m_range (p_callB c_len f_len (by rfl) m_len rfl (pa_cons' (p_var 1 (pv 1)) pa_nil'))) (g_name 2 (pg_name (i := 2) nd rfl (by first | exact .inl rfl | exact .inr rfl))) (ss_one (s_if (t_not (t_truth (p_call xo (f_law_same.mono (by first | decide | exact Nat.le_refl _)) (hr.mono (by first | decide | exact Nat.le_refl _)) (by rfl) g_law_same k_law_same b_law_same (pa_cons' (p_idx (p_var 0 (pv 0)) (p_var 2 (pv 2))) (pa_cons' (p_idx (p_var 1 (pv 1)) (p_var 2 (pv 2))) pa_nil'))))) (ss_one (s_ret p_bl)) ss_nil))) (ss_one (s_ret p_bl))))) ss_nil) (ss_cons (s_if (PW.pt (t_or (t_cmp op_isN f_isN (p_var 1 (pv 1)) p_non (by first | exact nomark _ | rfl)) (t_or1 (t_truth (p_isi (by rfl) m_isinstance rfl (p_var 1 (pv 1)) (pe_bltn (by rfl) m_bool rfl rfl) (by simp)))))) (ss_one (s_ret (p_and (p_cmp (op_eqD (units_of hr (by decide))) f_eq (p_cmp op_isN f_isN (p_var 0 (pv 0)) p_non (by first | exact nomark _ | rfl)) (p_cmp op_isN f_isN (p_var 1 (pv 1)) p_non (by first | exact nomark _ | rfl)) (by first | exact nomark _ | rfl)) (p_and (p_or (p_cmp op_isN f_isN (p_var 1 (pv 1)) p_non (by first | exact nomark _ | rfl)) (p_one (p_isi (by rfl) m_isinstance rfl (p_var 0 (pv 0)) (pe_bltn (by rfl) m_bool rfl rfl) (by simp)))) (p_one (p_cmp (op_eqD (units_of hr (by decide))) f_eq (p_var 0 (pv 0)) (p_var 1 (pv 1)) (by first | exact nomark _ | rfl))))))) ss_nil) (ss_cons (s_if (t_truth (p_isi (by rfl) m_isinstance rfl (p_var 1 (pv 1)) (pe_bltn (by rfl) m_int rfl rfl) (by simp))) (ss_one (s_ret (p_and (p_isi (by rfl) m_isinstance rfl (p_var 0 (pv 0)) (pe_bltn (by rfl) m_int rfl rfl) (by simp)) (p_and (p_not (p_isi (by rfl) m_isinstance rfl (p_var 0 (pv 0)) (pe_bltn (by rfl) m_bool rfl rfl) (by simp))) (p_one (p_cmp (op_eqD (units_of hr (by decide))) f_eq (p_var 0 (pv 0)) (p_var 1 (pv 1)) (by first | exact nomark _ | rfl))))))) ss_nil) (ss_one (s_ret (p_and (p_isi (by rfl) m_isinstance rfl (p_var 0 (pv 0)) (pe_bltn (by rfl) m_str rfl rfl) (by simp)) (p_one (p_cmp (op_eqD (units_of hr (by decide))) f_eq (p_var 0 (pv 0)) (p_var 1 (pv 1)) (by first | exact nomark _ | rfl)))))))))) hw
abbrev s__law_literals : Stmt := topS 32
abbrev N__law_literals : List Str := [(PySem.Str.ofString "pool"), (PySem.Str.ofString "count"), (PySem.Str.ofString "most"), (PySem.Str.ofString "found"), (PySem.Str.ofString "variable")]
theorem sc__law_literals : FnScope N__law_literals [(PySem.Str.ofString "pool"), (PySem.Str.ofString "count"), (PySem.Str.ofString "most")] (defScope s__law_literals) := ⟨rfl, rfl, rfl, by decide +kernel, rfl, by decide +kernel, by decide +kernel⟩
def S__law_literals (F__law_draw : Fn) : Sx := sSeq (sOwn 3 (eDisp (eNil))) (sSeq (sFor (iRange2 (eC (.int 1)) (eOp2 dAdd (eVar 1) (eC (.int 1)))) (.name 4) (sIf (bAnd (bV (eOp2 dLt (eLenO 3) (eVar 2))) (bV (eOp2 dEq (eCallP 0 F__law_draw 1 (eCons (eC (.int 3)) (eNil))) (eC (.int 0))))) (sAppend 3 (eIdx (eTup (eCons (eVar 4) (eCons (eOp2 dSub (eC (.int 0)) (eVar 4)) (eNil)))) (eCallP 0 F__law_draw 1 (eCons (eC (.int 2)) (eNil))))) (sPass))) (sFreeze 3 (sRet (eOpN dTuple (eCons (eVar 3) (eNil))))))
theorem ok__law_literals {P : Program} {w : World} {K : PySem.W.Frag} {mg : Str → Option Value} {base : Heap} {a0 : Addr} {d0 : FuncData} (F__law_draw : Fn) {F : Fn} (Fu : Fun K (PySem.Str.ofString "_law_literals") (PySem.Str.ofString "_law_literals") s__law_literals a0 d0) (m_range : mg (PySem.Str.ofString "range") = none) (m_tuple : mg (PySem.Str.ofString "tuple") = none) (m_len : mg (PySem.Str.ofString "len") = none) {a__law_draw : Addr} {d__law_draw : FuncData} (f_law_draw : FnOk P w K mg base (L2.CX P w) 1 a__law_draw d__law_draw [(PySem.Str.ofString "pool"), (PySem.Str.ofString "size")] (spL K mg 1 F__law_draw)) (g_law_draw : mg (PySem.Str.ofString "_law_draw") = some (.ref a__law_draw)) (k_law_draw : PySem.W.keepIn K (.ref a__law_draw) = true) (b_law_draw : Binds K d__law_draw [(PySem.Str.ofString "pool"), (PySem.Str.ofString "size")] []) (hw : KeepsP 2 N__law_literals.length F (S__law_literals F__law_draw)) : FnOk P w K mg base (L2.CX P w) (1 + 1) a0 d0 [(PySem.Str.ofString "pool"), (PySem.Str.ofString "count"), (PySem.Str.ofString "most")] (spL K mg 2 F) :=
  okL Fu sc__law_literals rfl (fun cdv A outer s H E G xw hr xo => have nd := sc__law_literals.nd; (ss_cons (s_own (i := 3) nd rfl (by first | exact .inl rfl | exact .inr rfl) (p_disp pa_nil')) (ss_cons (s_for (passes_of rfl) rfl (i_range2 (by rfl) m_range p_int (p_op o_add f_add (p_var 1 (pv 1)) p_int)) (g_name 4 (pg_name (i := 4) nd rfl (by first | exact .inl rfl | exact .inr rfl))) (ss_one (s_if (PW.pt (t_and (t_cmp op_lt f_lt (p_lenOwn (by rfl) m_len (pv 3)) (p_var 2 (pv 2)) (by first | exact nomark _ | rfl)) (t_and1 (t_cmp (op_eqD (units_of hr (by decide))) f_eq (p_callP (i := 0) (f_law_draw.mono (by first | decide | exact Nat.le_refl _)) (hr.mono (by first | decide | exact Nat.le_refl _)) (by rfl) g_law_draw k_law_draw b_law_draw (pv 0) (pa_cons' p_int pa_nil')) p_int (by first | exact nomark _ | rfl))))) (ss_one (s_append (pv 3) (p_idx (p_tup (pa_cons' (p_var 4 (pv 4)) (pa_cons' (p_op op_sub f_sub p_int (p_var 4 (pv 4))) pa_nil'))) (p_callP (i := 0) (f_law_draw.mono (by first | decide | exact Nat.le_refl _)) (hr.mono (by first | decide | exact Nat.le_refl _)) (by rfl) g_law_draw k_law_draw b_law_draw (pv 0) (pa_cons' p_int pa_nil'))))) ss_nil))) (ss_freeze 3 (ss_one (s_ret (p_callTy call_tuple_of f_tuple (by rfl) m_tuple rfl (pa_cons' (p_var 3 (pv 3)) pa_nil')))))))) hw
abbrev s__law_problem : Stmt := topS 33
abbrev N__law_problem : List Str := [(PySem.Str.ofString "pool"), (PySem.Str.ofString "most"), (PySem.Str.ofString "hards"), (PySem.Str.ofString "softs"), (PySem.Str.ofString "weight"), (PySem.Str.ofString "count"), (PySem.Str.ofString "hard"), (PySem.Str.ofString "k"), (PySem.Str.ofString "clause"), (PySem.Str.ofString "soft")]
theorem sc__law_problem : FnScope N__law_problem [(PySem.Str.ofString "pool"), (PySem.Str.ofString "most"), (PySem.Str.ofString "hards"), (PySem.Str.ofString "softs"), (PySem.Str.ofString "weight")] (defScope s__law_problem) := ⟨rfl, rfl, rfl, by decide +kernel, rfl, by decide +kernel, by decide +kernel⟩
def S__law_problem (F__law_draw : Fn) (F__law_literals : Fn) : Sx := sSeq (sSet 5 (eOp2 dAdd (eC (.int 1)) (eCallP 0 F__law_draw 1 (eCons (eVar 1) (eNil))))) (sSeq (sSet 6 (eFrz (eLC [7] (iRange1 (eCallP 0 F__law_draw 1 (eCons (eOp2 dAdd (eVar 2) (eC (.int 1))) (eNil)))) (.name 7) bYes (eCallP 0 F__law_literals 2 (eCons (eVar 5) (eCons (eC (.int 3)) (eNil))))))) (sSeq (sIf (bV (eOp2 dGt (eCallP 0 F__law_draw 1 (eCons (eC (.int 4)) (eNil))) (eC (.int 0)))) (sSet 6 (eFrz (eLC [8] (iSeq (eVar 6)) (.name 8) (bV (eOp2 dNe (eVar 8) (eTup (eNil)))) (eVar 8)))) (sPass)) (sSeq (sSet 9 (eFrz (eLC [7] (iRange1 (eCallP 0 F__law_draw 1 (eCons (eOp2 dAdd (eVar 3) (eC (.int 1))) (eNil)))) (.name 7) bYes (eTup (eCons (eCallP 0 F__law_literals 2 (eCons (eVar 5) (eCons (eC (.int 3)) (eNil)))) (eCons (eOp2 dAdd (eC (.int 1)) (eCallP 0 F__law_draw 1 (eCons (eVar 4) (eNil)))) (eNil))))))) (sRet (eTup (eCons (eVar 5) (eCons (eOpN dTuple (eCons (eVar 6) (eNil))) (eCons (eOpN dTuple (eCons (eVar 9) (eNil))) (eNil)))))))))
theorem ok__law_problem {P : Program} {w : World} {K : PySem.W.Frag} {mg : Str → Option Value} {base : Heap} {a0 : Addr} {d0 : FuncData} (F__law_draw : Fn) (F__law_literals : Fn) {F : Fn} (Fu : Fun K (PySem.Str.ofString "_law_problem") (PySem.Str.ofString "_law_problem") s__law_problem a0 d0) (m_tuple : mg (PySem.Str.ofString "tuple") = none) (m_range : mg (PySem.Str.ofString "range") = none) {a__law_draw : Addr} {d__law_draw : FuncData} (f_law_draw : FnOk P w K mg base (L2.CX P w) 1 a__law_draw d__law_draw [(PySem.Str.ofString "pool"), (PySem.Str.ofString "size")] (spL K mg 1 F__law_draw)) (g_law_draw : mg (PySem.Str.ofString "_law_draw") = some (.ref a__law_draw)) (k_law_draw : PySem.W.keepIn K (.ref a__law_draw) = true) (b_law_draw : Binds K d__law_draw [(PySem.Str.ofString "pool"), (PySem.Str.ofString "size")] []) {a__law_literals : Addr} {d__law_literals : FuncData} (f_law_literals : FnOk P w K mg base (L2.CX P w) 2 a__law_literals d__law_literals [(PySem.Str.ofString "pool"), (PySem.Str.ofString "count"), (PySem.Str.ofString "most")] (spL K mg 2 F__law_literals)) (g_law_literals : mg (PySem.Str.ofString "_law_literals") = some (.ref a__law_literals)) (k_law_literals : PySem.W.keepIn K (.ref a__law_literals) = true) (b_law_literals : Binds K d__law_literals [(PySem.Str.ofString "pool"), (PySem.Str.ofString "count"), (PySem.Str.ofString "most")] []) (hw : KeepsP 4 N__law_problem.length F (S__law_problem F__law_draw F__law_literals)) : FnOk P w K mg base (L2.CX P w) (2 + 1) a0 d0 [(PySem.Str.ofString "pool"), (PySem.Str.ofString "most"), (PySem.Str.ofString "hards"), (PySem.Str.ofString "softs"), (PySem.Str.ofString "weight")] (spL K mg 4 F) :=
  okL Fu sc__law_problem rfl (fun cdv A outer s H E G xw hr xo => have nd := sc__law_problem.nd; (ss_cons (s_set (i := 5) nd rfl (by first | exact .inl rfl | exact .inr rfl) (p_op o_add f_add p_int (p_callP (i := 0) (f_law_draw.mono (by first | decide | exact Nat.le_refl _)) (hr.mono (by first | decide | exact Nat.le_refl _)) (by rfl) g_law_draw k_law_draw b_law_draw (pv 0) (pa_cons' (p_var 1 (pv 1)) pa_nil')))) (ss_cons (s_setLc (i := 6) rfl nd rfl rfl (sw_true rfl rfl rfl (by decide +kernel)) (i_range1 (by rfl) m_range (p_callP (i := 0) (f_law_draw.mono (by first | decide | exact Nat.le_refl _)) (hr.mono (by first | decide | exact Nat.le_refl _)) (by rfl) g_law_draw k_law_draw b_law_draw (pv 0) (pa_cons' (p_op o_add f_add (p_var 2 (pv 2)) p_int) pa_nil'))) (blkOk_by (own := [((PySem.Str.ofString "k"), 7)]) (N := N__law_problem) (sc := defScope (s__law_problem)) (by decide +kernel)) (fun _ _ _ _ _ => (g_name 7 (pg_name (i := 7) nd rfl (by first | exact .inl rfl | exact .inr rfl)))) (fun _ _ _ _ _ => ts_nil) (fun _ _ _ _ _ => (p_callP (i := 0) (f_law_literals.mono (by first | decide | exact Nat.le_refl _)) (hr.mono (by first | decide | exact Nat.le_refl _)) (by rfl) g_law_literals k_law_literals b_law_literals (pv 0) (pa_cons' (p_var 5 (pv 5)) (pa_cons' p_int pa_nil')))) (by decide)) (ss_cons (s_if (t_cmp op_gt f_gt (p_callP (i := 0) (f_law_draw.mono (by first | decide | exact Nat.le_refl _)) (hr.mono (by first | decide | exact Nat.le_refl _)) (by rfl) g_law_draw k_law_draw b_law_draw (pv 0) (pa_cons' p_int pa_nil')) p_int (by first | exact nomark _ | rfl)) (ss_one (s_setLc (i := 6) rfl nd rfl rfl (sw_true rfl rfl rfl (by decide +kernel)) (i_seq (p_var 6 (pv 6))) (blkOk_by (own := [((PySem.Str.ofString "clause"), 8)]) (N := N__law_problem) (sc := defScope (s__law_problem)) (by decide +kernel)) (fun _ _ _ _ _ => (g_name 8 (pg_name (i := 8) nd rfl (by first | exact .inl rfl | exact .inr rfl)))) (fun _ _ _ _ _ => (ts_one (t_cmp (op_neD (units_of hr (by decide))) f_ne (p_var 8 (pv 8)) (p_tup pa_nil') (by first | exact nomark _ | rfl)))) (fun _ _ _ _ _ => (p_var 8 (pv 8))) (by decide))) ss_nil) (ss_cons (s_setLc (i := 9) rfl nd rfl rfl (sw_true rfl rfl rfl (by decide +kernel)) (i_range1 (by rfl) m_range (p_callP (i := 0) (f_law_draw.mono (by first | decide | exact Nat.le_refl _)) (hr.mono (by first | decide | exact Nat.le_refl _)) (by rfl) g_law_draw k_law_draw b_law_draw (pv 0) (pa_cons' (p_op o_add f_add (p_var 3 (pv 3)) p_int) pa_nil'))) (blkOk_by (own := [((PySem.Str.ofString "k"), 7)]) (N := N__law_problem) (sc := defScope (s__law_problem)) (by decide +kernel)) (fun _ _ _ _ _ => (g_name 7 (pg_name (i := 7) nd rfl (by first | exact .inl rfl | exact .inr rfl)))) (fun _ _ _ _ _ => ts_nil) (fun _ _ _ _ _ => (p_tup (pa_cons' (p_callP (i := 0) (f_law_literals.mono (by first | decide | exact Nat.le_refl _)) (hr.mono (by first | decide | exact Nat.le_refl _)) (by rfl) g_law_literals k_law_literals b_law_literals (pv 0) (pa_cons' (p_var 5 (pv 5)) (pa_cons' p_int pa_nil'))) (pa_cons' (p_op o_add f_add p_int (p_callP (i := 0) (f_law_draw.mono (by first | decide | exact Nat.le_refl _)) (hr.mono (by first | decide | exact Nat.le_refl _)) (by rfl) g_law_draw k_law_draw b_law_draw (pv 0) (pa_cons' (p_var 4 (pv 4)) pa_nil'))) pa_nil')))) (by decide)) (ss_one (s_ret (p_tup (pa_cons' (p_var 5 (pv 5)) (pa_cons' (p_callTy call_tuple_of f_tuple (by rfl) m_tuple rfl (pa_cons' (p_var 6 (pv 6)) pa_nil')) (pa_cons' (p_callTy call_tuple_of f_tuple (by rfl) m_tuple rfl (pa_cons' (p_var 9 (pv 9)) pa_nil')) pa_nil'))))))))))) hw
abbrev s__law_whole : Stmt := topS 34
abbrev N__law_whole : List Str := [(PySem.Str.ofString "word"), (PySem.Str.ofString "figures"), (PySem.Str.ofString "sign"), (PySem.Str.ofString "number")]
theorem sc__law_whole : FnScope N__law_whole [(PySem.Str.ofString "word")] (defScope s__law_whole) := ⟨rfl, rfl, rfl, by decide +kernel, rfl, by decide +kernel, by decide +kernel⟩
def S__law_whole  : Sx := sSeq (sSet 1 (eVar 0)) (sSeq (sIf (bV (eOp2 dEq (eSl (eVar 0) (oNone) (oSome (eC (.int 1)))) (eC (.str (PySem.Str.ofString "-"))))) (sSet 1 (eSl (eVar 0) (oSome (eC (.int 1))) (oNone))) (sPass)) (sSeq (sIf (bOr (bV (eOp2 dEq (eVar 1) (eC (.str (PySem.Str.ofString ""))))) (bOr (bV (eOp2 dGt (eOpN dLen (eCons (eVar 1) (eNil))) (eC (.int 12)))) (bV (eOp2 dNe (eFrz (eLC [2] (iSeq (eVar 1)) (.name 2) (bV (eOp2 (dInS true) (eVar 2) (eC (.str (PySem.Str.ofString "0123456789"))))) (eVar 2))) (eFrz (eDisp (eNil))))))) (sRet (eC .non)) (sPass)) (sSeq (sIf (bAnd (bV (eOp2 dNe (eVar 0) (eC (.str (PySem.Str.ofString "0"))))) (bV (eOp2 dEq (eIdx (eVar 1) (eC (.int 0))) (eC (.str (PySem.Str.ofString "0")))))) (sRet (eC .non)) (sPass)) (sSeq (sSet 3 (eC (.int 0))) (sSeq (sFor (iSeq (eVar 1)) (.name 2) (sSet 3 (eOp2 dAdd (eOp2 dMul (eC (.int 10)) (eVar 3)) (eM1 dIndex (eC (.str (PySem.Str.ofString "0123456789"))) (eVar 2))))) (sSeq (sIf (bV (eOp2 dNe (eVar 1) (eVar 0))) (sRet (eOp2 dSub (eC (.int 0)) (eVar 3))) (sPass)) (sRet (eVar 3))))))))
theorem ok__law_whole {P : Program} {w : World} {K : PySem.W.Frag} {mg : Str → Option Value} {base : Heap} {a0 : Addr} {d0 : FuncData}  {F : Fn} (Fu : Fun K (PySem.Str.ofString "_law_whole") (PySem.Str.ofString "_law_whole") s__law_whole a0 d0) (m_len : mg (PySem.Str.ofString "len") = none) (hw : Keeps 1 N__law_whole.length F (S__law_whole )) : FnOk P w K mg base (L2.CX P w) (0 + 1) a0 d0 [(PySem.Str.ofString "word")] (spD K mg 1 F) :=
  okD Fu sc__law_whole rfl (fun cdv A outer s H E G xw hr xo => have nd := sc__law_whole.nd; (ss_cons (s_set (i := 1) nd rfl (by first | exact .inl rfl | exact .inr rfl) (p_var 0 (pv 0))) (ss_cons (s_if (t_cmp (op_eqD (units_of hr (by decide))) f_eq (p_sl (p_var 0 (pv 0)) o_none (o_some p_int)) p_str (by first | exact nomark _ | rfl)) (ss_one (s_set (i := 1) nd rfl (by first | exact .inl rfl | exact .inr rfl) (p_sl (p_var 0 (pv 0)) (o_some p_int) o_none))) ss_nil) (ss_cons (s_if (PW.pt (t_or (t_cmp (op_eqD (units_of hr (by decide))) f_eq (p_var 1 (pv 1)) p_str (by first | exact nomark _ | rfl)) (t_or (t_cmp op_gt f_gt (p_callB c_len f_len (by rfl) m_len rfl (pa_cons' (p_var 1 (pv 1)) pa_nil')) p_int (by first | exact nomark _ | rfl)) (t_or1 (t_cmp (op_neD (units_of hr (by decide))) f_ne (p_frz (p_lc rfl nd (i_seq (p_var 1 (pv 1))) (blkOk_by (own := [((PySem.Str.ofString "sign"), 2)]) (N := N__law_whole) (sc := defScope (s__law_whole)) (by decide +kernel)) (fun _ _ _ _ _ => (g_name 2 (pg_name (i := 2) nd rfl (by first | exact .inl rfl | exact .inr rfl)))) (fun _ _ _ _ _ => (ts_one (t_cmp (o_notinS (units_of hr (by decide))) f_inT (p_var 2 (pv 2)) p_str (by first | exact nomark _ | rfl)))) (fun _ _ _ _ _ => (p_var 2 (pv 2))) (by decide))) (p_frz (p_disp pa_nil')) (by first | exact nomark _ | rfl)))))) (ss_one (s_ret p_non)) ss_nil) (ss_cons (s_if (PW.pt (t_and (t_cmp (op_neD (units_of hr (by decide))) f_ne (p_var 0 (pv 0)) p_str (by first | exact nomark _ | rfl)) (t_and1 (t_cmp (op_eqD (units_of hr (by decide))) f_eq (p_idx (p_var 1 (pv 1)) p_int) p_str (by first | exact nomark _ | rfl))))) (ss_one (s_ret p_non)) ss_nil) (ss_cons (s_set (i := 3) nd rfl (by first | exact .inl rfl | exact .inr rfl) p_int) (ss_cons (s_for (passes_of rfl) rfl (i_seq (p_var 1 (pv 1))) (g_name 2 (pg_name (i := 2) nd rfl (by first | exact .inl rfl | exact .inr rfl))) (ss_one (s_set (i := 3) nd rfl (by first | exact .inl rfl | exact .inr rfl) (p_op o_add f_add (p_op op_mul f_mul p_int (p_var 3 (pv 3))) (p_m1 PySem.F.slot_str_index PySem.F.type_str_index mt_indexF f_index p_str (p_var 2 (pv 2))))))) (ss_cons (s_if (t_cmp (op_neD (units_of hr (by decide))) f_ne (p_var 1 (pv 1)) (p_var 0 (pv 0)) (by first | exact nomark _ | rfl)) (ss_one (s_ret (p_op op_sub f_sub p_int (p_var 3 (pv 3))))) ss_nil) (ss_one (s_ret (p_var 3 (pv 3)))))))))))) hw
abbrev s__law_words : Stmt := topS 35
abbrev N__law_words : List Str := [(PySem.Str.ofString "line")]
theorem sc__law_words : FnScope N__law_words [(PySem.Str.ofString "line")] (defScope s__law_words) := ⟨rfl, rfl, rfl, by decide +kernel, rfl, by decide +kernel, by decide +kernel⟩
def S__law_words  : Sx := sSeq (sIf (bV (eOp2 dEq (eVar 0) (eC (.str (PySem.Str.ofString ""))))) (sRet (eFrz (eDisp (eNil)))) (sPass)) (sRet (eM1 dSplit (eVar 0) (eC (.str (PySem.Str.ofString " ")))))
theorem ok__law_words {P : Program} {w : World} {K : PySem.W.Frag} {mg : Str → Option Value} {base : Heap} {a0 : Addr} {d0 : FuncData}  {F : Fn} (Fu : Fun K (PySem.Str.ofString "_law_words") (PySem.Str.ofString "_law_words") s__law_words a0 d0)  (hw : Keeps 1 N__law_words.length F (S__law_words )) : FnOk P w K mg base (L2.CX P w) (0 + 1) a0 d0 [(PySem.Str.ofString "line")] (spD K mg 1 F) :=
  okD Fu sc__law_words rfl (fun cdv A outer s H E G xw hr xo => have nd := sc__law_words.nd; (ss_cons (s_if (t_cmp (op_eqD (units_of hr (by decide))) f_eq (p_var 0 (pv 0)) p_str (by first | exact nomark _ | rfl)) (ss_one (s_ret (p_frz (p_disp pa_nil')))) ss_nil) (ss_one (s_ret (p_m1 PySem.F.slot_str_split PySem.F.type_str_split mt_split f_split (p_var 0 (pv 0)) p_str))))) hw
abbrev s__law_row : Stmt := topS 36
abbrev N__law_row : List Str := [(PySem.Str.ofString "words"), (PySem.Str.ofString "count"), (PySem.Str.ofString "top"), (PySem.Str.ofString "told"), (PySem.Str.ofString "word"), (PySem.Str.ofString "literals"), (PySem.Str.ofString "literal"), (PySem.Str.ofString "own")]
theorem sc__law_row : FnScope N__law_row [(PySem.Str.ofString "words"), (PySem.Str.ofString "count"), (PySem.Str.ofString "top")] (defScope s__law_row) := ⟨rfl, rfl, rfl, by decide +kernel, rfl, by decide +kernel, by decide +kernel⟩
def S__law_row (F__law_whole : Fn) : Sx := sSeq (sSet 3 (eFrz (eLC [4] (iSeq (eVar 0)) (.name 4) bYes (eCall F__law_whole 1 (eCons (eVar 4) (eNil)))))) (sSeq (sIf (bOr (bV (eOp2 dLt (eOpN dLen (eCons (eVar 3) (eNil))) (eC (.int 2)))) (bOr (bV (eOp2 (dIn false) (eC .non) (eVar 3))) (bV (eOp2 dNe (eIdx (eVar 0) (eOp1 dNeg (eC (.int 1)))) (eC (.str (PySem.Str.ofString "0"))))))) (sRet (eC .non)) (sPass)) (sSeq (sSet 5 (eSl (eVar 3) (oSome (eC (.int 1))) (oSome (eOp1 dNeg (eC (.int 1)))))) (sSeq (sIf (bOr (bNot (bV (eChain dLe dLe (eC (.int 1)) (eIdx (eVar 3) (eC (.int 0))) (eVar 2)))) (bAnd (bV (eOp2 dLt (eIdx (eVar 3) (eC (.int 0))) (eVar 2))) (bV (eOp2 dGt (eIdx (eVar 3) (eC (.int 0))) (eOp2 dPow (eC (.int 10)) (eC (.int 9))))))) (sRet (eC .non)) (sPass)) (sSeq (sIf (bV (eOp2 dNe (eFrz (eLC [6] (iSeq (eVar 5)) (.name 6) (bOr (bV (eOp2 dEq (eVar 6) (eC (.int 0)))) (bOr (bV (eOp2 dGt (eOpN dAbs (eCons (eVar 6) (eNil))) (eVar 1))) (bV (eOp2 (dIn false) (eOp2 dSub (eC (.int 0)) (eVar 6)) (eVar 5))))) (eVar 6))) (eFrz (eDisp (eNil))))) (sRet (eC .non)) (sPass)) (sRet (eTup (eCons (eOpN dTuple (eCons (eFrz (eLC [7] (iSeq (eFrz (eSortS (eSetOf (eLC [6] (iSeq (eVar 5)) (.name 6) bYes (eTup (eCons (eOpN dAbs (eCons (eVar 6) (eNil))) (eCons (eVar 6) (eNil))))))))) (.name 7) bYes (eIdx (eVar 7) (eC (.int 1))))) (eNil))) (eCons (eIdx (eVar 3) (eC (.int 0))) (eNil)))))))))
theorem ok__law_row {P : Program} {w : World} {K : PySem.W.Frag} {mg : Str → Option Value} {base : Heap} {a0 : Addr} {d0 : FuncData} (F__law_whole : Fn) {F : Fn} (Fu : Fun K (PySem.Str.ofString "_law_row") (PySem.Str.ofString "_law_row") s__law_row a0 d0) (m_tuple : mg (PySem.Str.ofString "tuple") = none) (m_len : mg (PySem.Str.ofString "len") = none) (m_sorted : mg (PySem.Str.ofString "sorted") = none) (m_abs : mg (PySem.Str.ofString "abs") = none) (m_set : mg (PySem.Str.ofString "set") = none) {a__law_whole : Addr} {d__law_whole : FuncData} (f_law_whole : FnOk P w K mg base (L2.CX P w) 1 a__law_whole d__law_whole [(PySem.Str.ofString "word")] (spD K mg 1 F__law_whole)) (g_law_whole : mg (PySem.Str.ofString "_law_whole") = some (.ref a__law_whole)) (k_law_whole : PySem.W.keepIn K (.ref a__law_whole) = true) (b_law_whole : Binds K d__law_whole [(PySem.Str.ofString "word")] []) (hw : Keeps 3 N__law_row.length F (S__law_row F__law_whole)) : FnOk P w K mg base (L2.CX P w) (1 + 1) a0 d0 [(PySem.Str.ofString "words"), (PySem.Str.ofString "count"), (PySem.Str.ofString "top")] (spD K mg 3 F) :=
  okD Fu sc__law_row rfl (fun cdv A outer s H E G xw hr xo => have nd := sc__law_row.nd; (ss_cons (s_setLc (i := 3) rfl nd rfl rfl (sw_true rfl rfl rfl (by decide +kernel)) (i_seq (p_var 0 (pv 0))) (blkOk_by (own := [((PySem.Str.ofString "word"), 4)]) (N := N__law_row) (sc := defScope (s__law_row)) (by decide +kernel)) (fun _ _ _ _ _ => (g_name 4 (pg_name (i := 4) nd rfl (by first | exact .inl rfl | exact .inr rfl)))) (fun _ _ _ _ _ => ts_nil) (fun _ _ _ _ _ => (p_call (XOk.no xo.so) (f_law_whole.mono (by first | decide | exact Nat.le_refl _)) (hr.mono (by first | decide | exact Nat.le_refl _)) (by rfl) g_law_whole k_law_whole b_law_whole (pa_cons' (p_var 4 (pv 4)) pa_nil'))) (by decide)) (ss_cons (s_if (PW.pt (t_or (t_cmp op_lt f_lt (p_callB c_len f_len (by rfl) m_len rfl (pa_cons' (p_var 3 (pv 3)) pa_nil')) p_int (by first | exact nomark _ | rfl)) (t_or (t_cmp (o_in (units_of hr (by decide))) f_in p_non (p_var 3 (pv 3)) (by first | exact nomark _ | rfl)) (t_or1 (t_cmp (op_neD (units_of hr (by decide))) f_ne (p_idx (p_var 0 (pv 0)) (p_un un_neg f_neg p_int)) p_str (by first | exact nomark _ | rfl)))))) (ss_one (s_ret p_non)) ss_nil) (ss_cons (s_set (i := 5) nd rfl (by first | exact .inl rfl | exact .inr rfl) (p_sl (p_var 3 (pv 3)) (o_some p_int) (o_some (p_un un_neg f_neg p_int)))) (ss_cons (s_if (PW.pt (t_or (t_not (t_chain op_le f_le op_le f_le p_int (p_idx (p_var 3 (pv 3)) p_int) (p_var 2 (pv 2)))) (t_or1 (PW.pt (t_and (t_cmp op_lt f_lt (p_idx (p_var 3 (pv 3)) p_int) (p_var 2 (pv 2)) (by first | exact nomark _ | rfl)) (t_and1 (t_cmp op_gt f_gt (p_idx (p_var 3 (pv 3)) p_int) (p_op op_pow f_pow p_int p_int) (by first | exact nomark _ | rfl)))))))) (ss_one (s_ret p_non)) ss_nil) (ss_cons (s_if (t_cmp (op_neD (units_of hr (by decide))) f_ne (p_frz (p_lc rfl nd (i_seq (p_var 5 (pv 5))) (blkOk_by (own := [((PySem.Str.ofString "literal"), 6)]) (N := N__law_row) (sc := defScope (s__law_row)) (by decide +kernel)) (fun _ _ _ _ _ => (g_name 6 (pg_name (i := 6) nd rfl (by first | exact .inl rfl | exact .inr rfl)))) (fun _ _ _ _ _ => (ts_one (PW.pt (t_or (t_cmp (op_eqD (units_of hr (by decide))) f_eq (p_var 6 (pv 6)) p_int (by first | exact nomark _ | rfl)) (t_or (t_cmp op_gt f_gt (p_callB call_abs f_abs (by rfl) m_abs rfl (pa_cons' (p_var 6 (pv 6)) pa_nil')) (p_var 1 (pv 1)) (by first | exact nomark _ | rfl)) (t_or1 (t_cmp (o_in (units_of hr (by decide))) f_in (p_op op_sub f_sub p_int (p_var 6 (pv 6))) (p_var 5 (pv 5)) (by first | exact nomark _ | rfl)))))))) (fun _ _ _ _ _ => (p_var 6 (pv 6))) (by decide))) (p_frz (p_disp pa_nil')) (by first | exact nomark _ | rfl)) (ss_one (s_ret p_non)) ss_nil) (ss_one (s_ret (p_tup (pa_cons' (p_callTy call_tuple_of f_tuple (by rfl) m_tuple rfl (pa_cons' (p_frz (p_lc rfl nd (i_seq (p_frz (p_sortS xo.so (units_of hr (by decide)) rfl (by rfl) m_sorted (p_setOf xo.so (units_of hr (by decide)) rfl (by rfl) m_set (p_lc rfl nd (i_seq (p_var 5 (pv 5))) (blkOk_by (own := [((PySem.Str.ofString "literal"), 6)]) (N := N__law_row) (sc := defScope (s__law_row)) (by decide +kernel)) (fun _ _ _ _ _ => (g_name 6 (pg_name (i := 6) nd rfl (by first | exact .inl rfl | exact .inr rfl)))) (fun _ _ _ _ _ => ts_nil) (fun _ _ _ _ _ => (p_tup (pa_cons' (p_callB call_abs f_abs (by rfl) m_abs rfl (pa_cons' (p_var 6 (pv 6)) pa_nil')) (pa_cons' (p_var 6 (pv 6)) pa_nil')))) (by decide)))))) (blkOk_by (own := [((PySem.Str.ofString "own"), 7)]) (N := N__law_row) (sc := defScope (s__law_row)) (by decide +kernel)) (fun _ _ _ _ _ => (g_name 7 (pg_name (i := 7) nd rfl (by first | exact .inl rfl | exact .inr rfl)))) (fun _ _ _ _ _ => ts_nil) (fun _ _ _ _ _ => (p_idx (p_var 7 (pv 7)) p_int)) (by decide))) pa_nil')) (pa_cons' (p_idx (p_var 3 (pv 3)) p_int) pa_nil'))))))))))) hw
abbrev s__law_read : Stmt := topS 37
abbrev N__law_read : List Str := [(PySem.Str.ofString "lines"), (PySem.Str.ofString "rows"), (PySem.Str.ofString "at"), (PySem.Str.ofString "words"), (PySem.Str.ofString "told"), (PySem.Str.ofString "word"), (PySem.Str.ofString "count"), (PySem.Str.ofString "many"), (PySem.Str.ofString "top"), (PySem.Str.ofString "hard"), (PySem.Str.ofString "soft"), (PySem.Str.ofString "row")]
theorem sc__law_read : FnScope N__law_read [(PySem.Str.ofString "lines")] (defScope s__law_read) := ⟨rfl, rfl, rfl, by decide +kernel, rfl, by decide +kernel, by decide +kernel⟩
def S__law_read (F__law_words : Fn) (F__law_whole : Fn) (F__law_row : Fn) : Sx := sSeq (sSet 1 (eFrz (eLC [2] (iRange1 (eOpN dLen (eCons (eVar 0) (eNil)))) (.name 2) (bV (eOp2 dNe (eSl (eCall F__law_words 1 (eCons (eIdx (eVar 0) (eVar 2)) (eNil))) (oNone) (oSome (eC (.int 1)))) (eFrz (eDisp (eCons (eC (.str (PySem.Str.ofString "c"))) (eNil)))))) (eVar 2)))) (sSeq (sIf (bV (eOp2 dEq (eVar 1) (eFrz (eDisp (eNil))))) (sRet (eOpN dLen (eCons (eVar 0) (eNil)))) (sPass)) (sSeq (sSet 3 (eCall F__law_words 1 (eCons (eIdx (eVar 0) (eIdx (eVar 1) (eC (.int 0)))) (eNil)))) (sSeq (sSet 4 (eFrz (eLC [5] (iSeq (eSl (eVar 3) (oSome (eC (.int 2))) (oNone))) (.name 5) bYes (eCall F__law_whole 1 (eCons (eVar 5) (eNil)))))) (sSeq (sIf (bOr (bV (eOp2 dNe (eOpN dLen (eCons (eVar 3) (eNil))) (eC (.int 5)))) (bOr (bV (eOp2 dNe (eSl (eVar 3) (oNone) (oSome (eC (.int 2)))) (eFrz (eDisp (eCons (eC (.str (PySem.Str.ofString "p"))) (eCons (eC (.str (PySem.Str.ofString "wcnf"))) (eNil))))))) (bOr (bV (eOp2 (dIn false) (eC .non) (eVar 4))) (bOr (bV (eOp2 dLt (eOpN dMin (eCons (eVar 4) (eNil))) (eC (.int 0)))) (bV (eOp2 dGt (eOpN dMax (eCons (eVar 4) (eNil))) (eOp2 dPow (eC (.int 10)) (eC (.int 12))))))))) (sRet (eIdx (eVar 1) (eC (.int 0)))) (sPass)) (sSeq (sAsg (eVar 4) (.tup [.name 6, .name 7, .name 8])) (sSeq (sIf (bOr (bV (eOp2 dGt (eVar 6) (eC (.int 300)))) (bOr (bV (eOp2 dGt (eVar 7) (eC (.int 3300)))) (bV (eOp2 dLt (eVar 8) (eC (.int 1)))))) (sRet (eIdx (eVar 1) (eC (.int 0)))) (sPass)) (sSeq (sParO 9 10 (eDisp (eNil)) (eDisp (eNil))) (sSeq (sFor (iSeq (eSl (eVar 1) (oSome (eC (.int 1))) (oNone))) (.name 2) (sSeq (sSet 11 (eCall F__law_row 3 (eCons (eCall F__law_words 1 (eCons (eIdx (eVar 0) (eVar 2)) (eNil))) (eCons (eVar 6) (eCons (eVar 8) (eNil)))))) (sSeq (sIf (bOr (bV (eOp2 dIsN (eVar 11) (eC .non))) (bV (eOp2 dEq (eOp2 dAdd (eLenO 9) (eLenO 10)) (eVar 7)))) (sRet (eVar 2)) (sPass)) (sIf (bV (eOp2 dEq (eIdx (eVar 11) (eC (.int 1))) (eVar 8))) (sAppend 9 (eIdx (eVar 11) (eC (.int 0)))) (sAppend 10 (eVar 11)))))) (sSeq (sIf (bV (eOp2 dLt (eOp2 dAdd (eLenO 9) (eLenO 10)) (eVar 7))) (sRet (eOpN dLen (eCons (eVar 0) (eNil)))) (sPass)) (sFreeze 9 (sFreeze 10 (sRet (eTup (eCons (eVar 6) (eCons (eOpN dTuple (eCons (eVar 9) (eNil))) (eCons (eOpN dTuple (eCons (eVar 10) (eNil))) (eNil)))))))))))))))))
theorem ok__law_read {P : Program} {w : World} {K : PySem.W.Frag} {mg : Str → Option Value} {base : Heap} {a0 : Addr} {d0 : FuncData} (F__law_words : Fn) (F__law_whole : Fn) (F__law_row : Fn) {F : Fn} (Fu : Fun K (PySem.Str.ofString "_law_read") (PySem.Str.ofString "_law_read") s__law_read a0 d0) (m_len : mg (PySem.Str.ofString "len") = none) (m_tuple : mg (PySem.Str.ofString "tuple") = none) (m_range : mg (PySem.Str.ofString "range") = none) (m_min : mg (PySem.Str.ofString "min") = none) (m_max : mg (PySem.Str.ofString "max") = none) {a__law_words : Addr} {d__law_words : FuncData} (f_law_words : FnOk P w K mg base (L2.CX P w) 1 a__law_words d__law_words [(PySem.Str.ofString "line")] (spD K mg 1 F__law_words)) (g_law_words : mg (PySem.Str.ofString "_law_words") = some (.ref a__law_words)) (k_law_words : PySem.W.keepIn K (.ref a__law_words) = true) (b_law_words : Binds K d__law_words [(PySem.Str.ofString "line")] []) {a__law_whole : Addr} {d__law_whole : FuncData} (f_law_whole : FnOk P w K mg base (L2.CX P w) 1 a__law_whole d__law_whole [(PySem.Str.ofString "word")] (spD K mg 1 F__law_whole)) (g_law_whole : mg (PySem.Str.ofString "_law_whole") = some (.ref a__law_whole)) (k_law_whole : PySem.W.keepIn K (.ref a__law_whole) = true) (b_law_whole : Binds K d__law_whole [(PySem.Str.ofString "word")] []) {a__law_row : Addr} {d__law_row : FuncData} (f_law_row : FnOk P w K mg base (L2.CX P w) 2 a__law_row d__law_row [(PySem.Str.ofString "words"), (PySem.Str.ofString "count"), (PySem.Str.ofString "top")] (spD K mg 3 F__law_row)) (g_law_row : mg (PySem.Str.ofString "_law_row") = some (.ref a__law_row)) (k_law_row : PySem.W.keepIn K (.ref a__law_row) = true) (b_law_row : Binds K d__law_row [(PySem.Str.ofString "words"), (PySem.Str.ofString "count"), (PySem.Str.ofString "top")] []) (hw : Keeps 1 N__law_read.length F (S__law_read F__law_words F__law_whole F__law_row)) : FnOk P w K mg base (L2.CX P w) (2 + 1) a0 d0 [(PySem.Str.ofString "lines")] (spD K mg 1 F) :=
  okD Fu sc__law_read rfl (fun cdv A outer s H E G xw hr xo => have nd := sc__law_read.nd; (ss_cons (s_setLc (i := 1) rfl nd rfl rfl (sw_true rfl rfl rfl (by decide +kernel)) (i_range1 (by rfl) m_range (p_callB c_len f_len (by rfl) m_len rfl (pa_cons' (p_var 0 (pv 0)) pa_nil'))) (blkOk_by (own := [((PySem.Str.ofString "at"), 2)]) (N := N__law_read) (sc := defScope (s__law_read)) (by decide +kernel)) (fun _ _ _ _ _ => (g_name 2 (pg_name (i := 2) nd rfl (by first | exact .inl rfl | exact .inr rfl)))) (fun _ _ _ _ _ => (ts_one (t_cmp (op_neD (units_of hr (by decide))) f_ne (p_sl (p_call (XOk.no xo.so) (f_law_words.mono (by first | decide | exact Nat.le_refl _)) (hr.mono (by first | decide | exact Nat.le_refl _)) (by rfl) g_law_words k_law_words b_law_words (pa_cons' (p_idx (p_var 0 (pv 0)) (p_var 2 (pv 2))) pa_nil')) o_none (o_some p_int)) (p_frz (p_disp (pa_cons' p_str pa_nil'))) (by first | exact nomark _ | rfl)))) (fun _ _ _ _ _ => (p_var 2 (pv 2))) (by decide)) (ss_cons (s_if (t_cmp (op_eqD (units_of hr (by decide))) f_eq (p_var 1 (pv 1)) (p_frz (p_disp pa_nil')) (by first | exact nomark _ | rfl)) (ss_one (s_ret (p_callB c_len f_len (by rfl) m_len rfl (pa_cons' (p_var 0 (pv 0)) pa_nil')))) ss_nil) (ss_cons (s_set (i := 3) nd rfl (by first | exact .inl rfl | exact .inr rfl) (p_call xo (f_law_words.mono (by first | decide | exact Nat.le_refl _)) (hr.mono (by first | decide | exact Nat.le_refl _)) (by rfl) g_law_words k_law_words b_law_words (pa_cons' (p_idx (p_var 0 (pv 0)) (p_idx (p_var 1 (pv 1)) p_int)) pa_nil'))) (ss_cons (s_setLc (i := 4) rfl nd rfl rfl (sw_true rfl rfl rfl (by decide +kernel)) (i_seq (p_sl (p_var 3 (pv 3)) (o_some p_int) o_none)) (blkOk_by (own := [((PySem.Str.ofString "word"), 5)]) (N := N__law_read) (sc := defScope (s__law_read)) (by decide +kernel)) (fun _ _ _ _ _ => (g_name 5 (pg_name (i := 5) nd rfl (by first | exact .inl rfl | exact .inr rfl)))) (fun _ _ _ _ _ => ts_nil) (fun _ _ _ _ _ => (p_call (XOk.no xo.so) (f_law_whole.mono (by first | decide | exact Nat.le_refl _)) (hr.mono (by first | decide | exact Nat.le_refl _)) (by rfl) g_law_whole k_law_whole b_law_whole (pa_cons' (p_var 5 (pv 5)) pa_nil'))) (by decide)) (ss_cons (s_if (PW.pt (t_or (t_cmp (op_neD (units_of hr (by decide))) f_ne (p_callB c_len f_len (by rfl) m_len rfl (pa_cons' (p_var 3 (pv 3)) pa_nil')) p_int (by first | exact nomark _ | rfl)) (t_or (t_cmp (op_neD (units_of hr (by decide))) f_ne (p_sl (p_var 3 (pv 3)) o_none (o_some p_int)) (p_frz (p_disp (pa_cons' p_str (pa_cons' p_str pa_nil')))) (by first | exact nomark _ | rfl)) (t_or (t_cmp (o_in (units_of hr (by decide))) f_in p_non (p_var 4 (pv 4)) (by first | exact nomark _ | rfl)) (t_or (t_cmp op_lt f_lt (p_callB (cr_min rfl) f_min (by rfl) m_min rfl (pa_cons' (p_var 4 (pv 4)) pa_nil')) p_int (by first | exact nomark _ | rfl)) (t_or1 (t_cmp op_gt f_gt (p_callB (cr_max rfl) f_max (by rfl) m_max rfl (pa_cons' (p_var 4 (pv 4)) pa_nil')) (p_op op_pow f_pow p_int p_int) (by first | exact nomark _ | rfl)))))))) (ss_one (s_ret (p_idx (p_var 1 (pv 1)) p_int))) ss_nil) (ss_cons (s_asg (p_var 4 (pv 4)) (g_tup rfl (gs_cons (g_name 6 (pg_name (i := 6) nd rfl (by first | exact .inl rfl | exact .inr rfl))) (gs_cons (g_name 7 (pg_name (i := 7) nd rfl (by first | exact .inl rfl | exact .inr rfl))) (gs_cons (g_name 8 (pg_name (i := 8) nd rfl (by first | exact .inl rfl | exact .inr rfl))) gs_nil))))) (ss_cons (s_if (PW.pt (t_or (t_cmp op_gt f_gt (p_var 6 (pv 6)) p_int (by first | exact nomark _ | rfl)) (t_or (t_cmp op_gt f_gt (p_var 7 (pv 7)) p_int (by first | exact nomark _ | rfl)) (t_or1 (t_cmp op_lt f_lt (p_var 8 (pv 8)) p_int (by first | exact nomark _ | rfl)))))) (ss_one (s_ret (p_idx (p_var 1 (pv 1)) p_int))) ss_nil) (ss_cons (s_parO (i := 9) (j := 10) rfl nd rfl rfl (by decide) rfl rfl (p_disp pa_nil') (p_disp pa_nil') (by rfl)) (ss_cons (s_for (passes_of rfl) rfl (i_seq (p_sl (p_var 1 (pv 1)) (o_some p_int) o_none)) (g_name 2 (pg_name (i := 2) nd rfl (by first | exact .inl rfl | exact .inr rfl))) (ss_cons (s_set (i := 11) nd rfl (by first | exact .inl rfl | exact .inr rfl) (p_call xo (f_law_row.mono (by first | decide | exact Nat.le_refl _)) (hr.mono (by first | decide | exact Nat.le_refl _)) (by rfl) g_law_row k_law_row b_law_row (pa_cons' (p_call xo (f_law_words.mono (by first | decide | exact Nat.le_refl _)) (hr.mono (by first | decide | exact Nat.le_refl _)) (by rfl) g_law_words k_law_words b_law_words (pa_cons' (p_idx (p_var 0 (pv 0)) (p_var 2 (pv 2))) pa_nil')) (pa_cons' (p_var 6 (pv 6)) (pa_cons' (p_var 8 (pv 8)) pa_nil'))))) (ss_cons (s_if (PW.pt (t_or (t_cmp op_isN f_isN (p_var 11 (pv 11)) p_non (by first | exact nomark _ | rfl)) (t_or1 (t_cmp (op_eqD (units_of hr (by decide))) f_eq (p_op o_add f_add (p_lenOwn (by rfl) m_len (pv 9)) (p_lenOwn (by rfl) m_len (pv 10))) (p_var 7 (pv 7)) (by first | exact nomark _ | rfl))))) (ss_one (s_ret (p_var 2 (pv 2)))) ss_nil) (ss_one (s_if (t_cmp (op_eqD (units_of hr (by decide))) f_eq (p_idx (p_var 11 (pv 11)) p_int) (p_var 8 (pv 8)) (by first | exact nomark _ | rfl)) (ss_one (s_append (pv 9) (p_idx (p_var 11 (pv 11)) p_int))) (ss_one (s_append (pv 10) (p_var 11 (pv 11))))))))) (ss_cons (s_if (t_cmp op_lt f_lt (p_op o_add f_add (p_lenOwn (by rfl) m_len (pv 9)) (p_lenOwn (by rfl) m_len (pv 10))) (p_var 7 (pv 7)) (by first | exact nomark _ | rfl)) (ss_one (s_ret (p_callB c_len f_len (by rfl) m_len rfl (pa_cons' (p_var 0 (pv 0)) pa_nil')))) ss_nil) (ss_freeze 9 (ss_freeze 10 (ss_one (s_ret (p_tup (pa_cons' (p_var 6 (pv 6)) (pa_cons' (p_callTy call_tuple_of f_tuple (by rfl) m_tuple rfl (pa_cons' (p_var 9 (pv 9)) pa_nil')) (pa_cons' (p_callTy call_tuple_of f_tuple (by rfl) m_tuple rfl (pa_cons' (p_var 10 (pv 10)) pa_nil')) pa_nil'))))))))))))))))))) hw
abbrev s__law_told : Stmt := topS 38
abbrev N__law_told : List Str := [(PySem.Str.ofString "text"), (PySem.Str.ofString "own"), (PySem.Str.ofString "e")]
theorem sc__law_told : FnScope N__law_told [(PySem.Str.ofString "text")] (defScope s__law_told) := ⟨rfl, rfl, rfl, by decide +kernel, rfl, by decide +kernel, by decide +kernel⟩
def S__law_told (aProblem : Addr) (F_read_wcnf : Fn) (cat__law_told : Str → Option (Bool)) : Sx := sSeq (sTry cat__law_told 2 (sSet 1 (eCall F_read_wcnf 1 (eCons (eVar 0) (eNil)))) (sRet (eExn 2 (PySem.Str.ofString "at")))) (sRet (eTup (eCons (eFld aProblem (PySem.Str.ofString "count") (eVar 1)) (eCons (eFld aProblem (PySem.Str.ofString "hard") (eVar 1)) (eCons (eFld aProblem (PySem.Str.ofString "soft") (eVar 1)) (eNil))))))
theorem ok__law_told {P : Program} {w : World} {K : PySem.W.Frag} {mg : Str → Option Value} {base : Heap} {a0 : Addr} {d0 : FuncData} (aProblem : Addr) (F_read_wcnf : Fn) (cat__law_told : Str → Option (Bool)) {F : Fn} (Fu : Fun K (PySem.Str.ofString "_law_told") (PySem.Str.ofString "_law_told") s__law_told a0 d0) (cProblem : Cls K aProblem) (gProblem : mg (PySem.Str.ofString "Problem") = some (.ref aProblem)) (na_count : NoAttr K aProblem (PySem.Str.ofString "count")) (na_hard : NoAttr K aProblem (PySem.Str.ofString "hard")) (na_soft : NoAttr K aProblem (PySem.Str.ofString "soft")) {a_read_wcnf : Addr} {d_read_wcnf : FuncData} (fread_wcnf : FnOk P w K mg base (L2.CX P w) 5 a_read_wcnf d_read_wcnf [(PySem.Str.ofString "text")] (spD K mg 1 F_read_wcnf)) (gread_wcnf : mg (PySem.Str.ofString "read_wcnf") = some (.ref a_read_wcnf)) (kread_wcnf : PySem.W.keepIn K (.ref a_read_wcnf) = true) (bread_wcnf : Binds K d_read_wcnf [(PySem.Str.ofString "text")] []) {C_BadText : Addr} (gBadText : mg (PySem.Str.ofString "BadText") = some (.ref C_BadText)) (c__law_told : ∀ (nm : Str) (C : Addr), mg nm = some (.ref C) → (cat__law_told nm = some true → XfC K C ∧ PySem.W.findIn K (.ref C) (PySem.Str.ofString "at") = some none ∧ PySem.W.exmOne K (.ref C) (.ref C_BadText) = some true) ∧ (cat__law_told nm = some false → PySem.W.exmOne K (.ref C) (.ref C_BadText) = some false)) (hw : Keeps 1 N__law_told.length F (S__law_told aProblem F_read_wcnf cat__law_told)) : FnOk P w K mg base (L2.CX P w) (5 + 1) a0 d0 [(PySem.Str.ofString "text")] (spD K mg 1 F) :=
  okD0 Fu sc__law_told rfl (fun cdv A outer s H E G xw hr xo => have nd := sc__law_told.nd; (ss_cons0 (s_try xo rfl rfl nd rfl rfl ⟨by rfl, by decide, .inl gBadText⟩ c__law_told (fun pn xe x' xo' po' => (ss_one0 (s0 (s_set (i := 1) nd rfl (by first | exact .inl rfl | exact .inr rfl) (p_call xo' (fread_wcnf.mono (by first | decide | exact Nat.le_refl _)) (hr.mono (by first | decide | exact Nat.le_refl _)) (by rfl) gread_wcnf kread_wcnf bread_wcnf (pa_cons' (p_var 0 (pv 0)) pa_nil')))))) (fun a dd C oe pn T hno hz hfi => (ss_one0 (s0 (s_ret (p_exn T hno hz hfi (pv 2))))))) (ss_one0 (s0 (s_ret (p_tup (pa_cons' (p_fld cProblem na_count (p_var 1 (pv 1))) (pa_cons' (p_fld cProblem na_hard (p_var 1 (pv 1))) (pa_cons' (p_fld cProblem na_soft (p_var 1 (pv 1))) pa_nil'))))))))) hw
abbrev s__law_changed : Stmt := topS 39
abbrev N__law_changed : List Str := [(PySem.Str.ofString "pool"), (PySem.Str.ofString "lines"), (PySem.Str.ofString "at"), (PySem.Str.ofString "way"), (PySem.Str.ofString "words"), (PySem.Str.ofString "k"), (PySem.Str.ofString "own")]
theorem sc__law_changed : FnScope N__law_changed [(PySem.Str.ofString "pool"), (PySem.Str.ofString "lines")] (defScope s__law_changed) := ⟨rfl, rfl, rfl, by decide +kernel, rfl, by decide +kernel, by decide +kernel⟩
def S__law_changed (F__law_draw : Fn) : Sx := sSeq (sSet 2 (eCallP 0 F__law_draw 1 (eCons (eOpN dLen (eCons (eVar 1) (eNil))) (eNil)))) (sSeq (sSet 3 (eCallP 0 F__law_draw 1 (eCons (eC (.int 8)) (eNil)))) (sSeq (sIf (bV (eOp2 dEq (eVar 3) (eC (.int 0)))) (sRet (eOp2 dAdd (eOp2 dAdd (eSl (eVar 1) (oNone) (oSome (eVar 2))) (eFrz (eDisp (eCons (eC (.str (PySem.Str.ofString "c a comment 1 0"))) (eNil))))) (eSl (eVar 1) (oSome (eVar 2)) (oNone)))) (sPass)) (sSeq (sIf (bV (eOp2 dEq (eVar 3) (eC (.int 1)))) (sRet (eOp2 dAdd (eSl (eVar 1) (oNone) (oSome (eVar 2))) (eSl (eVar 1) (oSome (eOp2 dAdd (eVar 2) (eC (.int 1)))) (oNone)))) (sPass)) (sSeq (sIf (bV (eOp2 dEq (eVar 3) (eC (.int 2)))) (sRet (eOp2 dAdd (eSl (eVar 1) (oNone) (oSome (eC (.int 1)))) (eRevO (eVar 1)))) (sPass)) (sSeq (sIf (bV (eOp2 dEq (eVar 3) (eC (.int 3)))) (sRet (eOp2 dAdd (eVar 1) (eSl (eVar 1) (oSome (eVar 2)) (oSome (eOp2 dAdd (eVar 2) (eC (.int 1))))))) (sPass)) (sSeq (sSet 4 (eM1 dSplit (eIdx (eVar 1) (eVar 2)) (eC (.str (PySem.Str.ofString " "))))) (sSeq (sSet 5 (eCallP 0 F__law_draw 1 (eCons (eOpN dLen (eCons (eVar 4) (eNil))) (eNil)))) (sSeq (sSet 6 (eIdx (eTup (eCons (eC (.str (PySem.Str.ofString "0"))) (eCons (eC (.str (PySem.Str.ofString "1"))) (eCons (eC (.str (PySem.Str.ofString "-1"))) (eCons (eC (.str (PySem.Str.ofString "-0"))) (eCons (eC (.str (PySem.Str.ofString "01"))) (eCons (eC (.str (PySem.Str.ofString ""))) (eCons (eC (.str (PySem.Str.ofString "c"))) (eCons (eC (.str (PySem.Str.ofString "p"))) (eCons (eC (.str (PySem.Str.ofString "x"))) (eCons (eC (.str (PySem.Str.ofString "3"))) (eCons (eC (.str (PySem.Str.ofString "-7"))) (eCons (eC (.str (PySem.Str.ofString "1000000001"))) (eCons (eC (.str (PySem.Str.ofString "7"))) (eNil))))))))))))))) (eCallP 0 F__law_draw 1 (eCons (eC (.int 13)) (eNil))))) (sSeq (sSet 4 (eIdx (eTup (eCons (eOp2 dAdd (eSl (eVar 4) (oNone) (oSome (eVar 5))) (eSl (eVar 4) (oSome (eOp2 dAdd (eVar 5) (eC (.int 1)))) (oNone))) (eCons (eOp2 dAdd (eOp2 dAdd (eSl (eVar 4) (oNone) (oSome (eVar 5))) (eFrz (eDisp (eCons (eVar 6) (eNil))))) (eSl (eVar 4) (oSome (eVar 5)) (oNone))) (eCons (eOp2 dAdd (eOp2 dAdd (eSl (eVar 4) (oNone) (oSome (eVar 5))) (eFrz (eDisp (eCons (eVar 6) (eNil))))) (eSl (eVar 4) (oSome (eOp2 dAdd (eVar 5) (eC (.int 1)))) (oNone))) (eCons (eRevL (eVar 4)) (eNil)))))) (eOp2 dSub (eVar 3) (eC (.int 4))))) (sRet (eOp2 dAdd (eOp2 dAdd (eSl (eVar 1) (oNone) (oSome (eVar 2))) (eFrz (eDisp (eCons (eM1 dJoin (eC (.str (PySem.Str.ofString " "))) (eVar 4)) (eNil))))) (eSl (eVar 1) (oSome (eOp2 dAdd (eVar 2) (eC (.int 1)))) (oNone)))))))))))))
theorem ok__law_changed {P : Program} {w : World} {K : PySem.W.Frag} {mg : Str → Option Value} {base : Heap} {a0 : Addr} {d0 : FuncData} (F__law_draw : Fn) {F : Fn} (Fu : Fun K (PySem.Str.ofString "_law_changed") (PySem.Str.ofString "_law_changed") s__law_changed a0 d0) (m_len : mg (PySem.Str.ofString "len") = none) {a__law_draw : Addr} {d__law_draw : FuncData} (f_law_draw : FnOk P w K mg base (L2.CX P w) 1 a__law_draw d__law_draw [(PySem.Str.ofString "pool"), (PySem.Str.ofString "size")] (spL K mg 1 F__law_draw)) (g_law_draw : mg (PySem.Str.ofString "_law_draw") = some (.ref a__law_draw)) (k_law_draw : PySem.W.keepIn K (.ref a__law_draw) = true) (b_law_draw : Binds K d__law_draw [(PySem.Str.ofString "pool"), (PySem.Str.ofString "size")] []) (hw : KeepsP 1 N__law_changed.length F (S__law_changed F__law_draw)) : FnOk P w K mg base (L2.CX P w) (1 + 1) a0 d0 [(PySem.Str.ofString "pool"), (PySem.Str.ofString "lines")] (spL K mg 1 F) :=
  okL Fu sc__law_changed rfl (fun cdv A outer s H E G xw hr xo => have nd := sc__law_changed.nd; (ss_cons (s_set (i := 2) nd rfl (by first | exact .inl rfl | exact .inr rfl) (p_callP (i := 0) (f_law_draw.mono (by first | decide | exact Nat.le_refl _)) (hr.mono (by first | decide | exact Nat.le_refl _)) (by rfl) g_law_draw k_law_draw b_law_draw (pv 0) (pa_cons' (p_callB c_len f_len (by rfl) m_len rfl (pa_cons' (p_var 1 (pv 1)) pa_nil')) pa_nil'))) (ss_cons (s_set (i := 3) nd rfl (by first | exact .inl rfl | exact .inr rfl) (p_callP (i := 0) (f_law_draw.mono (by first | decide | exact Nat.le_refl _)) (hr.mono (by first | decide | exact Nat.le_refl _)) (by rfl) g_law_draw k_law_draw b_law_draw (pv 0) (pa_cons' p_int pa_nil'))) (ss_cons (s_if (t_cmp (op_eqD (units_of hr (by decide))) f_eq (p_var 3 (pv 3)) p_int (by first | exact nomark _ | rfl)) (ss_one (s_ret (p_op o_add f_add (p_op o_add f_add (p_sl (p_var 1 (pv 1)) o_none (o_some (p_var 2 (pv 2)))) (p_frz (p_disp (pa_cons' p_str pa_nil')))) (p_sl (p_var 1 (pv 1)) (o_some (p_var 2 (pv 2))) o_none)))) ss_nil) (ss_cons (s_if (t_cmp (op_eqD (units_of hr (by decide))) f_eq (p_var 3 (pv 3)) p_int (by first | exact nomark _ | rfl)) (ss_one (s_ret (p_op o_add f_add (p_sl (p_var 1 (pv 1)) o_none (o_some (p_var 2 (pv 2)))) (p_sl (p_var 1 (pv 1)) (o_some (p_op o_add f_add (p_var 2 (pv 2)) p_int)) o_none)))) ss_nil) (ss_cons (s_if (t_cmp (op_eqD (units_of hr (by decide))) f_eq (p_var 3 (pv 3)) p_int (by first | exact nomark _ | rfl)) (ss_one (s_ret (p_op o_add f_add (p_sl (p_var 1 (pv 1)) o_none (o_some p_int)) (p_revO (p_var 1 (pv 1)))))) ss_nil) (ss_cons (s_if (t_cmp (op_eqD (units_of hr (by decide))) f_eq (p_var 3 (pv 3)) p_int (by first | exact nomark _ | rfl)) (ss_one (s_ret (p_op o_add f_add (p_var 1 (pv 1)) (p_sl (p_var 1 (pv 1)) (o_some (p_var 2 (pv 2))) (o_some (p_op o_add f_add (p_var 2 (pv 2)) p_int)))))) ss_nil) (ss_cons (s_set (i := 4) nd rfl (by first | exact .inl rfl | exact .inr rfl) (p_m1 PySem.F.slot_str_split PySem.F.type_str_split mt_split f_split (p_idx (p_var 1 (pv 1)) (p_var 2 (pv 2))) p_str)) (ss_cons (s_set (i := 5) nd rfl (by first | exact .inl rfl | exact .inr rfl) (p_callP (i := 0) (f_law_draw.mono (by first | decide | exact Nat.le_refl _)) (hr.mono (by first | decide | exact Nat.le_refl _)) (by rfl) g_law_draw k_law_draw b_law_draw (pv 0) (pa_cons' (p_callB c_len f_len (by rfl) m_len rfl (pa_cons' (p_var 4 (pv 4)) pa_nil')) pa_nil'))) (ss_cons (s_set (i := 6) nd rfl (by first | exact .inl rfl | exact .inr rfl) (p_idx (p_tup (pa_cons' p_str (pa_cons' p_str (pa_cons' p_str (pa_cons' p_str (pa_cons' p_str (pa_cons' p_str (pa_cons' p_str (pa_cons' p_str (pa_cons' p_str (pa_cons' p_str (pa_cons' p_str (pa_cons' p_str (pa_cons' p_str pa_nil')))))))))))))) (p_callP (i := 0) (f_law_draw.mono (by first | decide | exact Nat.le_refl _)) (hr.mono (by first | decide | exact Nat.le_refl _)) (by rfl) g_law_draw k_law_draw b_law_draw (pv 0) (pa_cons' p_int pa_nil')))) (ss_cons (s_set (i := 4) nd rfl (by first | exact .inl rfl | exact .inr rfl) (p_idx (p_tup (pa_cons' (p_op o_add f_add (p_sl (p_var 4 (pv 4)) o_none (o_some (p_var 5 (pv 5)))) (p_sl (p_var 4 (pv 4)) (o_some (p_op o_add f_add (p_var 5 (pv 5)) p_int)) o_none)) (pa_cons' (p_op o_add f_add (p_op o_add f_add (p_sl (p_var 4 (pv 4)) o_none (o_some (p_var 5 (pv 5)))) (p_frz (p_disp (pa_cons' (p_var 6 (pv 6)) pa_nil')))) (p_sl (p_var 4 (pv 4)) (o_some (p_var 5 (pv 5))) o_none)) (pa_cons' (p_op o_add f_add (p_op o_add f_add (p_sl (p_var 4 (pv 4)) o_none (o_some (p_var 5 (pv 5)))) (p_frz (p_disp (pa_cons' (p_var 6 (pv 6)) pa_nil')))) (p_sl (p_var 4 (pv 4)) (o_some (p_op o_add f_add (p_var 5 (pv 5)) p_int)) o_none)) (pa_cons' (p_revL (p_var 4 (pv 4))) pa_nil'))))) (p_op op_sub f_sub (p_var 3 (pv 3)) p_int))) (ss_one (s_ret (p_op o_add f_add (p_op o_add f_add (p_sl (p_var 1 (pv 1)) o_none (o_some (p_var 2 (pv 2)))) (p_frz (p_disp (pa_cons' (p_m1 PySem.F.slot_str_join PySem.F.type_str_join mt_join f_join p_str (p_var 4 (pv 4))) pa_nil')))) (p_sl (p_var 1 (pv 1)) (o_some (p_op o_add f_add (p_var 2 (pv 2)) p_int)) o_none))))))))))))))) hw
abbrev s_law : Stmt := topS 40
abbrev N_law : List Str := [(PySem.Str.ofString "script"), (PySem.Str.ofString "pool"), (PySem.Str.ofString "count"), (PySem.Str.ofString "hard"), (PySem.Str.ofString "soft"), (PySem.Str.ofString "text"), (PySem.Str.ofString "top"), (PySem.Str.ofString "clause"), (PySem.Str.ofString "weight"), (PySem.Str.ofString "lines"), (PySem.Str.ofString "literal"), (PySem.Str.ofString "turn"), (PySem.Str.ofString "changed"), (PySem.Str.ofString "more")]
theorem sc_law : FnScope N_law [(PySem.Str.ofString "script")] (defScope s_law) := ⟨rfl, rfl, rfl, by decide +kernel, rfl, by decide +kernel, by decide +kernel⟩
def S_law (aProblem : Addr) {F__law_pool : List Da → (List Da → Prop) → Prop} (hF__law_pool : ∀ as k k', (∀ d, k d → k' d) → F__law_pool as k → F__law_pool as k') (F__law_problem : Fn) (F_wcnf_text : Fn) (F__law_same : Fn) (F__law_told : Fn) (F__law_draw : Fn) (F__law_changed : Fn) (F__law_read : Fn) (F_Problem___init__ : Fn) : Sx := sSeq (sOwn 1 (eCallO F__law_pool hF__law_pool 2 (eCons (eVar 0) (eCons (eC (.int 0)) (eNil))))) (sPool 1 (sSeq (sAsg (eCallP 1 F__law_problem 4 (eCons (eC (.int 6)) (eCons (eC (.int 4)) (eCons (eC (.int 4)) (eCons (eC (.int 30)) (eNil)))))) (.tup [.name 2, .name 3, .name 4])) (sSeq (sSet 5 (eCall F_wcnf_text 1 (eCons (eCall F_Problem___init__ 3 (eCons (eVar 2) (eCons (eVar 3) (eCons (eVar 4) (eNil))))) (eNil)))) (sSeq (sSet 6 (eOp2 dAdd (eOpN dSum (eCons (eFrz (eLC [7, 8] (iSeq (eVar 4)) (.tup [.name 7, .name 8]) bYes (eVar 8))) (eNil))) (eC (.int 1)))) (sSeq (sOwn 9 (eDisp (eCons (eM1 dJoin (eC (.str (PySem.Str.ofString " "))) (eFrz (eDisp (eCons (eC (.str (PySem.Str.ofString "p"))) (eCons (eC (.str (PySem.Str.ofString "wcnf"))) (eCons (eOpN dStr (eCons (eVar 2) (eNil))) (eCons (eOpN dStr (eCons (eOp2 dAdd (eOpN dLen (eCons (eVar 3) (eNil))) (eOpN dLen (eCons (eVar 4) (eNil)))) (eNil))) (eCons (eOpN dStr (eCons (eVar 6) (eNil))) (eNil))))))))) (eNil)))) (sSeq (sFor (iSeq (eOp2 dAdd (eFrz (eLC [7] (iSeq (eVar 3)) (.name 7) bYes (eTup (eCons (eVar 7) (eCons (eVar 6) (eNil)))))) (eFrz (eList (eVar 4))))) (.tup [.name 7, .name 8]) (sAppend 9 (eM1 dJoin (eC (.str (PySem.Str.ofString " "))) (eOp2 dAdd (eOp2 dAdd (eFrz (eDisp (eCons (eOpN dStr (eCons (eVar 8) (eNil))) (eNil)))) (eFrz (eLC [10] (iSeq (eVar 7)) (.name 10) bYes (eOpN dStr (eCons (eVar 10) (eNil)))))) (eFrz (eDisp (eCons (eC (.str (PySem.Str.ofString "0"))) (eNil)))))))) (sFreeze 9 (sSeq (sIf (bOr (bNot (bT (eCall F__law_same 2 (eCons (eVar 5) (eCons (eM1 dJoin (eC (.str (PySem.Str.ofString "\n"))) (eVar 9)) (eNil)))))) (bNot (bT (eCall F__law_same 2 (eCons (eCall F__law_told 1 (eCons (eVar 5) (eNil))) (eCons (eTup (eCons (eVar 2) (eCons (eVar 3) (eCons (eVar 4) (eNil))))) (eNil))))))) (sRet (eC (.bl false))) (sPass)) (sSeq (sFor (iRange1 (eC (.int 10))) (.name 11) (sSeq (sSet 12 (eVar 9)) (sSeq (sFor (iRange1 (eOp2 dAdd (eC (.int 1)) (eCallP 1 F__law_draw 1 (eCons (eC (.int 3)) (eNil))))) (.name 13) (sIf (bV (eOp2 dNe (eVar 12) (eFrz (eDisp (eNil))))) (sSet 12 (eCallP 1 F__law_changed 1 (eCons (eVar 12) (eNil)))) (sPass))) (sIf (bNot (bT (eCall F__law_same 2 (eCons (eCall F__law_told 1 (eCons (eM1 dJoin (eC (.str (PySem.Str.ofString "\n"))) (eVar 12)) (eNil))) (eCons (eCall F__law_read 1 (eCons (eM1 dSplit (eM1 dJoin (eC (.str (PySem.Str.ofString "\n"))) (eVar 12)) (eC (.str (PySem.Str.ofString "\n")))) (eNil))) (eNil)))))) (sRet (eC (.bl false))) (sPass))))) (sRet (eCall F__law_same 2 (eCons (eFrz (eDisp (eCons (eCall F__law_told 1 (eCons (eC (.str (PySem.Str.ofString ""))) (eNil))) (eCons (eCall F__law_told 1 (eCons (eC (.str (PySem.Str.ofString "c"))) (eNil))) (eCons (eCall F__law_told 1 (eCons (eC (.str (PySem.Str.ofString "p wcnf 1 0 1"))) (eNil))) (eCons (eCall F__law_told 1 (eCons (eC (.str (PySem.Str.ofString "p wcnf 301 0 1"))) (eNil))) (eNil))))))) (eCons (eFrz (eDisp (eCons (eC (.int 0)) (eCons (eC (.int 1)) (eCons (eTup (eCons (eC (.int 1)) (eCons (eTup (eNil)) (eCons (eTup (eNil)) (eNil))))) (eCons (eC (.int 0)) (eNil))))))) (eNil))))))))))))))
theorem ok_law {P : Program} {w : World} {K : PySem.W.Frag} {mg : Str → Option Value} {base : Heap} {a0 : Addr} {d0 : FuncData} (aProblem : Addr) {F__law_pool : List Da → (List Da → Prop) → Prop} (hF__law_pool : ∀ as k k', (∀ d, k d → k' d) → F__law_pool as k → F__law_pool as k') (F__law_problem : Fn) (F_wcnf_text : Fn) (F__law_same : Fn) (F__law_told : Fn) (F__law_draw : Fn) (F__law_changed : Fn) (F__law_read : Fn) (F_Problem___init__ : Fn) {F : Fn} (Fu : Fun K (PySem.Str.ofString "law") (PySem.Str.ofString "law") s_law a0 d0) (m_range : mg (PySem.Str.ofString "range") = none) (m_sum : mg (PySem.Str.ofString "sum") = none) (m_list : mg (PySem.Str.ofString "list") = none) (m_str : mg (PySem.Str.ofString "str") = none) (m_len : mg (PySem.Str.ofString "len") = none) (cProblem : Cls K aProblem) (gProblem : mg (PySem.Str.ofString "Problem") = some (.ref aProblem)) {a__law_pool : Addr} {d__law_pool : FuncData} (f_law_pool : FnOk P w K mg base (L2.CX P w) 1 a__law_pool d__law_pool [(PySem.Str.ofString "script"), (PySem.Str.ofString "budget")] (spO K 2 F__law_pool)) (g_law_pool : mg (PySem.Str.ofString "_law_pool") = some (.ref a__law_pool)) (k_law_pool : PySem.W.keepIn K (.ref a__law_pool) = true) (b_law_pool : Binds K d__law_pool [(PySem.Str.ofString "script"), (PySem.Str.ofString "budget")] []) {a__law_problem : Addr} {d__law_problem : FuncData} (f_law_problem : FnOk P w K mg base (L2.CX P w) 3 a__law_problem d__law_problem [(PySem.Str.ofString "pool"), (PySem.Str.ofString "most"), (PySem.Str.ofString "hards"), (PySem.Str.ofString "softs"), (PySem.Str.ofString "weight")] (spL K mg 4 F__law_problem)) (g_law_problem : mg (PySem.Str.ofString "_law_problem") = some (.ref a__law_problem)) (k_law_problem : PySem.W.keepIn K (.ref a__law_problem) = true) (b_law_problem : Binds K d__law_problem [(PySem.Str.ofString "pool"), (PySem.Str.ofString "most"), (PySem.Str.ofString "hards"), (PySem.Str.ofString "softs"), (PySem.Str.ofString "weight")] []) {a_wcnf_text : Addr} {d_wcnf_text : FuncData} (fwcnf_text : FnOk P w K mg base (L2.CX P w) 2 a_wcnf_text d_wcnf_text [(PySem.Str.ofString "problem")] (spD K mg 1 F_wcnf_text)) (gwcnf_text : mg (PySem.Str.ofString "wcnf_text") = some (.ref a_wcnf_text)) (kwcnf_text : PySem.W.keepIn K (.ref a_wcnf_text) = true) (bwcnf_text : Binds K d_wcnf_text [(PySem.Str.ofString "problem")] []) {a__law_same : Addr} {d__law_same : FuncData} (f_law_same : FnOk P w K mg base (L2.CX P w) 5 a__law_same d__law_same [(PySem.Str.ofString "actual"), (PySem.Str.ofString "due")] (spD K mg 2 F__law_same)) (g_law_same : mg (PySem.Str.ofString "_law_same") = some (.ref a__law_same)) (k_law_same : PySem.W.keepIn K (.ref a__law_same) = true) (b_law_same : Binds K d__law_same [(PySem.Str.ofString "actual"), (PySem.Str.ofString "due")] []) {a__law_told : Addr} {d__law_told : FuncData} (f_law_told : FnOk P w K mg base (L2.CX P w) 6 a__law_told d__law_told [(PySem.Str.ofString "text")] (spD K mg 1 F__law_told)) (g_law_told : mg (PySem.Str.ofString "_law_told") = some (.ref a__law_told)) (k_law_told : PySem.W.keepIn K (.ref a__law_told) = true) (b_law_told : Binds K d__law_told [(PySem.Str.ofString "text")] []) {a__law_draw : Addr} {d__law_draw : FuncData} (f_law_draw : FnOk P w K mg base (L2.CX P w) 1 a__law_draw d__law_draw [(PySem.Str.ofString "pool"), (PySem.Str.ofString "size")] (spL K mg 1 F__law_draw)) (g_law_draw : mg (PySem.Str.ofString "_law_draw") = some (.ref a__law_draw)) (k_law_draw : PySem.W.keepIn K (.ref a__law_draw) = true) (b_law_draw : Binds K d__law_draw [(PySem.Str.ofString "pool"), (PySem.Str.ofString "size")] []) {a__law_changed : Addr} {d__law_changed : FuncData} (f_law_changed : FnOk P w K mg base (L2.CX P w) 2 a__law_changed d__law_changed [(PySem.Str.ofString "pool"), (PySem.Str.ofString "lines")] (spL K mg 1 F__law_changed)) (g_law_changed : mg (PySem.Str.ofString "_law_changed") = some (.ref a__law_changed)) (k_law_changed : PySem.W.keepIn K (.ref a__law_changed) = true) (b_law_changed : Binds K d__law_changed [(PySem.Str.ofString "pool"), (PySem.Str.ofString "lines")] []) {a__law_read : Addr} {d__law_read : FuncData} (f_law_read : FnOk P w K mg base (L2.CX P w) 3 a__law_read d__law_read [(PySem.Str.ofString "lines")] (spD K mg 1 F__law_read)) (g_law_read : mg (PySem.Str.ofString "_law_read") = some (.ref a__law_read)) (k_law_read : PySem.W.keepIn K (.ref a__law_read) = true) (b_law_read : Binds K d__law_read [(PySem.Str.ofString "lines")] []) {a_Problem___init__ : Addr} {d_Problem___init__ : FuncData} (fProblem___init__ : FnOk P w K mg base (L2.CX P w) 3 a_Problem___init__ d_Problem___init__ [(PySem.Str.ofString "self"), (PySem.Str.ofString "count"), (PySem.Str.ofString "hard"), (PySem.Str.ofString "soft")] (spI K mg aProblem 3 F_Problem___init__)) (bProblem___init__ : Binds K d_Problem___init__ [(PySem.Str.ofString "self"), (PySem.Str.ofString "count"), (PySem.Str.ofString "hard"), (PySem.Str.ofString "soft")] []) (mkProblem : Mk K aProblem a_Problem___init__) (hw : Keeps 1 N_law.length F (S_law aProblem hF__law_pool F__law_problem F_wcnf_text F__law_same F__law_told F__law_draw F__law_changed F__law_read F_Problem___init__)) : FnOk P w K mg base (L2.CX P w) (6 + 1) a0 d0 [(PySem.Str.ofString "script")] (spD K mg 1 F) :=
  okD Fu sc_law rfl (fun cdv A outer s H E G xw hr xo => have nd := sc_law.nd; (ss_cons (s_own (i := 1) nd rfl (by first | exact .inl rfl | exact .inr rfl) (p_callO (f_law_pool.mono (by first | decide | exact Nat.le_refl _)) (hr.mono (by first | decide | exact Nat.le_refl _)) (by rfl) g_law_pool k_law_pool b_law_pool (pa_cons' (p_var 0 (pv 0)) (pa_cons' p_int pa_nil')))) (ss_pool 1 (ss_cons (s_asg (p_callP (i := 1) (f_law_problem.mono (by first | decide | exact Nat.le_refl _)) (hr.mono (by first | decide | exact Nat.le_refl _)) (by rfl) g_law_problem k_law_problem b_law_problem (pv 1) (pa_cons' p_int (pa_cons' p_int (pa_cons' p_int (pa_cons' p_int pa_nil'))))) (g_tup rfl (gs_cons (g_name 2 (pg_name (i := 2) nd rfl (by first | exact .inl rfl | exact .inr rfl))) (gs_cons (g_name 3 (pg_name (i := 3) nd rfl (by first | exact .inl rfl | exact .inr rfl))) (gs_cons (g_name 4 (pg_name (i := 4) nd rfl (by first | exact .inl rfl | exact .inr rfl))) gs_nil))))) (ss_cons (s_set (i := 5) nd rfl (by first | exact .inl rfl | exact .inr rfl) (p_call xo (fwcnf_text.mono (by first | decide | exact Nat.le_refl _)) (hr.mono (by first | decide | exact Nat.le_refl _)) (by rfl) gwcnf_text kwcnf_text bwcnf_text (pa_cons' (p_make xo mkProblem (fProblem___init__.mono (by first | decide | exact Nat.le_refl _)) (hr.mono (by first | decide | exact Nat.le_refl _)) (by rfl) gProblem bProblem___init__ (pa_cons' (p_var 2 (pv 2)) (pa_cons' (p_var 3 (pv 3)) (pa_cons' (p_var 4 (pv 4)) pa_nil')))) pa_nil'))) (ss_cons (s_set (i := 6) nd rfl (by first | exact .inl rfl | exact .inr rfl) (p_op o_add f_add (p_callB (cr_sum rfl) f_sum (by rfl) m_sum rfl (pa_cons' (p_frz (p_lc rfl nd (i_seq (p_var 4 (pv 4))) (blkOk_by (own := [((PySem.Str.ofString "clause"), 7), ((PySem.Str.ofString "weight"), 8)]) (N := N_law) (sc := defScope (s_law)) (by decide +kernel)) (fun _ _ _ _ _ => (g_tup rfl (gs_cons (g_name 7 (pg_name (i := 7) nd rfl (by first | exact .inl rfl | exact .inr rfl))) (gs_cons (g_name 8 (pg_name (i := 8) nd rfl (by first | exact .inl rfl | exact .inr rfl))) gs_nil)))) (fun _ _ _ _ _ => ts_nil) (fun _ _ _ _ _ => (p_var 8 (pv 8))) (by decide))) pa_nil')) p_int)) (ss_cons (s_own (i := 9) nd rfl (by first | exact .inl rfl | exact .inr rfl) (p_disp (pa_cons' (p_m1 PySem.F.slot_str_join PySem.F.type_str_join mt_join f_join p_str (p_frz (p_disp (pa_cons' p_str (pa_cons' p_str (pa_cons' (p_callTy c_str f_str (by rfl) m_str rfl (pa_cons' (p_var 2 (pv 2)) pa_nil')) (pa_cons' (p_callTy c_str f_str (by rfl) m_str rfl (pa_cons' (p_op o_add f_add (p_callB c_len f_len (by rfl) m_len rfl (pa_cons' (p_var 3 (pv 3)) pa_nil')) (p_callB c_len f_len (by rfl) m_len rfl (pa_cons' (p_var 4 (pv 4)) pa_nil'))) pa_nil')) (pa_cons' (p_callTy c_str f_str (by rfl) m_str rfl (pa_cons' (p_var 6 (pv 6)) pa_nil')) pa_nil')))))))) pa_nil'))) (ss_cons (s_for (passes_of rfl) rfl (i_seq (p_op o_add f_add (p_frz (p_lc rfl nd (i_seq (p_var 3 (pv 3))) (blkOk_by (own := [((PySem.Str.ofString "clause"), 7)]) (N := N_law) (sc := defScope (s_law)) (by decide +kernel)) (fun _ _ _ _ _ => (g_name 7 (pg_name (i := 7) nd rfl (by first | exact .inl rfl | exact .inr rfl)))) (fun _ _ _ _ _ => ts_nil) (fun _ _ _ _ _ => (p_tup (pa_cons' (p_var 7 (pv 7)) (pa_cons' (p_var 6 (pv 6)) pa_nil')))) (by decide))) (p_frz (p_list (by rfl) m_list (p_var 4 (pv 4)))))) (g_tup rfl (gs_cons (g_name 7 (pg_name (i := 7) nd rfl (by first | exact .inl rfl | exact .inr rfl))) (gs_cons (g_name 8 (pg_name (i := 8) nd rfl (by first | exact .inl rfl | exact .inr rfl))) gs_nil))) (ss_one (s_append (pv 9) (p_m1 PySem.F.slot_str_join PySem.F.type_str_join mt_join f_join p_str (p_op o_add f_add (p_op o_add f_add (p_frz (p_disp (pa_cons' (p_callTy c_str f_str (by rfl) m_str rfl (pa_cons' (p_var 8 (pv 8)) pa_nil')) pa_nil'))) (p_frz (p_lc rfl nd (i_seq (p_var 7 (pv 7))) (blkOk_by (own := [((PySem.Str.ofString "literal"), 10)]) (N := N_law) (sc := defScope (s_law)) (by decide +kernel)) (fun _ _ _ _ _ => (g_name 10 (pg_name (i := 10) nd rfl (by first | exact .inl rfl | exact .inr rfl)))) (fun _ _ _ _ _ => ts_nil) (fun _ _ _ _ _ => (p_callTy c_str f_str (by rfl) m_str rfl (pa_cons' (p_var 10 (pv 10)) pa_nil'))) (by decide)))) (p_frz (p_disp (pa_cons' p_str pa_nil')))))))) (ss_freeze 9 (ss_cons (s_if (PW.pt (t_or (t_not (t_truth (p_call xo (f_law_same.mono (by first | decide | exact Nat.le_refl _)) (hr.mono (by first | decide | exact Nat.le_refl _)) (by rfl) g_law_same k_law_same b_law_same (pa_cons' (p_var 5 (pv 5)) (pa_cons' (p_m1 PySem.F.slot_str_join PySem.F.type_str_join mt_join f_join p_str (p_var 9 (pv 9))) pa_nil'))))) (t_or1 (t_not (t_truth (p_call xo (f_law_same.mono (by first | decide | exact Nat.le_refl _)) (hr.mono (by first | decide | exact Nat.le_refl _)) (by rfl) g_law_same k_law_same b_law_same (pa_cons' (p_call xo (f_law_told.mono (by first | decide | exact Nat.le_refl _)) (hr.mono (by first | decide | exact Nat.le_refl _)) (by rfl) g_law_told k_law_told b_law_told (pa_cons' (p_var 5 (pv 5)) pa_nil')) (pa_cons' (p_tup (pa_cons' (p_var 2 (pv 2)) (pa_cons' (p_var 3 (pv 3)) (pa_cons' (p_var 4 (pv 4)) pa_nil')))) pa_nil')))))))) (ss_one (s_ret p_bl)) ss_nil) (ss_cons (s_for (passes_of rfl) rfl (i_range1 (by rfl) m_range p_int) (g_name 11 (pg_name (i := 11) nd rfl (by first | exact .inl rfl | exact .inr rfl))) (ss_cons (s_set (i := 12) nd rfl (by first | exact .inl rfl | exact .inr rfl) (p_var 9 (pv 9))) (ss_cons (s_for (passes_of rfl) rfl (i_range1 (by rfl) m_range (p_op o_add f_add p_int (p_callP (i := 1) (f_law_draw.mono (by first | decide | exact Nat.le_refl _)) (hr.mono (by first | decide | exact Nat.le_refl _)) (by rfl) g_law_draw k_law_draw b_law_draw (pv 1) (pa_cons' p_int pa_nil')))) (g_name 13 (pg_name (i := 13) nd rfl (by first | exact .inl rfl | exact .inr rfl))) (ss_one (s_if (t_cmp (op_neD (units_of hr (by decide))) f_ne (p_var 12 (pv 12)) (p_frz (p_disp pa_nil')) (by first | exact nomark _ | rfl)) (ss_one (s_set (i := 12) nd rfl (by first | exact .inl rfl | exact .inr rfl) (p_callP (i := 1) (f_law_changed.mono (by first | decide | exact Nat.le_refl _)) (hr.mono (by first | decide | exact Nat.le_refl _)) (by rfl) g_law_changed k_law_changed b_law_changed (pv 1) (pa_cons' (p_var 12 (pv 12)) pa_nil')))) ss_nil))) (ss_one (s_if (t_not (t_truth (p_call xo (f_law_same.mono (by first | decide | exact Nat.le_refl _)) (hr.mono (by first | decide | exact Nat.le_refl _)) (by rfl) g_law_same k_law_same b_law_same (pa_cons' (p_call xo (f_law_told.mono (by first | decide | exact Nat.le_refl _)) (hr.mono (by first | decide | exact Nat.le_refl _)) (by rfl) g_law_told k_law_told b_law_told (pa_cons' (p_m1 PySem.F.slot_str_join PySem.F.type_str_join mt_join f_join p_str (p_var 12 (pv 12))) pa_nil')) (pa_cons' (p_call xo (f_law_read.mono (by first | decide | exact Nat.le_refl _)) (hr.mono (by first | decide | exact Nat.le_refl _)) (by rfl) g_law_read k_law_read b_law_read (pa_cons' (p_m1 PySem.F.slot_str_split PySem.F.type_str_split mt_split f_split (p_m1 PySem.F.slot_str_join PySem.F.type_str_join mt_join f_join p_str (p_var 12 (pv 12))) p_str) pa_nil')) pa_nil'))))) (ss_one (s_ret p_bl)) ss_nil))))) (ss_one (s_ret (p_call xo (f_law_same.mono (by first | decide | exact Nat.le_refl _)) (hr.mono (by first | decide | exact Nat.le_refl _)) (by rfl) g_law_same k_law_same b_law_same (pa_cons' (p_frz (p_disp (pa_cons' (p_call xo (f_law_told.mono (by first | decide | exact Nat.le_refl _)) (hr.mono (by first | decide | exact Nat.le_refl _)) (by rfl) g_law_told k_law_told b_law_told (pa_cons' p_str pa_nil')) (pa_cons' (p_call xo (f_law_told.mono (by first | decide | exact Nat.le_refl _)) (hr.mono (by first | decide | exact Nat.le_refl _)) (by rfl) g_law_told k_law_told b_law_told (pa_cons' p_str pa_nil')) (pa_cons' (p_call xo (f_law_told.mono (by first | decide | exact Nat.le_refl _)) (hr.mono (by first | decide | exact Nat.le_refl _)) (by rfl) g_law_told k_law_told b_law_told (pa_cons' p_str pa_nil')) (pa_cons' (p_call xo (f_law_told.mono (by first | decide | exact Nat.le_refl _)) (hr.mono (by first | decide | exact Nat.le_refl _)) (by rfl) g_law_told k_law_told b_law_told (pa_cons' p_str pa_nil')) pa_nil')))))) (pa_cons' (p_frz (p_disp (pa_cons' p_int (pa_cons' p_int (pa_cons' (p_tup (pa_cons' p_int (pa_cons' (p_tup pa_nil') (pa_cons' (p_tup pa_nil') pa_nil')))) (pa_cons' p_int pa_nil')))))) pa_nil')))))))))))))))) hw
end K03
end

section
set_option maxHeartbeats 4000000
namespace K03
open PySem PySem.Spec PyProof.Rows L2 Pu PySem.W Tx TL


/-! ### sorted sets of encoded numbers -/
theorem uniq {lt : Int → Int → Prop} (as : ∀ a b, lt a b → lt b a → False) : ∀ {a b : List Int}, (∀ x, x ∈ a ↔ x ∈ b) → a.Pairwise lt → b.Pairwise lt → a = b
  | [], [], _, _, _ => rfl
  | [], y :: b, h, _, _ => absurd ((h y).mpr List.mem_cons_self) (by simp)
  | x :: a, [], h, _, _ => absurd ((h x).mp List.mem_cons_self) (by simp)
  | x :: a, y :: b, h, pa, pb => by
    rw [List.pairwise_cons] at pa pb
    have e : x = y := by
      by_cases e : x = y
      · exact e
      · have h1 : x ∈ b := (List.mem_cons.mp ((h x).mp List.mem_cons_self)).resolve_left e
        have h2 : y ∈ a := (List.mem_cons.mp ((h y).mpr List.mem_cons_self)).resolve_left (Ne.symm e)
        exact (as _ _ (pa.1 y h2) (pb.1 x h1)).elim
    subst e
    refine congrArg _ (uniq as (fun z => ⟨fun hz => ?_, fun hz => ?_⟩) pa.2 pb.2)
    · rcases List.mem_cons.mp ((h z).mp (List.mem_cons_of_mem _ hz)) with e | e
      · rw [e] at hz
        exact (as _ _ (pa.1 _ hz) (pa.1 _ hz)).elim
      · exact e
    · rcases List.mem_cons.mp ((h z).mpr (List.mem_cons_of_mem _ hz)) with e | e
      · rw [e] at hz
        exact (as _ _ (pb.1 _ hz) (pb.1 _ hz)).elim
      · exact e
theorem map_pre {α β : Type} {f : α → β} : ∀ {l : List β}, (∀ b ∈ l, ∃ a, f a = b) → ∃ xs : List α, l = xs.map f
  | [], _ => ⟨[], rfl⟩
  | b :: l, h => by
    obtain ⟨a, e⟩ := h b List.mem_cons_self
    obtain ⟨xs, e2⟩ := map_pre (l := l) fun c hc => h c (List.mem_cons_of_mem _ hc)
    exact ⟨a :: xs, by rw [List.map_cons, e, ← e2]⟩
theorem ordE {enc : Int → Da} {R : Int → Int → Prop} [∀ a b, Decidable (R a b)] (hk : ∀ x y, Da.key (enc x) = Da.key (enc y) → x = y) (hle : ∀ a b, dataLe false Da.py (enc a) (enc b) = decide (R a b))
    (tr : ∀ a b c, R a b → R b c → R a c) (tot : ∀ a b, R a b ∨ R b a) {ls : List Int} {ms : List Da} (h : SetOf (ls.map enc) ms) : ∃ out : List Int, (∀ x, x ∈ out ↔ x ∈ ls) ∧ out.Pairwise R ∧ out.Nodup ∧ sortD ms = out.map enc := by
  obtain ⟨nd, sub, all⟩ := h
  obtain ⟨xs, rfl⟩ := map_pre (f := enc) (l := ms) fun b hb => by
    obtain ⟨a, _, e⟩ := List.mem_map.mp (sub b hb)
    exact ⟨a, e⟩
  have inj : ∀ x y, enc x = enc y → x = y := fun x y e => hk x y (by rw [e])
  have ndx : xs.Nodup := by
    rw [List.map_map] at nd
    exact List.Pairwise.of_map _ (fun a b hne e => hne (by rw [e])) nd
  refine ⟨xs.mergeSort (fun a b => dataLe false Da.py (enc a) (enc b)), fun x => ?_, ?_, ?_, ms_map xs⟩
  · rw [List.mem_mergeSort]
    constructor
    · intro hx
      obtain ⟨y, hy, e⟩ := List.mem_map.mp (sub _ (List.mem_map.mpr ⟨x, hx, rfl⟩))
      rw [← inj _ _ e]
      exact hy
    · intro hx
      have z := all _ (List.mem_map.mpr ⟨x, hx, rfl⟩)
      rw [List.map_map] at z
      obtain ⟨y, hy, e⟩ := List.mem_map.mp z
      rw [← hk _ _ e]
      exact hy
  · have p := List.pairwise_mergeSort (le := fun a b => dataLe false Da.py (enc a) (enc b)) (fun a b c h1 h2 => by
      rw [hle] at h1 h2 ⊢
      exact decide_eq_true (tr a b c (of_decide_eq_true h1) (of_decide_eq_true h2))) (fun a b => by
      rw [hle, hle]
      rcases tot a b with z | z
      · simp [z]
      · simp [z]) xs
    exact p.imp fun {a b} z => by
      rw [hle] at z
      exact of_decide_eq_true z
  · exact (List.mergeSort_perm xs _).nodup_iff.mpr ndx

def enc3 (x : Int) : Da := .tup [.int (iabs x), .bl (decide (x < 0)), .int x]
def enc2 (x : Int) : Da := .tup [.int (iabs x), .int x]
def R3 (a b : Int) : Prop := iabs a < iabs b ∨ (iabs a = iabs b ∧ b ≤ a)
def R2 (a b : Int) : Prop := iabs a < iabs b ∨ (iabs a = iabs b ∧ a ≤ b)
instance (a b : Int) : Decidable (R3 a b) := by unfold R3; exact inferInstance
instance (a b : Int) : Decidable (R2 a b) := by unfold R2; exact inferInstance
theorem iabs_eq (x : Int) : iabs x = if x < 0 then -x else x := rfl
theorem key3 (x y : Int) (h : Da.key (enc3 x) = Da.key (enc3 y)) : x = y := by
  simp [enc3, Da.key, Da.num, List.mapM_cons] at h
  exact h.2.2
theorem key2 (x y : Int) (h : Da.key (enc2 x) = Da.key (enc2 y)) : x = y := by
  simp [enc2, Da.key, Da.num, List.mapM_cons] at h
  exact h.2
theorem le2 (a b : Int) : dataLe false Da.py (enc2 a) (enc2 b) = decide (R2 a b) := by
  show (!dataLt (.tuple [.int (iabs b), .int b]) (.tuple [.int (iabs a), .int a])) = _
  rw [dataLt_ii]
  by_cases h : R2 a b
  · have h' : ¬ (iabs b < iabs a ∨ (iabs b = iabs a ∧ b < a)) := by unfold R2 at h; omega
    simp [h, h']
  · have h' : iabs b < iabs a ∨ (iabs b = iabs a ∧ b < a) := by unfold R2 at h; omega
    simp [h, h']
theorem lt3 (a b : Int) : dataLt (.tuple [.int (iabs b), .bool (decide (b < 0)), .int b]) (.tuple [.int (iabs a), .bool (decide (a < 0)), .int a]) = decide (iabs b < iabs a ∨ (iabs b = iabs a ∧ a < b)) := by
  rw [dataLt_tuple, dataLt_cons (by simp [alike]), dataLt_cons (by simp [alike]), dataLt_cons (by simp [alike]), dataLt_int, dataLt_int, dataLt_bool]
  have e0 : PyProof.Rows.lexLt itemOrd (keyToksAll []) (keyToksAll []) = false := lex_irrefl _
  rw [e0]
  simp only [PyData.eqv, beq_iff_eq, iabs_eq, b2i]
  by_cases h1 : b < 0 <;> by_cases h2 : a < 0 <;> simp [h1, h2] <;> (try split) <;> (try split) <;> first | omega | (rw [Bool.eq_iff_iff]; simp only [Bool.and_eq_true, Bool.or_eq_true, decide_eq_true_eq, Bool.not_eq_true', decide_eq_false_iff_not]; omega) | (simp; omega)
theorem le3 (a b : Int) : dataLe false Da.py (enc3 a) (enc3 b) = decide (R3 a b) := by
  show (!dataLt (.tuple [.int (iabs b), .bool (decide (b < 0)), .int b]) (.tuple [.int (iabs a), .bool (decide (a < 0)), .int a])) = _
  rw [lt3]
  by_cases h : R3 a b
  · have h' : ¬ (iabs b < iabs a ∨ (iabs b = iabs a ∧ a < b)) := by unfold R3 at h; omega
    simp [h, h']
  · have h' : iabs b < iabs a ∨ (iabs b = iabs a ∧ a < b) := by unfold R3 at h; omega
    simp [h, h']
theorem ord3 {ls : List Int} {ms : List Da} (h : SetOf (ls.map enc3) ms) : ∃ out : List Int, (∀ x, x ∈ out ↔ x ∈ ls) ∧ out.Pairwise R3 ∧ out.Nodup ∧ sortD ms = out.map enc3 :=
  ordE key3 le3 (fun a b c h1 h2 => by unfold R3 at *; omega) (fun a b => by unfold R3; omega) h
theorem ord2 {ls : List Int} {ms : List Da} (h : SetOf (ls.map enc2) ms) : ∃ out : List Int, (∀ x, x ∈ out ↔ x ∈ ls) ∧ out.Pairwise R2 ∧ out.Nodup ∧ sortD ms = out.map enc2 :=
  ordE key2 le2 (fun a b c h1 h2 => by unfold R2 at *; omega) (fun a b => by unfold R2; omega) h

/-! ### comprehensions whose steps are plain -/
theorem lcW_of {α : Type} {t : Tt} {c : W Bool} {e : W Da} {ρ : En} {k : List Da → Prop} (f : α → Da) (p : α → Bool) (g : α → Da) : ∀ (xs : List α) (acc : List Da),
    (∀ x ∈ xs, ∃ ρ', t.bind (f x) ρ = some ρ' ∧ (∀ K : Bool → En → Prop, K (p x) ρ' → c.wp ρ' K noEx) ∧ (p x = true → ∀ K : Da → En → Prop, K (g x) ρ' → e.wp ρ' K noEx)) → k (acc ++ (xs.filter p).map g) → lcW t c e (xs.map f) acc ρ k
  | [], acc, _, h => by simpa [lcW] using h
  | x :: xs, acc, hs, h => by
    obtain ⟨ρ', hb, hc, he⟩ := hs x List.mem_cons_self
    rw [List.map_cons]
    unfold lcW
    refine ⟨ρ', hb, hc _ ⟨rfl, ?_⟩⟩
    by_cases hp : p x = true
    · rw [if_pos hp]
      refine he hp _ ⟨rfl, lcW_of f p g xs _ (fun y hy => hs y (List.mem_cons_of_mem _ hy)) ?_⟩
      rw [List.filter_cons_of_pos hp, List.map_cons] at h
      simpa using h
    · rw [if_neg hp]
      refine lcW_of f p g xs _ (fun y hy => hs y (List.mem_cons_of_mem _ hy)) ?_
      rw [List.filter_cons_of_neg hp] at h
      exact h
theorem lcW_all {α : Type} {t : Tt} {e : W Da} {ρ : En} {k : List Da → Prop} (f : α → Da) (g : α → Da) (xs : List α) (acc : List Da)
    (hs : ∀ x ∈ xs, ∃ ρ', t.bind (f x) ρ = some ρ' ∧ ∀ K : Da → En → Prop, K (g x) ρ' → e.wp ρ' K noEx) (h : k (acc ++ xs.map g)) : lcW t bYes e (xs.map f) acc ρ k :=
  lcW_of f (fun _ => true) g xs acc (fun x hx => by
    obtain ⟨ρ', h1, h2⟩ := hs x hx
    exact ⟨ρ', h1, fun K z => z, fun _ => h2⟩) (by rw [List.filter_eq_self.mpr (fun _ _ => rfl)]; exact h)

def dis (l : List Int) : List Da := l.map Da.int
/-- a list or a tuple of these -/
def seqD (ls : List Int) (d : Da) : Prop := d = .lst (dis ls) ∨ d = .tup (dis ls)
theorem seq_items {ls : List Int} {d : Da} (h : seqD ls d) : itemsOf d = some (dis ls) := by rcases h with rfl | rfl <;> rfl

/-! ### ordered -/
def F_ordered : Fn := ⟨fun ds k _ => ∃ (ls : List Int) (d : Da), ds = [d] ∧ seqD ls d ∧ ls.length < 60 ∧ ∀ out : List Int, (∀ x, x ∈ out ↔ x ∈ ls) → out.Pairwise R3 → out.Nodup → k (.lst (dis out)),
  fun hk _ ⟨ls, d, e, h1, h2, h3⟩ => ⟨ls, d, e, h1, h2, fun out a b c => hk _ (h3 out a b c)⟩⟩
theorem k_ordered : Keeps 1 N_ordered.length F_ordered S_ordered := by
  rintro ds k x hl ⟨ls, d, rfl, hd, hlen, h⟩
  show (S_ordered).wp [some (.dat d), none, none] _
  simp only [S_ordered, sRet, eFrz, W.bind_wp, eLC, iSeq, eSortS, eSC, eVar, W.env_wp, look, List.getElem?_cons_zero, W.opt_some, W.ret_wp, seq_items hd]
  refine ⟨by simpa [dis] using hlen, rfl, lcW_all Da.int enc3 ls [] (fun y hy => ?_) ?_⟩
  · exact ⟨_, rfl, fun K hK => by simpa [eKey, eTup, eCons, eNil, eOpN, eOp2, dAbs, dLt, dI2, eC, eVar, look, W.bind_wp, enc3, Da.key, Da.num, iabs] using hK⟩
  · rw [List.nil_append]
    refine ⟨fun a ha b hb => ?_, by simp; omega, fun ms hm => ?_⟩
    · obtain ⟨y, _, rfl⟩ := List.mem_map.mp ha
      obtain ⟨z, _, rfl⟩ := List.mem_map.mp hb
      simp [enc3, Da.py, Da.pys, alike, alikeAll]
    · obtain ⟨out, o1, o2, o3, e⟩ := ord3 hm
      rw [e]
      refine ⟨rfl, lcW_all enc3 Da.int out [] (fun y hy => ?_) ?_⟩
      · exact ⟨_, rfl, fun K hK => by simpa [eIdx, eOp2, eVar, eC, look, dIdx, enc3, atI, ixN] using hK⟩
      · exact h out o1 o2 o3

theorem opt_of {α : Type} {o : Option α} {a : α} {ρ : En} {k : α → En → Prop} {x : Ex → En → Prop} (e : o = some a) (h : k a ρ) : (W.opt o).wp ρ k x := by
  rw [e]
  exact h
theorem boolL_map {α : Type} (p : α → Bool) : ∀ xs : List α, boolL (xs.map fun x => Da.bl (p x)) = some (xs.map p)
  | [] => rfl
  | x :: xs => by simp [boolL, boolL_map p xs]
theorem dAll_map {α : Type} (p : α → Bool) (xs : List α) : dAll [.lst (xs.map fun x => Da.bl (p x))] = some (.bl (xs.all p)) := by
  simp only [dAll, boolL_map, Option.map_some, List.all_map]
  rfl
theorem dAny_map {α : Type} (p : α → Bool) (xs : List α) : dAny [.lst (xs.map fun x => Da.bl (p x))] = some (.bl (xs.any p)) := by
  simp only [dAny, boolL_map, Option.map_some, List.any_map]
  rfl
@[simp] theorem dEq_int (a b : Int) : dEq (.int a) (.int b) = some (.bl (decide (a = b))) := by
  simp [dEq, Da.ok, Da.eqv]
  by_cases h : a = b <;> simp [h]
@[simp] theorem dNe_int (a b : Int) : dNe (.int a) (.int b) = some (.bl (decide (a ≠ b))) := by
  simp [dNe, Da.ok, Da.eqv]
  by_cases h : a = b <;> simp [h]
theorem flat_dis (ls : List Int) : (dis ls).all Da.flat = true := by
  unfold dis
  rw [List.all_map, List.all_eq_true]
  exact fun _ _ => rfl
theorem any_dis (a : Int) (ls : List Int) : ((dis ls).any fun z => z.eqv (.int a)) = decide (a ∈ ls) := by
  unfold dis
  rw [List.any_map]
  induction ls with
  | nil => simp
  | cons x ls ih =>
    rw [List.any_cons, ih]
    simp only [Function.comp_apply, Da.eqv, List.mem_cons]
    by_cases h : a = x
    · simp [h]
    · have h' : (x == a) = false := by simpa using fun e => h e.symm
      simp [h, h']
theorem dIn_lst (neg : Bool) (a : Int) (ls : List Int) : dIn neg (.int a) (.lst (dis ls)) = some (.bl (xor neg (decide (a ∈ ls)))) := by
  show (if Da.flat (.int a) = true ∧ (dis ls).all Da.flat = true then _ else _) = _
  rw [if_pos ⟨rfl, flat_dis ls⟩, any_dis]
theorem dIn_tup (neg : Bool) (a : Int) (ls : List Int) : dIn neg (.int a) (.tup (dis ls)) = some (.bl (xor neg (decide (a ∈ ls)))) := by
  show (if Da.flat (.int a) = true ∧ (dis ls).all Da.flat = true then _ else _) = _
  rw [if_pos ⟨rfl, flat_dis ls⟩, any_dis]
theorem dIn_seq (neg : Bool) (a : Int) {ls : List Int} {d : Da} (h : seqD ls d) : dIn neg (.int a) d = some (.bl (xor neg (decide (a ∈ ls)))) := by
  rcases h with rfl | rfl
  · exact dIn_lst neg a ls
  · exact dIn_tup neg a ls

/-! ### neighbours -/
theorem cut1 (ds : List Da) : Pu.cutD ds (some 1) none = ds.drop 1 := by
  unfold Pu.cutD
  rw [show HT.sIx ds.length 0 (some 1) = min 1 ds.length from HT.sIx_nat ds.length 0 1, HT.sIx_none]
  cases ds with
  | nil => rfl
  | cons x r =>
    rw [show min 1 (x :: r).length = 1 by
      rw [List.length_cons]
      omega]
    show (List.take ((x :: r).length - 1) r) = r
    rw [List.length_cons, Nat.add_sub_cancel]
    exact List.take_length
def pair (p : Int × Int) : Da := .tup [.int p.1, .int p.2]
theorem zip_dis : ∀ a b : List Int, zipD (dis a) (dis b) = (a.zip b).map pair
  | [], b => by simp [dis, zipD]
  | x :: a, [] => by simp [dis, zipD]
  | x :: a, y :: b => by
    have ih := zip_dis a b
    simp only [dis] at ih
    simp [dis, zipD, ih, pair]
theorem zip_items {d : Da} {ls : List Int} (h : seqD ls d) : ∃ d', dSl d (some 1) none = some d' ∧ zip2 d d' = some ((ls.zip (ls.drop 1)).map pair) := by
  rcases h with rfl | rfl
  · refine ⟨.lst (dis (ls.drop 1)), ?_, ?_⟩
    · show some (Da.lst (Pu.cutD (dis ls) (some 1) none)) = _
      rw [cut1]
      simp [dis, List.map_drop]
    · show some (zipD (dis ls) (dis (ls.drop 1))) = _
      rw [zip_dis]
  · refine ⟨.tup (dis (ls.drop 1)), ?_, ?_⟩
    · show some (Da.tup (Pu.cutD (dis ls) (some 1) none)) = _
      rw [cut1]
      simp [dis, List.map_drop]
    · show some (zipD (dis ls) (dis (ls.drop 1))) = _
      rw [zip_dis]
/-- a relation of neighbours -/
theorem adj_all {R : Int → Int → Prop} [∀ a b, Decidable (R a b)] (tr : ∀ a b c, R a b → R b c → R a c) : ∀ ls : List Int, ((ls.zip (ls.drop 1)).all fun p => decide (R p.1 p.2)) = true ↔ ls.Pairwise R
  | [] => by simp
  | [x] => by simp
  | x :: y :: r => by
    have ih := adj_all tr (y :: r)
    rw [List.drop_succ_cons, List.drop_zero] at ih ⊢
    rw [List.zip_cons_cons, List.all_cons, Bool.and_eq_true, ih, decide_eq_true_eq, List.pairwise_cons (a := x)]
    constructor
    · rintro ⟨h1, h2⟩
      refine ⟨fun z hz => ?_, h2⟩
      rcases List.mem_cons.mp hz with e | hz
      · rw [e]; exact h1
      · exact tr _ _ _ h1 ((List.pairwise_cons.mp h2).1 z hz)
    · rintro ⟨h1, h2⟩
      exact ⟨h1 y List.mem_cons_self, h2⟩

/-! ### clause_of -/
def bad (ls : List Int) : Prop := ∃ x ∈ ls, x = 0 ∨ 1000000 < iabs x
def opp (ls : List Int) : Prop := ∃ x ∈ ls, -x ∈ ls
def lta (a b : Int) : Prop := iabs a < iabs b
instance (a b : Int) : Decidable (lta a b) := by unfold lta; exact inferInstance
abbrev eLit : Ex := ⟨(PySem.Str.ofString "BadClause"), (PySem.Str.ofString "what"), .str (PySem.Str.ofString "literal")⟩
abbrev eOpp : Ex := ⟨(PySem.Str.ofString "BadClause"), (PySem.Str.ofString "what"), .str (PySem.Str.ofString "opposites")⟩
def F_clause_of : Fn := ⟨fun ds k x => ∃ (ls : List Int) (d : Da), ds = [d] ∧ seqD ls d ∧ ls.length < 60 ∧ (bad ls → x eLit) ∧ (¬ bad ls → opp ls → x eOpp) ∧
    (¬ bad ls → ¬ opp ls → ∀ out : List Int, (∀ x, x ∈ out ↔ x ∈ ls) → out.Pairwise lta → k (.tup (dis out))),
  fun hk hx ⟨ls, d, e, h1, h2, h3, h4, h5⟩ => ⟨ls, d, e, h1, h2, fun b => hx _ (h3 b), fun b o => hx _ (h4 b o), fun b o out a c => hk _ (h5 b o out a c)⟩⟩
theorem lit_len : (PySem.Str.ofString "literal").length ≤ 1000 := by decide +kernel
theorem opp_len : (PySem.Str.ofString "opposites").length ≤ 1000 := by decide +kernel
theorem lc_cast {t : Tt} {c : W Bool} {e : W Da} {ds ds' acc : List Da} {ρ : En} {k : List Da → Prop} (h : ds = ds') (q : lcW t c e ds' acc ρ k) : lcW t c e ds acc ρ k := by
  rw [h]
  exact q
theorem zip_cut (out : List Int) : zipD (dis out) (Pu.cutD (dis out) (some 1) none) = (out.zip (out.drop 1)).map pair := by
  rw [cut1, show (dis out).drop 1 = dis (out.drop 1) by simp [dis, List.map_drop], zip_dis]
theorem lta_tr (a b c : Int) (h1 : lta a b) (h2 : lta b c) : lta a c := by unfold lta at *; omega
theorem R3_tr (a b c : Int) (h1 : R3 a b) (h2 : R3 b c) : R3 a c := by unfold R3 at *; omega
theorem any_eq {out : List Int} (h : out.Pairwise R3) : ((out.zip (out.drop 1)).any fun p => decide (iabs p.1 = iabs p.2)) = true ↔ ¬ out.Pairwise lta := by
  have r := (adj_all (R := R3) R3_tr out).mpr h
  rw [← adj_all (R := lta) lta_tr out, List.all_eq_true] at *
  rw [List.any_eq_true]
  constructor
  · rintro ⟨p, hp, e⟩ al
    have e := of_decide_eq_true e
    have := of_decide_eq_true (al p hp)
    unfold lta at this
    omega
  · intro n
    refine Classical.byContradiction fun m => n fun p hp => decide_eq_true ?_
    have q := of_decide_eq_true (r p hp)
    have : iabs p.1 ≠ iabs p.2 := fun e => m ⟨p, hp, decide_eq_true e⟩
    unfold R3 at q
    unfold lta
    omega
theorem iabs_neg (x : Int) : iabs (-x) = iabs x := by unfold iabs; split <;> split <;> omega
theorem iabs_two {x y : Int} (h : iabs x = iabs y) : x = y ∨ y = -x := by unfold iabs at h; split at h <;> split at h <;> omega
theorem pw_two {R : Int → Int → Prop} : ∀ {l : List Int} {x y : Int}, l.Pairwise R → x ∈ l → y ∈ l → x ≠ y → R x y ∨ R y x
  | z :: l, x, y, h, hx, hy, n => by
    rw [List.pairwise_cons] at h
    rcases List.mem_cons.mp hx with e | hx
    · rcases List.mem_cons.mp hy with e' | hy
      · exact absurd (e.trans e'.symm) n
      · rw [e]; exact .inl (h.1 y hy)
    · rcases List.mem_cons.mp hy with e' | hy
      · rw [e']; exact .inr (h.1 x hx)
      · exact pw_two h.2 hx hy n
theorem opp_iff {ls out : List Int} (o1 : ∀ x, x ∈ out ↔ x ∈ ls) (o2 : out.Pairwise R3) (o3 : out.Nodup) (nb : ¬ bad ls) : ¬ out.Pairwise lta ↔ opp ls := by
  constructor
  · intro n
    refine Classical.byContradiction fun no => n ?_
    refine (List.Pairwise.and o2 o3).imp_of_mem fun {a b} ha hb ⟨h1, h2⟩ => ?_
    unfold lta
    rcases h1 with h1 | ⟨h1, _⟩
    · exact h1
    · rcases iabs_two h1 with e | e
      · exact absurd e h2
      · exact absurd ⟨a, (o1 a).mp ha, by rw [← e]; exact (o1 b).mp hb⟩ no
  · rintro ⟨x, hx, hy⟩ p
    have n : x ≠ -x := fun e => nb ⟨x, hx, .inl (by omega)⟩
    have q := pw_two p ((o1 x).mpr hx) ((o1 _).mpr hy) n
    unfold lta at q
    rw [iabs_neg] at q
    omega
theorem k_clause_of : Keeps 1 N_clause_of.length F_clause_of (S_clause_of F_ordered) := by
  rintro ds k x hl ⟨ls, d, rfl, hd, hlen, hb, ho, hk⟩
  show (S_clause_of F_ordered).wp [some (.dat d), none, none, none, none] _
  refine ⟨rfl, ls, d, rfl, hd, hlen, fun out o1 o2 o3 => ?_⟩
  have hbad : (out.all fun y => (decide (y ≠ 0) && decide (iabs y ≤ 1000000))) = true ↔ ¬ bad ls := by
    rw [List.all_eq_true]
    constructor
    · rintro h ⟨y, hy, z⟩
      have := h y ((o1 y).mpr hy)
      simp at this
      omega
    · intro h y hy
      have : ¬ (y = 0 ∨ 1000000 < iabs y) := fun z => h ⟨y, (o1 y).mp hy, z⟩
      simp
      omega
  refine ⟨rfl, lcW_all Da.int (fun y => Da.bl (decide (y ≠ 0) && decide (iabs y ≤ 1000000))) out [] (fun y hy => ⟨_, rfl, fun K hK => ?_⟩) ?_⟩
  · by_cases h0 : y = 0
    · simpa [eAnd, bV, eOp2, eOpN, eCons, eNil, eVar, eC, look, dAbs, dLe, dI2, asB, h0] using hK
    · simpa [eAnd, bV, eOp2, eOpN, eCons, eNil, eVar, eC, look, dAbs, dLe, dI2, asB, h0] using hK
  refine opt_of (dAll_map _ out) ?_
  by_cases hbd : bad ls
  · have e : (out.all fun y => (decide (y ≠ 0) && decide (iabs y ≤ 1000000))) = false := by
      rw [Bool.eq_false_iff]
      exact fun z => (hbad.mp z) hbd
    show (if (!(out.all fun y => (decide (y ≠ 0) && decide (iabs y ≤ 1000000)))) = true then _ else _)
    rw [e, if_pos (show (!false) = true from rfl)]
    exact ⟨lit_len, hb hbd⟩
  · have e := hbad.mpr hbd
    show (if (!(out.all fun y => (decide (y ≠ 0) && decide (iabs y ≤ 1000000)))) = true then _ else _)
    rw [e, if_neg (show ¬ (!true) = true from by decide)]
    refine ⟨rfl, lc_cast (zip_cut out) (lcW_all pair (fun p => Da.bl (decide (iabs p.1 = iabs p.2))) (out.zip (out.drop 1)) [] (fun p hp => ⟨_, rfl, fun K hK => ?_⟩) ?_)⟩
    · simpa [eOp2, eOpN, eCons, eNil, eVar, look, dAbs] using hK
    refine opt_of (dAny_map _ (out.zip (out.drop 1))) ?_
    have h1 := any_eq o2
    have h2 := opp_iff o1 o2 o3 hbd
    by_cases hop : opp ls
    · have e := h1.mpr (h2.mpr hop)
      show (if ((out.zip (out.drop 1)).any fun p => decide (iabs p.1 = iabs p.2)) = true then _ else _)
      rw [if_pos e]
      exact ⟨opp_len, ho hbd hop⟩
    · have e : ¬ ((out.zip (out.drop 1)).any fun p => decide (iabs p.1 = iabs p.2)) = true := fun z => hop (h2.mp (h1.mp z))
      show (if ((out.zip (out.drop 1)).any fun p => decide (iabs p.1 = iabs p.2)) = true then _ else _)
      rw [if_neg e]
      exact hk hbd hop out o1 (Classical.byContradiction fun z => hop (h2.mp z))
def isC (ls : List Int) (n : Int) : Prop := (∀ x ∈ ls, x ≠ 0 ∧ iabs x ≤ n) ∧ ls.Pairwise lta
noncomputable def isCb (ls : List Int) (n : Int) : Bool := @decide (isC ls n) (Classical.propDecidable _)
theorem isCb_true {ls : List Int} {n : Int} (h : isC ls n) : isCb ls n = true := @decide_eq_true _ (Classical.propDecidable _) h
theorem isCb_false {ls : List Int} {n : Int} (h : ¬ isC ls n) : isCb ls n = false := @decide_eq_false _ (Classical.propDecidable _) h
def F_is_clause : Fn := ⟨fun ds k _ => ∃ (ls : List Int) (d : Da) (n : Int), ds = [d, .int n] ∧ seqD ls d ∧ k (.bl (isCb ls n)), fun hk _ ⟨ls, d, n, e, h1, h2⟩ => ⟨ls, d, n, e, h1, hk _ h2⟩⟩
theorem k_is_clause : Keeps 2 N_is_clause.length F_is_clause S_is_clause := by
  rintro ds k x hl ⟨ls, d, n, rfl, hd, h⟩
  show S_is_clause.wp [some (.dat d), some (.dat (.int n)), none, none, none] _
  refine opt_of (seq_items hd) ⟨rfl, lcW_all Da.int (fun y => Da.bl (decide (y ≠ 0) && decide (iabs y ≤ n))) ls [] (fun y hy => ⟨_, rfl, fun K hK => ?_⟩) ?_⟩
  · by_cases h0 : y = 0
    · simpa [eOp2, eOp1, eOpN, eCons, eNil, eTup, eFrz, eIdx, bV, bT, bNot, bAnd, bOr, eAnd, eOr, eNot, eIf, asB, truth, dAbs, dLt, dLe, dGt, dGe, dSub, dI2, eVar, eC, look, h0] using hK
    · simpa [eOp2, eOp1, eOpN, eCons, eNil, eTup, eFrz, eIdx, bV, bT, bNot, bAnd, bOr, eAnd, eOr, eNot, eIf, asB, truth, dAbs, dLt, dLe, dGt, dGe, dSub, dI2, eVar, eC, look, h0] using hK
  refine opt_of (dAll_map _ ls) ?_
  by_cases ha : (ls.all fun y => (decide (y ≠ 0) && decide (iabs y ≤ n))) = true
  · show (if (!(ls.all fun y => (decide (y ≠ 0) && decide (iabs y ≤ n)))) = true then _ else _)
    rw [ha, if_neg (show ¬ (!true) = true by decide)]
    obtain ⟨d', e1, e2⟩ := zip_items hd
    refine opt_of e1 (opt_of e2 ⟨rfl, lcW_all pair (fun p => Da.bl (decide (lta p.1 p.2))) (ls.zip (ls.drop 1)) [] (fun p hp => ⟨_, rfl, fun K hK => ?_⟩) ?_⟩)
    · have e : (decide (lta p.1 p.2)) = decide (iabs p.1 < iabs p.2) := rfl
      rw [e] at hK
      simpa [eOp2, eOp1, eOpN, eCons, eNil, eTup, eFrz, eIdx, bV, bT, bNot, bAnd, bOr, eAnd, eOr, eNot, eIf, asB, truth, dAbs, dLt, dLe, dGt, dGe, dSub, dI2, eVar, eC, look] using hK
    · refine opt_of (dAll_map _ (ls.zip (ls.drop 1))) ?_
      have e : ((ls.zip (ls.drop 1)).all fun p => decide (lta p.1 p.2)) = isCb ls n := by
        have hA : ∀ x ∈ ls, x ≠ 0 ∧ iabs x ≤ n := fun y hy => by
          have := List.all_eq_true.mp ha y hy
          simpa using this
        by_cases hp : ls.Pairwise lta
        · rw [(adj_all lta_tr ls).mpr hp, isCb_true ⟨hA, hp⟩]
        · rw [isCb_false (fun z => hp z.2), Bool.eq_false_iff]
          exact fun z => hp ((adj_all lta_tr ls).mp z)
      show k (.bl _)
      rw [e]
      exact h
  · show (if (!(ls.all fun y => (decide (y ≠ 0) && decide (iabs y ≤ n)))) = true then _ else _)
    rw [Bool.eq_false_iff.mpr ha, if_pos (show (!false) = true from rfl)]
    have e : isCb ls n = false := isCb_false fun z => ha (List.all_eq_true.mpr fun y hy => by simpa using z.1 y hy)
    rw [e] at h
    exact h
/-! ### the pool -/
def F__law_pool (ds : List Da) (k : List Da → Prop) : Prop := ∃ (ns : List Int) (b : Int), ds = [.scr ns, .int b] ∧ k (poolD ns 0 0 1 0 b)
theorem hF__law_pool : ∀ as k k', (∀ d, k d → k' d) → F__law_pool as k → F__law_pool as k' := fun as k k' h ⟨ns, b, e, q⟩ => ⟨ns, b, e, h _ q⟩
theorem k__law_pool : ∀ ds k, ds.length = 2 → F__law_pool ds k → S__law_pool.wp (startE N__law_pool.length ds) (fun es _ => k es) noEx := by
  rintro ds k hl ⟨ns, b, rfl, h⟩
  show S__law_pool.wp [some (.dat (.scr ns)), some (.dat (.int b))] _ _
  exact ⟨show (6 : Nat) ≤ 1000 by decide, h⟩
/-! ### _law_draw -/
def F__law_draw : Fn := ⟨fun ds k _ => ∃ n : Int, ds = [.int n] ∧ 1 ≤ n ∧ n < 1073741824 ∧ ∀ r : Int, 0 ≤ r → r < n → k (.int r), fun hk _ ⟨n, e, h1, h2, h⟩ => ⟨n, e, h1, h2, fun r a b => hk _ (h r a b)⟩⟩
def drA : Sx := (sIf (bAnd (bV (eOp2 dLe (eIxP 0 (eC (.int 2))) (eC (.int 0)))) (bAnd (bV (eOp2 dLe (eIxP 0 (eC (.int 4))) (eC (.int 0)))) (bV (eOp2 dLt (eIxP 0 (eC (.int 1))) (eOpN dLen (eCons (eIxP 0 (eC (.int 0))) (eNil))))))) (sSeq (sSet 2 (eIdx (eIxP 0 (eC (.int 0))) (eIxP 0 (eC (.int 1))))) (sSeq (sPutP 0 (eC (.int 1)) (eOp2 dAdd (eIxP 0 (eC (.int 1))) (eC (.int 1)))) (sSeq (sPutP 0 (eC (.int 3)) (eOp2 dMod (eOpN dInt (eCons (eOp2 dAdd (eOp2 dMul (eIxP 0 (eC (.int 3))) (eC (.int 31))) (eVar 2)) (eNil))) (eC (.int 2147483647)))) (sSeq (sPutP 0 (eC (.int 4)) (eC (.int 7))) (sIf (bV (eOp2 dGe (eVar 2) (eOp2 dPow (eC (.int 10)) (eC (.int 18))))) (sPutP 0 (eC (.int 2)) (eVar 2)) (sPass)))))) (sPass))
def drB : Sx := (sSeq (sIf (bV (eOp2 dGt (eIxP 0 (eC (.int 2))) (eC (.int 0)))) (sSeq (sSet 3 (eOp2 dMod (eOpN dInt (eCons (eIxP 0 (eC (.int 2))) (eNil))) (eVar 1))) (sSeq (sPutP 0 (eC (.int 2)) (eOp2 dDiv (eIxP 0 (eC (.int 2))) (eVar 1))) (sSeq (sPutP 0 (eC (.int 4)) (eC (.int 0))) (sRet (eVar 3))))) (sPass)) (sSeq (sPutP 0 (eC (.int 4)) (eOp2 dSub (eIxP 0 (eC (.int 4))) (eC (.int 1)))) (sSeq (sPutP 0 (eC (.int 3)) (eOp2 dMod (eOpN dInt (eCons (eOp2 dAdd (eOp2 dMul (eIxP 0 (eC (.int 3))) (eC (.int 48271))) (eC (.int 12345))) (eNil))) (eC (.int 2147483647)))) (sRet (eOp2 dMod (eOp2 dMod (eOpN dInt (eCons (eOp2 dAdd (eOp2 dMul (eIxP 0 (eC (.int 3))) (eC (.int 69621))) (eC (.int 7919))) (eNil))) (eC (.int 2147483647))) (eVar 1))))))
theorem po_ok {ns : List Int} {a b c d e : Int} (h1 : 0 ≤ a) (h2 : 0 ≤ c) (h3 : c < 2147483647) (h4 : ns.length ≤ 1000) : PoolOk (poolD ns a b c d e) := ⟨ns, a, b, c, d, e, rfl, h1, h2, h3, h4⟩
abbrev dst (ns : List Int) (a b c d e n : Int) (x2 : Option Ce) : En := [some (.plv (poolD ns a b c d e)), some (.dat (.int n)), x2, none]
theorem ix_po {ns : List Int} {a b c d e n j : Int} {x2 : Option Ce} {y : Da} {k : Da → En → Prop} {x : Ex → En → Prop} (h : atI (poolD ns a b c d e) j = some y) (q : k y (dst ns a b c d e n x2)) : (eIxP 0 (eC (.int j))).wp (dst ns a b c d e n x2) k x := ⟨rfl, opt_of h q⟩
theorem mulok {c z : Int} (h1 : 0 ≤ c) (h2 : c < 2147483647) : CMul c z := .inl (by omega)
theorem modok (x : Int) : 0 ≤ x % 2147483647 ∧ x % 2147483647 < 2147483647 := ⟨Int.emod_nonneg _ (by decide), Int.emod_lt_of_pos _ (by decide)⟩
theorem one_of {f : List Da → Option Da} {m : W Da} {ρ : En} {k : Da → En → Prop} {x : Ex → En → Prop} (h : m.wp ρ (fun d ρ1 => ∃ r, f [d] = some r ∧ k r ρ1) x) : (eOpN f (eCons m eNil)).wp ρ k x :=
  m.mono (fun d ρ1 ⟨r, e, q⟩ => opt_of e q) (fun _ _ z => z) h
theorem two_of {f : Da → Da → Option Da} {a b : W Da} {ρ : En} {k : Da → En → Prop} {x : Ex → En → Prop} (h : a.wp ρ (fun d ρ1 => b.wp ρ1 (fun e ρ2 => ∃ r, f d e = some r ∧ k r ρ2) x) x) : (eOp2 f a b).wp ρ k x :=
  a.mono (fun d ρ1 q => b.mono (fun e ρ2 ⟨r, h1, h2⟩ => opt_of h1 h2) (fun _ _ z => z) q) (fun _ _ z => z) h
theorem seqP {i : Nat} {m1 m2 : W Da} {b : Sx} {ρ : En} {E : Fl} (h : m2.wp ρ (fun d ρ1 => (lookP ρ1 i).isSome = true ∧ m1.wp ρ1 (fun k ρ2 => ∃ j ds n, asI k = some j ∧ lookP ρ2 i = some ds ∧ ixN ds.length j = some n ∧ PoolOk (ds.set n d) ∧ b.wp (ρ2.set i (some (.plv (ds.set n d)))) E) E.ex) E.ex) :
    (sSeq (sPutP i m1 m2) b).wp ρ E := h
theorem retS {m : W Da} {ρ : En} {E : Fl} (h : m.wp ρ E.rt E.ex) : (sRet m).wp ρ E := h
theorem ifS {c : W Bool} {a b : Sx} {ρ : En} {E : Fl} (h : c.wp ρ (fun k ρ' => if k = true then a.wp ρ' E else b.wp ρ' E) E.ex) : (sIf c a b).wp ρ E := h
theorem bV_of {m : W Da} {ρ : En} {k : Bool → En → Prop} {x : Ex → En → Prop} (h : m.wp ρ (fun d ρ1 => ∃ b, d = .bl b ∧ k b ρ1) x) : (bV m).wp ρ k x := m.mono (fun d ρ1 ⟨b, e, q⟩ => by
  subst e
  exact q) (fun _ _ z => z) h
theorem dPow_10_18 : dPow (.int 10) (.int 18) = some (.int (10 ^ 18)) := rfl
theorem var_of {i : Nat} {ρ : En} {d : Da} {k : Da → En → Prop} {x : Ex → En → Prop} (h : look ρ i = some d) (q : k d ρ) : (eVar i).wp ρ k x := opt_of h q
theorem dMod_int {i j : Int} (h : 0 < j) : dMod (.int i) (.int j) = some (.int (i % j)) := by simp [dMod, dI2, h]
theorem dDiv_int {i j : Int} (h : CDiv i j) : dDiv (.int i) (.int j) = some (.int (i / j)) := by simp [dDiv, dI2, h]
theorem dMul_int {i j : Int} (h : CMul i j) : dMul (.int i) (.int j) = some (.int (i * j)) := by simp [dMul, dI2, h]
theorem drB_ok {ns : List Int} {a b c d e n : Int} {x2 : Option Ce} {E : Fl} (ha : 0 ≤ a) (hc : 0 ≤ c) (hc2 : c < 2147483647) (hn : ns.length ≤ 1000) (h1 : 1 ≤ n) (h2 : n < 1073741824) (h : ∀ r ρ, 0 ≤ r → r < n → E.rt (.int r) ρ) :
    drB.wp (dst ns a b c d e n x2) E := by
  have hd : CDiv b n := ⟨by omega, h2⟩
  have h0 : 0 < n := by omega
  refine ⟨rfl, ?_⟩
  show (if decide (0 < b) = true then _ else _)
  by_cases hb : 0 < b
  · rw [if_pos (decide_eq_true hb)]
    refine ⟨rfl, ?_⟩
    show (W.opt (dMod (.int b) (.int n))).wp (dst ns a b c d e n x2) _ _
    refine opt_of (dMod_int h0) ?_
    refine ⟨rfl, ?_⟩
    show (W.opt (dDiv (.int b) (.int n))).wp _ _ _
    refine opt_of (dDiv_int hd) ?_
    refine ⟨rfl, 2, _, 2, rfl, rfl, rfl, po_ok ha hc hc2 hn, rfl, 4, _, 4, rfl, rfl, rfl, po_ok ha hc hc2 hn, ?_⟩
    exact h _ _ (Int.emod_nonneg _ (by omega)) (Int.emod_lt_of_pos _ h0)
  · rw [if_neg (fun z => hb (of_decide_eq_true z))]
    refine ⟨rfl, rfl, 4, _, 4, rfl, rfl, rfl, po_ok ha hc hc2 hn, ?_⟩
    dsimp only
    refine seqP (two_of (one_of (two_of (two_of ?_))))
    refine ⟨rfl, _, dMul_int (mulok hc hc2), _, rfl, _, rfl, _, dMod_int (i := c * 48271 + 12345) (by decide), ?_⟩
    refine ⟨rfl, 3, _, 3, rfl, rfl, rfl, po_ok ha (modok _).1 (modok _).2 hn, ?_⟩
    refine retS (two_of (two_of (one_of (two_of (two_of ?_)))))
    refine ⟨rfl, _, dMul_int (mulok (modok _).1 (modok _).2), _, rfl, _, rfl, _, dMod_int (i := (c * 48271 + 12345) % 2147483647 * 69621 + 7919) (by decide), _, dMod_int h0, ?_⟩
    exact h _ _ (Int.emod_nonneg _ (by omega)) (Int.emod_lt_of_pos _ h0)
/-- the first part: at most the pool's numbers change -/
theorem drA_ok {ns : List Int} {a b c d e n : Int} {E : Fl} (ha : 0 ≤ a) (hc : 0 ≤ c) (hc2 : c < 2147483647) (hn : ns.length ≤ 1000)
    (h : ∀ a b c d e x2, 0 ≤ a → 0 ≤ c → c < 2147483647 → E.nx (dst ns a b c d e n x2)) : drA.wp (dst ns a b c d e n none) E := by
  refine ⟨rfl, ?_⟩
  show (if decide (b ≤ 0) = true then _ else _ : W Bool).wp _ _ _
  by_cases hb : b ≤ 0
  · rw [if_pos (decide_eq_true hb)]
    refine ⟨rfl, ?_⟩
    show (if decide (d ≤ 0) = true then _ else _ : W Bool).wp _ _ _
    by_cases hd : d ≤ 0
    · rw [if_pos (decide_eq_true hd)]
      refine ⟨rfl, rfl, ?_⟩
      show (if decide (a < ((ns.map Da.int).length : Int)) = true then _ else _)
      by_cases hl : a < ((ns.map Da.int).length : Int)
      · rw [if_pos (decide_eq_true hl)]
        rw [List.length_map] at hl
        obtain ⟨y, hy⟩ : ∃ y, atI (ns.map Da.int) a = some (.int y) := by
          have e : a = ((a.toNat : Nat) : Int) := by omega
          rw [e]
          exact ⟨ns[a.toNat]'(by omega), atI_nat (by rw [List.getElem?_map, List.getElem?_eq_getElem (by omega)]; rfl)⟩
        refine ⟨rfl, rfl, ?_⟩
        refine opt_of (o := dIdx (.lst (ns.map Da.int)) (.int a)) hy ?_
        refine ⟨rfl, rfl, 1, _, 1, rfl, rfl, rfl, po_ok (a := a + 1) (by omega) hc hc2 hn, ?_⟩
        dsimp only
        refine seqP (two_of (one_of (two_of (two_of ?_))))
        refine ⟨rfl, _, dMul_int (mulok hc hc2), _, rfl, _, rfl, _, dMod_int (i := c * 31 + y) (by decide), ?_⟩
        refine ⟨rfl, 3, _, 3, rfl, rfl, rfl, po_ok (a := a + 1) (by omega) (modok _).1 (modok _).2 hn, ?_⟩
        refine ⟨rfl, 4, _, 4, rfl, rfl, rfl, po_ok (a := a + 1) (by omega) (modok _).1 (modok _).2 hn, ?_⟩
        dsimp only
        refine ifS (bV_of (two_of ?_))
        refine var_of (d := .int y) rfl ?_
        refine two_of (x := E.ex) ?_
        refine ⟨_, dPow_10_18, _, rfl, _, rfl, ?_⟩
        show (if decide ((10 : Int) ^ 18 ≤ y) = true then _ else _)
        by_cases hy2 : (10 : Int) ^ 18 ≤ y
        · rw [if_pos (decide_eq_true hy2)]
          exact ⟨rfl, 2, _, 2, rfl, rfl, rfl, po_ok (a := a + 1) (by omega) (modok _).1 (modok _).2 hn, h (a + 1) y _ 7 e _ (by omega) (modok _).1 (modok _).2⟩
        · rw [if_neg (fun z => hy2 (of_decide_eq_true z))]
          exact h (a + 1) b _ 7 e _ (by omega) (modok _).1 (modok _).2
      · rw [if_neg (fun z => hl (of_decide_eq_true z))]
        exact h a b c d e none ha hc hc2
    · rw [if_neg (fun z => hd (of_decide_eq_true z))]
      exact h a b c d e none ha hc hc2
  · rw [if_neg (fun z => hb (of_decide_eq_true z))]
    exact h a b c d e none ha hc hc2
theorem k__law_draw : KeepsP 1 N__law_draw.length F__law_draw S__law_draw := by
  rintro ds k hl ⟨n, rfl, h1, h2, h⟩
  refine ⟨rfl, ?_⟩
  rintro po ⟨ns, a, b, c, d, e, rfl, ha, hc, hc2, hn⟩
  exact drA_ok (n := n) ha hc hc2 hn fun a b c d e x2 ha hc hc2 => drB_ok ha hc hc2 hn h1 h2 fun r ρ h3 h4 => h r h3 h4
/-! ### _law_same: the same thing on both sides -/
def pl : Nat → Da → Prop
  | _, .non => True
  | _, .bl _ => True
  | _, .int _ => True
  | _, .str s => PyData.strOk s = true
  | n + 1, .tup ds => ds.length ≤ 1000000 ∧ ∀ d ∈ ds, pl n d
  | n + 1, .lst ds => ds.length ≤ 1000000 ∧ ∀ d ∈ ds, pl n d
  | _, _ => False
def F_same : Nat → Fn
  | 0 => ⟨fun _ _ _ => False, fun _ _ z => z⟩
  | n + 1 => ⟨fun ds k _ => ∃ d, ds = [d, d] ∧ pl n d ∧ k (.bl true), fun hk _ ⟨d, e, h, q⟩ => ⟨d, e, h, hk _ q⟩⟩
theorem atI_at {ds : List Da} {i : Nat} {d : Da} (h : ds[i]? = some d) : atI ds ((i : Nat) : Int) = some d := atI_nat h
theorem same_loop {n : Nat} {d : Da} {ds : List Da} {E : Fl} (hd : itemsOf d = some ds) (hi : ∀ i : Nat, dIdx d (.int i) = atI ds i) (hp : ∀ x ∈ ds, pl n x) (hE : ∀ ρ, E.nx ρ) : ∀ (m j : Nat) (s2 : Option Ce), j + m = ds.length →
    forW (.name 2) (sIf (bNot (bT (eCall (F_same (n + 1)) 2 (eCons (eIdx (eVar 0) (eVar 2)) (eCons (eIdx (eVar 1) (eVar 2)) (eNil)))))) (sRet (eC (.bl false))) (sPass)) ((List.range' j m).map fun i : Nat => Da.int (0 + (i : Int))) [some (.dat d), some (.dat d), s2] E
  | 0, j, s2, _ => hE _
  | m + 1, j, s2, e => by
    rw [List.range'_succ, List.map_cons]
    have hx : atI ds ((j : Nat) : Int) = some ds[j] := atI_at (List.getElem?_eq_getElem (by omega))
    have hx' : dIdx d (.int (0 + ((j : Nat) : Int))) = some ds[j] := by rw [Int.zero_add, hi, hx]
    refine ⟨_, rfl, ?_⟩
    refine opt_of hx' ?_
    refine opt_of hx' ?_
    refine ⟨rfl, ds[j], rfl, hp _ (List.getElem_mem _), ?_⟩
    exact same_loop hd hi hp hE m (j + 1) _ (by omega)
theorem same_loop0 {n : Nat} {d : Da} {ds : List Da} {E : Fl} (hd : itemsOf d = some ds) (hi : ∀ i : Nat, dIdx d (.int i) = atI ds i) (hp : ∀ x ∈ ds, pl n x) (hE : ∀ ρ, E.nx ρ) :
    forW (.name 2) (sIf (bNot (bT (eCall (F_same (n + 1)) 2 (eCons (eIdx (eVar 0) (eVar 2)) (eCons (eIdx (eVar 1) (eVar 2)) (eNil)))))) (sRet (eC (.bl false))) (sPass)) (rangeD 0 ds.length) [some (.dat d), some (.dat d), none] E := by
  unfold rangeD
  rw [List.range_eq_range']
  exact same_loop hd hi hp hE ds.length 0 none (by omega)
theorem dEq_bl (a b : Bool) : dEq (.bl a) (.bl b) = some (.bl (a == b)) := by cases a <;> cases b <;> rfl
theorem dNe_bl (a b : Bool) : dNe (.bl a) (.bl b) = some (.bl (a != b)) := by cases a <;> cases b <;> rfl
theorem dEq_non : dEq .non .non = some (.bl true) := rfl
theorem dEq_str {s : Str} (h : PyData.strOk s = true) : dEq (.str s) (.str s) = some (.bl true) := by
  have e : Da.ok 60 (.str s) = true := h
  have e2 : Da.eqv (.str s) (.str s) = true := by
    show (s == s) = true
    simp
  unfold dEq
  rw [if_pos ⟨e, e⟩, e2]
theorem k__law_same (n : Nat) : Keeps 2 N__law_same.length (F_same (n + 1)) (S__law_same (F_same n)) := by
  rintro ds k x hl ⟨d, rfl, hd, h⟩
  show (S__law_same (F_same n)).wp [some (.dat d), some (.dat d), none] _
  cases d with
  | non => simpa [S__law_same, sSeq, sIf, sRet, eOp2, eOp1, eOpN, eCons, eNil, eTup, eFrz, eIdx, bV, bT, bNot, bAnd, bOr, eAnd, eOr, eNot, eIf, asB, truth, dAbs, dLt, dLe, dGt, dGe, dSub, dI2, eVar, eC, look, eIsi, tyD, isiS, dIsN, Da.isNon, dEq_bl, dNe_bl, dEq_non, sPass, flFn] using h
  | bl b => simpa [S__law_same, sSeq, sIf, sRet, eOp2, eOp1, eOpN, eCons, eNil, eTup, eFrz, eIdx, bV, bT, bNot, bAnd, bOr, eAnd, eOr, eNot, eIf, asB, truth, dAbs, dLt, dLe, dGt, dGe, dSub, dI2, eVar, eC, look, eIsi, tyD, isiS, dIsN, Da.isNon, dEq_bl, dNe_bl, dEq_non, sPass, flFn] using h
  | int i => simpa [S__law_same, sSeq, sIf, sRet, eOp2, eOp1, eOpN, eCons, eNil, eTup, eFrz, eIdx, bV, bT, bNot, bAnd, bOr, eAnd, eOr, eNot, eIf, asB, truth, dAbs, dLt, dLe, dGt, dGe, dSub, dI2, eVar, eC, look, eIsi, tyD, isiS, dIsN, Da.isNon, dEq_bl, dNe_bl, dEq_non, sPass, flFn] using h
  | str s =>
    have hs : PyData.strOk s = true := by cases n <;> exact hd
    simpa [S__law_same, sSeq, sIf, sRet, eOp2, eOp1, eOpN, eCons, eNil, eTup, eFrz, eIdx, bV, bT, bNot, bAnd, bOr, eAnd, eOr, eNot, eIf, asB, truth, dAbs, dLt, dLe, dGt, dGe, dSub, dI2, eVar, eC, look, eIsi, tyD, isiS, dIsN, Da.isNon, dEq_bl, dNe_bl, dEq_non, dEq_str hs, sPass, flFn] using h
  | tup es =>
    cases n with
    | zero => exact hd.elim
    | succ n =>
      obtain ⟨h1, h2⟩ := hd
      simp [S__law_same, sSeq, sIf, sRet, eOp2, eOp1, eOpN, eCons, eNil, eTup, eFrz, eIdx, bV, bT, bNot, bAnd, bOr, eAnd, eOr, eNot, eIf, asB, truth, dAbs, dLt, dLe, dGt, dGe, dSub, dI2, eVar, eC, look, eIsi, tyD, isiS, dNe_bl, sPass, dLen, sFor, iRange1]
      exact ⟨by omega, same_loop0 (d := .tup es) rfl (fun i => rfl) h2 (fun ρ => h)⟩
  | lst es =>
    cases n with
    | zero => exact hd.elim
    | succ n =>
      obtain ⟨h1, h2⟩ := hd
      simp [S__law_same, sSeq, sIf, sRet, eOp2, eOp1, eOpN, eCons, eNil, eTup, eFrz, eIdx, bV, bT, bNot, bAnd, bOr, eAnd, eOr, eNot, eIf, asB, truth, dAbs, dLt, dLe, dGt, dGe, dSub, dI2, eVar, eC, look, eIsi, tyD, isiS, dNe_bl, sPass, dLen, sFor, iRange1]
      exact ⟨by omega, same_loop0 (d := .lst es) rfl (fun i => rfl) h2 (fun ρ => h)⟩
  | obj c ns es => cases n <;> exact hd.elim
  | scr ns => cases n <;> exact hd.elim
theorem draw_of {i : Nat} {n : Int} {ρ : En} {k : Da → En → Prop} {x : Ex → En → Prop} (hp : ρ[i]? = some (some .pool)) (h1 : 1 ≤ n) (h2 : n < 1073741824) (h : ∀ r : Int, 0 ≤ r → r < n → k (.int r) ρ) :
    (eCallP i F__law_draw 1 (eCons (eC (.int n)) (eNil))).wp ρ k x := ⟨hp, ⟨rfl, hp⟩, n, rfl, h1, h2, h⟩
theorem pick2 {a b : Da} {r : Int} (h1 : 0 ≤ r) (h2 : r < 2) : dIdx (.tup [a, b]) (.int r) = some (if r = 0 then a else b) := by
  have : r = 0 ∨ r = 1 := by omega
  rcases this with rfl | rfl <;> rfl
theorem pick3 {a b c : Da} {r : Int} (h1 : 0 ≤ r) (h2 : r < 3) : dIdx (.tup [a, b, c]) (.int r) = some (if r = 0 then a else if r = 1 then b else c) := by
  have : r = 0 ∨ r = 1 ∨ r = 2 := by omega
  rcases this with rfl | rfl | rfl <;> rfl
theorem dis_snoc (ls : List Int) (y : Int) : dis ls ++ [.int y] = dis (ls ++ [y]) := by simp [dis]
/-! ### problems as data -/
abbrev Cw := List Int × Int
def cl (c : List Int) : Da := .tup (dis c)
def sfD (p : Cw) : Da := .tup [cl p.1, .int p.2]
def hardD (hs : List (List Int)) : Da := .tup (hs.map cl)
def softD (ss : List Cw) : Da := .tup (ss.map sfD)
def fldsP : List Str := [(PySem.Str.ofString "count"), (PySem.Str.ofString "hard"), (PySem.Str.ofString "soft")]
def PbD (C : Addr) (n : Int) (hs : List (List Int)) (ss : List Cw) : Da := .obj C fldsP [.int n, hardD hs, softD ss]
section
variable {C : Addr} {n : Int} {hs : List (List Int)} {ss : List Cw}
theorem fld_count : (PbD C n hs ss).fld C (PySem.Str.ofString "count") = some (.int n) := by
  show (if C = C then _ else _) = _
  rw [if_pos rfl]
  rfl
theorem fld_hard : (PbD C n hs ss).fld C (PySem.Str.ofString "hard") = some (hardD hs) := by
  show (if C = C then _ else _) = _
  rw [if_pos rfl]
  rfl
theorem fld_soft : (PbD C n hs ss).fld C (PySem.Str.ofString "soft") = some (softD ss) := by
  show (if C = C then _ else _) = _
  rw [if_pos rfl]
  rfl
theorem noFldP {m : Str} (h : fldsP.contains m = false) : (PbD C n hs ss).noFld C m = true := by
  show (decide (C = C) && !(fldsP.contains m)) = true
  rw [h]
  simp
theorem isObjP : (PbD C n hs ss).isObj C = true := decide_eq_true rfl
end
theorem len_tup (vs : List Int) : dLen [.tup (dis vs)] = some (.int vs.length) := by simp [dLen, dis]
/-- a soft clause -/
noncomputable def isS (p : Cw) (n : Int) : Bool := isCb p.1 n && decide (1 ≤ p.2 ∧ p.2 ≤ 1000000000)
def F_is_soft : Fn := ⟨fun ds k _ => ∃ (p : Cw) (n : Int), ds = [sfD p, .int n] ∧ k (.bl (isS p n)), fun hk _ ⟨p, n, e, h⟩ => ⟨p, n, e, hk _ h⟩⟩
theorem k_is_soft : Keeps 2 N_is_soft.length F_is_soft (S_is_soft F_is_clause) := by
  rintro ds k x hl ⟨⟨c, w⟩, n, rfl, h⟩
  show (S_is_soft F_is_clause).wp [some (.dat (sfD (c, w))), some (.dat (.int n)), none, none] _
  unfold isS at h
  unfold S_is_soft
  walk_at "wg"
  refine ⟨_, rfl, ?_⟩
  walk_at "wg"
  refine ⟨rfl, c, _, n, rfl, .inr rfl, _, rfl, fun hc => ?_, fun hc => ?_⟩
  · rw [hc, Bool.true_and] at h
    walk_at "wg"
    refine ⟨_, rfl, _, rfl, fun h1 => ?_, fun h1 => ?_⟩
    · walk_at "wg"
      have h1 := of_decide_eq_true h1
      have e : k (.bl (decide (w ≤ 1000000000))) := by simpa [h1] using h
      exact ⟨_, rfl, e⟩
    · have h1 := of_decide_eq_false h1
      have e : k (.bl false) := by simpa [h1] using h
      exact e
  · rw [hc, Bool.false_and] at h
    exact h
/-! ### making a problem -/
abbrev eCount : Ex := ⟨(PySem.Str.ofString "BadProblem"), (PySem.Str.ofString "what"), .str (PySem.Str.ofString "count")⟩
abbrev eHard : Ex := ⟨(PySem.Str.ofString "BadProblem"), (PySem.Str.ofString "what"), .str (PySem.Str.ofString "hard")⟩
abbrev eSoft : Ex := ⟨(PySem.Str.ofString "BadProblem"), (PySem.Str.ofString "what"), .str (PySem.Str.ofString "soft")⟩
def cOk (n : Int) : Prop := 0 ≤ n ∧ n ≤ 300
def hOk (n : Int) (hs : List (List Int)) : Prop := hs.length ≤ 3000 ∧ (hs.all fun c => isCb c n) = true
def sOk (n : Int) (ss : List Cw) : Prop := ss.length ≤ 300 ∧ (ss.all fun p => isS p n) = true
/-- a pair of a clause and a weight, in some form -/
def softE (p : Cw) (d : Da) : Prop := ∃ e, seqD p.1 e ∧ (d = .tup [e, .int p.2] ∨ d = .lst [e, .int p.2])
def Many {α : Type} (f : α → Da) (xs : List α) (d : Da) : Prop := d = .lst (xs.map f) ∨ d = .tup (xs.map f)
theorem many_items {α : Type} {f : α → Da} {xs : List α} {d : Da} (h : Many f xs d) : itemsOf d = some (xs.map f) := by rcases h with rfl | rfl <;> rfl
theorem tup_seq {c : List Int} {d : Da} (h : seqD c d) : dTuple [d] = some (cl c) := by rcases h with rfl | rfl <;> rfl
structure InitP (n : Int) (hs : List (List Int)) (ss : List Cw) (dh dg : Da) : Prop where
  hh : ∃ f, Many f hs dh ∧ ∀ c ∈ hs, seqD c (f c)
  gg : ∃ g, Many g ss dg ∧ ∀ p ∈ ss, softE p (g p)
def F_Problem___init__ (C : Addr) : Fn := ⟨fun ds k x => ∃ n hs ss dh dg, ds = [.int n, dh, dg] ∧ InitP n hs ss dh dg ∧ (¬ cOk n → x eCount) ∧ (cOk n → ¬ hOk n hs → x eHard) ∧ (cOk n → hOk n hs → ¬ sOk n ss → x eSoft) ∧ (cOk n → hOk n hs → sOk n ss → k (PbD C n hs ss)),
  fun hk hx ⟨n, hs, ss, dh, dg, e, i, h1, h2, h3, h4⟩ => ⟨n, hs, ss, dh, dg, e, i, fun a => hx _ (h1 a), fun a b => hx _ (h2 a b), fun a b c => hx _ (h3 a b c), fun a b c => hk _ (h4 a b c)⟩⟩
theorem ne_ch : (PySem.Str.ofString "count") ≠ (PySem.Str.ofString "hard") := by decide +kernel
theorem ne_cs : (PySem.Str.ofString "count") ≠ (PySem.Str.ofString "soft") := by decide +kernel
theorem ne_hs : (PySem.Str.ofString "hard") ≠ (PySem.Str.ofString "soft") := by decide +kernel
theorem put1 (d : Da) : putD (PySem.Str.ofString "count") d [] = [((PySem.Str.ofString "count"), d)] := rfl
theorem put2 (a d : Da) : putD (PySem.Str.ofString "hard") d [((PySem.Str.ofString "count"), a)] = [((PySem.Str.ofString "count"), a), ((PySem.Str.ofString "hard"), d)] := by
  unfold putD
  rw [if_neg ne_ch]
  rfl
theorem put3 (a b d : Da) : putD (PySem.Str.ofString "soft") d [((PySem.Str.ofString "count"), a), ((PySem.Str.ofString "hard"), b)] = [((PySem.Str.ofString "count"), a), ((PySem.Str.ofString "hard"), b), ((PySem.Str.ofString "soft"), d)] := by
  unfold putD
  rw [if_neg ne_cs]
  unfold putD
  rw [if_neg ne_hs]
  rfl
theorem getH (a b d : Da) : List.lookup (PySem.Str.ofString "hard") [((PySem.Str.ofString "count"), a), ((PySem.Str.ofString "hard"), b), ((PySem.Str.ofString "soft"), d)] = some b := by
  have e1 : ((PySem.Str.ofString "hard") == (PySem.Str.ofString "count")) = false := by decide +kernel
  have e2 : ((PySem.Str.ofString "hard") == (PySem.Str.ofString "hard")) = true := by decide +kernel
  simp only [List.lookup, e1, e2]
theorem getS (a b d : Da) : List.lookup (PySem.Str.ofString "soft") [((PySem.Str.ofString "count"), a), ((PySem.Str.ofString "hard"), b), ((PySem.Str.ofString "soft"), d)] = some d := by
  have e1 : ((PySem.Str.ofString "soft") == (PySem.Str.ofString "count")) = false := by decide +kernel
  have e2 : ((PySem.Str.ofString "soft") == (PySem.Str.ofString "hard")) = false := by decide +kernel
  have e3 : ((PySem.Str.ofString "soft") == (PySem.Str.ofString "soft")) = true := by decide +kernel
  simp only [List.lookup, e1, e2, e3]
theorem count_len : (PySem.Str.ofString "count").length ≤ 1000 := by decide +kernel
theorem hard_len : (PySem.Str.ofString "hard").length ≤ 1000 := by decide +kernel
theorem soft_len : (PySem.Str.ofString "soft").length ≤ 1000 := by decide +kernel
abbrev meS (C : Addr) (n : Int) (hs : List (List Int)) (ss : List Cw) (dh dg : Da) : En := [some (.me C [((PySem.Str.ofString "count"), .int n), ((PySem.Str.ofString "hard"), hardD hs), ((PySem.Str.ofString "soft"), softD ss)]), some (.dat (.int n)), some (.dat dh), some (.dat dg), none, none, none]
theorem len_many {α : Type} (f : α → Da) (xs : List α) : dLen [.tup (xs.map f)] = some (.int xs.length) := by simp [dLen]
theorem k_Problem___init__ (C : Addr) : KeepsI 3 N_Problem___init__.length C (F_Problem___init__ C) (S_Problem___init__ C F_is_clause F_is_soft) := by
  rintro ds k x hl ⟨n, hs, ss, dh, dg, rfl, ⟨⟨f, hf, hf2⟩, ⟨g, hg, hg2⟩⟩, h1, h2, h3, h4⟩
  show (S_Problem___init__ C F_is_clause F_is_soft).wp [some (.me C []), some (.dat (.int n)), some (.dat dh), some (.dat dg), none, none, none] _
  unfold S_Problem___init__
  walk_at "wg"
  refine ⟨[], rfl, by decide, ?_⟩
  rw [put1]
  walk_at "wg"
  refine ⟨_, many_items hf, rfl, lcW_all f cl hs [] (fun c hc => ⟨_, rfl, fun K hK => ?_⟩) ?_⟩
  · walk_at "wg"
    exact ⟨_, tup_seq (hf2 c hc), hK⟩
  refine ⟨hardD hs, rfl, _, rfl, show (1 : Nat) < 1000 by decide, ?_⟩
  rw [put2]
  walk_at "wg"
  refine ⟨_, many_items hg, rfl, lcW_all g sfD ss [] (fun p hp => ?_) ?_⟩
  · obtain ⟨e, he, hd⟩ := hg2 p hp
    rcases hd with hd | hd
    · rw [hd]
      refine ⟨_, rfl, fun K hK => ?_⟩
      walk_at "wg"
      refine ⟨_, tup_seq he, ?_⟩
      walk_at "wg"
      exact ⟨show (2 : Nat) ≤ 1000 by decide, hK⟩
    · rw [hd]
      refine ⟨_, rfl, fun K hK => ?_⟩
      walk_at "wg"
      refine ⟨_, tup_seq he, ?_⟩
      walk_at "wg"
      exact ⟨show (2 : Nat) ≤ 1000 by decide, hK⟩
  refine ⟨softD ss, rfl, _, rfl, show (2 : Nat) < 1000 by decide, ?_⟩
  rw [put3]
  show Sx.wp _ (meS C n hs ss dh dg) _
  walk_at "wg"
  -- the count
  have rest : cOk n → Sx.wp (sSeq (sIf (bOr (bV (eOp2 dGt (eOpN dLen (eCons (eMe C (PySem.Str.ofString "hard") 0) (eNil))) (eC (.int 3000)))) (bNot (bT (eOpN dAll (eCons (eFrz (eLC [4] (iSeq (eMe C (PySem.Str.ofString "hard") 0)) (.name 4) bYes (eCall F_is_clause 2 (eCons (eVar 4) (eCons (eVar 1) (eNil)))))) (eNil)))))) (sRaise (PySem.Str.ofString "BadProblem") (PySem.Str.ofString "what") (eC (.str (PySem.Str.ofString "hard")))) (sPass)) (sIf (bOr (bV (eOp2 dGt (eOpN dLen (eCons (eMe C (PySem.Str.ofString "soft") 0) (eNil))) (eC (.int 300)))) (bNot (bT (eOpN dAll (eCons (eFrz (eLC [6] (iSeq (eMe C (PySem.Str.ofString "soft") 0)) (.name 6) bYes (eCall F_is_soft 2 (eCons (eVar 6) (eCons (eVar 1) (eNil)))))) (eNil)))))) (sRaise (PySem.Str.ofString "BadProblem") (PySem.Str.ofString "what") (eC (.str (PySem.Str.ofString "soft")))) (sPass))) (meS C n hs ss dh dg) (flI C k x) := by
    intro hc
    have rest2 : hOk n hs → Sx.wp (sIf (bOr (bV (eOp2 dGt (eOpN dLen (eCons (eMe C (PySem.Str.ofString "soft") 0) (eNil))) (eC (.int 300)))) (bNot (bT (eOpN dAll (eCons (eFrz (eLC [6] (iSeq (eMe C (PySem.Str.ofString "soft") 0)) (.name 6) bYes (eCall F_is_soft 2 (eCons (eVar 6) (eCons (eVar 1) (eNil)))))) (eNil)))))) (sRaise (PySem.Str.ofString "BadProblem") (PySem.Str.ofString "what") (eC (.str (PySem.Str.ofString "soft")))) (sPass)) (meS C n hs ss dh dg) (flI C k x) := by
      intro hh
      have fin : sOk n ss → sPass.wp (meS C n hs ss dh dg) (flI C k x) := fun hs' => ⟨_, rfl, h4 hc hh hs'⟩
      have bad : ¬ sOk n ss → (sRaise (PySem.Str.ofString "BadProblem") (PySem.Str.ofString "what") (eC (.str (PySem.Str.ofString "soft")))).wp (meS C n hs ss dh dg) (flI C k x) := fun hs' => ⟨soft_len, ⟨_, rfl⟩, h3 hc hh hs'⟩
      refine v_if ?_
      walk_at "wg"
      refine ⟨_, rfl, rfl, _, getS _ _ _, ?_⟩
      walk_at "wg"
      refine ⟨_, len_many sfD ss, ?_⟩
      walk_at "wg"
      refine ⟨_, rfl, _, rfl, fun z => ⟨fun _ => bad fun q => ?_, fun z => Bool.noConfusion z⟩, fun z => ?_⟩
      · have z := of_decide_eq_true z
        have := q.1
        omega
      · have z := of_decide_eq_false z
        walk_at "wg"
        refine ⟨_, rfl, rfl, _, getS _ _ _, ?_⟩
        refine ⟨_, rfl, rfl, lcW_all sfD (fun p => .bl (isS p n)) ss [] (fun p hp => ⟨_, rfl, fun K hK => ?_⟩) ?_⟩
        · walk_at "wg"
          exact ⟨rfl, p, n, rfl, hK⟩
        · refine ⟨_, dAll_map _ ss, _, rfl, fun q => bad fun q' => ?_, fun q => fin ⟨by omega, ?_⟩⟩
          · rw [q'.2] at q
            exact Bool.noConfusion q
          · rwa [Bool.not_eq_false'] at q
    have bad : ¬ hOk n hs → (sRaise (PySem.Str.ofString "BadProblem") (PySem.Str.ofString "what") (eC (.str (PySem.Str.ofString "hard")))).wp (meS C n hs ss dh dg) { (flI C k x) with nx := fun ρ' => Sx.wp (sIf (bOr (bV (eOp2 dGt (eOpN dLen (eCons (eMe C (PySem.Str.ofString "soft") 0) (eNil))) (eC (.int 300)))) (bNot (bT (eOpN dAll (eCons (eFrz (eLC [6] (iSeq (eMe C (PySem.Str.ofString "soft") 0)) (.name 6) bYes (eCall F_is_soft 2 (eCons (eVar 6) (eCons (eVar 1) (eNil)))))) (eNil)))))) (sRaise (PySem.Str.ofString "BadProblem") (PySem.Str.ofString "what") (eC (.str (PySem.Str.ofString "soft")))) (sPass)) ρ' (flI C k x) } := fun hs' => ⟨hard_len, ⟨_, rfl⟩, h2 hc hs'⟩
    refine v_seq (v_if ?_)
    walk_at "wg"
    refine ⟨_, rfl, rfl, _, getH _ _ _, ?_⟩
    walk_at "wg"
    refine ⟨_, len_many cl hs, ?_⟩
    walk_at "wg"
    refine ⟨_, rfl, _, rfl, fun z => ⟨fun _ => bad fun q => ?_, fun z => Bool.noConfusion z⟩, fun z => ?_⟩
    · have z := of_decide_eq_true z
      have := q.1
      omega
    · have z := of_decide_eq_false z
      walk_at "wg"
      refine ⟨_, rfl, rfl, _, getH _ _ _, ?_⟩
      refine ⟨_, rfl, rfl, lcW_all cl (fun c => .bl (isCb c n)) hs [] (fun c hc => ⟨_, rfl, fun K hK => ?_⟩) ?_⟩
      · walk_at "wg"
        exact ⟨rfl, c, _, n, rfl, .inr rfl, hK⟩
      · refine ⟨_, dAll_map _ hs, _, rfl, fun q => bad fun q' => ?_, fun q => rest2 ⟨by omega, ?_⟩⟩
        · rw [q'.2] at q
          exact Bool.noConfusion q
        · rwa [Bool.not_eq_false'] at q
  refine ⟨_, rfl, _, rfl, fun z => ?_, fun z => ?_⟩
  · walk_at "wg"
    refine ⟨_, rfl, _, rfl, fun q => ?_, fun q => rest ⟨of_decide_eq_true z, ?_⟩⟩
    · exact ⟨count_len, ⟨_, rfl⟩, h1 fun c => by simp [c.2] at q⟩
    · simpa using q
  · exact ⟨_, rfl, fun _ => ⟨count_len, ⟨_, rfl⟩, h1 fun c => by simp [c.1] at z⟩, fun z => Bool.noConfusion z⟩
theorem idx_seq {ls : List Int} {d : Da} (h : seqD ls d) {j : Nat} (hj : j < ls.length) : dIdx d (.int ((j : Nat) : Int)) = some (.int (ls.getD j 0)) := by
  have e : atI (dis ls) ((j : Nat) : Int) = some (.int (ls.getD j 0)) := atI_at (by
    unfold dis
    rw [List.getElem?_map, List.getD_eq_getElem?_getD, List.getElem?_eq_getElem hj]
    rfl)
  rcases h with rfl | rfl <;> exact e
theorem draw_in {n : Int} {k : Da → Prop} (h1 : 1 ≤ n) (h2 : n < 1073741824) (h : ∀ r : Int, 0 ≤ r → r < n → k (.int r)) : F__law_draw.wp [.int n] k (fun _ => False) := ⟨n, rfl, h1, h2, h⟩
/-! ### literals, problems -/
def F__law_literals : Fn := ⟨fun ds k _ => ∃ (n : Int) (m : Int), ds = [.int n, .int m] ∧ 0 ≤ n ∧ n ≤ 1000 ∧ 0 ≤ m ∧ m ≤ 1000 ∧ ∀ c : List Int, isC c n → (c.length : Int) ≤ m → k (cl c), fun hk _ ⟨n, m, e, h1, h2, h3, h4, h⟩ => ⟨n, m, e, h1, h2, h3, h4, fun c a b => hk _ (h c a b)⟩⟩
theorem lit_loop {n m : Int} {E : Fl} (hm : m ≤ 1000) : ∀ (q j : Nat) (ls : List Int) (s4 : Option Ce), 1 ≤ j → (ls.length : Int) ≤ m → ls.Pairwise lta → (∀ x ∈ ls, 1 ≤ iabs x ∧ iabs x < j) →
    (∀ ls' s4, (ls'.length : Int) ≤ m → ls'.Pairwise lta → (∀ x ∈ ls', 1 ≤ iabs x ∧ iabs x < ((j + q : Nat) : Int)) → E.nx [some .pool, some (.dat (.int n)), some (.dat (.int m)), some (.own (dis ls')), s4]) →
    forW (.name 4) (sIf (bAnd (bV (eOp2 dLt (eLenO 3) (eVar 2))) (bV (eOp2 dEq (eCallP 0 F__law_draw 1 (eCons (eC (.int 3)) (eNil))) (eC (.int 0))))) (sAppend 3 (eIdx (eTup (eCons (eVar 4) (eCons (eOp2 dSub (eC (.int 0)) (eVar 4)) (eNil)))) (eCallP 0 F__law_draw 1 (eCons (eC (.int 2)) (eNil))))) (sPass))
      ((List.range' j q).map fun i : Nat => Da.int ((i : Nat) : Int)) [some .pool, some (.dat (.int n)), some (.dat (.int m)), some (.own (dis ls)), s4] E
  | 0, j, ls, s4, _, hl, hp, hx, hE => hE ls s4 hl hp hx
  | q + 1, j, ls, s4, hj, hl, hp, hx, hE => by
    rw [List.range'_succ, List.map_cons]
    have hE' : ∀ ls' s4, (ls'.length : Int) ≤ m → ls'.Pairwise lta → (∀ x ∈ ls', 1 ≤ iabs x ∧ iabs x < (((j + 1) + q : Nat) : Int)) → E.nx [some .pool, some (.dat (.int n)), some (.dat (.int m)), some (.own (dis ls')), s4] := fun ls' s4 h1 h2 h3 =>
      hE ls' s4 h1 h2 fun x hx => by
        have := h3 x hx
        omega
    have skip : ∀ s4, forW (.name 4) _ ((List.range' (j + 1) q).map fun i : Nat => Da.int ((i : Nat) : Int)) [some .pool, some (.dat (.int n)), some (.dat (.int m)), some (.own (dis ls)), s4] E := fun s4 =>
      lit_loop hm q (j + 1) ls s4 (by omega) hl hp (fun x h => by have := hx x h; omega) hE'
    refine ⟨_, rfl, ?_⟩
    walk_at "wg"
    refine ⟨_, rfl, ?_⟩
    walk_at "wg"
    refine ⟨_, rfl, _, rfl, fun hlt => ?_, fun _ => ⟨fun z => Bool.noConfusion z, fun _ => skip _⟩⟩
    walk_at "wg"
    refine ⟨⟨rfl, rfl⟩, draw_in (by decide) (by decide) fun r h3 h4 => ?_⟩
    refine ⟨_, dEq_int r 0, _, rfl, fun z => ?_, fun _ => skip _⟩
    walk_at "wg"
    refine ⟨dis ls, rfl, ?_⟩
    walk_at "wg"
    refine ⟨_, rfl, show (2 : Nat) ≤ 1000 by decide, ?_⟩
    walk_at "wg"
    refine ⟨⟨rfl, rfl⟩, draw_in (by decide) (by decide) fun r h1 h2 => ?_⟩
    refine ⟨_, pick2 (a := .int ((j : Nat) : Int)) (b := .int (0 - ((j : Nat) : Int))) h1 h2, dis ls, rfl, by simp [dis]; omega, ?_⟩
    have e : (if r = 0 then Da.int ((j : Nat) : Int) else Da.int (0 - ((j : Nat) : Int))) = Da.int (if r = 0 then ((j : Nat) : Int) else 0 - ((j : Nat) : Int)) := by split <;> rfl
    rw [e, dis_snoc]
    have ez : iabs (if r = 0 then ((j : Nat) : Int) else 0 - ((j : Nat) : Int)) = j := by
      unfold iabs
      split <;> split <;> omega
    generalize (if r = 0 then ((j : Nat) : Int) else 0 - ((j : Nat) : Int)) = z at ez
    have hlt : (ls.length : Int) < m := by simpa [dis] using hlt
    refine lit_loop hm q (j + 1) (ls ++ [z]) (some (.dat (.int ((j : Nat) : Int)))) (by omega) (by simp; omega) ?_ (fun x h => ?_) hE'
    · rw [List.pairwise_append]
      refine ⟨hp, List.pairwise_singleton _ _, fun a ha b hb => ?_⟩
      rw [List.mem_singleton.mp hb]
      have := hx a ha
      unfold lta
      omega
    · rcases List.mem_append.mp h with h | h
      · have := hx x h
        omega
      · rw [List.mem_singleton.mp h]
        omega
theorem range_one (n : Int) (h : 0 ≤ n) : rangeD 1 (n + 1 - 1).toNat = (List.range' 1 n.toNat).map fun i : Nat => Da.int ((i : Nat) : Int) := by
  unfold rangeD
  rw [show n + 1 - 1 = n by omega, List.range_eq_range', List.range'_eq_map_range, List.range'_eq_map_range, List.map_map, List.map_map]
  refine List.map_congr_left fun i _ => ?_
  simp
theorem k__law_literals : KeepsP 2 N__law_literals.length F__law_literals (S__law_literals F__law_draw) := by
  rintro ds k hl ⟨n, m, rfl, h1, h2, h3, h4, h⟩
  show (S__law_literals F__law_draw).wp [some .pool, some (.dat (.int n)), some (.dat (.int m)), none, none] _
  unfold S__law_literals
  walk_at "wg"
  refine ⟨show (0 : Nat) ≤ 1000 by decide, ?_⟩
  walk_at "wg"
  refine ⟨_, rfl, ?_⟩
  walk_at "wg"
  refine ⟨_, rfl, _, rfl, ⟨⟨by decide, by decide⟩, by omega, by omega⟩, ?_⟩
  rw [range_one n h1]
  refine lit_loop h4 n.toNat 1 [] none (by decide) (by simpa using h3) List.Pairwise.nil (fun x h => by cases h) fun ls s4 a1 a2 a3 => ?_
  walk_at "wg"
  refine ⟨_, rfl, ?_⟩
  walk_at "wg"
  refine ⟨_, rfl, h ls ⟨fun x hx => ?_, a2⟩ a1⟩
  have := a3 x hx
  refine ⟨fun e => ?_, by omega⟩
  rw [e] at this
  have e0 : iabs 0 = 0 := rfl
  omega
/-! ### a drawn problem -/
def HardL (n : Int) (hs : List (List Int)) : Prop := hs.length ≤ 5 ∧ ∀ c ∈ hs, isC c n ∧ c.length ≤ 3
def SoftL (n : Int) (ss : List Cw) : Prop := ss.length ≤ 5 ∧ ∀ p ∈ ss, (isC p.1 n ∧ p.1.length ≤ 3) ∧ 1 ≤ p.2 ∧ p.2 ≤ 30
structure LawP (n : Int) (hs : List (List Int)) (ss : List Cw) : Prop where
  n1 : 1 ≤ n
  n6 : n ≤ 6
  h : HardL n hs
  s : SoftL n ss
def F__law_problem : Fn := ⟨fun ds k _ => ds = [.int 6, .int 4, .int 4, .int 30] ∧ ∀ n hs ss, LawP n hs ss → k (.tup [.int n, hardD hs, softD ss]), fun hk _ ⟨e, h⟩ => ⟨e, fun n hs ss g => hk _ (h n hs ss g)⟩⟩
abbrev prE (n : Int) (h6 s9 : Option Ce) : En := [some .pool, some (.dat (.int 6)), some (.dat (.int 4)), some (.dat (.int 4)), some (.dat (.int 30)), some (.dat (.int n)), h6, none, none, s9]
theorem lits_in {n : Int} {k : Da → Prop} (h0 : 0 ≤ n) (h1 : n ≤ 1000) (h : ∀ c : List Int, isC c n → c.length ≤ 3 → k (cl c)) : F__law_literals.wp [.int n, .int 3] k (fun _ => False) := ⟨n, 3, rfl, h0, h1, by decide, by decide, fun c a b => h c a (by omega)⟩
theorem hard_lc {n : Int} {h6 s9 : Option Ce} (h0 : 0 ≤ n) (h1 : n ≤ 1000) {k : List Da → Prop} : ∀ (ds : List Da) (acc : List (List Int)), (∀ c ∈ acc, isC c n ∧ c.length ≤ 3) → (∀ hs : List (List Int), hs.length = acc.length + ds.length → (∀ c ∈ hs, isC c n ∧ c.length ≤ 3) → k (hs.map cl)) →
    lcW (.name 7) bYes (eCallP 0 F__law_literals 2 (eCons (eVar 5) (eCons (eC (.int 3)) (eNil)))) ds (acc.map cl) (prE n h6 s9) k
  | [], acc, ha, h => h acc rfl ha
  | d :: ds, acc, ha, h => by
    refine ⟨_, rfl, rfl, ?_⟩
    rw [if_pos rfl]
    walk_at "wg"
    refine ⟨⟨rfl, rfl⟩, lits_in h0 h1 fun c hc hl => ⟨rfl, ?_⟩⟩
    have e : acc.map cl ++ [cl c] = (acc ++ [c]).map cl := by simp
    rw [e]
    refine hard_lc h0 h1 ds (acc ++ [c]) (fun x hx => ?_) fun hs l => h hs (by rw [l]; simp; omega)
    rcases List.mem_append.mp hx with hx | hx
    · exact ha x hx
    · rw [List.mem_singleton.mp hx]
      exact ⟨hc, hl⟩
theorem soft_lc {n : Int} {h6 s9 : Option Ce} (h0 : 0 ≤ n) (h1 : n ≤ 1000) {k : List Da → Prop} : ∀ (ds : List Da) (acc : List Cw), (∀ p ∈ acc, (isC p.1 n ∧ p.1.length ≤ 3) ∧ 1 ≤ p.2 ∧ p.2 ≤ 30) → (∀ ss : List Cw, ss.length = acc.length + ds.length → (∀ p ∈ ss, (isC p.1 n ∧ p.1.length ≤ 3) ∧ 1 ≤ p.2 ∧ p.2 ≤ 30) → k (ss.map sfD)) →
    lcW (.name 7) bYes (eTup (eCons (eCallP 0 F__law_literals 2 (eCons (eVar 5) (eCons (eC (.int 3)) (eNil)))) (eCons (eOp2 dAdd (eC (.int 1)) (eCallP 0 F__law_draw 1 (eCons (eVar 4) (eNil)))) (eNil)))) ds (acc.map sfD) (prE n h6 s9) k
  | [], acc, ha, h => h acc rfl ha
  | d :: ds, acc, ha, h => by
    refine ⟨_, rfl, rfl, ?_⟩
    rw [if_pos rfl]
    walk_at "wg"
    refine ⟨⟨rfl, rfl⟩, lits_in h0 h1 fun c hc hl => ?_⟩
    walk_at "wg"
    refine ⟨⟨rfl, rfl⟩, draw_in (by decide) (by decide) fun r r1 r2 => ⟨_, rfl, ?_⟩⟩
    walk_at "wg"
    refine ⟨show (2 : Nat) ≤ 1000 by decide, rfl, ?_⟩
    have e : acc.map sfD ++ [.tup [cl c, .int (1 + r)]] = (acc ++ [(c, 1 + r)]).map sfD := by simp [sfD]
    rw [e]
    refine soft_lc h0 h1 ds (acc ++ [(c, 1 + r)]) (fun x hx => ?_) fun hs l => h hs (by rw [l]; simp; omega)
    rcases List.mem_append.mp hx with hx | hx
    · exact ha x hx
    · rw [List.mem_singleton.mp hx]
      exact ⟨⟨hc, hl⟩, show 1 ≤ 1 + r by omega, show 1 + r ≤ 30 by omega⟩
theorem eqvs_map {α : Type} [DecidableEq α] {f : α → Da} (hf : ∀ x y, (f x).eqv (f y) = decide (x = y)) : ∀ xs ys : List α, Da.eqvs (xs.map f) (ys.map f) = decide (xs = ys)
  | [], [] => rfl
  | [], y :: ys => rfl
  | x :: xs, [] => rfl
  | x :: xs, y :: ys => by
    show (Da.eqv (f x) (f y) && Da.eqvs (xs.map f) (ys.map f)) = _
    rw [hf, eqvs_map hf xs ys, Bool.eq_iff_iff]
    simp
theorem eqv_int (x y : Int) : (Da.int x).eqv (.int y) = decide (x = y) := by
  show (x == y) = _
  rw [Bool.eq_iff_iff]
  simp
theorem eqv_cl (x y : List Int) : (cl x).eqv (cl y) = decide (x = y) := eqvs_map eqv_int x y
theorem eqv_sf (x y : Cw) : (sfD x).eqv (sfD y) = decide (x = y) := by
  show ((cl x.1).eqv (cl y.1) && ((Da.int x.2).eqv (.int y.2) && true)) = _
  rw [eqv_cl, eqv_int, Bool.eq_iff_iff]
  simp [Prod.ext_iff]
theorem all_ok {α : Type} {f : α → Da} {n : Nat} (h : ∀ x, (f x).ok n = true) (xs : List α) : (xs.map f).all (Da.ok n) = true := by
  rw [List.all_map, List.all_eq_true]
  exact fun x _ => h x
theorem ok_int (n : Nat) (x : Int) : (Da.int x).ok n = true := by cases n <;> rfl
theorem ok_cl (n : Nat) (c : List Int) : (cl c).ok (n + 1) = true := all_ok (ok_int n) c
theorem ok_sf (n : Nat) (p : Cw) : (sfD p).ok (n + 2) = true := by
  show ((cl p.1).ok (n + 1) && ((Da.int p.2).ok (n + 1) && true)) = true
  rw [ok_cl, ok_int]
  rfl
theorem ok_hard (n : Nat) (hs : List (List Int)) : (hardD hs).ok (n + 2) = true := all_ok (ok_cl n) hs
theorem ok_soft (n : Nat) (ss : List Cw) : (softD ss).ok (n + 3) = true := all_ok (ok_sf n) ss
theorem dNe_cl (c : List Int) : dNe (cl c) (.tup []) = some (.bl (!c.isEmpty)) := by
  have e : (cl c).eqv (.tup []) = c.isEmpty := by cases c <;> rfl
  unfold dNe
  rw [if_pos ⟨ok_cl 59 c, rfl⟩, e]
theorem rangeD_len (a : Int) (n : Nat) : (rangeD a n).length = n := by simp [rangeD]
theorem k__law_problem : KeepsP 4 N__law_problem.length F__law_problem (S__law_problem F__law_draw F__law_literals) := by
  rintro ds k hl ⟨rfl, h⟩
  show (S__law_problem F__law_draw F__law_literals).wp [some .pool, some (.dat (.int 6)), some (.dat (.int 4)), some (.dat (.int 4)), some (.dat (.int 30)), none, none, none, none, none] _
  unfold S__law_problem
  walk_at "wg"
  refine ⟨⟨rfl, rfl⟩, draw_in (by decide) (by decide) fun q q1 q2 => ⟨_, rfl, ?_⟩⟩
  walk_at "wg"
  generalize hn : 1 + q = n
  have n1 : 1 ≤ n := by omega
  have n6 : n ≤ 6 := by omega
  refine ⟨_, rfl, ?_⟩
  walk_at "wg"
  refine ⟨⟨rfl, rfl⟩, draw_in (by decide) (by decide) fun r r1 r2 => ⟨_, rfl, ⟨by omega, by omega⟩, rfl, hard_lc (n := n) (h6 := none) (s9 := none) (by omega) (by omega) _ [] (fun _ h => by cases h) fun hs l hh => ?_⟩⟩
  rw [rangeD_len] at l
  have l5 : hs.length ≤ 5 := by
    simp at l
    omega
  show Sx.wp _ (prE n (some (.dat (.lst (hs.map cl)))) none) _
  have rest : ∀ hs : List (List Int), HardL n hs → Sx.wp (sSeq (sSet 9 (eFrz (eLC [7] (iRange1 (eCallP 0 F__law_draw 1 (eCons (eOp2 dAdd (eVar 3) (eC (.int 1))) (eNil)))) (.name 7) bYes (eTup (eCons (eCallP 0 F__law_literals 2 (eCons (eVar 5) (eCons (eC (.int 3)) (eNil)))) (eCons (eOp2 dAdd (eC (.int 1)) (eCallP 0 F__law_draw 1 (eCons (eVar 4) (eNil)))) (eNil))))))) (sRet (eTup (eCons (eVar 5) (eCons (eOpN dTuple (eCons (eVar 6) (eNil))) (eCons (eOpN dTuple (eCons (eVar 9) (eNil))) (eNil))))))) (prE n (some (.dat (.lst (hs.map cl)))) none) (flFn k fun _ => False) := by
    intro hs hh
    walk_at "wg"
    refine ⟨_, rfl, ?_⟩
    walk_at "wg"
    refine ⟨⟨rfl, rfl⟩, draw_in (by decide) (by decide) fun r r1 r2 => ⟨_, rfl, ⟨by omega, by omega⟩, rfl, soft_lc (n := n) (h6 := some (.dat (.lst (hs.map cl)))) (s9 := none) (by omega) (by omega) _ [] (fun _ h => by cases h) fun ss l hs2 => ?_⟩⟩
    rw [rangeD_len] at l
    walk_at "wg"
    refine ⟨_, rfl, ?_⟩
    walk_at "wg"
    refine ⟨_, rfl, show (3 : Nat) ≤ 1000 by decide, h n hs ss ⟨n1, n6, hh, ⟨?_, hs2⟩⟩⟩
    simp at l
    omega
  walk_at "wg"
  refine ⟨⟨rfl, rfl⟩, draw_in (by decide) (by decide) fun r r1 r2 => ⟨_, rfl, _, rfl, fun _ => ?_, fun _ => rest hs ⟨l5, hh⟩⟩⟩
  walk_at "wg"
  refine ⟨_, rfl, rfl, lcW_of cl (fun c => !c.isEmpty) cl hs [] (fun c hc => ⟨_, rfl, fun K hK => ?_, fun _ K hK => ?_⟩) ?_⟩
  · walk_at "wg"
    exact ⟨show (0 : Nat) ≤ 1000 by decide, _, dNe_cl c, _, rfl, hK⟩
  · walk_at "wg"
    exact hK
  · exact rest (hs.filter fun c => !c.isEmpty) ⟨Nat.le_trans (List.length_filter_le ..) l5, fun c hc => hh c (List.mem_filter.mp hc).1⟩
theorem pl_mono : ∀ {n : Nat} {d : Da}, pl n d → pl (n + 1) d
  | 0, .non, _ => trivial
  | 0, .bl _, _ => trivial
  | 0, .int _, _ => trivial
  | 0, .str _, h => h
  | n + 1, .non, _ => trivial
  | n + 1, .bl _, _ => trivial
  | n + 1, .int _, _ => trivial
  | n + 1, .str _, h => h
  | n + 1, .tup ds, h => ⟨h.1, fun d hd => pl_mono (h.2 d hd)⟩
  | n + 1, .lst ds, h => ⟨h.1, fun d hd => pl_mono (h.2 d hd)⟩
theorem pl_int (n : Nat) (i : Int) : pl n (.int i) := by cases n <;> trivial
theorem pl_bl (n : Nat) (b : Bool) : pl n (.bl b) := by cases n <;> trivial
theorem pl_non (n : Nat) : pl n .non := by cases n <;> trivial
theorem pl_map {α : Type} {f : α → Da} {n : Nat} {xs : List α} (hl : xs.length ≤ 1000000) (h : ∀ x ∈ xs, pl n (f x)) : (xs.map f).length ≤ 1000000 ∧ ∀ d ∈ xs.map f, pl n d := ⟨by simpa using hl, fun d hd => by
  obtain ⟨x, hx, rfl⟩ := List.mem_map.mp hd
  exact h x hx⟩
theorem pl_cl (n : Nat) {c : List Int} (h : c.length ≤ 1000000) : pl (n + 1) (cl c) := pl_map h fun x _ => pl_int n x
theorem pl_hard (n : Nat) {hs : List (List Int)} (h : hs.length ≤ 1000000) (h2 : ∀ c ∈ hs, c.length ≤ 1000000) : pl (n + 2) (hardD hs) := pl_map h fun x hx => pl_cl n (h2 x hx)
theorem pl_tup {n : Nat} {ds : List Da} (h : ds.length ≤ 1000000) (h2 : ∀ d ∈ ds, pl n d) : pl (n + 1) (.tup ds) := ⟨h, h2⟩
theorem pl_lst {n : Nat} {ds : List Da} (h : ds.length ≤ 1000000) (h2 : ∀ d ∈ ds, pl n d) : pl (n + 1) (.lst ds) := ⟨h, h2⟩
theorem all2 {P : Da → Prop} {a b : Da} (h1 : P a) (h2 : P b) : ∀ d ∈ [a, b], P d := fun d hd => by
  rcases List.mem_cons.mp hd with rfl | hd
  · exact h1
  · rw [List.mem_singleton.mp hd]; exact h2
theorem all3 {P : Da → Prop} {a b c : Da} (h1 : P a) (h2 : P b) (h3 : P c) : ∀ d ∈ [a, b, c], P d := fun d hd => by
  rcases List.mem_cons.mp hd with rfl | hd
  · exact h1
  · exact all2 h2 h3 d hd
theorem pl_sf (n : Nat) {p : Cw} (h : p.1.length ≤ 1000000) : pl (n + 2) (sfD p) := pl_tup (show (2 : Nat) ≤ 1000000 by decide) (all2 (pl_cl n h) (pl_int _ _))
theorem pl_soft (n : Nat) {ss : List Cw} (h : ss.length ≤ 1000000) (h2 : ∀ p ∈ ss, p.1.length ≤ 1000000) : pl (n + 3) (softD ss) := pl_map h fun x hx => pl_sf n (h2 x hx)
theorem nf_whole {C n hs ss} : (PbD C n hs ss).noFld C (PySem.Str.ofString "whole_price") = true := noFldP (by decide +kernel)
theorem dSum_map {α : Type} (f : α → Int) (xs : List α) : dSum [.lst (xs.map fun p => .int (f p))] = some (.int (xs.map f).sum) := by
  have e : ∀ xs : List α, intL (xs.map fun p => Da.int (f p)) = some (xs.map f) := fun xs => by
    induction xs with
    | nil => rfl
    | cons x xs ih => simp [intL, ih]
  simp [dSum, e]
def F_Problem_whole_price (C : Addr) : Fn := ⟨fun ds k _ => ∃ n hs, ∃ ss : List Cw, ds = [PbD C n hs ss] ∧ k (.int (ss.map fun p : Cw => p.2).sum), fun hk _ ⟨n, hs, ss, e, h⟩ => ⟨n, hs, ss, e, hk _ h⟩⟩
theorem k_Problem_whole_price (C : Addr) : Keeps 1 N_Problem_whole_price.length (F_Problem_whole_price C) (S_Problem_whole_price C) := by
  rintro ds k x hl ⟨n, hs, ss, rfl, h⟩
  show (S_Problem_whole_price C).wp [some (.dat (PbD C n hs ss)), none, none] _
  unfold S_Problem_whole_price
  walk_at "wg"
  refine ⟨_, fld_soft, _, rfl, rfl, lcW_all sfD (fun p => .int p.2) ss [] (fun p hp => ⟨_, rfl, fun K hK => ?_⟩) ?_⟩
  · walk_at "wg"
    exact hK
  · exact ⟨_, dSum_map (fun p : Cw => p.2) ss, h⟩
end K03
end

section
set_option maxHeartbeats 4000000
namespace K03
open PySem PySem.Spec PyProof.Rows L2 Pu PySem.W Tx TL


/-! ### words -/
def WOk (w : Str) : Prop := Asc w ∧ w.length ≤ 900000
theorem WOk.ok {w : Str} (h : WOk w) : PyData.strOk w = true := h.1.ok
theorem str_beq (a b : Str) : (a == b) = decide (tl a = tl b) := by
  by_cases h : tl a = tl b
  · rw [decide_eq_true h, ext_tl h]
    simp
  · rw [decide_eq_false h, Bool.eq_false_iff]
    exact fun z => h (by rw [eq_of_beq z])
theorem dEq_s {s t : Str} (h : PyData.strOk s = true) (h' : PyData.strOk t = true) : dEq (.str s) (.str t) = some (.bl (decide (tl s = tl t))) := by
  have e : Da.ok 60 (.str s) = true := h
  have e2 : Da.ok 60 (.str t) = true := h'
  unfold dEq
  rw [if_pos ⟨e, e2⟩, ← str_beq]
  rfl
theorem dNe_s {s t : Str} (h : PyData.strOk s = true) (h' : PyData.strOk t = true) : dNe (.str s) (.str t) = some (.bl (!decide (tl s = tl t))) := by
  have e : Da.ok 60 (.str s) = true := h
  have e2 : Da.ok 60 (.str t) = true := h'
  unfold dNe
  rw [if_pos ⟨e, e2⟩, ← str_beq]
  rfl
theorem okMi : PyData.strOk miS = true := by decide +kernel
theorem okEm : PyData.strOk emS = true := by decide +kernel
theorem okZr : PyData.strOk zrS = true := by decide +kernel
theorem okDg : PyData.strOk dgS = true := by decide +kernel
theorem cut_tl (z : Str) (lo hi : Option Int) : tl (cutS z lo hi) = ((tl z).drop (HT.sIx z.length 0 lo)).take (HT.sIx z.length z.length hi - HT.sIx z.length 0 lo) := rfl
theorem cut_first (z : Str) : tl (cutS z none (some 1)) = (tl z).take 1 := by
  rw [cut_tl, HT.sIx_none, show HT.sIx z.length z.length (some 1) = min 1 z.length from HT.sIx_nat z.length z.length 1, List.drop_zero, Nat.sub_zero, len_tl]
  cases tl z <;> simp
theorem cut_rest (z : Str) : tl (cutS z (some 1) none) = (tl z).drop 1 := by
  rw [cut_tl, HT.sIx_none, show HT.sIx z.length 0 (some 1) = min 1 z.length from HT.sIx_nat z.length 0 1, len_tl]
  cases e : tl z with
  | nil => rfl
  | cons c r =>
    rw [show min 1 (c :: r).length = 1 by rw [List.length_cons]; omega]
    exact List.take_of_length_le (by simp)
theorem dSl_s {z : Str} (h : z.length ≤ 900000) (lo hi : Option Int) : dSl (.str z) lo hi = some (.str (cutS z lo hi)) := by
  show (if _ then _ else _) = _
  rw [if_pos (by rw [line_eq]; omega)]
def sgn (c : Nat) : Da := .str ⟨#[c]⟩
theorem items_str {z : Str} (h : z.length ≤ 900000) : itemsOf (.str z) = some ((tl z).map sgn) := by
  show (if _ then _ else _) = _
  rw [if_pos (by rw [line_eq]; omega)]
  rfl
theorem len_str {z : Str} (h : z.length ≤ 900000) : dLen [.str z] = some (.int (tl z).length) := by
  show (if _ then _ else _) = _
  rw [if_pos (by rw [line_eq]; omega), len_tl]
theorem idx_str {z : Str} {c : Nat} {r : List Nat} (h : z.length ≤ 900000) (e : tl z = c :: r) : dIdx (.str z) (.int 0) = some (sgn c) := by
  show (if _ then _ else _) = _
  rw [if_pos (by rw [line_eq]; omega)]
  show (atI (tl z) ((0 : Nat) : Int)).map _ = _
  rw [e, show atI (c :: r) ((0 : Nat) : Int) = some c from atI_nat rfl]
  rfl
def figS (w : Str) : Str := ⟨(figs w).toArray⟩
theorem tl_fig (w : Str) : tl (figS w) = figs w := rfl
theorem figs_sub (w : Str) : ∀ c ∈ figs w, c ∈ tl w := by
  rcases tl_cases w with ⟨r, e⟩ | e
  · rw [(figs_neg e).1, e]
    exact fun c hc => List.mem_cons_of_mem _ hc
  · rw [(figs_pos e).1]
    exact fun c hc => hc
theorem figs_len (w : Str) : (figs w).length ≤ (tl w).length := by
  rcases tl_cases w with ⟨r, e⟩ | e
  · rw [(figs_neg e).1, e]
    simp
  · rw [(figs_pos e).1]
    exact Nat.le_refl _
theorem fig_ok {w : Str} (h : WOk w) : WOk (figS w) := ⟨fun c hc => h.1 c (figs_sub w c hc), by
  rw [len_tl, tl_fig]
  have := figs_len w
  rw [← len_tl] at this
  have := h.2
  omega⟩
theorem cut1_ok {w : Str} (h : WOk w) : PyData.strOk (cutS w none (some 1)) = true := Asc.ok fun c hc => by
  rw [cut_first] at hc
  exact h.1 c (List.mem_of_mem_take hc)
/-- whether a word begins with the minus sign; the figures -/
theorem minus_eq (w : Str) : decide (tl (cutS w none (some 1)) = tl miS) = negW w := by
  rw [cut_first, tl_mi]
  rcases tl_cases w with ⟨r, e⟩ | e
  · rw [(figs_neg e).2, e]
    rfl
  · rw [(figs_pos e).2]
    refine decide_eq_false fun z => e ?_
    cases h : tl w with
    | nil => rw [h] at z; simp at z
    | cons c r =>
      rw [h] at z
      simpa using z
theorem fig_neg {w : Str} (h : negW w = true) : cutS w (some 1) none = figS w := ext_tl (by
  rw [cut_rest, tl_fig]
  rcases tl_cases w with ⟨r, e⟩ | e
  · rw [(figs_neg e).1, e]
    rfl
  · rw [(figs_pos e).2] at h
    cases h)
theorem fig_pos {w : Str} (h : negW w = false) : w = figS w := ext_tl (by
  rw [tl_fig]
  rcases tl_cases w with ⟨r, e⟩ | e
  · rw [(figs_neg e).2] at h
    cases h
  · rw [(figs_pos e).1])
def F_is_whole : Fn := ⟨fun ds k _ => ∃ w, ds = [.str w] ∧ WOk w ∧ k (.bl (wholeB w)), fun hk _ ⟨w, e, o, h⟩ => ⟨w, e, o, hk _ h⟩⟩
theorem sgn_in (c : Nat) : dInS false (sgn c) (.str dgS) = some (.bl (isDig c)) := by
  show some (Da.bl (xor false (decide (c ∈ tl dgS)))) = _
  rw [Bool.false_xor]
  rfl
theorem sgn_notin (c : Nat) : dInS true (sgn c) (.str dgS) = some (.bl (!isDig c)) := by
  show some (Da.bl (xor true (decide (c ∈ tl dgS)))) = _
  rw [Bool.true_xor]
  rfl
theorem sgn_ok {c : Nat} (h : c < 256) : PyData.strOk ⟨#[c]⟩ = true := Asc.ok fun d hd => by
  have : d = c := by simpa using hd
  rw [this]
  exact h
theorem k_is_whole : Keeps 1 N_is_whole.length F_is_whole S_is_whole := by
  rintro ds k x hl ⟨w, rfl, o, h⟩
  show S_is_whole.wp [some (.dat (.str w)), none, none] _
  have of := fig_ok o
  have rest : (sSeq (sIf (bOr (bV (eOp2 dEq (eVar 1) (eC (.str (PySem.Str.ofString ""))))) (bOr (bV (eOp2 dGt (eOpN dLen (eCons (eVar 1) (eNil))) (eC (.int 12)))) (bNot (bT (eOpN dAll (eCons (eFrz (eLC [2] (iSeq (eVar 1)) (.name 2) bYes (eOp2 (dInS false) (eVar 2) (eC (.str (PySem.Str.ofString "0123456789")))))) (eNil))))))) (sRet (eC (.bl false))) (sPass)) (sRet (eOr (eOp2 dEq (eVar 0) (eC (.str (PySem.Str.ofString "0")))) (eOp2 dNe (eIdx (eVar 1) (eC (.int 0))) (eC (.str (PySem.Str.ofString "0"))))))).wp [some (.dat (.str w)), some (.dat (.str (figS w))), none] (flFn k x) := by
    unfold wholeB at h
    walk_at "wg"
    refine ⟨_, dEq_s of.ok okEm, _, rfl, fun z => ⟨fun _ => ?_, fun z => Bool.noConfusion z⟩, fun z => ?_⟩
    · have z := of_decide_eq_true z
      rw [tl_em, tl_fig] at z
      rw [z] at h
      exact h
    have z1 := of_decide_eq_false z
    rw [tl_em, tl_fig] at z1
    have hn : (figs w).isEmpty = false := by
      cases e : figs w with
      | nil => exact absurd e z1
      | cons c r => rfl
    rw [hn] at h
    walk_at "wg"
    refine ⟨_, len_str of.2, ?_⟩
    walk_at "wg"
    refine ⟨_, rfl, _, rfl, fun z => ⟨fun _ => ?_, fun z => Bool.noConfusion z⟩, fun z => ?_⟩
    · have z := of_decide_eq_true z
      rw [tl_fig] at z
      rw [decide_eq_false (show ¬ (figs w).length ≤ 12 by omega)] at h
      exact h
    have z2 := of_decide_eq_false z
    rw [tl_fig] at z2
    rw [decide_eq_true (show (figs w).length ≤ 12 by omega)] at h
    walk_at "wg"
    refine ⟨_, items_str of.2, rfl, lcW_all sgn (fun c => .bl (isDig c)) (figs w) [] (fun c hc => ⟨_, rfl, fun K hK => ?_⟩) ?_⟩
    · walk_at "wg"
      exact ⟨_, sgn_in c, hK⟩
    refine ⟨_, dAll_map _ (figs w), _, rfl, fun z => ?_, fun z => ?_⟩
    · have z : (figs w).all isDig = false := by simpa using z
      rw [z] at h
      exact h
    have z3 : (figs w).all isDig = true := by simpa using z
    rw [z3] at h
    walk_at "wg"
    refine ⟨_, dEq_s o.ok okZr, _, rfl, fun z => ?_, fun z => ?_⟩
    · rw [tl_zr] at z
      rw [z] at h
      exact h
    rw [tl_zr] at z
    rw [z] at h
    walk_at "wg"
    cases e : figs w with
    | nil => exact absurd e z1
    | cons c r =>
      refine ⟨_, idx_str of.2 (show tl (figS w) = c :: r from e), ?_⟩
      walk_at "wg"
      refine ⟨_, dNe_s (sgn_ok (of.1 c (by rw [tl_fig, e]; exact List.mem_cons_self))) okZr, ?_⟩
      rw [e] at h
      rw [tl_zr]
      have eq : (decide ((c :: r).head? ≠ some 48)) = !decide (tl (⟨#[c]⟩ : Str) = [48]) := by
        show decide (some c ≠ some 48) = !decide ([c] = [48])
        simp
      rw [eq] at h
      exact h
  unfold S_is_whole
  walk_at "wg"
  refine ⟨_, rfl, _, dSl_s o.2 _ _, ?_⟩
  walk_at "wg"
  refine ⟨_, dEq_s (cut1_ok o) okMi, _, rfl, fun z => ?_, fun z => ?_⟩
  · rw [minus_eq] at z
    walk_at "wg"
    refine ⟨_, rfl, ?_⟩
    walk_at "wg"
    refine ⟨_, dSl_s o.2 _ _, ?_⟩
    rw [fig_neg z]
    exact rest
  · rw [minus_eq] at z
    have e := fig_pos z
    refine w_var rfl ?_
    show Sx.wp _ [some (.dat (.str w)), some (.dat (.str w)), none] _
    have e2 : (some (Ce.dat (.str w)) : Option Ce) = some (.dat (.str (figS w))) := by rw [← e]
    rw [show ([some (.dat (.str w)), some (.dat (.str w)), none] : En) = [some (.dat (.str w)), some (.dat (.str (figS w))), none] from congrArg (fun q => [some (.dat (.str w)), q, none]) e2]
    exact rest
/-! ### _law_whole -/
def wholeD (w : Str) : Da := if wholeB w then .int (wholeV w) else .non
def F__law_whole : Fn := ⟨fun ds k _ => ∃ w, ds = [.str w] ∧ WOk w ∧ k (wholeD w), fun hk _ ⟨w, e, o, h⟩ => ⟨w, e, o, hk _ h⟩⟩
theorem idx_dig : ∀ i : Fin 10, Txt.index0 dgS ⟨#[48 + i.val]⟩ = some i.val := by decide +kernel
theorem index_sgn {c : Nat} (h : isDig c = true) : dIndex (.str dgS) (sgn c) = some (.int ((c - 48 : Nat) : Int)) := by
  have hc := (isDig_iff c).mp h
  have e := idx_dig ⟨c - 48, by omega⟩
  rw [show 48 + (⟨c - 48, by omega⟩ : Fin 10).val = c by show 48 + (c - 48) = c; omega] at e
  show (Txt.index0 dgS ⟨#[c]⟩).map _ = _
  rw [e]
  rfl
theorem number_loop {a b : Ce} {E : Fl} : ∀ (l : List Nat) (v : Nat) (s2 : Option Ce), l.all isDig = true → (∀ s2, E.nx [some a, some b, s2, some (.dat (.int ((l.foldl (fun acc c => acc * 10 + (c - 48)) v : Nat) : Int)))]) →
    forW (.name 2) (sSet 3 (eOp2 dAdd (eOp2 dMul (eC (.int 10)) (eVar 3)) (eM1 dIndex (eC (.str (PySem.Str.ofString "0123456789"))) (eVar 2)))) (l.map sgn) [some a, some b, s2, some (.dat (.int (v : Nat)))] E
  | [], v, s2, _, h => h s2
  | c :: l, v, s2, hd, h => by
    rw [List.all_cons, Bool.and_eq_true] at hd
    refine ⟨_, rfl, ?_⟩
    walk_at "wg"
    refine ⟨_, dMul_int (i := 10) (j := (v : Nat)) (mulok (by decide) (by decide)), ?_⟩
    walk_at "wg"
    refine ⟨rfl, ?_⟩
    walk_at "wg"
    refine ⟨_, index_sgn hd.1, _, rfl, ?_⟩
    have e : (10 : Int) * (v : Nat) + ((c - 48 : Nat) : Int) = ((v * 10 + (c - 48) : Nat) : Int) := by omega
    rw [e]
    exact number_loop l (v * 10 + (c - 48)) _ hd.2 h
theorem eqv_nilS (ss : List Str) : Da.eqv (.lst (ss.map Da.str)) (.lst []) = ss.isEmpty := by cases ss <;> rfl
theorem ok_strs {ss : List Str} (h : ∀ s ∈ ss, PyData.strOk s = true) (n : Nat) : Da.ok (n + 1) (.lst (ss.map Da.str)) = true := by
  show (ss.map Da.str).all (Da.ok n) = true
  rw [List.all_map, List.all_eq_true]
  intro s hs
  have := h s hs
  cases n <;> exact this
theorem dNe_nilS {ss : List Str} (h : ∀ s ∈ ss, PyData.strOk s = true) : dNe (.lst (ss.map Da.str)) (.lst []) = some (.bl (!ss.isEmpty)) := by
  unfold dNe
  rw [if_pos ⟨ok_strs h 59, rfl⟩, eqv_nilS]
theorem dEq_nilS {ss : List Str} (h : ∀ s ∈ ss, PyData.strOk s = true) : dEq (.lst (ss.map Da.str)) (.lst []) = some (.bl ss.isEmpty) := by
  unfold dEq
  rw [if_pos ⟨ok_strs h 59, rfl⟩, eqv_nilS]
theorem k__law_whole : Keeps 1 N__law_whole.length F__law_whole S__law_whole := by
  rintro ds k x hl ⟨w, rfl, o, h⟩
  show S__law_whole.wp [some (.dat (.str w)), none, none, none] _
  have of := fig_ok o
  have rest : (sSeq (sIf (bOr (bV (eOp2 dEq (eVar 1) (eC (.str (PySem.Str.ofString ""))))) (bOr (bV (eOp2 dGt (eOpN dLen (eCons (eVar 1) (eNil))) (eC (.int 12)))) (bV (eOp2 dNe (eFrz (eLC [2] (iSeq (eVar 1)) (.name 2) (bV (eOp2 (dInS true) (eVar 2) (eC (.str (PySem.Str.ofString "0123456789"))))) (eVar 2))) (eFrz (eDisp (eNil))))))) (sRet (eC .non)) (sPass)) (sSeq (sIf (bAnd (bV (eOp2 dNe (eVar 0) (eC (.str (PySem.Str.ofString "0"))))) (bV (eOp2 dEq (eIdx (eVar 1) (eC (.int 0))) (eC (.str (PySem.Str.ofString "0")))))) (sRet (eC .non)) (sPass)) (sSeq (sSet 3 (eC (.int 0))) (sSeq (sFor (iSeq (eVar 1)) (.name 2) (sSet 3 (eOp2 dAdd (eOp2 dMul (eC (.int 10)) (eVar 3)) (eM1 dIndex (eC (.str (PySem.Str.ofString "0123456789"))) (eVar 2))))) (sSeq (sIf (bV (eOp2 dNe (eVar 1) (eVar 0))) (sRet (eOp2 dSub (eC (.int 0)) (eVar 3))) (sPass)) (sRet (eVar 3))))))).wp [some (.dat (.str w)), some (.dat (.str (figS w))), none, none] (flFn k x) := by
    unfold wholeD wholeB at h
    walk_at "wg"
    refine ⟨_, dEq_s of.ok okEm, _, rfl, fun z => ⟨fun _ => ?_, fun z => Bool.noConfusion z⟩, fun z => ?_⟩
    · have z := of_decide_eq_true z
      rw [tl_em, tl_fig] at z
      rw [z] at h
      exact h
    have z1 := of_decide_eq_false z
    rw [tl_em, tl_fig] at z1
    have hn : (figs w).isEmpty = false := by
      cases e : figs w with
      | nil => exact absurd e z1
      | cons c r => rfl
    rw [hn] at h
    walk_at "wg"
    refine ⟨_, len_str of.2, ?_⟩
    walk_at "wg"
    refine ⟨_, rfl, _, rfl, fun z => ⟨fun _ => ?_, fun z => Bool.noConfusion z⟩, fun z => ?_⟩
    · have z := of_decide_eq_true z
      rw [tl_fig] at z
      rw [decide_eq_false (show ¬ (figs w).length ≤ 12 by omega)] at h
      exact h
    have z2 := of_decide_eq_false z
    rw [tl_fig] at z2
    rw [decide_eq_true (show (figs w).length ≤ 12 by omega)] at h
    walk_at "wg"
    refine ⟨_, items_str of.2, rfl, lcW_of sgn (fun c => !isDig c) sgn (figs w) [] (fun c hc => ⟨_, rfl, fun K hK => ?_, fun _ K hK => ?_⟩) ?_⟩
    · walk_at "wg"
      exact ⟨_, sgn_notin c, _, rfl, hK⟩
    · walk_at "wg"
      exact hK
    walk_at "wg"
    have em : (((figs w).filter fun c => !isDig c).map sgn) = (((figs w).filter fun c => !isDig c).map fun c => (⟨#[c]⟩ : Str)).map Da.str := by
      rw [List.map_map]
      rfl
    rw [List.nil_append, em]
    refine ⟨show (0 : Nat) ≤ 1000 by decide, _, dNe_nilS (fun s hs => ?_), _, rfl, fun z => ?_, fun z => ?_⟩
    · obtain ⟨c, hc, rfl⟩ := List.mem_map.mp hs
      exact sgn_ok (of.1 c (List.mem_filter.mp hc).1)
    · have z : (figs w).all isDig = false := by
        rw [Bool.eq_false_iff]
        intro y
        rw [List.all_eq_true] at y
        have : ((figs w).filter fun c => !isDig c) = [] := List.filter_eq_nil_iff.mpr fun c hc => by simp [y c hc]
        rw [this] at z
        cases z
      rw [z] at h
      exact h
    have z3 : (figs w).all isDig = true := by
      rw [List.all_eq_true]
      intro c hc
      have : ((figs w).filter fun c => !isDig c) = [] := by
        cases e : (figs w).filter fun c => !isDig c with
        | nil => rfl
        | cons a b => rw [e] at z; cases z
      have := List.filter_eq_nil_iff.mp this c hc
      simpa using this
    rw [z3] at h
    obtain ⟨c, r, e⟩ : ∃ c r, figs w = c :: r := by
      cases e : figs w with
      | nil => exact absurd e z1
      | cons c r => exact ⟨c, r, rfl⟩
    have fin : (decide (tl w = [48]) || decide ((figs w).head? ≠ some 48)) = true → (sSeq (sSet 3 (eC (.int 0))) (sSeq (sFor (iSeq (eVar 1)) (.name 2) (sSet 3 (eOp2 dAdd (eOp2 dMul (eC (.int 10)) (eVar 3)) (eM1 dIndex (eC (.str (PySem.Str.ofString "0123456789"))) (eVar 2))))) (sSeq (sIf (bV (eOp2 dNe (eVar 1) (eVar 0))) (sRet (eOp2 dSub (eC (.int 0)) (eVar 3))) (sPass)) (sRet (eVar 3))))).wp [some (.dat (.str w)), some (.dat (.str (figS w))), none, none] (flFn k x) := by
      intro hz
      rw [hz] at h
      unfold wholeV at h
      walk_at "wg"
      refine ⟨_, items_str of.2, ?_⟩
      refine number_loop (figs w) 0 none z3 fun s2 => ?_
      walk_at "wg"
      refine ⟨_, dNe_s of.ok o.ok, _, rfl, fun z => ?_, fun z => ?_⟩
      · have z : ¬ figs w = tl w := by
          rw [Bool.not_eq_true'] at z
          exact of_decide_eq_false z
        walk_at "wg"
        have ng : negW w = true := by
          rcases tl_cases w with ⟨r, e⟩ | e
          · exact (figs_neg e).2
          · exact absurd (figs_pos e).1 z
        rw [ng] at h
        refine ⟨_, rfl, ?_⟩
        rw [Int.zero_sub]
        exact h
      · have z : figs w = tl w := by
          rw [Bool.not_eq_false'] at z
          exact of_decide_eq_true z
        walk_at "wg"
        have ng : negW w = false := by
          rcases tl_cases w with ⟨r, e⟩ | e
          · rw [(figs_neg e).1, e] at z
            have := congrArg List.length z
            simp at this
          · exact (figs_pos e).2
        rw [ng] at h
        exact h
    walk_at "wg"
    refine ⟨_, dNe_s o.ok okZr, _, rfl, fun y => ?_, fun y => ⟨fun z => Bool.noConfusion z, fun _ => fin ?_⟩⟩
    · rw [tl_zr] at y
      have y' : decide (tl w = [48]) = false := by simpa using y
      walk_at "wg"
      refine ⟨_, idx_str of.2 (show tl (figS w) = c :: r from e), ?_⟩
      walk_at "wg"
      refine ⟨_, dEq_s (sgn_ok (of.1 c (by rw [tl_fig, e]; exact List.mem_cons_self))) okZr, _, rfl, fun z => ?_, fun z => fin ?_⟩
      · rw [tl_zr] at z
        have hc : c = 48 := by
          have z : [c] = [48] := of_decide_eq_true z
          simpa using z
        rw [y', e, hc] at h
        walk_at "wg"
        exact h
      · rw [tl_zr] at z
        have hc : ¬ c = 48 := fun q => by
          have z : ¬ [c] = [48] := of_decide_eq_false z
          exact z (by rw [q])
        rw [y', e]
        simp [hc]
    · rw [tl_zr] at y
      have y' : decide (tl w = [48]) = true := by simpa using y
      rw [y']
      rfl
  unfold S__law_whole
  walk_at "wg"
  refine ⟨_, rfl, _, dSl_s o.2 _ _, ?_⟩
  walk_at "wg"
  refine ⟨_, dEq_s (cut1_ok o) okMi, _, rfl, fun z => ?_, fun z => ?_⟩
  · rw [minus_eq] at z
    walk_at "wg"
    refine ⟨_, rfl, ?_⟩
    walk_at "wg"
    refine ⟨_, dSl_s o.2 _ _, ?_⟩
    rw [fig_neg z]
    exact rest
  · rw [minus_eq] at z
    have e := fig_pos z
    have e2 : (some (Ce.dat (.str w)) : Option Ce) = some (.dat (.str (figS w))) := by rw [← e]
    show Sx.wp _ [some (.dat (.str w)), some (.dat (.str w)), none, none] _
    refine v_pass ?_
    dsimp only
    rw [show ([some (.dat (.str w)), some (.dat (.str w)), none, none] : En) = [some (.dat (.str w)), some (.dat (.str (figS w))), none, none] from congrArg (fun q => [some (.dat (.str w)), q, none, none]) e2]
    exact rest
end K03
end

section
set_option maxHeartbeats 4000000
namespace K03
open PySem PySem.Spec PyProof.Rows L2 Pu PySem.W Tx TL

def wrdD (ws : List Str) : Da := .lst (ws.map Da.str)
def wordsOf (z : Str) : List Str := if tl z = [] then [] else Txt.split z spS
theorem split_ok {z y p : Str} {s : Nat} (h : WOk z) (ey : tl y = [s]) (hk : y.cps.all (· < 256) = true) (hp : p ∈ Txt.split z y) : WOk p := ⟨fun c hc => h.1 c ((split_mem ey hk hp).2 c hc), by
  have := mem_cost hp
  rw [split_cost ey hk] at this
  have := h.2
  omega⟩
theorem words_ok {z p : Str} (h : WOk z) (hp : p ∈ wordsOf z) : WOk p := by
  unfold wordsOf at hp
  split at hp
  · cases hp
  · exact split_ok h tl_sp sp_ok hp
def F_split : Fn := ⟨fun ds k _ => ∃ z, ds = [.str z] ∧ WOk z ∧ k (wrdD (wordsOf z)), fun hk _ ⟨w, e, o, h⟩ => ⟨w, e, o, hk _ h⟩⟩
theorem k_split : Keeps 1 N_split.length F_split S_split := by
  rintro ds k x hl ⟨z, rfl, o, h⟩
  show S_split.wp [some (.dat (.str z))] _
  unfold S_split
  unfold wordsOf at h
  walk_at "wg"
  refine ⟨_, dEq_s o.ok okEm, _, rfl, fun e => ?_, fun e => ?_⟩
  · have e := of_decide_eq_true e
    rw [tl_em] at e
    rw [if_pos e] at h
    walk_at "wg"
    exact ⟨show (0 : Nat) ≤ 1000 by decide, h⟩
  · have e := of_decide_eq_false e
    rw [tl_em] at e
    rw [if_neg e] at h
    walk_at "wg"
    refine ⟨rfl, ?_⟩
    walk_at "wg"
    exact ⟨_, dSplit_eq tl_sp (by have := o.2; omega), h⟩
theorem k__law_words : Keeps 1 N__law_words.length F_split S__law_words := by
  rintro ds k x hl ⟨z, rfl, o, h⟩
  show S__law_words.wp [some (.dat (.str z))] _
  unfold S__law_words
  unfold wordsOf at h
  walk_at "wg"
  refine ⟨_, dEq_s o.ok okEm, _, rfl, fun e => ?_, fun e => ?_⟩
  · have e := of_decide_eq_true e
    rw [tl_em] at e
    rw [if_pos e] at h
    walk_at "wg"
    exact ⟨show (0 : Nat) ≤ 1000 by decide, h⟩
  · have e := of_decide_eq_false e
    rw [tl_em] at e
    rw [if_neg e] at h
    walk_at "wg"
    refine ⟨rfl, ?_⟩
    walk_at "wg"
    exact ⟨_, dSplit_eq tl_sp (by have := o.2; omega), h⟩
/-! numbers -/
def numOk (w : Str) (m : Int) : Bool := wholeB w && (decide (0 ≤ wholeV w) && decide (wholeV w ≤ m))
def F_is_number : Fn := ⟨fun ds k _ => ∃ w m, ds = [.str w, .int m] ∧ WOk w ∧ k (.bl (numOk w m)), fun hk _ ⟨w, m, e, o, h⟩ => ⟨w, m, e, o, hk _ h⟩⟩
theorem whole_cons {w : Str} (h : wholeB w = true) : ∃ c r, tl w = c :: r := by
  have h1 := (wholeB_figs h).1
  cases e : tl w with
  | nil =>
    refine absurd ?_ h1
    cases f : figs w with
    | nil => rfl
    | cons c r =>
      have := figs_sub w c (by rw [f]; exact List.mem_cons_self)
      rw [e] at this
      cases this
  | cons c r => exact ⟨c, r, rfl⟩
theorem k_is_number : Keeps 2 N_is_number.length F_is_number (S_is_number F_is_whole) := by
  rintro ds k x hl ⟨w, m, rfl, o, h⟩
  show (S_is_number F_is_whole).wp [some (.dat (.str w)), some (.dat (.int m))] _
  unfold S_is_number
  unfold numOk at h
  walk_at "wg"
  refine ⟨rfl, w, rfl, o, _, rfl, fun z => ?_, fun z => ?_⟩
  · obtain ⟨c, r, e⟩ := whole_cons z
    have sg := (whole_sign z).1
    rw [z, Bool.true_and] at h
    walk_at "wg"
    refine ⟨_, idx_str o.2 e, ?_⟩
    walk_at "wg"
    refine ⟨_, dNe_s (sgn_ok (o.1 c (by rw [e]; exact List.mem_cons_self))) okMi, _, rfl, fun y => ?_, fun y => ?_⟩
    · have y : 0 ≤ wholeV w := sg.mpr (by
        rw [e]
        rw [tl_mi] at y
        intro q
        have : c = 45 := by simpa using q
        rw [this] at y
        cases y)
      rw [decide_eq_true y, Bool.true_and] at h
      walk_at "wg"
      exact ⟨_, dInt_whole z, _, rfl, h⟩
    · have y : ¬ 0 ≤ wholeV w := fun q => by
        have q := sg.mp q
        rw [e] at q
        rw [tl_mi] at y
        refine q ?_
        have y2 : decide ([c] = [45]) = true := by
          rw [Bool.not_eq_false'] at y
          exact y
        have y2 := of_decide_eq_true y2
        simpa using y2
      rw [decide_eq_false y, Bool.false_and] at h
      exact h
  · rw [z, Bool.false_and] at h
    exact h
theorem sIx_m1 (n d : Nat) : HT.sIx n d (some (-1)) = n - 1 := by
  show (if ((-1 : Int)) < 0 then ((-1 : Int) + (n : Int)).toNat else min ((-1 : Int)).toNat n) = n - 1
  rw [if_pos (by decide)]
  omega
theorem cut_last {α : Type} (l : List Da) : Pu.cutD l none (some (-1)) = l.dropLast := by
  unfold Pu.cutD
  rw [HT.sIx_none, sIx_m1, List.drop_zero, Nat.sub_zero, List.dropLast_eq_take]
theorem last_cases {α : Type} (l : List α) : l = [] ∨ ∃ a b, l = a ++ [b] := by
  rcases List.eq_nil_or_concat l with h | ⟨a, b, h⟩
  · exact .inl h
  · exact .inr ⟨a, b, by rw [h]; simp⟩
theorem ok_wholes (ws : List Str) : Da.ok 60 (.lst (ws.map wholeD)) = true := by
  show (ws.map wholeD).all (Da.ok 59) = true
  rw [List.all_map, List.all_eq_true]
  intro w _
  show (wholeD w).ok 59 = true
  unfold wholeD
  split <;> rfl
abbrev eAt (i : Int) : Ex := ⟨PySem.Str.ofString "BadText", PySem.Str.ofString "at", .int i⟩
theorem argD_at {i : Nat} (h : i < 10 ^ 12) : ArgD (.int ((i : Nat) : Int)) := by
  have h1 : (((i : Nat) : Int)).natAbs = i := rfl
  refine ⟨?_, ?_⟩
  · rw [h1]
    rcases Nat.eq_zero_or_pos i with h0 | h0
    · subst h0
      decide
    · exact Nat.lt_trans ((Nat.log2_lt (by omega)).mpr (Nat.lt_trans h (by decide : 10 ^ 12 < 2 ^ 40))) (by decide)
  · have e : tl (numS ((i : Nat) : Int)) = numL i := num_pos i
    have hl : (numS ((i : Nat) : Int)).length ≤ 12 := by
      rw [len_tl, e]
      exact numL_len (by decide) h
    exact Nat.le_trans (show _ ≤ 12 from hl) (by decide)
theorem two_parts {α : Type} {l : List α} (h : l.length = 2) : ∃ a b, l = [a, b] := by
  match l, h with
  | [a, b], _ => exact ⟨a, b, rfl⟩
theorem len_wrd (ws : List Str) : dLen [wrdD ws] = some (.int ws.length) := by
  show some (Da.int ((ws.map Da.str).length : Nat)) = _
  rw [List.length_map]
theorem dNe_i (a b : Int) : dNe (.int a) (.int b) = some (.bl (!decide (a = b))) := by
  rw [dNe_int]
  simp
theorem dEq_ss {s t : Str} (h : PyData.strOk s = true) (h' : PyData.strOk t = true) (e : tl s = tl t) : dEq (.str s) (.str t) = some (.bl true) := by
  rw [dEq_s h h', decide_eq_true e]
theorem dEq_sn {s t : Str} (h : PyData.strOk s = true) (h' : PyData.strOk t = true) (e : ¬ tl s = tl t) : dEq (.str s) (.str t) = some (.bl false) := by
  rw [dEq_s h h', decide_eq_false e]
theorem sl_wrd1 (a : Str) (r : List Str) : dSl (wrdD (a :: r)) (some 1) none = some (wrdD r) := by
  show some (Da.lst (Pu.cutD _ _ _)) = _
  rw [cut1]
  rfl
theorem sl_wrd2 (a b : Str) (r : List Str) : dSl (wrdD (a :: b :: r)) (some 2) none = some (wrdD r) := by
  show some (Da.lst (Pu.cutD _ _ _)) = _
  unfold Pu.cutD
  have e : HT.sIx ((a :: b :: r).map Da.str).length 0 (some 2) = 2 := by
    simp [HT.sIx]
  rw [e]
  show some (Da.lst (List.take _ (r.map Da.str))) = _
  rw [List.take_of_length_le]
  · rfl
  · rw [HT.sIx_none]
    simp
theorem truth_wrd (ws : List Str) : truth (wrdD ws) = some (!ws.isEmpty) := by
  show some (!(ws.map Da.str).isEmpty) = _
  rw [List.isEmpty_map]
theorem words_len {z : Str} (h : WOk z) : (wordsOf z).length ≤ 900001 := by
  unfold wordsOf
  split
  · exact Nat.zero_le _
  · have h1 := len_cost (Txt.split z spS)
    rw [split_cost tl_sp sp_ok] at h1
    have := h.2
    omega
theorem idx_wrd0 (a : Str) (r : List Str) : dIdx (wrdD (a :: r)) (.int 0) = some (.str a) := atI_nat (j := 0) rfl
theorem idx_wrd1 (a b : Str) (r : List Str) : dIdx (wrdD (a :: b :: r)) (.int 1) = some (.str b) := atI_nat (j := 1) rfl
theorem seq_cl (c : List Int) : seqD c (cl c) := .inr rfl
theorem soft_e (p : Cw) : softE p (sfD p) := ⟨_, seq_cl p.1, .inl rfl⟩
theorem isS_iff {c : List Int} {v n : Int} (h : isCb c n = true) (h1 : 1 ≤ v) (h2 : v ≤ 1000000000) : isS (c, v) n = true := by
  unfold isS
  rw [h, decide_eq_true ⟨h1, h2⟩]
  rfl
theorem sl_wrd2' (a : Str) (q : List Str) : dSl (wrdD (a :: q)) (some 2) none = some (wrdD (q.drop 1)) := by
  cases q with
  | nil => rfl
  | cons b r => exact sl_wrd2 a b r
theorem dEq_wrd {ws : List Str} (o : ∀ w ∈ ws, WOk w) : dEq (wrdD ws) (.lst []) = some (.bl ws.isEmpty) := dEq_nilS fun w hw => (o w hw).ok
theorem wholeD_pos {b : Str} (h : wholeB b = true) : wholeD b = .int (wholeV b) := if_pos h
theorem wholeD_neg {b : Str} (h : ¬ wholeB b = true) : wholeD b = .non := if_neg h
theorem dPow_10_9 : dPow (.int 10) (.int 9) = some (.int 1000000000) := rfl
end K03
end

section
set_option maxHeartbeats 4000000
namespace K03
open PySem PySem.Spec PyProof.Rows L2 Pu PySem.W Tx TL

def SmI (i : Int) : Prop := i.natAbs < 10 ^ 12
theorem num_mem {i : Int} {c : Nat} (h : c ∈ tl (numS i)) : c = 45 ∨ (48 ≤ c ∧ c ≤ 57) := by
  cases i with
  | ofNat n =>
    rw [show tl (numS (Int.ofNat n)) = numL n from num_pos n] at h
    exact .inr (numL_digits n c h)
  | negSucc m =>
    rw [num_neg m] at h
    rcases List.mem_cons.mp h with h | h
    · exact .inl h
    · exact .inr (numL_digits (m + 1) c h)
theorem num_len {i : Int} (h : SmI i) : (numS i).length ≤ 13 := by
  cases i with
  | ofNat n =>
    rw [len_tl, show tl (numS (Int.ofNat n)) = numL n from num_pos n]
    exact Nat.le_trans (numL_len (k := 12) (by decide) h) (by decide)
  | negSucc m =>
    rw [len_tl, num_neg m, List.length_cons]
    have : (numL (m + 1)).length ≤ 12 := numL_len (by decide) h
    omega
theorem log_sm {i : Int} (h : SmI i) : i.natAbs.log2 < 1920 := by
  rcases Nat.eq_zero_or_pos i.natAbs with h0 | h0
  · rw [h0]
    decide
  · exact Nat.lt_trans ((Nat.log2_lt (by omega)).mpr (Nat.lt_trans h (by decide : 10 ^ 12 < 2 ^ 40))) (by decide)
theorem dStr_int {i : Int} (h : SmI i) : dStr [.int i] = some (.str (numS i)) := if_pos (log_sm h)
/-- a word: its signs are one byte and neither a blank nor a line's end -/
def Wd (w : Str) : Prop := ∀ c ∈ tl w, 33 ≤ c ∧ c < 127
theorem Wd.asc {w : Str} (h : Wd w) : Asc w := fun c hc => by
  have := h c hc
  omega
theorem num_wd (i : Int) : Wd (numS i) := fun c hc => by
  have := num_mem hc
  omega
theorem num_whole {i : Int} (h : SmI i) : wholeB (numS i) = true ∧ wholeV (numS i) = i := by
  have := whole_num h
  unfold whole at this
  split at this
  · rename_i hb
    exact ⟨hb, Option.some.inj this⟩
  · cases this
theorem num_zero : numS 0 = zrS := by decide +kernel
def numW (is : List Int) : List Str := is.map numS
theorem cost_num {is : List Int} (h : ∀ i ∈ is, SmI i) : cost (numW is) ≤ 14 * is.length := by
  induction is with
  | nil => exact Nat.zero_le _
  | cons i is ih =>
    have h1 := num_len (h i List.mem_cons_self)
    have h2 := ih fun j hj => h j (List.mem_cons_of_mem _ hj)
    have : cost (numW (i :: is)) = ((numS i).length + 1) + cost (numW is) := rfl
    rw [this, List.length_cons]
    omega
/-! ### joined -/
def itD (ss : List Str) (is : List Int) : Da := .tup (ss.map Da.str ++ dis is)
def F_joined : Fn := ⟨fun ds k _ => ∃ ss is, ds = [itD ss is] ∧ (∀ i ∈ is, SmI i) ∧ cost (ss ++ numW is) ≤ 100000 ∧ k (.str (Txt.join spS (ss ++ numW is))), fun hk _ ⟨a, b, e, o, c, h⟩ => ⟨a, b, e, o, c, hk _ h⟩⟩
def partD : Str ⊕ Int → Da
  | .inl s => .str s
  | .inr i => .int i
def partS : Str ⊕ Int → Da
  | .inl s => .str s
  | .inr i => .str (numS i)
theorem k_joined : Keeps 1 N_joined.length F_joined S_joined := by
  rintro ds k x hl ⟨ss, is, rfl, o, hc, h⟩
  show S_joined.wp [some (.dat (itD ss is)), none] _
  unfold S_joined
  walk_at "wg"
  have e1 : ss.map Da.str ++ dis is = (ss.map Sum.inl ++ is.map Sum.inr).map partD := by
    rw [List.map_append, List.map_map, List.map_map]
    rfl
  refine ⟨rfl, ?_⟩
  walk_at "wg"
  refine ⟨_, congrArg some e1, rfl, lcW_all partD partS (ss.map Sum.inl ++ is.map Sum.inr) [] (fun w hw => ⟨_, rfl, fun K hK => ?_⟩) ?_⟩
  · walk_at "wg"
    refine ⟨partS w, ?_, hK⟩
    cases w with
    | inl s => rfl
    | inr i =>
      refine dStr_int (o i ?_)
      rcases List.mem_append.mp hw with hw | hw
      · obtain ⟨s, _, e⟩ := List.mem_map.mp hw
        cases e
      · obtain ⟨j, hj, e⟩ := List.mem_map.mp hw
        cases e
        exact hj
  · have e2 : [] ++ (ss.map Sum.inl ++ is.map Sum.inr).map partS = (ss ++ numW is).map Da.str := by
      unfold numW
      rw [List.nil_append, List.map_append, List.map_append, List.map_map, List.map_map, List.map_map]
      rfl
    rw [e2]
    exact ⟨_, dJoin_lst tl_sp (by omega), h⟩
theorem cost_le {ps : List Str} {b : Nat} (h : ∀ p ∈ ps, p.length ≤ b) : cost ps ≤ (b + 1) * ps.length := by
  induction ps with
  | nil => exact Nat.zero_le _
  | cons p ps ih =>
    have h1 := h p List.mem_cons_self
    have h2 := ih fun q hq => h q (List.mem_cons_of_mem _ hq)
    have : cost (p :: ps) = (p.length + 1) + cost ps := rfl
    rw [this, List.length_cons, Nat.mul_succ]
    omega
theorem dAdd_tup {a b : List Da} (h : a.length + b.length ≤ 1000000) : dAdd (.tup a) (.tup b) = some (.tup (a ++ b)) := if_pos (by rw [line_eq]; omega)
/-- a line of words: its signs -/
def Ln (l : Str) : Prop := ∀ c ∈ tl l, 32 ≤ c ∧ c < 127
theorem Ln.asc {l : Str} (h : Ln l) : Asc l := fun c hc => by
  have := h c hc
  omega
theorem Ln.nl {l : Str} (h : Ln l) : 10 ∉ tl l := fun hc => by
  have := h 10 hc
  omega
theorem Wd.ln {w : Str} (h : Wd w) : Ln w := fun c hc => by
  have := h c hc
  omega
theorem ln_join {ws : List Str} (h : ∀ w ∈ ws, Ln w) : Ln (Txt.join spS ws) := fun c hc => by
  rcases join_mem tl_sp hc with e | ⟨w, hw, hc⟩
  · omega
  · exact h w hw c hc
theorem words_join {a b : Str} {r : List Str} (h : ∀ w ∈ a :: b :: r, Wd w) : wordsOf (Txt.join spS (a :: b :: r)) = a :: b :: r := by
  unfold wordsOf
  rw [if_neg, split_join1 tl_sp sp_ok (by simp) fun w hw hc => by have := h w hw 32 hc; omega]
  rw [join_tl tl_sp]
  simp [joinL]
theorem wd_num {is : List Int} : ∀ w ∈ numW is, Wd w := fun w hw => by
  obtain ⟨i, _, rfl⟩ := List.mem_map.mp hw
  exact num_wd i
theorem noExL {es : En} (h : es.all (fun c => match c with
    | some (.exn _ _) => false
    | _ => true) = true) : NoExn es := by
  intro i f w e
  rw [List.all_eq_true] at h
  have := h _ (List.mem_of_getElem? e)
  cases this
theorem pickL {ds : List Da} {r : Int} (h1 : 0 ≤ r) (h2 : r < ds.length) : ∃ d ∈ ds, dIdx (.tup ds) (.int r) = some d := by
  have h3 : r.toNat < ds.length := by omega
  refine ⟨ds[r.toNat], List.getElem_mem h3, ?_⟩
  have := atI_nat (List.getElem?_eq_getElem h3)
  rw [Int.toNat_of_nonneg h1] at this
  exact this
theorem sl_take (ws : List Str) (k : Nat) : dSl (wrdD ws) none (some ((k : Nat) : Int)) = some (wrdD (ws.take k)) := by
  show some (Da.lst (Pu.cutD _ _ _)) = _
  unfold Pu.cutD
  rw [HT.sIx_none, HT.sIx_nat, List.drop_zero, Nat.sub_zero, ← List.take_eq_take_min]
  unfold wrdD
  rw [List.map_take]
theorem sl_drop (ws : List Str) (k : Nat) : dSl (wrdD ws) (some ((k : Nat) : Int)) none = some (wrdD (ws.drop k)) := by
  show some (Da.lst (Pu.cutD _ _ _)) = _
  unfold Pu.cutD
  rw [HT.sIx_none, HT.sIx_nat]
  unfold wrdD
  rw [List.map_drop, List.take_of_length_le (by simp)]
  by_cases h : k ≤ (ws.map Da.str).length
  · rw [Nat.min_eq_left h]
  · rw [Nat.min_eq_right (by omega), List.drop_of_length_le (Nat.le_refl _), List.drop_of_length_le (by omega)]
theorem add_wrd {a b : List Str} (h : a.length + b.length ≤ 16777216) : dAdd (wrdD a) (wrdD b) = some (wrdD (a ++ b)) := by
  show (if _ then _ else _) = _
  rw [if_pos (by rw [line_eq, List.length_map, List.length_map]; exact h)]
  unfold wrdD
  rw [List.map_append]
def lnB (w : Str) : Bool := (tl w).all (fun c => decide (32 ≤ c ∧ c < 127)) && decide (w.length ≤ 12)
theorem lnB_ok {w : Str} (h : lnB w = true) : Ln w ∧ w.length ≤ 12 := by
  unfold lnB at h
  rw [Bool.and_eq_true, List.all_eq_true] at h
  exact ⟨fun c hc => of_decide_eq_true (h.1 c hc), of_decide_eq_true h.2⟩
theorem pickM {ms : List Str} {r : Int} (hm : ms.all lnB = true) (h1 : 0 ≤ r) (h2 : r < ms.length) : ∃ w, (Ln w ∧ w.length ≤ 12) ∧ dIdx (.tup (ms.map Da.str)) (.int r) = some (.str w) := by
  obtain ⟨d, hd, e⟩ := pickL (ds := ms.map Da.str) h1 (by rw [List.length_map]; exact h2)
  obtain ⟨w, hw, rfl⟩ := List.mem_map.mp hd
  exact ⟨w, lnB_ok (List.all_eq_true.mp hm w hw), e⟩
theorem num_strs (vs : List Int) : (vs.map fun v => Da.str (numS v)) = (numW vs).map Da.str := by
  unfold numW
  rw [List.map_map]
  rfl
theorem okSp : PyData.strOk spS = true := by decide +kernel
theorem okNl : PyData.strOk nlS = true := by decide +kernel
theorem split_empty : (Txt.split (Txt.join nlS []) nlS).length = 1 := by
  have e := split_tl (x := Txt.join nlS []) tl_nl nl_ok
  have e2 : tl (Txt.join nlS []) = [] := by rw [join_tl tl_nl]; rfl
  rw [e2] at e
  have := congrArg List.length e
  rw [List.length_map] at this
  exact this
theorem lta_len {n : Int} : ∀ (c : List Int) (lo : Int), lo ≤ n → (∀ x ∈ c, lo < iabs x ∧ iabs x ≤ n) → c.Pairwise lta → (c.length : Int) ≤ n - lo
  | [], lo, h0, h, p => by simp; omega
  | x :: c, lo, h0, h, p => by
    rw [List.pairwise_cons] at p
    have hx := h x List.mem_cons_self
    have := lta_len c (iabs x) hx.2 (fun y hy => ⟨p.1 y hy, (h y (List.mem_cons_of_mem _ hy)).2⟩) p.2
    rw [List.length_cons]
    omega
theorem isC_len {c : List Int} {n : Int} (h0 : 0 ≤ n) (h : isC c n) : (c.length : Int) ≤ n := by
  have := lta_len c 0 h0 (fun x hx => by
    have := h.1 x hx
    unfold iabs at *
    omega) h.2
  omega
theorem isCb_isC {c : List Int} {n : Int} (h : isCb c n = true) : isC c n := @of_decide_eq_true _ (Classical.propDecidable _) h
theorem split_one {z : Str} (h : 10 ∉ tl z) : Txt.split z nlS = [z] := by
  have e : Txt.join nlS [z] = z := ext_tl (by
    rw [join_tl tl_nl]
    rfl)
  have := split_join1 (ps := [z]) tl_nl nl_ok (by simp) fun p hp => by rw [List.mem_singleton.mp hp]; exact h
  rwa [e] at this
theorem split_one' {z : Str} (h : 32 ∉ tl z) : Txt.split z spS = [z] := by
  have e : Txt.join spS [z] = z := ext_tl (by
    rw [join_tl tl_sp]
    rfl)
  have := split_join1 (ps := [z]) tl_sp sp_ok (by simp) fun p hp => by rw [List.mem_singleton.mp hp]; exact h
  rwa [e] at this
end K03
end

section
set_option maxHeartbeats 4000000
namespace K03
open PySem PySem.Spec PyProof.Rows L2 Pu PySem.W Tx TL

/-! ### the head -/
abbrev pS : Str := PySem.Str.ofString "p"
abbrev wS : Str := PySem.Str.ofString "wcnf"
abbrev cS : Str := PySem.Str.ofString "c"
theorem okP : PyData.strOk pS = true := by decide +kernel
theorem okW : PyData.strOk wS = true := by decide +kernel
theorem okC : PyData.strOk cS = true := by decide +kernel
abbrev bigM : Int := 1000000000000
theorem dPow_10_12 : dPow (.int 10) (.int 12) = some (.int bigM) := rfl
theorem eqvs_str : ∀ xs ys : List Str, Da.eqvs (xs.map Da.str) (ys.map Da.str) = decide (xs.map tl = ys.map tl)
  | [], [] => rfl
  | [], y :: ys => rfl
  | x :: xs, [] => rfl
  | x :: xs, y :: ys => by
    show ((x == y) && Da.eqvs (xs.map Da.str) (ys.map Da.str)) = _
    rw [str_beq, eqvs_str xs ys, List.map_cons, List.map_cons]
    simp only [List.cons.injEq]
    by_cases h1 : tl x = tl y <;> by_cases h2 : xs.map tl = ys.map tl <;> simp [h1, h2]
theorem dNe_wrd {xs ys : List Str} (h1 : ∀ w ∈ xs, PyData.strOk w = true) (h2 : ∀ w ∈ ys, PyData.strOk w = true) : dNe (wrdD xs) (wrdD ys) = some (.bl (!decide (xs.map tl = ys.map tl))) := by
  unfold dNe
  rw [if_pos ⟨ok_strs h1 59, ok_strs h2 59⟩]
  show some (Da.bl (!Da.eqvs (xs.map Da.str) (ys.map Da.str))) = _
  rw [eqvs_str]
def hB (ws : List Str) : Bool := decide (ws.length = 5) && (decide ((ws.take 2).map tl = [tl pS, tl wS]) && (ws.drop 2).all fun w => numOk w bigM)
def hV (ws : List Str) : List Int := (ws.drop 2).map wholeV
def hX (v : List Int) : Bool := decide (300 < v.getD 0 0) || (decide (3300 < v.getD 1 0) || decide (v.getD 2 0 < 1))
def hdN (ws : List Str) : Option (Int × Int × Int) := if hB ws then (if hX (hV ws) then none else some ((hV ws).getD 0 0, (hV ws).getD 1 0, (hV ws).getD 2 0)) else none
def hdO : Option (Int × Int × Int) → Da
  | none => .non
  | some q => .tup [.int q.1, .int q.2.1, .int q.2.2]
theorem five_parts {α : Type} {l : List α} (h : l.length = 5) : ∃ a b c d e, l = [a, b, c, d, e] := by
  match l, h with
  | [a, b, c, d, e], _ => exact ⟨a, b, c, d, e, rfl⟩
def F_read_head : Fn := ⟨fun ds k _ => ∃ ws, ds = [wrdD ws] ∧ (∀ w ∈ ws, WOk w) ∧ k (hdO (hdN ws)), fun hk _ ⟨ws, e, o, h⟩ => ⟨ws, e, o, hk _ h⟩⟩
theorem sl_take2 (ws : List Str) : dSl (wrdD ws) none (some 2) = some (wrdD (ws.take 2)) := sl_take ws 2
theorem sl_take1 (ws : List Str) : dSl (wrdD ws) none (some 1) = some (wrdD (ws.take 1)) := sl_take ws 1
theorem sl_drop2 (ws : List Str) : dSl (wrdD ws) (some 2) none = some (wrdD (ws.drop 2)) := sl_drop ws 2
theorem num_whole' {w : Str} {m : Int} (h : numOk w m = true) : wholeB w = true := by
  unfold numOk at h
  rw [Bool.and_eq_true] at h
  exact h.1
theorem ok_pw : ∀ w ∈ [pS, wS], PyData.strOk w = true := fun w hw => by
  simp only [List.mem_cons, List.not_mem_nil, or_false] at hw
  rcases hw with rfl | rfl
  · exact okP
  · exact okW
theorem k_read_head : Keeps 1 N_read_head.length F_read_head (S_read_head F_is_number) := by
  rintro ds k x hl ⟨ws, rfl, o, h⟩
  show (S_read_head F_is_number).wp [some (.dat (wrdD ws)), none, none] _
  unfold S_read_head
  unfold hdN at h
  walk_at "wg"
  refine ⟨_, len_wrd _, ?_⟩
  walk_at "wg"
  refine ⟨_, dNe_i _ _, _, rfl, fun y => ⟨fun _ => ?_, fun z => Bool.noConfusion z⟩, fun y => ?_⟩
  · rw [if_neg] at h
    · exact h
    · unfold hB
      rw [Bool.not_eq_true'] at y
      have := of_decide_eq_false y
      rw [decide_eq_false (by omega : ¬ ws.length = 5)]
      simp
  have hl : ws.length = 5 := by
    rw [Bool.not_eq_false'] at y
    have := of_decide_eq_true y
    omega
  unfold hB at h
  rw [decide_eq_true hl, Bool.true_and] at h
  walk_at "wg"
  refine ⟨_, rfl, _, sl_take2 ws, ?_⟩
  walk_at "wg"
  refine ⟨show (2 : Nat) ≤ 1000 by decide, _, dNe_wrd (ys := [pS, wS]) (fun w hw => (o w (List.mem_of_mem_take hw)).ok) ok_pw, _, rfl, fun y => ⟨fun _ => ?_, fun z => Bool.noConfusion z⟩, fun y => ?_⟩
  · rw [Bool.not_eq_true'] at y
    have y : decide ((ws.take 2).map tl = [tl pS, tl wS]) = false := y
    rw [y] at h
    exact h
  have y : decide ((ws.take 2).map tl = [tl pS, tl wS]) = true := by
    rw [Bool.not_eq_false'] at y
    exact y
  rw [y, Bool.true_and] at h
  walk_at "wg"
  refine ⟨_, rfl, _, sl_drop2 ws, _, rfl, rfl, lcW_all Da.str (fun w => .bl (numOk w bigM)) (ws.drop 2) [] (fun w hw => ⟨_, rfl, fun K hK => ?_⟩) ?_⟩
  · walk_at "wg"
    exact ⟨_, dPow_10_12, rfl, w, bigM, rfl, o w (List.mem_of_mem_drop hw), hK⟩
  refine ⟨_, dAll_map _ (ws.drop 2), _, rfl, fun y => ?_, fun y => ?_⟩
  · rw [Bool.not_eq_true'] at y
    rw [y] at h
    exact h
  rw [Bool.not_eq_false'] at y
  rw [if_pos y] at h
  walk_at "wg"
  refine ⟨_, rfl, _, sl_drop2 ws, _, rfl, rfl, lcW_all Da.str (fun w => .int (wholeV w)) (ws.drop 2) [] (fun w hw => ⟨_, rfl, fun K hK => ?_⟩) ?_⟩
  · walk_at "wg"
    exact ⟨_, dInt_whole (num_whole' (List.all_eq_true.mp y w hw)), hK⟩
  obtain ⟨a, b, c, d, e, rfl⟩ := five_parts hl
  refine ⟨.tup [.int (wholeV c), .int (wholeV d), .int (wholeV e)], rfl, ?_⟩
  unfold hX hV at h
  have h : k (hdO (if (decide (300 < wholeV c) || (decide (3300 < wholeV d) || decide (wholeV e < 1))) = true then none else some (wholeV c, wholeV d, wholeV e))) := h
  walk_at "wg"
  refine ⟨_, rfl, ?_⟩
  walk_at "wg"
  refine ⟨_, rfl, _, rfl, fun v1 => ⟨fun _ => ?_, fun z => Bool.noConfusion z⟩, fun v1 => ?_⟩
  · have v1 : decide (300 < wholeV c) = true := v1
    rw [v1] at h
    exact h
  have v1 : decide (300 < wholeV c) = false := v1
  rw [v1, Bool.false_or] at h
  walk_at "wg"
  refine ⟨_, rfl, ?_⟩
  walk_at "wg"
  refine ⟨_, rfl, _, rfl, _, rfl, fun v2 => ⟨fun _ => ?_, fun z => Bool.noConfusion z⟩, fun v2 => ?_⟩
  · have v2 : decide (3300 < wholeV d) = true := v2
    rw [v2] at h
    exact h
  have v2 : decide (3300 < wholeV d) = false := v2
  rw [v2, Bool.false_or] at h
  walk_at "wg"
  refine ⟨_, rfl, ?_⟩
  walk_at "wg"
  refine ⟨_, rfl, _, rfl, fun v3 => ?_, fun v3 => ?_⟩
  · have v3 : decide (wholeV e < 1) = true := v3
    rw [v3] at h
    exact h
  · have v3 : decide (wholeV e < 1) = false := v3
    rw [v3] at h
    exact h
end K03
end

section
set_option maxHeartbeats 4000000
namespace K03
open PySem PySem.Spec PyProof.Rows L2 Pu PySem.W Tx TL

/-! ### a row -/
def lastZ (ws : List Str) : Bool := match ws.getLast? with
  | none => false
  | some l => decide (tl l = [48])
def rB (ws : List Str) : Bool := decide (2 ≤ ws.length) && (lastZ ws && ws.all wholeB)
def rV (ws : List Str) : List Int := ws.map wholeV
def rL (ws : List Str) : List Int := ((rV ws).drop 1).dropLast
def wB (v top : Int) : Bool := (decide (1 ≤ v) && decide (v ≤ top)) && !(decide (v < top) && decide (1000000000 < v))
def lB (ls : List Int) (n : Int) : Bool := ls.all fun x => decide (x ≠ 0) && decide (iabs x ≤ n)
def oB (ls : List Int) : Bool := ls.any fun x => decide (-x ∈ ls)
theorem oB_iff (ls : List Int) : oB ls = true ↔ opp ls := by
  unfold oB opp
  rw [List.any_eq_true]
  constructor
  · rintro ⟨x, h, e⟩
    exact ⟨x, h, of_decide_eq_true e⟩
  · rintro ⟨x, h, e⟩
    exact ⟨x, h, decide_eq_true e⟩
/-- the clause of these literals -/
def ClO (ls out : List Int) : Prop := (∀ x, x ∈ out ↔ x ∈ ls) ∧ out.Pairwise lta
noncomputable def clOf (ls : List Int) : List Int := Classical.epsilon (ClO ls)
theorem clOf_eq {ls out : List Int} (h : ClO ls out) : clOf ls = out := by
  have h2 : ClO ls (clOf ls) := Classical.epsilon_spec ⟨out, h⟩
  exact uniq (lt := lta) (fun a b h1 h2 => by unfold lta at *; omega) (fun x => (h2.1 x).trans (h.1 x).symm) h2.2 h.2
noncomputable def rowN (ws : List Str) (n top : Int) : Option Cw := if rB ws then (if wB ((rV ws).getD 0 0) top then (if lB (rL ws) n then (if oB (rL ws) then none else some (clOf (rL ws), (rV ws).getD 0 0)) else none) else none) else none
def rowO : Option Cw → Da
  | none => .non
  | some q => sfD q
theorem cut_mid (l : List Da) (h : 1 ≤ l.length) : Pu.cutD l (some 1) (some (-1)) = (l.drop 1).dropLast := by
  unfold Pu.cutD
  rw [sIx_m1, show HT.sIx l.length 0 (some 1) = min 1 l.length from HT.sIx_nat l.length 0 1, Nat.min_eq_left h, List.dropLast_eq_take, List.length_drop]
theorem sl_mid {vs : List Int} (h : 1 ≤ vs.length) : dSl (.lst (dis vs)) (some 1) (some (-1)) = some (.lst (dis ((vs.drop 1).dropLast))) := by
  show some (Da.lst (Pu.cutD _ _ _)) = _
  rw [cut_mid _ (by unfold dis; rw [List.length_map]; exact h)]
  unfold dis
  rw [← List.map_drop, List.map_dropLast]
theorem idx_lst {vs : List Int} (h : 1 ≤ vs.length) : dIdx (.lst (dis vs)) (.int 0) = some (.int (vs.getD 0 0)) := by
  cases vs with
  | nil => simp at h
  | cons v r => exact atI_nat (j := 0) rfl
def cat03 (nm : Str) : Option Bool := if nm = (PySem.Str.ofString "BadClause") then some true else none
theorem cat_bc : cat03 (PySem.Str.ofString "BadClause") = some true := if_pos rfl
def headD (n many top : Int) : Da := .tup [.int n, .int many, .int top]
def F_read_row : Fn := ⟨fun ds k _ => ∃ ws n many top, ds = [wrdD ws, headD n many top] ∧ (∀ w ∈ ws, WOk w) ∧ ws.length ≤ 50 ∧ n ≤ 300 ∧ k (rowO (rowN ws n top)), fun hk _ ⟨ws, n, m, t, e, o, l, h3, h⟩ => ⟨ws, n, m, t, e, o, l, h3, hk _ h⟩⟩
theorem lastZ_app (a : List Str) (b : Str) : lastZ (a ++ [b]) = decide (tl b = [48]) := by
  unfold lastZ
  rw [List.getLast?_concat]
theorem idx_last (a : List Str) (b : Str) : dIdx (wrdD (a ++ [b])) (.int (-1)) = some (.str b) := by
  show atI ((a ++ [b]).map Da.str) (-1) = _
  rw [List.map_append]
  exact atI_last _ _
theorem rV_dis (ws : List Str) : (ws.map fun w => Da.int (wholeV w)) = dis (rV ws) := by
  unfold dis rV
  rw [List.map_map]
  rfl
theorem rL_len (ws : List Str) : (rL ws).length ≤ ws.length := by
  unfold rL rV
  rw [List.length_dropLast, List.length_drop, List.length_map]
  omega
theorem k_read_row : Keeps 2 N_read_row.length F_read_row (S_read_row F_clause_of F_is_whole cat03) := by
  rintro ds k x hl ⟨ws, n, many, top, rfl, o, hlen, hn, h⟩
  show (S_read_row F_clause_of F_is_whole cat03).wp [some (.dat (wrdD ws)), some (.dat (headD n many top)), none, none, none] _
  unfold S_read_row
  unfold rowN at h
  walk_at "wg"
  refine ⟨_, len_wrd _, ?_⟩
  walk_at "wg"
  refine ⟨_, rfl, _, rfl, fun y => ⟨fun _ => ?_, fun z => Bool.noConfusion z⟩, fun y => ?_⟩
  · have y := of_decide_eq_true y
    rw [if_neg] at h
    · exact h
    · unfold rB
      rw [decide_eq_false (by omega : ¬ 2 ≤ ws.length)]
      simp
  have hl2 : 2 ≤ ws.length := by
    have := of_decide_eq_false y
    omega
  unfold rB at h
  rw [decide_eq_true hl2, Bool.true_and] at h
  rcases last_cases ws with rfl | ⟨a, b, rfl⟩
  · simp at hl2
  have ob : WOk b := o b (by simp)
  rw [lastZ_app] at h
  walk_at "wg"
  refine ⟨_, rfl, _, idx_last a b, ?_⟩
  walk_at "wg"
  refine ⟨_, dNe_s ob.ok okZr, _, rfl, fun z => ⟨fun _ => ?_, fun z => Bool.noConfusion z⟩, fun z => ?_⟩
  · rw [tl_zr, Bool.not_eq_true'] at z
    rw [z] at h
    exact h
  rw [tl_zr, Bool.not_eq_false'] at z
  rw [z, Bool.true_and] at h
  walk_at "wg"
  refine ⟨_, rfl, rfl, lcW_all Da.str (fun w => .bl (wholeB w)) (a ++ [b]) [] (fun w hw => ⟨_, rfl, fun K hK => ?_⟩) ?_⟩
  · walk_at "wg"
    exact ⟨rfl, w, rfl, o w hw, hK⟩
  refine ⟨_, dAll_map _ (a ++ [b]), _, rfl, fun y => ?_, fun y => ?_⟩
  · rw [Bool.not_eq_true'] at y
    rw [y] at h
    exact h
  rw [Bool.not_eq_false'] at y
  rw [if_pos y] at h
  generalize a ++ [b] = ws at o hlen h hl2 y
  have hv : 1 ≤ (rV ws).length := by unfold rV; rw [List.length_map]; omega
  walk_at "wg"
  refine ⟨_, rfl, rfl, lcW_all Da.str (fun w => .int (wholeV w)) ws [] (fun w hw => ⟨_, rfl, fun K hK => ?_⟩) ?_⟩
  · walk_at "wg"
    exact ⟨_, dInt_whole (List.all_eq_true.mp y w hw), hK⟩
  rw [List.nil_append, rV_dis]
  have ex : ∀ s2 s4 : Option Ce, True := fun _ _ => trivial
  have rest : wB ((rV ws).getD 0 0) top = true → Sx.wp (sSeq (sIf (bNot (bT (eOpN dAll (eCons (eFrz (eLC [4] (iSeq (eSl (eVar 3) (oSome (eC (.int 1))) (oSome (eOp1 dNeg (eC (.int 1)))))) (.name 4) bYes (eAnd (eOp2 dNe (eVar 4) (eC (.int 0))) (eOp2 dLe (eOpN dAbs (eCons (eVar 4) (eNil))) (eIdx (eVar 1) (eC (.int 0))))))) (eNil))))) (sRet (eC .non)) (sPass)) (sTryU cat03 (sRet (eTup (eCons (eCall F_clause_of 1 (eCons (eSl (eVar 3) (oSome (eC (.int 1))) (oSome (eOp1 dNeg (eC (.int 1))))) (eNil))) (eCons (eIdx (eVar 3) (eC (.int 0))) (eNil))))) (sRet (eC .non))))
      [some (.dat (wrdD ws)), some (.dat (headD n many top)), none, some (.dat (.lst (dis (rV ws)))), none] (flFn k x) := by
    intro hw
    rw [if_pos hw] at h
    walk_at "wg"
    refine ⟨_, rfl, ?_⟩
    walk_at "wg"
    refine ⟨_, rfl, _, rfl, _, sl_mid hv, _, rfl, rfl, lcW_all Da.int (fun x => .bl (decide (x ≠ 0) && decide (iabs x ≤ n))) (rL ws) [] (fun x hx => ⟨_, rfl, fun K hK => ?_⟩) ?_⟩
    · walk_at "wg"
      refine ⟨_, dNe_int _ _, _, rfl, fun y => ?_, fun y => ?_⟩
      · rw [y, Bool.true_and] at hK
        walk_at "wg"
        refine ⟨_, rfl, ?_⟩
        walk_at "wg"
        exact ⟨_, rfl, _, rfl, hK⟩
      · rw [y] at hK
        exact hK
    refine ⟨_, dAll_map _ (rL ws), _, rfl, fun y => ?_, fun y => ?_⟩
    · rw [Bool.not_eq_true'] at y
      rw [if_neg (by unfold lB; rw [y]; simp)] at h
      walk_at "wg"
      exact h
    rw [Bool.not_eq_false'] at y
    rw [if_pos (show lB (rL ws) n = true from y)] at h
    have nb : ¬ bad (rL ws) := by
      rintro ⟨x, hx, q⟩
      have := List.all_eq_true.mp y x hx
      rw [Bool.and_eq_true, decide_eq_true_eq, decide_eq_true_eq] at this
      omega
    walk_at "wg"
    refine ⟨_, rfl, ?_⟩
    walk_at "wg"
    refine ⟨_, rfl, _, rfl, _, sl_mid hv, rfl, rL ws, _, rfl, .inl rfl, by have := rL_len ws; omega, fun q => absurd q nb, fun _ op => ?_, fun _ nop out o1 o2 => ?_⟩
    · rw [if_pos ((oB_iff _).mpr op)] at h
      unfold tryExU
      dsimp only
      rw [cat_bc]
      exact h
    · rw [if_neg fun q => nop ((oB_iff _).mp q), clOf_eq ⟨o1, o2⟩] at h
      walk_at "wg"
      exact ⟨_, idx_lst hv, show (2 : Nat) ≤ 1000 by decide, h⟩
  generalize hv0 : (rV ws).getD 0 0 = v at h rest
  have ix : dIdx (.lst (dis (rV ws))) (.int 0) = some (.int v) := by rw [idx_lst hv, hv0]
  have no : wB v top = false → k .non := fun e => by
    rw [if_neg (by rw [e]; simp)] at h
    exact h
  unfold wB at no rest
  walk_at "wg"
  refine ⟨_, ix, _, rfl, _, rfl, fun g1 => ?_, fun g1 => ?_⟩
  · have g1 : decide (1 ≤ v) = true := g1
    rw [g1, Bool.true_and] at no rest
    walk_at "wg"
    refine ⟨_, rfl, _, rfl, _, rfl, fun g2 => ⟨fun _ => ?_, fun z => Bool.noConfusion z⟩, fun g2 => ?_⟩
    · rw [Bool.not_eq_true'] at g2
      have g2 : decide (v ≤ top) = false := g2
      rw [g2] at no
      exact no rfl
    rw [Bool.not_eq_false'] at g2
    have g2 : decide (v ≤ top) = true := g2
    rw [g2, Bool.true_and] at no rest
    walk_at "wg"
    refine ⟨_, ix, ?_⟩
    walk_at "wg"
    refine ⟨_, rfl, _, rfl, _, rfl, fun g3 => ?_, fun g3 => ⟨fun z => Bool.noConfusion z, fun _ => ?_⟩⟩
    · have g3 : decide (v < top) = true := g3
      rw [g3, Bool.true_and] at no rest
      walk_at "wg"
      refine ⟨_, ix, ?_⟩
      walk_at "wg"
      refine ⟨_, rfl, _, rfl, fun g4 => ?_, fun g4 => ?_⟩
      · have g4 : decide (1000000000 < v) = true := g4
        rw [g4] at no
        walk_at "wg"
        exact no rfl
      · have g4 : decide (1000000000 < v) = false := g4
        rw [g4] at rest
        exact rest rfl
    · have g3 : decide (v < top) = false := g3
      rw [g3] at rest
      exact rest rfl
  · have g1 : decide (1 ≤ v) = false := g1
    rw [g1] at no
    walk_at "wg"
    exact ⟨_, rfl, fun _ => ⟨fun _ => no rfl, fun z => Bool.noConfusion z⟩, fun z => Bool.noConfusion z⟩
end K03
end

section
set_option maxHeartbeats 4000000
namespace K03
open PySem PySem.Spec PyProof.Rows L2 Pu PySem.W Tx TL

/-! ### _law_row -/
theorem lta_of2 {ls out : List Int} (o1 : ∀ x, x ∈ out ↔ x ∈ ls) (o2 : out.Pairwise R2) (o3 : out.Nodup) (no : ¬ opp ls) : out.Pairwise lta := by
  refine (List.Pairwise.and o2 o3).imp_of_mem fun {a b} ha hb ⟨h1, h2⟩ => ?_
  unfold lta
  rcases h1 with h1 | ⟨h1, _⟩
  · exact h1
  · rcases iabs_two h1 with e | e
    · exact absurd e h2
    · exact absurd ⟨a, (o1 a).mp ha, by rw [← e]; exact (o1 b).mp hb⟩ no
theorem dNe_nilI (l : List Int) : dNe (.lst (dis l)) (.lst []) = some (.bl (!l.isEmpty)) := by
  unfold dNe
  rw [if_pos ⟨all_ok (ok_int 59) l, rfl⟩]
  cases l <;> rfl
theorem none_in (ws : List Str) : dIn false .non (.lst (ws.map wholeD)) = some (.bl (!ws.all wholeB)) := by
  have fl : (ws.map wholeD).all Da.flat = true := by
    rw [List.all_map, List.all_eq_true]
    intro w _
    show (wholeD w).flat = true
    unfold wholeD
    split <;> rfl
  show (if Da.flat .non = true ∧ _ then _ else _) = _
  rw [if_pos ⟨rfl, fl⟩, Bool.false_xor, List.any_map]
  have : (ws.any ((fun z => z.eqv .non) ∘ wholeD)) = ws.any fun w => !wholeB w := by
    congr 1
    funext w
    show (wholeD w).eqv .non = _
    unfold wholeD
    by_cases hw : wholeB w = true
    · rw [if_pos hw, hw]
      rfl
    · rw [if_neg hw]
      rw [Bool.not_eq_true] at hw
      rw [hw]
      rfl
  rw [this, List.all_eq_not_any_not, Bool.not_not]
theorem wholes_dis {ws : List Str} (h : ws.all wholeB = true) : ws.map wholeD = dis (rV ws) := by
  unfold dis rV
  rw [List.map_map]
  refine List.map_congr_left fun w hw => ?_
  exact wholeD_pos (List.all_eq_true.mp h w hw)
def badL (ls : List Int) (n x : Int) : Bool := decide (x = 0) || (decide (n < iabs x) || decide (0 - x ∈ ls))
theorem filt_badL (ls : List Int) (n : Int) : (ls.filter (badL ls n)).isEmpty = (lB ls n && !oB ls) := by
  rw [Bool.eq_iff_iff, List.isEmpty_iff, List.filter_eq_nil_iff, Bool.and_eq_true, Bool.not_eq_true', Bool.eq_false_iff, ne_eq, oB_iff]
  unfold lB opp badL
  rw [List.all_eq_true]
  constructor
  · intro h
    refine ⟨fun x hx => ?_, fun ⟨x, hx, q⟩ => ?_⟩
    · have := h x hx
      simp at this ⊢
      omega
    · have := h x hx
      simp at this
      exact this.2.2 q
  · rintro ⟨h1, h2⟩ x hx
    have q := h1 x hx
    have q2 : ¬ (0 - x ∈ ls) := fun z => h2 ⟨x, hx, by rwa [Int.zero_sub] at z⟩
    simp at q q2 ⊢
    exact ⟨q.1, q.2, q2⟩
def F__law_row : Fn := ⟨fun ds k _ => ∃ ws n top, ds = [wrdD ws, .int n, .int top] ∧ (∀ w ∈ ws, WOk w) ∧ ws.length ≤ 50 ∧ k (rowO (rowN ws n top)), fun hk _ ⟨ws, n, t, e, o, l, h⟩ => ⟨ws, n, t, e, o, l, hk _ h⟩⟩
theorem k__law_row : Keeps 3 N__law_row.length F__law_row (S__law_row F__law_whole) := by
  rintro ds k x hl ⟨ws, n, top, rfl, o, hlen, h⟩
  show (S__law_row F__law_whole).wp [some (.dat (wrdD ws)), some (.dat (.int n)), some (.dat (.int top)), none, none, none, none, none] _
  unfold S__law_row
  unfold rowN at h
  walk_at "wg"
  refine ⟨_, rfl, rfl, lcW_all Da.str wholeD ws [] (fun w hw => ⟨_, rfl, fun K hK => ?_⟩) ?_⟩
  · walk_at "wg"
    exact ⟨rfl, w, rfl, o w hw, hK⟩
  rw [List.nil_append]
  walk_at "wg"
  refine ⟨.int ws.length, by show some (Da.int ((ws.map wholeD).length : Nat)) = _; rw [List.length_map], ?_⟩
  walk_at "wg"
  refine ⟨_, rfl, _, rfl, fun y => ⟨fun _ => ?_, fun z => Bool.noConfusion z⟩, fun y => ?_⟩
  · have y := of_decide_eq_true y
    rw [if_neg] at h
    · exact h
    · unfold rB
      rw [decide_eq_false (by omega : ¬ 2 ≤ ws.length)]
      simp
  have hl2 : 2 ≤ ws.length := by
    have := of_decide_eq_false y
    omega
  unfold rB at h
  rw [decide_eq_true hl2, Bool.true_and] at h
  walk_at "wg"
  refine ⟨_, none_in ws, _, rfl, fun y => ⟨fun _ => ?_, fun z => Bool.noConfusion z⟩, fun y => ?_⟩
  · rw [Bool.not_eq_true'] at y
    rw [y, Bool.and_false] at h
    exact h
  rw [Bool.not_eq_false'] at y
  rw [y, Bool.and_true] at h
  rcases last_cases ws with rfl | ⟨a, b, rfl⟩
  · simp at hl2
  have ob : WOk b := o b (by simp)
  rw [lastZ_app] at h
  walk_at "wg"
  refine ⟨_, rfl, _, idx_last a b, ?_⟩
  walk_at "wg"
  refine ⟨_, dNe_s ob.ok okZr, _, rfl, fun z => ?_, fun z => ?_⟩
  · rw [tl_zr, Bool.not_eq_true'] at z
    rw [z] at h
    exact h
  rw [tl_zr, Bool.not_eq_false'] at z
  rw [if_pos z] at h
  generalize a ++ [b] = ws at o hlen h hl2 y
  have hv : 1 ≤ (rV ws).length := by unfold rV; rw [List.length_map]; omega
  rw [wholes_dis y]
  walk_at "wg"
  refine ⟨_, rfl, ?_⟩
  walk_at "wg"
  refine ⟨_, rfl, _, rfl, _, sl_mid hv, ?_⟩
  show Sx.wp _ [some (.dat (wrdD ws)), some (.dat (.int n)), some (.dat (.int top)), some (.dat (.lst (dis (rV ws)))), none, some (.dat (.lst (dis (rL ws)))), none, none] _
  have lenL : (rL ws).length ≤ 50 := Nat.le_trans (rL_len ws) hlen
  generalize hv0 : (rV ws).getD 0 0 = v at h
  have ix : dIdx (.lst (dis (rV ws))) (.int 0) = some (.int v) := by rw [idx_lst hv, hv0]
  generalize rL ws = ls at h lenL
  have no : wB v top = false → k .non := fun e => by
    rw [if_neg (by rw [e]; simp)] at h
    exact h
  have rest : wB v top = true → Sx.wp (sSeq (sIf (bV (eOp2 dNe (eFrz (eLC [6] (iSeq (eVar 5)) (.name 6) (bOr (bV (eOp2 dEq (eVar 6) (eC (.int 0)))) (bOr (bV (eOp2 dGt (eOpN dAbs (eCons (eVar 6) (eNil))) (eVar 1))) (bV (eOp2 (dIn false) (eOp2 dSub (eC (.int 0)) (eVar 6)) (eVar 5))))) (eVar 6))) (eFrz (eDisp (eNil))))) (sRet (eC .non)) (sPass)) (sRet (eTup (eCons (eOpN dTuple (eCons (eFrz (eLC [7] (iSeq (eFrz (eSortS (eSetOf (eLC [6] (iSeq (eVar 5)) (.name 6) bYes (eTup (eCons (eOpN dAbs (eCons (eVar 6) (eNil))) (eCons (eVar 6) (eNil))))))))) (.name 7) bYes (eIdx (eVar 7) (eC (.int 1))))) (eNil))) (eCons (eIdx (eVar 3) (eC (.int 0))) (eNil))))))
      [some (.dat (wrdD ws)), some (.dat (.int n)), some (.dat (.int top)), some (.dat (.lst (dis (rV ws)))), none, some (.dat (.lst (dis ls))), none, none] (flFn k x) := by
    intro hw
    rw [if_pos hw] at h
    walk_at "wg"
    refine ⟨_, rfl, rfl, lcW_of Da.int (badL ls n) Da.int ls [] (fun x hx => ⟨_, rfl, fun K hK => ?_, fun _ K hK => ?_⟩) ?_⟩
    · unfold badL at hK
      walk_at "wg"
      refine ⟨_, dEq_int _ _, _, rfl, fun y => ?_, fun y => ?_⟩
      · rw [y] at hK
        exact hK
      rw [y, Bool.false_or] at hK
      walk_at "wg"
      refine ⟨_, rfl, ?_⟩
      walk_at "wg"
      refine ⟨_, rfl, _, rfl, fun y => ?_, fun y => ?_⟩
      · have y : decide (n < iabs x) = true := y
        rw [y] at hK
        exact hK
      have y : decide (n < iabs x) = false := y
      rw [y, Bool.false_or] at hK
      walk_at "wg"
      refine ⟨_, rfl, ?_⟩
      walk_at "wg"
      exact ⟨_, dIn_lst false (0 - x) ls, _, rfl, by rw [Bool.false_xor]; exact hK⟩
    · walk_at "wg"
      exact hK
    walk_at "wg"
    refine ⟨show (0 : Nat) ≤ 1000 by decide, _, dNe_nilI _, _, rfl, fun y => ?_, fun y => ?_⟩
    · rw [Bool.not_eq_true', filt_badL, Bool.and_eq_false_iff] at y
      have e : k .non := by
        rcases y with y | y
        · rw [if_neg (by rw [y]; simp)] at h
          exact h
        · rw [Bool.not_eq_false'] at y
          rw [y] at h
          split at h <;> exact h
      walk_at "wg"
      exact e
    rw [Bool.not_eq_false', filt_badL, Bool.and_eq_true, Bool.not_eq_true'] at y
    rw [if_pos y.1, if_neg (by rw [y.2]; simp)] at h
    have nop : ¬ opp ls := fun q => by
      have := (oB_iff ls).mpr q
      rw [y.2] at this
      cases this
    walk_at "wg"
    refine ⟨_, rfl, rfl, lcW_all Da.int enc2 ls [] (fun y hy => ⟨_, rfl, fun K hK => ?_⟩) ?_⟩
    · walk_at "wg"
      refine ⟨_, rfl, ?_⟩
      walk_at "wg"
      exact ⟨show (2 : Nat) ≤ 1000 by decide, hK⟩
    rw [List.nil_append]
    refine ⟨⟨by rw [List.length_map]; omega, fun y hy => ?_⟩, fun a ha b hb' => ?_, by rw [List.length_map]; omega, fun ms hm => ?_⟩
    · obtain ⟨z, _, rfl⟩ := List.mem_map.mp hy
      rfl
    · obtain ⟨y, _, rfl⟩ := List.mem_map.mp ha
      obtain ⟨z, _, rfl⟩ := List.mem_map.mp hb'
      simp [enc2, Da.py, Da.pys, alike, alikeAll]
    obtain ⟨out, o1, o2, o3, e⟩ := ord2 hm
    rw [e]
    refine ⟨_, rfl, rfl, lcW_all enc2 Da.int out [] (fun y hy => ⟨_, rfl, fun K hK => ?_⟩) ?_⟩
    · walk_at "wg"
      exact ⟨_, rfl, hK⟩
    rw [clOf_eq ⟨o1, lta_of2 o1 o2 o3 nop⟩] at h
    refine ⟨.tup (dis out), rfl, ?_⟩
    walk_at "wg"
    exact ⟨_, ix, show (2 : Nat) ≤ 1000 by decide, h⟩
  unfold wB at no rest
  walk_at "wg"
  refine ⟨_, ix, _, rfl, _, rfl, fun g1 => ?_, fun g1 => ?_⟩
  · have g1 : decide (1 ≤ v) = true := g1
    rw [g1, Bool.true_and] at no rest
    walk_at "wg"
    refine ⟨_, rfl, _, rfl, fun g2 => ⟨fun _ => ?_, fun z => Bool.noConfusion z⟩, fun g2 => ?_⟩
    · rw [Bool.not_eq_true'] at g2
      have g2 : decide (v ≤ top) = false := g2
      rw [g2] at no
      exact no rfl
    rw [Bool.not_eq_false'] at g2
    have g2 : decide (v ≤ top) = true := g2
    rw [g2, Bool.true_and] at no rest
    walk_at "wg"
    refine ⟨_, ix, ?_⟩
    walk_at "wg"
    refine ⟨_, rfl, _, rfl, fun g3 => ?_, fun g3 => ⟨fun z => Bool.noConfusion z, fun _ => ?_⟩⟩
    · have g3 : decide (v < top) = true := g3
      rw [g3, Bool.true_and] at no rest
      walk_at "wg"
      refine ⟨_, ix, ?_⟩
      walk_at "wg"
      refine ⟨_, dPow_10_9, _, rfl, _, rfl, fun g4 => ?_, fun g4 => ?_⟩
      · have g4 : decide (1000000000 < v) = true := g4
        rw [g4] at no
        walk_at "wg"
        exact no rfl
      · have g4 : decide (1000000000 < v) = false := g4
        rw [g4] at rest
        exact rest rfl
    · have g3 : decide (v < top) = false := g3
      rw [g3] at rest
      exact rest rfl
  · have g1 : decide (1 ≤ v) = false := g1
    rw [g1] at no
    walk_at "wg"
    exact ⟨_, rfl, fun _ => ⟨fun _ => no rfl, fun z => Bool.noConfusion z⟩, fun z => Bool.noConfusion z⟩
end K03
end

section
set_option maxHeartbeats 4000000
namespace K03
open PySem PySem.Spec PyProof.Rows L2 Pu PySem.W Tx TL

/-! ### all rows, plain -/
def comB (ws : List Str) : Bool := decide ((ws.take 1).map tl = [tl cS])
def enumP : Nat → List Str → List (Nat × Str)
  | _, [] => []
  | i, z :: r => (i, z) :: enumP (i + 1) r
theorem enumP_enum : ∀ (i : Nat) (ls : List Str), enumF i (ls.map Da.str) = (enumP i ls).map fun p => Da.tup [.int ((p.1 : Nat) : Int), .str p.2]
  | _, [] => rfl
  | i, z :: r => by
    rw [List.map_cons]
    show _ :: enumF (i + 1) (r.map Da.str) = _
    rw [enumP_enum (i + 1) r]
    rfl
theorem enumP_range : ∀ (ls : List Str) (i : Nat), (List.range' i ls.length).map (fun j : Nat => Da.int (0 + (j : Int))) = (enumP i ls).map fun p => Da.int ((p.1 : Nat) : Int)
  | [], _ => rfl
  | z :: r, i => by
    rw [List.length_cons, List.range'_succ, List.map_cons, enumP_range r (i + 1), Int.zero_add]
    rfl
theorem enumP_mem : ∀ {ls : List Str} {i : Nat} {p : Nat × Str}, p ∈ enumP i ls → i ≤ p.1 ∧ p.1 < i + ls.length ∧ ls[p.1 - i]? = some p.2
  | [], _, _, h => by cases h
  | z :: r, i, p, h => by
    rcases List.mem_cons.mp h with rfl | h
    · refine ⟨Nat.le_refl _, by simp, ?_⟩
      simp
    · obtain ⟨a, b, c⟩ := enumP_mem h
      refine ⟨by omega, by rw [List.length_cons]; omega, ?_⟩
      rw [show p.1 - i = (p.1 - (i + 1)) + 1 by omega]
      exact c
theorem enumP_len : ∀ (ls : List Str) (i : Nat), (enumP i ls).length = ls.length
  | [], _ => rfl
  | z :: r, i => by simp [enumP, enumP_len r (i + 1)]
def rws (ls : List Str) : List (Nat × Str) := (enumP 0 ls).filter fun p => !comB (wordsOf p.2)
noncomputable def stepW (ws : List Str) (n many top : Int) (hs : List (List Int)) (ss : List Cw) : Option (List (List Int) × List Cw) := match rowN ws n top with
  | none => none
  | some q => if (hs.length : Int) + (ss.length : Int) = many then none else if q.2 = top then some (hs ++ [q.1], ss) else some (hs, ss ++ [q])
inductive Rd
  | ok (n : Int) (hs : List (List Int)) (ss : List Cw)
  | bad (i : Nat)
noncomputable def goW (n many top : Int) (tot : Nat) : List (Nat × Str) → List (List Int) → List Cw → Rd
  | [], hs, ss => if (hs.length : Int) + (ss.length : Int) < many then .bad tot else .ok n hs ss
  | p :: r, hs, ss => match stepW (wordsOf p.2) n many top hs ss with
    | none => .bad p.1
    | some q => goW n many top tot r q.1 q.2
noncomputable def rdT (ls : List Str) : Rd := match rws ls with
  | [] => .bad ls.length
  | p :: r => match hdN (wordsOf p.2) with
    | none => .bad p.1
    | some q => goW q.1 q.2.1 q.2.2 ls.length r [] []
theorem stepW_len {ws : List Str} {n many top : Int} {hs ss q} (e : stepW ws n many top hs ss = some q) : q.1.length + q.2.length = hs.length + ss.length + 1 := by
  unfold stepW at e
  split at e
  · cases e
  · split at e
    · cases e
    · split at e
      · cases e; simp; omega
      · cases e; simp; omega
/-! ### read_wcnf: one row -/
abbrev bodyW : Sx := (sSeq (sSet 9 (eCall F_read_row 2 (eCons (eVar 8) (eCons (eVar 5) (eNil))))) (sSeq (sIf (bOr (bV (eOp2 dIsN (eVar 9) (eC .non))) (bV (eOp2 dEq (eOp2 dAdd (eLenO 6) (eLenO 7)) (eIdx (eVar 5) (eC (.int 1)))))) (sRaise (PySem.Str.ofString "BadText") (PySem.Str.ofString "at") (eVar 3)) (sPass)) (sIf (bV (eOp2 dEq (eIdx (eVar 9) (eC (.int 1))) (eIdx (eVar 5) (eC (.int 2))))) (sAppend 6 (eIdx (eVar 9) (eC (.int 0)))) (sAppend 7 (eVar 9)))))
abbrev rowsD (l : List (Nat × Str)) : Da := .lst (l.map fun p => .tup [.int ((p.1 : Nat) : Int), wrdD (wordsOf p.2)])
abbrev rcE (z : Str) (ls : List Str) (l : List (Nat × Str)) (n many top : Int) (hs : List (List Int)) (ss : List Cw) (s3 s8 s9 : Option Ce) : En := [some (.dat (.str z)), some (.dat (wrdD ls)), some (.dat (rowsD l)), s3, none, some (.dat (headD n many top)), some (.own (hs.map cl)), some (.own (ss.map sfD)), s8, s9]
/-- the words of a line -/
def LOk (l : Str) : Prop := WOk l ∧ (wordsOf l).length ≤ 50
theorem row_step {z : Str} {ls : List Str} {l : List (Nat × Str)} {n many top : Int} {w : Str} {E : Fl} {i : Nat} {hs : List (List Int)} {ss : List Cw} {s9 : Option Ce} (ow : LOk w) (hn : n ≤ 300) (hi : i ≤ 300) (hl : hs.length + ss.length ≤ 300)
    (hE : ∀ q, stepW (wordsOf w) n many top hs ss = some q → ∀ s3 s8 s9, E.nx (rcE z ls l n many top q.1 q.2 s3 s8 s9)) (hX : stepW (wordsOf w) n many top hs ss = none → ∀ ρ, E.ex (eAt ((i : Nat) : Int)) ρ) :
    Sx.wp bodyW (rcE z ls l n many top hs ss (some (.dat (.int ((i : Nat) : Int)))) (some (.dat (wrdD (wordsOf w)))) s9) E := by
  have ha : ArgD (.int ((i : Nat) : Int)) := argD_at (Nat.lt_of_le_of_lt hi (by decide))
  unfold bodyW
  unfold stepW at hE hX
  walk_at "wg"
  refine ⟨rfl, wordsOf w, n, many, top, rfl, fun w' hw => words_ok ow.1 hw, ow.2, hn, ?_⟩
  cases er : rowN (wordsOf w) n top with
  | none =>
    rw [er] at hX
    walk_at "wg"
    exact ⟨_, rfl, _, rfl, fun _ => ⟨fun _ => ⟨ha, hX rfl _⟩, fun z => Bool.noConfusion z⟩, fun z => Bool.noConfusion z⟩
  | some q =>
    rw [er] at hE hX
    dsimp only at hE hX
    walk_at "wg"
    refine ⟨_, rfl, _, rfl, fun z => Bool.noConfusion z, fun _ => ?_⟩
    walk_at "wg"
    refine ⟨_, rfl, ?_⟩
    walk_at "wg"
    refine ⟨_, rfl, _, rfl, ?_⟩
    walk_at "wg"
    refine ⟨_, rfl, _, dEq_int _ _, _, rfl, fun v => ?_, fun v => ?_⟩
    · have v : (hs.length : Int) + (ss.length : Int) = many := by
        have := of_decide_eq_true v
        rwa [List.length_map, List.length_map] at this
      rw [if_pos v] at hX
      walk_at "wg"
      exact ⟨ha, hX rfl _⟩
    · have v : ¬ (hs.length : Int) + (ss.length : Int) = many := by
        have := of_decide_eq_false v
        rwa [List.length_map, List.length_map] at this
      rw [if_neg v] at hE
      walk_at "wg"
      refine ⟨_, rfl, ?_⟩
      walk_at "wg"
      refine ⟨_, rfl, _, dEq_int _ _, _, rfl, fun u => ?_, fun u => ?_⟩
      · have u := of_decide_eq_true u
        rw [if_pos u] at hE
        walk_at "wg"
        refine ⟨_, rfl, ?_⟩
        walk_at "wg"
        refine ⟨_, rfl, _, rfl, by rw [List.length_map]; omega, ?_⟩
        have := hE _ rfl
        unfold rcE at this
        rw [List.map_append] at this
        exact this _ _ _
      · have u := of_decide_eq_false u
        rw [if_neg u] at hE
        walk_at "wg"
        refine ⟨_, rfl, ?_⟩
        walk_at "wg"
        refine ⟨_, rfl, by rw [List.length_map]; omega, ?_⟩
        have := hE _ rfl
        unfold rcE at this
        rw [List.map_append] at this
        exact this _ _ _
theorem row_loop {z : Str} {ls : List Str} {l : List (Nat × Str)} {n many top : Int} {E : Fl} {F : List (List Int) → List Cw → Rd} {g : Rd} (hn : n ≤ 300)
    (hE : ∀ hs ss s3 s8 s9, hs.length + ss.length ≤ 300 → g = F hs ss → E.nx (rcE z ls l n many top hs ss s3 s8 s9)) (hX : ∀ i ρ, g = .bad i → E.ex (eAt ((i : Nat) : Int)) ρ) (hF : F = fun hs ss => goW n many top ls.length [] hs ss) : ∀ (r : List (Nat × Str)) (hs : List (List Int)) (ss : List Cw) (s3 s8 s9 : Option Ce), (∀ p ∈ r, LOk p.2 ∧ p.1 ≤ 300) → hs.length + ss.length + r.length ≤ 300 → g = goW n many top ls.length r hs ss →
    forW (.tup [.name 3, .name 8]) bodyW (r.map fun p => .tup [.int ((p.1 : Nat) : Int), wrdD (wordsOf p.2)]) (rcE z ls l n many top hs ss s3 s8 s9) E
  | [], hs, ss, s3, s8, s9, o, hl, h => hE hs ss s3 s8 s9 (by simpa using hl) (by rw [hF]; exact h)
  | p :: r, hs, ss, s3, s8, s9, o, hl, h => by
    rw [List.length_cons] at hl
    unfold goW at h
    obtain ⟨o1, o2⟩ := o p List.mem_cons_self
    refine ⟨_, rfl, ?_⟩
    refine row_step o1 hn o2 (by omega) (fun q e s3 s8 s9 => ?_) (fun e ρ => ?_)
    · rw [e] at h
      have hq := stepW_len e
      exact row_loop hn hE hX hF r q.1 q.2 s3 s8 s9 (fun p' hp => o p' (List.mem_cons_of_mem _ hp)) (by omega) h
    · rw [e] at h
      exact hX _ ρ h
/-! ### _law_read: one row -/
abbrev bodyM : Sx := (sSeq (sSet 11 (eCall F__law_row 3 (eCons (eCall F_split 1 (eCons (eIdx (eVar 0) (eVar 2)) (eNil))) (eCons (eVar 6) (eCons (eVar 8) (eNil)))))) (sSeq (sIf (bOr (bV (eOp2 dIsN (eVar 11) (eC .non))) (bV (eOp2 dEq (eOp2 dAdd (eLenO 9) (eLenO 10)) (eVar 7)))) (sRet (eVar 2)) (sPass)) (sIf (bV (eOp2 dEq (eIdx (eVar 11) (eC (.int 1))) (eVar 8))) (sAppend 9 (eIdx (eVar 11) (eC (.int 0)))) (sAppend 10 (eVar 11)))))
abbrev lmE (ls : List Str) (l : List (Nat × Str)) (n many top : Int) (hs : List (List Int)) (ss : List Cw) (s2 s3 s4 s11 : Option Ce) : En := [some (.dat (wrdD ls)), some (.dat (.lst (l.map fun p => .int ((p.1 : Nat) : Int)))), s2, s3, s4, none, some (.dat (.int n)), some (.dat (.int many)), some (.dat (.int top)), some (.own (hs.map cl)), some (.own (ss.map sfD)), s11]
theorem mrow_step {ls : List Str} {l : List (Nat × Str)} {n many top : Int} {w : Str} {E : Fl} {i : Nat} {hs : List (List Int)} {ss : List Cw} {s3 s4 s11 : Option Ce} (ow : LOk w) (hw : ls[i]? = some w) (hl : hs.length + ss.length ≤ 300)
    (hE : ∀ q, stepW (wordsOf w) n many top hs ss = some q → ∀ s2 s11, E.nx (lmE ls l n many top q.1 q.2 s2 s3 s4 s11)) (hX : stepW (wordsOf w) n many top hs ss = none → ∀ ρ, E.rt (.int ((i : Nat) : Int)) ρ) :
    Sx.wp bodyM (lmE ls l n many top hs ss (some (.dat (.int ((i : Nat) : Int)))) s3 s4 s11) E := by
  unfold bodyM
  unfold stepW at hE hX
  have hx : dIdx (wrdD ls) (.int ((i : Nat) : Int)) = some (.str w) := atI_nat (by rw [List.getElem?_map, hw]; rfl)
  walk_at "wg"
  refine ⟨_, hx, rfl, w, rfl, ow.1, ?_⟩
  walk_at "wg"
  refine ⟨rfl, wordsOf w, n, top, rfl, fun w' hw => words_ok ow.1 hw, ow.2, ?_⟩
  cases er : rowN (wordsOf w) n top with
  | none =>
    rw [er] at hX
    walk_at "wg"
    exact ⟨_, rfl, _, rfl, fun _ => ⟨fun _ => hX rfl _, fun z => Bool.noConfusion z⟩, fun z => Bool.noConfusion z⟩
  | some q =>
    rw [er] at hE hX
    dsimp only at hE hX
    walk_at "wg"
    refine ⟨_, rfl, _, rfl, fun z => Bool.noConfusion z, fun _ => ?_⟩
    walk_at "wg"
    refine ⟨_, rfl, ?_⟩
    walk_at "wg"
    refine ⟨_, rfl, _, rfl, ?_⟩
    walk_at "wg"
    refine ⟨_, dEq_int _ _, _, rfl, fun v => ?_, fun v => ?_⟩
    · have v : (hs.length : Int) + (ss.length : Int) = many := by
        have := of_decide_eq_true v
        rwa [List.length_map, List.length_map] at this
      rw [if_pos v] at hX
      walk_at "wg"
      exact hX rfl _
    · have v : ¬ (hs.length : Int) + (ss.length : Int) = many := by
        have := of_decide_eq_false v
        rwa [List.length_map, List.length_map] at this
      rw [if_neg v] at hE
      walk_at "wg"
      refine ⟨_, rfl, ?_⟩
      walk_at "wg"
      refine ⟨_, dEq_int _ _, _, rfl, fun u => ?_, fun u => ?_⟩
      · have u := of_decide_eq_true u
        rw [if_pos u] at hE
        walk_at "wg"
        refine ⟨_, rfl, ?_⟩
        walk_at "wg"
        refine ⟨_, rfl, _, rfl, by rw [List.length_map]; omega, ?_⟩
        have := hE _ rfl
        unfold lmE at this
        rw [List.map_append] at this
        exact this _ _
      · have u := of_decide_eq_false u
        rw [if_neg u] at hE
        walk_at "wg"
        refine ⟨_, rfl, ?_⟩
        walk_at "wg"
        refine ⟨_, rfl, by rw [List.length_map]; omega, ?_⟩
        have := hE _ rfl
        unfold lmE at this
        rw [List.map_append] at this
        exact this _ _
theorem mrow_loop {ls : List Str} {l : List (Nat × Str)} {n many top : Int} {E : Fl} {F : List (List Int) → List Cw → Rd} {g : Rd} {s3 s4 : Option Ce}
    (hE : ∀ hs ss s2 s11, hs.length + ss.length ≤ 300 → g = F hs ss → E.nx (lmE ls l n many top hs ss s2 s3 s4 s11)) (hX : ∀ i ρ, g = .bad i → E.rt (.int ((i : Nat) : Int)) ρ) (hF : F = fun hs ss => goW n many top ls.length [] hs ss) : ∀ (r : List (Nat × Str)) (hs : List (List Int)) (ss : List Cw) (s2 s11 : Option Ce), (∀ p ∈ r, LOk p.2 ∧ ls[p.1]? = some p.2) → hs.length + ss.length + r.length ≤ 300 → g = goW n many top ls.length r hs ss →
    forW (.name 2) bodyM (r.map fun p => .int ((p.1 : Nat) : Int)) (lmE ls l n many top hs ss s2 s3 s4 s11) E
  | [], hs, ss, s2, s11, o, hl, h => hE hs ss s2 s11 (by simpa using hl) (by rw [hF]; exact h)
  | p :: r, hs, ss, s2, s11, o, hl, h => by
    rw [List.length_cons] at hl
    unfold goW at h
    obtain ⟨o1, o2⟩ := o p List.mem_cons_self
    refine ⟨_, rfl, ?_⟩
    refine mrow_step o1 o2 (by omega) (fun q e s2 s11 => ?_) (fun e ρ => ?_)
    · rw [e] at h
      have hq := stepW_len e
      exact mrow_loop hE hX hF r q.1 q.2 s2 s11 (fun p' hp => o p' (List.mem_cons_of_mem _ hp)) (by omega) h
    · rw [e] at h
      exact hX _ ρ h
end K03
end

section
set_option maxHeartbeats 4000000
namespace K03
open PySem PySem.Spec PyProof.Rows L2 Pu PySem.W Tx TL

/-! ### what is read is a problem -/
theorem ins_ex {x : Int} : ∀ {out : List Int}, out.Pairwise lta → (∀ y ∈ out, iabs y ≠ iabs x) → ∃ o2 : List Int, (∀ z, z ∈ o2 ↔ z = x ∨ z ∈ out) ∧ o2.Pairwise lta
  | [], _, _ => ⟨[x], fun z => by simp, by simp⟩
  | y :: r, p, h => by
    rw [List.pairwise_cons] at p
    have hy := h y List.mem_cons_self
    by_cases c : iabs x < iabs y
    · refine ⟨x :: y :: r, fun z => by simp, ?_⟩
      rw [List.pairwise_cons, List.pairwise_cons]
      refine ⟨fun z hz => ?_, p⟩
      rcases List.mem_cons.mp hz with rfl | hz
      · exact c
      · have := p.1 z hz
        unfold lta at *
        omega
    · obtain ⟨o2, m, q⟩ := ins_ex (x := x) p.2 fun z hz => h z (List.mem_cons_of_mem _ hz)
      refine ⟨y :: o2, fun z => ?_, ?_⟩
      · rw [List.mem_cons, m, List.mem_cons]
        constructor
        · rintro (a | a | a)
          · exact .inr (.inl a)
          · exact .inl a
          · exact .inr (.inr a)
        · rintro (a | a | a)
          · exact .inr (.inl a)
          · exact .inl a
          · exact .inr (.inr a)
      · rw [List.pairwise_cons]
        refine ⟨fun z hz => ?_, q⟩
        rcases (m z).mp hz with rfl | hz
        · unfold lta
          omega
        · exact p.1 z hz
theorem clO_ex : ∀ {ls : List Int}, ¬ opp ls → ∃ out, ClO ls out
  | [], _ => ⟨[], fun z => by simp, by simp⟩
  | x :: r, no => by
    obtain ⟨out, m, p⟩ := clO_ex (ls := r) fun ⟨y, hy, q⟩ => no ⟨y, List.mem_cons_of_mem _ hy, List.mem_cons_of_mem _ q⟩
    by_cases hx : x ∈ r
    · refine ⟨out, fun z => ?_, p⟩
      rw [m, List.mem_cons]
      exact ⟨.inr, fun h => h.elim (fun e => by rw [e]; exact hx) id⟩
    · obtain ⟨o2, m2, p2⟩ := ins_ex (x := x) p fun y hy e => by
        have hy := (m y).mp hy
        rcases iabs_two e with e | e
        · exact hx (by rw [← e]; exact hy)
        · exact no ⟨y, List.mem_cons_of_mem _ hy, by rw [← e]; exact List.mem_cons_self⟩
      refine ⟨o2, fun z => ?_, p2⟩
      rw [m2, m, List.mem_cons]
theorem rowN_good {ws : List Str} {n top : Int} {q : Cw} (h : rowN ws n top = some q) : isC q.1 n ∧ 1 ≤ q.2 ∧ q.2 ≤ top ∧ (q.2 < top → q.2 ≤ 1000000000) := by
  unfold rowN at h
  split at h
  · split at h
    · rename_i hw
      split at h
      · rename_i hl
        split at h
        · cases h
        · rename_i no
          cases h
          obtain ⟨out, ho⟩ := clO_ex (ls := rL ws) fun z => no ((oB_iff _).mpr z)
          rw [clOf_eq ho]
          have hl := List.all_eq_true.mp hl
          unfold wB at hw
          simp only [Bool.and_eq_true, decide_eq_true_eq, Bool.not_eq_true', Bool.and_eq_false_iff, decide_eq_false_iff_not] at hw
          refine ⟨⟨fun x hx => ?_, ho.2⟩, hw.1.1, hw.1.2, fun h => ?_⟩
          · have := hl x ((ho.1 x).mp hx)
            rw [Bool.and_eq_true, decide_eq_true_eq, decide_eq_true_eq] at this
            exact this
          · have := hw.2
            omega
      · cases h
    · cases h
  · cases h
theorem goW_inv {n many top : Int} {tot : Nat} : ∀ (r : List (Nat × Str)) (hs : List (List Int)) (ss : List Cw) {n' : Int} {hs' : List (List Int)} {ss' : List Cw}, (∀ c ∈ hs, isCb c n = true) → (∀ p ∈ ss, isS p n = true) → goW n many top tot r hs ss = .ok n' hs' ss' →
    n' = n ∧ (∀ c ∈ hs', isCb c n = true) ∧ (∀ p ∈ ss', isS p n = true) ∧ hs'.length + ss'.length = hs.length + ss.length + r.length
  | [], hs, ss, n', hs', ss', h1, h2, e => by
    unfold goW at e
    split at e
    · cases e
    · cases e
      exact ⟨rfl, h1, h2, rfl⟩
  | p :: r, hs, ss, n', hs', ss', h1, h2, e => by
    unfold goW at e
    cases el : stepW (wordsOf p.2) n many top hs ss with
    | none => rw [el] at e; cases e
    | some q =>
      rw [el] at e
      have hlen := stepW_len el
      unfold stepW at el
      cases er : rowN (wordsOf p.2) n top with
      | none => rw [er] at el; cases el
      | some t =>
        rw [er] at el
        dsimp only at el
        obtain ⟨g1, g2, g3, g4⟩ := rowN_good er
        split at el
        · cases el
        · split at el
          · cases el
            obtain ⟨a1, a2, a3, a4⟩ := goW_inv r _ _ (fun c' h' => (List.mem_append.mp h').elim (h1 c') fun z => by rw [List.mem_singleton.mp z]; exact isCb_true g1) h2 e
            refine ⟨a1, a2, a3, ?_⟩
            dsimp only at hlen a4
            rw [List.length_cons]
            omega
          · rename_i ne
            cases el
            obtain ⟨a1, a2, a3, a4⟩ := goW_inv r _ _ h1 (fun c' h' => (List.mem_append.mp h').elim (h2 c') fun z => by rw [List.mem_singleton.mp z]; exact isS_iff (c := t.1) (v := t.2) (isCb_true g1) g2 (g4 (by omega))) e
            refine ⟨a1, a2, a3, ?_⟩
            dsimp only at hlen a4
            rw [List.length_cons]
            omega
theorem hdN_good {ws : List Str} {q : Int × Int × Int} (h : hdN ws = some q) : cOk q.1 := by
  unfold hdN at h
  split at h
  · rename_i hb
    split at h
    · cases h
    · rename_i hx
      cases h
      unfold hB at hb
      rw [Bool.and_eq_true, Bool.and_eq_true, decide_eq_true_eq] at hb
      obtain ⟨a, b, c, d, e, rfl⟩ := five_parts hb.1
      have hc := List.all_eq_true.mp hb.2.2 c (by simp)
      unfold numOk at hc
      simp only [Bool.and_eq_true, decide_eq_true_eq] at hc
      rw [Bool.not_eq_true] at hx
      unfold hX at hx
      rw [Bool.or_eq_false_iff, decide_eq_false_iff_not] at hx
      have h1 : ¬ 300 < wholeV c := hx.1
      exact ⟨hc.2.1, show wholeV c ≤ 300 by omega⟩
  · cases h
theorem rws_mem {ls : List Str} {p : Nat × Str} (h : p ∈ rws ls) : p.1 < ls.length ∧ ls[p.1]? = some p.2 ∧ p.2 ∈ ls := by
  have := enumP_mem (List.mem_filter.mp h).1
  have e : ls[p.1]? = some p.2 := by simpa using this.2.2
  exact ⟨by omega, e, List.mem_of_getElem? e⟩
theorem rws_len (ls : List Str) : (rws ls).length ≤ ls.length := by
  have := List.length_filter_le (fun p : Nat × Str => !comB (wordsOf p.2)) (enumP 0 ls)
  rwa [enumP_len] at this
theorem goW_nil {n many top : Int} {tot : Nat} {hs : List (List Int)} {ss : List Cw} : goW n many top tot [] hs ss = if (hs.length : Int) + (ss.length : Int) < many then .bad tot else .ok n hs ss := rfl
def TOk (z : Str) : Prop := WOk z ∧ (Txt.split z nlS).length ≤ 300 ∧ ∀ l ∈ Txt.split z nlS, LOk l
theorem com_ne {ws : List Str} (o : ∀ w ∈ ws, WOk w) : dNe (wrdD (ws.take 1)) (wrdD [cS]) = some (.bl (!comB ws)) := dNe_wrd (xs := ws.take 1) (ys := [cS]) (fun w hw => (o w (List.mem_of_mem_take hw)).ok) fun w hw => by
  rw [List.mem_singleton.mp hw]
  exact okC
def F_read_wcnf (C : Addr) : Fn := ⟨fun ds k x => ∃ z, ds = [.str z] ∧ TOk z ∧ (∀ n hs ss, rdT (Txt.split z nlS) = .ok n hs ss → k (PbD C n hs ss)) ∧ (∀ i, rdT (Txt.split z nlS) = .bad i → x (eAt ((i : Nat) : Int))), fun hk hx ⟨z, e, o, h1, h2⟩ => ⟨z, e, o, fun n hs ss a => hk _ (h1 n hs ss a), fun i a => hx _ (h2 i a)⟩⟩
theorem k_read_wcnf (C : Addr) : Keeps 1 N_read_wcnf.length (F_read_wcnf C) (S_read_wcnf C F_read_head F_read_row F_split (F_Problem___init__ C)) := by
  rintro ds k x hl ⟨z, rfl, ⟨o, hlen, hls⟩, h1, h2⟩
  show (S_read_wcnf C F_read_head F_read_row F_split (F_Problem___init__ C)).wp [some (.dat (.str z)), none, none, none, none, none, none, none, none, none] _
  unfold S_read_wcnf
  walk_at "wg"
  refine ⟨rfl, ?_⟩
  walk_at "wg"
  refine ⟨_, dSplit_eq tl_nl (by have := o.2; omega), ?_⟩
  have hne : Txt.split z nlS ≠ [] := split_ne tl_nl nl_ok
  generalize Txt.split z nlS = ls at hlen hls h1 h2 hne
  have atl : ArgD (.int ((ls.length : Nat) : Int)) := argD_at (Nat.lt_of_le_of_lt hlen (by decide))
  show Sx.wp _ [some (.dat (.str z)), some (.dat (wrdD ls)), none, none, none, none, none, none, none, none] _
  walk_at "wg"
  refine ⟨_, rfl, ?_⟩
  rw [enumP_enum]
  refine ⟨rfl, lcW_of (fun p : Nat × Str => Da.tup [.int ((p.1 : Nat) : Int), .str p.2]) (fun p => !comB (wordsOf p.2)) (fun p => Da.tup [.int ((p.1 : Nat) : Int), wrdD (wordsOf p.2)]) (enumP 0 ls) [] (fun p hp => ?_) ?_⟩
  · have hm := enumP_mem hp
    have hm : p.2 ∈ ls := List.mem_of_getElem? hm.2.2
    have lo := hls _ hm
    refine ⟨_, rfl, fun K hK => ?_, fun _ K hK => ?_⟩
    · walk_at "wg"
      refine ⟨rfl, p.2, rfl, lo.1, ?_⟩
      walk_at "wg"
      refine ⟨_, rfl, _, sl_take1 _, ?_⟩
      walk_at "wg"
      exact ⟨show (1 : Nat) ≤ 1000 by decide, _, com_ne fun w hw => words_ok lo.1 hw, _, rfl, hK⟩
    · walk_at "wg"
      refine ⟨rfl, p.2, rfl, lo.1, ?_⟩
      walk_at "wg"
      exact ⟨show (2 : Nat) ≤ 1000 by decide, hK⟩
  rw [List.nil_append]
  show Sx.wp _ [some (.dat (.str z)), some (.dat (wrdD ls)), some (.dat (rowsD (rws ls))), none, none, none, none, none, none, none] _
  have hr := rws_len ls
  have hm : ∀ p ∈ rws ls, LOk p.2 ∧ p.1 ≤ 300 := fun p hp => by
    obtain ⟨a, b, c⟩ := rws_mem hp
    exact ⟨hls _ c, by omega⟩
  unfold rdT at h1 h2
  generalize rws ls = rows at h1 h2 hr hm
  cases rows with
  | nil =>
    walk_at "wg"
    refine ⟨_, rfl, fun _ => ?_, fun z => Bool.noConfusion z⟩
    walk_at "wg"
    exact ⟨_, len_wrd ls, atl, h2 _ rfl⟩
  | cons p r =>
  rw [List.length_cons] at hr
  dsimp only at h1 h2
  obtain ⟨lp, ip⟩ := hm p List.mem_cons_self
  have ix0 : dIdx (rowsD (p :: r)) (.int 0) = some (.tup [.int ((p.1 : Nat) : Int), wrdD (wordsOf p.2)]) := atI_nat (j := 0) rfl
  walk_at "wg"
  refine ⟨_, rfl, fun z => Bool.noConfusion z, fun _ => ?_⟩
  walk_at "wg"
  refine ⟨_, ix0, ?_⟩
  walk_at "wg"
  refine ⟨wrdD (wordsOf p.2), rfl, rfl, wordsOf p.2, rfl, fun w hw => words_ok lp.1 hw, ?_⟩
  cases eh : hdN (wordsOf p.2) with
  | none =>
    rw [eh] at h2
    walk_at "wg"
    refine ⟨_, rfl, _, rfl, fun _ => ?_, fun z => Bool.noConfusion z⟩
    walk_at "wg"
    refine ⟨_, ix0, ?_⟩
    walk_at "wg"
    exact ⟨_, rfl, argD_at (Nat.lt_of_le_of_lt ip (by decide)), h2 _ rfl⟩
  | some q =>
  obtain ⟨n, many, top⟩ := q
  rw [eh] at h1 h2
  have hc := hdN_good eh
  walk_at "wg"
  refine ⟨_, rfl, _, rfl, fun z => Bool.noConfusion z, fun _ => ?_⟩
  walk_at "wg"
  refine ⟨show (0 : Nat) ≤ 1000 by decide, ?_⟩
  walk_at "wg"
  refine ⟨show (0 : Nat) ≤ 1000 by decide, ?_⟩
  walk_at "wg"
  have sl1 : dSl (rowsD (p :: r)) (some 1) none = some (.lst (r.map fun p => .tup [.int ((p.1 : Nat) : Int), wrdD (wordsOf p.2)])) := by
    show some (Da.lst (Pu.cutD _ _ _)) = _
    rw [cut1]
    rfl
  refine ⟨_, rfl, _, sl1, _, rfl, ?_⟩
  refine row_loop (z := z) (ls := ls) (l := p :: r) (n := n) (many := many) (top := top) (F := fun hs ss => goW n many top ls.length [] hs ss) (g := goW n many top ls.length r [] []) hc.2 (fun hs ss s3 s8 s9 hl e => ?_) (fun i ρ e => h2 i e) rfl r [] [] _ _ _ (fun p' hp => hm p' (List.mem_cons_of_mem _ hp)) (by simp; omega) rfl
  rw [goW_nil] at e
  walk_at "wg"
  refine ⟨_, rfl, ?_⟩
  walk_at "wg"
  refine ⟨_, rfl, _, rfl, ?_⟩
  walk_at "wg"
  refine ⟨_, rfl, _, rfl, _, rfl, fun v => ⟨fun _ => ?_, fun z => Bool.noConfusion z⟩, fun v => ?_⟩
  · have v : (hs.length : Int) + (ss.length : Int) < many := by
      have := of_decide_eq_true v
      rwa [List.length_map, List.length_map] at this
    rw [if_pos v] at e
    walk_at "wg"
    exact ⟨_, len_wrd ls, atl, h2 _ e⟩
  have v : ¬ (hs.length : Int) + (ss.length : Int) < many := by
    have := of_decide_eq_false v
    rwa [List.length_map, List.length_map] at this
  rw [if_neg v] at e
  walk_at "wg"
  refine ⟨_, rfl, ?_⟩
  walk_at "wg"
  refine ⟨_, rfl, _, rfl, fun v => ?_, fun v => ?_⟩
  · have v := of_decide_eq_true v
    rw [List.length_map] at v
    exfalso
    omega
  walk_at "wg"
  refine ⟨_, rfl, ?_⟩
  walk_at "wg"
  refine ⟨_, rfl, _, rfl, fun v => ?_, fun v => ?_⟩
  · have v := of_decide_eq_true v
    rw [List.length_map] at v
    exfalso
    omega
  obtain ⟨a1, a2, a3, a4⟩ := goW_inv r [] [] (fun _ z => by cases z) (fun _ z => by cases z) e
  have q := h1 n hs ss e
  walk_at "wg"
  refine ⟨_, rfl, ?_⟩
  walk_at "wg"
  refine ⟨_, rfl, ?_⟩
  walk_at "wg"
  refine ⟨_, rfl, rfl, n, hs, ss, _, _, rfl, ⟨⟨cl, .inl rfl, fun c _ => seq_cl c⟩, ⟨sfD, .inl rfl, fun p _ => soft_e p⟩⟩, fun a => absurd hc a, fun _ a => ?_, fun _ _ a => ?_, fun _ _ _ => q⟩
  · exact absurd ⟨by omega, List.all_eq_true.mpr a2⟩ a
  · exact absurd ⟨by omega, List.all_eq_true.mpr a3⟩ a
end K03
end

section
set_option maxHeartbeats 4000000
namespace K03
open PySem PySem.Spec PyProof.Rows L2 Pu PySem.W Tx TL

/-! ### _law_read -/
def rdD : Rd → Da
  | .ok n hs ss => .tup [.int n, hardD hs, softD ss]
  | .bad i => .int ((i : Nat) : Int)
abbrev rowsI (l : List (Nat × Str)) : Da := .lst (l.map fun p => .int ((p.1 : Nat) : Int))
theorem dEq_rowsI (l : List (Nat × Str)) : dEq (rowsI l) (.lst []) = some (.bl l.isEmpty) := by
  unfold dEq
  rw [if_pos ⟨all_ok (fun p => ok_int 59 _) l, rfl⟩]
  cases l <;> rfl
theorem min3 (x y z : Int) : ∃ m, dMin [.lst [.int x, .int y, .int z]] = some (.int m) ∧ (m < 0 ↔ ¬ (0 ≤ x ∧ 0 ≤ y ∧ 0 ≤ z)) := by
  refine ⟨_, rfl, ?_⟩
  dsimp only
  repeat' split
  all_goals omega
theorem max3 (x y z b : Int) : ∃ m, dMax [.lst [.int x, .int y, .int z]] = some (.int m) ∧ (b < m ↔ ¬ (x ≤ b ∧ y ≤ b ∧ z ≤ b)) := by
  refine ⟨_, rfl, ?_⟩
  dsimp only
  repeat' split
  all_goals omega
def F__law_read : Fn := ⟨fun ds k _ => ∃ ls, ds = [wrdD ls] ∧ (∀ l ∈ ls, LOk l) ∧ ls.length ≤ 300 ∧ k (rdD (rdT ls)), fun hk _ ⟨ls, e, a, b, h⟩ => ⟨ls, e, a, b, hk _ h⟩⟩
theorem k__law_read : Keeps 1 N__law_read.length F__law_read (S__law_read F_split F__law_whole F__law_row) := by
  rintro ds k x hl ⟨ls, rfl, hls, hlen, h⟩
  show (S__law_read F_split F__law_whole F__law_row).wp [some (.dat (wrdD ls)), none, none, none, none, none, none, none, none, none, none, none] _
  unfold S__law_read
  walk_at "wg"
  refine ⟨_, len_wrd ls, ?_⟩
  refine ⟨_, rfl, ⟨by omega, by omega⟩, ?_⟩
  have er : rangeD 0 ((ls.length : Nat) : Int).toNat = (enumP 0 ls).map fun p => Da.int ((p.1 : Nat) : Int) := by
    unfold rangeD
    rw [List.range_eq_range', Int.toNat_natCast]
    exact enumP_range ls 0
  rw [er]
  refine ⟨rfl, lcW_of (fun p : Nat × Str => Da.int ((p.1 : Nat) : Int)) (fun p => !comB (wordsOf p.2)) (fun p => Da.int ((p.1 : Nat) : Int)) (enumP 0 ls) [] (fun p hp => ?_) ?_⟩
  · have hm := enumP_mem hp
    have ei : ls[p.1]? = some p.2 := by simpa using hm.2.2
    have lo := hls _ (List.mem_of_getElem? ei)
    have hx : dIdx (wrdD ls) (.int ((p.1 : Nat) : Int)) = some (.str p.2) := atI_nat (by rw [List.getElem?_map, ei]; rfl)
    refine ⟨_, rfl, fun K hK => ?_, fun _ K hK => ?_⟩
    · walk_at "wg"
      refine ⟨_, hx, rfl, p.2, rfl, lo.1, ?_⟩
      walk_at "wg"
      refine ⟨_, rfl, _, sl_take1 _, ?_⟩
      walk_at "wg"
      exact ⟨show (1 : Nat) ≤ 1000 by decide, _, com_ne fun w hw => words_ok lo.1 hw, _, rfl, hK⟩
    · walk_at "wg"
      exact hK
  rw [List.nil_append]
  show Sx.wp _ [some (.dat (wrdD ls)), some (.dat (rowsI (rws ls))), none, none, none, none, none, none, none, none, none, none] _
  have hr := rws_len ls
  have hm : ∀ p ∈ rws ls, LOk p.2 ∧ ls[p.1]? = some p.2 := fun p hp => by
    obtain ⟨a, b, c⟩ := rws_mem hp
    exact ⟨hls _ c, b⟩
  unfold rdT at h
  generalize rws ls = rows at h hr hm
  walk_at "wg"
  refine ⟨show (0 : Nat) ≤ 1000 by decide, _, dEq_rowsI rows, _, rfl, fun y => ?_, fun y => ?_⟩
  · cases rows with
    | cons p r => cases y
    | nil =>
      walk_at "wg"
      exact ⟨_, len_wrd ls, h⟩
  cases rows with
  | nil => cases y
  | cons p r =>
  rw [List.length_cons] at hr
  dsimp only at h
  obtain ⟨lp, ip⟩ := hm p List.mem_cons_self
  have ix0 : dIdx (rowsI (p :: r)) (.int 0) = some (.int ((p.1 : Nat) : Int)) := atI_nat (j := 0) rfl
  have hx : dIdx (wrdD ls) (.int ((p.1 : Nat) : Int)) = some (.str p.2) := atI_nat (by rw [List.getElem?_map, ip]; rfl)
  have ows : ∀ w ∈ wordsOf p.2, WOk w := fun w hw => words_ok lp.1 hw
  walk_at "wg"
  refine ⟨_, ix0, _, hx, rfl, p.2, rfl, lp.1, ?_⟩
  generalize wordsOf p.2 = ws at h ows
  walk_at "wg"
  refine ⟨_, rfl, _, sl_drop2 ws, _, rfl, rfl, lcW_all Da.str wholeD (ws.drop 2) [] (fun w hw => ⟨_, rfl, fun K hK => ?_⟩) ?_⟩
  · walk_at "wg"
    exact ⟨rfl, w, rfl, ows w (List.mem_of_mem_drop hw), hK⟩
  rw [List.nil_append]
  have bad : hdN ws = none → k (.int ((p.1 : Nat) : Int)) := fun e => by
    rw [e] at h
    exact h
  unfold hdN hB at bad h
  walk_at "wg"
  refine ⟨_, len_wrd _, ?_⟩
  walk_at "wg"
  refine ⟨_, dNe_i _ _, _, rfl, fun y => ⟨fun _ => ?_, fun z => Bool.noConfusion z⟩, fun y => ?_⟩
  · walk_at "wg"
    refine ⟨_, ix0, bad ?_⟩
    rw [Bool.not_eq_true'] at y
    have := of_decide_eq_false y
    rw [decide_eq_false (by omega : ¬ ws.length = 5)]
    rfl
  have hl5 : ws.length = 5 := by
    rw [Bool.not_eq_false'] at y
    have := of_decide_eq_true y
    omega
  rw [decide_eq_true hl5, Bool.true_and] at bad h
  walk_at "wg"
  refine ⟨_, rfl, _, sl_take2 ws, ?_⟩
  walk_at "wg"
  refine ⟨show (2 : Nat) ≤ 1000 by decide, _, dNe_wrd (ys := [pS, wS]) (fun w hw => (ows w (List.mem_of_mem_take hw)).ok) ok_pw, _, rfl, fun y => ⟨fun _ => ?_, fun z => Bool.noConfusion z⟩, fun y => ?_⟩
  · walk_at "wg"
    refine ⟨_, ix0, bad ?_⟩
    rw [Bool.not_eq_true'] at y
    have y : decide ((ws.take 2).map tl = [tl pS, tl wS]) = false := y
    rw [y]
    rfl
  have y : decide ((ws.take 2).map tl = [tl pS, tl wS]) = true := by
    rw [Bool.not_eq_false'] at y
    exact y
  rw [y, Bool.true_and] at bad h
  walk_at "wg"
  refine ⟨_, none_in (ws.drop 2), _, rfl, fun y => ⟨fun _ => ?_, fun z => Bool.noConfusion z⟩, fun y => ?_⟩
  · walk_at "wg"
    refine ⟨_, ix0, bad ?_⟩
    rw [Bool.not_eq_true'] at y
    rw [if_neg]
    intro q
    have : (ws.drop 2).all wholeB = true := List.all_eq_true.mpr fun w hw => num_whole' (List.all_eq_true.mp q w hw)
    rw [y] at this
    cases this
  rw [Bool.not_eq_false'] at y
  rw [wholes_dis y]
  obtain ⟨a, b, c, d, e, rfl⟩ := five_parts hl5
  have yw : ∀ w ∈ [c, d, e], wholeB w = true := List.all_eq_true.mp y
  have ed : dis (rV (List.drop 2 [a, b, c, d, e])) = [.int (wholeV c), .int (wholeV d), .int (wholeV e)] := rfl
  rw [ed]
  have nk : ((List.drop 2 [a, b, c, d, e]).all fun w => numOk w bigM) = true ↔ (0 ≤ wholeV c ∧ 0 ≤ wholeV d ∧ 0 ≤ wholeV e) ∧ (wholeV c ≤ bigM ∧ wholeV d ≤ bigM ∧ wholeV e ≤ bigM) := by
    show ([c, d, e].all fun w => numOk w bigM) = true ↔ _
    unfold numOk
    simp only [List.all_cons, List.all_nil, yw c (by simp), yw d (by simp), yw e (by simp), Bool.true_and, Bool.and_true, Bool.and_eq_true, decide_eq_true_eq]
    constructor
    · rintro ⟨⟨a1, a2⟩, ⟨a3, a4⟩, a5, a6⟩
      exact ⟨⟨a1, a3, a5⟩, a2, a4, a6⟩
    · rintro ⟨⟨a1, a3, a5⟩, a2, a4, a6⟩
      exact ⟨⟨a1, a2⟩, ⟨a3, a4⟩, a5, a6⟩
  obtain ⟨m1, em1, hm1⟩ := min3 (wholeV c) (wholeV d) (wholeV e)
  obtain ⟨m2, em2, hm2⟩ := max3 (wholeV c) (wholeV d) (wholeV e) bigM
  walk_at "wg"
  refine ⟨_, em1, ?_⟩
  walk_at "wg"
  refine ⟨_, rfl, _, rfl, fun v => ⟨fun _ => ?_, fun z => Bool.noConfusion z⟩, fun v => ?_⟩
  · walk_at "wg"
    refine ⟨_, ix0, bad ?_⟩
    rw [if_neg]
    intro q
    exact hm1.mp (of_decide_eq_true v) (nk.mp q).1
  have v1 : ¬ m1 < 0 := of_decide_eq_false v
  walk_at "wg"
  refine ⟨_, em2, ?_⟩
  walk_at "wg"
  refine ⟨_, dPow_10_12, _, rfl, _, rfl, fun v => ?_, fun v => ?_⟩
  · walk_at "wg"
    refine ⟨_, ix0, bad ?_⟩
    rw [if_neg]
    intro q
    exact hm2.mp (of_decide_eq_true v) (nk.mp q).2
  have v2 : ¬ bigM < m2 := of_decide_eq_false v
  have all : ((List.drop 2 [a, b, c, d, e]).all fun w => numOk w bigM) = true := nk.mpr ⟨Classical.byContradiction fun z => v1 (hm1.mpr z), Classical.byContradiction fun z => v2 (hm2.mpr z)⟩
  rw [if_pos all] at bad h
  have ehv : hV [a, b, c, d, e] = [wholeV c, wholeV d, wholeV e] := rfl
  rw [ehv] at bad h
  unfold hX at bad h
  generalize wholeV c = n at bad h
  generalize wholeV d = many at bad h
  generalize wholeV e = top at bad h
  have g0 : [n, many, top].getD 0 0 = n := rfl
  have g1 : [n, many, top].getD 1 0 = many := rfl
  have g2 : [n, many, top].getD 2 0 = top := rfl
  rw [g0, g1, g2] at bad h
  walk_at "wg"
  refine ⟨_, rfl, ?_⟩
  walk_at "wg"
  refine ⟨_, rfl, _, rfl, fun v => ⟨fun _ => ?_, fun z => Bool.noConfusion z⟩, fun v => ?_⟩
  · walk_at "wg"
    refine ⟨_, ix0, bad ?_⟩
    have v : decide (300 < n) = true := v
    rw [v]
    rfl
  have v : decide (300 < n) = false := v
  rw [v, Bool.false_or] at bad h
  walk_at "wg"
  refine ⟨_, rfl, _, rfl, fun v => ⟨fun _ => ?_, fun z => Bool.noConfusion z⟩, fun v => ?_⟩
  · walk_at "wg"
    refine ⟨_, ix0, bad ?_⟩
    have v : decide (3300 < many) = true := v
    rw [v]
    rfl
  have v : decide (3300 < many) = false := v
  rw [v, Bool.false_or] at bad h
  walk_at "wg"
  refine ⟨_, rfl, _, rfl, fun v => ?_, fun v => ?_⟩
  · walk_at "wg"
    refine ⟨_, ix0, bad ?_⟩
    have v : decide (top < 1) = true := v
    rw [v]
    rfl
  have v : decide (top < 1) = false := v
  rw [v] at h
  have h : k (rdD (goW n many top ls.length r [] [])) := h
  walk_at "wg"
  refine ⟨show (0 : Nat) ≤ 1000 by decide, ?_⟩
  walk_at "wg"
  refine ⟨show (0 : Nat) ≤ 1000 by decide, ?_⟩
  walk_at "wg"
  have sl1 : dSl (rowsI (p :: r)) (some 1) none = some (.lst (r.map fun p => .int ((p.1 : Nat) : Int))) := by
    show some (Da.lst (Pu.cutD _ _ _)) = _
    rw [cut1]
    rfl
  refine ⟨_, rfl, _, sl1, _, rfl, ?_⟩
  refine mrow_loop (ls := ls) (l := p :: r) (n := n) (many := many) (top := top) (F := fun hs ss => goW n many top ls.length [] hs ss) (g := goW n many top ls.length r [] []) (fun hs ss s2 s11 hl e => ?_) (fun i ρ e => ?_) rfl r [] [] _ _ (fun p' hp => hm p' (List.mem_cons_of_mem _ hp)) (by simp; omega) rfl
  · rw [goW_nil] at e
    rw [e] at h
    walk_at "wg"
    refine ⟨_, rfl, ?_⟩
    walk_at "wg"
    refine ⟨_, rfl, _, rfl, ?_⟩
    walk_at "wg"
    refine ⟨_, rfl, _, rfl, fun v => ?_, fun v => ?_⟩
    · have v : (hs.length : Int) + (ss.length : Int) < many := by
        have := of_decide_eq_true v
        rwa [List.length_map, List.length_map] at this
      rw [if_pos v] at h
      walk_at "wg"
      exact ⟨_, len_wrd ls, h⟩
    · have v : ¬ (hs.length : Int) + (ss.length : Int) < many := by
        have := of_decide_eq_false v
        rwa [List.length_map, List.length_map] at this
      rw [if_neg v] at h
      walk_at "wg"
      refine ⟨_, rfl, ?_⟩
      walk_at "wg"
      refine ⟨_, rfl, ?_⟩
      walk_at "wg"
      refine ⟨_, rfl, ?_⟩
      walk_at "wg"
      exact ⟨_, rfl, show (3 : Nat) ≤ 1000 by decide, h⟩
  · rw [e] at h
    exact h
end K03
end

section
set_option maxHeartbeats 4000000
namespace K03
open PySem PySem.Spec PyProof.Rows L2 Pu PySem.W Tx TL

structure Sml (n : Int) (hs : List (List Int)) (ss : List Cw) : Prop where
  n0 : 0 ≤ n
  n6 : n ≤ 6
  hl : hs.length ≤ 5
  sl : ss.length ≤ 5
  hc : ∀ c ∈ hs, isC c n ∧ c.length ≤ 3
  sc : ∀ p ∈ ss, (isC p.1 n ∧ p.1.length ≤ 3) ∧ 1 ≤ p.2 ∧ p.2 ≤ 30
theorem sm_lit {c : List Int} {n : Int} (h : isC c n) (h6 : n ≤ 6) : ∀ i ∈ c ++ [0], SmI i := fun i hi => by
  rcases List.mem_append.mp hi with hi | hi
  · have := (h.1 i hi).2
    unfold SmI iabs at *
    omega
  · rw [List.mem_singleton.mp hi]
    show (0 : Int).natAbs < 10 ^ 12
    decide
/-! ### the text -/
def topW (ss : List Cw) : Int := (ss.map fun p : Cw => p.2).sum + 1
def rowW (v : Int) (c : List Int) : Str := Txt.join spS (numW (v :: (c ++ [0])))
def headW (n m t : Int) : Str := Txt.join spS ([pS, wS] ++ numW [n, m, t])
def linesW (n : Int) (hs : List (List Int)) (ss : List Cw) : List Str := headW n ((hs.length : Int) + (ss.length : Int)) (topW ss) :: (hs.map (rowW (topW ss)) ++ ss.map fun p => rowW p.2 p.1)
def textW (n : Int) (hs : List (List Int)) (ss : List Cw) : Str := Txt.join nlS (linesW n hs ss)
theorem sum_le : ∀ {ss : List Cw}, (∀ p ∈ ss, 1 ≤ p.2 ∧ p.2 ≤ 30) → 0 ≤ (ss.map fun p : Cw => p.2).sum ∧ (ss.map fun p : Cw => p.2).sum ≤ 30 * (ss.length : Int) ∧ ∀ p ∈ ss, p.2 ≤ (ss.map fun p : Cw => p.2).sum
  | [], _ => ⟨by simp, by simp, fun _ h => by cases h⟩
  | p :: ss, h => by
    obtain ⟨a, b, c⟩ := sum_le (ss := ss) fun q hq => h q (List.mem_cons_of_mem _ hq)
    have hp := h p List.mem_cons_self
    rw [List.map_cons, List.sum_cons, List.length_cons]
    refine ⟨by omega, by omega, fun q hq => ?_⟩
    rcases List.mem_cons.mp hq with rfl | hq
    · omega
    · have := c q hq
      omega
theorem Sml.wts {n : Int} {hs ss} (s : Sml n hs ss) : ∀ p ∈ ss, 1 ≤ p.2 ∧ p.2 ≤ 30 := fun p hp => (s.sc p hp).2
theorem Sml.top {n : Int} {hs ss} (s : Sml n hs ss) : 1 ≤ topW ss ∧ topW ss ≤ 151 ∧ ∀ p ∈ ss, p.2 < topW ss := by
  obtain ⟨a, b, c⟩ := sum_le s.wts
  have := s.sl
  unfold topW
  exact ⟨by omega, by omega, fun p hp => by have := c p hp; omega⟩
theorem sm_row {v : Int} {c : List Int} {n : Int} (hv : 1 ≤ v ∧ v ≤ 151) (h : isC c n) (h6 : n ≤ 6) : ∀ i ∈ v :: (c ++ [0]), SmI i := fun i hi => by
  rcases List.mem_cons.mp hi with hi | hi
  · rw [hi]
    unfold SmI
    omega
  · exact sm_lit h h6 i hi
theorem cost_row {v : Int} {c : List Int} {n : Int} (hv : 1 ≤ v ∧ v ≤ 151) (h : isC c n ∧ c.length ≤ 3) (h6 : n ≤ 6) : cost (numW (v :: (c ++ [0]))) ≤ 70 := by
  have h1 := cost_num (sm_row hv h.1 h6)
  rw [List.length_cons, List.length_append, List.length_singleton] at h1
  have := h.2
  omega
theorem len_p : pS.length = 1 := by decide +kernel
theorem len_w : wS.length = 4 := by decide +kernel
theorem cost_head {n m t : Int} (hn : 0 ≤ n ∧ n ≤ 6) (hm : 0 ≤ m ∧ m ≤ 10) (ht : 1 ≤ t ∧ t ≤ 151) : (∀ i ∈ [n, m, t], SmI i) ∧ cost ([pS, wS] ++ numW [n, m, t]) ≤ 50 := by
  have sm : ∀ i ∈ [n, m, t], SmI i := fun i hi => by
    simp only [List.mem_cons, List.not_mem_nil, or_false] at hi
    unfold SmI
    rcases hi with rfl | rfl | rfl <;> omega
  refine ⟨sm, ?_⟩
  have h1 := cost_num sm
  have e : cost [pS, wS] = (pS.length + 1) + (wS.length + 1) := rfl
  rw [cost_app, e, len_p, len_w]
  simp at h1
  omega
theorem Sml.hm {n : Int} {hs ss} (s : Sml n hs ss) : 0 ≤ (hs.length : Int) + (ss.length : Int) ∧ (hs.length : Int) + (ss.length : Int) ≤ 10 := by
  have := s.hl
  have := s.sl
  omega
theorem linesW_len {n : Int} {hs ss} (h : Sml n hs ss) : (linesW n hs ss).length ≤ 11 ∧ ∀ l ∈ linesW n hs ss, l.length ≤ 70 := by
  constructor
  · unfold linesW
    have := h.hl
    have := h.sl
    simp
    omega
  · intro l hl
    unfold linesW at hl
    rcases List.mem_cons.mp hl with rfl | hl
    · exact Nat.le_trans (join_len tl_sp _) (Nat.le_trans (cost_head ⟨h.n0, h.n6⟩ h.hm ⟨h.top.1, h.top.2.1⟩).2 (by decide))
    · rcases List.mem_append.mp hl with hl | hl
      · obtain ⟨c, hc, rfl⟩ := List.mem_map.mp hl
        exact Nat.le_trans (join_len tl_sp _) (cost_row ⟨h.top.1, h.top.2.1⟩ (h.hc c hc) h.n6)
      · obtain ⟨p, hp, rfl⟩ := List.mem_map.mp hl
        exact Nat.le_trans (join_len tl_sp _) (cost_row ⟨(h.wts p hp).1, by have := (h.wts p hp).2; omega⟩ (h.sc p hp).1 h.n6)
theorem linesW_cost {n : Int} {hs ss} (h : Sml n hs ss) : cost (linesW n hs ss) ≤ 800 := by
  have h1 := cost_le (linesW_len h).2
  have h2 := (linesW_len h).1
  omega
abbrev hardX : Sx := (sAppend 2 (eCall F_joined 1 (eCons (eOp2 dAdd (eOp2 dAdd (eTup (eCons (eVar 1) (eNil))) (eVar 3)) (eTup (eCons (eC (.int 0)) (eNil)))) (eNil))))
abbrev softX : Sx := (sAppend 2 (eCall F_joined 1 (eCons (eOp2 dAdd (eOp2 dAdd (eTup (eCons (eVar 4) (eNil))) (eVar 3)) (eTup (eCons (eC (.int 0)) (eNil)))) (eNil))))
theorem row_items (v : Int) (c : List Int) : [Da.int v] ++ dis c ++ [Da.int 0] = ([] : List Str).map Da.str ++ dis (v :: (c ++ [0])) := by simp [dis]
theorem hard_loop {n t : Int} {s0 s4 : Option Ce} {E : Fl} {L0 : List Str} (ht : 1 ≤ t ∧ t ≤ 151) (h6 : n ≤ 6) (hE : ∀ L s3, L = L0 → E.nx [s0, some (.dat (.int t)), some (.own (L.map Da.str)), s3, s4]) : ∀ (hs : List (List Int)) (L : List Str) (s3 : Option Ce), (∀ c ∈ hs, isC c n ∧ c.length ≤ 3) → L.length + hs.length ≤ 1000 → L0 = L ++ hs.map (rowW t) →
    forW (.name 3) hardX (hs.map cl) [s0, some (.dat (.int t)), some (.own (L.map Da.str)), s3, s4] E
  | [], L, s3, hc, hl, e => hE L s3 (by rw [e]; simp)
  | c :: hs, L, s3, hc, hl, e => by
    have q := hc c List.mem_cons_self
    rw [List.length_cons] at hl
    refine ⟨_, rfl, ?_⟩
    unfold hardX
    walk_at "wg"
    refine ⟨_, rfl, ?_⟩
    walk_at "wg"
    refine ⟨show (1 : Nat) ≤ 1000 by decide, ?_⟩
    walk_at "wg"
    refine ⟨_, dAdd_tup (by have := q.2; simp [dis]; omega), ?_⟩
    walk_at "wg"
    refine ⟨show (1 : Nat) ≤ 1000 by decide, _, dAdd_tup (by have := q.2; simp [dis]; omega), ?_⟩
    walk_at "wg"
    refine ⟨rfl, [], t :: (c ++ [0]), congrArg (fun z => [Da.tup z]) (row_items t c), sm_row ht q.1 h6, Nat.le_trans (cost_row ht q h6) (by decide), _, rfl, by rw [List.length_map]; omega, ?_⟩
    have := hard_loop (s0 := s0) (s4 := s4) (E := E) (L0 := L0) ht h6 hE hs (L ++ [rowW t c]) (some (.dat (cl c))) (fun c' h => hc c' (List.mem_cons_of_mem _ h)) (by rw [List.length_append, List.length_singleton]; omega) (by rw [e]; simp)
    rw [List.map_append] at this
    exact this
theorem soft_loop {n t : Int} {s0 : Option Ce} {E : Fl} {L0 : List Str} (h6 : n ≤ 6) (hE : ∀ L s3 s4, L = L0 → E.nx [s0, some (.dat (.int t)), some (.own (L.map Da.str)), s3, s4]) : ∀ (ss : List Cw) (L : List Str) (s3 s4 : Option Ce), (∀ p ∈ ss, (isC p.1 n ∧ p.1.length ≤ 3) ∧ 1 ≤ p.2 ∧ p.2 ≤ 30) → L.length + ss.length ≤ 1000 → L0 = L ++ ss.map (fun p => rowW p.2 p.1) →
    forW (.tup [.name 3, .name 4]) softX (ss.map sfD) [s0, some (.dat (.int t)), some (.own (L.map Da.str)), s3, s4] E
  | [], L, s3, s4, hc, hl, e => hE L s3 s4 (by rw [e]; simp)
  | p :: ss, L, s3, s4, hc, hl, e => by
    have q := hc p List.mem_cons_self
    have hv : 1 ≤ p.2 ∧ p.2 ≤ 151 := ⟨q.2.1, by have := q.2.2; omega⟩
    rw [List.length_cons] at hl
    refine ⟨_, rfl, ?_⟩
    unfold softX
    walk_at "wg"
    refine ⟨_, rfl, ?_⟩
    walk_at "wg"
    refine ⟨show (1 : Nat) ≤ 1000 by decide, ?_⟩
    walk_at "wg"
    refine ⟨_, dAdd_tup (by have := q.1.2; simp [dis]; omega), ?_⟩
    walk_at "wg"
    refine ⟨show (1 : Nat) ≤ 1000 by decide, _, dAdd_tup (by have := q.1.2; simp [dis]; omega), ?_⟩
    walk_at "wg"
    refine ⟨rfl, [], p.2 :: (p.1 ++ [0]), congrArg (fun z => [Da.tup z]) (row_items p.2 p.1), sm_row hv q.1.1 h6, Nat.le_trans (cost_row hv q.1 h6) (by decide), _, rfl, by rw [List.length_map]; omega, ?_⟩
    have := soft_loop (s0 := s0) (E := E) (L0 := L0) h6 hE ss (L ++ [rowW p.2 p.1]) (some (.dat (cl p.1))) (some (.dat (.int p.2))) (fun c' h => hc c' (List.mem_cons_of_mem _ h)) (by rw [List.length_append, List.length_singleton]; omega) (by rw [e]; simp)
    rw [List.map_append] at this
    exact this
def F_wcnf_text (C : Addr) : Fn := ⟨fun ds k _ => ∃ n hs ss, ds = [PbD C n hs ss] ∧ Sml n hs ss ∧ k (.str (textW n hs ss)), fun hk _ ⟨n, hs, ss, e, s, h⟩ => ⟨n, hs, ss, e, s, hk _ h⟩⟩
theorem len_hardD (hs : List (List Int)) : dLen [hardD hs] = some (.int hs.length) := len_many cl hs
theorem len_softD (ss : List Cw) : dLen [softD ss] = some (.int ss.length) := len_many sfD ss
theorem k_wcnf_text (C : Addr) : Keeps 1 N_wcnf_text.length (F_wcnf_text C) (S_wcnf_text C F_joined (F_Problem_whole_price C)) := by
  rintro ds k x hl ⟨n, hs, ss, rfl, s, h⟩
  show (S_wcnf_text C F_joined (F_Problem_whole_price C)).wp [some (.dat (PbD C n hs ss)), none, none, none, none] _
  unfold S_wcnf_text
  obtain ⟨sm, hc⟩ := cost_head ⟨s.n0, s.n6⟩ s.hm ⟨s.top.1, s.top.2.1⟩
  walk_at "wg"
  refine ⟨nf_whole, ?_⟩
  walk_at "wg"
  refine ⟨rfl, n, hs, ss, rfl, ?_⟩
  walk_at "wg"
  refine ⟨_, rfl, ?_⟩
  show Sx.wp _ [some (.dat (PbD C n hs ss)), some (.dat (.int (topW ss))), none, none, none] _
  walk_at "wg"
  refine ⟨_, fld_count, ?_⟩
  walk_at "wg"
  refine ⟨_, fld_hard, _, len_hardD hs, ?_⟩
  walk_at "wg"
  refine ⟨_, fld_soft, _, len_softD ss, _, rfl, ?_⟩
  walk_at "wg"
  refine ⟨show (5 : Nat) ≤ 1000 by decide, rfl, [pS, wS], [n, (hs.length : Int) + (ss.length : Int), topW ss], rfl, sm, Nat.le_trans hc (by decide), show (1 : Nat) ≤ 1000 by decide, ?_⟩
  walk_at "wg"
  refine ⟨_, fld_hard, _, rfl, ?_⟩
  refine hard_loop (L0 := headW n ((hs.length : Int) + (ss.length : Int)) (topW ss) :: hs.map (rowW (topW ss))) ⟨s.top.1, s.top.2.1⟩ s.n6 (fun L s3 e => ?_) hs [headW n ((hs.length : Int) + (ss.length : Int)) (topW ss)] none s.hc (by have := s.hl; simp; omega) rfl
  walk_at "wg"
  refine ⟨_, fld_soft, _, rfl, ?_⟩
  refine soft_loop (L0 := linesW n hs ss) s.n6 (fun L s3 s4 e => ?_) ss L s3 none s.sc (by rw [e]; have := s.hl; have := s.sl; simp; omega) (by rw [e]; rfl)
  walk_at "wg"
  refine ⟨_, rfl, ?_⟩
  walk_at "wg"
  refine ⟨rfl, ?_⟩
  walk_at "wg"
  rw [e]
  exact ⟨_, dJoin_lst tl_nl (by have := linesW_cost s; omega), h⟩
end K03
end

section
set_option maxHeartbeats 4000000
namespace K03
open PySem PySem.Spec PyProof.Rows L2 Pu PySem.W Tx TL

/-! ### the own text, read again -/
theorem wd_p : Wd pS := by
  have e : tl pS = [112] := by decide +kernel
  intro c hc
  rw [e] at hc
  simp at hc
  omega
theorem wd_w : Wd wS := by
  have e : tl wS = [119, 99, 110, 102] := by decide +kernel
  intro c hc
  rw [e] at hc
  simp at hc
  omega
theorem cons_app {c : List Int} : ∃ i is, c ++ [0] = i :: is := by
  cases c with
  | nil => exact ⟨0, [], rfl⟩
  | cons i is => exact ⟨i, is ++ [0], rfl⟩
theorem words_row (v : Int) (c : List Int) : wordsOf (rowW v c) = numW (v :: (c ++ [0])) := by
  obtain ⟨i, is, e⟩ := cons_app (c := c)
  unfold rowW
  rw [e]
  exact words_join (a := numS v) (b := numS i) (r := numW is) (wd_num (is := v :: i :: is))
theorem words_head (n m t : Int) : wordsOf (headW n m t) = [pS, wS] ++ numW [n, m, t] := words_join (a := pS) (b := wS) (r := numW [n, m, t]) fun w hw => by
  rcases List.mem_cons.mp hw with rfl | hw
  · exact wd_p
  · rcases List.mem_cons.mp hw with rfl | hw
    · exact wd_w
    · exact wd_num w hw
theorem all_whole {is : List Int} (sm : ∀ i ∈ is, SmI i) : (numW is).all wholeB = true := by
  rw [List.all_eq_true]
  intro w hw
  obtain ⟨i, hi, rfl⟩ := List.mem_map.mp hw
  exact (num_whole (sm i hi)).1
theorem rV_num {is : List Int} (sm : ∀ i ∈ is, SmI i) : rV (numW is) = is := by
  unfold rV numW
  rw [List.map_map]
  conv => rhs; rw [← List.map_id is]
  exact List.map_congr_left fun i hi => (num_whole (sm i hi)).2
theorem no_opp {c : List Int} {n : Int} (h : isC c n) : ¬ opp c := by
  rintro ⟨x, hx, hy⟩
  have n0 := (h.1 x hx).1
  have q := pw_two h.2 hx hy (by omega)
  unfold lta at q
  rw [iabs_neg] at q
  omega
theorem row_back {v t : Int} {c : List Int} {n : Int} (hv : 1 ≤ v ∧ v ≤ 151) (hvt : v ≤ t) (h : isC c n) (h6 : n ≤ 6) : rowN (numW (v :: (c ++ [0]))) n t = some (c, v) := by
  have sm := sm_row hv h h6
  have rv := rV_num sm
  have rl : rL (numW (v :: (c ++ [0]))) = c := by
    unfold rL
    rw [rv, List.drop_succ_cons, List.drop_zero, List.dropLast_concat]
  have r0 : (v :: (c ++ [0])).getD 0 0 = v := rfl
  have hb : rB (numW (v :: (c ++ [0]))) = true := by
    unfold rB
    rw [all_whole sm, Bool.and_true, Bool.and_eq_true]
    refine ⟨decide_eq_true (by unfold numW; simp), ?_⟩
    have e : numW (v :: (c ++ [0])) = numW (v :: c) ++ [numS 0] := by simp [numW]
    rw [e, lastZ_app, num_zero]
    exact decide_eq_true tl_zr
  have hw : wB v t = true := by
    unfold wB
    rw [Bool.and_eq_true, Bool.and_eq_true, decide_eq_true_eq, decide_eq_true_eq, Bool.not_eq_true', Bool.and_eq_false_iff]
    exact ⟨⟨hv.1, hvt⟩, .inr (decide_eq_false (by omega))⟩
  have hl : lB c n = true := by
    unfold lB
    rw [List.all_eq_true]
    intro x hx
    have := h.1 x hx
    rw [Bool.and_eq_true, decide_eq_true_eq, decide_eq_true_eq]
    exact this
  have ho : ¬ oB c = true := fun z => no_opp h ((oB_iff c).mp z)
  unfold rowN
  rw [if_pos hb, rv, rl, r0, if_pos hw, if_pos hl, if_neg ho, clOf_eq (out := c) ⟨fun x => Iff.rfl, h.2⟩]
theorem soft_go {n many t : Int} {tot : Nat} (h6 : n ≤ 6) (ht : t ≤ 151) : ∀ (ss : List Cw) (i : Nat) (hs : List (List Int)) (s0 : List Cw), (∀ p ∈ ss, (isC p.1 n ∧ p.1.length ≤ 3) ∧ 1 ≤ p.2 ∧ p.2 ≤ 30) → (∀ p ∈ ss, p.2 < t) → (hs.length : Int) + (s0.length : Int) + (ss.length : Int) = many → goW n many t tot (enumP i (ss.map fun p => rowW p.2 p.1)) hs s0 = .ok n hs (s0 ++ ss)
  | [], i, hs, s0, h, h2, hm => by
    show goW n many t tot [] hs s0 = _
    rw [goW_nil, if_neg (by simp at hm; omega), List.append_nil]
  | p :: ss, i, hs, s0, h, h2, hm => by
    have hp := h p List.mem_cons_self
    have hpt := h2 p List.mem_cons_self
    rw [List.length_cons] at hm
    rw [List.map_cons]
    unfold enumP goW
    have e : stepW (wordsOf (rowW p.2 p.1)) n many t hs s0 = some (hs, s0 ++ [p]) := by
      unfold stepW
      rw [words_row, row_back ⟨hp.2.1, by omega⟩ (by omega) hp.1.1 h6]
      dsimp only
      rw [if_neg (by omega), if_neg (by omega)]
    dsimp only
    rw [e]
    dsimp only
    rw [soft_go h6 ht ss (i + 1) hs (s0 ++ [p]) (fun p' hp => h p' (List.mem_cons_of_mem _ hp)) (fun p' hp => h2 p' (List.mem_cons_of_mem _ hp)) (by rw [List.length_append, List.length_singleton]; omega)]
    simp
theorem hard_go {n many t : Int} {tot : Nat} {ss : List Cw} (h6 : n ≤ 6) (ht : 1 ≤ t ∧ t ≤ 151) (hss : ∀ p ∈ ss, (isC p.1 n ∧ p.1.length ≤ 3) ∧ 1 ≤ p.2 ∧ p.2 ≤ 30) (hst : ∀ p ∈ ss, p.2 < t) : ∀ (hs : List (List Int)) (i : Nat) (h0 : List (List Int)), (∀ c ∈ hs, isC c n ∧ c.length ≤ 3) → (h0.length : Int) + (hs.length : Int) + (ss.length : Int) = many → goW n many t tot (enumP i (hs.map (rowW t) ++ ss.map fun p => rowW p.2 p.1)) h0 [] = .ok n (h0 ++ hs) ss
  | [], i, h0, h, hm => by
    rw [List.append_nil]
    exact soft_go h6 ht.2 ss i h0 [] hss hst (by simp at hm ⊢; omega)
  | c :: hs, i, h0, h, hm => by
    have hp := h c List.mem_cons_self
    rw [List.length_cons] at hm
    rw [List.map_cons, List.cons_append]
    unfold enumP goW
    have e : stepW (wordsOf (rowW t c)) n many t h0 [] = some (h0 ++ [c], []) := by
      unfold stepW
      rw [words_row, row_back ht (Int.le_refl _) hp.1 h6]
      dsimp only
      rw [if_neg (by simp; omega), if_pos rfl]
    dsimp only
    rw [e]
    dsimp only
    rw [hard_go h6 ht hss hst hs (i + 1) (h0 ++ [c]) (fun p' hp => h p' (List.mem_cons_of_mem _ hp)) (by rw [List.length_append, List.length_singleton]; omega)]
    simp
theorem head_back {n m t : Int} (hn : 0 ≤ n ∧ n ≤ 300) (hm : 0 ≤ m ∧ m ≤ 3300) (ht : 1 ≤ t ∧ t ≤ 1000) : hdN ([pS, wS] ++ numW [n, m, t]) = some (n, m, t) := by
  have sm : ∀ i ∈ [n, m, t], SmI i := fun i hi => by
    simp only [List.mem_cons, List.not_mem_nil, or_false] at hi
    unfold SmI
    rcases hi with rfl | rfl | rfl <;> omega
  obtain ⟨a1, a2⟩ := num_whole (sm n (by simp))
  obtain ⟨b1, b2⟩ := num_whole (sm m (by simp))
  obtain ⟨c1, c2⟩ := num_whole (sm t (by simp))
  have hb : hB ([pS, wS] ++ numW [n, m, t]) = true := by
    show (decide ((5 : Nat) = 5) && (decide ([tl pS, tl wS] = [tl pS, tl wS]) && [numS n, numS m, numS t].all fun w => numOk w bigM)) = true
    rw [decide_eq_true rfl, decide_eq_true rfl, Bool.true_and, Bool.true_and]
    unfold numOk
    simp only [List.all_cons, List.all_nil, a1, a2, b1, b2, c1, c2, Bool.true_and, Bool.and_true, Bool.and_eq_true, decide_eq_true_eq]
    have : bigM = 1000000000000 := rfl
    omega
  have hv : hV ([pS, wS] ++ numW [n, m, t]) = [n, m, t] := by
    show [wholeV (numS n), wholeV (numS m), wholeV (numS t)] = _
    rw [a2, b2, c2]
  have hx : ¬ hX [n, m, t] = true := by
    show ¬ (decide (300 < n) || (decide (3300 < m) || decide (t < 1))) = true
    rw [decide_eq_false (by omega), decide_eq_false (by omega), decide_eq_false (by omega)]
    simp
  unfold hdN
  rw [if_pos hb, hv, if_neg hx]
  rfl
theorem com_row (v : Int) (c : List Int) : comB (wordsOf (rowW v c)) = false := by
  rw [words_row]
  refine decide_eq_false fun e => ?_
  have e : [tl (numS v)] = [tl cS] := e
  have ec : tl cS = [99] := by decide +kernel
  have hm : 99 ∈ tl (numS v) := by
    have : tl (numS v) = tl cS := by simpa using e
    rw [this, ec]
    simp
  have := num_mem hm
  omega
theorem com_head (n m t : Int) : comB (wordsOf (headW n m t)) = false := by
  rw [words_head]
  refine decide_eq_false fun e => ?_
  have e : [tl pS] = [tl cS] := e
  revert e
  decide +kernel
theorem rws_lines {n : Int} {hs ss} : rws (linesW n hs ss) = enumP 0 (linesW n hs ss) := by
  unfold rws
  rw [List.filter_eq_self]
  intro p hp
  have hm := List.mem_of_getElem? (enumP_mem hp).2.2
  unfold linesW at hm
  rcases List.mem_cons.mp hm with e | hm
  · rw [e, com_head]
    rfl
  · rcases List.mem_append.mp hm with hm | hm
    · obtain ⟨c, _, e⟩ := List.mem_map.mp hm
      rw [← e, com_row]
      rfl
    · obtain ⟨c, _, e⟩ := List.mem_map.mp hm
      rw [← e, com_row]
      rfl
theorem rd_back {n : Int} {hs ss} (s : Sml n hs ss) : rdT (linesW n hs ss) = .ok n hs ss := by
  unfold rdT
  rw [rws_lines]
  unfold linesW enumP
  dsimp only
  have hm := s.hm
  rw [words_head, head_back ⟨s.n0, by have := s.n6; omega⟩ ⟨hm.1, by omega⟩ ⟨s.top.1, by have := s.top.2.1; omega⟩]
  dsimp only
  exact hard_go s.n6 ⟨s.top.1, s.top.2.1⟩ s.sc s.top.2.2 hs (0 + 1) [] s.hc (by simp)
/-! ### lines that are asked -/
structure Lt (L : List Str) (t : Nat) : Prop where
  len : L.length ≤ 11 + t
  ln : ∀ l ∈ L, Ln l
  bl : ∀ l ∈ L, l.length ≤ 100 + 14 * t
  ws : ∀ l ∈ L, (Txt.split l spS).length ≤ 6 + t
theorem split_words {l : Str} {ws : List Str} (e : wordsOf l = ws) (h : ws ≠ []) : Txt.split l spS = ws := by
  unfold wordsOf at e
  split at e
  · exact absurd e.symm h
  · exact e
theorem lines_lt {n : Int} {hs ss} (s : Sml n hs ss) : Lt (linesW n hs ss) 0 := by
  have hl := linesW_len s
  refine ⟨hl.1, fun l h => ?_, fun l h => Nat.le_trans (hl.2 l h) (by decide), fun l h => ?_⟩
  · unfold linesW at h
    rcases List.mem_cons.mp h with rfl | h
    · refine ln_join fun w hw => ?_
      rcases List.mem_append.mp hw with hw | hw
      · simp only [List.mem_cons, List.not_mem_nil, or_false] at hw
        rcases hw with rfl | rfl
        · exact wd_p.ln
        · exact wd_w.ln
      · exact (wd_num w hw).ln
    · rcases List.mem_append.mp h with h | h
      · obtain ⟨c, hc, rfl⟩ := List.mem_map.mp h
        exact ln_join fun w hw => (wd_num w hw).ln
      · obtain ⟨c, hc, rfl⟩ := List.mem_map.mp h
        exact ln_join fun w hw => (wd_num w hw).ln
  · unfold linesW at h
    rcases List.mem_cons.mp h with rfl | h
    · rw [split_words (words_head _ _ _) (by simp)]
      exact (by decide : (5 : Nat) ≤ 6 + 0)
    · rcases List.mem_append.mp h with h | h
      · obtain ⟨c, hc, rfl⟩ := List.mem_map.mp h
        rw [split_words (words_row _ _) (by unfold numW; simp)]
        have := (s.hc c hc).2
        unfold numW
        simp
        omega
      · obtain ⟨p, hp, rfl⟩ := List.mem_map.mp h
        rw [split_words (words_row _ _) (by unfold numW; simp)]
        have := (s.sc p hp).1.2
        unfold numW
        simp
        omega
theorem wordsOf_len (l : Str) : (wordsOf l).length ≤ (Txt.split l spS).length := by
  unfold wordsOf
  split
  · exact Nat.zero_le _
  · exact Nat.le_refl _
theorem Lt.lok {L : List Str} {t : Nat} (h : Lt L t) (ht : t ≤ 10) : ∀ l ∈ L, LOk l := fun l hl => ⟨⟨(h.ln l hl).asc, by have := h.bl l hl; omega⟩, by have := h.ws l hl; have := wordsOf_len l; omega⟩
theorem lok_em : LOk emS := ⟨⟨(fun c hc => by rw [tl_em] at hc; cases hc), (by decide +kernel)⟩, (by unfold wordsOf; rw [if_pos tl_em]; exact Nat.zero_le _)⟩
theorem em_join : Txt.join nlS [] = emS := ext_tl (by rw [join_tl tl_nl, tl_em]; rfl)
theorem split_lines {L : List Str} (h : ∀ l ∈ L, Ln l) : Txt.split (Txt.join nlS L) nlS = if L = [] then [emS] else L := by
  by_cases e : L = []
  · subst e
    rw [if_pos rfl, em_join, split_one (by rw [tl_em]; simp)]
  · rw [if_neg e, split_join1 tl_nl nl_ok e fun l hl => (h l hl).nl]
theorem Lt.cost {L : List Str} {t : Nat} (h : Lt L t) (ht : t ≤ 10) : cost L ≤ 10000 := by
  have h1 := cost_le h.bl
  have h2 := h.len
  have : (100 + 14 * t + 1) * L.length ≤ 241 * 21 := Nat.mul_le_mul (by omega) (by omega)
  omega
theorem Lt.tok {L : List Str} {t : Nat} (h : Lt L t) (ht : t ≤ 10) : TOk (Txt.join nlS L) := by
  refine ⟨⟨fun c hc => ?_, ?_⟩, ?_⟩
  · rcases join_mem tl_nl hc with e | ⟨l, hl, hc⟩
    · omega
    · exact (h.ln l hl).asc c hc
  · have := join_len tl_nl L
    have := h.cost ht
    omega
  · rw [split_lines h.ln]
    split
    · exact ⟨show (1 : Nat) ≤ 300 by decide, fun l hl => by rw [List.mem_singleton.mp hl]; exact lok_em⟩
    · exact ⟨by have := h.len; omega, h.lok ht⟩
/-! ### _law_told -/
def cat04 (nm : Str) : Option Bool := if nm = (PySem.Str.ofString "BadText") then some true else none
theorem cat_bad : cat04 (PySem.Str.ofString "BadText") = some true := if_pos rfl
def F__law_told : Fn := ⟨fun ds k _ => ∃ z, ds = [.str z] ∧ TOk z ∧ k (rdD (rdT (Txt.split z nlS))), fun hk _ ⟨z, e, o, h⟩ => ⟨z, e, o, hk _ h⟩⟩
theorem k__law_told (C : Addr) : Keeps 1 N__law_told.length F__law_told (S__law_told C (F_read_wcnf C) cat04) := by
  rintro ds k x hl ⟨z, rfl, o, h⟩
  show (S__law_told C (F_read_wcnf C) cat04).wp [some (.dat (.str z)), none, none] _
  unfold S__law_told
  walk_at "wg"
  refine ⟨rfl, z, rfl, o, fun n hs ss e => ?_, fun i e => ?_⟩
  · rw [e] at h
    walk_at "wg"
    refine ⟨_, fld_count, ?_⟩
    walk_at "wg"
    refine ⟨_, fld_hard, ?_⟩
    walk_at "wg"
    refine ⟨_, fld_soft, ?_⟩
    exact ⟨show (3 : Nat) ≤ 1000 by decide, h⟩
  · rw [e] at h
    unfold tryEx
    dsimp only
    rw [cat_bad]
    refine ⟨noExL rfl, ?_⟩
    walk_at "wg"
    exact ⟨rdD (.bad i), by simp [lookExn, rdD], noExL rfl, h⟩
theorem rd_pl {ls : List Str} (hl : ls.length ≤ 300) : pl 4 (rdD (rdT ls)) := by
  cases e : rdT ls with
  | bad i => exact pl_int _ _
  | ok n hs ss =>
    have hr := rws_len ls
    unfold rdT at e
    generalize rws ls = rows at e hr
    cases rows with
    | nil => cases e
    | cons p r =>
      dsimp only at e
      cases eh : hdN (wordsOf p.2) with
      | none => rw [eh] at e; cases e
      | some q =>
        rw [eh] at e
        obtain ⟨a1, a2, a3, a4⟩ := goW_inv r [] [] (fun _ z => by cases z) (fun _ z => by cases z) e
        subst a1
        obtain ⟨c0, c3⟩ := hdN_good eh
        simp only [List.length_nil, Nat.zero_add, List.length_cons] at a4 hr
        refine pl_tup (show (3 : Nat) ≤ 1000000 by decide) (all3 (pl_int _ _) (pl_hard 1 (by omega) fun c hc => ?_) (pl_soft 0 (by omega) fun p hp => ?_))
        · have := isC_len c0 (isCb_isC (a2 c hc))
          omega
        · have q := a3 p hp
          unfold isS at q
          rw [Bool.and_eq_true] at q
          have := isC_len c0 (isCb_isC q.1)
          omega
end K03
end

section
set_option maxHeartbeats 4000000
namespace K03
open PySem PySem.Spec PyProof.Rows L2 Pu PySem.W Tx TL

/-- how parts are changed: one left out, put in, exchanged; doubled, cut off, turned round -/
inductive Chg (ws : List Str) (w : Str) : List Str → Prop
  | out (k : Nat) : Chg ws w (ws.take k ++ ws.drop (k + 1))
  | put (k : Nat) : Chg ws w (ws.take k ++ [w] ++ ws.drop k)
  | exch (k : Nat) : Chg ws w (ws.take k ++ [w] ++ ws.drop (k + 1))
  | cut (k : Nat) : Chg ws w (ws.take k)
  | dbl (k : Nat) : Chg ws w (ws ++ ws.drop k)
  | rev : Chg ws w ws.reverse
theorem Chg.mem {ws ps : List Str} {w : Str} (h : Chg ws w ps) : ∀ p ∈ ps, p ∈ ws ∨ p = w := by
  intro p hp
  cases h with
  | out k => exact .inl ((List.mem_append.mp hp).elim List.mem_of_mem_take List.mem_of_mem_drop)
  | put k =>
    rcases List.mem_append.mp hp with hp | hp
    · rcases List.mem_append.mp hp with hp | hp
      · exact .inl (List.mem_of_mem_take hp)
      · exact .inr (List.mem_singleton.mp hp)
    · exact .inl (List.mem_of_mem_drop hp)
  | exch k =>
    rcases List.mem_append.mp hp with hp | hp
    · rcases List.mem_append.mp hp with hp | hp
      · exact .inl (List.mem_of_mem_take hp)
      · exact .inr (List.mem_singleton.mp hp)
    · exact .inl (List.mem_of_mem_drop hp)
  | cut k => exact .inl (List.mem_of_mem_take hp)
  | dbl k => exact .inl ((List.mem_append.mp hp).elim id List.mem_of_mem_drop)
  | rev => exact .inl (List.mem_reverse.mp hp)
theorem cost_one (w : Str) : cost [w] = w.length + 1 := rfl
theorem cost_rev (ws : List Str) : cost ws.reverse = cost ws := by
  unfold cost
  rw [List.map_reverse, List.sum_reverse]
theorem Chg.bound {ws ps : List Str} {w : Str} (h : Chg ws w ps) : cost ps ≤ 2 * cost ws + (w.length + 1) ∧ ps.length ≤ 2 * ws.length + 1 := by
  cases h with
  | out k =>
    have h1 := cost_take k ws
    have h2 := cost_drop (k + 1) ws
    rw [cost_app]
    simp only [List.length_append, List.length_take, List.length_drop]
    omega
  | put k =>
    have h1 := cost_take k ws
    have h2 := cost_drop k ws
    rw [cost_app, cost_app, cost_one]
    simp only [List.length_append, List.length_take, List.length_drop, List.length_singleton]
    omega
  | exch k =>
    have h1 := cost_take k ws
    have h2 := cost_drop (k + 1) ws
    rw [cost_app, cost_app, cost_one]
    simp only [List.length_append, List.length_take, List.length_drop, List.length_singleton]
    omega
  | cut k =>
    have h1 := cost_take k ws
    rw [List.length_take]
    omega
  | dbl k =>
    have h2 := cost_drop k ws
    rw [cost_app]
    simp only [List.length_append, List.length_drop]
    omega
  | rev =>
    rw [cost_rev, List.length_reverse]
    omega
theorem Chg.bound1 {ws ps : List Str} {w : Str} {k : Nat} (h : ps = ws.take k ++ ws.drop (k + 1) ∨ ps = ws.take k ++ [w] ++ ws.drop k ∨ ps = ws.take k ++ [w] ++ ws.drop (k + 1) ∨ ps = ws.take k) : cost ps ≤ cost ws + (w.length + 1) := by
  have h1 := cost_td k ws
  have h2 : cost (ws.drop (k + 1)) ≤ cost (ws.drop k) := by
    have := cost_drop 1 (ws.drop k)
    rwa [List.drop_drop] at this
  rcases h with rfl | rfl | rfl | rfl
  · rw [cost_app]; omega
  · rw [cost_app, cost_app, cost_one]; omega
  · rw [cost_app, cost_app, cost_one]; omega
  · omega
abbrev takeX (i j : Nat) : W Da := eSl (eVar i) (oNone) (oSome (eVar j))
abbrev dropX (i j : Nat) : W Da := eSl (eVar i) (oSome (eVar j)) (oNone)
abbrev drop1X (i j : Nat) : W Da := eSl (eVar i) (oSome (eOp2 dAdd (eVar j) (eC (.int 1)))) (oNone)
abbrev newX (m : Nat) : W Da := eFrz (eDisp (eCons (eVar m) (eNil)))
section
variable {ρ : En} {K : Da → En → Prop} {x : Ex → En → Prop} {i j m : Nat} {ws : List Str} {a : Nat} {w : Str}
theorem wp_take (h1 : look ρ i = some (wrdD ws)) (h2 : look ρ j = some (.int ((a : Nat) : Int))) (q : K (wrdD (ws.take a)) ρ) : (takeX i j).wp ρ K x := by
  refine w_sl (w_var h1 (w_onone (w_osome (w_var h2 ⟨_, rfl, _, sl_take ws a, q⟩))))
theorem wp_drop (h1 : look ρ i = some (wrdD ws)) (h2 : look ρ j = some (.int ((a : Nat) : Int))) (q : K (wrdD (ws.drop a)) ρ) : (dropX i j).wp ρ K x := by
  refine w_sl (w_var h1 (w_osome (w_var h2 ⟨_, rfl, w_onone ⟨_, sl_drop ws a, q⟩⟩)))
theorem wp_drop1 (h1 : look ρ i = some (wrdD ws)) (h2 : look ρ j = some (.int ((a : Nat) : Int))) (q : K (wrdD (ws.drop (a + 1))) ρ) : (drop1X i j).wp ρ K x := by
  refine w_sl (w_var h1 (w_osome (w_op2 (w_var h2 (w_c ⟨_, rfl, _, rfl, w_onone ⟨_, sl_drop ws (a + 1), q⟩⟩)))))
theorem wp_new (h : look ρ m = some (.str w)) (q : K (wrdD [w]) ρ) : (newX m).wp ρ K x := w_frz (w_disp (w_cons (w_var h (w_nil ⟨show (1 : Nat) ≤ 1000 by decide, q⟩))))
theorem wp_out (h1 : look ρ i = some (wrdD ws)) (h2 : look ρ j = some (.int ((a : Nat) : Int))) (hl : ws.length ≤ 1000000) (q : K (wrdD (ws.take a ++ ws.drop (a + 1))) ρ) : (eOp2 dAdd (takeX i j) (drop1X i j)).wp ρ K x := by
  refine w_op2 (wp_take h1 h2 (wp_drop1 h1 h2 ⟨_, add_wrd ?_, q⟩))
  simp only [List.length_take, List.length_drop]
  omega
theorem wp_put (h1 : look ρ i = some (wrdD ws)) (h2 : look ρ j = some (.int ((a : Nat) : Int))) (h3 : look ρ m = some (.str w)) (hl : ws.length ≤ 1000000) (q : K (wrdD (ws.take a ++ [w] ++ ws.drop a)) ρ) : (eOp2 dAdd (eOp2 dAdd (takeX i j) (newX m)) (dropX i j)).wp ρ K x := by
  refine w_op2 (w_op2 (wp_take h1 h2 (wp_new h3 ⟨_, add_wrd ?_, wp_drop h1 h2 ⟨_, add_wrd ?_, q⟩⟩)))
  all_goals
    simp only [List.length_append, List.length_take, List.length_drop, List.length_singleton]
    omega
theorem wp_exch (h1 : look ρ i = some (wrdD ws)) (h2 : look ρ j = some (.int ((a : Nat) : Int))) (h3 : look ρ m = some (.str w)) (hl : ws.length ≤ 1000000) (q : K (wrdD (ws.take a ++ [w] ++ ws.drop (a + 1))) ρ) : (eOp2 dAdd (eOp2 dAdd (takeX i j) (newX m)) (drop1X i j)).wp ρ K x := by
  refine w_op2 (w_op2 (wp_take h1 h2 (wp_new h3 ⟨_, add_wrd ?_, wp_drop1 h1 h2 ⟨_, add_wrd ?_, q⟩⟩)))
  all_goals
    simp only [List.length_append, List.length_take, List.length_drop, List.length_singleton]
    omega
end
/-! ### _law_changed -/
theorem Lt.mono {L : List Str} {t u : Nat} (h : Lt L t) (htu : t ≤ u) : Lt L u := ⟨by have := h.len; omega, h.ln, fun l hl => by have := h.bl l hl; omega, fun l hl => by have := h.ws l hl; omega⟩
/-- a line that may come in -/
structure Nw (l : Str) (t : Nat) : Prop where
  ln : Ln l
  bl : l.length ≤ 100 + 14 * t
  ws : (Txt.split l spS).length ≤ 6 + t
theorem Lt.chg {L L' : List Str} {t : Nat} (h : Lt L t) (hl : L'.length ≤ L.length + 1) (hm : ∀ l ∈ L', l ∈ L ∨ Nw l (t + 1)) : Lt L' (t + 1) := by
  have h1 := h.mono (Nat.le_succ t)
  refine ⟨by have := h.len; omega, fun l hl => ?_, fun l hl => ?_, fun l hl => ?_⟩
  · exact (hm l hl).elim (h1.ln l) fun z => z.ln
  · exact (hm l hl).elim (h1.bl l) fun z => z.bl
  · exact (hm l hl).elim (h1.ws l) fun z => z.ws
abbrev coS : Str := PySem.Str.ofString "c a comment 1 0"
theorem nw_co (t : Nat) : Nw coS t := by
  have e : tl coS = [99, 32, 97, 32, 99, 111, 109, 109, 101, 110, 116, 32, 49, 32, 48] := by decide +kernel
  refine ⟨fun c hc => ?_, ?_, ?_⟩
  · rw [e] at hc
    simp at hc
    omega
  · rw [len_tl, e]
    simp
    omega
  · have h1 := split_tl (x := coS) tl_sp sp_ok
    rw [e] at h1
    have := congrArg List.length h1
    rw [List.length_map] at this
    rw [this]
    exact Nat.le_trans (by decide : _ ≤ 6) (Nat.le_add_right 6 t)
def menuC : List Str := [PySem.Str.ofString "0", PySem.Str.ofString "1", PySem.Str.ofString "-1", PySem.Str.ofString "-0", PySem.Str.ofString "01", PySem.Str.ofString "", PySem.Str.ofString "c", PySem.Str.ofString "p", PySem.Str.ofString "x", PySem.Str.ofString "3", PySem.Str.ofString "-7", PySem.Str.ofString "1000000001", PySem.Str.ofString "7"]
def wdB (w : Str) : Bool := (tl w).all (fun c => decide (33 ≤ c ∧ c < 127)) && decide (w.length ≤ 12)
theorem menuC_ok : menuC.all wdB = true := by decide +kernel
theorem pickW {ms : List Str} {r : Int} (hm : ms.all wdB = true) (h1 : 0 ≤ r) (h2 : r < ms.length) : ∃ w, (Wd w ∧ w.length ≤ 12) ∧ dIdx (.tup (ms.map Da.str)) (.int r) = some (.str w) := by
  obtain ⟨d, hd, e⟩ := pickL (ds := ms.map Da.str) h1 (by rw [List.length_map]; exact h2)
  obtain ⟨w, hw, rfl⟩ := List.mem_map.mp hd
  have hb := List.all_eq_true.mp hm w hw
  unfold wdB at hb
  rw [Bool.and_eq_true, List.all_eq_true] at hb
  exact ⟨w, ⟨fun c hc => of_decide_eq_true (hb.1 c hc), of_decide_eq_true hb.2⟩, e⟩
/-- a line with a word changed -/
theorem nw_words {l w : Str} {ps : List Str} {k t : Nat} (hl : Ln l) (hb : l.length ≤ 100 + 14 * t) (hw : (Txt.split l spS).length ≤ 6 + t) (hwd : Wd w ∧ w.length ≤ 12) (hc : Chg (Txt.split l spS) w ps)
    (hcs : (ps = (Txt.split l spS).take k ++ (Txt.split l spS).drop (k + 1) ∨ ps = (Txt.split l spS).take k ++ [w] ++ (Txt.split l spS).drop k ∨ ps = (Txt.split l spS).take k ++ [w] ++ (Txt.split l spS).drop (k + 1) ∨ ps = (Txt.split l spS).take k) ∨ ps = (Txt.split l spS).reverse) : Nw (Txt.join spS ps) (t + 1) := by
  have cz : cost (Txt.split l spS) = l.length + 1 := split_cost tl_sp sp_ok
  have hcost : cost ps ≤ l.length + 1 + 13 := by
    rcases hcs with h | h
    · have := Chg.bound1 h
      have := hwd.2
      omega
    · rw [h, cost_rev, cz]
      omega
  have hlen : ps.length ≤ (Txt.split l spS).length + 1 := by
    rcases hcs with (h | h | h | h) | h
    all_goals
      rw [h]
      simp only [List.length_append, List.length_take, List.length_drop, List.length_singleton, List.length_reverse]
      omega
  have no32 : ∀ p ∈ ps, 32 ∉ tl p := fun p hp hc32 => by
    rcases hc.mem p hp with hp | rfl
    · exact (split_mem tl_sp sp_ok hp).1 hc32
    · have := hwd.1 32 hc32
      omega
  refine ⟨fun c hc' => ?_, ?_, ?_⟩
  · rcases join_mem tl_sp hc' with e | ⟨p, hp, hc'⟩
    · omega
    · rcases hc.mem p hp with hp | rfl
      · exact hl c ((split_mem tl_sp sp_ok hp).2 c hc')
      · exact hwd.1.ln c hc'
  · have := join_len tl_sp ps
    omega
  · by_cases e : ps = []
    · subst e
      have e2 : Txt.join spS [] = emS := ext_tl (by rw [join_tl tl_sp, tl_em]; rfl)
      rw [e2, split_one' (by rw [tl_em]; simp)]
      simp
      omega
    · rw [split_join1 tl_sp sp_ok e no32]
      omega
def F__law_changed : Fn := ⟨fun ds k _ => ∃ L t, ds = [wrdD L] ∧ L ≠ [] ∧ Lt L t ∧ t ≤ 5 ∧ ∀ L', Lt L' (t + 1) → k (wrdD L'), fun hk _ ⟨L, t, e, a, b, c, h⟩ => ⟨L, t, e, a, b, c, fun L' q => hk _ (h L' q)⟩⟩
theorem draw_at {ws : List Str} {k : Da → Prop} (h1 : ws ≠ []) (h2 : ws.length ≤ 1000000) (h : ∀ a : Nat, a < ws.length → k (.int ((a : Nat) : Int))) : F__law_draw.wp [.int (ws.length : Int)] k (fun _ => False) := by
  have : ws.length ≠ 0 := fun e => h1 (List.length_eq_zero_iff.mp e)
  refine draw_in (by omega) (by omega) fun r r1 r2 => ?_
  have := h r.toNat (by omega)
  rwa [Int.toNat_of_nonneg r1] at this
theorem sl_one (ws : List Str) (a : Nat) : dSl (wrdD ws) (some ((a : Nat) : Int)) (some ((a : Int) + 1)) = some (wrdD ((ws.drop a).take 1)) := by
  show some (Da.lst (Pu.cutD _ _ _)) = _
  have e1 : ((a : Int) + 1) = ((a + 1 : Nat) : Int) := by omega
  unfold Pu.cutD
  rw [e1, HT.sIx_nat, HT.sIx_nat]
  unfold wrdD
  rw [List.map_take, List.map_drop]
  generalize ws.map Da.str = l
  by_cases h : a + 1 ≤ l.length
  · rw [Nat.min_eq_left h, Nat.min_eq_left (by omega : a ≤ l.length), show a + 1 - a = 1 by omega]
  · rw [Nat.min_eq_right (by omega : l.length ≤ a + 1)]
    rw [List.drop_of_length_le (by omega : l.length ≤ a), List.drop_of_length_le (by rw [Nat.le_min]; omega)]
    simp
theorem rev_drop (ws : List Str) : Da.lst ((ws.map Da.str).drop 1).reverse = wrdD (ws.drop 1).reverse := by
  unfold wrdD
  rw [List.map_reverse, List.map_drop]
theorem k__law_changed : KeepsP 1 N__law_changed.length F__law_changed (S__law_changed F__law_draw) := by
  rintro ds k hl ⟨L, t, rfl, hne, hL, ht, h⟩
  show (S__law_changed F__law_draw).wp [some .pool, some (.dat (wrdD L)), none, none, none, none, none] _
  unfold S__law_changed
  have hlen := hL.len
  walk_at "wg"
  refine ⟨_, len_wrd L, ⟨rfl, rfl⟩, draw_at hne (by omega) fun a ha => ?_⟩
  walk_at "wg"
  refine ⟨⟨rfl, rfl⟩, draw_in (by decide) (by decide) fun r r1 r2 => ?_⟩
  have lt := List.length_take_le a L
  walk_at "wg"
  refine ⟨_, dEq_int _ _, _, rfl, fun e => ?_, fun e => ?_⟩
  · -- a comment
    refine v_ret (w_op2 (w_op2 (wp_take (ws := L) (a := a) rfl rfl (w_frz (w_disp (w_cons (w_c (w_nil ⟨show (1 : Nat) ≤ 1000 by decide, _, add_wrd (a := L.take a) (b := [coS]) ?_, wp_drop (ws := L) (a := a) rfl rfl ⟨_, add_wrd ?_, h _ (hL.chg ?_ fun l hl => ?_)⟩⟩))))))))
    · simp only [List.length_take, List.length_singleton]
      omega
    · simp only [List.length_append, List.length_take, List.length_drop, List.length_singleton]
      omega
    · simp only [List.length_append, List.length_take, List.length_drop, List.length_singleton]
      omega
    · rcases List.mem_append.mp hl with hl | hl
      · rcases List.mem_append.mp hl with hl | hl
        · exact .inl (List.mem_of_mem_take hl)
        · rw [List.mem_singleton.mp hl]
          exact .inr (nw_co _)
      · exact .inl (List.mem_of_mem_drop hl)
  walk_at "wg"
  refine ⟨_, dEq_int _ _, _, rfl, fun e => ?_, fun e => ?_⟩
  · -- a line left out
    refine v_ret (wp_out (ws := L) (a := a) rfl rfl (by omega) (h _ (hL.chg ?_ fun l hl => ?_)))
    · simp only [List.length_append, List.length_take, List.length_drop]
      omega
    · exact .inl ((List.mem_append.mp hl).elim List.mem_of_mem_take List.mem_of_mem_drop)
  walk_at "wg"
  refine ⟨_, dEq_int _ _, _, rfl, fun e => ?_, fun e => ?_⟩
  · -- turned round
    refine v_ret (w_op2 (w_sl (w_var (d := wrdD L) rfl (w_onone (w_osome (w_c ⟨_, rfl, _, sl_take1 L, w_revO (w_var (d := wrdD L) rfl ⟨_, rfl, ?_⟩)⟩))))))
    rw [rev_drop]
    refine ⟨_, add_wrd ?_, h _ (hL.chg ?_ fun l hl => ?_)⟩
    · simp only [List.length_take, List.length_drop, List.length_reverse]
      omega
    · simp only [List.length_append, List.length_take, List.length_drop, List.length_reverse]
      omega
    · exact .inl ((List.mem_append.mp hl).elim List.mem_of_mem_take fun q => List.mem_of_mem_drop (List.mem_reverse.mp q))
  walk_at "wg"
  refine ⟨_, dEq_int _ _, _, rfl, fun e => ?_, fun e => ?_⟩
  · -- one line again
    refine v_ret (w_op2 (w_var (d := wrdD L) rfl (w_sl (w_var (d := wrdD L) rfl (w_osome (w_var (d := .int ((a : Nat) : Int)) rfl ⟨_, rfl, w_osome (w_op2 (w_var (d := .int ((a : Nat) : Int)) rfl (w_c ⟨_, rfl, _, rfl, _, sl_one L a, _, add_wrd ?_, h _ (hL.chg ?_ fun l hl => ?_)⟩)))⟩))))))
    · simp only [List.length_take, List.length_drop]
      omega
    · simp only [List.length_append, List.length_take, List.length_drop]
      omega
    · exact .inl ((List.mem_append.mp hl).elim id fun q => List.mem_of_mem_drop (List.mem_of_mem_take q))
  have r4 : 4 ≤ r := by
    have n0 := of_decide_eq_false ‹decide (r = 0) = false›
    have n1 := of_decide_eq_false ‹decide (r = 1) = false›
    have n2 := of_decide_eq_false ‹decide (r = 2) = false›
    have n3 := of_decide_eq_false ‹decide (r = 3) = false›
    omega
  have hp : L[a] ∈ L := List.getElem_mem ha
  have hx : dIdx (wrdD L) (.int ((a : Nat) : Int)) = some (.str L[a]) := atI_nat (by rw [List.getElem?_map, List.getElem?_eq_getElem ha]; rfl)
  have q1 := hL.ln _ hp
  have q2 := hL.bl _ hp
  have q3 := hL.ws _ hp
  have hne2 : Txt.split L[a] spS ≠ [] := split_ne tl_sp sp_ok
  generalize L[a] = l at hx q1 q2 q3 hne2 hp
  walk_at "wg"
  refine ⟨_, hx, rfl, ?_⟩
  walk_at "wg"
  refine ⟨_, dSplit_eq tl_sp (by omega), ?_⟩
  have nw := fun w ps k => nw_words (l := l) (w := w) (ps := ps) (k := k) (t := t) q1 q2 q3
  have hcw : cost (Txt.split l spS) ≤ 1000000 := by
    rw [split_cost tl_sp sp_ok]
    omega
  generalize Txt.split l spS = ws at hne2 q3 nw hcw
  walk_at "wg"
  refine ⟨_, len_wrd ws, ⟨rfl, rfl⟩, draw_at hne2 (by omega) fun b hb => ?_⟩
  walk_at "wg"
  refine ⟨show (13 : Nat) ≤ 1000 by decide, ?_⟩
  walk_at "wg"
  refine ⟨⟨rfl, rfl⟩, draw_in (by decide) (by decide) fun u u1 u2 => ?_⟩
  obtain ⟨w, hw, ew⟩ := pickW menuC_ok u1 (show u < (menuC.length : Nat) from u2)
  refine ⟨.str w, ew, ?_⟩
  have hl1 : ws.length ≤ 1000000 := by omega
  try dsimp only []
  with_reducible refine v_seq ?_
  try dsimp only []
  with_reducible refine v_set ?_
  try dsimp only []
  with_reducible refine w_idx ?_
  try dsimp only []
  with_reducible refine w_op2 ?_
  try dsimp only []
  with_reducible refine w_tup ?_
  try dsimp only []
  with_reducible refine w_cons ?_
  try dsimp only []
  with_reducible refine wp_out (ws := ws) (a := b) (by with_unfolding_all rfl) (by with_unfolding_all rfl) hl1 ?_
  try dsimp only []
  with_reducible refine w_cons ?_
  try dsimp only []
  with_reducible refine wp_put (ws := ws) (a := b) (w := w) (by with_unfolding_all rfl) (by with_unfolding_all rfl) (by with_unfolding_all rfl) hl1 ?_
  try dsimp only []
  with_reducible refine w_cons ?_
  try dsimp only []
  with_reducible refine wp_exch (ws := ws) (a := b) (w := w) (by with_unfolding_all rfl) (by with_unfolding_all rfl) (by with_unfolding_all rfl) hl1 ?_
  walk_at "wg"
  refine ⟨_, rfl, show (4 : Nat) ≤ 1000 by decide, ?_⟩
  walk_at "wg"
  have er : Da.lst (ws.map Da.str).reverse = wrdD ws.reverse := by
    unfold wrdD
    rw [List.map_reverse]
  obtain ⟨d, hd, ed⟩ := pickL (ds := [wrdD (ws.take b ++ ws.drop (b + 1)), wrdD (ws.take b ++ [w] ++ ws.drop b), wrdD (ws.take b ++ [w] ++ ws.drop (b + 1)), Da.lst (ws.map Da.str).reverse]) (r := r - 4) (by omega) (by simp; omega)
  have hd : ∃ ps, d = wrdD ps ∧ Chg ws w ps ∧ ((ps = ws.take b ++ ws.drop (b + 1) ∨ ps = ws.take b ++ [w] ++ ws.drop b ∨ ps = ws.take b ++ [w] ++ ws.drop (b + 1) ∨ ps = ws.take b) ∨ ps = ws.reverse) := by
    simp only [List.mem_cons, List.not_mem_nil, or_false] at hd
    rcases hd with rfl | rfl | rfl | rfl
    · exact ⟨_, rfl, .out b, .inl (.inl rfl)⟩
    · exact ⟨_, rfl, .put b, .inl (.inr (.inl rfl))⟩
    · exact ⟨_, rfl, .exch b, .inl (.inr (.inr (.inl rfl)))⟩
    · exact ⟨_, er, .rev, .inr rfl⟩
  obtain ⟨ps, rfl, hch, hcs⟩ := hd
  have new := nw w ps b hw hch hcs
  refine ⟨_, rfl, _, ed, ?_⟩
  have hcj : cost ps ≤ 16777216 := by
    have hb1 := hch.bound.1
    have hw2 := hw.2
    omega
  refine v_ret (w_op2 (w_op2 (wp_take (ws := L) (a := a) rfl rfl (w_frz (w_disp (w_cons ?_))))))
  walk_at "wg"
  refine ⟨rfl, ?_⟩
  walk_at "wg"
  refine ⟨_, dJoin_lst tl_sp hcj, show (1 : Nat) ≤ 1000 by decide, _, add_wrd (a := L.take a) (b := [Txt.join spS ps]) ?_, wp_drop1 (ws := L) (a := a) rfl rfl ⟨_, add_wrd ?_, h _ (hL.chg ?_ fun l hl => ?_)⟩⟩
  · simp only [List.length_take, List.length_singleton]
    omega
  · simp only [List.length_append, List.length_take, List.length_drop, List.length_singleton]
    omega
  · simp only [List.length_append, List.length_take, List.length_drop, List.length_singleton]
    omega
  · rcases List.mem_append.mp hl with hl | hl
    · rcases List.mem_append.mp hl with hl | hl
      · exact .inl (List.mem_of_mem_take hl)
      · rw [List.mem_singleton.mp hl]
        exact .inr new
    · exact .inl (List.mem_of_mem_drop hl)
end K03
end

section
set_option maxHeartbeats 4000000
namespace K03
open PySem PySem.Spec PyProof.Rows L2 Pu PySem.W Tx TL

/-! ### the law's pieces -/
abbrev LP0 (C : Addr) : Sx := sOwn 1 (eCallO F__law_pool hF__law_pool 2 (eCons (eVar 0) (eCons (eC (.int 0)) (eNil))))
abbrev LP1 (C : Addr) : Sx := sAsg (eCallP 1 F__law_problem 4 (eCons (eC (.int 6)) (eCons (eC (.int 4)) (eCons (eC (.int 4)) (eCons (eC (.int 30)) (eNil)))))) (.tup [.name 2, .name 3, .name 4])
abbrev LP2 (C : Addr) : Sx := sSet 5 (eCall (F_wcnf_text C) 1 (eCons (eCall (F_Problem___init__ C) 3 (eCons (eVar 2) (eCons (eVar 3) (eCons (eVar 4) (eNil))))) (eNil)))
abbrev LP3 (C : Addr) : Sx := sSet 6 (eOp2 dAdd (eOpN dSum (eCons (eFrz (eLC [7, 8] (iSeq (eVar 4)) (.tup [.name 7, .name 8]) bYes (eVar 8))) (eNil))) (eC (.int 1)))
abbrev LP4 (C : Addr) : Sx := sOwn 9 (eDisp (eCons (eM1 dJoin (eC (.str (PySem.Str.ofString " "))) (eFrz (eDisp (eCons (eC (.str (PySem.Str.ofString "p"))) (eCons (eC (.str (PySem.Str.ofString "wcnf"))) (eCons (eOpN dStr (eCons (eVar 2) (eNil))) (eCons (eOpN dStr (eCons (eOp2 dAdd (eOpN dLen (eCons (eVar 3) (eNil))) (eOpN dLen (eCons (eVar 4) (eNil)))) (eNil))) (eCons (eOpN dStr (eCons (eVar 6) (eNil))) (eNil))))))))) (eNil)))
abbrev LP5 (C : Addr) : Sx := sFor (iSeq (eOp2 dAdd (eFrz (eLC [7] (iSeq (eVar 3)) (.name 7) bYes (eTup (eCons (eVar 7) (eCons (eVar 6) (eNil)))))) (eFrz (eList (eVar 4))))) (.tup [.name 7, .name 8]) (sAppend 9 (eM1 dJoin (eC (.str (PySem.Str.ofString " "))) (eOp2 dAdd (eOp2 dAdd (eFrz (eDisp (eCons (eOpN dStr (eCons (eVar 8) (eNil))) (eNil)))) (eFrz (eLC [10] (iSeq (eVar 7)) (.name 10) bYes (eOpN dStr (eCons (eVar 10) (eNil)))))) (eFrz (eDisp (eCons (eC (.str (PySem.Str.ofString "0"))) (eNil)))))))
abbrev LP6 (C : Addr) : Sx := sIf (bOr (bNot (bT (eCall (F_same 5) 2 (eCons (eVar 5) (eCons (eM1 dJoin (eC (.str (PySem.Str.ofString "\n"))) (eVar 9)) (eNil)))))) (bNot (bT (eCall (F_same 5) 2 (eCons (eCall F__law_told 1 (eCons (eVar 5) (eNil))) (eCons (eTup (eCons (eVar 2) (eCons (eVar 3) (eCons (eVar 4) (eNil))))) (eNil))))))) (sRet (eC (.bl false))) (sPass)
abbrev LQ0 (C : Addr) : Sx := sSet 12 (eVar 9)
abbrev LQ1 (C : Addr) : Sx := sFor (iRange1 (eOp2 dAdd (eC (.int 1)) (eCallP 1 F__law_draw 1 (eCons (eC (.int 3)) (eNil))))) (.name 13) (sIf (bV (eOp2 dNe (eVar 12) (eFrz (eDisp (eNil))))) (sSet 12 (eCallP 1 F__law_changed 1 (eCons (eVar 12) (eNil)))) (sPass))
abbrev LQ2 (C : Addr) : Sx := sIf (bNot (bT (eCall (F_same 5) 2 (eCons (eCall F__law_told 1 (eCons (eM1 dJoin (eC (.str (PySem.Str.ofString "\n"))) (eVar 12)) (eNil))) (eCons (eCall F__law_read 1 (eCons (eM1 dSplit (eM1 dJoin (eC (.str (PySem.Str.ofString "\n"))) (eVar 12)) (eC (.str (PySem.Str.ofString "\n")))) (eNil))) (eNil)))))) (sRet (eC (.bl false))) (sPass)
abbrev LQAll (C : Addr) : Sx := sSeq (LQ0 C) (sSeq (LQ1 C) (LQ2 C))
abbrev LP7 (C : Addr) : Sx := sFor (iRange1 (eC (.int 10))) (.name 11) (LQAll C)
abbrev LP8 (C : Addr) : Sx := sRet (eCall (F_same 5) 2 (eCons (eFrz (eDisp (eCons (eCall F__law_told 1 (eCons (eC (.str (PySem.Str.ofString ""))) (eNil))) (eCons (eCall F__law_told 1 (eCons (eC (.str (PySem.Str.ofString "c"))) (eNil))) (eCons (eCall F__law_told 1 (eCons (eC (.str (PySem.Str.ofString "p wcnf 1 0 1"))) (eNil))) (eCons (eCall F__law_told 1 (eCons (eC (.str (PySem.Str.ofString "p wcnf 301 0 1"))) (eNil))) (eNil))))))) (eCons (eFrz (eDisp (eCons (eC (.int 0)) (eCons (eC (.int 1)) (eCons (eTup (eCons (eC (.int 1)) (eCons (eTup (eNil)) (eCons (eTup (eNil)) (eNil))))) (eCons (eC (.int 0)) (eNil))))))) (eNil))))
abbrev LPAll (C : Addr) : Sx := sSeq (LP0 C) (sPool 1 (sSeq (LP1 C) (sSeq (LP2 C) (sSeq (LP3 C) (sSeq (LP4 C) (sSeq (LP5 C) (sFreeze 9 (sSeq (LP6 C) (sSeq (LP7 C) (LP8 C))))))))))

abbrev LS (ns : List Int) (n : Int) (hs : List (List Int)) (ss : List Cw) (s5 s6 s7 s8 s9 s11 s12 s13 : Option Ce) : En := [some (.dat (.scr ns)), some .pool, some (.dat (.int n)), some (.dat (hardD hs)), some (.dat (softD ss)), s5, s6, s7, s8, s9, none, s11, s12, s13]
section
variable {C : Addr} {ns : List Int} {n : Int} {hs : List (List Int)} {ss : List Cw} {s5 s6 s7 s8 s9 s11 s12 s13 : Option Ce} {E : Fl}
theorem LawP.sml (g : LawP n hs ss) : Sml n hs ss := ⟨by have := g.n1; omega, g.n6, g.h.1, g.s.1, g.h.2, g.s.2⟩
theorem Sml.cOk (s : Sml n hs ss) : cOk n := ⟨s.n0, by have := s.n6; omega⟩
theorem Sml.hOk (s : Sml n hs ss) : hOk n hs := ⟨by have := s.hl; omega, List.all_eq_true.mpr fun c hc => isCb_true (s.hc c hc).1⟩
theorem Sml.sOk (s : Sml n hs ss) : sOk n ss := ⟨by have := s.sl; omega, List.all_eq_true.mpr fun p hp => by
  have q := s.sc p hp
  exact isS_iff (c := p.1) (v := p.2) (isCb_true q.1.1) q.2.1 (by have := q.2.2; omega)⟩
theorem lp2 (s : Sml n hs ss) (q : E.nx (LS ns n hs ss (some (.dat (.str (textW n hs ss)))) s6 s7 s8 s9 s11 s12 s13)) : (LP2 C).wp (LS ns n hs ss s5 s6 s7 s8 s9 s11 s12 s13) E := by
  unfold LP2
  walk_at "wg"
  refine ⟨rfl, n, hs, ss, _, _, rfl, ⟨⟨cl, .inr rfl, fun c _ => seq_cl c⟩, ⟨sfD, .inr rfl, fun p _ => soft_e p⟩⟩, fun a => absurd s.cOk a, fun _ a => absurd s.hOk a, fun _ _ a => absurd s.sOk a, fun _ _ _ => ?_⟩
  exact ⟨rfl, n, hs, ss, rfl, s, q⟩
theorem lp3 (q : E.nx (LS ns n hs ss s5 (some (.dat (.int (topW ss)))) none none s9 s11 s12 s13)) : (LP3 C).wp (LS ns n hs ss s5 s6 none none s9 s11 s12 s13) E := by
  unfold LP3
  walk_at "wg"
  refine ⟨_, rfl, rfl, lcW_all sfD (fun p => .int p.2) ss [] (fun p hp => ⟨_, rfl, fun K hK => ?_⟩) ?_⟩
  · walk_at "wg"
    exact hK
  · exact ⟨_, dSum_map (fun p : Cw => p.2) ss, _, rfl, q⟩
theorem lp4 (s : Sml n hs ss) (q : E.nx (LS ns n hs ss s5 (some (.dat (.int (topW ss)))) s7 s8 (some (.own ([headW n ((hs.length : Int) + (ss.length : Int)) (topW ss)].map Da.str))) s11 s12 s13)) : (LP4 C).wp (LS ns n hs ss s5 (some (.dat (.int (topW ss)))) s7 s8 s9 s11 s12 s13) E := by
  obtain ⟨sm, hc⟩ := cost_head ⟨s.n0, s.n6⟩ s.hm ⟨s.top.1, s.top.2.1⟩
  unfold LP4
  walk_at "wg"
  refine ⟨rfl, ?_⟩
  walk_at "wg"
  refine ⟨_, dStr_int (sm n (by simp)), ?_⟩
  walk_at "wg"
  refine ⟨_, len_hardD hs, ?_⟩
  walk_at "wg"
  refine ⟨_, len_softD ss, _, rfl, _, dStr_int (sm _ (by simp)), ?_⟩
  walk_at "wg"
  refine ⟨_, dStr_int (sm (topW ss) (by simp)), show (5 : Nat) ≤ 1000 by decide, ?_⟩
  exact ⟨_, dJoin_lst (ps := [pS, wS] ++ numW [n, (hs.length : Int) + (ss.length : Int), topW ss]) tl_sp (Nat.le_trans hc (by decide)), show (1 : Nat) ≤ 1000 by decide, q⟩
theorem numW_app (c : List Int) : numW (c ++ [0]) = numW c ++ [zrS] := by
  unfold numW
  rw [List.map_append, List.map_singleton, num_zero]
def rowP (p : Cw) : Str := rowW p.2 p.1
theorem row_loop2 {L0 : List Str} (h6 : n ≤ 6) (hE : ∀ L s7 s8, L = L0 → E.nx (LS ns n hs ss s5 s6 s7 s8 (some (.own (L.map Da.str))) s11 s12 s13)) : ∀ (ss' : List Cw) (L : List Str) (s7 s8 : Option Ce), (∀ p ∈ ss', (isC p.1 n ∧ p.1.length ≤ 3) ∧ 1 ≤ p.2 ∧ p.2 ≤ 151) → L.length + ss'.length ≤ 1000 → L0 = L ++ ss'.map rowP →
    forW (.tup [.name 7, .name 8]) (sAppend 9 (eM1 dJoin (eC (.str (PySem.Str.ofString " "))) (eOp2 dAdd (eOp2 dAdd (eFrz (eDisp (eCons (eOpN dStr (eCons (eVar 8) (eNil))) (eNil)))) (eFrz (eLC [10] (iSeq (eVar 7)) (.name 10) bYes (eOpN dStr (eCons (eVar 10) (eNil)))))) (eFrz (eDisp (eCons (eC (.str (PySem.Str.ofString "0"))) (eNil))))))) (ss'.map sfD) (LS ns n hs ss s5 s6 s7 s8 (some (.own (L.map Da.str))) s11 s12 s13) E
  | [], L, s7, s8, hc, hl, e => hE L s7 s8 (by rw [e]; simp)
  | p :: ss', L, s7, s8, hc, hl, e => by
    have q := hc p List.mem_cons_self
    have sm := sm_row q.2 q.1.1 h6
    rw [List.length_cons] at hl
    refine ⟨_, rfl, ?_⟩
    walk_at "wg"
    refine ⟨_, rfl, ?_⟩
    walk_at "wg"
    refine ⟨rfl, ?_⟩
    walk_at "wg"
    refine ⟨_, dStr_int (sm p.2 List.mem_cons_self), show (1 : Nat) ≤ 1000 by decide, ?_⟩
    walk_at "wg"
    refine ⟨_, rfl, rfl, lcW_all Da.int (fun v => .str (numS v)) p.1 [] (fun v hv => ⟨_, rfl, fun K hK => ?_⟩) ?_⟩
    · walk_at "wg"
      exact ⟨_, dStr_int (sm v (List.mem_cons_of_mem _ (List.mem_append_left _ hv))), hK⟩
    rw [List.nil_append, num_strs]
    have a1 : dAdd (.lst [.str (numS p.2)]) (.lst ((numW p.1).map Da.str)) = some (wrdD ([numS p.2] ++ numW p.1)) := add_wrd (a := [numS p.2]) (b := numW p.1) (by unfold numW; have := q.1.2; simp; omega)
    have a2 : dAdd (wrdD ([numS p.2] ++ numW p.1)) (.lst [.str zrS]) = some (wrdD (numW (p.2 :: (p.1 ++ [0])))) := by
      have e1 : numW (p.2 :: (p.1 ++ [0])) = ([numS p.2] ++ numW p.1) ++ [zrS] := by
        show numS p.2 :: numW (p.1 ++ [0]) = _
        rw [numW_app]
        simp
      rw [e1]
      exact add_wrd (a := [numS p.2] ++ numW p.1) (b := [zrS]) (by unfold numW; have := q.1.2; simp; omega)
    refine ⟨_, a1, ?_⟩
    walk_at "wg"
    refine ⟨show (1 : Nat) ≤ 1000 by decide, _, a2, _, dJoin_lst tl_sp (Nat.le_trans (cost_row q.2 q.1 h6) (by decide)), _, rfl, by rw [List.length_map]; omega, ?_⟩
    have := row_loop2 (L0 := L0) h6 hE ss' (L ++ [rowP p]) (some (.dat (cl p.1))) (some (.dat (.int p.2))) (fun c' h => hc c' (List.mem_cons_of_mem _ h)) (by rw [List.length_append, List.length_singleton]; omega) (by rw [e]; simp)
    rw [List.map_append] at this
    exact this
theorem lp5 (s : Sml n hs ss) (q : ∀ s7 s8, E.nx (LS ns n hs ss s5 (some (.dat (.int (topW ss)))) s7 s8 (some (.own ((linesW n hs ss).map Da.str))) s11 s12 s13)) : (LP5 C).wp (LS ns n hs ss s5 (some (.dat (.int (topW ss)))) none s8 (some (.own ([headW n ((hs.length : Int) + (ss.length : Int)) (topW ss)].map Da.str))) s11 s12 s13) E := by
  have hl := s.hl
  have sl := s.sl
  unfold LP5
  walk_at "wg"
  refine ⟨_, rfl, rfl, lcW_all cl (fun c => sfD (c, topW ss)) hs [] (fun c hc => ⟨_, rfl, fun K hK => ?_⟩) ?_⟩
  · walk_at "wg"
    exact ⟨show (2 : Nat) ≤ 1000 by decide, hK⟩
  rw [List.nil_append]
  walk_at "wg"
  have ea : dAdd (.lst (hs.map fun c => sfD (c, topW ss))) (.lst (ss.map sfD)) = some (.lst ((hs.map (fun c => (c, topW ss)) ++ ss).map sfD)) := by
    show (if _ then _ else _) = _
    rw [if_pos (by rw [line_eq, List.length_map, List.length_map]; omega), List.map_append, List.map_map]
    rfl
  refine ⟨_, rfl, _, ea, _, rfl, row_loop2 (L0 := linesW n hs ss) s.n6 (fun L s7 s8 e => ?_) (hs.map (fun c => (c, topW ss)) ++ ss) [headW n ((hs.length : Int) + (ss.length : Int)) (topW ss)] none s8 (fun p hp => ?_) (by simp; omega) ?_⟩
  · rw [e]
    exact q s7 s8
  · rcases List.mem_append.mp hp with hp | hp
    · obtain ⟨c, hc, rfl⟩ := List.mem_map.mp hp
      exact ⟨s.hc c hc, s.top.1, s.top.2.1⟩
    · have := s.sc p hp
      exact ⟨this.1, this.2.1, by have := this.2.2; omega⟩
  · unfold linesW
    rw [List.map_append, List.map_map]
    rfl
theorem text_tok (s : Sml n hs ss) : TOk (textW n hs ss) := (lines_lt s).tok (by decide)
theorem split_text (s : Sml n hs ss) : Txt.split (textW n hs ss) nlS = linesW n hs ss := by
  unfold textW
  rw [split_lines (lines_lt s).ln, if_neg (by unfold linesW; simp)]
theorem lp6 (s : Sml n hs ss) (q : E.nx (LS ns n hs ss (some (.dat (.str (textW n hs ss)))) s6 s7 s8 (some (.dat (wrdD (linesW n hs ss)))) s11 s12 s13)) : (LP6 C).wp (LS ns n hs ss (some (.dat (.str (textW n hs ss)))) s6 s7 s8 (some (.dat (wrdD (linesW n hs ss)))) s11 s12 s13) E := by
  have tk := text_tok s
  unfold LP6
  walk_at "wg"
  refine ⟨rfl, ?_⟩
  walk_at "wg"
  refine ⟨_, dJoin_lst tl_nl (by have := linesW_cost s; omega), rfl, .str (textW n hs ss), rfl, tk.1.ok, _, rfl, fun z => Bool.noConfusion z, fun _ => ?_⟩
  walk_at "wg"
  refine ⟨rfl, textW n hs ss, rfl, tk, ?_⟩
  have e : rdT (Txt.split (textW n hs ss) nlS) = .ok n hs ss := by rw [split_text s, rd_back s]
  have p := rd_pl (ls := Txt.split (textW n hs ss) nlS) tk.2.1
  rw [e] at p ⊢
  walk_at "wg"
  refine ⟨show (3 : Nat) ≤ 1000 by decide, rfl, _, rfl, p, _, rfl, fun z => Bool.noConfusion z, fun _ => q⟩
theorem dNe_wrdN {ws : List Str} (o : ∀ w ∈ ws, PyData.strOk w = true) : dNe (wrdD ws) (.lst []) = some (.bl (!ws.isEmpty)) := dNe_nilS o
theorem more_loop (hE : ∀ L s13, Lt L 3 → E.nx (LS ns n hs ss s5 s6 s7 s8 s9 s11 (some (.dat (wrdD L))) s13)) : ∀ (ds : List Da) (L : List Str) (t : Nat) (s13 : Option Ce), Lt L t → t + ds.length ≤ 3 →
    forW (.name 13) (sIf (bV (eOp2 dNe (eVar 12) (eFrz (eDisp (eNil))))) (sSet 12 (eCallP 1 F__law_changed 1 (eCons (eVar 12) (eNil)))) (sPass)) ds (LS ns n hs ss s5 s6 s7 s8 s9 s11 (some (.dat (wrdD L))) s13) E
  | [], L, t, s13, hL, ht => hE L s13 (hL.mono (by simp at ht; omega))
  | d :: ds, L, t, s13, hL, ht => by
    rw [List.length_cons] at ht
    refine ⟨_, rfl, ?_⟩
    walk_at "wg"
    refine ⟨show (0 : Nat) ≤ 1000 by decide, _, dNe_wrdN fun w hw => (hL.ln w hw).asc.ok, _, rfl, fun e => ?_, fun e => ?_⟩
    · have hne : L ≠ [] := fun z => by
        rw [z] at e
        cases e
      walk_at "wg"
      refine ⟨⟨rfl, rfl⟩, L, t, rfl, hne, hL, by omega, fun L' hL' => ?_⟩
      exact more_loop hE ds L' (t + 1) _ hL' (by omega)
    · exact more_loop hE ds L (t + 1) _ (hL.mono (by omega)) (by omega)
theorem turn_ok {L0 : List Str} (h0 : Lt L0 0) {E : Fl} (q : ∀ s12 s13, E.nx (LS ns n hs ss s5 s6 s7 s8 (some (.dat (wrdD L0))) s11 s12 s13)) : (LQAll C).wp (LS ns n hs ss s5 s6 s7 s8 (some (.dat (wrdD L0))) s11 s12 s13) E := by
  have fin : ∀ L s13, Lt L 3 → (LQ2 C).wp (LS ns n hs ss s5 s6 s7 s8 (some (.dat (wrdD L0))) s11 (some (.dat (wrdD L))) s13) E := by
    intro L s13 hL
    have tk := hL.tok (by decide)
    have hc := hL.cost (by decide)
    unfold LQ2
    walk_at "wg"
    refine ⟨rfl, ?_⟩
    walk_at "wg"
    refine ⟨_, dJoin_lst tl_nl (by omega), rfl, Txt.join nlS L, rfl, tk, ?_⟩
    walk_at "wg"
    refine ⟨rfl, ?_⟩
    walk_at "wg"
    refine ⟨_, dJoin_lst tl_nl (by omega), rfl, ?_⟩
    walk_at "wg"
    refine ⟨_, dSplit_eq tl_nl (by have := tk.1.2; omega), rfl, Txt.split (Txt.join nlS L) nlS, rfl, tk.2.2, tk.2.1, ?_⟩
    exact ⟨rfl, _, rfl, rd_pl tk.2.1, _, rfl, fun z => Bool.noConfusion z, fun _ => q _ _⟩
  unfold LQAll
  refine v_seq ?_
  unfold LQ0
  walk_at "wg"
  refine ⟨⟨rfl, rfl⟩, draw_in (by decide) (by decide) fun r r1 r2 => ⟨_, rfl, _, rfl, ⟨by omega, by omega⟩, ?_⟩⟩
  refine more_loop (fun L s13 hL => fin L s13 hL) _ L0 0 _ h0 ?_
  rw [rangeD_len]
  omega
theorem turns_ok {L0 : List Str} (h0 : Lt L0 0) {E : Fl} (q : ∀ s11 s12 s13, E.nx (LS ns n hs ss s5 s6 s7 s8 (some (.dat (wrdD L0))) s11 s12 s13)) : ∀ (ds : List Da) (s11 s12 s13 : Option Ce), forW (.name 11) (LQAll C) ds (LS ns n hs ss s5 s6 s7 s8 (some (.dat (wrdD L0))) s11 s12 s13) E
  | [], s11, s12, s13 => q s11 s12 s13
  | d :: ds, s11, s12, s13 => ⟨_, rfl, turn_ok h0 fun s12 s13 => turns_ok h0 q ds _ s12 s13⟩
theorem lp7 {L0 : List Str} (h0 : Lt L0 0) (q : ∀ s11 s12 s13, E.nx (LS ns n hs ss s5 s6 s7 s8 (some (.dat (wrdD L0))) s11 s12 s13)) : (LP7 C).wp (LS ns n hs ss s5 s6 s7 s8 (some (.dat (wrdD L0))) s11 s12 s13) E := by
  unfold LP7
  walk_at "wg"
  exact ⟨_, rfl, ⟨by decide, by decide⟩, turns_ok h0 q _ _ _ _⟩
/-! the last texts -/
abbrev tA : Str := PySem.Str.ofString "p wcnf 1 0 1"
abbrev tB : Str := PySem.Str.ofString "p wcnf 301 0 1"
theorem tok_one {z : Str} (h : Ln z) (hb : z.length ≤ 100) (hw : (wordsOf z).length ≤ 50) : TOk z := by
  refine ⟨⟨h.asc, by omega⟩, ?_⟩
  rw [split_one h.nl]
  exact ⟨(by decide : (1 : Nat) ≤ 300), fun l hl => by rw [List.mem_singleton.mp hl]; exact ⟨⟨h.asc, by omega⟩, hw⟩⟩
theorem eq_A : tA = headW 1 0 1 := ext_tl (by
  unfold headW
  rw [join_tl tl_sp]
  decide +kernel)
theorem eq_B : tB = headW 301 0 1 := ext_tl (by
  unfold headW
  rw [join_tl tl_sp]
  decide +kernel)
theorem ln_head (n m t : Int) : Ln (headW n m t) := ln_join fun w hw => by
  rcases List.mem_append.mp hw with hw | hw
  · simp only [List.mem_cons, List.not_mem_nil, or_false] at hw
    rcases hw with rfl | rfl
    · exact wd_p.ln
    · exact wd_w.ln
  · exact (wd_num w hw).ln
theorem tok_head (n m t : Int) (h : (headW n m t).length ≤ 100) : TOk (headW n m t) := tok_one (ln_head n m t) h (by rw [words_head]; exact (by decide : (5 : Nat) ≤ 50))
theorem rws_one {z : Str} (h : comB (wordsOf z) = false) : rws [z] = [(0, z)] := by
  unfold rws enumP enumP
  rw [List.filter_cons_of_pos (by rw [h]; rfl)]
  rfl
theorem ln_em : Ln emS := fun c hc => by rw [tl_em] at hc; cases hc
theorem tl_c : tl cS = [99] := by decide +kernel
theorem ln_c : Ln cS := fun c hc => by
  rw [tl_c] at hc
  simp at hc
  omega
theorem words_em : wordsOf emS = [] := if_pos tl_em
theorem words_c : wordsOf cS = [cS] := by
  unfold wordsOf
  rw [if_neg (by rw [tl_c]; simp), split_one' (by rw [tl_c]; simp)]
theorem rd_em : rdT (Txt.split emS nlS) = .bad 0 := by
  rw [split_one ln_em.nl]
  unfold rdT
  rw [rws_one (by rw [words_em]; rfl)]
  dsimp only
  rw [words_em]
  rfl
theorem rd_c : rdT (Txt.split cS nlS) = .bad 1 := by
  rw [split_one ln_c.nl]
  unfold rdT
  have : rws [cS] = [] := by
    unfold rws enumP enumP
    rw [List.filter_cons_of_neg (by
      show ¬ (!comB (wordsOf cS)) = true
      rw [words_c]
      have : comB [cS] = true := decide_eq_true rfl
      rw [this]
      simp)]
    rfl
  rw [this]
  rfl
theorem rd_A : rdT (Txt.split tA nlS) = .ok 1 [] [] := by
  rw [eq_A, split_one (ln_head _ _ _).nl]
  unfold rdT
  rw [rws_one (com_head _ _ _)]
  dsimp only
  rw [words_head, head_back (by decide) (by decide) (by decide)]
  dsimp only
  rw [goW_nil, if_neg (by simp)]
theorem rd_B : rdT (Txt.split tB nlS) = .bad 0 := by
  rw [eq_B, split_one (ln_head _ _ _).nl]
  unfold rdT
  rw [rws_one (com_head _ _ _)]
  dsimp only
  have sm : ∀ i ∈ [(301 : Int), 0, 1], SmI i := fun i hi => by
    simp only [List.mem_cons, List.not_mem_nil, or_false] at hi
    unfold SmI
    rcases hi with rfl | rfl | rfl <;> decide
  have hv : hV ([pS, wS] ++ numW [301, 0, 1]) = [301, 0, 1] := by
    show [wholeV (numS 301), wholeV (numS 0), wholeV (numS 1)] = _
    rw [(num_whole (sm 301 (by simp))).2, (num_whole (sm 0 (by simp))).2, (num_whole (sm 1 (by simp))).2]
  have : hdN ([pS, wS] ++ numW [301, 0, 1]) = none := by
    unfold hdN
    rw [hv, if_pos (show hX [301, 0, 1] = true by decide)]
    split <;> rfl
  rw [words_head, this]
theorem lp8 (q : ∀ ρ, E.rt (.bl true) ρ) : (LP8 C).wp (LS ns n hs ss s5 s6 s7 s8 s9 s11 s12 s13) E := by
  unfold LP8
  walk_at "wg"
  refine ⟨rfl, emS, rfl, tok_one ln_em (by decide +kernel) (by rw [words_em]; simp), ?_⟩
  rw [rd_em]
  walk_at "wg"
  refine ⟨rfl, cS, rfl, tok_one ln_c (by decide +kernel) (by rw [words_c]; simp), ?_⟩
  rw [rd_c]
  walk_at "wg"
  refine ⟨rfl, tA, rfl, by rw [eq_A]; exact tok_head _ _ _ (by rw [← eq_A]; decide +kernel), ?_⟩
  rw [rd_A]
  walk_at "wg"
  refine ⟨rfl, tB, rfl, by rw [eq_B]; exact tok_head _ _ _ (by rw [← eq_B]; decide +kernel), ?_⟩
  rw [rd_B]
  walk_at "wg"
  refine ⟨show (4 : Nat) ≤ 1000 by decide, ?_⟩
  walk_at "wg"
  refine ⟨show (0 : Nat) ≤ 1000 by decide, ?_⟩
  walk_at "wg"
  refine ⟨show (0 : Nat) ≤ 1000 by decide, ?_⟩
  walk_at "wg"
  refine ⟨show (3 : Nat) ≤ 1000 by decide, ?_⟩
  walk_at "wg"
  refine ⟨show (4 : Nat) ≤ 1000 by decide, rfl, .lst [.int 0, .int 1, .tup [.int 1, .tup [], .tup []], .int 0], rfl, ?_, q _⟩
  refine pl_lst (show (4 : Nat) ≤ 1000000 by decide) fun d hd => ?_
  simp only [List.mem_cons, List.not_mem_nil, or_false] at hd
  rcases hd with rfl | rfl | rfl | rfl
  · exact pl_int _ _
  · exact pl_int _ _
  · exact pl_tup (show (3 : Nat) ≤ 1000000 by decide) (all3 (pl_int _ _) (pl_cl 1 (c := []) (by simp)) (pl_cl 1 (c := []) (by simp)))
  · exact pl_int _ _
end
def F_law : Fn := ⟨fun ds k _ => ∃ ns : List Int, ds = [.scr ns] ∧ ns.length ≤ 1000 ∧ k (.bl true), fun hk _ ⟨ns, e, h0, h⟩ => ⟨ns, e, h0, hk _ h⟩⟩
theorem k_law (C : Addr) : Keeps 1 N_law.length F_law (S_law C hF__law_pool F__law_problem (F_wcnf_text C) (F_same 5) F__law_told F__law_draw F__law_changed F__law_read (F_Problem___init__ C)) := by
  rintro ds k x hl ⟨ns, rfl, h0, h⟩
  show (LPAll C).wp [some (.dat (.scr ns)), none, none, none, none, none, none, none, none, none, none, none, none, none] _
  refine v_seq ?_
  refine ⟨rfl, ns, 0, rfl, ?_⟩
  refine ⟨ns, 0, 0, 1, 0, 0, rfl, by decide, by decide, by decide, h0, ?_⟩
  refine v_seq ?_
  refine ⟨rfl, ⟨rfl, rfl⟩, rfl, fun n hs ss g => ⟨_, rfl, ?_⟩⟩
  have s := LawP.sml g
  dsimp only
  refine v_seq (lp2 (C := C) (ns := ns) (n := n) (hs := hs) (ss := ss) (s5 := none) (s6 := none) (s7 := none) (s8 := none) (s9 := none) (s11 := none) (s12 := none) (s13 := none) s ?_)
  dsimp only
  refine v_seq (lp3 ?_)
  dsimp only
  refine v_seq (lp4 s ?_)
  dsimp only
  refine v_seq (lp5 s fun s7 s8 => ?_)
  dsimp only
  refine ⟨_, rfl, ?_⟩
  show (sSeq (LP6 C) _).wp (LS ns n hs ss (some (.dat (.str (textW n hs ss)))) (some (.dat (.int (topW ss)))) s7 s8 (some (.dat (wrdD (linesW n hs ss)))) none none none) _
  refine v_seq (lp6 s ?_)
  dsimp only
  refine v_seq (lp7 (lines_lt s) fun s11 s12 s13 => ?_)
  dsimp only
  exact lp8 fun ρ => h
end K03
end

section
set_option maxHeartbeats 4000000
namespace K03
open PySem PySem.Spec PyProof.Rows L2 Pu PySem.W

/-! ### the facts of the top, the end -/
theorem sqF_of {K : Frag} {H : Hp} {a : Addr} {xs : List V} (hO : Only H) (hS : SqL K H a xs) : SqF K H a xs := by
  refine ⟨hS, fun H' k => ?_⟩
  rcases hS with (h | ⟨o, h⟩) | h
  · rcases hO a with z | ⟨o, ys, z⟩
    · rw [z] at h
      cases h
    · rw [z] at h
      have h' : HO.frz o (.lst ys) = HO.lst xs := Option.some.inj h
      cases h'
  · exact .inl (.inr ⟨o, k _ _ h (fun z => z)⟩)
  · exact .inr h
/-- the law's promise, without the module's names -/
def spLaw (K : Frag) : Sp := spD K (fun _ => none) 1 F_law
theorem spLaw_ok {K : Frag} {H : Hp} {a : Addr} {ns : List Int} (hl : ns.length ≤ 63) (hO : Only H) (hS : SqL K H a (ns.map V.int)) : spLaw K [.ref a] H (fun v _ => v = .bl true) (fun _ _ _ => False) := by
  refine ⟨fun _ => False, [.scr ns], rfl, ?_, ns, rfl, by omega, fun v H' _ r => rep_bl'.mp r⟩
  simp only [Reps, Rep]
  exact ⟨.ref a, [], rfl, ⟨a, rfl, sqF_of hO hS, by omega⟩, rfl⟩
theorem noCX {P : Program} {w : World} {H : Hp} {s : Shared} {e : Value} {s' : Shared} (h : L2.CX P w [] H s (fun _ _ _ => False) e s') : False := by
  obtain ⟨_, _, _, _, _, _, _, _, _, _, _, _, z⟩ := h
  exact z
theorem spD0 {P : Program} {w : World} {K : Frag} {mg : Str → Option Value} {base : Heap} {CX : CXT} {k : Nat} {f : Addr} {fd : FuncData} {ps : List Str} {n : Nat} {F : Fn} (hF : ∀ ds k x, ¬ F.wp ds k x) : FnOk P w K mg base CX k f fd ps (spD K mg n F) :=
  ⟨fun vs H Q E ⟨_, _, _, _, h⟩ => (hF _ _ _ h).elim, fun A outer s H args us vs Q E hr e0 hb r ⟨_, _, _, _, h⟩ => (hF _ _ _ h).elim⟩
theorem spL0 {P : Program} {w : World} {K : Frag} {mg : Str → Option Value} {base : Heap} {CX : CXT} {k : Nat} {f : Addr} {fd : FuncData} {ps : List Str} {n : Nat} {F : Fn} (hF : ∀ ds k x, ¬ F.wp ds k x) : FnOk P w K mg base CX k f fd ps (spL K mg n F) :=
  ⟨fun vs H Q E ⟨_, _, _, _, _, _, _, _, _, h⟩ => (hF _ _ _ h).elim, fun A outer s H args us vs Q E hr e0 hb r ⟨_, _, _, _, _, _, _, _, _, h⟩ => (hF _ _ _ h).elim⟩
theorem exm_of {K : Frag} {C D : Addr} {b : Bool} {nm qn : Str} {N : Addr} {bs bm sub : List Value} {sn : List Str} {ab bb : Bool} {col : Option Bool} {dd : Option Addr} {k0 k1 k2 k3 k5 : Option Value} {zz : String}
    (e_l : K.lookup D = some (excClassObj nm qn D N bs bm bb sn sub ab col dd k0 k1 k2 k3 k5 zz)) (e_ex : subIn K (.ref D) (.type "BaseException") = some true) (e_ty : typeIn K (.ref D) = some (.type "type")) (e_m : subIn K (.ref C) (.ref D) = some b) : exmOne K (.ref C) (.ref D) = some b := by
  have hcl : (clsIn K D).isSome = true := by unfold clsIn; rw [e_l] <;> rfl
  unfold exmOne
  rw [e_ex, if_pos (by decide)]
  show (if ((clsIn K D).isSome && typeIn K (.ref D) == some (.type "type")) = true then subIn K (.ref C) (.ref D) else none) = some b
  rw [if_pos (by rw [hcl, e_ty]; decide), e_m]

theorem cat_ok {K : Frag} {mg : Str → Option Value} {C : Addr} (hC : mg (PySem.Str.ofString "BadText") = some (.ref C)) (x : XfC K C) (h1 : findIn K (.ref C) (PySem.Str.ofString "at") = some none) (h2 : exmOne K (.ref C) (.ref C) = some true) :
    ∀ (nm : Str) (C' : Addr), mg nm = some (.ref C') → (cat04 nm = some true → XfC K C' ∧ findIn K (.ref C') (PySem.Str.ofString "at") = some none ∧ exmOne K (.ref C') (.ref C) = some true) ∧ (cat04 nm = some false → exmOne K (.ref C') (.ref C) = some false) := by
  intro nm C' h
  unfold cat04
  by_cases e : nm = (PySem.Str.ofString "BadText")
  · subst e
    rw [hC] at h
    cases h
    rw [if_pos rfl]
    exact ⟨fun _ => ⟨x, h1, h2⟩, fun z => Bool.noConfusion (Option.some.inj z)⟩
  · rw [if_neg e]
    exact ⟨fun z => absurd z (by simp), fun z => absurd z (by simp)⟩
theorem catU_ok {K : Frag} {mg : Str → Option Value} {C : Addr} (hC : mg (PySem.Str.ofString "BadClause") = some (.ref C)) (h2 : exmOne K (.ref C) (.ref C) = some true) :
    ∀ (nm : Str) (C' : Addr), mg nm = some (.ref C') → (cat03 nm = some true → exmOne K (.ref C') (.ref C) = some true) ∧ (cat03 nm = some false → exmOne K (.ref C') (.ref C) = some false) := by
  intro nm C' h
  unfold cat03
  by_cases e : nm = (PySem.Str.ofString "BadClause")
  · subst e
    rw [hC] at h
    cases h
    rw [if_pos rfl]
    exact ⟨fun _ => h2, fun z => Bool.noConfusion (Option.some.inj z)⟩
  · rw [if_neg e]
    exact ⟨fun z => absurd z (by simp), fun z => absurd z (by simp)⟩

theorem all_mk {P : Program} {w : World} {K : Frag} {h : Heap} {mg : Str → Option Value} {fa : Addr} {a_ordered a_clause_of a_is_clause a_is_soft a_Problem___init__ a_Problem_whole_price a_is_whole a_is_number a_split a_joined a_wcnf_text a_read_head a_read_row a_read_wcnf a__law_pool a__law_draw a__law_same a__law_literals a__law_problem a__law_whole a__law_words a__law_row a__law_read a__law_told a__law_changed a_law aProblem : Addr} {od_ordered an_ordered od_clause_of an_clause_of od_is_clause an_is_clause od_is_soft an_is_soft od_Problem___init__ an_Problem___init__ od_Problem_whole_price an_Problem_whole_price od_is_whole an_is_whole od_is_number an_is_number od_split an_split od_joined an_joined od_wcnf_text an_wcnf_text od_read_head an_read_head od_read_row an_read_row od_read_wcnf an_read_wcnf od__law_pool an__law_pool od__law_draw an__law_draw od__law_same an__law_same od__law_literals an__law_literals od__law_problem an__law_problem od__law_whole an__law_whole od__law_words an__law_words od__law_row an__law_row od__law_read an__law_read od__law_told an__law_told od__law_changed an__law_changed od_law an_law : Option Addr} {sl_ordered sl_clause_of sl_is_clause sl_is_soft sl_Problem___init__ sl_Problem_whole_price sl_is_whole sl_is_number sl_split sl_joined sl_wcnf_text sl_read_head sl_read_row sl_read_wcnf sl__law_pool sl__law_draw sl__law_same sl__law_literals sl__law_problem sl__law_whole sl__law_words sl__law_row sl__law_read sl__law_told sl__law_changed sl_law : Array (Option Value)} {oc_ordered kV_ordered dc_ordered pm_ordered cd_ordered ct_ordered oc_clause_of kV_clause_of dc_clause_of pm_clause_of cd_clause_of ct_clause_of oc_is_clause kV_is_clause dc_is_clause pm_is_clause cd_is_clause ct_is_clause oc_is_soft kV_is_soft dc_is_soft pm_is_soft cd_is_soft ct_is_soft oc_Problem___init__ kV_Problem___init__ dc_Problem___init__ pm_Problem___init__ cd_Problem___init__ ct_Problem___init__ oc_Problem_whole_price kV_Problem_whole_price dc_Problem_whole_price pm_Problem_whole_price cd_Problem_whole_price ct_Problem_whole_price oc_is_whole kV_is_whole dc_is_whole pm_is_whole cd_is_whole ct_is_whole oc_is_number kV_is_number dc_is_number pm_is_number cd_is_number ct_is_number oc_split kV_split dc_split pm_split cd_split ct_split oc_joined kV_joined dc_joined pm_joined cd_joined ct_joined oc_wcnf_text kV_wcnf_text dc_wcnf_text pm_wcnf_text cd_wcnf_text ct_wcnf_text oc_read_head kV_read_head dc_read_head pm_read_head cd_read_head ct_read_head oc_read_row kV_read_row dc_read_row pm_read_row cd_read_row ct_read_row oc_read_wcnf kV_read_wcnf dc_read_wcnf pm_read_wcnf cd_read_wcnf ct_read_wcnf oc__law_pool kV__law_pool dc__law_pool pm__law_pool cd__law_pool ct__law_pool oc__law_draw kV__law_draw dc__law_draw pm__law_draw cd__law_draw ct__law_draw oc__law_same kV__law_same dc__law_same pm__law_same cd__law_same ct__law_same oc__law_literals kV__law_literals dc__law_literals pm__law_literals cd__law_literals ct__law_literals oc__law_problem kV__law_problem dc__law_problem pm__law_problem cd__law_problem ct__law_problem oc__law_whole kV__law_whole dc__law_whole pm__law_whole cd__law_whole ct__law_whole oc__law_words kV__law_words dc__law_words pm__law_words cd__law_words ct__law_words oc__law_row kV__law_row dc__law_row pm__law_row cd__law_row ct__law_row oc__law_read kV__law_read dc__law_read pm__law_read cd__law_read ct__law_read oc__law_told kV__law_told dc__law_told pm__law_told cd__law_told ct__law_told oc__law_changed kV__law_changed dc__law_changed pm__law_changed cd__law_changed ct__law_changed oc_law kV_law dc_law pm_law cd_law ct_law : Value} {tk_MOST_VARIABLE tk_MOST_COUNT tk_MOST_HARD tk_MOST_SOFT tk_MOST_WEIGHT tk_MOST_DIGITS : Tok} {C_BadText aI_BadText cda_BadText cc_BadText : Addr} {nm_BadText qn_BadText : Str} {N_BadText : Addr} {bs_BadText bm_BadText sub_BadText : List Value} {sn_BadText : List Str} {ab_BadText : Bool} {col_BadText : Option Bool} {dd_BadText : Option Addr} {k0_BadText k1_BadText k2_BadText k3_BadText k5_BadText : Option Value} {iname_BadText iqual_BadText : Str} {iparams_BadText : Arguments} {iscope_BadText : Scope} {idV_BadText ikV_BadText idoc_BadText ipm_BadText ict_BadText ioc_BadText ccl_BadText cl_BadText : Value} {ian_BadText iod_BadText cdd_BadText cld_BadText : Option Addr} {iosl_BadText csl_BadText csl2_BadText : Array (Option Value)} {p0_BadText p1_BadText p2_BadText p3_BadText p4_BadText p5_BadText p6_BadText p7_BadText p8_BadText p9_BadText : Pos} {v1_BadText v2_BadText : Expr} {vs_BadText : List Expr} {ar_BadText : Arg} {xs_BadText : Array Value} {file_BadText : Str} {tf_BadText : Tok} {C_BadClause aI_BadClause cda_BadClause cc_BadClause : Addr} {nm_BadClause qn_BadClause : Str} {N_BadClause : Addr} {bs_BadClause bm_BadClause sub_BadClause : List Value} {sn_BadClause : List Str} {ab_BadClause : Bool} {col_BadClause : Option Bool} {dd_BadClause : Option Addr} {k0_BadClause k1_BadClause k2_BadClause k3_BadClause k5_BadClause : Option Value} {iname_BadClause iqual_BadClause : Str} {iparams_BadClause : Arguments} {iscope_BadClause : Scope} {idV_BadClause ikV_BadClause idoc_BadClause ipm_BadClause ict_BadClause ioc_BadClause ccl_BadClause cl_BadClause : Value} {ian_BadClause iod_BadClause cdd_BadClause cld_BadClause : Option Addr} {iosl_BadClause csl_BadClause csl2_BadClause : Array (Option Value)} {p0_BadClause p1_BadClause p2_BadClause p3_BadClause p4_BadClause p5_BadClause p6_BadClause p7_BadClause p8_BadClause p9_BadClause : Pos} {v1_BadClause v2_BadClause : Expr} {vs_BadClause : List Expr} {ar_BadClause : Arg} {xs_BadClause : Array Value} {file_BadClause : Str} {tf_BadClause : Tok} {C_BadProblem aI_BadProblem cda_BadProblem cc_BadProblem : Addr} {nm_BadProblem qn_BadProblem : Str} {N_BadProblem : Addr} {bs_BadProblem bm_BadProblem sub_BadProblem : List Value} {sn_BadProblem : List Str} {ab_BadProblem : Bool} {col_BadProblem : Option Bool} {dd_BadProblem : Option Addr} {k0_BadProblem k1_BadProblem k2_BadProblem k3_BadProblem k5_BadProblem : Option Value} {iname_BadProblem iqual_BadProblem : Str} {iparams_BadProblem : Arguments} {iscope_BadProblem : Scope} {idV_BadProblem ikV_BadProblem idoc_BadProblem ipm_BadProblem ict_BadProblem ioc_BadProblem ccl_BadProblem cl_BadProblem : Value} {ian_BadProblem iod_BadProblem cdd_BadProblem cld_BadProblem : Option Addr} {iosl_BadProblem csl_BadProblem csl2_BadProblem : Array (Option Value)} {p0_BadProblem p1_BadProblem p2_BadProblem p3_BadProblem p4_BadProblem p5_BadProblem p6_BadProblem p7_BadProblem p8_BadProblem p9_BadProblem : Pos} {v1_BadProblem v2_BadProblem : Expr} {vs_BadProblem : List Expr} {ar_BadProblem : Arg} {xs_BadProblem : Array Value} {file_BadProblem : Str} {tf_BadProblem : Tok} (X : K.In h) (G : h.Ns mainGlobals mg) (hfa : mg "law" = some (.ref fa))
    (g_Problem : nsIn K mainGlobals (PySem.Str.ofString "Problem") = some (some (.ref aProblem)))
    (pg_Problem : plainGet K aProblem Str.empty = true)
    (hd_Problem : hasDictIn K aProblem = true)
    (po_Problem : plainOver K aProblem = true)
    (sa_Problem : findIn K (.ref aProblem) "__setattr__" = some (some (.builtin "object.__setattr__")))
    (mk_Problem : makesIn K aProblem = true)
    (kp_Problem : keepIn K (.ref aProblem) = true)
    (na_count : findIn K (.ref aProblem) (PySem.Str.ofString "count") = some none)
    (na_hard : findIn K (.ref aProblem) (PySem.Str.ofString "hard") = some none)
    (na_soft : findIn K (.ref aProblem) (PySem.Str.ofString "soft") = some none)
    (n_ordered : nsIn K mainGlobals (PySem.Str.ofString "ordered") = some (some (.ref a_ordered)))
    (l_ordered : K.lookup a_ordered = some ⟨oc_ordered, od_ordered, .func (fnOf (PySem.Str.ofString "ordered") (PySem.Str.ofString "ordered") (defArgs s_ordered) (defBody s_ordered) (defScope s_ordered) .none kV_ordered dc_ordered pm_ordered an_ordered cd_ordered ct_ordered), sl_ordered⟩)
    (c_ordered : codeIn K cd_ordered (PySem.Str.ofString "ordered") = true)
    (k_ordered : keepIn K (.ref a_ordered) = true)
    (n_clause_of : nsIn K mainGlobals (PySem.Str.ofString "clause_of") = some (some (.ref a_clause_of)))
    (l_clause_of : K.lookup a_clause_of = some ⟨oc_clause_of, od_clause_of, .func (fnOf (PySem.Str.ofString "clause_of") (PySem.Str.ofString "clause_of") (defArgs s_clause_of) (defBody s_clause_of) (defScope s_clause_of) .none kV_clause_of dc_clause_of pm_clause_of an_clause_of cd_clause_of ct_clause_of), sl_clause_of⟩)
    (c_clause_of : codeIn K cd_clause_of (PySem.Str.ofString "clause_of") = true)
    (k_clause_of : keepIn K (.ref a_clause_of) = true)
    (n_is_clause : nsIn K mainGlobals (PySem.Str.ofString "is_clause") = some (some (.ref a_is_clause)))
    (l_is_clause : K.lookup a_is_clause = some ⟨oc_is_clause, od_is_clause, .func (fnOf (PySem.Str.ofString "is_clause") (PySem.Str.ofString "is_clause") (defArgs s_is_clause) (defBody s_is_clause) (defScope s_is_clause) .none kV_is_clause dc_is_clause pm_is_clause an_is_clause cd_is_clause ct_is_clause), sl_is_clause⟩)
    (c_is_clause : codeIn K cd_is_clause (PySem.Str.ofString "is_clause") = true)
    (k_is_clause : keepIn K (.ref a_is_clause) = true)
    (n_is_soft : nsIn K mainGlobals (PySem.Str.ofString "is_soft") = some (some (.ref a_is_soft)))
    (l_is_soft : K.lookup a_is_soft = some ⟨oc_is_soft, od_is_soft, .func (fnOf (PySem.Str.ofString "is_soft") (PySem.Str.ofString "is_soft") (defArgs s_is_soft) (defBody s_is_soft) (defScope s_is_soft) .none kV_is_soft dc_is_soft pm_is_soft an_is_soft cd_is_soft ct_is_soft), sl_is_soft⟩)
    (c_is_soft : codeIn K cd_is_soft (PySem.Str.ofString "is_soft") = true)
    (k_is_soft : keepIn K (.ref a_is_soft) = true)
    (n_Problem___init__ : findIn K (.ref aProblem) "__init__" = some (some (.ref a_Problem___init__)))
    (f_Problem___init__ : isFn K (.ref a_Problem___init__) = true)
    (l_Problem___init__ : K.lookup a_Problem___init__ = some ⟨oc_Problem___init__, od_Problem___init__, .func (fnOf (PySem.Str.ofString "__init__") (PySem.Str.ofString "Problem.__init__") (defArgs s_Problem___init__) (defBody s_Problem___init__) (defScope s_Problem___init__) .none kV_Problem___init__ dc_Problem___init__ pm_Problem___init__ an_Problem___init__ cd_Problem___init__ ct_Problem___init__), sl_Problem___init__⟩)
    (c_Problem___init__ : codeIn K cd_Problem___init__ (PySem.Str.ofString "Problem.__init__") = true)
    (k_Problem___init__ : keepIn K (.ref a_Problem___init__) = true)
    (n_Problem_whole_price : findIn K (.ref aProblem) (PySem.Str.ofString "whole_price") = some (some (.ref a_Problem_whole_price)))
    (f_Problem_whole_price : isFn K (.ref a_Problem_whole_price) = true)
    (l_Problem_whole_price : K.lookup a_Problem_whole_price = some ⟨oc_Problem_whole_price, od_Problem_whole_price, .func (fnOf (PySem.Str.ofString "whole_price") (PySem.Str.ofString "Problem.whole_price") (defArgs s_Problem_whole_price) (defBody s_Problem_whole_price) (defScope s_Problem_whole_price) .none kV_Problem_whole_price dc_Problem_whole_price pm_Problem_whole_price an_Problem_whole_price cd_Problem_whole_price ct_Problem_whole_price), sl_Problem_whole_price⟩)
    (c_Problem_whole_price : codeIn K cd_Problem_whole_price (PySem.Str.ofString "Problem.whole_price") = true)
    (k_Problem_whole_price : keepIn K (.ref a_Problem_whole_price) = true)
    (n_is_whole : nsIn K mainGlobals (PySem.Str.ofString "is_whole") = some (some (.ref a_is_whole)))
    (l_is_whole : K.lookup a_is_whole = some ⟨oc_is_whole, od_is_whole, .func (fnOf (PySem.Str.ofString "is_whole") (PySem.Str.ofString "is_whole") (defArgs s_is_whole) (defBody s_is_whole) (defScope s_is_whole) .none kV_is_whole dc_is_whole pm_is_whole an_is_whole cd_is_whole ct_is_whole), sl_is_whole⟩)
    (c_is_whole : codeIn K cd_is_whole (PySem.Str.ofString "is_whole") = true)
    (k_is_whole : keepIn K (.ref a_is_whole) = true)
    (n_is_number : nsIn K mainGlobals (PySem.Str.ofString "is_number") = some (some (.ref a_is_number)))
    (l_is_number : K.lookup a_is_number = some ⟨oc_is_number, od_is_number, .func (fnOf (PySem.Str.ofString "is_number") (PySem.Str.ofString "is_number") (defArgs s_is_number) (defBody s_is_number) (defScope s_is_number) .none kV_is_number dc_is_number pm_is_number an_is_number cd_is_number ct_is_number), sl_is_number⟩)
    (c_is_number : codeIn K cd_is_number (PySem.Str.ofString "is_number") = true)
    (k_is_number : keepIn K (.ref a_is_number) = true)
    (n_split : nsIn K mainGlobals (PySem.Str.ofString "split") = some (some (.ref a_split)))
    (l_split : K.lookup a_split = some ⟨oc_split, od_split, .func (fnOf (PySem.Str.ofString "split") (PySem.Str.ofString "split") (defArgs s_split) (defBody s_split) (defScope s_split) .none kV_split dc_split pm_split an_split cd_split ct_split), sl_split⟩)
    (c_split : codeIn K cd_split (PySem.Str.ofString "split") = true)
    (k_split : keepIn K (.ref a_split) = true)
    (n_joined : nsIn K mainGlobals (PySem.Str.ofString "joined") = some (some (.ref a_joined)))
    (l_joined : K.lookup a_joined = some ⟨oc_joined, od_joined, .func (fnOf (PySem.Str.ofString "joined") (PySem.Str.ofString "joined") (defArgs s_joined) (defBody s_joined) (defScope s_joined) .none kV_joined dc_joined pm_joined an_joined cd_joined ct_joined), sl_joined⟩)
    (c_joined : codeIn K cd_joined (PySem.Str.ofString "joined") = true)
    (k_joined : keepIn K (.ref a_joined) = true)
    (n_wcnf_text : nsIn K mainGlobals (PySem.Str.ofString "wcnf_text") = some (some (.ref a_wcnf_text)))
    (l_wcnf_text : K.lookup a_wcnf_text = some ⟨oc_wcnf_text, od_wcnf_text, .func (fnOf (PySem.Str.ofString "wcnf_text") (PySem.Str.ofString "wcnf_text") (defArgs s_wcnf_text) (defBody s_wcnf_text) (defScope s_wcnf_text) .none kV_wcnf_text dc_wcnf_text pm_wcnf_text an_wcnf_text cd_wcnf_text ct_wcnf_text), sl_wcnf_text⟩)
    (c_wcnf_text : codeIn K cd_wcnf_text (PySem.Str.ofString "wcnf_text") = true)
    (k_wcnf_text : keepIn K (.ref a_wcnf_text) = true)
    (n_read_head : nsIn K mainGlobals (PySem.Str.ofString "read_head") = some (some (.ref a_read_head)))
    (l_read_head : K.lookup a_read_head = some ⟨oc_read_head, od_read_head, .func (fnOf (PySem.Str.ofString "read_head") (PySem.Str.ofString "read_head") (defArgs s_read_head) (defBody s_read_head) (defScope s_read_head) .none kV_read_head dc_read_head pm_read_head an_read_head cd_read_head ct_read_head), sl_read_head⟩)
    (c_read_head : codeIn K cd_read_head (PySem.Str.ofString "read_head") = true)
    (k_read_head : keepIn K (.ref a_read_head) = true)
    (n_read_row : nsIn K mainGlobals (PySem.Str.ofString "read_row") = some (some (.ref a_read_row)))
    (l_read_row : K.lookup a_read_row = some ⟨oc_read_row, od_read_row, .func (fnOf (PySem.Str.ofString "read_row") (PySem.Str.ofString "read_row") (defArgs s_read_row) (defBody s_read_row) (defScope s_read_row) .none kV_read_row dc_read_row pm_read_row an_read_row cd_read_row ct_read_row), sl_read_row⟩)
    (c_read_row : codeIn K cd_read_row (PySem.Str.ofString "read_row") = true)
    (k_read_row : keepIn K (.ref a_read_row) = true)
    (n_read_wcnf : nsIn K mainGlobals (PySem.Str.ofString "read_wcnf") = some (some (.ref a_read_wcnf)))
    (l_read_wcnf : K.lookup a_read_wcnf = some ⟨oc_read_wcnf, od_read_wcnf, .func (fnOf (PySem.Str.ofString "read_wcnf") (PySem.Str.ofString "read_wcnf") (defArgs s_read_wcnf) (defBody s_read_wcnf) (defScope s_read_wcnf) .none kV_read_wcnf dc_read_wcnf pm_read_wcnf an_read_wcnf cd_read_wcnf ct_read_wcnf), sl_read_wcnf⟩)
    (c_read_wcnf : codeIn K cd_read_wcnf (PySem.Str.ofString "read_wcnf") = true)
    (k_read_wcnf : keepIn K (.ref a_read_wcnf) = true)
    (n__law_pool : nsIn K mainGlobals (PySem.Str.ofString "_law_pool") = some (some (.ref a__law_pool)))
    (l__law_pool : K.lookup a__law_pool = some ⟨oc__law_pool, od__law_pool, .func (fnOf (PySem.Str.ofString "_law_pool") (PySem.Str.ofString "_law_pool") (defArgs s__law_pool) (defBody s__law_pool) (defScope s__law_pool) .none kV__law_pool dc__law_pool pm__law_pool an__law_pool cd__law_pool ct__law_pool), sl__law_pool⟩)
    (c__law_pool : codeIn K cd__law_pool (PySem.Str.ofString "_law_pool") = true)
    (k__law_pool : keepIn K (.ref a__law_pool) = true)
    (n__law_draw : nsIn K mainGlobals (PySem.Str.ofString "_law_draw") = some (some (.ref a__law_draw)))
    (l__law_draw : K.lookup a__law_draw = some ⟨oc__law_draw, od__law_draw, .func (fnOf (PySem.Str.ofString "_law_draw") (PySem.Str.ofString "_law_draw") (defArgs s__law_draw) (defBody s__law_draw) (defScope s__law_draw) .none kV__law_draw dc__law_draw pm__law_draw an__law_draw cd__law_draw ct__law_draw), sl__law_draw⟩)
    (c__law_draw : codeIn K cd__law_draw (PySem.Str.ofString "_law_draw") = true)
    (k__law_draw : keepIn K (.ref a__law_draw) = true)
    (n__law_same : nsIn K mainGlobals (PySem.Str.ofString "_law_same") = some (some (.ref a__law_same)))
    (l__law_same : K.lookup a__law_same = some ⟨oc__law_same, od__law_same, .func (fnOf (PySem.Str.ofString "_law_same") (PySem.Str.ofString "_law_same") (defArgs s__law_same) (defBody s__law_same) (defScope s__law_same) .none kV__law_same dc__law_same pm__law_same an__law_same cd__law_same ct__law_same), sl__law_same⟩)
    (c__law_same : codeIn K cd__law_same (PySem.Str.ofString "_law_same") = true)
    (k__law_same : keepIn K (.ref a__law_same) = true)
    (n__law_literals : nsIn K mainGlobals (PySem.Str.ofString "_law_literals") = some (some (.ref a__law_literals)))
    (l__law_literals : K.lookup a__law_literals = some ⟨oc__law_literals, od__law_literals, .func (fnOf (PySem.Str.ofString "_law_literals") (PySem.Str.ofString "_law_literals") (defArgs s__law_literals) (defBody s__law_literals) (defScope s__law_literals) .none kV__law_literals dc__law_literals pm__law_literals an__law_literals cd__law_literals ct__law_literals), sl__law_literals⟩)
    (c__law_literals : codeIn K cd__law_literals (PySem.Str.ofString "_law_literals") = true)
    (k__law_literals : keepIn K (.ref a__law_literals) = true)
    (n__law_problem : nsIn K mainGlobals (PySem.Str.ofString "_law_problem") = some (some (.ref a__law_problem)))
    (l__law_problem : K.lookup a__law_problem = some ⟨oc__law_problem, od__law_problem, .func (fnOf (PySem.Str.ofString "_law_problem") (PySem.Str.ofString "_law_problem") (defArgs s__law_problem) (defBody s__law_problem) (defScope s__law_problem) .none kV__law_problem dc__law_problem pm__law_problem an__law_problem cd__law_problem ct__law_problem), sl__law_problem⟩)
    (c__law_problem : codeIn K cd__law_problem (PySem.Str.ofString "_law_problem") = true)
    (k__law_problem : keepIn K (.ref a__law_problem) = true)
    (n__law_whole : nsIn K mainGlobals (PySem.Str.ofString "_law_whole") = some (some (.ref a__law_whole)))
    (l__law_whole : K.lookup a__law_whole = some ⟨oc__law_whole, od__law_whole, .func (fnOf (PySem.Str.ofString "_law_whole") (PySem.Str.ofString "_law_whole") (defArgs s__law_whole) (defBody s__law_whole) (defScope s__law_whole) .none kV__law_whole dc__law_whole pm__law_whole an__law_whole cd__law_whole ct__law_whole), sl__law_whole⟩)
    (c__law_whole : codeIn K cd__law_whole (PySem.Str.ofString "_law_whole") = true)
    (k__law_whole : keepIn K (.ref a__law_whole) = true)
    (n__law_words : nsIn K mainGlobals (PySem.Str.ofString "_law_words") = some (some (.ref a__law_words)))
    (l__law_words : K.lookup a__law_words = some ⟨oc__law_words, od__law_words, .func (fnOf (PySem.Str.ofString "_law_words") (PySem.Str.ofString "_law_words") (defArgs s__law_words) (defBody s__law_words) (defScope s__law_words) .none kV__law_words dc__law_words pm__law_words an__law_words cd__law_words ct__law_words), sl__law_words⟩)
    (c__law_words : codeIn K cd__law_words (PySem.Str.ofString "_law_words") = true)
    (k__law_words : keepIn K (.ref a__law_words) = true)
    (n__law_row : nsIn K mainGlobals (PySem.Str.ofString "_law_row") = some (some (.ref a__law_row)))
    (l__law_row : K.lookup a__law_row = some ⟨oc__law_row, od__law_row, .func (fnOf (PySem.Str.ofString "_law_row") (PySem.Str.ofString "_law_row") (defArgs s__law_row) (defBody s__law_row) (defScope s__law_row) .none kV__law_row dc__law_row pm__law_row an__law_row cd__law_row ct__law_row), sl__law_row⟩)
    (c__law_row : codeIn K cd__law_row (PySem.Str.ofString "_law_row") = true)
    (k__law_row : keepIn K (.ref a__law_row) = true)
    (n__law_read : nsIn K mainGlobals (PySem.Str.ofString "_law_read") = some (some (.ref a__law_read)))
    (l__law_read : K.lookup a__law_read = some ⟨oc__law_read, od__law_read, .func (fnOf (PySem.Str.ofString "_law_read") (PySem.Str.ofString "_law_read") (defArgs s__law_read) (defBody s__law_read) (defScope s__law_read) .none kV__law_read dc__law_read pm__law_read an__law_read cd__law_read ct__law_read), sl__law_read⟩)
    (c__law_read : codeIn K cd__law_read (PySem.Str.ofString "_law_read") = true)
    (k__law_read : keepIn K (.ref a__law_read) = true)
    (n__law_told : nsIn K mainGlobals (PySem.Str.ofString "_law_told") = some (some (.ref a__law_told)))
    (l__law_told : K.lookup a__law_told = some ⟨oc__law_told, od__law_told, .func (fnOf (PySem.Str.ofString "_law_told") (PySem.Str.ofString "_law_told") (defArgs s__law_told) (defBody s__law_told) (defScope s__law_told) .none kV__law_told dc__law_told pm__law_told an__law_told cd__law_told ct__law_told), sl__law_told⟩)
    (c__law_told : codeIn K cd__law_told (PySem.Str.ofString "_law_told") = true)
    (k__law_told : keepIn K (.ref a__law_told) = true)
    (n__law_changed : nsIn K mainGlobals (PySem.Str.ofString "_law_changed") = some (some (.ref a__law_changed)))
    (l__law_changed : K.lookup a__law_changed = some ⟨oc__law_changed, od__law_changed, .func (fnOf (PySem.Str.ofString "_law_changed") (PySem.Str.ofString "_law_changed") (defArgs s__law_changed) (defBody s__law_changed) (defScope s__law_changed) .none kV__law_changed dc__law_changed pm__law_changed an__law_changed cd__law_changed ct__law_changed), sl__law_changed⟩)
    (c__law_changed : codeIn K cd__law_changed (PySem.Str.ofString "_law_changed") = true)
    (k__law_changed : keepIn K (.ref a__law_changed) = true)
    (n_law : nsIn K mainGlobals (PySem.Str.ofString "law") = some (some (.ref a_law)))
    (l_law : K.lookup a_law = some ⟨oc_law, od_law, .func (fnOf (PySem.Str.ofString "law") (PySem.Str.ofString "law") (defArgs s_law) (defBody s_law) (defScope s_law) .none kV_law dc_law pm_law an_law cd_law ct_law), sl_law⟩)
    (c_law : codeIn K cd_law (PySem.Str.ofString "law") = true)
    (k_law : keepIn K (.ref a_law) = true)
    (z_sorted : nsIn K mainGlobals (PySem.Str.ofString "sorted") = some none)
    (z_abs : nsIn K mainGlobals (PySem.Str.ofString "abs") = some none)
    (z_any : nsIn K mainGlobals (PySem.Str.ofString "any") = some none)
    (z_tuple : nsIn K mainGlobals (PySem.Str.ofString "tuple") = some none)
    (z_all : nsIn K mainGlobals (PySem.Str.ofString "all") = some none)
    (z_zip : nsIn K mainGlobals (PySem.Str.ofString "zip") = some none)
    (z_len : nsIn K mainGlobals (PySem.Str.ofString "len") = some none)
    (z_sum : nsIn K mainGlobals (PySem.Str.ofString "sum") = some none)
    (z_int : nsIn K mainGlobals (PySem.Str.ofString "int") = some none)
    (z_str : nsIn K mainGlobals (PySem.Str.ofString "str") = some none)
    (z_enumerate : nsIn K mainGlobals (PySem.Str.ofString "enumerate") = some none)
    (z_list : nsIn K mainGlobals (PySem.Str.ofString "list") = some none)
    (z_isinstance : nsIn K mainGlobals (PySem.Str.ofString "isinstance") = some none)
    (z_range : nsIn K mainGlobals (PySem.Str.ofString "range") = some none)
    (z_bool : nsIn K mainGlobals (PySem.Str.ofString "bool") = some none)
    (z_set : nsIn K mainGlobals (PySem.Str.ofString "set") = some none)
    (z_min : nsIn K mainGlobals (PySem.Str.ofString "min") = some none)
    (z_max : nsIn K mainGlobals (PySem.Str.ofString "max") = some none)
    (z_super : nsIn K mainGlobals (PySem.Str.ofString "super") = some none)
    (z_MOST_VARIABLE : nsIn K mainGlobals (PySem.Str.ofString "MOST_VARIABLE") = some (some (.int 1000000 tk_MOST_VARIABLE)))
    (z_MOST_COUNT : nsIn K mainGlobals (PySem.Str.ofString "MOST_COUNT") = some (some (.int 300 tk_MOST_COUNT)))
    (z_MOST_HARD : nsIn K mainGlobals (PySem.Str.ofString "MOST_HARD") = some (some (.int 3000 tk_MOST_HARD)))
    (z_MOST_SOFT : nsIn K mainGlobals (PySem.Str.ofString "MOST_SOFT") = some (some (.int 300 tk_MOST_SOFT)))
    (z_MOST_WEIGHT : nsIn K mainGlobals (PySem.Str.ofString "MOST_WEIGHT") = some (some (.int 1000000000 tk_MOST_WEIGHT)))
    (z_MOST_DIGITS : nsIn K mainGlobals (PySem.Str.ofString "MOST_DIGITS") = some (some (.int 12 tk_MOST_DIGITS)))
    (e_3 : nsIn K cStatics "thirdparty.any" = some none)
    (s10 : (P.main.scope.names.lookup ("super" : Str)).isSome = false)
    (e_n_BadText : nsIn K mainGlobals (PySem.Str.ofString "BadText") = some (some (.ref C_BadText)))
    (e_l_BadText : K.lookup C_BadText = some (excClassObj nm_BadText qn_BadText C_BadText N_BadText bs_BadText bm_BadText true sn_BadText sub_BadText ab_BadText col_BadText dd_BadText k0_BadText k1_BadText k2_BadText k3_BadText k5_BadText "ValueError.__new__"))
    (e_r_BadText : PySem.HandSPX.refsVE bm_BadText = true)
    (e_sa_BadText : findIn K (.ref C_BadText) "__setattr__" = some (some (.builtin "object.__setattr__")))
    (e_ga_BadText : findIn K (.ref C_BadText) "__getattribute__" = some (some (.builtin "BaseException.__getattribute__")))
    (e_gg_BadText : findIn K (.ref C_BadText) "__getattr__" = some none)
    (e_ex_BadText : subIn K (.ref C_BadText) (.type "BaseException") = some true)
    (e_ve_BadText : subIn K (.ref C_BadText) (.type "ValueError") = some true)
    (e_ty_BadText : typeIn K (.ref C_BadText) = some (.type "type"))
    (e_k_BadText : keepIn K (.ref C_BadText) = true)
    (e_hd_BadText : hasDictIn K C_BadText = true)
    (e_w_BadText : findIn K (.ref C_BadText) (PySem.Str.ofString "at") = some none)
    (e_i_BadText : findIn K (.ref C_BadText) "__init__" = some (some (.ref aI_BadText)))
    (e_ti_BadText : typeIn K (.ref aI_BadText) = some (.type "function"))
    (e_mro_BadText : mroIn K C_BadText (.ref C_BadText) = some true)
    (e_s_BadText : ks_superIn K C_BadText C_BadText "__init__" = some (some (.builtin "ValueError.__init__")))
    (i_l_BadText : K.lookup aI_BadText = some ⟨ioc_BadText, iod_BadText, .func (ksFn iname_BadText iqual_BadText iparams_BadText [.Expr (.Call (.Attribute (.Call (.Name "super" p0_BadText) [] [] p1_BadText) "__init__" p2_BadText) [.JoinedStr (v1_BadText :: v2_BadText :: vs_BadText) p3_BadText] [] p4_BadText) p5_BadText, .Assign [.Attribute (.Name "self" p6_BadText) (PySem.Str.ofString "at") p7_BadText] (.Name (PySem.Str.ofString "at") p8_BadText) p9_BadText] iscope_BadText idV_BadText ikV_BadText idoc_BadText ipm_BadText ian_BadText (.ref cda_BadText) ict_BadText cc_BadText), iosl_BadText⟩)
    (i_c_BadText : codeIn K (.ref cda_BadText) iqual_BadText = true)
    (i_d_BadText : K.lookup cda_BadText = some ⟨ccl_BadText, cdd_BadText, .fields xs_BadText, csl_BadText⟩)
    (i_x_BadText : xs_BadText[2]? = some (.str file_BadText tf_BadText))
    (i_f_BadText : ((P.main.file : Str) == file_BadText) = true)
    (i_e_BadText : K.lookup cc_BadText = some ⟨cl_BadText, cld_BadText, .cell (some (.ref C_BadText)), csl2_BadText⟩)
    (i_a_BadText : (iparams_BadText.posonlyargs ++ iparams_BadText.args).head? = some ar_BadText)
    (i_a2_BadText : ar_BadText.arg = "self")
    (i_p_BadText : ∀ e ∈ v1_BadText :: v2_BadText :: vs_BadText, Ex.Part (PySem.Str.ofString "at") e)
    (i_pl_BadText : (v1_BadText :: v2_BadText :: vs_BadText).length ≤ 900)
    (s1_BadText : iscope_BadText.names.lookup ("self" : Str) = some .local)
    (s2_BadText : iscope_BadText.names.lookup (PySem.Str.ofString "at") = some .local)
    (s3_BadText : iscope_BadText.names.lookup ("super" : Str) = some .globalImplicit)
    (s4_BadText : iscope_BadText.names.lookup ("__class__" : Str) = some .free)
    (s5_BadText : decide (∀ x ∈ iscope_BadText.names, x.2 ≠ .cell) = true)
    (s6_BadText : iscope_BadText.isCoroutine = false)
    (s7_BadText : iscope_BadText.isGenerator = false)
    (s8_BadText : iscope_BadText.kind = .function)
    (s9_BadText : Ex.SupEv p0_BadText p1_BadText p2_BadText p3_BadText p4_BadText v1_BadText v2_BadText vs_BadText)
    (b_i_BadText : ∀ us : List Value, us.length = 2 → bindArgs (ksFn iname_BadText iqual_BadText iparams_BadText [.Expr (.Call (.Attribute (.Call (.Name "super" p0_BadText) [] [] p1_BadText) "__init__" p2_BadText) [.JoinedStr (v1_BadText :: v2_BadText :: vs_BadText) p3_BadText] [] p4_BadText) p5_BadText, .Assign [.Attribute (.Name "self" p6_BadText) (PySem.Str.ofString "at") p7_BadText] (.Name (PySem.Str.ofString "at") p8_BadText) p9_BadText] iscope_BadText idV_BadText ikV_BadText idoc_BadText ipm_BadText ian_BadText (.ref cda_BadText) ict_BadText cc_BadText) ⟨us, []⟩ = pure ([(PySem.Str.ofString "self"), (PySem.Str.ofString "at")].zip us))
    (e_n_BadClause : nsIn K mainGlobals (PySem.Str.ofString "BadClause") = some (some (.ref C_BadClause)))
    (e_l_BadClause : K.lookup C_BadClause = some (excClassObj nm_BadClause qn_BadClause C_BadClause N_BadClause bs_BadClause bm_BadClause true sn_BadClause sub_BadClause ab_BadClause col_BadClause dd_BadClause k0_BadClause k1_BadClause k2_BadClause k3_BadClause k5_BadClause "ValueError.__new__"))
    (e_r_BadClause : PySem.HandSPX.refsVE bm_BadClause = true)
    (e_sa_BadClause : findIn K (.ref C_BadClause) "__setattr__" = some (some (.builtin "object.__setattr__")))
    (e_ga_BadClause : findIn K (.ref C_BadClause) "__getattribute__" = some (some (.builtin "BaseException.__getattribute__")))
    (e_gg_BadClause : findIn K (.ref C_BadClause) "__getattr__" = some none)
    (e_ex_BadClause : subIn K (.ref C_BadClause) (.type "BaseException") = some true)
    (e_ve_BadClause : subIn K (.ref C_BadClause) (.type "ValueError") = some true)
    (e_ty_BadClause : typeIn K (.ref C_BadClause) = some (.type "type"))
    (e_k_BadClause : keepIn K (.ref C_BadClause) = true)
    (e_hd_BadClause : hasDictIn K C_BadClause = true)
    (e_w_BadClause : findIn K (.ref C_BadClause) (PySem.Str.ofString "what") = some none)
    (e_i_BadClause : findIn K (.ref C_BadClause) "__init__" = some (some (.ref aI_BadClause)))
    (e_ti_BadClause : typeIn K (.ref aI_BadClause) = some (.type "function"))
    (e_mro_BadClause : mroIn K C_BadClause (.ref C_BadClause) = some true)
    (e_s_BadClause : ks_superIn K C_BadClause C_BadClause "__init__" = some (some (.builtin "ValueError.__init__")))
    (i_l_BadClause : K.lookup aI_BadClause = some ⟨ioc_BadClause, iod_BadClause, .func (ksFn iname_BadClause iqual_BadClause iparams_BadClause [.Expr (.Call (.Attribute (.Call (.Name "super" p0_BadClause) [] [] p1_BadClause) "__init__" p2_BadClause) [.JoinedStr (v1_BadClause :: v2_BadClause :: vs_BadClause) p3_BadClause] [] p4_BadClause) p5_BadClause, .Assign [.Attribute (.Name "self" p6_BadClause) (PySem.Str.ofString "what") p7_BadClause] (.Name (PySem.Str.ofString "what") p8_BadClause) p9_BadClause] iscope_BadClause idV_BadClause ikV_BadClause idoc_BadClause ipm_BadClause ian_BadClause (.ref cda_BadClause) ict_BadClause cc_BadClause), iosl_BadClause⟩)
    (i_c_BadClause : codeIn K (.ref cda_BadClause) iqual_BadClause = true)
    (i_d_BadClause : K.lookup cda_BadClause = some ⟨ccl_BadClause, cdd_BadClause, .fields xs_BadClause, csl_BadClause⟩)
    (i_x_BadClause : xs_BadClause[2]? = some (.str file_BadClause tf_BadClause))
    (i_f_BadClause : ((P.main.file : Str) == file_BadClause) = true)
    (i_e_BadClause : K.lookup cc_BadClause = some ⟨cl_BadClause, cld_BadClause, .cell (some (.ref C_BadClause)), csl2_BadClause⟩)
    (i_a_BadClause : (iparams_BadClause.posonlyargs ++ iparams_BadClause.args).head? = some ar_BadClause)
    (i_a2_BadClause : ar_BadClause.arg = "self")
    (i_p_BadClause : ∀ e ∈ v1_BadClause :: v2_BadClause :: vs_BadClause, Ex.Part (PySem.Str.ofString "what") e)
    (i_pl_BadClause : (v1_BadClause :: v2_BadClause :: vs_BadClause).length ≤ 900)
    (s1_BadClause : iscope_BadClause.names.lookup ("self" : Str) = some .local)
    (s2_BadClause : iscope_BadClause.names.lookup (PySem.Str.ofString "what") = some .local)
    (s3_BadClause : iscope_BadClause.names.lookup ("super" : Str) = some .globalImplicit)
    (s4_BadClause : iscope_BadClause.names.lookup ("__class__" : Str) = some .free)
    (s5_BadClause : decide (∀ x ∈ iscope_BadClause.names, x.2 ≠ .cell) = true)
    (s6_BadClause : iscope_BadClause.isCoroutine = false)
    (s7_BadClause : iscope_BadClause.isGenerator = false)
    (s8_BadClause : iscope_BadClause.kind = .function)
    (s9_BadClause : Ex.SupEv p0_BadClause p1_BadClause p2_BadClause p3_BadClause p4_BadClause v1_BadClause v2_BadClause vs_BadClause)
    (b_i_BadClause : ∀ us : List Value, us.length = 2 → bindArgs (ksFn iname_BadClause iqual_BadClause iparams_BadClause [.Expr (.Call (.Attribute (.Call (.Name "super" p0_BadClause) [] [] p1_BadClause) "__init__" p2_BadClause) [.JoinedStr (v1_BadClause :: v2_BadClause :: vs_BadClause) p3_BadClause] [] p4_BadClause) p5_BadClause, .Assign [.Attribute (.Name "self" p6_BadClause) (PySem.Str.ofString "what") p7_BadClause] (.Name (PySem.Str.ofString "what") p8_BadClause) p9_BadClause] iscope_BadClause idV_BadClause ikV_BadClause idoc_BadClause ipm_BadClause ian_BadClause (.ref cda_BadClause) ict_BadClause cc_BadClause) ⟨us, []⟩ = pure ([(PySem.Str.ofString "self"), (PySem.Str.ofString "what")].zip us))
    (e_n_BadProblem : nsIn K mainGlobals (PySem.Str.ofString "BadProblem") = some (some (.ref C_BadProblem)))
    (e_l_BadProblem : K.lookup C_BadProblem = some (excClassObj nm_BadProblem qn_BadProblem C_BadProblem N_BadProblem bs_BadProblem bm_BadProblem true sn_BadProblem sub_BadProblem ab_BadProblem col_BadProblem dd_BadProblem k0_BadProblem k1_BadProblem k2_BadProblem k3_BadProblem k5_BadProblem "ValueError.__new__"))
    (e_r_BadProblem : PySem.HandSPX.refsVE bm_BadProblem = true)
    (e_sa_BadProblem : findIn K (.ref C_BadProblem) "__setattr__" = some (some (.builtin "object.__setattr__")))
    (e_ga_BadProblem : findIn K (.ref C_BadProblem) "__getattribute__" = some (some (.builtin "BaseException.__getattribute__")))
    (e_gg_BadProblem : findIn K (.ref C_BadProblem) "__getattr__" = some none)
    (e_ex_BadProblem : subIn K (.ref C_BadProblem) (.type "BaseException") = some true)
    (e_ve_BadProblem : subIn K (.ref C_BadProblem) (.type "ValueError") = some true)
    (e_ty_BadProblem : typeIn K (.ref C_BadProblem) = some (.type "type"))
    (e_k_BadProblem : keepIn K (.ref C_BadProblem) = true)
    (e_hd_BadProblem : hasDictIn K C_BadProblem = true)
    (e_w_BadProblem : findIn K (.ref C_BadProblem) (PySem.Str.ofString "what") = some none)
    (e_i_BadProblem : findIn K (.ref C_BadProblem) "__init__" = some (some (.ref aI_BadProblem)))
    (e_ti_BadProblem : typeIn K (.ref aI_BadProblem) = some (.type "function"))
    (e_mro_BadProblem : mroIn K C_BadProblem (.ref C_BadProblem) = some true)
    (e_s_BadProblem : ks_superIn K C_BadProblem C_BadProblem "__init__" = some (some (.builtin "ValueError.__init__")))
    (i_l_BadProblem : K.lookup aI_BadProblem = some ⟨ioc_BadProblem, iod_BadProblem, .func (ksFn iname_BadProblem iqual_BadProblem iparams_BadProblem [.Expr (.Call (.Attribute (.Call (.Name "super" p0_BadProblem) [] [] p1_BadProblem) "__init__" p2_BadProblem) [.JoinedStr (v1_BadProblem :: v2_BadProblem :: vs_BadProblem) p3_BadProblem] [] p4_BadProblem) p5_BadProblem, .Assign [.Attribute (.Name "self" p6_BadProblem) (PySem.Str.ofString "what") p7_BadProblem] (.Name (PySem.Str.ofString "what") p8_BadProblem) p9_BadProblem] iscope_BadProblem idV_BadProblem ikV_BadProblem idoc_BadProblem ipm_BadProblem ian_BadProblem (.ref cda_BadProblem) ict_BadProblem cc_BadProblem), iosl_BadProblem⟩)
    (i_c_BadProblem : codeIn K (.ref cda_BadProblem) iqual_BadProblem = true)
    (i_d_BadProblem : K.lookup cda_BadProblem = some ⟨ccl_BadProblem, cdd_BadProblem, .fields xs_BadProblem, csl_BadProblem⟩)
    (i_x_BadProblem : xs_BadProblem[2]? = some (.str file_BadProblem tf_BadProblem))
    (i_f_BadProblem : ((P.main.file : Str) == file_BadProblem) = true)
    (i_e_BadProblem : K.lookup cc_BadProblem = some ⟨cl_BadProblem, cld_BadProblem, .cell (some (.ref C_BadProblem)), csl2_BadProblem⟩)
    (i_a_BadProblem : (iparams_BadProblem.posonlyargs ++ iparams_BadProblem.args).head? = some ar_BadProblem)
    (i_a2_BadProblem : ar_BadProblem.arg = "self")
    (i_p_BadProblem : ∀ e ∈ v1_BadProblem :: v2_BadProblem :: vs_BadProblem, Ex.Part (PySem.Str.ofString "what") e)
    (i_pl_BadProblem : (v1_BadProblem :: v2_BadProblem :: vs_BadProblem).length ≤ 900)
    (s1_BadProblem : iscope_BadProblem.names.lookup ("self" : Str) = some .local)
    (s2_BadProblem : iscope_BadProblem.names.lookup (PySem.Str.ofString "what") = some .local)
    (s3_BadProblem : iscope_BadProblem.names.lookup ("super" : Str) = some .globalImplicit)
    (s4_BadProblem : iscope_BadProblem.names.lookup ("__class__" : Str) = some .free)
    (s5_BadProblem : decide (∀ x ∈ iscope_BadProblem.names, x.2 ≠ .cell) = true)
    (s6_BadProblem : iscope_BadProblem.isCoroutine = false)
    (s7_BadProblem : iscope_BadProblem.isGenerator = false)
    (s8_BadProblem : iscope_BadProblem.kind = .function)
    (s9_BadProblem : Ex.SupEv p0_BadProblem p1_BadProblem p2_BadProblem p3_BadProblem p4_BadProblem v1_BadProblem v2_BadProblem vs_BadProblem)
    (b_i_BadProblem : ∀ us : List Value, us.length = 2 → bindArgs (ksFn iname_BadProblem iqual_BadProblem iparams_BadProblem [.Expr (.Call (.Attribute (.Call (.Name "super" p0_BadProblem) [] [] p1_BadProblem) "__init__" p2_BadProblem) [.JoinedStr (v1_BadProblem :: v2_BadProblem :: vs_BadProblem) p3_BadProblem] [] p4_BadProblem) p5_BadProblem, .Assign [.Attribute (.Name "self" p6_BadProblem) (PySem.Str.ofString "what") p7_BadProblem] (.Name (PySem.Str.ofString "what") p8_BadProblem) p9_BadProblem] iscope_BadProblem idV_BadProblem ikV_BadProblem idoc_BadProblem ipm_BadProblem ian_BadProblem (.ref cda_BadProblem) ict_BadProblem cc_BadProblem) ⟨us, []⟩ = pure ([(PySem.Str.ofString "self"), (PySem.Str.ofString "what")].zip us))
    (m_BadText_BadText : subIn K (.ref C_BadText) (.ref C_BadText) = some true)
    (m_BadClause_BadClause : subIn K (.ref C_BadClause) (.ref C_BadClause) = some true) :
    ∃ fd : FuncData, (∀ (s : Shared) (v : Value), BindsTo s fd ⟨[v], []⟩ [("script", v)]) ∧ ∀ base : Heap, K.In base → base.Ns mainGlobals mg → FnOk P w K mg base (L2.CX P w) 7 fa fd [(PySem.Str.ofString "script")] (spLaw K) := by
  have e := hfa.symm.trans (mg_of X G n_law)
  cases e
  have U_ordered := fun_mk (st := s_ordered) l_ordered c_ordered k_ordered
  have b_ordered := U_ordered.binds (ps := [(PySem.Str.ofString "literals")]) fun _ _ _ _ _ _ us hl => match us, hl with | [_], _ => rfl
  have g_ordered := mg_of X G n_ordered
  have U_clause_of := fun_mk (st := s_clause_of) l_clause_of c_clause_of k_clause_of
  have b_clause_of := U_clause_of.binds (ps := [(PySem.Str.ofString "literals")]) fun _ _ _ _ _ _ us hl => match us, hl with | [_], _ => rfl
  have g_clause_of := mg_of X G n_clause_of
  have U_is_clause := fun_mk (st := s_is_clause) l_is_clause c_is_clause k_is_clause
  have b_is_clause := U_is_clause.binds (ps := [(PySem.Str.ofString "clause"), (PySem.Str.ofString "count")]) fun _ _ _ _ _ _ us hl => match us, hl with | [_, _], _ => rfl
  have g_is_clause := mg_of X G n_is_clause
  have U_is_soft := fun_mk (st := s_is_soft) l_is_soft c_is_soft k_is_soft
  have b_is_soft := U_is_soft.binds (ps := [(PySem.Str.ofString "one"), (PySem.Str.ofString "count")]) fun _ _ _ _ _ _ us hl => match us, hl with | [_, _], _ => rfl
  have g_is_soft := mg_of X G n_is_soft
  have U_Problem___init__ := fun_mk (st := s_Problem___init__) l_Problem___init__ c_Problem___init__ k_Problem___init__
  have b_Problem___init__ := U_Problem___init__.binds (ps := [(PySem.Str.ofString "self"), (PySem.Str.ofString "count"), (PySem.Str.ofString "hard"), (PySem.Str.ofString "soft")]) fun _ _ _ _ _ _ us hl => match us, hl with | [_, _, _, _], _ => rfl
  have U_Problem_whole_price := fun_mk (st := s_Problem_whole_price) l_Problem_whole_price c_Problem_whole_price k_Problem_whole_price
  have b_Problem_whole_price := U_Problem_whole_price.binds (ps := [(PySem.Str.ofString "self")]) fun _ _ _ _ _ _ us hl => match us, hl with | [_], _ => rfl
  have U_is_whole := fun_mk (st := s_is_whole) l_is_whole c_is_whole k_is_whole
  have b_is_whole := U_is_whole.binds (ps := [(PySem.Str.ofString "word")]) fun _ _ _ _ _ _ us hl => match us, hl with | [_], _ => rfl
  have g_is_whole := mg_of X G n_is_whole
  have U_is_number := fun_mk (st := s_is_number) l_is_number c_is_number k_is_number
  have b_is_number := U_is_number.binds (ps := [(PySem.Str.ofString "word"), (PySem.Str.ofString "most")]) fun _ _ _ _ _ _ us hl => match us, hl with | [_, _], _ => rfl
  have g_is_number := mg_of X G n_is_number
  have U_split := fun_mk (st := s_split) l_split c_split k_split
  have b_split := U_split.binds (ps := [(PySem.Str.ofString "line")]) fun _ _ _ _ _ _ us hl => match us, hl with | [_], _ => rfl
  have g_split := mg_of X G n_split
  have U_joined := fun_mk (st := s_joined) l_joined c_joined k_joined
  have b_joined := U_joined.binds (ps := [(PySem.Str.ofString "numbers")]) fun _ _ _ _ _ _ us hl => match us, hl with | [_], _ => rfl
  have g_joined := mg_of X G n_joined
  have U_wcnf_text := fun_mk (st := s_wcnf_text) l_wcnf_text c_wcnf_text k_wcnf_text
  have b_wcnf_text := U_wcnf_text.binds (ps := [(PySem.Str.ofString "problem")]) fun _ _ _ _ _ _ us hl => match us, hl with | [_], _ => rfl
  have g_wcnf_text := mg_of X G n_wcnf_text
  have U_read_head := fun_mk (st := s_read_head) l_read_head c_read_head k_read_head
  have b_read_head := U_read_head.binds (ps := [(PySem.Str.ofString "words")]) fun _ _ _ _ _ _ us hl => match us, hl with | [_], _ => rfl
  have g_read_head := mg_of X G n_read_head
  have U_read_row := fun_mk (st := s_read_row) l_read_row c_read_row k_read_row
  have b_read_row := U_read_row.binds (ps := [(PySem.Str.ofString "words"), (PySem.Str.ofString "head")]) fun _ _ _ _ _ _ us hl => match us, hl with | [_, _], _ => rfl
  have g_read_row := mg_of X G n_read_row
  have U_read_wcnf := fun_mk (st := s_read_wcnf) l_read_wcnf c_read_wcnf k_read_wcnf
  have b_read_wcnf := U_read_wcnf.binds (ps := [(PySem.Str.ofString "text")]) fun _ _ _ _ _ _ us hl => match us, hl with | [_], _ => rfl
  have g_read_wcnf := mg_of X G n_read_wcnf
  have U__law_pool := fun_mk (st := s__law_pool) l__law_pool c__law_pool k__law_pool
  have b__law_pool := U__law_pool.binds (ps := [(PySem.Str.ofString "script"), (PySem.Str.ofString "budget")]) fun _ _ _ _ _ _ us hl => match us, hl with | [_, _], _ => rfl
  have g__law_pool := mg_of X G n__law_pool
  have U__law_draw := fun_mk (st := s__law_draw) l__law_draw c__law_draw k__law_draw
  have b__law_draw := U__law_draw.binds (ps := [(PySem.Str.ofString "pool"), (PySem.Str.ofString "size")]) fun _ _ _ _ _ _ us hl => match us, hl with | [_, _], _ => rfl
  have g__law_draw := mg_of X G n__law_draw
  have U__law_same := fun_mk (st := s__law_same) l__law_same c__law_same k__law_same
  have b__law_same := U__law_same.binds (ps := [(PySem.Str.ofString "actual"), (PySem.Str.ofString "due")]) fun _ _ _ _ _ _ us hl => match us, hl with | [_, _], _ => rfl
  have g__law_same := mg_of X G n__law_same
  have U__law_literals := fun_mk (st := s__law_literals) l__law_literals c__law_literals k__law_literals
  have b__law_literals := U__law_literals.binds (ps := [(PySem.Str.ofString "pool"), (PySem.Str.ofString "count"), (PySem.Str.ofString "most")]) fun _ _ _ _ _ _ us hl => match us, hl with | [_, _, _], _ => rfl
  have g__law_literals := mg_of X G n__law_literals
  have U__law_problem := fun_mk (st := s__law_problem) l__law_problem c__law_problem k__law_problem
  have b__law_problem := U__law_problem.binds (ps := [(PySem.Str.ofString "pool"), (PySem.Str.ofString "most"), (PySem.Str.ofString "hards"), (PySem.Str.ofString "softs"), (PySem.Str.ofString "weight")]) fun _ _ _ _ _ _ us hl => match us, hl with | [_, _, _, _, _], _ => rfl
  have g__law_problem := mg_of X G n__law_problem
  have U__law_whole := fun_mk (st := s__law_whole) l__law_whole c__law_whole k__law_whole
  have b__law_whole := U__law_whole.binds (ps := [(PySem.Str.ofString "word")]) fun _ _ _ _ _ _ us hl => match us, hl with | [_], _ => rfl
  have g__law_whole := mg_of X G n__law_whole
  have U__law_words := fun_mk (st := s__law_words) l__law_words c__law_words k__law_words
  have b__law_words := U__law_words.binds (ps := [(PySem.Str.ofString "line")]) fun _ _ _ _ _ _ us hl => match us, hl with | [_], _ => rfl
  have g__law_words := mg_of X G n__law_words
  have U__law_row := fun_mk (st := s__law_row) l__law_row c__law_row k__law_row
  have b__law_row := U__law_row.binds (ps := [(PySem.Str.ofString "words"), (PySem.Str.ofString "count"), (PySem.Str.ofString "top")]) fun _ _ _ _ _ _ us hl => match us, hl with | [_, _, _], _ => rfl
  have g__law_row := mg_of X G n__law_row
  have U__law_read := fun_mk (st := s__law_read) l__law_read c__law_read k__law_read
  have b__law_read := U__law_read.binds (ps := [(PySem.Str.ofString "lines")]) fun _ _ _ _ _ _ us hl => match us, hl with | [_], _ => rfl
  have g__law_read := mg_of X G n__law_read
  have U__law_told := fun_mk (st := s__law_told) l__law_told c__law_told k__law_told
  have b__law_told := U__law_told.binds (ps := [(PySem.Str.ofString "text")]) fun _ _ _ _ _ _ us hl => match us, hl with | [_], _ => rfl
  have g__law_told := mg_of X G n__law_told
  have U__law_changed := fun_mk (st := s__law_changed) l__law_changed c__law_changed k__law_changed
  have b__law_changed := U__law_changed.binds (ps := [(PySem.Str.ofString "pool"), (PySem.Str.ofString "lines")]) fun _ _ _ _ _ _ us hl => match us, hl with | [_, _], _ => rfl
  have g__law_changed := mg_of X G n__law_changed
  have U_law := fun_mk (st := s_law) l_law c_law k_law
  have b_law := U_law.binds (ps := [(PySem.Str.ofString "script")]) fun _ _ _ _ _ _ us hl => match us, hl with | [_], _ => rfl
  have g_law := mg_of X G n_law
  have m_sorted := mg_none_of X G z_sorted
  have m_abs := mg_none_of X G z_abs
  have m_any := mg_none_of X G z_any
  have m_tuple := mg_none_of X G z_tuple
  have m_all := mg_none_of X G z_all
  have m_zip := mg_none_of X G z_zip
  have m_len := mg_none_of X G z_len
  have m_sum := mg_none_of X G z_sum
  have m_int := mg_none_of X G z_int
  have m_str := mg_none_of X G z_str
  have m_enumerate := mg_none_of X G z_enumerate
  have m_list := mg_none_of X G z_list
  have m_isinstance := mg_none_of X G z_isinstance
  have m_range := mg_none_of X G z_range
  have m_bool := mg_none_of X G z_bool
  have m_set := mg_none_of X G z_set
  have m_min := mg_none_of X G z_min
  have m_max := mg_none_of X G z_max
  have m_super := mg_none_of X G z_super
  have m_MOST_VARIABLE := mg_of X G z_MOST_VARIABLE
  have m_MOST_COUNT := mg_of X G z_MOST_COUNT
  have m_MOST_HARD := mg_of X G z_MOST_HARD
  have m_MOST_SOFT := mg_of X G z_MOST_SOFT
  have m_MOST_WEIGHT := mg_of X G z_MOST_WEIGHT
  have m_MOST_DIGITS := mg_of X G z_MOST_DIGITS
  have G_Problem := mg_of X G g_Problem
  have cl_Problem : Cls K aProblem := ⟨pg_Problem, hd_Problem, po_Problem, sa_Problem⟩
  have gE_BadText := mg_of X G e_n_BadText
  have T_BadText : OexC K C_BadText := ⟨⟨nm_BadText, qn_BadText, N_BadText, bs_BadText, bm_BadText, sn_BadText, sub_BadText, ab_BadText, col_BadText, dd_BadText, k0_BadText, k1_BadText, k2_BadText, k3_BadText, k5_BadText, e_l_BadText, e_r_BadText⟩, e_sa_BadText, e_ex_BadText, e_ty_BadText, e_k_BadText⟩
  have J_BadText : Ex.Ini P K mg aI_BadText C_BadText _ (PySem.Str.ofString "at") (PySem.Str.ofString "at") := ⟨T_BadText, e_w_BadText, ⟨iname_BadText, iqual_BadText, iparams_BadText, iscope_BadText, idV_BadText, ikV_BadText, idoc_BadText, ipm_BadText, ict_BadText, ioc_BadText, ian_BadText, iod_BadText, iosl_BadText, cda_BadText, cc_BadText, p0_BadText, p1_BadText, p2_BadText, p3_BadText, p4_BadText, p5_BadText, p6_BadText, p7_BadText, p8_BadText, p9_BadText, v1_BadText, v2_BadText, vs_BadText, rfl, i_l_BadText, i_c_BadText, i_p_BadText, i_pl_BadText, ⟨ar_BadText, i_a_BadText, i_a2_BadText⟩, ⟨ccl_BadText, cdd_BadText, xs_BadText, csl_BadText, file_BadText, tf_BadText, i_d_BadText, i_x_BadText, i_f_BadText⟩, ⟨cl_BadText, cld_BadText, csl2_BadText, i_e_BadText⟩, s1_BadText, s2_BadText, s3_BadText, s4_BadText, of_decide_eq_true s5_BadText, s6_BadText, s7_BadText, s8_BadText, s9_BadText⟩, by decide, by decide, s10, m_super, e_mro_BadText, e_s_BadText, e_ve_BadText, e_3⟩
  have bI_BadText := Binds.all (K := K) (ps := [(PySem.Str.ofString "self"), (PySem.Str.ofString "at")]) b_i_BadText
  have XF_BadText : XfC K C_BadText := ⟨e_ga_BadText, e_gg_BadText, e_ex_BadText, e_hd_BadText⟩
  have gE_BadClause := mg_of X G e_n_BadClause
  have T_BadClause : OexC K C_BadClause := ⟨⟨nm_BadClause, qn_BadClause, N_BadClause, bs_BadClause, bm_BadClause, sn_BadClause, sub_BadClause, ab_BadClause, col_BadClause, dd_BadClause, k0_BadClause, k1_BadClause, k2_BadClause, k3_BadClause, k5_BadClause, e_l_BadClause, e_r_BadClause⟩, e_sa_BadClause, e_ex_BadClause, e_ty_BadClause, e_k_BadClause⟩
  have J_BadClause : Ex.Ini P K mg aI_BadClause C_BadClause _ (PySem.Str.ofString "what") (PySem.Str.ofString "what") := ⟨T_BadClause, e_w_BadClause, ⟨iname_BadClause, iqual_BadClause, iparams_BadClause, iscope_BadClause, idV_BadClause, ikV_BadClause, idoc_BadClause, ipm_BadClause, ict_BadClause, ioc_BadClause, ian_BadClause, iod_BadClause, iosl_BadClause, cda_BadClause, cc_BadClause, p0_BadClause, p1_BadClause, p2_BadClause, p3_BadClause, p4_BadClause, p5_BadClause, p6_BadClause, p7_BadClause, p8_BadClause, p9_BadClause, v1_BadClause, v2_BadClause, vs_BadClause, rfl, i_l_BadClause, i_c_BadClause, i_p_BadClause, i_pl_BadClause, ⟨ar_BadClause, i_a_BadClause, i_a2_BadClause⟩, ⟨ccl_BadClause, cdd_BadClause, xs_BadClause, csl_BadClause, file_BadClause, tf_BadClause, i_d_BadClause, i_x_BadClause, i_f_BadClause⟩, ⟨cl_BadClause, cld_BadClause, csl2_BadClause, i_e_BadClause⟩, s1_BadClause, s2_BadClause, s3_BadClause, s4_BadClause, of_decide_eq_true s5_BadClause, s6_BadClause, s7_BadClause, s8_BadClause, s9_BadClause⟩, by decide, by decide, s10, m_super, e_mro_BadClause, e_s_BadClause, e_ve_BadClause, e_3⟩
  have bI_BadClause := Binds.all (K := K) (ps := [(PySem.Str.ofString "self"), (PySem.Str.ofString "what")]) b_i_BadClause
  have XF_BadClause : XfC K C_BadClause := ⟨e_ga_BadClause, e_gg_BadClause, e_ex_BadClause, e_hd_BadClause⟩
  have gE_BadProblem := mg_of X G e_n_BadProblem
  have T_BadProblem : OexC K C_BadProblem := ⟨⟨nm_BadProblem, qn_BadProblem, N_BadProblem, bs_BadProblem, bm_BadProblem, sn_BadProblem, sub_BadProblem, ab_BadProblem, col_BadProblem, dd_BadProblem, k0_BadProblem, k1_BadProblem, k2_BadProblem, k3_BadProblem, k5_BadProblem, e_l_BadProblem, e_r_BadProblem⟩, e_sa_BadProblem, e_ex_BadProblem, e_ty_BadProblem, e_k_BadProblem⟩
  have J_BadProblem : Ex.Ini P K mg aI_BadProblem C_BadProblem _ (PySem.Str.ofString "what") (PySem.Str.ofString "what") := ⟨T_BadProblem, e_w_BadProblem, ⟨iname_BadProblem, iqual_BadProblem, iparams_BadProblem, iscope_BadProblem, idV_BadProblem, ikV_BadProblem, idoc_BadProblem, ipm_BadProblem, ict_BadProblem, ioc_BadProblem, ian_BadProblem, iod_BadProblem, iosl_BadProblem, cda_BadProblem, cc_BadProblem, p0_BadProblem, p1_BadProblem, p2_BadProblem, p3_BadProblem, p4_BadProblem, p5_BadProblem, p6_BadProblem, p7_BadProblem, p8_BadProblem, p9_BadProblem, v1_BadProblem, v2_BadProblem, vs_BadProblem, rfl, i_l_BadProblem, i_c_BadProblem, i_p_BadProblem, i_pl_BadProblem, ⟨ar_BadProblem, i_a_BadProblem, i_a2_BadProblem⟩, ⟨ccl_BadProblem, cdd_BadProblem, xs_BadProblem, csl_BadProblem, file_BadProblem, tf_BadProblem, i_d_BadProblem, i_x_BadProblem, i_f_BadProblem⟩, ⟨cl_BadProblem, cld_BadProblem, csl2_BadProblem, i_e_BadProblem⟩, s1_BadProblem, s2_BadProblem, s3_BadProblem, s4_BadProblem, of_decide_eq_true s5_BadProblem, s6_BadProblem, s7_BadProblem, s8_BadProblem, s9_BadProblem⟩, by decide, by decide, s10, m_super, e_mro_BadProblem, e_s_BadProblem, e_ve_BadProblem, e_3⟩
  have bI_BadProblem := Binds.all (K := K) (ps := [(PySem.Str.ofString "self"), (PySem.Str.ofString "what")]) b_i_BadProblem
  have XF_BadProblem : XfC K C_BadProblem := ⟨e_ga_BadProblem, e_gg_BadProblem, e_ex_BadProblem, e_hd_BadProblem⟩
  have M_BadText_BadText := exm_of e_l_BadText e_ex_BadText e_ty_BadText m_BadText_BadText
  have M_BadClause_BadClause := exm_of e_l_BadClause e_ex_BadClause e_ty_BadClause m_BadClause_BadClause
  refine ⟨fnOf (PySem.Str.ofString "law") (PySem.Str.ofString "law") (defArgs s_law) (defBody s_law) (defScope s_law) .none kV_law dc_law pm_law an_law cd_law ct_law, fun s v => .of_eq rfl, fun base KB GB => ?_⟩
  have OI_BadText := Ex.init_ok (w := w) (base := base) (CX := L2.CX P w) J_BadText 0
  have OI_BadClause := Ex.init_ok (w := w) (base := base) (CX := L2.CX P w) J_BadClause 0
  have OI_BadProblem := Ex.init_ok (w := w) (base := base) (CX := L2.CX P w) J_BadProblem 0
  have Oordered := ok_ordered (P := P) (w := w) (mg := mg) (base := base)  U_ordered m_sorted m_abs           K03.k_ordered
  have Oclause_of := ok_clause_of (P := P) (w := w) (mg := mg) (base := base) F_ordered U_clause_of m_any m_tuple m_all m_abs m_zip m_MOST_VARIABLE    Oordered g_ordered k_ordered b_ordered    T_BadClause e_i_BadClause e_ti_BadClause OI_BadClause bI_BadClause gE_BadClause  K03.k_clause_of
  have Ois_clause := ok_is_clause (P := P) (w := w) (mg := mg) (base := base)  U_is_clause m_all m_abs m_zip           K03.k_is_clause
  have Ois_soft := ok_is_soft (P := P) (w := w) (mg := mg) (base := base) F_is_clause U_is_soft  m_MOST_WEIGHT    Ois_clause g_is_clause k_is_clause b_is_clause      K03.k_is_soft
  have OProblem___init__ := ok_Problem___init__ (P := P) (w := w) (mg := mg) (base := base) aProblem F_is_clause F_is_soft U_Problem___init__ m_tuple m_len m_all m_MOST_COUNT m_MOST_HARD m_MOST_SOFT cl_Problem G_Problem  na_count na_hard na_soft Ois_clause g_is_clause k_is_clause b_is_clause Ois_soft g_is_soft k_is_soft b_is_soft    T_BadProblem e_i_BadProblem e_ti_BadProblem OI_BadProblem bI_BadProblem gE_BadProblem  (K03.k_Problem___init__ aProblem)
  have OProblem_whole_price := ok_Problem_whole_price (P := P) (w := w) (mg := mg) (base := base) aProblem U_Problem_whole_price m_sum  cl_Problem G_Problem  na_soft       (K03.k_Problem_whole_price aProblem)
  have Ois_whole := ok_is_whole (P := P) (w := w) (mg := mg) (base := base)  U_is_whole m_len m_all m_MOST_DIGITS          K03.k_is_whole
  have Ois_number := ok_is_number (P := P) (w := w) (mg := mg) (base := base) F_is_whole U_is_number m_int     Ois_whole g_is_whole k_is_whole b_is_whole      K03.k_is_number
  have Osplit := ok_split (P := P) (w := w) (mg := mg) (base := base)  U_split            K03.k_split
  have Ojoined := ok_joined (P := P) (w := w) (mg := mg) (base := base)  U_joined m_str           K03.k_joined
  have Owcnf_text := ok_wcnf_text (P := P) (w := w) (mg := mg) (base := base) aProblem F_joined (F_Problem_whole_price aProblem) U_wcnf_text m_len  cl_Problem G_Problem  na_hard na_soft na_count Ojoined g_joined k_joined b_joined OProblem_whole_price b_Problem_whole_price ⟨n_Problem_whole_price, f_Problem_whole_price, k_Problem_whole_price⟩     (K03.k_wcnf_text aProblem)
  have Oread_head := ok_read_head (P := P) (w := w) (mg := mg) (base := base) F_is_number U_read_head m_tuple m_len m_all m_int m_MOST_COUNT m_MOST_HARD m_MOST_SOFT    Ois_number g_is_number k_is_number b_is_number      K03.k_read_head
  have Oread_row := ok_read_row (P := P) (w := w) (mg := mg) (base := base) F_clause_of F_is_whole cat03 U_read_row m_int m_all m_len m_abs m_MOST_WEIGHT    Oclause_of g_clause_of k_clause_of b_clause_of Ois_whole g_is_whole k_is_whole b_is_whole     gE_BadClause (catU_ok gE_BadClause M_BadClause_BadClause) K03.k_read_row
  have Oread_wcnf := ok_read_wcnf (P := P) (w := w) (mg := mg) (base := base) aProblem F_read_head F_read_row F_split (F_Problem___init__ aProblem) U_read_wcnf m_enumerate m_len m_MOST_HARD m_MOST_SOFT cl_Problem G_Problem   Oread_head g_read_head k_read_head b_read_head Oread_row g_read_row k_read_row b_read_row Osplit g_split k_split b_split OProblem___init__ b_Problem___init__  ⟨mk_Problem, n_Problem___init__, f_Problem___init__, kp_Problem⟩  T_BadText e_i_BadText e_ti_BadText OI_BadText bI_BadText gE_BadText  (K03.k_read_wcnf aProblem)
  have O_law_pool := ok__law_pool (P := P) (w := w) (mg := mg) (base := base)  U__law_pool m_list           K03.k__law_pool
  have O_law_draw := ok__law_draw (P := P) (w := w) (mg := mg) (base := base)  U__law_draw m_int m_len           K03.k__law_draw
  have O_law_same_1 : FnOk P w K mg base (L2.CX P w) 1 a__law_same _ [(PySem.Str.ofString "actual"), (PySem.Str.ofString "due")] (spD K mg 2 (F_same 1)) := ok__law_same (kk := 0) (P := P) (w := w) (mg := mg) (base := base) (F_same 0) (F := (F_same 1)) U__law_same m_isinstance m_int m_tuple m_list m_range m_bool m_str m_len     (spD0 (fun _ _ _ h => h)) g__law_same k__law_same b__law_same      (K03.k__law_same 0)
  have O_law_same_2 : FnOk P w K mg base (L2.CX P w) 2 a__law_same _ [(PySem.Str.ofString "actual"), (PySem.Str.ofString "due")] (spD K mg 2 (F_same 2)) := ok__law_same (kk := 1) (P := P) (w := w) (mg := mg) (base := base) (F_same 1) (F := (F_same 2)) U__law_same m_isinstance m_int m_tuple m_list m_range m_bool m_str m_len     O_law_same_1 g__law_same k__law_same b__law_same      (K03.k__law_same 1)
  have O_law_same_3 : FnOk P w K mg base (L2.CX P w) 3 a__law_same _ [(PySem.Str.ofString "actual"), (PySem.Str.ofString "due")] (spD K mg 2 (F_same 3)) := ok__law_same (kk := 2) (P := P) (w := w) (mg := mg) (base := base) (F_same 2) (F := (F_same 3)) U__law_same m_isinstance m_int m_tuple m_list m_range m_bool m_str m_len     O_law_same_2 g__law_same k__law_same b__law_same      (K03.k__law_same 2)
  have O_law_same_4 : FnOk P w K mg base (L2.CX P w) 4 a__law_same _ [(PySem.Str.ofString "actual"), (PySem.Str.ofString "due")] (spD K mg 2 (F_same 4)) := ok__law_same (kk := 3) (P := P) (w := w) (mg := mg) (base := base) (F_same 3) (F := (F_same 4)) U__law_same m_isinstance m_int m_tuple m_list m_range m_bool m_str m_len     O_law_same_3 g__law_same k__law_same b__law_same      (K03.k__law_same 3)
  have O_law_same_5 : FnOk P w K mg base (L2.CX P w) 5 a__law_same _ [(PySem.Str.ofString "actual"), (PySem.Str.ofString "due")] (spD K mg 2 (F_same 5)) := ok__law_same (kk := 4) (P := P) (w := w) (mg := mg) (base := base) (F_same 4) (F := (F_same 5)) U__law_same m_isinstance m_int m_tuple m_list m_range m_bool m_str m_len     O_law_same_4 g__law_same k__law_same b__law_same      (K03.k__law_same 4)
  have O_law_same : FnOk P w K mg base (L2.CX P w) 5 a__law_same _ [(PySem.Str.ofString "actual"), (PySem.Str.ofString "due")] (spD K mg 2 (F_same 5)) := O_law_same_5.mono (by decide)
  have O_law_literals := ok__law_literals (P := P) (w := w) (mg := mg) (base := base) F__law_draw U__law_literals m_range m_tuple m_len     O_law_draw g__law_draw k__law_draw b__law_draw      K03.k__law_literals
  have O_law_problem := ok__law_problem (P := P) (w := w) (mg := mg) (base := base) F__law_draw F__law_literals U__law_problem m_tuple m_range     O_law_draw g__law_draw k__law_draw b__law_draw O_law_literals g__law_literals k__law_literals b__law_literals      K03.k__law_problem
  have O_law_whole := ok__law_whole (P := P) (w := w) (mg := mg) (base := base)  U__law_whole m_len           K03.k__law_whole
  have O_law_words := ok__law_words (P := P) (w := w) (mg := mg) (base := base)  U__law_words            K03.k__law_words
  have O_law_row := ok__law_row (P := P) (w := w) (mg := mg) (base := base) F__law_whole U__law_row m_tuple m_len m_sorted m_abs m_set     O_law_whole g__law_whole k__law_whole b__law_whole      K03.k__law_row
  have O_law_read := ok__law_read (P := P) (w := w) (mg := mg) (base := base) F_split F__law_whole F__law_row U__law_read m_len m_tuple m_range m_min m_max     O_law_words g__law_words k__law_words b__law_words O_law_whole g__law_whole k__law_whole b__law_whole O_law_row g__law_row k__law_row b__law_row      K03.k__law_read
  have O_law_told := ok__law_told (P := P) (w := w) (mg := mg) (base := base) aProblem (F_read_wcnf aProblem) cat04 U__law_told   cl_Problem G_Problem  na_count na_hard na_soft Oread_wcnf g_read_wcnf k_read_wcnf b_read_wcnf     gE_BadText (cat_ok gE_BadText XF_BadText e_w_BadText M_BadText_BadText) (K03.k__law_told aProblem)
  have O_law_changed := ok__law_changed (P := P) (w := w) (mg := mg) (base := base) F__law_draw U__law_changed m_len     O_law_draw g__law_draw k__law_draw b__law_draw      K03.k__law_changed
  have Olaw := ok_law (P := P) (w := w) (mg := mg) (base := base) aProblem hF__law_pool F__law_problem (F_wcnf_text aProblem) (F_same 5) F__law_told F__law_draw F__law_changed F__law_read (F_Problem___init__ aProblem) U_law m_range m_sum m_list m_str m_len  cl_Problem G_Problem   O_law_pool g__law_pool k__law_pool b__law_pool O_law_problem g__law_problem k__law_problem b__law_problem Owcnf_text g_wcnf_text k_wcnf_text b_wcnf_text O_law_same g__law_same k__law_same b__law_same O_law_told g__law_told k__law_told b__law_told O_law_draw g__law_draw k__law_draw b__law_draw O_law_changed g__law_changed k__law_changed b__law_changed O_law_read g__law_read k__law_read b__law_read OProblem___init__ b_Problem___init__  ⟨mk_Problem, n_Problem___init__, f_Problem___init__, kp_Problem⟩    (K03.k_law aProblem)
  exact Olaw.imp fun vs H Q E ⟨La, ds, l, r, q⟩ => ⟨La, ds, l, r, q⟩
end K03
end

section
open PySem PySem.W PyProof.Rows
set_option maxHeartbeats 0 in
theorem PySem.Challenge.cw_coresprice_k03_whole_problem_texts_with_holds : PySem.Challenge.rw_coresprice_k03_whole_problem_texts_with.Holds := by
  w_on; o_law; k_head; (case hw => w_witness2)
  k_fill
  refine L2.walk_of (l := PySem.Challenge.rw_coresprice_k03_whole_problem_texts_with) (n := 63) (k := 7) (x := "script") (CX := fun w => L2.CX PySem.Challenge.pw_coresprice_k03_whole_problem_texts_with w) (sp := fun w => K03.spLaw _) rfl (by decide) rfl ⟨rfl, by decide, by decide⟩ (fun w h Y => PySem.W.kIn_of Y) ?F (fun w H a ns hl hO hS => K03.spLaw_ok hl hO hS) (fun w H s e s' h => K03.noCX h)
  case F =>
    intro w mg fa h KX G hmg
    refine' K03.all_mk KX G hmg ?g_Problem ?pg_Problem ?hd_Problem ?po_Problem ?sa_Problem ?mk_Problem ?kp_Problem ?na_count ?na_hard ?na_soft ?n_ordered ?l_ordered ?c_ordered ?k_ordered ?n_clause_of ?l_clause_of ?c_clause_of ?k_clause_of ?n_is_clause ?l_is_clause ?c_is_clause ?k_is_clause ?n_is_soft ?l_is_soft ?c_is_soft ?k_is_soft ?n_Problem___init__ ?f_Problem___init__ ?l_Problem___init__ ?c_Problem___init__ ?k_Problem___init__ ?n_Problem_whole_price ?f_Problem_whole_price ?l_Problem_whole_price ?c_Problem_whole_price ?k_Problem_whole_price ?n_is_whole ?l_is_whole ?c_is_whole ?k_is_whole ?n_is_number ?l_is_number ?c_is_number ?k_is_number ?n_split ?l_split ?c_split ?k_split ?n_joined ?l_joined ?c_joined ?k_joined ?n_wcnf_text ?l_wcnf_text ?c_wcnf_text ?k_wcnf_text ?n_read_head ?l_read_head ?c_read_head ?k_read_head ?n_read_row ?l_read_row ?c_read_row ?k_read_row ?n_read_wcnf ?l_read_wcnf ?c_read_wcnf ?k_read_wcnf ?n__law_pool ?l__law_pool ?c__law_pool ?k__law_pool ?n__law_draw ?l__law_draw ?c__law_draw ?k__law_draw ?n__law_same ?l__law_same ?c__law_same ?k__law_same ?n__law_literals ?l__law_literals ?c__law_literals ?k__law_literals ?n__law_problem ?l__law_problem ?c__law_problem ?k__law_problem ?n__law_whole ?l__law_whole ?c__law_whole ?k__law_whole ?n__law_words ?l__law_words ?c__law_words ?k__law_words ?n__law_row ?l__law_row ?c__law_row ?k__law_row ?n__law_read ?l__law_read ?c__law_read ?k__law_read ?n__law_told ?l__law_told ?c__law_told ?k__law_told ?n__law_changed ?l__law_changed ?c__law_changed ?k__law_changed ?n_law ?l_law ?c_law ?k_law ?z_sorted ?z_abs ?z_any ?z_tuple ?z_all ?z_zip ?z_len ?z_sum ?z_int ?z_str ?z_enumerate ?z_list ?z_isinstance ?z_range ?z_bool ?z_set ?z_min ?z_max ?z_super ?z_MOST_VARIABLE ?z_MOST_COUNT ?z_MOST_HARD ?z_MOST_SOFT ?z_MOST_WEIGHT ?z_MOST_DIGITS ?e_3 ?s10 ?e_n_BadText ?e_l_BadText ?e_r_BadText ?e_sa_BadText ?e_ga_BadText ?e_gg_BadText ?e_ex_BadText ?e_ve_BadText ?e_ty_BadText ?e_k_BadText ?e_hd_BadText ?e_w_BadText ?e_i_BadText ?e_ti_BadText ?e_mro_BadText ?e_s_BadText ?i_l_BadText ?i_c_BadText ?i_d_BadText ?i_x_BadText ?i_f_BadText ?i_e_BadText ?i_a_BadText ?i_a2_BadText ?i_p_BadText ?i_pl_BadText ?s1_BadText ?s2_BadText ?s3_BadText ?s4_BadText ?s5_BadText ?s6_BadText ?s7_BadText ?s8_BadText ?s9_BadText ?b_i_BadText ?e_n_BadClause ?e_l_BadClause ?e_r_BadClause ?e_sa_BadClause ?e_ga_BadClause ?e_gg_BadClause ?e_ex_BadClause ?e_ve_BadClause ?e_ty_BadClause ?e_k_BadClause ?e_hd_BadClause ?e_w_BadClause ?e_i_BadClause ?e_ti_BadClause ?e_mro_BadClause ?e_s_BadClause ?i_l_BadClause ?i_c_BadClause ?i_d_BadClause ?i_x_BadClause ?i_f_BadClause ?i_e_BadClause ?i_a_BadClause ?i_a2_BadClause ?i_p_BadClause ?i_pl_BadClause ?s1_BadClause ?s2_BadClause ?s3_BadClause ?s4_BadClause ?s5_BadClause ?s6_BadClause ?s7_BadClause ?s8_BadClause ?s9_BadClause ?b_i_BadClause ?e_n_BadProblem ?e_l_BadProblem ?e_r_BadProblem ?e_sa_BadProblem ?e_ga_BadProblem ?e_gg_BadProblem ?e_ex_BadProblem ?e_ve_BadProblem ?e_ty_BadProblem ?e_k_BadProblem ?e_hd_BadProblem ?e_w_BadProblem ?e_i_BadProblem ?e_ti_BadProblem ?e_mro_BadProblem ?e_s_BadProblem ?i_l_BadProblem ?i_c_BadProblem ?i_d_BadProblem ?i_x_BadProblem ?i_f_BadProblem ?i_e_BadProblem ?i_a_BadProblem ?i_a2_BadProblem ?i_p_BadProblem ?i_pl_BadProblem ?s1_BadProblem ?s2_BadProblem ?s3_BadProblem ?s4_BadProblem ?s5_BadProblem ?s6_BadProblem ?s7_BadProblem ?s8_BadProblem ?s9_BadProblem ?b_i_BadProblem ?m_BadText_BadText ?m_BadClause_BadClause
    (case g_Problem => k_is)
    (case pg_Problem => k_is)
    (case hd_Problem => k_is)
    (case po_Problem => k_is)
    (case sa_Problem => k_is)
    (case mk_Problem => k_is)
    (case kp_Problem => k_is)
    (case na_count => k_is)
    (case na_hard => k_is)
    (case na_soft => k_is)
    (case n_ordered => k_is)
    (case l_ordered => k_is)
    (case c_ordered => k_is)
    (case k_ordered => k_is)
    (case n_clause_of => k_is)
    (case l_clause_of => k_is)
    (case c_clause_of => k_is)
    (case k_clause_of => k_is)
    (case n_is_clause => k_is)
    (case l_is_clause => k_is)
    (case c_is_clause => k_is)
    (case k_is_clause => k_is)
    (case n_is_soft => k_is)
    (case l_is_soft => k_is)
    (case c_is_soft => k_is)
    (case k_is_soft => k_is)
    (case n_Problem___init__ => k_is)
    (case f_Problem___init__ => k_is)
    (case l_Problem___init__ => k_is)
    (case c_Problem___init__ => k_is)
    (case k_Problem___init__ => k_is)
    (case n_Problem_whole_price => k_is)
    (case f_Problem_whole_price => k_is)
    (case l_Problem_whole_price => k_is)
    (case c_Problem_whole_price => k_is)
    (case k_Problem_whole_price => k_is)
    (case n_is_whole => k_is)
    (case l_is_whole => k_is)
    (case c_is_whole => k_is)
    (case k_is_whole => k_is)
    (case n_is_number => k_is)
    (case l_is_number => k_is)
    (case c_is_number => k_is)
    (case k_is_number => k_is)
    (case n_split => k_is)
    (case l_split => k_is)
    (case c_split => k_is)
    (case k_split => k_is)
    (case n_joined => k_is)
    (case l_joined => k_is)
    (case c_joined => k_is)
    (case k_joined => k_is)
    (case n_wcnf_text => k_is)
    (case l_wcnf_text => k_is)
    (case c_wcnf_text => k_is)
    (case k_wcnf_text => k_is)
    (case n_read_head => k_is)
    (case l_read_head => k_is)
    (case c_read_head => k_is)
    (case k_read_head => k_is)
    (case n_read_row => k_is)
    (case l_read_row => k_is)
    (case c_read_row => k_is)
    (case k_read_row => k_is)
    (case n_read_wcnf => k_is)
    (case l_read_wcnf => k_is)
    (case c_read_wcnf => k_is)
    (case k_read_wcnf => k_is)
    (case n__law_pool => k_is)
    (case l__law_pool => k_is)
    (case c__law_pool => k_is)
    (case k__law_pool => k_is)
    (case n__law_draw => k_is)
    (case l__law_draw => k_is)
    (case c__law_draw => k_is)
    (case k__law_draw => k_is)
    (case n__law_same => k_is)
    (case l__law_same => k_is)
    (case c__law_same => k_is)
    (case k__law_same => k_is)
    (case n__law_literals => k_is)
    (case l__law_literals => k_is)
    (case c__law_literals => k_is)
    (case k__law_literals => k_is)
    (case n__law_problem => k_is)
    (case l__law_problem => k_is)
    (case c__law_problem => k_is)
    (case k__law_problem => k_is)
    (case n__law_whole => k_is)
    (case l__law_whole => k_is)
    (case c__law_whole => k_is)
    (case k__law_whole => k_is)
    (case n__law_words => k_is)
    (case l__law_words => k_is)
    (case c__law_words => k_is)
    (case k__law_words => k_is)
    (case n__law_row => k_is)
    (case l__law_row => k_is)
    (case c__law_row => k_is)
    (case k__law_row => k_is)
    (case n__law_read => k_is)
    (case l__law_read => k_is)
    (case c__law_read => k_is)
    (case k__law_read => k_is)
    (case n__law_told => k_is)
    (case l__law_told => k_is)
    (case c__law_told => k_is)
    (case k__law_told => k_is)
    (case n__law_changed => k_is)
    (case l__law_changed => k_is)
    (case c__law_changed => k_is)
    (case k__law_changed => k_is)
    (case n_law => k_is)
    (case l_law => k_is)
    (case c_law => k_is)
    (case k_law => k_is)
    (case z_sorted => k_is)
    (case z_abs => k_is)
    (case z_any => k_is)
    (case z_tuple => k_is)
    (case z_all => k_is)
    (case z_zip => k_is)
    (case z_len => k_is)
    (case z_sum => k_is)
    (case z_int => k_is)
    (case z_str => k_is)
    (case z_enumerate => k_is)
    (case z_list => k_is)
    (case z_isinstance => k_is)
    (case z_range => k_is)
    (case z_bool => k_is)
    (case z_set => k_is)
    (case z_min => k_is)
    (case z_max => k_is)
    (case z_super => k_is)
    (case z_MOST_VARIABLE => k_is)
    (case z_MOST_COUNT => k_is)
    (case z_MOST_HARD => k_is)
    (case z_MOST_SOFT => k_is)
    (case z_MOST_WEIGHT => k_is)
    (case z_MOST_DIGITS => k_is)
    (case e_3 => k_is)
    (case s10 => first | rfl | decide +kernel)
    (case e_n_BadText => k_is)
    (case e_l_BadText => k_is)
    (case e_r_BadText => decide +kernel)
    (case e_sa_BadText => k_is)
    (case e_ga_BadText => k_is)
    (case e_gg_BadText => k_is)
    (case e_ex_BadText => k_is)
    (case e_ve_BadText => k_is)
    (case e_ty_BadText => k_is)
    (case e_k_BadText => k_is)
    (case e_hd_BadText => k_is)
    (case e_w_BadText => k_is)
    (case e_i_BadText => k_is)
    (case e_ti_BadText => k_is)
    (case e_mro_BadText => k_is)
    (case e_s_BadText => ks_is)
    (case i_l_BadText => k_is)
    (case i_c_BadText => k_is)
    (case i_d_BadText => k_is)
    (case i_x_BadText => rfl)
    (case i_f_BadText => first | rfl | decide +kernel)
    (case i_e_BadText => k_is)
    (case i_a_BadText => rfl)
    (case i_a2_BadText => rfl)
    (case i_p_BadText => (intro e he; simp only [List.mem_cons, List.not_mem_nil, or_false] at he; rcases he with rfl | rfl | rfl <;> first | exact .text _ _ _ (by decide +kernel) | exact .fmt _ _))
    (case i_pl_BadText => decide)
    (case s1_BadText => first | rfl | decide +kernel)
    (case s2_BadText => first | rfl | decide +kernel)
    (case s3_BadText => first | rfl | decide +kernel)
    (case s4_BadText => first | rfl | decide +kernel)
    (case s5_BadText => first | rfl | decide +kernel)
    (case s6_BadText => rfl)
    (case s7_BadText => rfl)
    (case s8_BadText => rfl)
    (case s9_BadText => (intro env; exact ⟨_, rfl⟩))
    (case b_i_BadText => (exact fun us hl => match us, hl with | [_, _], _ => rfl))
    (case e_n_BadClause => k_is)
    (case e_l_BadClause => k_is)
    (case e_r_BadClause => decide +kernel)
    (case e_sa_BadClause => k_is)
    (case e_ga_BadClause => k_is)
    (case e_gg_BadClause => k_is)
    (case e_ex_BadClause => k_is)
    (case e_ve_BadClause => k_is)
    (case e_ty_BadClause => k_is)
    (case e_k_BadClause => k_is)
    (case e_hd_BadClause => k_is)
    (case e_w_BadClause => k_is)
    (case e_i_BadClause => k_is)
    (case e_ti_BadClause => k_is)
    (case e_mro_BadClause => k_is)
    (case e_s_BadClause => ks_is)
    (case i_l_BadClause => k_is)
    (case i_c_BadClause => k_is)
    (case i_d_BadClause => k_is)
    (case i_x_BadClause => rfl)
    (case i_f_BadClause => first | rfl | decide +kernel)
    (case i_e_BadClause => k_is)
    (case i_a_BadClause => rfl)
    (case i_a2_BadClause => rfl)
    (case i_p_BadClause => (intro e he; simp only [List.mem_cons, List.not_mem_nil, or_false] at he; rcases he with rfl | rfl | rfl <;> first | exact .text _ _ _ (by decide +kernel) | exact .fmt _ _))
    (case i_pl_BadClause => decide)
    (case s1_BadClause => first | rfl | decide +kernel)
    (case s2_BadClause => first | rfl | decide +kernel)
    (case s3_BadClause => first | rfl | decide +kernel)
    (case s4_BadClause => first | rfl | decide +kernel)
    (case s5_BadClause => first | rfl | decide +kernel)
    (case s6_BadClause => rfl)
    (case s7_BadClause => rfl)
    (case s8_BadClause => rfl)
    (case s9_BadClause => (intro env; exact ⟨_, rfl⟩))
    (case b_i_BadClause => (exact fun us hl => match us, hl with | [_, _], _ => rfl))
    (case e_n_BadProblem => k_is)
    (case e_l_BadProblem => k_is)
    (case e_r_BadProblem => decide +kernel)
    (case e_sa_BadProblem => k_is)
    (case e_ga_BadProblem => k_is)
    (case e_gg_BadProblem => k_is)
    (case e_ex_BadProblem => k_is)
    (case e_ve_BadProblem => k_is)
    (case e_ty_BadProblem => k_is)
    (case e_k_BadProblem => k_is)
    (case e_hd_BadProblem => k_is)
    (case e_w_BadProblem => k_is)
    (case e_i_BadProblem => k_is)
    (case e_ti_BadProblem => k_is)
    (case e_mro_BadProblem => k_is)
    (case e_s_BadProblem => ks_is)
    (case i_l_BadProblem => k_is)
    (case i_c_BadProblem => k_is)
    (case i_d_BadProblem => k_is)
    (case i_x_BadProblem => rfl)
    (case i_f_BadProblem => first | rfl | decide +kernel)
    (case i_e_BadProblem => k_is)
    (case i_a_BadProblem => rfl)
    (case i_a2_BadProblem => rfl)
    (case i_p_BadProblem => (intro e he; simp only [List.mem_cons, List.not_mem_nil, or_false] at he; rcases he with rfl | rfl | rfl <;> first | exact .text _ _ _ (by decide +kernel) | exact .fmt _ _))
    (case i_pl_BadProblem => decide)
    (case s1_BadProblem => first | rfl | decide +kernel)
    (case s2_BadProblem => first | rfl | decide +kernel)
    (case s3_BadProblem => first | rfl | decide +kernel)
    (case s4_BadProblem => first | rfl | decide +kernel)
    (case s5_BadProblem => first | rfl | decide +kernel)
    (case s6_BadProblem => rfl)
    (case s7_BadProblem => rfl)
    (case s8_BadProblem => rfl)
    (case s9_BadProblem => (intro env; exact ⟨_, rfl⟩))
    (case b_i_BadProblem => (exact fun us hl => match us, hl with | [_, _], _ => rfl))
    (case m_BadText_BadText => k_is)
    (case m_BadClause_BadClause => k_is)
end
