import PyProof.Rows.All
import Wide.All
import OpenK.AllK
import Wide.FinOn
import HandS.ForMost
import HandS.ForExc
import HandS.Walk
import HandS.Wide
import HandS.Deep
import HandS.Rev
import HandS.IsInst
import KE.SortData
import PyProof.ReprRoads
import HandS.TupAny
import HandS.WideBits
import HandS.TupMul
import HandS.Dict
import HandS.RaiseMore
import HandS.WordsDict
import KE.DatumOrd
import KE.KTupSum
import HandS.Exc
import HandS.ExcOwn
import HandS.WordsExc
import HandS.Zip
import HandS.Style
import HandS.ExcInit
import HandS.ExcField
import HandS.ExcIs
import HandS.SortInts
import HandS.SortKw
import HandS.Iter
import HandS.Keys
import HandS.Small
import KE.KDictPairs
import HandS.Star
import HandS.Gcd
import HandS.Conv
import KE.KRevSl
import HandS.SetFor
import HandS.Strs
import KE.KExcIs
import HandS.TryMany
import HandS.Ends
import PyProof.ReprBulk
import PySem.Challenge.RW_onescale_k81_what_is_a_book
set_option Elab.async false
set_option linter.all false
-- text PyA
set_option Elab.async false
set_option linter.all false
set_option maxRecDepth 100000
set_option maxHeartbeats 4000000
/-! A small language for the program: its values, its slots and cells, and how they lie in HandS's abstract heap. -/
namespace Py
open PySem PySem.Spec PyProof.Rows L2

/-- values: what never changes as a value; a thing that changes and is shared as the number of its cell -/
inductive MV where
  | non | bl (b : Bool) | int (i : Int) | str (x : Str)
  | tup (xs : List MV) | lst (xs : List MV) | dk (kvs : List (Key × MV)) | dt (kvs : List (List Key × MV)) | ref (n : Nat)
  /-- the script: a list that nobody may change -/
  | scr (xs : List MV)
/-- what stands in a thing that changes -/
inductive Cn where
  | l (xs : List MV) | k (kvs : List (Key × MV)) | t (kvs : List (List Key × MV))
def Cn.mv : Cn → MV
  | .l xs => .lst xs
  | .k kvs => .dk kvs
  | .t kvs => .dt kvs
/-- a slot: a value, or a thing that this slot alone has -/
inductive Slot where
  | v (x : MV) | o (c : Cn)
structure S where
  env : List (Option Slot)
  mh : Option (List Cn)

/-- how a run ends -/
inductive R (α : Type) where
  | ok (a : α) (s : S)
  | ex (c : Nat) (vs : List MV) (s : S)
  | no
abbrev M (α : Type) := S → R α
def M.ret {α : Type} (a : α) : M α := fun s => .ok a s
def M.bnd {α β : Type} (x : M α) (f : α → M β) : M β := fun s => match x s with
  | .ok a s' => f a s'
  | .ex c vs s' => .ex c vs s'
  | .no => .no
instance : Monad M where
  pure := M.ret
  bind := M.bnd
theorem bnd_eq {α β : Type} (x : M α) (f : α → M β) (s : S) : (x >>= f) s = match x s with
  | .ok a s' => f a s'
  | .ex c vs s' => .ex c vs s'
  | .no => .no := rfl
theorem ret_eq {α : Type} (a : α) (s : S) : (pure a : M α) s = .ok a s := rfl
def fail {α : Type} : M α := fun _ => .no
def lift? {α : Type} : Option α → M α
  | some a => pure a
  | none => fail

/-! ### how values lie -/
/-- F: places of others' things that change; ρ: the cells' places (they may change if live), ω: the places of things that slots alone have -/
structure Pl where
  K : PySem.W.Frag
  F : Addr → Prop
  live : Bool
  ρ : List Addr
  ω : List Addr
/-- at a stands u, for good -/
def Im (p : Pl) (H : Hp) (a : Addr) (u : HO) : Prop := H a = some u ∧ a ∉ p.ρ ∧ a ∉ p.ω ∧ ¬ p.F a
mutual
def RV (p : Pl) (H : Hp) : MV → V → Prop
  | .non, v => v = .non
  | .bl b, v => v = .bl b
  | .int i, v => v = .int i
  | .str x, v => v = .str x
  | .tup xs, v => ∃ a vs, v = .ref a ∧ H a = some (.tup vs) ∧ RVs p H xs vs
  | .lst xs, v => ∃ a vs, v = .ref a ∧ Im p H a (.lst vs) ∧ RVs p H xs vs
  | .scr xs, v => ∃ a vs, v = .ref a ∧ ((∃ o, H a = some (.frz o (.lst vs))) ∨ ∀ G, SqL p.K G a vs) ∧ RVs p H xs vs
  | .dk kvs, v => ∃ a vs, v = .ref a ∧ Im p H a (.dK vs) ∧ RKs p H kvs vs
  | .dt kvs, v => ∃ a vs, v = .ref a ∧ Im p H a (.dT vs) ∧ RTs p H kvs vs
  | .ref n, v => ∃ a, v = .ref a ∧ p.ρ[n]? = some a
def RVs (p : Pl) (H : Hp) : List MV → List V → Prop
  | [], vs => vs = []
  | x :: xs, vs => ∃ v r, vs = v :: r ∧ RV p H x v ∧ RVs p H xs r
def RKs (p : Pl) (H : Hp) : List (Key × MV) → List (Key × V) → Prop
  | [], vs => vs = []
  | (k, x) :: xs, vs => ∃ v r, vs = (k, v) :: r ∧ RV p H x v ∧ RKs p H xs r
def RTs (p : Pl) (H : Hp) : List (List Key × MV) → List (List Key × V) → Prop
  | [], vs => vs = []
  | (k, x) :: xs, vs => ∃ v r, vs = (k, v) :: r ∧ RV p H x v ∧ RTs p H xs r
end
def RC (p : Pl) (H : Hp) : Cn → HO → Prop
  | .l xs, o => ∃ vs, o = .lst vs ∧ RVs p H xs vs
  | .k kvs, o => ∃ vs, o = .dK vs ∧ RKs p H kvs vs
  | .t kvs, o => ∃ vs, o = .dT vs ∧ RTs p H kvs vs
def isMut : HO → Bool
  | .lst _ | .dK _ | .dT _ => true
  | _ => false
/-- from H to H': what may not change stays; the cells' row grows by free places -/
structure Stp (p : Pl) (H : Hp) (p' : Pl) (H' : Hp) : Prop where
  K : p'.K = p.K
  F : p'.F = p.F
  live : p'.live = p.live
  keep : ∀ a o, H a = some o → (p.live = true → a ∉ p.ρ) → a ∉ p.ω → H' a = some o
  grow : ∃ l, p'.ρ = p.ρ ++ l ∧ (∀ a ∈ l, H a = none) ∧ (p.live = false → l = [])
  own : ∀ a ∈ p'.ω, a ∈ p.ω ∨ H a = none
  lasts : ∀ a, H a ≠ none → H' a ≠ none
/-- the cells lie in the abstract heap, and so does what slots have -/
structure HR (p : Pl) (H : Hp) (mh : Option (List Cn)) : Prop where
  live : p.live = mh.isSome
  len : ∀ l, mh = some l → p.ρ.length = l.length
  nd : p.ρ.Nodup
  at_ : ∀ (l : List Cn) (i : Nat) (a : Addr) (c : Cn), mh = some l → p.ρ[i]? = some a → l[i]? = some c → ∃ u, H a = some u ∧ RC p H c u
  mu : ∀ a, a ∈ p.ρ ∨ a ∈ p.ω ∨ p.F a → ∃ u, H a = some u ∧ isMut u = true
  ap : ∀ a, p.F a → a ∉ p.ρ ∧ a ∉ p.ω
  ap2 : ∀ a ∈ p.ω, a ∉ p.ρ
structure Sit (p : Pl) (s : S) (σ : L2.St) (H : Hp) : Prop where
  hr : HR p H s.mh
  len : σ.length = s.env.length
  var : ∀ (i : Nat) (x : MV), s.env[i]? = some (some (.v x)) → ∃ v, σ[i]? = some (some v) ∧ RV p H x v
  own : ∀ (i : Nat) (c : Cn), s.env[i]? = some (some (.o c)) → ∃ a u, σ[i]? = some (some (.ref a)) ∧ a ∈ p.ω ∧ H a = some u ∧ RC p H c u
  ne : ∀ (i j : Nat) (c d : Cn) (a : Addr), s.env[i]? = some (some (.o c)) → s.env[j]? = some (some (.o d)) → σ[i]? = some (some (.ref a)) → σ[j]? = some (some (.ref a)) → i = j

theorem Stp.refl (p : Pl) (H : Hp) : Stp p H p H := ⟨rfl, rfl, rfl, fun _ _ h _ _ => h, ⟨[], by simp, by simp, fun _ => rfl⟩, fun _ h => .inl h, fun _ h => h⟩
theorem free_of {H H' : Hp} (l : ∀ a, H a ≠ none → H' a ≠ none) {a : Addr} (h : H' a = none) : H a = none := by
  cases q : H a with
  | none => rfl
  | some o => exact absurd h (l a (by rw [q]; simp))
theorem Stp.trans {p p1 p2 : Pl} {H H1 H2 : Hp} (a : Stp p H p1 H1) (b : Stp p1 H1 p2 H2) : Stp p H p2 H2 := by
  obtain ⟨l, e, f, g⟩ := a.grow
  obtain ⟨m, e2, f2, g2⟩ := b.grow
  refine ⟨b.K.trans a.K, b.F.trans a.F, b.live.trans a.live, fun x o h n n2 => ?_, ⟨l ++ m, by rw [e2, e, List.append_assoc], fun x hx => ?_, fun hl => by rw [g hl, g2 (by rw [a.live]; exact hl)]; rfl⟩, fun x hx => ?_, fun x h => b.lasts x (a.lasts x h)⟩
  · refine b.keep x o (a.keep x o h n n2) (fun hl => ?_) fun hm => ?_
    · rw [e]
      intro hm
      rcases List.mem_append.mp hm with hm | hm
      · exact n (by rw [← a.live]; exact hl) hm
      · rw [f x hm] at h; cases h
    · rcases a.own x hm with hm | hm
      · exact n2 hm
      · rw [hm] at h; cases h
  · rcases List.mem_append.mp hx with hx | hx
    · exact f x hx
    · exact free_of a.lasts (f2 x hx)
  · rcases b.own x hx with hx | hx
    · exact a.own x hx
    · exact .inr (free_of a.lasts hx)
/-- a new thing laid -/
theorem Stp.new {p : Pl} {H : Hp} {a : Addr} {o : HO} (h : H a = none) : Stp p H p (upd H a o) :=
  ⟨rfl, rfl, rfl, fun x u e _ _ => by rw [upd_ne (ne_of_none e h)]; exact e, ⟨[], by simp, by simp, fun _ => rfl⟩, fun _ h => .inl h, fun x e => by
    by_cases q : x = a
    · subst q; rw [upd_same]; simp
    · rw [upd_ne q]; exact e⟩

section
variable {p p' : Pl} {H H' : Hp} {mh : Option (List Cn)}
theorem rd_mut {a : Addr} {u w : HO} (h : Rd H a u) (k : H a = some w) (m : isMut w = true) : w = u := by
  rcases h with h | ⟨o, h⟩
  · rw [h] at k; cases k; rfl
  · rw [h] at k; cases k; cases m
theorem Stp.notNew (st : Stp p H p' H') {a : Addr} (h : H a ≠ none) (n1 : a ∉ p.ρ) (n2 : a ∉ p.ω) : a ∉ p'.ρ ∧ a ∉ p'.ω := by
  obtain ⟨l, e, f, _⟩ := st.grow
  refine ⟨?_, fun hm => ?_⟩
  · rw [e]
    intro hm
    rcases List.mem_append.mp hm with hm | hm
    · exact n1 hm
    · exact h (f a hm)
  · rcases st.own a hm with hm | hm
    · exact n2 hm
    · exact h hm
def MuOk (p : Pl) (H : Hp) : Prop := ∀ a, a ∈ p.ρ ∨ a ∈ p.ω → ∃ u, H a = some u ∧ isMut u = true
theorem HR.muOk (hr : HR p H mh) : MuOk p H := fun a h => hr.mu a (h.elim .inl fun h => .inr (.inl h))
theorem sqt_keep (hr : MuOk p H) (st : Stp p H p' H') {a : Addr} {xs : List V} (h : SqT p.K H a xs) : SqT p'.K H' a xs := by
  rw [st.K]
  rcases h with h | h
  · have nm : a ∉ p.ρ ∧ a ∉ p.ω := by
      refine ⟨fun hm => ?_, fun hm => ?_⟩
      · obtain ⟨u, hu, mu⟩ := hr a (.inl hm)
        have := rd_mut h hu mu
        subst this; cases mu
      · obtain ⟨u, hu, mu⟩ := hr a (.inr hm)
        have := rd_mut h hu mu
        subst this; cases mu
    rcases h with h | ⟨o, h⟩
    · exact .inl (.inl (st.keep a _ h (fun _ => nm.1) nm.2))
    · exact .inl (.inr ⟨o, st.keep a _ h (fun _ => nm.1) nm.2⟩)
  · exact .inr h
theorem tup_keep (hr : MuOk p H) (st : Stp p H p' H') {a : Addr} {xs : List V} (h : H a = some (.tup xs)) : H' a = some (.tup xs) := by
  have nm : a ∉ p.ρ ∧ a ∉ p.ω := by
    refine ⟨fun hm => ?_, fun hm => ?_⟩
    · obtain ⟨u, hu, mu⟩ := hr a (.inl hm)
      rw [h] at hu; cases hu; cases mu
    · obtain ⟨u, hu, mu⟩ := hr a (.inr hm)
      rw [h] at hu; cases hu; cases mu
  exact st.keep a _ h (fun _ => nm.1) nm.2
theorem Im.keep (st : Stp p H p' H') {a : Addr} {u : HO} (h : Im p H a u) : Im p' H' a u := by
  obtain ⟨rd, n1, n2, n3⟩ := h
  have hn : H a ≠ none := by rw [rd]; simp
  obtain ⟨m1, m2⟩ := st.notNew hn n1 n2
  exact ⟨st.keep a _ rd (fun _ => n1) n2, m1, m2, by rw [st.F]; exact n3⟩
mutual
theorem RV.keepM (hr : MuOk p H) (st : Stp p H p' H') : ∀ (x : MV) (v : V), RV p H x v → RV p' H' x v
  | .non, v, h => by simpa only [RV] using h
  | .bl b, v, h => by simpa only [RV] using h
  | .int i, v, h => by simpa only [RV] using h
  | .str z, v, h => by simpa only [RV] using h
  | .tup xs, v, h => by
    simp only [RV] at h ⊢
    obtain ⟨a, vs, e, sq, r⟩ := h
    exact ⟨a, vs, e, tup_keep hr st sq, RVs.keepM hr st xs vs r⟩
  | .lst xs, v, h => by
    simp only [RV] at h ⊢
    obtain ⟨a, vs, e, sq, r⟩ := h
    exact ⟨a, vs, e, sq.keep st, RVs.keepM hr st xs vs r⟩
  | .scr xs, v, h => by
    simp only [RV] at h ⊢
    obtain ⟨a, vs, e, sq, r⟩ := h
    refine ⟨a, vs, e, ?_, RVs.keepM hr st xs vs r⟩
    rcases sq with ⟨o, sq⟩ | sq
    · refine .inl ⟨o, st.keep a _ sq (fun _ hm => ?_) fun hm => ?_⟩
      · obtain ⟨u, hu, mu⟩ := hr a (.inl hm)
        rw [sq] at hu; cases hu; cases mu
      · obtain ⟨u, hu, mu⟩ := hr a (.inr hm)
        rw [sq] at hu; cases hu; cases mu
    · exact .inr (by rw [st.K]; exact sq)
  | .dk kvs, v, h => by
    simp only [RV] at h ⊢
    obtain ⟨a, vs, e, im, r⟩ := h
    exact ⟨a, vs, e, im.keep st, RKs.keepM hr st kvs vs r⟩
  | .dt kvs, v, h => by
    simp only [RV] at h ⊢
    obtain ⟨a, vs, e, im, r⟩ := h
    exact ⟨a, vs, e, im.keep st, RTs.keepM hr st kvs vs r⟩
  | .ref n, v, h => by
    simp only [RV] at h ⊢
    obtain ⟨a, e, g⟩ := h
    obtain ⟨l, el, _, _⟩ := st.grow
    refine ⟨a, e, ?_⟩
    rw [el, List.getElem?_append_left (List.getElem?_eq_some_iff.mp g).1]
    exact g
theorem RVs.keepM (hr : MuOk p H) (st : Stp p H p' H') : ∀ (xs : List MV) (vs : List V), RVs p H xs vs → RVs p' H' xs vs
  | [], vs, h => by simpa only [RVs] using h
  | x :: xs, vs, h => by
    simp only [RVs] at h ⊢
    obtain ⟨v, r, e, h1, h2⟩ := h
    exact ⟨v, r, e, RV.keepM hr st x v h1, RVs.keepM hr st xs r h2⟩
theorem RKs.keepM (hr : MuOk p H) (st : Stp p H p' H') : ∀ (xs : List (Key × MV)) (vs : List (Key × V)), RKs p H xs vs → RKs p' H' xs vs
  | [], vs, h => by simpa only [RKs] using h
  | (k, x) :: xs, vs, h => by
    simp only [RKs] at h ⊢
    obtain ⟨v, r, e, h1, h2⟩ := h
    exact ⟨v, r, e, RV.keepM hr st x v h1, RKs.keepM hr st xs r h2⟩
theorem RTs.keepM (hr : MuOk p H) (st : Stp p H p' H') : ∀ (xs : List (List Key × MV)) (vs : List (List Key × V)), RTs p H xs vs → RTs p' H' xs vs
  | [], vs, h => by simpa only [RTs] using h
  | (k, x) :: xs, vs, h => by
    simp only [RTs] at h ⊢
    obtain ⟨v, r, e, h1, h2⟩ := h
    exact ⟨v, r, e, RV.keepM hr st x v h1, RTs.keepM hr st xs r h2⟩
end
theorem RC.keepM (hr : MuOk p H) (st : Stp p H p' H') {c : Cn} {u : HO} (h : RC p H c u) : RC p' H' c u := by
  cases c with
  | l xs => obtain ⟨vs, e, r⟩ := h; exact ⟨vs, e, RVs.keepM hr st xs vs r⟩
  | k kvs => obtain ⟨vs, e, r⟩ := h; exact ⟨vs, e, RKs.keepM hr st kvs vs r⟩
  | t kvs => obtain ⟨vs, e, r⟩ := h; exact ⟨vs, e, RTs.keepM hr st kvs vs r⟩
theorem RV.keep (hr : HR p H mh) (st : Stp p H p' H') (x : MV) (v : V) (h : RV p H x v) : RV p' H' x v := RV.keepM hr.muOk st x v h
theorem RVs.keep (hr : HR p H mh) (st : Stp p H p' H') (x : List MV) (v : List V) (h : RVs p H x v) : RVs p' H' x v := RVs.keepM hr.muOk st x v h
theorem RKs.keep (hr : HR p H mh) (st : Stp p H p' H') (x : List (Key × MV)) (v : List (Key × V)) (h : RKs p H x v) : RKs p' H' x v := RKs.keepM hr.muOk st x v h
theorem RTs.keep (hr : HR p H mh) (st : Stp p H p' H') (x : List (List Key × MV)) (v : List (List Key × V)) (h : RTs p H x v) : RTs p' H' x v := RTs.keepM hr.muOk st x v h
theorem RC.keep (hr : HR p H mh) (st : Stp p H p' H') {c : Cn} {u : HO} (h : RC p H c u) : RC p' H' c u := RC.keepM hr.muOk st h
theorem RC.isMut {c : Cn} {u : HO} (h : RC p H c u) : isMut u = true := by
  cases c with
  | l xs => obtain ⟨vs, rfl, r⟩ := h; rfl
  | k kvs => obtain ⟨vs, rfl, r⟩ := h; rfl
  | t kvs => obtain ⟨vs, rfl, r⟩ := h; rfl
end

/-! ### rows of values -/
section
variable {p : Pl} {H : Hp}
theorem RVs.nil : RVs p H [] [] := by simp [RVs]
theorem RVs.cons {x : MV} {v : V} {xs : List MV} {vs : List V} (h : RV p H x v) (t : RVs p H xs vs) : RVs p H (x :: xs) (v :: vs) := by
  simp only [RVs]; exact ⟨v, vs, rfl, h, t⟩
theorem RVs.len : ∀ {xs : List MV} {vs : List V}, RVs p H xs vs → vs.length = xs.length
  | [], vs, h => by simp only [RVs] at h; subst h; rfl
  | x :: xs, vs, h => by
    simp only [RVs] at h
    obtain ⟨v, r, e, _, h2⟩ := h
    subst e
    simp [RVs.len h2]
theorem RVs.get : ∀ {xs : List MV} {vs : List V} {i : Nat} {v : V}, RVs p H xs vs → vs[i]? = some v → ∃ x, xs[i]? = some x ∧ RV p H x v
  | [], vs, i, v, h, e => by simp only [RVs] at h; subst h; simp at e
  | x :: xs, vs, i, v, h, e => by
    simp only [RVs] at h
    obtain ⟨w, r, rfl, h1, h2⟩ := h
    cases i with
    | zero => simp at e; subst e; exact ⟨x, by simp, h1⟩
    | succ i => simpa using RVs.get (i := i) h2 (by simpa using e)
theorem RVs.get' : ∀ {xs : List MV} {vs : List V} {i : Nat} {x : MV}, RVs p H xs vs → xs[i]? = some x → ∃ v, vs[i]? = some v ∧ RV p H x v
  | [], vs, i, v, h, e => by simp at e
  | x :: xs, vs, i, v, h, e => by
    simp only [RVs] at h
    obtain ⟨w, r, rfl, h1, h2⟩ := h
    cases i with
    | zero => simp at e; subst e; exact ⟨w, by simp, h1⟩
    | succ i => simpa using RVs.get' (i := i) h2 (by simpa using e)
theorem RVs.app : ∀ {xs ys : List MV} {vs ws : List V}, RVs p H xs vs → RVs p H ys ws → RVs p H (xs ++ ys) (vs ++ ws)
  | [], ys, vs, ws, h, k => by simp only [RVs] at h; subst h; simpa using k
  | x :: xs, ys, vs, ws, h, k => by
    simp only [RVs] at h
    obtain ⟨w, r, rfl, h1, h2⟩ := h
    simp only [List.cons_append, RVs]
    exact ⟨w, r ++ ws, rfl, h1, RVs.app h2 k⟩
theorem RVs.one {x : MV} {v : V} (h : RV p H x v) : RVs p H [x] [v] := .cons h .nil
theorem RVs.take : ∀ {xs : List MV} {vs : List V} (n : Nat), RVs p H xs vs → RVs p H (xs.take n) (vs.take n)
  | [], vs, n, h => by simp only [RVs] at h; subst h; simp [RVs]
  | x :: xs, vs, 0, h => by simp [RVs]
  | x :: xs, vs, n + 1, h => by
    simp only [RVs] at h
    obtain ⟨w, r, rfl, h1, h2⟩ := h
    simp only [List.take_succ_cons, RVs]
    exact ⟨w, r.take n, rfl, h1, RVs.take n h2⟩
theorem RVs.drop : ∀ {xs : List MV} {vs : List V} (n : Nat), RVs p H xs vs → RVs p H (xs.drop n) (vs.drop n)
  | [], vs, n, h => by simp only [RVs] at h; subst h; simp [RVs]
  | x :: xs, vs, 0, h => h
  | x :: xs, vs, n + 1, h => by
    simp only [RVs] at h
    obtain ⟨w, r, rfl, h1, h2⟩ := h
    simpa using RVs.drop n h2
theorem RVs.set {x : MV} {v : V} (hx : RV p H x v) : ∀ {xs : List MV} {vs : List V} (n : Nat), RVs p H xs vs → RVs p H (xs.set n x) (vs.set n v)
  | [], vs, n, h => by simp only [RVs] at h; subst h; simp [RVs]
  | y :: xs, vs, 0, h => by
    simp only [RVs] at h
    obtain ⟨w, r, rfl, h1, h2⟩ := h
    simp only [List.set_cons_zero, RVs]
    exact ⟨v, r, rfl, hx, h2⟩
  | y :: xs, vs, n + 1, h => by
    simp only [RVs] at h
    obtain ⟨w, r, rfl, h1, h2⟩ := h
    simp only [List.set_cons_succ, RVs]
    exact ⟨w, r.set n v, rfl, h1, RVs.set hx n h2⟩
theorem RVs.rev : ∀ {xs : List MV} {vs : List V}, RVs p H xs vs → RVs p H xs.reverse vs.reverse
  | [], vs, h => by simp only [RVs] at h; subst h; simp [RVs]
  | y :: xs, vs, h => by
    simp only [RVs] at h
    obtain ⟨w, r, rfl, h1, h2⟩ := h
    simp only [List.reverse_cons]
    exact RVs.app (RVs.rev h2) (RVs.one h1)
theorem RVs.ints (ns : List Int) : RVs p H (ns.map .int) (ns.map V.int) := by
  induction ns with
  | nil => exact .nil
  | cons n r ih => exact .cons (by simp [RV]) ih
end

/-! ### how a run of the small language lies in the readings -/
/-- an exception: how its class and its fields lie -/
abbrev XV := Pl → Hp → Nat → List MV → Value → Option Addr → Prop
/-- the result's relation r; how the run ends, told by the abstract heap and the places -/
def Out {α β : Type} (r : Pl → Hp → α → β → Prop) (xv : XV) (W : WX) (p : Pl) (H : Hp) (σ : L2.St) (Q : β → Hp → Prop) : R α → Prop
  | .ok a s => ∀ b p' H', Stp p H p' H' → Sit p' s σ H' → r p' H' a b → Q b H'
  | .ex c vs s => ∀ cls d p' H', Stp p H p' H' → Sit p' s σ H' → xv p' H' c vs cls d → W cls d σ H'
  | .no => False
/-- a run of m as a reading -/
def lift {α β : Type} (r : Pl → Hp → α → β → Prop) (K : PySem.W.Frag) (xv : XV) (W : WX) (m : M α) : L2.St → Hp → (β → Hp → Prop) → Prop :=
  fun σ H Q => ∃ p s, p.K = K ∧ Sit p s σ H ∧ Out r xv W p H σ Q (m s)
section
variable {α β α' β' : Type} {r : Pl → Hp → α → β → Prop} {r' : Pl → Hp → α' → β' → Prop} {xv : XV} {W : WX} {p p' : Pl} {H H' : Hp} {σ : L2.St}
theorem Out.mono {Q : β → Hp → Prop} {x : R α} (st : Stp p H p' H') (o : Out r xv W p H σ Q x) : Out r xv W p' H' σ Q x := by
  cases x with
  | ok x mh => exact fun v p2 H2 st2 hr rv => o v p2 H2 (st.trans st2) hr rv
  | ex c vs mh => exact fun cls d p2 H2 st2 hr x => o cls d p2 H2 (st.trans st2) hr x
  | no => exact o
/-- the first step of a run: the reading of the first, its end handed on -/
theorem Out.bnd {Q : β → Hp → Prop} {Q1 : β' → Hp → Prop} {ma : M α'} {k : α' → M α} {s : S} (o : Out r xv W p H σ Q ((ma >>= k) s))
    (h : ∀ x s' v p' H', ma s = .ok x s' → Stp p H p' H' → Sit p' s' σ H' → r' p' H' x v → Out r xv W p' H' σ Q (k x s') → Q1 v H') : Out r' xv W p H σ Q1 (ma s) := by
  rw [bnd_eq] at o
  cases e : ma s with
  | ok x s' =>
    rw [e] at o
    exact fun v p' H' st si rv => h x s' v p' H' e st si rv (Out.mono st o)
  | ex c vs s' => rw [e] at o; exact o
  | no => rw [e] at o; exact o
end
theorem lift.imp {α β : Type} {r : Pl → Hp → α → β → Prop} {K : PySem.W.Frag} {xv : XV} {W : WX} {m : M α} {σ : L2.St} {H : Hp} {Q Q' : β → Hp → Prop} (h : lift r K xv W m σ H Q) (i : ∀ b G, Q b G → Q' b G) : lift r K xv W m σ H Q' := by
  obtain ⟨p, s, hK, S, o⟩ := h
  refine ⟨p, s, hK, S, ?_⟩
  cases e : m s with
  | ok x s' => rw [e] at o; exact fun v p2 H2 st si rv => i _ _ (o v p2 H2 st si rv)
  | ex c vs s' => rw [e] at o; exact o
  | no => rw [e] at o; exact o
abbrev rE : Pl → Hp → MV → V → Prop := RV
abbrev rA : Pl → Hp → List MV → List V → Prop := RVs
abbrev rB : Pl → Hp → Bool → Bool → Prop := fun _ _ a b => a = b
end Py

-- text PyB
set_option Elab.async false
set_option linter.all false
set_option maxRecDepth 100000
set_option maxHeartbeats 4000000
namespace Py
open PySem PySem.Spec PyProof.Rows L2

/-! ### operations by values -/
mutual
/-- as the library's data (no dicts) -/
def MV.toD : MV → Option PyData
  | .non => some .none
  | .bl b => some (.bool b)
  | .int i => some (.int i)
  | .str x => some (.str x)
  | .tup xs => (toDs xs).map .tuple
  | .lst xs => (toDs xs).map .list
  | .scr xs => (toDs xs).map .list
  | .dk _ => none
  | .dt _ => none
  | .ref _ => none
def toDs : List MV → Option (List PyData)
  | [] => some []
  | x :: xs => match x.toD, toDs xs with
    | some d, some ds => some (d :: ds)
    | _, _ => none
end
/-- a dict as repr shows it: empty, or one int at an int -/
def dkR : List (Key × MV) → Option PyData
  | [] => some (.dict [])
  | [(.inl i, .int j)] => some (.dict [(.int i, .int j)])
  | _ => none
mutual
/-- as what repr shows: such dicts too -/
def MV.toR : MV → Option PyData
  | .non => some .none
  | .bl b => some (.bool b)
  | .int i => some (.int i)
  | .str x => some (.str x)
  | .tup xs => (toRs xs).map .tuple
  | .lst xs => (toRs xs).map .list
  | .scr xs => (toRs xs).map .list
  | .dk kvs => dkR kvs
  | .dt _ => none
  | .ref _ => none
def toRs : List MV → Option (List PyData)
  | [] => some []
  | x :: xs => match x.toR, toRs xs with
    | some d, some ds => some (d :: ds)
    | _, _ => none
end
def okD (d : PyData) : Bool := SeqAt.shaped d
def okR (d : PyData) : Bool := d.showable && decide (d.shown.length ≤ sizeLine) && decide (d.depth ≤ 64)
def eqD (x y : MV) : Option Bool := match x.toD, y.toD with
  | some d, some e => if okD d && okD e then some (PyData.eqv d e) else none
  | _, _ => none
def mulOk (i j : Int) : Bool := decide (-(2 ^ 64) < i ∧ i < 2 ^ 64) || decide (-(2 ^ 64) < j ∧ j < 2 ^ 64) || decide (i.natAbs.log2 + j.natAbs.log2 < 1000000)
def powOk (i j : Int) : Bool := decide (0 ≤ j ∧ j ≤ 1000000 ∧ i.natAbs < 2 ^ 64)
def items? : MV → Option (List MV)
  | .tup xs => some xs
  | .lst xs => some xs
  | .scr xs => some xs
  | _ => none
def lstItems? : MV → Option (List MV)
  | .lst xs => some xs
  | .scr xs => some xs
  | _ => none
def ints? : List MV → Option (List Int)
  | [] => some []
  | .int i :: r => (ints? r).map (i :: ·)
  | _ :: _ => none
def isFlat : MV → Bool
  | .non | .bl _ | .int _ | .str _ => true
  | _ => false
def key? : MV → Option Key
  | .int i => some (.inl i)
  | .str x => some (.inr x)
  | _ => none
def keys? : List MV → Option (List Key)
  | [] => some []
  | x :: r => match key? x, keys? r with
    | some k, some ks => some (k :: ks)
    | _, _ => none
/-- a tuple as a key -/
def tkey? : MV → Option (List Key)
  | .tup xs => keys? xs
  | _ => none
def findK {κ : Type} [DecidableEq κ] (k : κ) : List (κ × MV) → Option MV
  | [] => none
  | (j, x) :: r => if j = k then some x else findK k r
inductive COp where | eq | ne | lt | le | gt | ge
inductive Op where
  | add | sub | mul | fdiv | mod | pow | shl | shr | band | bor | bxor | neg
  | cmp (c : COp) | isN | notN | isin | notin | inD | notinD
  | idx | idxD | slcT (l u : Bool) | len | int1 | abs | max2 | min2 | sum | repr | tuple | str1 | isi (t : String) | maxL | minL | get2 | gcd | revT (k : Nat)
/-- a cut's places, a row's cut -/
def cutM (xs : List MV) (lo hi : Option Int) : List MV := (xs.drop (HT.sIx xs.length 0 lo)).take (HT.sIx xs.length xs.length hi - HT.sIx xs.length 0 lo)
def atM (xs : List MV) (i : Int) : Option MV := (ixN xs.length i).bind fun j => xs[j]?
def intD? : MV → Option Int
  | .int i => some i
  | _ => none
def cmpI (c : COp) (i j : Int) : Bool := match c with
  | .eq => decide (i = j)
  | .ne => !decide (i = j)
  | .lt => decide (i < j)
  | .le => decide (i ≤ j)
  | .gt => decide (j < i)
  | .ge => decide (j ≤ i)
def cmpV (c : COp) (x y : MV) : Option MV := match c with
  | .eq => (eqD x y).map .bl
  | .ne => (eqD x y).map fun b => .bl (!b)
  | .lt => match x, y with
    | .int i, .int j => some (.bl (decide (i < j)))
    | .tup xs, .tup ys => match ints? xs, ints? ys with
      | some ns, some ms => some (.bl (HT.lexLt ns ms))
      | _, _ => none
    | .str a, .str b => some (.bl (decide (a.cps.toList < b.cps.toList)))
    | _, _ => none
  | .le => match x, y with
    | .int i, .int j => some (.bl (decide (i ≤ j)))
    | _, _ => none
  | .gt => match x, y with
    | .int i, .int j => some (.bl (decide (j < i)))
    | _, _ => none
  | .ge => match x, y with
    | .int i, .int j => some (.bl (decide (j ≤ i)))
    | _, _ => none
/-- x in a row of data -/
def inS (x y : MV) : Option Bool := match x.toD, items? y with
  | some d, some xs => match toDs xs with
    | some ds => if okD d && okD (.list ds) then some (ds.any fun e => PyData.eqv e d) else none
    | none => none
  | _, _ => none
def inDV (x y : MV) : Option Bool := match y with
  | .dk kvs => (key? x).map fun k => (findK k kvs).isSome
  | _ => none
def idxV (x y : MV) : Option MV := match items? x, y with
  | some xs, .int i => atM xs i
  | _, _ => none
def idxDV (x y : MV) : Option MV := match x with
  | .dk kvs => (key? y).bind fun k => findK k kvs
  | .dt kvs => (tkey? y).bind fun k => findK k kvs
  | _ => none
/-- a value's type's name -/
def tyN : MV → Option String
  | .non => some "NoneType"
  | .bl _ => some "bool"
  | .int _ => some "int"
  | .str _ => some "str"
  | .tup _ => some "tuple"
  | .lst _ => some "list"
  | .scr _ => none
  | .dk _ => some "dict"
  | .dt _ => some "dict"
  | .ref _ => none
def isiV (t : String) (x : MV) : Option MV := (tyN x).bind fun n => (kitB n t).map .bl
def isRef : MV → Bool
  | .ref _ => true
  | _ => false
def one (f : MV → Option MV) : List MV → Option MV
  | [x] => f x
  | _ => none
def two (f : MV → MV → Option MV) : List MV → Option MV
  | [x, y] => f x y
  | _ => none
def three (f : MV → MV → MV → Option MV) : List MV → Option MV
  | [x, y, z] => f x y z
  | _ => none
/-- an operation on ints -/
def arI (f : Int → Int → Option Int) (x y : MV) : Option MV := match x, y with
  | .int i, .int j => (f i j).map .int
  | _, _ => none
/-- a product; a tuple so many times -/
def mulV (x y : MV) : Option MV := match x with
  | .tup xs => match y with
    | .int k => if xs.isEmpty = false ∧ 2 ≤ k ∧ k ≤ 1000 ∧ xs.length ≤ 1000 then some (.tup (List.replicate k.toNat xs).flatten) else none
    | _ => none
  | _ => arI (fun i j => if mulOk i j then some (i * j) else none) x y
theorem mulV_i (i : Int) (y : MV) : mulV (.int i) y = arI (fun i j => if mulOk i j = true then some (i * j) else none) (.int i) y := rfl
theorem mulV_t (xs : List MV) (k : Int) : mulV (.tup xs) (.int k) = if xs.isEmpty = false ∧ 2 ≤ k ∧ k ≤ 1000 ∧ xs.length ≤ 1000 then some (.tup (List.replicate k.toNat xs).flatten) else none := rfl
def addV (x y : MV) : Option MV := match x, y with
  | .int i, .int j => some (.int (i + j))
  | .str a, .str b => if a.length + b.length ≤ sizeLine then some (.str (a ++ b)) else none
  | .tup a, .tup b => if a.length + b.length ≤ sizeLine then some (.tup (a ++ b)) else none
  | _, _ => none
def lenV (x : MV) : Option MV := match x with
  | .str z => if z.length ≤ sizeLine then some (.int z.length) else none
  | .dk kvs => some (.int kvs.length)
  | _ => (items? x).map fun xs => .int xs.length
def intV (x : MV) : Option MV := match x with
  | .int i => some (.int i)
  | .bl b => some (.int (if b then 1 else 0))
  | _ => none
def unI (f : Int → Option MV) (x : MV) : Option MV := match x with
  | .int i => f i
  | _ => none
def isNV (x : MV) : Bool := match x with
  | .non => true
  | _ => false
def reprV (x : MV) : Option MV := match x.toD with
  | some d => if okR d then some (.str d.shown) else none
  | none => x.toR.bind fun d => if okR d then some (.str d.shown) else none
def sumV (x : MV) : Option MV := (items? x).bind fun xs => (ints? xs).map fun ns => .int ns.sum
def foldV (f : Int → Int → Int) (x : MV) : Option MV := (items? x).bind fun xs => (ints? xs).bind fun ns => match ns with
  | [] => none
  | n :: r => some (.int (r.foldl f n))
def strV (x : MV) : Option MV := match x with
  | .int i => if i.natAbs.log2 < 1920 then some (.str (toString i)) else none
  | .str x => some (.str x)
  | _ => none
def slcTV (l u : Bool) (xs : List MV) : Option MV := match l, u, xs with
  | true, false, [.tup xs, .int i] => some (.tup (cutM xs (some i) none))
  | false, true, [.tup xs, .int j] => some (.tup (cutM xs none (some j)))
  | _, _, _ => none
def get2V (x k d : MV) : Option MV := match x with
  | .dk kvs => (key? k).map fun k => (findK k kvs).getD d
  | _ => none
/-- the items from the last but k on, backwards -/
def revTV (k : Nat) (x : MV) : Option MV := match x with
  | .tup xs => some (.tup (xs.take (xs.length - k)).reverse)
  | _ => none
def opV (o : Op) (xs : List MV) : Option MV := match o with
  | .add => two addV xs
  | .sub => two (arI fun i j => some (i - j)) xs
  | .mul => two mulV xs
  | .fdiv => two (arI fun i j => if 0 < j ∧ j.natAbs.log2 < 9000 then some (i / j) else none) xs
  | .mod => two (arI fun i j => if 0 < j then some (i % j) else none) xs
  | .pow => two (arI fun i j => if powOk i j then some (i ^ j.toNat) else none) xs
  | .shl => two (arI fun i j => if powOk i j then some (i * 2 ^ j.toNat) else none) xs
  | .shr => two (arI fun i j => if 0 ≤ j then some (i / 2 ^ j.toNat) else none) xs
  | .band => two (arI fun i j => some (Builtin.bitAnd i j)) xs
  | .bor => two (arI fun i j => some (Builtin.bitOr i j)) xs
  | .bxor => two (arI fun i j => some (Builtin.bitXor i j)) xs
  | .neg => one (unI fun i => some (.int (-i))) xs
  | .cmp c => two (cmpV c) xs
  | .isN => one (fun x => some (.bl (isNV x))) xs
  | .notN => one (fun x => some (.bl (!isNV x))) xs
  | .isin => two (fun x y => (inS x y).map .bl) xs
  | .notin => two (fun x y => (inS x y).map fun b => .bl (!b)) xs
  | .inD => two (fun x y => (inDV x y).map .bl) xs
  | .notinD => two (fun x y => (inDV x y).map fun b => .bl (!b)) xs
  | .idx => two idxV xs
  | .idxD => two idxDV xs
  | .slcT l u => slcTV l u xs
  | .len => one lenV xs
  | .int1 => one intV xs
  | .abs => one (unI fun i => some (.int (if i < 0 then -i else i))) xs
  | .max2 => two (arI fun i j => some (if j > i then j else i)) xs
  | .min2 => two (arI fun i j => some (if j < i then j else i)) xs
  | .sum => one sumV xs
  | .repr => one reprV xs
  | .tuple => one (fun x => (items? x).map .tup) xs
  | .str1 => one strV xs
  | .isi t => one (isiV t) xs
  | .maxL => one (foldV max) xs
  | .minL => one (foldV min) xs
  | .get2 => three get2V xs
  | .gcd => two (arI fun i j => some (Nat.gcd i.natAbs j.natAbs : Nat)) xs
  | .revT k => one (revTV k) xs
/-- operations that make a new thing that may change -/
inductive FOp where
  | cat | rep | slcL (l u : Bool) | list | sorted | revL
def sortI (ns : List Int) : List Int := ns.mergeSort (fun a b => decide (a ≤ b))
def oneF (f : MV → Option Cn) : List MV → Option Cn
  | [x] => f x
  | _ => none
def twoF (f : MV → MV → Option Cn) : List MV → Option Cn
  | [x, y] => f x y
  | _ => none
def catC (x y : MV) : Option Cn := match x, y with
  | .lst a, .lst b => if a.length + b.length ≤ sizeLine then some (.l (a ++ b)) else none
  | _, _ => none
def repC (x y : MV) : Option Cn := match x, y with
  | .lst a, .int k => if -(2 ^ 63) ≤ k ∧ k < 2 ^ 63 ∧ a.length * k.toNat ≤ sizeLine then some (.l (List.replicate k.toNat a).flatten) else none
  | _, _ => none
def loC (x y : MV) : Option Cn := (intD? y).bind fun i => (lstItems? x).map fun xs => .l (cutM xs (some i) none)
def hiC (x y : MV) : Option Cn := (intD? y).bind fun i => (lstItems? x).map fun xs => .l (cutM xs none (some i))
def slcC (l u : Bool) (xs : List MV) : Option Cn := match l, u with
  | true, false => twoF loC xs
  | false, true => twoF hiC xs
  | false, false => oneF (fun x => (lstItems? x).map fun xs => .l (cutM xs none none)) xs
  | true, true => none
/-- data in order -/
def dOf (x : MV) : PyData := x.toD.getD .none
def alikeB (ds : List PyData) : Bool := ds.all fun d => ds.all fun e => PySem.W.alike d e
def tupB : PyData → Bool
  | .tuple (_ :: _) => true
  | _ => false
def noTupB : PyData → Bool
  | .none => false
  | .tuple _ => false
  | _ => true
def sortableB (ds : List PyData) : Bool := ds.all tupB || ds.all noTupB
def okSort (ds : List PyData) : Bool := alikeB ds && sortableB ds && ds.all fun d => decide (d.depth ≤ 60)
def isTupB : PyData → Bool
  | .tuple _ => true
  | _ => false
/-- tuples, () among them -/
def okTup (ds : List PyData) : Bool := alikeB ds && ds.all isTupB && ds.all fun d => decide (d.depth ≤ 60)
def sortD (xs : List MV) : Option (List MV) := (toDs xs).bind fun ds => if okSort ds = true then some (xs.mergeSort (PySem.W.dataLe false dOf)) else if okTup ds = true then some (xs.mergeSort (PySem.W.dataLe false dOf)) else none
/-- by keys -/
def sortK (xs ks : List MV) : Option (List MV) := (toDs ks).bind fun ds => if okSort ds = true then some (((xs.zip ds).mergeSort (PySem.W.dataLe false Prod.snd)).map Prod.fst) else none
def sortC (x : MV) : Option Cn := match x with
  | .tup xs => (sortD xs).map .l
  | _ => (lstItems? x).bind fun xs => match ints? xs with
    | some ns => some (.l ((sortI ns).map .int))
    | none => (sortD xs).map .l
/-- sorted(set(xs)), ints, fewer than 64 -/
def dupI (ns : List Int) : List Int := sortI ns.eraseDups
def dupC (x : MV) : Option Cn := (items? x).bind fun xs => (ints? xs).bind fun ns => if ns.length < 64 then some (.l ((dupI ns).map .int)) else none
def opF (o : FOp) (xs : List MV) : Option Cn := match o with
  | .cat => twoF catC xs
  | .rep => twoF repC xs
  | .slcL l u => slcC l u xs
  | .list => oneF (fun x => (items? x).map .l) xs
  | .sorted => oneF sortC xs
  | .revL => oneF (fun x => (lstItems? x).map fun xs => .l xs.reverse) xs

/-! ### the language -/
def cutT (i j : Int) (x : MV) : Option MV := match x with
  | .tup xs => some (.tup (cutM xs (some i) (some j)))
  | _ => none
def cutL (i j : Int) (x : MV) : Option Cn := (lstItems? x).map fun xs => .l (cutM xs (some i) (some j))

/-- targets: a name's slot, or a row of targets -/
inductive G where
  | nm (i : Nat) | row (g : G) | nil | cons (g : G) (r : G)
mutual
inductive E where
  | var (i : Nat) | esc (i : Nat) | cst (c : MV)
  | op (o : Op) (a : A) | tup (a : A) | im (f : FE) | ce (f : FE)
  | call (f : Nat) (a : A)
  | callK (f : Nat) (a : A) (perm : List Nat)
  | pop (i : Nat) | popc (e : E) | popi (i : Nat) (e : E)
  | app (i : Nat) (e : E) | appc (c : E) (e : E) | ext (i : Nat) (e : E)
  | ite (c a b : E) | and2 (a b : E) | or2 (a b : E) | not (a : E)
  | chain (c d : COp) (x y z : E)
  | tt
  | cut (a : A) (lo hi : E)
  /-- a module's constant; pop(i) of a cell; (*e, ..) -/
  | glob (x : Str) (c : MV) | popci (e k : E) | star (e : E) (a : A)
  /-- tuple(range(e)) -/
  | trg (e : E)
  /-- d.get(k, x): of a value, of a name's own dict -/
  | getd (o k d : E) | geto (i : Nat) (k d : E)
inductive A where
  | nil | cons (e : E) (r : A) | own (i : Nat) (r : A)
inductive FE where
  | disp (a : A) | fop (o : FOp) (a : A)
  | dnk (ks : List Key) (a : A)
  | cut (a : A) (lo hi : E)
  | lc (tg : G) (own : List Nat) (it : I) (c : E) (e : E)
  | lcO (tg : G) (own : List Nat) (i : Nat) (c : E) (e : E)
  /-- list(range(..)); dict(pairs); sorted(set(..)) -/
  | lrg (it : I) | dictP (a : A) | sset (a : A)
  /-- sorted(.., key = def) -/
  | sortK (f : Nat) (a : A)
inductive I where
  | ex (e : E) | rng1 (e : E) | rng2 (a b : E) | rng3 (a b c : E) | enum (e : E) | zip (a b : E) | rev (e : E)
end
inductive Fl where
  | nx | rt (x : MV) | bk | ct
/-- what goes to a name: a value, or a thing of its own -/
inductive EF where
  | e (x : E) | f (x : FE)
mutual
/-- what an except suite works out of the exception: its field, whether it is of a class (ms: the classes of which it is), .. -/
inductive XX where
  | cst (c : MV) | fld (ms : List Nat) | isx (ms : List Nat) | rep (e : XX) | lst (a : XA) | and2 (a b : XX) | or2 (a b : XX) | not (a : XX) | eq (a b : XX) | ne (a b : XX)
inductive XA where
  | nil | cons (e : XX) (r : XA)
end
/-- an except suite: return e; if c: return e, then the rest; it falls through -/
inductive SX where
  | ret (e : XX) | retI (c a b : XX) | ifr (c e : XX) (r : SX) | fall
/-- except C as n: suite; ms: the classes that C catches -/
structure Hd where
  ms : List Nat
  nm : Option Nat
  su : SX
inductive SS where
  /-- raise C(..) -/
  | rsc (c : Nat) (a : A)
  | tr (b : SS) (hs : List Hd)
  | asg (g : G) (e : E) | own (i : Nat) (f : FE) | par (js : List Nat) (vs : List EF)
  | sti (i : Nat) (k v : E) | stc (c k v : E)
  | exp (e : E) | ret (e : E) | retN | ife (c : E) (a b : SS) | fr (g : G) (it : I) (b : SS) | whl (c : E) (b : SS)
  | brk | cont | pass | rse
  | nil | cons (s r : SS)
/-! ### what it does -/
inductive CR where
  | ok (x : MV) (mh : Option (List Cn))
  | ex (c : Nat) (vs : List MV) (mh : Option (List Cn))
  | no
/-- the defs: whether a def sees no cells; how it runs -/
structure Fns where
  iso : Nat → Bool
  run : Nat → List MV → Option (List Cn) → CR
abbrev Src := MV ⊕ Nat
def getV (i : Nat) : M MV := fun s => match s.env[i]? with
  | some (some (.v x)) => .ok x s
  | _ => .no
def getO (i : Nat) : M Cn := fun s => match s.env[i]? with
  | some (some (.o c)) => .ok c s
  | _ => .no
def setSl (i : Nat) (x : Option Slot) : M Unit := fun s => .ok () { s with env := s.env.set i x }
def getC (n : Nat) : M Cn := fun s => match s.mh with
  | some l => match l[n]? with
    | some c => .ok c s
    | none => .no
  | none => .no
def setC (n : Nat) (c : Cn) : M Unit := fun s => match s.mh with
  | some l => .ok () { s with mh := some (l.set n c) }
  | none => .no
def newC (c : Cn) : M MV := fun s => match s.mh with
  | some l => .ok (.ref l.length) { s with mh := some (l ++ [c]) }
  | none => .no
def snap1 : Src → M MV
  | .inl (.ref n) => do let c ← getC n; pure c.mv
  | .inl x => pure x
  | .inr i => do let c ← getO i; pure c.mv
def snap : List Src → M (List MV)
  | [] => pure []
  | z :: r => do let x ← snap1 z; let xs ← snap r; pure (x :: xs)
def vals? : List Src → Option (List MV)
  | [] => some []
  | .inl x :: r => (vals? r).map (x :: ·)
  | .inr _ :: _ => none
def noEx {α : Type} (m : M α) : M α := fun s => match m s with
  | .ok a s' => .ok a s'
  | _ => .no
def truthV : MV → Option Bool
  | .non => some false
  | .bl b => some b
  | .int i => some (i != 0)
  | .str z => if z.length ≤ sizeLine then some (z.length != 0) else none
  | .tup xs => some (!xs.isEmpty)
  | .lst xs => some (!xs.isEmpty)
  | _ => none
def permA (perm : List Nat) (xs : List MV) : Option (List MV) := match perm with
  | [] => some []
  | j :: r => match xs[j]?, permA r xs with
    | some x, some l => some (x :: l)
    | _, _ => none
def callF (D : Fns) (f : Nat) (xs : List MV) : M MV := fun s =>
  if D.iso f then match D.run f xs none with
    | .ok x _ => .ok x s
    | .ex c vs _ => .ex c vs s
    | .no => .no
  else match D.run f xs s.mh with
    | .ok x mh => .ok x { s with mh := mh }
    | .ex c vs mh => .ex c vs { s with mh := mh }
    | .no => .no
mutual
def bindG : G → MV → M Unit
  | .nm i, x => setSl i (some (.v x))
  | .row g, x => match x with
    | .tup xs => bindGs g xs
    | _ => fail
  | .nil, _ => fail
  | .cons _ _, _ => fail
def bindGs : G → List MV → M Unit
  | .nil, xs => match xs with
    | [] => pure ()
    | _ => fail
  | .cons g r, xs => match xs with
    | x :: t => do bindG g x; bindGs r t
    | [] => fail
  | .nm _, _ => fail
  | .row _, _ => fail
end
def wipeE (e : List (Option Slot)) : List Nat → List (Option Slot)
  | [] => e
  | v :: vs => (wipeE e vs).set v none
def valSl : Option (Option Slot) → Option Slot
  | some (some (.v x)) => some (.v x)
  | _ => none
def backE (old : List (Option Slot)) (e : List (Option Slot)) : List Nat → List (Option Slot)
  | [] => e
  | v :: vs => (backE old e vs).set v (valSl old[v]?)
def wipeS (own : List Nat) : M Unit := fun s => .ok () { s with env := wipeE s.env own }
/-- the turns of a comprehension; acc: what is made so far -/
def mapC (own : List Nat) (g : MV → M Unit) (c : M Bool) (e : M MV) : List MV → List MV → M (List MV)
  | [], acc => pure acc
  | x :: r, acc => do
    wipeS own
    g x
    if ← c then do
      let y ← e
      if acc.length < sizeLine then mapC own g c e r (acc ++ [y]) else fail
    else mapC own g c e r acc
/-- a comprehension: its own names' slots are forgotten at each turn, and come back behind it -/
def lcM (own : List Nat) (g : MV → M Unit) (c : M Bool) (e : M MV) (xs : List MV) : M Cn := fun s =>
  match mapC own g c e xs [] s with
  | .ok ys s' => .ok (.l ys) { s' with env := backE s.env s'.env own }
  | _ => .no
/-- a name's own list is walked: meanwhile nobody has it -/
def hidden {α : Type} (i : Nat) (f : List MV → M α) : M α := fun s => match s.env[i]? with
  | some (some (.o (.l xs))) => (match f xs { s with env := s.env.set i none } with
    | .ok d s' => .ok d { s' with env := s'.env.set i (some (.o (.l xs))) }
    | _ => .no)
  | _ => .no
/-- what is walked -/
inductive ItV where
  | seq (x : MV) | up (lo : Int) (n : Nat) | down (hi : Int) (n : Nat) | enum (x : MV) | zip (x y : MV) | rev (x : MV)
def pair (x y : MV) : MV := .tup [x, y]
def itemsOf : ItV → List MV
  | .seq x => (items? x).getD []
  | .up lo n => (List.range n).map fun i => .int (lo + (i : Nat))
  | .down hi n => (List.range n).map fun i => .int (hi + (i : Nat) * (-1))
  | .enum x => ((List.range ((items? x).getD []).length).map fun (i : Nat) => MV.int i).zipWith pair ((items? x).getD [])
  | .zip x y => ((items? x).getD []).zipWith pair ((items? y).getD [])
  | .rev x => ((items? x).getD []).reverse
def isLst : MV → Bool
  | .lst _ => true
  | _ => false
def isTup : MV → Bool
  | .tup _ => true
  | _ => false
def seqI (x : MV) : Option ItV := match items? x with
  | some _ => some (.seq x)
  | none => none
def rng1I (x : MV) : Option ItV := match x with
  | .int j => if -(2 ^ 62) ≤ j ∧ j < 2 ^ 62 then some (.up 0 j.toNat) else none
  | _ => none
def rng2I (x y : MV) : Option ItV := match x, y with
  | .int i, .int j => if (-(2 ^ 62) ≤ i ∧ i < 2 ^ 62) ∧ -(2 ^ 62) ≤ j ∧ j < 2 ^ 62 then some (.up i (j - i).toNat) else none
  | _, _ => none
def rng3I (x y z : MV) : Option ItV := match x, y, z with
  | .int i, .int j, .int c => if ((-(2 ^ 62) ≤ i ∧ i < 2 ^ 62) ∧ -(2 ^ 62) ≤ j ∧ j < 2 ^ 62) ∧ c = -1 then some (.down i (i - j).toNat) else none
  | _, _, _ => none
def enumI (x : MV) : Option ItV := match x with
  | .lst xs => some (.enum (.lst xs))
  | .tup xs => some (.enum (.tup xs))
  | _ => none
def revI (x : MV) : Option ItV := match x with
  | .lst xs => some (.rev (.lst xs))
  | _ => none
def zipI (x y : MV) : Option ItV := if (isLst x && isLst y) || (isTup x && isTup y) then some (.zip x y) else none
def putK {κ : Type} [DecidableEq κ] (k : κ) (x : MV) (kvs : List (κ × MV)) : List (κ × MV) :=
  if (kvs.any fun q => decide (q.1 = k)) = true then kvs.map (fun q => if q.1 = k then (q.1, x) else q) else kvs ++ [(k, x)]
/-- a thing with the item k set -/
def putV (c : Cn) (k x : MV) : Option Cn := match c with
  | .l xs => match k with
    | .int i => (ixN xs.length i).map fun j => .l (xs.set j x)
    | _ => none
  | .k kvs => (key? k).bind fun k => if kvs.length < sizeLine then some (.k (putK k x kvs)) else none
  | .t kvs => (tkey? k).bind fun k => if kvs.length < sizeLine then some (.t (putK k x kvs)) else none
def popV (c : Cn) : Option (MV × Cn) := match c with
  | .l xs => match xs.getLast? with
    | some x => some (x, .l xs.dropLast)
    | none => none
  | _ => none
def popiV (c : Cn) (k : MV) : Option (MV × Cn) := match c, k with
  | .l xs, .int i => (ixN xs.length i).bind fun j => if -(2 ^ 63) ≤ i ∧ i < 2 ^ 63 then (xs[j]?).map fun x => (x, .l (xs.eraseIdx j)) else none
  | _, _ => none
def appV (c : Cn) (x : MV) : Option Cn := match c with
  | .l xs => if xs.length < sizeLine then some (.l (xs ++ [x])) else none
  | _ => none
def extV (c : Cn) (x : MV) : Option Cn := match c, x with
  | .l xs, .lst ys => if xs.length + ys.length ≤ sizeLine then some (.l (xs ++ ys)) else none
  | .l xs, .tup ys => if xs.length + ys.length ≤ sizeLine then some (.l (xs ++ ys)) else none
  | _, _ => none
def cmpB (c : COp) (x y : MV) : Option Bool := match cmpV c x y with
  | some (.bl b) => some b
  | _ => none
def lC : Cn → Option Unit
  | .l _ => some ()
  | _ => none
def refN : MV → Option Nat
  | .ref n => some n
  | _ => none
def dk? : MV → Option (List (Key × MV))
  | .dk kvs => some kvs
  | _ => none
def kC? : Cn → Option (List (Key × MV))
  | .k kvs => some kvs
  | _ => none
def lrgC (v : ItV) : Option Cn := match v with
  | .up lo n => if n ≤ sizeLine then some (.l (itemsOf (.up lo n))) else none
  | _ => none
def trgC (v : ItV) : Option MV := match v with
  | .up lo n => if n ≤ sizeLine then some (.tup (itemsOf (.up lo n))) else none
  | _ => none
def pair? (x : MV) : Option (Key × MV) := match x with
  | .tup [k, v] => (key? k).map fun k => (k, v)
  | _ => none
def pairs? : List MV → Option (List (Key × MV))
  | [] => some []
  | x :: r => match pair? x, pairs? r with
    | some p, some q => some (p :: q)
    | _, _ => none
def pairT? (x : MV) : Option (List Key × MV) := match x with
  | .tup [k, v] => (tkey? k).map fun k => (k, v)
  | _ => none
def pairsT? : List MV → Option (List (List Key × MV))
  | [] => some []
  | x :: r => match pairT? x, pairsT? r with
    | some p, some q => some (p :: q)
    | _, _ => none
def dictC (x : MV) : Option Cn := (lstItems? x).bind fun xs => match pairs? xs with
  | some kvs => some (.k (kvs.foldl (fun d p => putK p.1 p.2 d) []))
  | none => (pairsT? xs).map fun kvs => .t (kvs.foldl (fun d p => putK p.1 p.2 d) [])
/-- a def called with one item after the other -/
def keysM (D : Fns) (f : Nat) : List MV → M (List MV)
  | [] => pure []
  | x :: r => do let k ← callF D f [x]; let ks ← keysM D f r; pure (k :: ks)
def lstOne (xs : List MV) : Option (List MV) := match xs with
  | [x] => lstItems? x
  | _ => none
mutual
def denE (D : Fns) : E → M MV
  | .var i => getV i
  | .esc i => do let c ← getO i; setSl i (some (.v c.mv)); pure c.mv
  | .cst c => pure c
  | .tt => pure (.bl true)
  | .op o a => do let zs ← denA D a; let xs ← snap zs; lift? (opV o xs)
  | .tup a => do let zs ← denA D a; let xs ← lift? (vals? zs); if xs.length ≤ sizeLine then pure (.tup xs) else fail
  | .im f => do let c ← denF D f; pure c.mv
  | .ce f => do let c ← denF D f; newC c
  | .call f a => do let zs ← denA D a; let xs ← lift? (vals? zs); callF D f xs
  | .callK f a perm => do let zs ← denA D a; let xs ← lift? (vals? zs); let ys ← lift? (permA perm xs); callF D f ys
  | .pop i => do let c ← getO i; let q ← lift? (popV c); setSl i (some (.o q.2)); pure q.1
  | .popi i e => do let c₀ ← getO i; let _ ← lift? (lC c₀); let k ← denE D e; let c ← getO i; let q ← lift? (popiV c k); setSl i (some (.o q.2)); pure q.1
  | .popc e => do let x ← denE D e; let n ← lift? (refN x); let c ← getC n; let q ← lift? (popV c); setC n q.2; pure q.1
  | .app i e => do let c₀ ← getO i; let _ ← lift? (lC c₀); let x ← denE D e; let c ← getO i; let d ← lift? (appV c x); setSl i (some (.o d)); pure .non
  | .appc c e => do let r ← denE D c; let n ← lift? (refN r); let c₀ ← getC n; let _ ← lift? (lC c₀); let x ← denE D e; let c ← getC n; let d ← lift? (appV c x); setC n d; pure .non
  | .ext i e => do let c₀ ← getO i; let _ ← lift? (lC c₀); let x ← denE D e; let c ← getO i; let d ← lift? (extV c x); setSl i (some (.o d)); pure .non
  | .ite c a b => do if ← tstE D c then denE D a else denE D b
  | .and2 a b => do match ← denE D a with
    | .bl true => denE D b
    | .bl false => pure (.bl false)
    | _ => fail
  | .or2 a b => do match ← denE D a with
    | .bl true => pure (.bl true)
    | .bl false => denE D b
    | _ => fail
  | .not a => do match ← denE D a with
    | .bl b => pure (.bl (!b))
    | _ => fail
  | .chain c d x y z => do
    let a ← denE D x
    let b ← denE D y
    if ← lift? (cmpB c a b) then do let e ← denE D z; lift? (cmpV d b e) else pure (.bl false)
  | .cut a lo hi => do
    let zs ← denA D a
    let x ← denE D lo
    let i ← lift? (intD? x)
    let y ← denE D hi
    let j ← lift? (intD? y)
    let xs ← snap zs
    lift? (one (cutT i j) xs)
  | .glob _ c => pure c
  | .popci e k => do let x ← denE D e; let n ← lift? (refN x); let c₀ ← getC n; let _ ← lift? (lC c₀); let j ← denE D k; let c ← getC n; let q ← lift? (popiV c j); setC n q.2; pure q.1
  | .getd o k d => do let x ← denE D o; let kvs ← lift? (dk? x); let y ← denE D k; let kk ← lift? (key? y); let z ← denE D d; pure ((findK kk kvs).getD z)
  | .geto i k d => do let c₀ ← getO i; let _ ← lift? (kC? c₀); let y ← denE D k; let kk ← lift? (key? y); let z ← denE D d; let c ← getO i; let kvs ← lift? (kC? c); pure ((findK kk kvs).getD z)
  | .star e a => do let x ← denE D e; let xs ← lift? (items? x); let zs ← denA D a; let ys ← lift? (vals? zs); if xs.length + ys.length ≤ sizeLine then pure (.tup (xs ++ ys)) else fail
  | .trg e => do let x ← denE D e; let v ← lift? (rng1I x); lift? (trgC v)
def tstE (D : Fns) : E → M Bool
  | .not a => do let b ← tstE D a; pure (!b)
  | .and2 a b => do if ← tstE D a then tstE D b else pure false
  | .or2 a b => do if ← tstE D a then pure true else tstE D b
  | .var i => do let x ← getV i; lift? (truthV x)
  | .cst c => lift? (truthV c)
  | .tt => pure true
  | .op o a => do let zs ← denA D a; let xs ← snap zs; let x ← lift? (opV o xs); lift? (truthV x)
  | .call f a => do let zs ← denA D a; let xs ← lift? (vals? zs); let x ← callF D f xs; lift? (truthV x)
  | .callK f a perm => do let zs ← denA D a; let xs ← lift? (vals? zs); let ys ← lift? (permA perm xs); let x ← callF D f ys; lift? (truthV x)
  | .chain c d x y z => do
    let a ← denE D x
    let b ← denE D y
    if ← lift? (cmpB c a b) then do let e ← denE D z; lift? (cmpB d b e) else pure false
  | _ => fail
def denA (D : Fns) : A → M (List Src)
  | .nil => pure []
  | .cons e r => do let x ← denE D e; let xs ← denA D r; pure (.inl x :: xs)
  | .own i r => do let _ ← getO i; let xs ← denA D r; pure (.inr i :: xs)
def denF (D : Fns) : FE → M Cn
  | .disp a => do let zs ← denA D a; let xs ← lift? (vals? zs); if xs.length ≤ sizeLine then pure (.l xs) else fail
  | .fop o a => do let zs ← denA D a; let xs ← snap zs; lift? (opF o xs)
  | .dnk ks a => do let zs ← noEx (denA D a); let xs ← lift? (vals? zs); if ks.length = xs.length ∧ ks.length ≤ 15 then pure (.k ((ks.zip xs).foldl (fun d p => putK p.1 p.2 d) [])) else fail
  | .cut a lo hi => do
    let zs ← denA D a
    let x ← denE D lo
    let i ← lift? (intD? x)
    let y ← denE D hi
    let j ← lift? (intD? y)
    let xs ← snap zs
    lift? (oneF (cutL i j) xs)
  | .lc tg own it c e => do
    let v ← denI D it
    lcM own (bindG tg) (tstE D c) (denE D e) (itemsOf v)
  | .lcO tg own i c e => hidden i (fun xs => lcM own (bindG tg) (tstE D c) (denE D e) xs)
  | .lrg it => do let v ← denI D it; lift? (lrgC v)
  | .dictP a => do let zs ← denA D a; let xs ← snap zs; lift? (oneF dictC xs)
  | .sset a => do let zs ← denA D a; let xs ← snap zs; lift? (oneF dupC xs)
  | .sortK f a => do let zs ← denA D a; let xs ← snap zs; let ys ← lift? (lstOne xs); let ks ← noEx (keysM D f ys); let zs ← lift? (sortK ys ks); pure (.l zs)
def denI (D : Fns) : I → M ItV
  | .ex e => do let x ← denE D e; lift? (seqI x)
  | .rng1 e => do let x ← denE D e; lift? (rng1I x)
  | .rng2 a b => do let x ← denE D a; let y ← denE D b; lift? (rng2I x y)
  | .rng3 a b c => do let x ← denE D a; let y ← denE D b; let z ← denE D c; lift? (rng3I x y z)
  | .enum e => do let x ← denE D e; lift? (enumI x)
  | .zip a b => do let x ← denE D a; let y ← denE D b; lift? (zipI x y)
  | .rev e => do let x ← denE D e; lift? (revI x)
end
def forS (b : MV → M Fl) : List MV → M Fl
  | [] => pure .nx
  | x :: r => do match ← b x with
    | .nx => forS b r
    | .ct => forS b r
    | .bk => pure .nx
    | .rt v => pure (.rt v)
def whlS (c : M Bool) (b : M Fl) : Nat → M Fl
  | 0 => fail
  | n + 1 => do
    if ← c then match ← b with
      | .nx => whlS c b n
      | .ct => whlS c b n
      | .bk => pure .nx
      | .rt v => pure (.rt v)
    else pure .nx
def denEFs (D : Fns) : List EF → M (List Slot)
  | [] => pure []
  | .e x :: r => do let y ← denE D x; let ys ← denEFs D r; pure (.v y :: ys)
  | .f x :: r => do let c ← denF D x; let ys ← denEFs D r; pure (.o c :: ys)
def setSls : List Nat → List Slot → M Unit
  | i :: js, x :: xs => do setSl i (some x); setSls js xs
  | _, _ => pure ()
def fuelW : Nat := 1000000000000
def bl? : MV → Option Bool
  | .bl b => some b
  | _ => none
mutual
/-- c: the exception's class, vs its fields -/
def valX (c : Nat) (vs : List MV) : XX → Option MV
  | .cst v => some v
  | .fld ms => if ms.contains c then vs[0]? else none
  | .isx ms => some (.bl (ms.contains c))
  | .rep e => (valX c vs e).bind reprV
  | .lst a => (valXs c vs a).bind fun xs => if xs.length ≤ sizeLine then some (.lst xs) else none
  | .and2 a b => ((valX c vs a).bind bl?).bind fun t => if t then valX c vs b else some (.bl false)
  | .or2 a b => ((valX c vs a).bind bl?).bind fun t => if t then some (.bl true) else valX c vs b
  | .not a => ((valX c vs a).bind bl?).map fun t => .bl (!t)
  | .eq a b => (valX c vs a).bind fun x => (valX c vs b).bind fun y => cmpV .eq x y
  | .ne a b => (valX c vs a).bind fun x => (valX c vs b).bind fun y => cmpV .ne x y
def valXs (c : Nat) (vs : List MV) : XA → Option (List MV)
  | .nil => some []
  | .cons e r => (valX c vs e).bind fun x => (valXs c vs r).map fun xs => x :: xs
end
def denSX (c : Nat) (vs : List MV) : SX → M Fl
  | .ret e => do let x ← lift? (valX c vs e); pure (.rt x)
  | .retI t a b => do let b ← lift? (((valX c vs t).bind bl?).bind fun t => if t then valX c vs a else valX c vs b); pure (.rt b)
  | .ifr t e r => do let b ← lift? ((valX c vs t).bind bl?); if b then do let y ← lift? (valX c vs e); pure (.rt y) else denSX c vs r
  | .fall => pure .nx
def goneSl (s : S) : Option Nat → S
  | none => s
  | some i => { s with env := s.env.set i none }
/-- the first clause that catches -/
def denHs (c : Nat) (vs : List MV) (s : S) : List Hd → R Fl
  | [] => .ex c vs s
  | h :: r => if h.ms.contains c then denSX c vs h.su (goneSl s h.nm) else denHs c vs s r
def denS (D : Fns) : SS → M Fl
  | .rsc c a => do let zs ← denA D a; let xs ← lift? (vals? zs); fun s => .ex c xs s
  | .tr b hs => fun s => match denS D b s with
    | .ex c vs s' => denHs c vs s' hs
    | .ok f s' => .ok f s'
    | .no => .no
  | .asg g e => do let x ← denE D e; bindG g x; pure .nx
  | .own i f => do let c ← denF D f; setSl i (some (.o c)); pure .nx
  | .par js vs => do let xs ← noEx (denEFs D vs); setSls js xs; pure .nx
  | .sti i k v => do let x ← denE D v; let _ ← getO i; let k ← denE D k; let c ← getO i; let d ← lift? (putV c k x); setSl i (some (.o d)); pure .nx
  | .stc c k v => do let x ← denE D v; let r ← denE D c; let k ← denE D k; let n ← lift? (refN r); let c ← getC n; let d ← lift? (putV c k x); setC n d; pure .nx
  | .exp e => do let _ ← denE D e; pure .nx
  | .ret e => do let x ← denE D e; pure (.rt x)
  | .retN => pure (.rt .non)
  | .ife c a b => do if ← tstE D c then denS D a else denS D b
  | .fr g it b => do let v ← denI D it; forS (fun x => do bindG g x; denS D b) (itemsOf v)
  | .whl c b => whlS (tstE D c) (denS D b) fuelW
  | .brk => pure .bk
  | .cont => pure .ct
  | .pass => pure .nx
  | .rse => fail
  | .nil => pure .nx
  | .cons s r => do match ← denS D s with
    | .nx => denS D r
    | f => pure f
/-- a def: how many parameters, how many slots, its body, whether it sees no cells -/
structure FD where
  np : Nat
  ns : Nat
  body : SS
  iso : Bool
def startE (n : Nat) (xs : List MV) : List (Option Slot) := xs.map (fun x => some (.v x)) ++ List.replicate (n - xs.length) none
def runB (D : Fns) (d : FD) (xs : List MV) (mh : Option (List Cn)) : CR :=
  if xs.length = d.np then match denS D d.body ⟨startE d.ns xs, mh⟩ with
    | .ok (.rt x) s => .ok x s.mh
    | .ok .nx s => .ok .non s.mh
    | .ok _ _ => .no
    | .ex c vs s => .ex c vs s.mh
    | .no => .no
  else .no
def runP (P : List FD) : Nat → Nat → List MV → Option (List Cn) → CR
  | 0, _, _, _ => .no
  | k + 1, f, xs, mh => match P[f]? with
    | some d => runB ⟨fun j => (P[j]?.map (·.iso)).getD false, runP P k⟩ d xs mh
    | none => .no
def isoP (P : List FD) (j : Nat) : Bool := (P[j]?.map (·.iso)).getD false
end Py

-- text PyC
set_option Elab.async false
set_option linter.all false
set_option maxRecDepth 100000
set_option maxHeartbeats 4000000
namespace Py
open PySem PySem.Spec PyProof.Rows L2
section
variable {p p' : Pl} {s : S} {σ : L2.St} {H H' : Hp} {mh : Option (List Cn)}

theorem HR.new {a : Addr} {o : HO} (hr : HR p H mh) (h : H a = none) : HR p (upd H a o) mh := by
  have st : Stp p H p (upd H a o) := Stp.new h
  refine ⟨hr.live, hr.len, hr.nd, fun l i b c e1 e2 e3 => ?_, fun b hb => ?_, hr.ap, hr.ap2⟩
  · obtain ⟨u, hu, rc⟩ := hr.at_ l i b c e1 e2 e3
    exact ⟨u, by rw [upd_ne (ne_of_none hu h)]; exact hu, rc.keep hr st⟩
  · obtain ⟨u, hu, m⟩ := hr.mu b hb
    exact ⟨u, by rw [upd_ne (ne_of_none hu h)]; exact hu, m⟩
theorem Sit.new {a : Addr} {o : HO} (S : Sit p s σ H) (h : H a = none) : Sit p s σ (upd H a o) := by
  have st : Stp p H p (upd H a o) := Stp.new h
  refine ⟨S.hr.new h, S.len, fun i x e => ?_, fun i c e => ?_, S.ne⟩
  · obtain ⟨v, h1, h2⟩ := S.var i x e
    exact ⟨v, h1, h2.keep S.hr st⟩
  · obtain ⟨b, u, h1, h2, h3, h4⟩ := S.own i c e
    exact ⟨b, u, h1, h2, by rw [upd_ne (ne_of_none h3 h)]; exact h3, h4.keep S.hr st⟩
theorem HR.fresh {a : Addr} (hr : HR p H mh) (h : H a = none) : a ∉ p.ρ ∧ a ∉ p.ω ∧ ¬ p.F a := by
  refine ⟨fun m => ?_, fun m => ?_, fun m => ?_⟩
  · obtain ⟨u, hu, _⟩ := hr.mu a (.inl m); rw [h] at hu; cases hu
  · obtain ⟨u, hu, _⟩ := hr.mu a (.inr (.inl m)); rw [h] at hu; cases hu
  · obtain ⟨u, hu, _⟩ := hr.mu a (.inr (.inr m)); rw [h] at hu; cases hu

/-- a value as it is seen now: what changes by what stands in it -/
def RW (p : Pl) (H : Hp) : MV → V → Prop
  | .lst xs, v => ∃ a vs, v = .ref a ∧ H a = some (.lst vs) ∧ RVs p H xs vs
  | .dk kvs, v => ∃ a vs, v = .ref a ∧ H a = some (.dK vs) ∧ RKs p H kvs vs
  | .dt kvs, v => ∃ a vs, v = .ref a ∧ H a = some (.dT vs) ∧ RTs p H kvs vs
  | x, v => RV p H x v
theorem RV.weak {x : MV} {v : V} (h : RV p H x v) : RW p H x v := by
  cases x with
  | lst xs => simp only [RV] at h; obtain ⟨a, vs, e, im, r⟩ := h; exact ⟨a, vs, e, im.1, r⟩
  | dk kvs => simp only [RV] at h; obtain ⟨a, vs, e, im, r⟩ := h; exact ⟨a, vs, e, im.1, r⟩
  | dt kvs => simp only [RV] at h; obtain ⟨a, vs, e, im, r⟩ := h; exact ⟨a, vs, e, im.1, r⟩
  | _ => exact h
def RWs (p : Pl) (H : Hp) : List MV → List V → Prop
  | [], vs => vs = []
  | x :: xs, vs => ∃ v r, vs = v :: r ∧ RW p H x v ∧ RWs p H xs r
theorem RC.mv {c : Cn} {u : HO} {a : Addr} (h : RC p H c u) (e : H a = some u) : RW p H c.mv (.ref a) := by
  cases c with
  | l xs => obtain ⟨vs, rfl, r⟩ := h; exact ⟨a, vs, rfl, e, r⟩
  | k kvs => obtain ⟨vs, rfl, r⟩ := h; exact ⟨a, vs, rfl, e, r⟩
  | t kvs => obtain ⟨vs, rfl, r⟩ := h; exact ⟨a, vs, rfl, e, r⟩
/-- a source -/
def RS (σ : L2.St) (p : Pl) (H : Hp) : Src → V → Prop
  | .inl x, v => RV p H x v
  | .inr i, v => σ[i]? = some (some v)
def RSs (σ : L2.St) (p : Pl) (H : Hp) : List Src → List V → Prop
  | [], vs => vs = []
  | x :: xs, vs => ∃ v r, vs = v :: r ∧ RS σ p H x v ∧ RSs σ p H xs r
theorem RS.keep (hr : HR p H mh) (st : Stp p H p' H') {z : Src} {v : V} (h : RS σ p H z v) : RS σ p' H' z v := by
  cases z with
  | inl x => exact RV.keep hr st x v h
  | inr i => exact h
theorem RSs.keep (hr : HR p H mh) (st : Stp p H p' H') : ∀ {z : List Src} {v : List V}, RSs σ p H z v → RSs σ p' H' z v
  | [], v, h => h
  | z :: zs, v, h => by
    obtain ⟨w, r, e, h1, h2⟩ := h
    exact ⟨w, r, e, h1.keep hr st, h2.keep hr st⟩
theorem snap1_ok {z : Src} {x : MV} {s' : S} {v : V} (S : Sit p s σ H) (h : RS σ p H z v) (e : snap1 z s = .ok x s') : s' = s ∧ RW p H x v := by
  have fin : ∀ {y : MV}, RV p H y v → (pure y : M MV) s = .ok x s' → s' = s ∧ RW p H x v := fun {y} hy e => by
    rw [ret_eq] at e
    injection e with e1 e2
    subst e1
    exact ⟨e2.symm, hy.weak⟩
  cases z with
  | inr i =>
    simp only [snap1, bnd_eq, getO] at e
    split at e
    · rename_i c s1 he
      split at he
      · rename_i c' hc
        injection he with he1 he2
        subst he1; subst he2
        rw [ret_eq] at e
        injection e with e1 e2
        subst e1
        obtain ⟨a, u, h1, h2, h3, h4⟩ := S.own i _ hc
        have hv : σ[i]? = some (some v) := h
        rw [h1] at hv
        have hv2 : V.ref a = v := Option.some.inj (Option.some.inj hv)
        subst hv2
        exact ⟨e2.symm, h4.mv h3⟩
      · cases he
    · cases e
    · cases e
  | inl y =>
    have h' : RV p H y v := h
    cases y with
    | ref n =>
      simp only [snap1, bnd_eq, getC] at e
      split at e
      · rename_i c s1 he
        split at he
        · rename_i l hl
          split at he
          · rename_i c' hc
            injection he with he1 he2
            subst he1; subst he2
            rw [ret_eq] at e
            injection e with e1 e2
            subst e1
            simp only [RV] at h'
            obtain ⟨a, rfl, ha⟩ := h'
            obtain ⟨u, hu, rc⟩ := S.hr.at_ l n a _ hl ha hc
            exact ⟨e2.symm, rc.mv hu⟩
          · cases he
        · cases he
      · cases e
      · cases e
    | _ => exact fin h' e
theorem snap_ok : ∀ {z : List Src} {x : List MV} {s' : S} {v : List V}, Sit p s σ H → RSs σ p H z v → snap z s = .ok x s' → s' = s ∧ RWs p H x v
  | [], x, s', v, S, h, e => by
    simp only [snap, ret_eq] at e
    injection e with e1 e2
    subst e1
    exact ⟨e2.symm, h⟩
  | z :: zs, x, s', v, S, h, e => by
    obtain ⟨w, r, ev, h1, h2⟩ := h
    simp only [snap, bnd_eq] at e
    split at e
    · rename_i y s1 he
      obtain ⟨q1, rw1⟩ := snap1_ok S h1 he
      rw [q1] at e
      split at e
      · rename_i ys s2 he2
        obtain ⟨q2, rw2⟩ := snap_ok S h2 he2
        rw [ret_eq] at e
        injection e with e1 e2
        rw [← e1, ← e2, q2]
        exact ⟨rfl, w, r, ev, rw1, rw2⟩
      · cases e
      · cases e
    · cases e
    · cases e

/-! ### what an operation gives -/
abbrev Cont (p : Pl) (s : S) (σ : L2.St) (H : Hp) (y : MV) (Q : VK) : Prop := ∀ v p' H', Stp p H p' H' → Sit p' s σ H' → RV p' H' y v → Q v H'
theorem Cont.at {y : MV} {Q : VK} {v : V} (c : Cont p s σ H y Q) (S : Sit p s σ H) (h : RV p H y v) : Q v H := c v p H (Stp.refl p H) S h
theorem Cont.tup {xs : List MV} {Q : VK} {vs : List V} (c : Cont p s σ H (.tup xs) Q) (S : Sit p s σ H) (h : RVs p H xs vs) : ∀ a, H a = none → Q (.ref a) (upd H a (.tup vs)) := fun a ha =>
  c _ p _ (Stp.new ha) (S.new ha) (by
    simp only [RV]
    exact ⟨a, vs, rfl, upd_same, RVs.keep S.hr (Stp.new ha) xs vs h⟩)
theorem RW.int {i : Int} {v : V} (h : RW p H (.int i) v) : v = .int i := by simpa [RW, RV] using h
theorem RW.str {i : Str} {v : V} (h : RW p H (.str i) v) : v = .str i := by simpa [RW, RV] using h
theorem RW.bl {i : Bool} {v : V} (h : RW p H (.bl i) v) : v = .bl i := by simpa [RW, RV] using h
theorem RW.non {v : V} (h : RW p H .non v) : v = .non := by simpa [RW, RV] using h
theorem RW.tupH {xs : List MV} {v : V} (h : RW p H (.tup xs) v) : ∃ a vs, v = .ref a ∧ H a = some (.tup vs) ∧ RVs p H xs vs := by simpa [RW, RV] using h
theorem RW.tup {xs : List MV} {v : V} (h : RW p H (.tup xs) v) : ∃ a vs, v = .ref a ∧ SqT p.K H a vs ∧ RVs p H xs vs := by
  obtain ⟨a, vs, e, q, r⟩ := h.tupH
  exact ⟨a, vs, e, SqT.of q, r⟩
theorem scr_sql {a : Addr} {vs : List V} (h : (∃ o, H a = some (.frz o (.lst vs))) ∨ ∀ G, SqL p.K G a vs) : SqL p.K H a vs := by
  rcases h with ⟨o, h⟩ | h
  · exact .inl (.inr ⟨o, h⟩)
  · exact h H
theorem RW.lsts {x : MV} {xs : List MV} {v : V} (h : RW p H x v) (e : lstItems? x = some xs) : ∃ a vs, v = .ref a ∧ SqL p.K H a vs ∧ RVs p H xs vs := by
  cases x with
  | lst ys =>
    simp only [lstItems?, Option.some.injEq] at e; subst e
    obtain ⟨a, vs, e, im, r⟩ := h
    exact ⟨a, vs, e, SqL.of im, r⟩
  | scr ys =>
    simp only [lstItems?, Option.some.injEq] at e; subst e
    simp only [RW, RV] at h
    obtain ⟨a, vs, e, im, r⟩ := h
    exact ⟨a, vs, e, scr_sql im, r⟩
  | _ => simp [lstItems?] at e
theorem RW.rows {x : MV} {xs : List MV} {v : V} (h : RW p H x v) (e : items? x = some xs) : ∃ a vs, v = .ref a ∧ (SqL p.K H a vs ∨ SqT p.K H a vs) ∧ RVs p H xs vs := by
  cases x with
  | tup ys =>
    simp only [items?, Option.some.injEq] at e; subst e
    obtain ⟨a, vs, e, q, r⟩ := h.tup
    exact ⟨a, vs, e, .inr q, r⟩
  | lst ys => obtain ⟨a, vs, e, q, r⟩ := h.lsts (xs := xs) (by simpa [items?, lstItems?] using e); exact ⟨a, vs, e, .inl q, r⟩
  | scr ys => obtain ⟨a, vs, e, q, r⟩ := h.lsts (xs := xs) (by simpa [items?, lstItems?] using e); exact ⟨a, vs, e, .inl q, r⟩
  | _ => simp [items?] at e
theorem RW.rowsH {x : MV} {xs : List MV} {v : V} (h : RW p H x v) (e : items? x = some xs) : ∃ a vs, v = .ref a ∧ (SqL p.K H a vs ∨ H a = some (.tup vs)) ∧ RVs p H xs vs := by
  cases x with
  | tup ys =>
    simp only [items?, Option.some.injEq] at e; subst e
    obtain ⟨a, vs, e, q, r⟩ := h.tupH
    exact ⟨a, vs, e, .inr q, r⟩
  | lst ys => obtain ⟨a, vs, e, q, r⟩ := h.lsts (xs := xs) (by simpa [items?, lstItems?] using e); exact ⟨a, vs, e, .inl q, r⟩
  | scr ys => obtain ⟨a, vs, e, q, r⟩ := h.lsts (xs := xs) (by simpa [items?, lstItems?] using e); exact ⟨a, vs, e, .inl q, r⟩
  | _ => simp [items?] at e
mutual
theorem dp_of : ∀ (x : MV) (v : V) (d : PyData), RV p H x v → x.toD = some d → Dp p.K H v d
  | .non, v, d, h, e => by simp only [RV] at h; simp only [MV.toD, Option.some.injEq] at e; subst h; subst e; exact .non
  | .bl b, v, d, h, e => by simp only [RV] at h; simp only [MV.toD, Option.some.injEq] at e; subst h; subst e; exact .bl b
  | .int b, v, d, h, e => by simp only [RV] at h; simp only [MV.toD, Option.some.injEq] at e; subst h; subst e; exact .int b
  | .str b, v, d, h, e => by simp only [RV] at h; simp only [MV.toD, Option.some.injEq] at e; subst h; subst e; exact .str b
  | .tup xs, v, d, h, e => by
    simp only [RV] at h; obtain ⟨a, vs, rfl, q, r⟩ := h
    simp only [MV.toD, Option.map_eq_some_iff] at e
    obtain ⟨ds, e1, rfl⟩ := e
    exact .tup (SqT.of q) (dps_of xs vs ds r e1)
  | .lst xs, v, d, h, e => by
    simp only [RV] at h; obtain ⟨a, vs, rfl, q, r⟩ := h
    simp only [MV.toD, Option.map_eq_some_iff] at e
    obtain ⟨ds, e1, rfl⟩ := e
    exact .lst (SqL.of q.1) (dps_of xs vs ds r e1)
  | .scr xs, v, d, h, e => by
    simp only [RV] at h; obtain ⟨a, vs, rfl, q, r⟩ := h
    simp only [MV.toD, Option.map_eq_some_iff] at e
    obtain ⟨ds, e1, rfl⟩ := e
    exact .lst (scr_sql q) (dps_of xs vs ds r e1)
  | .dk _, v, d, h, e => by simp [MV.toD] at e
  | .dt _, v, d, h, e => by simp [MV.toD] at e
  | .ref _, v, d, h, e => by simp [MV.toD] at e
theorem dps_of : ∀ (xs : List MV) (vs : List V) (ds : List PyData), RVs p H xs vs → toDs xs = some ds → DpAll p.K H vs ds
  | [], vs, ds, h, e => by simp only [RVs] at h; simp only [toDs, Option.some.injEq] at e; subst h; subst e; exact .nil
  | x :: xs, vs, ds, h, e => by
    simp only [RVs] at h; obtain ⟨v, r, rfl, h1, h2⟩ := h
    simp only [toDs] at e
    split at e
    · rename_i d ds' e1 e2
      simp only [Option.some.injEq] at e; subst e
      exact .cons (dp_of x v d h1 e1) (dps_of xs r ds' h2 e2)
    · cases e
end
theorem RW.dp {x : MV} {v : V} {d : PyData} (h : RW p H x v) (e : x.toD = some d) : Dp p.K H v d := by
  cases x with
  | lst xs =>
    obtain ⟨a, vs, rfl, q, r⟩ := h
    simp only [MV.toD, Option.map_eq_some_iff] at e
    obtain ⟨ds, e1, rfl⟩ := e
    exact .lst (SqL.of q) (dps_of xs vs ds r e1)
  | dk _ => simp [MV.toD] at e
  | dt _ => simp [MV.toD] at e
  | _ => exact dp_of _ v d h e
end

/-! ### operators of two values -/
section
variable {X : Cx}
def rAddU (K : PySem.W.Frag) : R2 := fun x y H Q => ((rI0 fun i j => .int (i + j)) x y H Q ∨ ∃ i j, x = .str i ∧ y = .str j ∧ i.length + j.length ≤ sizeLine ∧ Q (.str (i ++ j)) H) ∨ rCatA K x y H Q
theorem opr_add : OpR X (binaryOp .Add) (rAddU X.K) := (op_add.or op_add_str).or op_catA
def rMulU (K : PySem.W.Frag) : R2 := fun x y H Q => (rI CMul (fun i j => .int (i * j)) x y H Q ∨ rI CMulW (fun i j => .int (i * j)) x y H Q) ∨ rRepT K x y H Q
theorem opr_mul : OpR X (binaryOp .Mult) (rMulU X.K) := (op_mul.or op_mulW).or op_repT
def bop : Op → Option Operator
  | .add => some .Add | .sub => some .Sub | .mul => some .Mult | .fdiv => some .FloorDiv | .mod => some .Mod | .pow => some .Pow | .shl => some .LShift | .shr => some .RShift
  | .band => some .BitAnd | .bor => some .BitOr | .bxor => some .BitXor
  | _ => none
def rBin (K : PySem.W.Frag) : Op → R2
  | .add => rAddU K
  | .sub => rI0 fun i j => .int (i - j)
  | .mul => rMulU K
  | .fdiv => rI CDivW fun i j => .int (i / j)
  | .mod => rI (fun _ j => 0 < j) fun i j => .int (i % j)
  | .pow => rI CPow fun i j => .int (i ^ j.toNat)
  | .shl => rI CPow fun i j => .int (i * 2 ^ j.toNat)
  | .shr => rI (fun _ j => 0 ≤ j) fun i j => .int (i / 2 ^ j.toNat)
  | .band => rI0 fun i j => .int (Builtin.bitAnd i j)
  | .bor => rI0 fun i j => .int (Builtin.bitOr i j)
  | .bxor => rI0 fun i j => .int (Builtin.bitXor i j)
  | _ => fun _ _ _ _ => False
theorem opr_bin {o : Op} {op : Operator} (h : bop o = some op) : OpR X (binaryOp op) (rBin X.K o) := by
  cases o <;> simp only [bop, Option.some.injEq, reduceCtorEq] at h <;> subst h
  · exact opr_add
  · exact op_sub
  · exact opr_mul
  · exact op_fdivW
  · exact op_mod
  · exact op_pow
  · exact op_shl
  · exact op_shr
  · exact op_and
  · exact op_or
  · exact op_xor
end
section
variable {p : Pl} {s : S} {σ : L2.St} {H : Hp} {Q : VK}
theorem rws2 {xs : List MV} {v w : V} (h : RWs p H xs [v, w]) : ∃ x y, xs = [x, y] ∧ RW p H x v ∧ RW p H y w := by
  match xs, h with
  | [], h => cases h
  | [x], h => obtain ⟨a, r, e, _, h2⟩ := h; cases e; cases h2
  | [x, y], h =>
    obtain ⟨a, r, e, h1, b, r2, e2, h2, _⟩ := h
    cases e; cases e2
    exact ⟨x, y, rfl, h1, h2⟩
  | x :: y :: z :: t, h =>
    obtain ⟨a, r, e, h1, b, r2, e2, h2, c, r3, e3, _⟩ := h
    cases e; cases e2; cases e3
theorem rws1 {xs : List MV} {v : V} (h : RWs p H xs [v]) : ∃ x, xs = [x] ∧ RW p H x v := by
  match xs, h with
  | [], h => cases h
  | [x], h => obtain ⟨a, r, e, h1, _⟩ := h; cases e; exact ⟨x, rfl, h1⟩
  | x :: y :: t, h =>
    obtain ⟨a, r, e, h1, b, r2, e2, h2, _⟩ := h
    cases e; cases e2
theorem arI_some {f : Int → Int → Option Int} {x y z : MV} (e : arI f x y = some z) : ∃ i j k, x = .int i ∧ y = .int j ∧ f i j = some k ∧ z = .int k := by
  unfold arI at e
  split at e
  · rename_i i j
    obtain ⟨k, e1, e2⟩ := Option.map_eq_some_iff.mp e
    exact ⟨i, j, k, rfl, rfl, e1, e2.symm⟩
  · cases e
theorem repsC {xs : List MV} {vs : List V} (h : RVs p H xs vs) : ∀ n : Nat, RVs p H (List.replicate n xs).flatten (List.replicate n vs).flatten
  | 0 => .nil
  | n + 1 => by
    rw [List.replicate_succ, List.replicate_succ, List.flatten_cons, List.flatten_cons]
    exact h.app (repsC h n)
theorem core_bin {o : Op} {op : Operator} {xs : List MV} {y : MV} {v w : V} (ho : bop o = some op) (S : Sit p s σ H) (h : RWs p H xs [v, w]) (e : opV o xs = some y) (c : Cont p s σ H y Q) : rBin p.K o v w H Q := by
  obtain ⟨a, b, rfl, h1, h2⟩ := rws2 h
  have ar : ∀ {f : Int → Int → Option Int}, arI f a b = some y → ∃ i j k, v = .int i ∧ w = .int j ∧ f i j = some k ∧ Q (.int k) H := fun {f} e => by
    obtain ⟨i, j, k, rfl, rfl, e1, rfl⟩ := arI_some e
    exact ⟨i, j, k, h1.int, h2.int, e1, c.at S (by simp [RV])⟩
  cases o <;> simp only [bop, reduceCtorEq] at ho <;> simp only [opV, two] at e
  case add =>
    unfold addV at e
    split at e
    · rename_i i j
      simp only [Option.some.injEq] at e; subst e
      exact .inl (.inl ⟨i, j, h1.int, h2.int, c.at S (by simp [RV])⟩)
    · rename_i i j
      split at e
      · rename_i hl
        simp only [Option.some.injEq] at e; subst e
        exact .inl (.inr ⟨i, j, h1.str, h2.str, hl, c.at S (by simp [RV])⟩)
      · cases e
    · rename_i xs ys
      split at e
      · rename_i hl
        simp only [Option.some.injEq] at e; subst e
        obtain ⟨a, vs, rfl, q1, r1⟩ := h1.tupH
        obtain ⟨b, ws, rfl, q2, r2⟩ := h2.tupH
        refine .inr ⟨a, b, vs, ws, rfl, rfl, SqT.of q1, SqT.of q2, by rw [r1.len, r2.len]; exact hl, fun ez => ?_, fun _ ez => ?_, fun _ _ => c.tup S (r1.app r2)⟩
        · subst ez
          have : xs = [] := by have := r1.len; simp at this; exact List.eq_nil_of_length_eq_zero this.symm
          subst this
          exact c.at S (by simp only [RV, List.nil_append]; exact ⟨b, ws, rfl, q2, r2⟩)
        · subst ez
          have : ys = [] := by have := r2.len; simp at this; exact List.eq_nil_of_length_eq_zero this.symm
          subst this
          exact c.at S (by simp only [RV, List.append_nil]; exact ⟨a, vs, rfl, q1, r1⟩)
      · cases e
    · cases e
  case sub => obtain ⟨i, j, k, rfl, rfl, e1, q⟩ := ar e; simp only [Option.some.injEq] at e1; subst e1; exact ⟨i, j, rfl, rfl, q⟩
  case band => obtain ⟨i, j, k, rfl, rfl, e1, q⟩ := ar e; simp only [Option.some.injEq] at e1; subst e1; exact ⟨i, j, rfl, rfl, q⟩
  case bor => obtain ⟨i, j, k, rfl, rfl, e1, q⟩ := ar e; simp only [Option.some.injEq] at e1; subst e1; exact ⟨i, j, rfl, rfl, q⟩
  case bxor => obtain ⟨i, j, k, rfl, rfl, e1, q⟩ := ar e; simp only [Option.some.injEq] at e1; subst e1; exact ⟨i, j, rfl, rfl, q⟩
  case mul =>
    unfold mulV at e
    split at e
    · rename_i xs
      split at e
      · rename_i k
        split at e
        · rename_i hc
          simp only [Option.some.injEq] at e; subst e
          obtain ⟨a, vs, rfl, q1, r1⟩ := h1.tup
          have := h2.int
          subst this
          refine .inr ⟨a, k, vs, rfl, rfl, q1, fun ez => ?_, hc.2.1, hc.2.2.1, by rw [r1.len]; exact hc.2.2.2, c.tup S (repsC r1 _)⟩
          subst ez
          have : xs = [] := by have := r1.len; simp at this; exact List.eq_nil_of_length_eq_zero this.symm
          rw [this] at hc
          exact absurd hc.1 (by simp)
        · cases e
      · cases e
    · obtain ⟨i, j, k, rfl, rfl, e1, q⟩ := ar e
      split at e1
      · rename_i hm
        simp only [Option.some.injEq] at e1; subst e1
        simp only [mulOk, Bool.or_eq_true, decide_eq_true_eq] at hm
        rcases hm with (hm | hm) | hm
        · exact .inl (.inl ⟨i, j, rfl, rfl, .inl hm, q⟩)
        · exact .inl (.inl ⟨i, j, rfl, rfl, .inr hm, q⟩)
        · exact .inl (.inr ⟨i, j, rfl, rfl, hm, q⟩)
      · cases e1
  case fdiv =>
    obtain ⟨i, j, k, rfl, rfl, e1, q⟩ := ar e
    split at e1
    · rename_i hm
      simp only [Option.some.injEq] at e1; subst e1
      exact ⟨i, j, rfl, rfl, hm, q⟩
    · cases e1
  case mod =>
    obtain ⟨i, j, k, rfl, rfl, e1, q⟩ := ar e
    split at e1
    · rename_i hm
      simp only [Option.some.injEq] at e1; subst e1
      exact ⟨i, j, rfl, rfl, hm, q⟩
    · cases e1
  case pow =>
    obtain ⟨i, j, k, rfl, rfl, e1, q⟩ := ar e
    split at e1
    · rename_i hm
      simp only [Option.some.injEq] at e1; subst e1
      exact ⟨i, j, rfl, rfl, (by simpa only [powOk, decide_eq_true_eq] using hm : 0 ≤ j ∧ j ≤ 1000000 ∧ i.natAbs < 2 ^ 64), q⟩
    · cases e1
  case shl =>
    obtain ⟨i, j, k, rfl, rfl, e1, q⟩ := ar e
    split at e1
    · rename_i hm
      simp only [Option.some.injEq] at e1; subst e1
      exact ⟨i, j, rfl, rfl, (by simpa only [powOk, decide_eq_true_eq] using hm : 0 ≤ j ∧ j ≤ 1000000 ∧ i.natAbs < 2 ^ 64), q⟩
    · cases e1
  case shr =>
    obtain ⟨i, j, k, rfl, rfl, e1, q⟩ := ar e
    split at e1
    · rename_i hm
      simp only [Option.some.injEq] at e1; subst e1
      exact ⟨i, j, rfl, rfl, hm, q⟩
    · cases e1
end
end Py

-- text PyD
set_option Elab.async false
set_option linter.all false
set_option maxRecDepth 100000
set_option maxHeartbeats 4000000
namespace Py
open PySem PySem.Spec PyProof.Rows L2

/-! ### comparisons -/
section
variable {X : Cx}
/-- x in a tuple of data -/
def rInT (K : PySem.W.Frag) (neg : Bool) : R2 := fun x y H Q => ∃ d ds, Dp K H x d ∧ Dp K H y (.tuple ds) ∧ SeqAt.shaped d = true ∧ SeqAt.shaped (.tuple ds) = true ∧ Q (.bl (if neg then !ds.any fun z => PyData.eqv z d else ds.any fun z => PyData.eqv z d)) H
theorem shaped_all {ds : List PyData} (h : SeqAt.shaped (.tuple ds) = true) : PyData.canLayAll0 ds = true := by
  have := SeqAt.canLay_of_shaped h
  simpa only [PyData.canLay0] using this
theorem op_inT (hu : X.A.units + 65 < cLine) : OpR X (compareOp .In) (rInT X.K false) := by
  intro pins s σ H x y v u Q I rx ry h
  obtain ⟨d, ds, hd, he, sd, se, q⟩ := h
  obtain ⟨as, r1⟩ := Dp.reads I d x v hd rx
  obtain ⟨bs, r2⟩ := Dp.reads I (.tuple ds) y u he ry
  refine SeqAt.in_tuple_reads r2 r1 (shaped_all se) (SeqAt.canLay_of_shaped sd) ?_ ⟨.bl _, H, I, rfl, q⟩
  have h1 := SeqAt.depth_of_shaped sd
  have h2 : min (PyData.depthAll ds) d.depth ≤ d.depth := Nat.min_le_right _ _
  omega
theorem op_notInT (hu : X.A.units + 65 < cLine) : OpR X (compareOp .NotIn) (rInT X.K true) := by
  intro pins s σ H x y v u Q I rx ry h
  obtain ⟨d, ds, hd, he, sd, se, q⟩ := h
  obtain ⟨as, r1⟩ := Dp.reads I d x v hd rx
  obtain ⟨bs, r2⟩ := Dp.reads I (.tuple ds) y u he ry
  refine SeqAt.notIn_tuple_reads r2 r1 (shaped_all se) (SeqAt.canLay_of_shaped sd) ?_ ⟨.bl _, H, I, rfl, q⟩
  have h1 := SeqAt.depth_of_shaped sd
  have h2 : min (PyData.depthAll ds) d.depth ≤ d.depth := Nat.min_le_right _ _
  omega
def rLtU (K : PySem.W.Frag) : R2 := fun x y H Q => ((rI0 fun i j => .bl (decide (i < j))) x y H Q ∨ rLtT K x y H Q) ∨ ∃ i j, x = .str i ∧ y = .str j ∧ Q (.bl (decide (i.cps.toList < j.cps.toList))) H
def cop : Op → Option CmpOp
  | .cmp .eq => some .Eq | .cmp .ne => some .NotEq | .cmp .lt => some .Lt | .cmp .le => some .LtE | .cmp .gt => some .Gt | .cmp .ge => some .GtE
  | .isin => some .In | .notin => some .NotIn
  | _ => none
def rCmp (K : PySem.W.Frag) : Op → R2
  | .cmp .eq => rEqD K
  | .cmp .ne => rNeD K
  | .cmp .lt => rLtU K
  | .cmp .le => rI0 fun i j => .bl (decide (i ≤ j))
  | .cmp .gt => rI0 fun i j => .bl (decide (j < i))
  | .cmp .ge => rI0 fun i j => .bl (decide (j ≤ i))
  | .isin => fun x y H Q => rInD K x y H Q ∨ rInT K false x y H Q
  | .notin => fun x y H Q => rNotInD K x y H Q ∨ rInT K true x y H Q
  | _ => fun _ _ _ _ => False
theorem opr_cmp {o : Op} {op : CmpOp} (hu : X.A.units + 65 < cLine) (h : cop o = some op) : OpR X (compareOp op) (rCmp X.K o) := by
  have hu2 : X.A.units + 64 < cLine := by omega
  have hu3 : X.A.units < cLine := by omega
  cases o with
  | cmp c =>
    cases c <;> simp only [cop, Option.some.injEq] at h <;> subst h
    · exact op_eqD hu2
    · exact op_neD hu2
    · exact (op_lt.or (op_ltT hu3)).or op_lt_str
    · exact op_le
    · exact op_gt
    · exact op_ge
  | isin => simp only [cop, Option.some.injEq] at h; subst h; exact (op_inD hu).or (op_inT hu)
  | notin => simp only [cop, Option.some.injEq] at h; subst h; exact (op_notInD hu).or (op_notInT hu)
  | _ => simp only [cop, reduceCtorEq] at h
end
section
variable {p : Pl} {s : S} {σ : L2.St} {H : Hp} {Q : VK}
theorem ints_of : ∀ {xs : List MV} {ns : List Int}, ints? xs = some ns → xs = ns.map .int
  | [], ns, e => by simp only [ints?, Option.some.injEq] at e; subst e; rfl
  | x :: xs, ns, e => by
    cases x <;> simp only [ints?, reduceCtorEq] at e
    obtain ⟨ms, e1, rfl⟩ := Option.map_eq_some_iff.mp e
    rw [ints_of e1]; rfl
theorem RVs.of_ints : ∀ {ns : List Int} {vs : List V}, RVs p H (ns.map .int) vs → vs = ns.map V.int
  | [], vs, h => by simpa [RVs] using h
  | n :: ns, vs, h => by
    simp only [List.map_cons, RVs, RV] at h
    obtain ⟨v, r, rfl, rfl, h2⟩ := h
    rw [RVs.of_ints h2]; rfl
theorem bl_of {b : Bool} {y : MV} (e : y = .bl b) : RV p H y (.bl b) := by subst e; simp [RV]
theorem eqD_some {x y : MV} {b : Bool} {v w : V} (h1 : RW p H x v) (h2 : RW p H y w) (e : eqD x y = some b) : ∃ d e, Dp p.K H v d ∧ Dp p.K H w e ∧ SeqAt.shaped d = true ∧ SeqAt.shaped e = true ∧ PyData.eqv d e = b := by
  unfold eqD at e
  split at e
  · rename_i d f e1 e2
    split at e
    · rename_i hk
      simp only [Bool.and_eq_true] at hk
      simp only [Option.some.injEq] at e
      exact ⟨d, f, h1.dp e1, h2.dp e2, hk.1, hk.2, e⟩
    · cases e
  · cases e
theorem inS_some {x y : MV} {b : Bool} {v w : V} (h1 : RW p H x v) (h2 : RW p H y w) (e : inS x y = some b) : ∃ d ds, Dp p.K H v d ∧ (Dp p.K H w (.list ds) ∨ Dp p.K H w (.tuple ds)) ∧ SeqAt.shaped d = true ∧ SeqAt.shaped (.list ds) = true ∧ SeqAt.shaped (.tuple ds) = true ∧ (ds.any fun z => PyData.eqv z d) = b := by
  unfold inS at e
  split at e
  · rename_i d xs e1 e2
    split at e
    · rename_i ds e3
      split at e
      · rename_i hk
        simp only [Bool.and_eq_true] at hk
        simp only [Option.some.injEq] at e
        have hs : SeqAt.shaped (.tuple ds) = true := by
          have := hk.2
          simp only [okD, SeqAt.shaped, PyData.canLay0, PyData.depth] at this ⊢
          exact this
        refine ⟨d, ds, h1.dp e1, ?_, hk.1, hk.2, hs, e⟩
        cases y with
        | lst ys => simp only [items?, Option.some.injEq] at e2; subst e2; exact .inl (h2.dp (by simp [MV.toD, e3]))
        | scr ys => simp only [items?, Option.some.injEq] at e2; subst e2; exact .inl (h2.dp (by simp [MV.toD, e3]))
        | tup ys => simp only [items?, Option.some.injEq] at e2; subst e2; exact .inr (h2.dp (by simp [MV.toD, e3]))
        | _ => simp [items?] at e2
      · cases e
    · cases e
  · cases e
theorem core_cmp {o : Op} {op : CmpOp} {xs : List MV} {y : MV} {v w : V} (ho : cop o = some op) (S : Sit p s σ H) (h : RWs p H xs [v, w]) (e : opV o xs = some y) (c : Cont p s σ H y Q) : rCmp p.K o v w H Q ∧ ∃ b, y = .bl b := by
  obtain ⟨a, b, rfl, h1, h2⟩ := rws2 h
  cases o with
  | cmp k =>
    simp only [opV, two] at e
    cases k
    case eq =>
      simp only [cmpV] at e
      obtain ⟨k, e1, rfl⟩ := Option.map_eq_some_iff.mp e
      obtain ⟨d, f, q1, q2, q3, q4, q5⟩ := eqD_some h1 h2 e1
      exact ⟨⟨d, f, q1, q2, q3, q4, by rw [q5]; exact c.at S (by simp [RV])⟩, _, rfl⟩
    case ne =>
      simp only [cmpV] at e
      obtain ⟨k, e1, rfl⟩ := Option.map_eq_some_iff.mp e
      obtain ⟨d, f, q1, q2, q3, q4, q5⟩ := eqD_some h1 h2 e1
      exact ⟨⟨d, f, q1, q2, q3, q4, by rw [q5]; exact c.at S (by simp [RV])⟩, _, rfl⟩
    case lt =>
      simp only [cmpV] at e
      split at e
      · simp only [Option.some.injEq] at e; subst e
        exact ⟨.inl (.inl ⟨_, _, h1.int, h2.int, c.at S (by simp [RV])⟩), _, rfl⟩
      · split at e
        · rename_i xs ys ns ms e1 e2
          simp only [Option.some.injEq] at e; subst e
          obtain ⟨a, vs, rfl, q1, r1⟩ := h1.tup
          obtain ⟨b, ws, rfl, q2, r2⟩ := h2.tup
          rw [ints_of e1] at r1
          rw [ints_of e2] at r2
          rw [RVs.of_ints r1] at q1
          rw [RVs.of_ints r2] at q2
          exact ⟨.inl (.inr ⟨a, b, ns, ms, rfl, rfl, q1, q2, c.at S (by simp [RV])⟩), _, rfl⟩
        · cases e
      · simp only [Option.some.injEq] at e; subst e
        exact ⟨.inr ⟨_, _, h1.str, h2.str, c.at S (by simp [RV])⟩, _, rfl⟩
      · cases e
    case le =>
      simp only [cmpV] at e
      split at e
      · simp only [Option.some.injEq] at e; subst e
        exact ⟨⟨_, _, h1.int, h2.int, c.at S (by simp [RV])⟩, _, rfl⟩
      · cases e
    case gt =>
      simp only [cmpV] at e
      split at e
      · simp only [Option.some.injEq] at e; subst e
        exact ⟨⟨_, _, h1.int, h2.int, c.at S (by simp [RV])⟩, _, rfl⟩
      · cases e
    case ge =>
      simp only [cmpV] at e
      split at e
      · simp only [Option.some.injEq] at e; subst e
        exact ⟨⟨_, _, h1.int, h2.int, c.at S (by simp [RV])⟩, _, rfl⟩
      · cases e
  | isin =>
    simp only [opV, two] at e
    obtain ⟨k, e1, rfl⟩ := Option.map_eq_some_iff.mp e
    obtain ⟨d, ds, q1, q2, q3, q4, q4', q5⟩ := inS_some h1 h2 e1
    have cc := c.at S (v := .bl k) (by simp [RV])
    rcases q2 with q2 | q2
    · exact ⟨.inl ⟨d, ds, q1, q2, q3, q4, by rw [q5]; exact cc⟩, _, rfl⟩
    · exact ⟨.inr ⟨d, ds, q1, q2, q3, q4', by rw [q5]; exact cc⟩, _, rfl⟩
  | notin =>
    simp only [opV, two] at e
    obtain ⟨k, e1, rfl⟩ := Option.map_eq_some_iff.mp e
    obtain ⟨d, ds, q1, q2, q3, q4, q4', q5⟩ := inS_some h1 h2 e1
    have cc := c.at S (v := .bl (!k)) (by simp [RV])
    rcases q2 with q2 | q2
    · exact ⟨.inl ⟨d, ds, q1, q2, q3, q4, by rw [q5]; exact cc⟩, _, rfl⟩
    · exact ⟨.inr ⟨d, ds, q1, q2, q3, q4', by rw [q5]; exact cc⟩, _, rfl⟩
  | _ => simp only [cop, reduceCtorEq] at ho
/-! ### items, cuts -/
theorem atM_ok {xs : List MV} {vs : List V} {i : Int} {y : MV} (r : RVs p H xs vs) (e : atM xs i = some y) : ∃ v, atI vs i = some v ∧ RV p H y v := by
  unfold atM at e
  unfold atI
  rw [r.len]
  obtain ⟨j, e1, e2⟩ := Option.bind_eq_some_iff.mp e
  obtain ⟨v, h1, h2⟩ := r.get' e2
  exact ⟨v, by rw [e1]; exact h1, h2⟩
theorem core_idx {xs : List MV} {y : MV} {v w : V} (S : Sit p s σ H) (h : RWs p H xs [v, w]) (e : opV .idx xs = some y) (c : Cont p s σ H y Q) : rIx p.K v w H Q := by
  obtain ⟨a, b, rfl, h1, h2⟩ := rws2 h
  simp only [opV, two, idxV] at e
  split at e
  · rename_i xs i e1 
    obtain ⟨t, vs, rfl, q, r⟩ := h1.rows e1
    obtain ⟨v, e3, rv⟩ := atM_ok r e
    rcases q with q | q
    · exact .inl ⟨t, vs, i, v, rfl, h2.int, q, e3, c.at S rv⟩
    · exact .inr (.inl ⟨t, vs, i, v, rfl, h2.int, q, e3, c.at S rv⟩)
  · cases e
theorem cutM_ok {xs : List MV} {vs : List V} {lo hi : Option Int} (r : RVs p H xs vs) : RVs p H (cutM xs lo hi) (cutV vs lo hi) := by
  unfold cutM cutV
  rw [r.len]
  exact (r.drop _).take _
theorem core_slcT {xs : List MV} {lo hi : Option Int} {v : V} (S : Sit p s σ H) (h : RW p H (.tup xs) v) (c : Cont p s σ H (.tup (cutM xs lo hi)) Q) : rSlA p.K v lo hi H Q := by
  obtain ⟨a, vs, rfl, q, r⟩ := h.tupH
  refine ⟨a, vs, rfl, SqT.of q, fun hw => ?_, fun _ => c.tup S (cutM_ok r)⟩
  have e : cutM xs lo hi = xs := by
    unfold cutM
    rw [r.len] at hw
    rw [hw.1, hw.2]
    simp
  rw [e] at c
  exact c.at S (by simp only [RV]; exact ⟨a, vs, rfl, q, r⟩)
end
end Py

-- text PyDr
set_option Elab.async false
set_option linter.all false
set_option maxRecDepth 100000
set_option maxHeartbeats 4000000
/-! ### repr of data in which empty dicts stand -/
namespace Py
open PySem PySem.Spec PyProof.Rows L2
mutual
inductive Dr (K : PySem.W.Frag) (H : Hp) : V → PyData → Prop
  | non : Dr K H .non .none
  | bl (b : Bool) : Dr K H (.bl b) (.bool b)
  | int (i : Int) : Dr K H (.int i) (.int i)
  | str (x : Str) : Dr K H (.str x) (.str x)
  | lst {a : Addr} {xs : List V} {ds : List PyData} : SqL K H a xs → DrAll K H xs ds → Dr K H (.ref a) (.list ds)
  | tup {a : Addr} {xs : List V} {ds : List PyData} : SqT K H a xs → DrAll K H xs ds → Dr K H (.ref a) (.tuple ds)
  | dk {a : Addr} : H a = some (.dK []) → Dr K H (.ref a) (.dict [])
  | dk1 {a : Addr} {i j : Int} : H a = some (.dK [(.inl i, .int j)]) → Dr K H (.ref a) (.dict [(.int i, .int j)])
inductive DrAll (K : PySem.W.Frag) (H : Hp) : List V → List PyData → Prop
  | nil : DrAll K H [] []
  | cons {v : V} {vs : List V} {d : PyData} {ds : List PyData} : Dr K H v d → DrAll K H vs ds → DrAll K H (v :: vs) (d :: ds)
end
section
variable {X : Cx} {pins : List (Addr × Obj)} {σ : L2.St} {H : Hp} {s : Shared}
theorem dk_there (I : Inv X pins σ H s) {a : Addr} (h : H a = some (.dK [])) : ∃ o n, s.heap.get? a = some o ∧ o.cls = .type "dict" ∧ o.data = .dict #[] n ∧ (a == sysModules) = false := by
  obtain ⟨_, hd, vs, rel, o, es, ep, ho, hx, hdat, _, hp, _⟩ := dk_of I.hok h
  have hvs : vs = [] := by cases rel; rfl
  subst hvs
  obtain ⟨l⟩ := es
  have hl : l = [] := by
    have hp' : PySem.Pairs _ l [] := hp
    cases hp'; rfl
  subst hl
  exact ⟨o, ep, ho, hx.1, hdat, hd⟩
theorem reads_dk {h : Heap} {a : Addr} {o : Obj} {n : Nat} (h1 : h.get? a = some o) (h2 : o.cls = .type "dict") (h3 : o.data = .dict #[] n) : Reads h (.ref a) (.dict []) [a] := Reads.dict (as := []) (bs := []) h1 h2 h3 .nil .nil
theorem dk1_there (I : Inv X pins σ H s) {a : Addr} {i j : Int} (h : H a = some (.dK [(.inl i, .int j)])) : ∃ o n e t u, s.heap.get? a = some o ∧ o.cls = .type "dict" ∧ o.data = .dict #[e] n ∧ e.key = .int i t ∧ e.val = .int j u ∧ (a == sysModules) = false := by
  obtain ⟨_, hd, vs, rel, o, es, ep, ho, hx, hdat, _, hp, _⟩ := dk_of I.hok h
  have rel' : Paired (fun (p : Key × V) (q : Key × Value) => p.1 = q.1 ∧ RelV p.2 q.2) [((Sum.inl i : Key), V.int j)] vs := rel
  cases rel' with
  | @cons _ q _ _ h1 t =>
    cases t
    obtain ⟨k, v⟩ := q
    obtain ⟨h1, h2⟩ := h1
    simp only at h1 h2
    subst h1
    obtain ⟨u, rfl⟩ := (show ∃ u, v = Value.int j u from h2)
    obtain ⟨l⟩ := es
    have hp' : PySem.Pairs _ l [((Sum.inl i : Key), Value.int j u)] := hp
    cases hp' with
    | @cons e _ es' _ k1 k2 t =>
      cases t
      have k3 : Value.isInt i e.key = true := k1
      obtain ⟨tt, k4⟩ := Value.isInt_shape k3
      exact ⟨o, ep, e, tt, u, ho, hx.1, hdat, k4, k2, hd⟩
theorem reads_dk1 {h : Heap} {a : Addr} {o : Obj} {n : Nat} {e : DictEntry} {i j : Int} {t u : Tok} (h1 : h.get? a = some o) (h2 : o.cls = .type "dict") (h3 : o.data = .dict #[e] n) (hk : e.key = .int i t) (hv : e.val = .int j u) : Reads h (.ref a) (.dict [(.int i, .int j)]) [a] :=
  Reads.dict (as := []) (bs := []) h1 h2 h3 (by show ReadsAll h [e.key] [.int i] []; rw [hk]; exact .cons (.int i t) .nil) (by show ReadsAll h [e.val] [.int j] []; rw [hv]; exact .cons (.int j u) .nil)
theorem ent_dk1 {h : Heap} {e : DictEntry} {i j : Int} {t u : Tok} {P : Program} {w : World} (hk : e.key = .int i t) (hv : e.val = .int j u) (s1 : (PyData.int i).showable = true) (s2 : (PyData.int j).showable = true) : ReprEntriesK P w [] h 0 [e] (PyData.shownKv [(.int i, .int j)]) := by
  rw [PyData.shownKv_eq]
  refine ReprEntriesK.of_two [e] _ _ ?_ ?_
  · show ReprAllK P w [] h 0 [e.key] (PyData.shownAll [.int i])
    rw [hk]
    simp only [PyData.shownAll, PyData.shown]
    exact .cons (.of_is (ReprIs.int t (by simpa [PyData.showable] using s1)) _ _ _) .nil
  · show ReprAllK P w [] h 0 [e.val] (PyData.shownAll [.int j])
    rw [hv]
    simp only [PyData.shownAll, PyData.shown]
    exact .cons (.of_is (ReprIs.int u (by simpa [PyData.showable] using s2)) _ _ _) .nil
mutual
theorem Dr.shows (I : Inv X pins σ H s) : ∀ (d : PyData) (v : V) (u : Value), Dr X.K H v d → RelV v u → d.showable = true → d.shown.length ≤ sizeLine →
    (∃ as, Reads s.heap u d as) ∧ ∃ bs, ReadAtMost s.heap d.depth bs ∧ ReprK X.prog X.w bs s.heap d.depth u d.shown
  | .none, _, _, h, r, hs, hz => by
    cases h; cases r
    exact ⟨⟨_, .none⟩, [], (fun _ h => nomatch h), by simp only [PyData.shown]; exact .of_is ReprIs.none _ _ _⟩
  | .bool b, _, _, h, r, hs, hz => by
    cases h; cases r
    exact ⟨⟨_, .bool b⟩, [], (fun _ h => nomatch h), by simp only [PyData.shown]; exact .of_is (ReprIs.bool b) _ _ _⟩
  | .int i, _, _, h, r, hs, hz => by
    cases h
    obtain ⟨t, rfl⟩ := r
    exact ⟨⟨_, .int i t⟩, [], (fun _ h => nomatch h), by simp only [PyData.shown]; exact .of_is (ReprIs.int t (by simpa [PyData.showable] using hs)) _ _ _⟩
  | .str x, _, _, h, r, hs, hz => by
    cases h
    obtain ⟨t, rfl⟩ := r
    exact ⟨⟨_, .str x t⟩, [], (fun _ h => nomatch h), by simp only [PyData.shown]; exact .of_is (ReprIs.str x t (by simpa only [PyData.shown] using hz)) _ _ _⟩
  | .list ds, _, _, h, r, hs, hz => by
    cases h with
    | lst hq ha =>
      cases r
      obtain ⟨its, rv, ⟨o, n, ho, hc, _, hd⟩, _⟩ := I.list hq
      have hz' : (listText (PyData.shownAll ds)).length ≤ sizeLine := by simpa only [PyData.shown] using hz
      obtain ⟨⟨as, hr⟩, bs, hb, hk⟩ := DrAll.shows I ds _ its ha rv (by simpa [PyData.showable] using hs) (fun t ht => Nat.le_trans (listText_mem_le ht) hz')
      have r : Reads s.heap _ (.list ds) _ := Reads.list ho hc hd hr
      have hna := not_mem_of_deeper r (n := PyData.depthAll ds) (by simp only [PyData.depth]; omega) hb
      refine ⟨⟨_, r⟩, _ :: bs, ReadAtMost.cons r (by simp only [PyData.depth]; omega) hb, ?_⟩
      simp only [PyData.depth, PyData.shown]
      cases its with
      | nil =>
        cases hr
        simp only [PyData.shownAll, listText_nil]
        exact ReprK.listEmpty ho hc hd
      | cons x l => exact ReprK.list ho hc hd hna (by simpa using hk.length_eq) (fun i y e => hk.item i y (by simpa using e))
  | .tuple ds, _, _, h, r, hs, hz => by
    cases h with
    | tup hq ha =>
      cases r
      obtain ⟨its, rv, ⟨o, ho, hc, n, hd⟩, _⟩ := I.tuple hq
      have hz' : (tupleText (PyData.shownAll ds)).length ≤ sizeLine := by simpa only [PyData.shown] using hz
      obtain ⟨⟨as, hr⟩, bs, hb, hk⟩ := DrAll.shows I ds _ its ha rv (by simpa [PyData.showable] using hs) (fun t ht => Nat.le_trans (tupleText_mem_le ht) hz')
      have r : Reads s.heap _ (.tuple ds) _ := Reads.tuple ho hc hd hr
      have hna := not_mem_of_deeper r (n := PyData.depthAll ds) (by simp only [PyData.depth]; omega) hb
      refine ⟨⟨_, r⟩, _ :: bs, ReadAtMost.cons r (by simp only [PyData.depth]; omega) hb, ?_⟩
      simp only [PyData.depth, PyData.shown]
      exact ReprK.tuple ho hc hd hna hk
  | .dict kvs, _, _, h, r, hs, hz => by
    cases h with
    | dk hx =>
      cases r
      obtain ⟨o, n, ho, hc, hd, hsys⟩ := dk_there I hx
      have r := reads_dk ho hc hd
      have hb : ReadAtMost s.heap (PyData.depthKv []) [] := fun _ h => nomatch h
      refine ⟨⟨_, r⟩, _ :: [], ReadAtMost.cons r (by simp only [PyData.depth]; omega) hb, ?_⟩
      simp only [PyData.depth, PyData.shown, PyData.shownKv_eq]
      exact ReprK.dict ho hc hd hsys (by simp) (ReprEntriesK.of_two [] _ _ .nil .nil)
    | @dk1 a i j hx =>
      cases r
      obtain ⟨o, n, e, t, u, ho, hc, hd, hk, hv, hsys⟩ := dk1_there I hx
      have r := reads_dk1 ho hc hd hk hv
      have hb : ReadAtMost s.heap (PyData.depthKv [(.int i, .int j)]) [] := fun _ h => nomatch h
      have hs' : (PyData.int i).showable = true ∧ (PyData.int j).showable = true := by simpa [PyData.showable, PyData.showableKv] using hs
      refine ⟨⟨_, r⟩, _ :: [], ReadAtMost.cons r (by simp only [PyData.depth]; omega) hb, ?_⟩
      simp only [PyData.depth, PyData.shown, PyData.depthKv]
      exact ReprK.dict ho hc hd hsys (by simp) (ent_dk1 hk hv hs'.1 hs'.2)
theorem DrAll.shows (I : Inv X pins σ H s) : ∀ (ds : List PyData) (vs : List V) (us : List Value), DrAll X.K H vs ds → Vals vs us → PyData.showableAll ds = true → (∀ t ∈ PyData.shownAll ds, t.length ≤ sizeLine) →
    (∃ as, ReadsAll s.heap us ds as) ∧ ∃ bs, ReadAtMost s.heap (PyData.depthAll ds) bs ∧ ReprAllK X.prog X.w bs s.heap (PyData.depthAll ds) us (PyData.shownAll ds)
  | [], _, _, h, r, _, _ => by
    cases h; cases r
    exact ⟨⟨_, .nil⟩, [], (fun _ h => nomatch h), by simp only [PyData.shownAll]; exact .nil⟩
  | d :: ds, _, _, h, r, hs, hz => by
    cases h with
    | cons h1 h2 =>
      cases r with
      | cons r1 r2 =>
        have hs' : d.showable = true ∧ PyData.showableAll ds = true := by simpa [PyData.showableAll] using hs
        obtain ⟨⟨as, q1⟩, b1, hb1, k1⟩ := Dr.shows I d _ _ h1 r1 hs'.1 (hz _ (by simp only [PyData.shownAll]; exact List.mem_cons_self ..))
        obtain ⟨⟨bs, q2⟩, b2, hb2, k2⟩ := DrAll.shows I ds _ _ h2 r2 hs'.2 (fun t ht => hz t (by simp only [PyData.shownAll]; exact List.mem_cons_of_mem _ ht))
        refine ⟨⟨_, .cons q1 q2⟩, b1 ++ b2, ?_, ?_⟩
        · simp only [PyData.depthAll]
          exact (hb1.mono (Nat.le_max_left _ _)).append (hb2.mono (Nat.le_max_right _ _))
        · simp only [PyData.depthAll, PyData.shownAll]
          exact .cons ((k1.more fun b hb => List.mem_append_left _ hb).level_le (Nat.le_max_left _ _)) (k2.more_le (fun b hb => List.mem_append_right _ hb) (Nat.le_max_right _ _))
end
end
section
variable {X : Cx}
def rReprR (K : PySem.W.Frag) : List V → Hp → VK → Prop := fun xs H Q => ∃ x d, xs = [x] ∧ Dr K H x d ∧ d.showable = true ∧ d.shown.length ≤ sizeLine ∧ d.depth ≤ 64 ∧ Q (.str d.shown) H
theorem call_reprR (hg : X.A.guards = some []) (hu : X.A.units + 66 < cLine) : CallR X (.builtin "repr") (rReprR X.K) := by
  intro pins s σ H xs us Q I r h
  obtain ⟨x, d, rfl, hd, h1, h2, h3, q⟩ := h
  obtain ⟨u, rfl, rx⟩ := vals1 r
  cases hd with
  | non => cases rx; exact P.repr_of_none ⟨.str "None", H, I.tok _, ⟨_, rfl⟩, by simpa only [PyData.shown_none] using q⟩
  | bl b => cases rx; exact P.repr_of_bool ⟨.str _, H, I.tok _, ⟨_, rfl⟩, by simpa only [PyData.shown_bool] using q⟩
  | int i =>
    obtain ⟨t, rfl⟩ := rx
    refine P.repr_of_int ?_ ⟨.str _, H, I.tok _, ⟨_, rfl⟩, by simpa only [PyData.shown_int] using q⟩
    simpa only [PyData.showable, decide_eq_true_eq] using h1
  | str z =>
    obtain ⟨t, rfl⟩ := rx
    exact P.repr_of_str ⟨.str _, H, I.tok _, ⟨_, rfl⟩, by simpa only [PyData.shown_str] using q⟩ (by simpa only [PyData.shown_str] using h2)
  | lst hq ha =>
    rename_i a zs ds
    cases rx
    obtain ⟨its, rv, ⟨o, n, ho, hc, _, hdt⟩, _⟩ := I.list hq
    have hz' : (listText (PyData.shownAll ds)).length ≤ sizeLine := by simpa only [PyData.shown] using h2
    obtain ⟨⟨as, hr⟩, bs, hb, hk⟩ := DrAll.shows I ds _ its ha rv (by simpa [PyData.showable] using h1) (fun t ht => Nat.le_trans (listText_mem_le ht) hz')
    have r : Reads s.heap _ (.list ds) _ := Reads.list ho hc hdt hr
    have hna := not_mem_of_deeper r (n := PyData.depthAll ds) (by simp only [PyData.depth]; omega) hb
    simp only [PyData.depth] at h3
    simp only [PyData.shown] at q
    refine call_repr_slot (by omega) ⟨o, ho, hc⟩ F.slot_list_repr.toG ?_
    cases its with
    | nil =>
      cases hr
      simp only [PyData.shownAll, listText_nil] at q
      exact call_list_repr_empty ⟨o, ho, hc⟩ ho hdt ⟨_, _, rfl, .str _, H, I.kept fun _ _ z => z, ⟨_, rfl⟩, q⟩
    | cons y l =>
      exact call_list_reprK ho hc hdt hna (by simpa using hk.length_eq) (fun i y e => hk.item i y (by simpa using e)) (show X.A.in1.guards = some [] from hg) (fun b _ => Clear.nil b) (by show X.A.units + 1 + _ < cLine; omega) (fun _ _ z => z) (fun h' u tk hk' => ⟨_, _, rfl, .str _, H, I.kept hk', ⟨_, rfl⟩, q⟩) hz'
  | tup hq ha =>
    rename_i a zs ds
    cases rx
    obtain ⟨its, rv, ⟨o, ho, hc, n, hdt⟩, _⟩ := I.tuple hq
    have hz' : (tupleText (PyData.shownAll ds)).length ≤ sizeLine := by simpa only [PyData.shown] using h2
    obtain ⟨⟨as, hr⟩, bs, hb, hk⟩ := DrAll.shows I ds _ its ha rv (by simpa [PyData.showable] using h1) (fun t ht => Nat.le_trans (tupleText_mem_le ht) hz')
    have r : Reads s.heap _ (.tuple ds) _ := Reads.tuple ho hc hdt hr
    have hna := not_mem_of_deeper r (n := PyData.depthAll ds) (by simp only [PyData.depth]; omega) hb
    simp only [PyData.depth] at h3
    simp only [PyData.shown] at q
    refine call_repr_slot (by omega) ⟨o, ho, hc⟩ F.slot_tuple_repr ?_
    exact call_tuple_reprK ho hc hdt hna hk (show X.A.in1.guards = some [] from hg) (fun b _ => Clear.nil b) (by show X.A.units + 1 + _ < cLine; omega) (fun _ _ z => z) (fun h' u tk hk' => ⟨_, _, rfl, .str _, H, I.kept hk', ⟨_, rfl⟩, q⟩) hz'
  | dk hx =>
    cases rx
    obtain ⟨o, n, ho, hc, hdt, hsys⟩ := dk_there I hx
    simp only [PyData.depth] at h3
    have hz' : (dictText (PyData.shownKv [])).length ≤ sizeLine := by simpa only [PyData.shown] using h2
    simp only [PyData.shown, PyData.shownKv_eq] at q
    refine call_repr_slot (by omega) ⟨o, ho, hc⟩ F.slot_dict_repr ?_
    exact call_dict_reprK (as := []) (d := 0) ho hc hdt hsys (by simp) (ReprEntriesK.of_two [] [] [] .nil .nil) (show X.A.in1.guards = some [] from hg) (fun b _ => Clear.nil b) (by show X.A.units + 1 + (0 + 1) < cLine; omega) (fun _ _ z => z) (fun h' u tk hk' => ⟨_, _, rfl, .str _, H, I.kept hk', ⟨_, rfl⟩, q⟩) (by simpa [PyData.shownKv] using hz')
  | @dk1 a i j hx =>
    cases rx
    obtain ⟨o, n, e, t, u, ho, hc, hdt, hk, hv, hsys⟩ := dk1_there I hx
    simp only [PyData.depth] at h3
    have hz' : (dictText (PyData.shownKv [(.int i, .int j)])).length ≤ sizeLine := by simpa only [PyData.shown] using h2
    have hs' : (PyData.int i).showable = true ∧ (PyData.int j).showable = true := by simpa [PyData.showable, PyData.showableKv] using h1
    simp only [PyData.shown] at q
    refine call_repr_slot (by omega) ⟨o, ho, hc⟩ F.slot_dict_repr ?_
    exact call_dict_reprK (as := []) (d := 0) ho hc hdt hsys (by simp) (ent_dk1 hk hv hs'.1 hs'.2) (show X.A.in1.guards = some [] from hg) (fun b _ => Clear.nil b) (by show X.A.units + 1 + (0 + 1) < cLine; omega) (fun _ _ z => z) (fun h' u tk hk' => ⟨_, _, rfl, .str _, H, I.kept hk', ⟨_, rfl⟩, q⟩) hz'
end
end Py

-- text PyE
set_option Elab.async false
set_option linter.all false
set_option maxRecDepth 100000
set_option maxHeartbeats 4000000
namespace Py
open PySem PySem.Spec PyProof.Rows L2

/-! ### calls of built-ins by values -/
section
variable {X : Cx}
def rRepr (K : PySem.W.Frag) : List V → Hp → VK → Prop := fun xs H Q => ∃ x d, xs = [x] ∧ Dp K H x d ∧ d.showable = true ∧ d.shown.length ≤ sizeLine ∧ d.depth ≤ 64 ∧ d.hasDict = false ∧ Q (.str d.shown) H
theorem call_reprD (hg : X.A.guards = some []) (hu : X.A.units + 66 < cLine) : CallR X (.builtin "repr") (rRepr X.K) := by
  intro pins s σ H xs us Q I r h
  obtain ⟨x, d, rfl, hd, h1, h2, h3, h4, q⟩ := h
  obtain ⟨u, rfl, rx⟩ := vals1 r
  obtain ⟨as, rd⟩ := Dp.reads I d x u hd rx
  cases rd with
  | none => exact P.repr_of_none ⟨.str "None", H, I.tok _, ⟨_, rfl⟩, by simpa only [PyData.shown_none] using q⟩
  | bool b => exact P.repr_of_bool ⟨.str _, H, I.tok _, ⟨_, rfl⟩, by simpa only [PyData.shown_bool] using q⟩
  | int i t =>
    refine P.repr_of_int ?_ ⟨.str _, H, I.tok _, ⟨_, rfl⟩, by simpa only [PyData.shown_int] using q⟩
    simpa only [PyData.showable, decide_eq_true_eq] using h1
  | str z t => exact P.repr_of_str ⟨.str _, H, I.tok _, ⟨_, rfl⟩, by simpa only [PyData.shown_str] using q⟩ (by simpa only [PyData.shown_str] using h2)
  | list a b c e =>
    refine repr_of_reads' (h₀ := s.heap) (.list a b c e) h1 (fun z => by rw [h4] at z; cases z) hg (by omega) (fun _ _ z => z) (fun h' u tk hk => ?_) h2
    exact ⟨.str _, H, I.kept hk, ⟨_, rfl⟩, q⟩
  | tuple a b c e =>
    refine repr_of_reads' (h₀ := s.heap) (.tuple a b c e) h1 (fun z => by rw [h4] at z; cases z) hg (by omega) (fun _ _ z => z) (fun h' u tk hk => ?_) h2
    exact ⟨.str _, H, I.kept hk, ⟨_, rfl⟩, q⟩
  | dict _ _ _ _ _ => simp [PyData.hasDict] at h4
end
def rLenU (K : PySem.W.Frag) : List V → Hp → VK → Prop := fun xs H Q =>
  (∃ p ys, xs = [.ref p] ∧ (SqL K H p ys ∨ SqT K H p ys) ∧ Q (.int ys.length) H) ∨ ((∃ z, xs = [.str z] ∧ z.length ≤ sizeLine ∧ Q (.int z.length) H) ∨ ∃ a kvs, xs = [V.ref a] ∧ H a = some (.dK kvs) ∧ Q (.int kvs.length) H)
def rStrU : List V → Hp → VK → Prop := fun xs H Q => (∃ i, xs = [.int i] ∧ i.natAbs.log2 < 1920 ∧ Q (.str (toString i)) H) ∨ ∃ a, xs = [.str a] ∧ Q (.str a) H
/-- a built-in by its name: whether it is a class, its own name -/
def bName : Op → Option (Str × Bool × String)
  | .len => some ("len", false, "len") | .int1 => some ("int", true, "int") | .abs => some ("abs", false, "abs") | .max2 => some ("max", false, "max") | .min2 => some ("min", false, "min")
  | .sum => some ("sum", false, "sum") | .repr => some ("repr", false, "repr") | .tuple => some ("tuple", true, "tuple") | .str1 => some ("str", true, "str") | .maxL => some ("max", false, "max") | .minL => some ("min", false, "min")
  | _ => none
def bVal : Bool → String → Value
  | true, n => .type n
  | false, n => .builtin n
def rMaxT (K : PySem.W.Frag) : List V → Hp → VK → Prop := fun vs H Q => ∃ (a : Addr) (n : Int) (ns : List Int), vs = [V.ref a] ∧ SqT K H a ((n :: ns).map V.int) ∧ Q (.int (ns.foldl max n)) H
def rSumT (K : PySem.W.Frag) : List V → Hp → VK → Prop := fun vs H Q => ∃ (a : Addr) (ns : List Int), vs = [V.ref a] ∧ SqT K H a (ns.map V.int) ∧ Q (.int ns.sum) H
def rMinT (K : PySem.W.Frag) : List V → Hp → VK → Prop := fun vs H Q => ∃ (a : Addr) (n : Int) (ns : List Int), vs = [V.ref a] ∧ SqT K H a ((n :: ns).map V.int) ∧ Q (.int (ns.foldl min n)) H
def rCall (K : PySem.W.Frag) : Op → List V → Hp → VK → Prop
  | .len => rLenU K
  | .int1 => fun xs H Q => (∃ i, xs = [.int i] ∧ Q (.int i) H) ∨ ∃ k, xs = [.bl k] ∧ Q (.int (if k then 1 else 0)) H
  | .abs => fun xs H Q => ∃ i, xs = [.int i] ∧ Q (.int (if i < 0 then -i else i)) H
  | .max2 => fun xs H Q => ∃ i j, xs = [.int i, .int j] ∧ Q (.int (if j > i then j else i)) H
  | .min2 => fun xs H Q => ∃ i j, xs = [.int i, .int j] ∧ Q (.int (if j < i then j else i)) H
  | .sum => fun xs H Q => rSum K xs H Q ∨ rSumT K xs H Q
  | .repr => fun xs H Q => rRepr K xs H Q ∨ rReprR K xs H Q
  | .tuple => fun xs H Q => ∃ p ys, xs = [.ref p] ∧ ((SqL K H p ys ∧ ∀ l, H l = none → Q (.ref l) (upd H l (.tup ys))) ∨ (SqT K H p ys ∧ Q (.ref p) H))
  | .str1 => rStrU
  | .maxL => fun xs H Q => rMax K xs H Q ∨ rMaxT K xs H Q
  | .minL => fun xs H Q => rMin K xs H Q ∨ rMinT K xs H Q
  | _ => fun _ _ _ => False
section
variable {X : Cx}
/-- max(t), min(t) of a tuple of ints -/
theorem max_ofI (x : Int) (xs : List Int) : PySem.W.maxOf x xs = xs.foldl max x := by
  unfold PySem.W.maxOf
  have : (fun a y : Int => if PySem.W.DatumOrd.lt a y = true then y else a) = max := by
    funext a y
    show (if decide (a < y) = true then y else a) = max a y
    simp only [decide_eq_true_eq]
    split <;> omega
  rw [this]
theorem min_ofI (x : Int) (xs : List Int) : PySem.W.minOf x xs = xs.foldl min x := by
  unfold PySem.W.minOf
  have : (fun a y : Int => if PySem.W.DatumOrd.lt y a = true then y else a) = min := by
    funext a y
    show (if decide (y < a) = true then y else a) = min a y
    simp only [decide_eq_true_eq]
    split <;> omega
  rw [this]
theorem cr_maxT (hc : X.calm = true) (hu : X.A.units + 66 < cLine) : CallR X (.builtin "max") (rMaxT X.K) := by
  intro pins s σ H vs us Q I r h
  obtain ⟨a, n, ns, rfl, hs, q⟩ := h
  obtain ⟨its, rv, hl, _⟩ := I.tuple hs
  rw [Vals.ref1 r]
  refine PySem.W.max_tuple_datum (x := n) (xs := ns) (I.ok.hd hc) hl (PySem.W.HoldAll.of_ints rv.ints) (by show X.A.units + 1 + 0 < cLine; omega) fun i v h' tk _ ho hk => ?_
  obtain ⟨as, ho⟩ := ho
  rw [max_ofI] at ho
  have ho : Reads h' v (PyData.int _) as := ho
  cases ho
  exact ⟨.int _, H, I.kept hk, ⟨_, rfl⟩, q⟩
theorem cr_minT (hc : X.calm = true) (hu : X.A.units + 66 < cLine) : CallR X (.builtin "min") (rMinT X.K) := by
  intro pins s σ H vs us Q I r h
  obtain ⟨a, n, ns, rfl, hs, q⟩ := h
  obtain ⟨its, rv, hl, _⟩ := I.tuple hs
  rw [Vals.ref1 r]
  refine PySem.W.min_tuple_datum (x := n) (xs := ns) (I.ok.hd hc) hl (PySem.W.HoldAll.of_ints rv.ints) (by show X.A.units + 1 + 0 < cLine; omega) fun i v h' tk _ ho hk => ?_
  obtain ⟨as, ho⟩ := ho
  rw [min_ofI] at ho
  have ho : Reads h' v (PyData.int _) as := ho
  cases ho
  exact ⟨.int _, H, I.kept hk, ⟨_, rfl⟩, q⟩
/-- sum(t) of a tuple of ints -/
theorem cr_sumT (hc : X.calm = true) : CallR X (.builtin "sum") (rSumT X.K) := by
  intro pins s σ H vs us Q I r h
  obtain ⟨a, ns, rfl, hs, q⟩ := h
  obtain ⟨its, rv, hl, _⟩ := I.tuple hs
  rw [Vals.ref1 r]
  have hi := rv.ints
  obtain ⟨xs, e⟩ := hi.allInts.items
  have hn : numsOf (intItems xs).toList = ns := by rw [← e]; exact hi.numsOf
  rw [nums_intItems] at hn
  rw [e] at hl
  refine PySem.W.ktm_sumG (I.ok.hd hc) hl fun h' tk t' hk => ?_
  rw [preSum_eq, List.take_of_length_le (by simp), hn]
  exact ⟨.int _, H, I.kept hk, ⟨_, rfl⟩, q⟩
theorem opr_call {o : Op} {x : Str} {t : Bool} {id : String} (hc : X.calm = true) (hg : X.A.guards = some []) (hu : X.A.units + 66 < cLine) (h : bName o = some (x, t, id)) : CallR X (bVal t id) (rCall X.K o) := by
  cases o <;> simp only [bName, Option.some.injEq, Prod.mk.injEq, reduceCtorEq] at h <;> obtain ⟨_, rfl, rfl⟩ := h
  · exact call_len_seq.or (call_len_str.or call_lenD)
  · exact call_int1
  · exact call_abs
  · exact call_max2 hc
  · exact call_min2 hc
  · exact (cr_sum hc).or (cr_sumT hc)
  · exact (call_reprD hg hu).or (call_reprR hg hu)
  · exact call_tuple_of
  · exact call_str_int.or SkE.call_str_str
  · exact (cr_max hc).or (cr_maxT hc hu)
  · exact (cr_min hc).or (cr_minT hc hu)
end
section
variable {p : Pl} {s : S} {σ : L2.St} {H : Hp} {Q : VK}
theorem fold_max (r : List Int) : ∀ n m : Int, m ∈ n :: r → (∀ y, y ∈ n :: r → y ≤ m) → r.foldl max n = m := by
  induction r with
  | nil => intro n m h1 h2; simp at h1; simp [h1]
  | cons x r ih =>
    intro n m h1 h2
    rw [List.foldl_cons]
    refine ih _ _ ?_ fun y hy => ?_
    · have hn := h2 n (by simp)
      have hx := h2 x (by simp)
      simp only [List.mem_cons] at h1 ⊢
      rcases h1 with h1 | h1 | h1
      · exact .inl (by omega)
      · exact .inl (by omega)
      · exact .inr h1
    · have hn := h2 n (by simp)
      have hx := h2 x (by simp)
      simp only [List.mem_cons] at hy
      rcases hy with hy | hy
      · omega
      · exact h2 y (by simp [hy])
theorem fold_min (r : List Int) : ∀ n m : Int, m ∈ n :: r → (∀ y, y ∈ n :: r → m ≤ y) → r.foldl min n = m := by
  induction r with
  | nil => intro n m h1 h2; simp at h1; simp [h1]
  | cons x r ih =>
    intro n m h1 h2
    rw [List.foldl_cons]
    refine ih _ _ ?_ fun y hy => ?_
    · have hn := h2 n (by simp)
      have hx := h2 x (by simp)
      simp only [List.mem_cons] at h1 ⊢
      rcases h1 with h1 | h1 | h1
      · exact .inl (by omega)
      · exact .inl (by omega)
      · exact .inr h1
    · have hn := h2 n (by simp)
      have hx := h2 x (by simp)
      simp only [List.mem_cons] at hy
      rcases hy with hy | hy
      · omega
      · exact h2 y (by simp [hy])
theorem rws0 {xs : List MV} (h : RWs p H xs []) : xs = [] := by
  cases xs with
  | nil => rfl
  | cons x r => obtain ⟨v, t, e, _⟩ := h; cases e
theorem RWs.len : ∀ {xs : List MV} {vs : List V}, RWs p H xs vs → vs.length = xs.length
  | [], vs, h => by have h' : vs = [] := h; subst h'; rfl
  | x :: xs, vs, h => by obtain ⟨v, r, rfl, _, h2⟩ := h; simp [RWs.len h2]
/-- one value -/
theorem one_some {f : MV → Option MV} {xs : List MV} {y : MV} {vs : List V} (h : RWs p H xs vs) (e : one f xs = some y) : ∃ x v, vs = [v] ∧ RW p H x v ∧ f x = some y := by
  match xs, h, e with
  | [x], h, e =>
    obtain ⟨v, r, rfl, h1, h2⟩ := h
    have h2' : r = [] := h2
    subst h2'
    exact ⟨x, v, rfl, h1, e⟩
theorem two_some {f : MV → MV → Option MV} {xs : List MV} {z : MV} {vs : List V} (h : RWs p H xs vs) (e : two f xs = some z) : ∃ x y v w, vs = [v, w] ∧ RW p H x v ∧ RW p H y w ∧ f x y = some z := by
  match xs, h, e with
  | [x, y], h, e =>
    obtain ⟨v, r, rfl, h1, w, r2, rfl, h2, h3⟩ := h
    have h3' : r2 = [] := h3
    subst h3'
    exact ⟨x, y, v, w, rfl, h1, h2, e⟩
theorem dkR_of {a : Addr} {kvs : List (Key × MV)} {vs : List (Key × V)} {d : PyData} (q : H a = some (.dK vs)) (r : RKs p H kvs vs) (e : dkR kvs = some d) : Dr p.K H (.ref a) d := by
  unfold dkR at e
  split at e
  · simp only [RKs] at r
    subst r
    simp only [Option.some.injEq] at e; subst e
    exact .dk q
  · simp only [RKs, RV] at r
    obtain ⟨v, r2, rfl, rfl, rfl⟩ := r
    simp only [Option.some.injEq] at e; subst e
    exact .dk1 q
  · cases e
mutual
theorem dr_of : ∀ (x : MV) (v : V) (d : PyData), RV p H x v → x.toR = some d → Dr p.K H v d
  | .non, v, d, h, e => by simp only [RV] at h; simp only [MV.toR, Option.some.injEq] at e; subst h; subst e; exact .non
  | .bl b, v, d, h, e => by simp only [RV] at h; simp only [MV.toR, Option.some.injEq] at e; subst h; subst e; exact .bl b
  | .int b, v, d, h, e => by simp only [RV] at h; simp only [MV.toR, Option.some.injEq] at e; subst h; subst e; exact .int b
  | .str b, v, d, h, e => by simp only [RV] at h; simp only [MV.toR, Option.some.injEq] at e; subst h; subst e; exact .str b
  | .tup xs, v, d, h, e => by
    simp only [RV] at h
    obtain ⟨a, vs, rfl, q, r⟩ := h
    simp only [MV.toR, Option.map_eq_some_iff] at e
    obtain ⟨ds, e1, rfl⟩ := e
    exact .tup (SqT.of q) (drs_of xs vs ds r e1)
  | .lst xs, v, d, h, e => by
    simp only [RV] at h
    obtain ⟨a, vs, rfl, q, r⟩ := h
    simp only [MV.toR, Option.map_eq_some_iff] at e
    obtain ⟨ds, e1, rfl⟩ := e
    exact .lst (.inl (.inl q.1)) (drs_of xs vs ds r e1)
  | .scr xs, v, d, h, e => by
    simp only [RV] at h
    obtain ⟨a, vs, rfl, q, r⟩ := h
    simp only [MV.toR, Option.map_eq_some_iff] at e
    obtain ⟨ds, e1, rfl⟩ := e
    refine .lst ?_ (drs_of xs vs ds r e1)
    rcases q with ⟨o, q⟩ | q
    · exact .inl (.inr ⟨o, q⟩)
    · exact q H
  | .dk kvs, v, d, h, e => by
    simp only [RV] at h
    obtain ⟨a, vs, rfl, q, r⟩ := h
    simp only [MV.toR] at e
    exact dkR_of q.1 r e
  | .dt _, v, d, h, e => by simp [MV.toR] at e
  | .ref _, v, d, h, e => by simp [MV.toR] at e
theorem drs_of : ∀ (xs : List MV) (vs : List V) (ds : List PyData), RVs p H xs vs → toRs xs = some ds → DrAll p.K H vs ds
  | [], vs, ds, h, e => by simp only [RVs] at h; simp only [toRs, Option.some.injEq] at e; subst h; subst e; exact .nil
  | x :: xs, vs, ds, h, e => by
    simp only [RVs] at h
    obtain ⟨v, r, rfl, h1, h2⟩ := h
    simp only [toRs] at e
    split at e
    · rename_i a b g1 g2
      simp only [Option.some.injEq] at e; subst e
      exact .cons (dr_of x v a h1 g1) (drs_of xs r b h2 g2)
    · cases e
end
theorem RW.dr {x : MV} {v : V} {d : PyData} (h : RW p H x v) (e : x.toR = some d) : Dr p.K H v d := by
  cases x with
  | lst xs =>
    simp only [RW] at h
    obtain ⟨a, vs, rfl, q, r⟩ := h
    simp only [MV.toR, Option.map_eq_some_iff] at e
    obtain ⟨ds, e1, rfl⟩ := e
    exact .lst (.inl (.inl q)) (drs_of xs vs ds r e1)
  | dk kvs =>
    simp only [RW] at h
    obtain ⟨a, vs, rfl, q, r⟩ := h
    simp only [MV.toR] at e
    exact dkR_of q r e
  | dt _ => simp [MV.toR] at e
  | _ => exact dr_of _ _ _ h e
mutual
theorem noDict : ∀ (x : MV) (d : PyData), x.toD = some d → d.hasDict = false
  | .non, d, e => by simp only [MV.toD, Option.some.injEq] at e; subst e; simp [PyData.hasDict]
  | .bl b, d, e => by simp only [MV.toD, Option.some.injEq] at e; subst e; simp [PyData.hasDict]
  | .int b, d, e => by simp only [MV.toD, Option.some.injEq] at e; subst e; simp [PyData.hasDict]
  | .str b, d, e => by simp only [MV.toD, Option.some.injEq] at e; subst e; simp [PyData.hasDict]
  | .tup xs, d, e => by
    simp only [MV.toD, Option.map_eq_some_iff] at e
    obtain ⟨ds, e1, rfl⟩ := e
    simpa only [PyData.hasDict] using noDicts xs ds e1
  | .lst xs, d, e => by
    simp only [MV.toD, Option.map_eq_some_iff] at e
    obtain ⟨ds, e1, rfl⟩ := e
    simpa only [PyData.hasDict] using noDicts xs ds e1
  | .scr xs, d, e => by
    simp only [MV.toD, Option.map_eq_some_iff] at e
    obtain ⟨ds, e1, rfl⟩ := e
    simpa only [PyData.hasDict] using noDicts xs ds e1
  | .dk _, d, e => by simp [MV.toD] at e
  | .dt _, d, e => by simp [MV.toD] at e
  | .ref _, d, e => by simp [MV.toD] at e
theorem noDicts : ∀ (xs : List MV) (ds : List PyData), toDs xs = some ds → PyData.hasDictAll ds = false
  | [], ds, e => by simp only [toDs, Option.some.injEq] at e; subst e; simp [PyData.hasDictAll]
  | x :: xs, ds, e => by
    simp only [toDs] at e
    split at e
    · rename_i a b h1 h2
      simp only [Option.some.injEq] at e; subst e
      simp only [PyData.hasDictAll, noDict x a h1, noDicts xs b h2, Bool.or_self]
    · cases e
end
theorem RKs.len : ∀ {kvs : List (Key × MV)} {ws : List (Key × V)}, RKs p H kvs ws → ws.length = kvs.length
  | [], ws, r => by simp only [RKs] at r; subst r; rfl
  | (k, x) :: kvs, ws, r => by
    simp only [RKs] at r
    obtain ⟨v, r2, rfl, _, h2⟩ := r
    simp [RKs.len h2]
theorem core_call {o : Op} {bn : Str × Bool × String} {xs : List MV} {y : MV} {vs : List V} (ho : bName o = some bn) (S : Sit p s σ H) (h : RWs p H xs vs) (e : opV o xs = some y) (c : Cont p s σ H y Q) : rCall p.K o vs H Q := by
  cases o <;> simp only [bName, reduceCtorEq] at ho <;> simp only [opV] at e
  case len =>
    obtain ⟨x, v, rfl, h1, e⟩ := one_some h e
    have seq : (items? x).map (fun xs => MV.int xs.length) = some y → rLenU p.K [v] H Q := fun e => by
      obtain ⟨ys, e1, rfl⟩ := Option.map_eq_some_iff.mp e
      obtain ⟨a, ws, rfl, q, r⟩ := h1.rows e1
      exact .inl ⟨a, ws, rfl, q, by rw [r.len]; exact c.at S (by simp [RV])⟩
    cases x with
    | str z =>
      simp only [lenV] at e
      split at e
      · rename_i hz
        simp only [Option.some.injEq] at e; subst e
        exact .inr (.inl ⟨z, by rw [h1.str], hz, c.at S (by simp [RV])⟩)
      · cases e
    | dk kvs =>
      simp only [lenV, Option.some.injEq] at e; subst e
      obtain ⟨a, ws, rfl, q, r⟩ := h1
      have hl := r.len
      exact .inr (.inr ⟨a, ws, rfl, q, by rw [hl]; exact c.at S (by simp [RV])⟩)
    | tup z => exact seq (by simpa [lenV] using e)
    | lst z => exact seq (by simpa [lenV] using e)
    | scr z => exact seq (by simpa [lenV] using e)
    | _ => simp [lenV, items?] at e
  case int1 =>
    obtain ⟨x, v, rfl, h1, e⟩ := one_some h e
    unfold intV at e
    split at e
    · simp only [Option.some.injEq] at e; subst e
      exact .inl ⟨_, by rw [h1.int], c.at S (by simp [RV])⟩
    · simp only [Option.some.injEq] at e; subst e
      exact .inr ⟨_, by rw [h1.bl], c.at S (by simp [RV])⟩
    · cases e
  case abs =>
    obtain ⟨x, v, rfl, h1, e⟩ := one_some h e
    unfold unI at e
    split at e
    · simp only [Option.some.injEq] at e; subst e
      exact ⟨_, by rw [h1.int], c.at S (by simp [RV])⟩
    · cases e
  case max2 =>
    obtain ⟨x, z, v, w, rfl, h1, h2, e⟩ := two_some h e
    obtain ⟨i, j, k, rfl, rfl, e1, rfl⟩ := arI_some e
    simp only [Option.some.injEq] at e1; subst e1
    exact ⟨i, j, by rw [h1.int, h2.int], c.at S (by simp [RV])⟩
  case min2 =>
    obtain ⟨x, z, v, w, rfl, h1, h2, e⟩ := two_some h e
    obtain ⟨i, j, k, rfl, rfl, e1, rfl⟩ := arI_some e
    simp only [Option.some.injEq] at e1; subst e1
    exact ⟨i, j, by rw [h1.int, h2.int], c.at S (by simp [RV])⟩
  case sum =>
    obtain ⟨x, v, rfl, h1, e⟩ := one_some h e
    obtain ⟨ys, e1, e2⟩ := Option.bind_eq_some_iff.mp e
    obtain ⟨ns, e3, rfl⟩ := Option.map_eq_some_iff.mp e2
    obtain ⟨a, ws, rfl, q, r⟩ := h1.rows e1
    rw [ints_of e3] at r
    rw [RVs.of_ints r] at q
    rcases q with q | q
    · exact .inl ⟨a, ns, rfl, q, c.at S (by simp [RV])⟩
    · exact .inr ⟨a, ns, rfl, q, c.at S (by simp [RV])⟩
  case repr =>
    obtain ⟨x, v, rfl, h1, e⟩ := one_some h e
    unfold reprV at e
    split at e
    · rename_i d e1
      split at e
      · rename_i hk
        simp only [okR, Bool.and_eq_true, decide_eq_true_eq] at hk
        simp only [Option.some.injEq] at e; subst e
        exact .inl ⟨v, d, rfl, h1.dp e1, hk.1.1, hk.1.2, hk.2, noDict _ _ e1, c.at S (by simp [RV])⟩
      · cases e
    · obtain ⟨d, e1, e2⟩ := Option.bind_eq_some_iff.mp e
      split at e2
      · rename_i hk
        simp only [okR, Bool.and_eq_true, decide_eq_true_eq] at hk
        simp only [Option.some.injEq] at e2; subst e2
        exact .inr ⟨v, d, rfl, h1.dr e1, hk.1.1, hk.1.2, hk.2, c.at S (by simp [RV])⟩
      · cases e2
  case tuple =>
    obtain ⟨x, v, rfl, h1, e⟩ := one_some h e
    obtain ⟨ys, e1, rfl⟩ := Option.map_eq_some_iff.mp e
    obtain ⟨a, ws, rfl, q, r⟩ := h1.rowsH e1
    rcases q with q | q
    · exact ⟨a, ws, rfl, .inl ⟨q, c.tup S r⟩⟩
    · exact ⟨a, ws, rfl, .inr ⟨SqT.of q, c.at S (by simp only [RV]; exact ⟨a, ws, rfl, q, r⟩)⟩⟩
  case str1 =>
    obtain ⟨x, v, rfl, h1, e⟩ := one_some h e
    unfold strV at e
    split at e
    · split at e
      · rename_i hz
        simp only [Option.some.injEq] at e; subst e
        exact .inl ⟨_, by rw [h1.int], hz, c.at S (by simp [RV])⟩
      · cases e
    · simp only [Option.some.injEq] at e; subst e
      exact .inr ⟨_, by rw [h1.str], c.at S (by simp [RV])⟩
    · cases e
  case maxL =>
    obtain ⟨x, v, rfl, h1, e⟩ := one_some h e
    obtain ⟨ys, e1, e2⟩ := Option.bind_eq_some_iff.mp e
    obtain ⟨ns, e3, e4⟩ := Option.bind_eq_some_iff.mp e2
    obtain ⟨a, ws, rfl, q, r⟩ := h1.rows e1
    rw [ints_of e3] at r
    rw [RVs.of_ints r] at q
    cases ns with
    | nil => cases e4
    | cons n ns =>
      simp only [Option.some.injEq] at e4; subst e4
      rcases q with q | q
      · exact .inl ⟨a, n :: ns, rfl, q, by simp, fun m m1 m2 => by rw [← fold_max ns n m m1 m2]; exact c.at S (by simp [RV])⟩
      · exact .inr ⟨a, n, ns, rfl, q, c.at S (by simp [RV])⟩
  case minL =>
    obtain ⟨x, v, rfl, h1, e⟩ := one_some h e
    obtain ⟨ys, e1, e2⟩ := Option.bind_eq_some_iff.mp e
    obtain ⟨ns, e3, e4⟩ := Option.bind_eq_some_iff.mp e2
    obtain ⟨a, ws, rfl, q, r⟩ := h1.rows e1
    rw [ints_of e3] at r
    rw [RVs.of_ints r] at q
    cases ns with
    | nil => cases e4
    | cons n ns =>
      simp only [Option.some.injEq] at e4; subst e4
      rcases q with q | q
      · exact .inl ⟨a, n :: ns, rfl, q, by simp, fun m m1 m2 => by rw [← fold_min ns n m m1 m2]; exact c.at S (by simp [RV])⟩
      · exact .inr ⟨a, n, ns, rfl, q, c.at S (by simp [RV])⟩
end
end Py

-- text PyF
set_option Elab.async false
set_option linter.all false
set_option maxRecDepth 100000
set_option maxHeartbeats 4000000
namespace Py
open PySem PySem.Spec PyProof.Rows L2

/-! ### defs, called where no guard stands -/
section
variable (P : Program) (w : World) (K : PySem.W.Frag) (mg : Str → Option Value) (base : Heap)
/-- the def at f keeps its promise, where the calls around bear no guard; nothing is raised -/
structure FnG (k : Nat) (f : Addr) (fd : FuncData) (ps : List Str) (sp : List V → Hp → VK → Prop) : Prop where
  len : ∀ vs H Q, sp vs H Q → vs.length = ps.length
  run : ∀ (A : Around) (outer : List PySem.Env) (s : Shared) (H : Hp) (args : Args) (us : List Value) (vs : List V) (Q : VK), A.guards = some [] → Room k A →
    Env0 P w K mg base A outer s H → BindsTo s fd args (ps.zip us) → Vals vs us → sp vs H Q →
    codeAny (model P w) A (.call (.ref f) args) (L2.CR CX0 outer P w H s Q E0) s
end
section
variable {P : Program} {w : World} {K : PySem.W.Frag} {mg : Str → Option Value} {base : Heap} {k : Nat} {f : Addr} {fd : FuncData} {ps : List Str} {sp : List V → Hp → VK → Prop}
theorem room2 {k : Nat} {A : Around} (r : Room (k + 1) A) (env : PySem.Env) : Room k (A.deeper env).in1.in1 :=
  ⟨r.hd, by have := r.dp; show A.depth + 1 + 3 * k + 5 < _; omega, by have := r.un; show A.units + 3 + 1 + 1 + 16 * k + 200 < _; omega⟩
theorem FnG.of {x qual : Str} {st : Stmt} {N : List Str} (F : Fun K x qual st f fd) (sc : FnScope N ps (defScope st)) (len : ∀ vs H Q, sp vs H Q → vs.length = ps.length)
    (body : ∀ (cdv : Value) (A : Around) (outer : List PySem.Env) (s : Shared) (H : Hp) (vs : List V) (Q : VK),
      A.guards = some [] → Room k (A.deeper (envOfC qual (defScope st) s.heap.objs.size f cdv)) → Room k (A.deeper (envOfC qual (defScope st) s.heap.objs.size f cdv)).in1.in1 → sp vs H Q →
      ∃ t, PSs (cxOf CX0 P w K mg base N qual (defScope st) f cdv A outer s H E0).nox (defBody st) t ∧ t { nx := fun _ G => Q .non G, rt := Q } (start N vs) H) :
    FnG P w K mg base (k + 1) f fd ps sp := by
  obtain ⟨oc, od, kV, doc, pm, an, cdv, ct, osl, rfl, lk, hcd⟩ := F.ex
  constructor
  · exact len
  · intro A outer s H args us vs Q hg hr e0 hb r hsp
    have hl := len _ _ _ hsp
    have inK : K.In s.heap := e0.mod.kin.keeps fun b o e => (e0.bs b o e).1
    have noL : s.heap.NoLimit := e0.mod.nolimit.keeps fun b o e => (e0.bs b o e).1
    refine codeAny_call_function hr.depth (inK _ _ lk) rfl sc.co sc.gen rfl (PySem.W.codeRec_of inK hcd) (hb _ _ _ _ ?_)
    refine wpAny_newFunctionEnv_cells sc.kind ?_ fun env he s1 x => ?_
    · rintro ⟨n, v⟩ hy
      rcases sc.par n (List.of_mem_zip hy).1 with q | q
      · exact .inl q
      · exact .inr ⟨q, PySem.W.cellsFrom_some _ _ _ (.inl q)⟩
    · subst he
      refine ⟨noL.keeps x.toInCall.keep, codeAny_func ?_⟩
      obtain ⟨t, ht, hq⟩ := body cdv A outer s H vs Q hg (hr.deeper _) (room2 hr _) hsp
      have I := inv_start (CX := CX0) (P := P) (w := w) (K := K) (mg := mg) (base := base) (qual := qual) (f := f) (cd := cdv) (E := E0) sc hr.hd e0 hl r x
      refine wpAny_mono (ht.nox.run [] s1 (start N vs) H _ I hq) (fun fl s' hs => ?_) fun e s' hs => hs
      cases fl with
      | ret u =>
        obtain ⟨v, σ2, H2, J, rv, q⟩ := hs
        exact ⟨v, H2, J.os, J.bare, J.base, J.hok, rv, q⟩
      | next =>
        obtain ⟨σ2, H2, J, q⟩ := hs
        exact ⟨.non, H2, J.os, J.bare, J.base, J.hok, rfl, q⟩
      | brk => obtain ⟨_, _, _, q⟩ := hs; exact False.elim q
      | cont => obtain ⟨_, _, _, q⟩ := hs; exact False.elim q
theorem FnG.mono {j : Nat} (F : FnG P w K mg base j f fd ps sp) (h : j ≤ k) : FnG P w K mg base k f fd ps sp :=
  ⟨F.len, fun A outer s H args us vs Q hg hr => F.run A outer s H args us vs Q hg (hr.mono h)⟩
end
/-! ### .. and defs that may raise: E is what is wished of what they let out -/
section
variable (P : Program) (w : World) (K : PySem.W.Frag) (mg : Str → Option Value) (base : Heap)
structure FnX (k : Nat) (f : Addr) (fd : FuncData) (ps : List Str) (sp : List V → Hp → VK → XK → Prop) : Prop where
  len : ∀ vs H Q E, sp vs H Q E → vs.length = ps.length
  run : ∀ (A : Around) (outer : List PySem.Env) (s : Shared) (H : Hp) (args : Args) (us : List Value) (vs : List V) (Q : VK) (E : XK), A.guards = some [] → Room k A →
    Env0 P w K mg base A outer s H → BindsTo s fd args (ps.zip us) → Vals vs us → sp vs H Q E →
    codeAny (model P w) A (.call (.ref f) args) (L2.CR (L2.CX P w) outer P w H s Q E) s
end
section
variable {P : Program} {w : World} {K : PySem.W.Frag} {mg : Str → Option Value} {base : Heap} {k : Nat} {f : Addr} {fd : FuncData} {ps : List Str} {sp : List V → Hp → VK → XK → Prop}
/-- where nothing is let out -/
theorem FnX.g (F : FnX P w K mg base k f fd ps sp) : FnG P w K mg base k f fd ps (fun vs H Q => sp vs H Q E0) := by
  refine ⟨fun vs H Q h => F.len vs H Q E0 h, fun A outer s H args us vs Q hg hr e0 hb r hsp => codeAny_mono (F.run A outer s H args us vs Q E0 hg hr e0 hb r hsp) fun z s' hz => ?_⟩
  match z, hz with
  | .error e, hz =>
    obtain ⟨_, _, _, _, _, _, _, _, _, _, _, _, q⟩ := hz
    exact q.elim
  | .ok (.ret u), hz => exact hz
  | .ok .next, hz => exact hz
  | .ok .brk, hz => exact hz
  | .ok .cont, hz => exact hz
theorem FnX.of {x qual : Str} {st : Stmt} {N : List Str} (F : Fun K x qual st f fd) (sc : FnScope N ps (defScope st)) (len : ∀ vs H Q E, sp vs H Q E → vs.length = ps.length)
    (body : ∀ (cdv : Value) (A : Around) (outer : List PySem.Env) (s : Shared) (H : Hp) (vs : List V) (Q : VK) (E : XK),
      A.guards = some [] → Room k (A.deeper (envOfC qual (defScope st) s.heap.objs.size f cdv)) → Room k (A.deeper (envOfC qual (defScope st) s.heap.objs.size f cdv)).in1.in1 → sp vs H Q E →
      ∃ t, PSs (cxOf (L2.CX P w) P w K mg base N qual (defScope st) f cdv A outer s H E) (defBody st) t ∧ t { nx := fun _ G => Q .non G, rt := Q } (start N vs) H) :
    FnX P w K mg base (k + 1) f fd ps sp := by
  obtain ⟨oc, od, kV, doc, pm, an, cdv, ct, osl, rfl, lk, hcd⟩ := F.ex
  constructor
  · exact len
  · intro A outer s H args us vs Q E hg hr e0 hb r hsp
    have hl := len _ _ _ _ hsp
    have inK : K.In s.heap := e0.mod.kin.keeps fun b o e => (e0.bs b o e).1
    have noL : s.heap.NoLimit := e0.mod.nolimit.keeps fun b o e => (e0.bs b o e).1
    refine codeAny_call_function hr.depth (inK _ _ lk) rfl sc.co sc.gen rfl (PySem.W.codeRec_of inK hcd) (hb _ _ _ _ ?_)
    refine wpAny_newFunctionEnv_cells sc.kind ?_ fun env he s1 x => ?_
    · rintro ⟨n, v⟩ hy
      rcases sc.par n (List.of_mem_zip hy).1 with q | q
      · exact .inl q
      · exact .inr ⟨q, PySem.W.cellsFrom_some _ _ _ (.inl q)⟩
    · subst he
      refine ⟨noL.keeps x.toInCall.keep, codeAny_func ?_⟩
      obtain ⟨t, ht, hq⟩ := body cdv A outer s H vs Q E hg (hr.deeper _) (room2 hr _) hsp
      have I := inv_start (CX := L2.CX P w) (P := P) (w := w) (K := K) (mg := mg) (base := base) (qual := qual) (f := f) (cd := cdv) (E := E) sc hr.hd e0 hl r x
      refine wpAny_mono (ht.run [] s1 (start N vs) H _ I hq) (fun fl s' hs => ?_) fun e s' hs => hs
      cases fl with
      | ret u =>
        obtain ⟨v, σ2, H2, J, rv, q⟩ := hs
        exact ⟨v, H2, J.os, J.bare, J.base, J.hok, rv, q⟩
      | next =>
        obtain ⟨σ2, H2, J, q⟩ := hs
        exact ⟨.non, H2, J.os, J.bare, J.base, J.hok, rfl, q⟩
      | brk => obtain ⟨_, _, _, q⟩ := hs; exact False.elim q
      | cont => obtain ⟨_, _, _, q⟩ := hs; exact False.elim q
theorem FnX.mono {j : Nat} (F : FnX P w K mg base j f fd ps sp) (h : j ≤ k) : FnX P w K mg base k f fd ps sp :=
  ⟨F.len, fun A outer s H args us vs Q E hg hr => F.run A outer s H args us vs Q E hg (hr.mono h)⟩
end
section
variable {X : Cx} {k : Nat} {f : Addr} {fd : FuncData} {ps : List Str} {sp : List V → Hp → VK → XK → Prop} {W : WX}
theorem FnX.ends {pins : List (Addr × Obj)} {σ : L2.St} {H : Hp} {s : Shared} {Q : VK} {args : List Value} {kw : List (Str × Value)} {us : List Value} {vs : List V}
    (F : FnX X.prog X.w X.K X.mg X.base k f fd ps sp) (tk : Takes X W) (hg : X.A.guards = some []) (hr : Room k X.A) (hb : BindsTo s fd ⟨args, kw⟩ (ps.zip us))
    (I : Inv X pins σ H s) (r : Vals vs us) (h : sp vs H Q (WE W σ)) : wpAny (model X.prog X.w) X.A (call (.ref f) args kw) (EP X pins σ Q) X.xe s := by
  refine wpAny_call (codeAny_mono (F.run X.A X.stack s H ⟨args, kw⟩ us vs Q (WE W σ) hg hr I.env0 hb r h) fun r s' hq => ?_)
  match r, hq with
  | .error e, hq => exact passAt tk σ pins H s e s' I hq
  | .ok (.ret u), hq => exact I.after hq
  | .ok .next, hq => exact False.elim hq
  | .ok .brk, hq => exact False.elim hq
  | .ok .cont, hq => exact False.elim hq
variable {x : Str} {p pos : Pos} {t tk : TA}
def noStar : List Expr → Bool
  | [] => true
  | .Starred _ _ :: _ => false
  | _ :: r => noStar r
theorem star_cons {e : Expr} {es : List Expr} (env : PySem.Env) (h : noStar (e :: es) = true) : starEach (e :: es) env = (false, eval e env) :: starEach es env ∧ noStar es = true := by
  cases e <;> first | (simp [noStar] at h; done) | exact ⟨rfl, h⟩
theorem noStar_any : ∀ {es : List Expr} (pos : Pos) (env : PySem.Env), noStar es = true → (backTo pos (starEach es env)).any (·.1) = false
  | [], _, _, _ => rfl
  | e :: es, pos, env, h => by
    obtain ⟨h1, h2⟩ := star_cons env h
    rw [h1]
    show (false || (backTo pos (starEach es env)).any (·.1)) = false
    rw [noStar_any pos env h2]
    rfl
/-! ### readings in a row -/
inductive PEs (X : Cx) : List Expr → List TE → Prop where
  | nil : PEs X [] []
  | cons {e : Expr} {t : TE} {es : List Expr} {ts : List TE} : PE X e t → PEs X es ts → PEs X (e :: es) (t :: ts)
def seqT : List TE → TA
  | [], σ, H, Q => Q [] H
  | t :: ts, σ, H, Q => t σ H fun v G => seqT ts σ G fun vs J => Q (v :: vs) J
theorem PEs.pa : ∀ {es : List Expr} {ts : List TE}, PEs X es ts → noStar es = true → PA X es (seqT ts)
  | _, _, .nil, _ => pa_nil
  | _, _, .cons h r, ns => by
    obtain ⟨h1, h2⟩ := star_cons X.env ns
    exact pa_cons h (r.pa h2) h1
theorem PEs.pk : ∀ {kws : List Keyword} {ts : List TE}, PEs X (kws.map Keyword.value) ts → PK X kws (seqT ts)
  | [], _, h => by cases h; exact pk_nil
  | ⟨n, e, kp⟩ :: kws, _, h => by
    cases h with
    | cons h r => exact pk_cons h r.pk
/-- .. and how many values come -/
theorem PEs.run : ∀ {es : List Expr} {ts : List TE}, PEs X es ts → noStar es = true → ∀ (pos : Pos) (pins : List (Addr × Obj)) (s : Shared) (σ : L2.St) (H : Hp) (Q : List V → Hp → Prop), Inv X pins σ H s → seqT ts σ H Q →
    wpAny (model X.prog X.w) X.A (spliced (backTo pos (starEach es X.env))) (fun us s' => us.length = es.length ∧ AP X pins σ Q us s') X.xe s
  | _, _, .nil, _, pos, pins, s, σ, H, Q, I, h => Calls.spliced_nil ⟨rfl, [], H, I, .nil, h⟩
  | e :: es, _, .cons h r, ns, pos, pins, s, σ, H, Q, I, q => by
    obtain ⟨h1, h2⟩ := star_cons X.env ns
    rw [h1]
    refine Calls.spliced_cons (thn (h.run pins s σ H _ I q) fun u s1 ⟨x, G, J, r1, q1⟩ => ?_)
    exact thn (r.run h2 pos pins s1 σ G _ J q1) fun us s2 ⟨hl, xs, G2, J2, r2, q2⟩ => ⟨by simp [hl], x :: xs, G2, J2, .cons r1 r2, q2⟩
theorem PEs.runK : ∀ {kws : List Keyword} {ts : List TE}, PEs X (kws.map Keyword.value) ts → ∀ (pos : Pos) (pins : List (Addr × Obj)) (s : Shared) (σ : L2.St) (H : Hp) (Q : List V → Hp → Prop), Inv X pins σ H s → seqT ts σ H Q →
    wpAny (model X.prog X.w) X.A (evalAll ((backToKw pos (keywordEach kws X.env)).map (·.2))) (fun us s' => us.length = kws.length ∧ AP X pins σ Q us s') X.xe s
  | [], _, h, pos, pins, s, σ, H, Q, I, q => by cases h; exact wpAny_evalAll_nil ⟨rfl, [], H, I, .nil, q⟩
  | ⟨n, e, kp⟩ :: kws, _, h, pos, pins, s, σ, H, Q, I, q => by
    cases h with
    | cons h r =>
      refine wpAny_evalAll_cons (wpAny_bind (thn (h.run pins s σ H _ I q) fun u s1 ⟨x, G, J, r1, q1⟩ => ?_))
      refine wpAny_bind (wpAny_standAt (wpAny_pure ?_))
      exact thn (r.runK pos pins s1 σ G _ J q1) fun us s2 ⟨hl, xs, G2, J2, r2, q2⟩ => ⟨by simp [hl], x :: xs, G2, J2, .cons r1 r2, q2⟩
theorem PEs.split : ∀ {es fs : List Expr} {ts : List TE}, PEs X (es ++ fs) ts → ∃ t1 t2, ts = t1 ++ t2 ∧ PEs X es t1 ∧ PEs X fs t2
  | [], fs, ts, h => ⟨[], ts, rfl, .nil, h⟩
  | e :: es, fs, _, h => by
    cases h with
    | cons h r =>
      obtain ⟨t1, t2, rfl, a, b⟩ := r.split
      exact ⟨_ :: t1, t2, rfl, .cons h a, b⟩
theorem seqT_app : ∀ (t1 t2 : List TE) (σ : L2.St) (H : Hp) (Q : List V → Hp → Prop), seqT (t1 ++ t2) σ H Q = seqT t1 σ H fun vs G => seqT t2 σ G fun ws J => Q (vs ++ ws) J
  | [], t2, σ, H, Q => rfl
  | t :: t1, t2, σ, H, Q => by
    show (t σ H fun v G => seqT (t1 ++ t2) σ G fun vs J => Q (v :: vs) J) = _
    simp only [seqT_app t1 t2]
    rfl
/-- values in another order -/
def permL {α : Type} (perm : List Nat) (xs : List α) : List α := perm.filterMap (xs[·]?)
theorem Vals.perm {vs : List V} {us : List Value} (r : Vals vs us) : ∀ perm : List Nat, Vals (permL perm vs) (permL perm us)
  | [] => .nil
  | j :: l => by
    have ih := Vals.perm r l
    unfold permL at ih ⊢
    cases e : vs[j]? with
    | none =>
      have e2 := Vals.none_of r e
      simpa only [List.filterMap_cons, e, e2] using ih
    | some v =>
      obtain ⟨u, e2, rv⟩ := Vals.get r e
      simp only [List.filterMap_cons, e, e2]
      exact .cons rv ih
/-- how the arguments of a call bind: some by places, the others by the names ks; perm: the parameters' order -/
def BindsK (K : PySem.W.Frag) (fd : FuncData) (ps : List Str) (n : Nat) (ks : List Str) (perm : List Nat) : Prop :=
  ∀ (s : Shared) (us ws : List Value), K.In s.heap → us.length = n → ws.length = ks.length → BindsTo s fd ⟨us, ks.zip ws⟩ (ps.zip (permL perm (us ++ ws)))
def kwNames : List Keyword → Option (List Str)
  | [] => some []
  | ⟨some n, _, _⟩ :: r => (kwNames r).map (n :: ·)
  | ⟨none, _, _⟩ :: _ => none
theorem kw_all : ∀ {kws : List Keyword} {ks : List Str} (pos : Pos) (env : PySem.Env), kwNames kws = some ks →
    (backToKw pos (keywordEach kws env)).all (·.1.isSome) = true ∧ (backToKw pos (keywordEach kws env)).filterMap (·.1) = ks ∧ (backToKw pos (keywordEach kws env)).any (·.1.isNone) = false
  | [], ks, pos, env, h => by simp only [kwNames, Option.some.injEq] at h; subst h; exact ⟨rfl, rfl, rfl⟩
  | ⟨some n, e, kp⟩ :: r, ks, pos, env, h => by
    simp only [kwNames] at h
    obtain ⟨ls, h1, rfl⟩ := Option.map_eq_some_iff.mp h
    obtain ⟨a, b, c⟩ := kw_all pos env h1
    refine ⟨?_, ?_, ?_⟩
    · show (true && (backToKw pos (keywordEach r env)).all (·.1.isSome)) = true
      rw [a]; rfl
    · show n :: (backToKw pos (keywordEach r env)).filterMap (·.1) = n :: ls
      rw [b]
    · show (false || (backToKw pos (keywordEach r env)).any (·.1.isNone)) = false
      rw [c]; rfl
  | ⟨none, e, kp⟩ :: r, ks, pos, env, h => by cases h
/-- f() -/
theorem pe_callG0 (F : FnX X.prog X.w X.K X.mg X.base k f fd ps sp) (tk : Takes X W) (hg : X.A.guards = some []) (hr : Room k X.A) (gl : Gl X x) (hm : X.mg x = some (.ref f)) (hk : PySem.W.keepIn X.K (.ref f) = true)
    {perm : List Nat} (hb : BindsK X.K fd ps 0 [] perm) (hdb : (x == ("__debug__" : Str)) = false) : PE X (.Call (.Name x p) [] [] pos) (fun σ H Q => sp (permL perm []) H Q (WE W σ)) := by
  constructor
  intro pins s σ H Q I h
  refine wpAny_Call_Name_kw (ld_glob I gl hm ?_ hdb)
  exact PySem.W.callWith_K0 I.kIn hk (F.ends (us := permL perm []) tk hg hr (hb s [] [] I.kIn rfl rfl) I (Vals.perm (vs := []) .nil perm) h)
/-- f(e, ..) -/
theorem pe_callG {e : Expr} {es : List Expr} {ts : List TE} (F : FnX X.prog X.w X.K X.mg X.base k f fd ps sp) (tk : Takes X W) (hg : X.A.guards = some []) (hr : Room k X.A) (gl : Gl X x) (hm : X.mg x = some (.ref f)) (hk : PySem.W.keepIn X.K (.ref f) = true)
    {perm : List Nat} (hb : BindsK X.K fd ps (e :: es).length [] perm) (ns : noStar (e :: es) = true) (hdb : (x == ("__debug__" : Str)) = false) (ha : PEs X (e :: es) ts) :
    PE X (.Call (.Name x p) (e :: es) [] pos) (fun σ H Q => seqT ts σ H fun vs G => sp (permL perm vs) G Q (WE W σ)) := by
  constructor
  intro pins s σ H Q I h
  refine wpAny_Call_Name_kw (ld_glob I gl hm ?_ hdb)
  obtain ⟨h1, h2⟩ := star_cons X.env ns
  refine PySem.W.callWith_K (h₀ := X.base) I.ok.mod.kin hk (thn (ha.run ns pos pins s σ H _ I h) fun us s1 ⟨hn, vs, G, J, r, q⟩ => ⟨J.kIn, ?_⟩) h1 (noStar_any pos X.env h2)
  have b := hb s1 us [] J.kIn hn rfl
  rw [List.append_nil] at b
  exact F.ends tk hg hr b J (Vals.perm r perm) q
/-- f(e, .., k = e, ..) -/
theorem pe_callGK {es : List Expr} {kws : List Keyword} {ks : List Str} {ts : List TE} (F : FnX X.prog X.w X.K X.mg X.base k f fd ps sp) (tk : Takes X W) (hg : X.A.guards = some []) (hr : Room k X.A) (gl : Gl X x) (hm : X.mg x = some (.ref f)) (hk : PySem.W.keepIn X.K (.ref f) = true)
    {perm : List Nat} (hb : BindsK X.K fd ps es.length ks perm) (ns : noStar es = true) (hdb : (x == ("__debug__" : Str)) = false) (hks : kwNames kws = some ks) (ha : PEs X (es ++ kws.map Keyword.value) ts) :
    PE X (.Call (.Name x p) es kws pos) (fun σ H Q => seqT ts σ H fun vs G => sp (permL perm vs) G Q (WE W σ)) := by
  constructor
  intro pins s σ H Q I h
  obtain ⟨t1, t2, rfl, ha1, ha2⟩ := ha.split
  rw [seqT_app] at h
  refine wpAny_Call_Name_kw (ld_glob I gl hm ?_ hdb)
  obtain ⟨k1, k2, k3⟩ := kw_all pos X.env hks
  have kl : kws.length = ks.length := by
    clear h ha2 ha ns hb k1 k2 k3
    induction kws generalizing ks with
    | nil => simp only [kwNames, Option.some.injEq] at hks; subst hks; rfl
    | cons kw kws ih =>
      obtain ⟨n, e, kp⟩ := kw
      cases n with
      | none => cases hks
      | some n =>
        simp only [kwNames] at hks
        obtain ⟨ls, h1, rfl⟩ := Option.map_eq_some_iff.mp hks
        simp [ih h1]
  cases es with
  | nil =>
    cases ha1
    refine PySem.W.callWith_KW0 (h₀ := X.base) I.ok.mod.kin hk k1 ?_ (by rw [k3]; rfl)
    refine thn (ha2.runK pos pins s σ H _ I h) fun ws s2 ⟨hn, zs, G, J, r, q⟩ => ⟨J.kIn, ?_⟩
    rw [k2]
    have b := hb s2 [] ws J.kIn rfl (by rw [hn, kl])
    exact F.ends tk hg hr b J (Vals.perm r perm) q
  | cons e es =>
    obtain ⟨h1, h2⟩ := star_cons X.env ns
    refine PySem.W.callWith_KW (h₀ := X.base) I.ok.mod.kin hk k1 (thn (ha1.run ns pos pins s σ H _ I h) fun us s1 ⟨hn, vs, G, J, r, q⟩ => ?_) (by rw [noStar_any pos X.env ns, k3]; rfl) h1
    refine thn (ha2.runK pos pins s1 σ G _ J q) fun ws s2 ⟨hn2, zs, G2, J2, r2, q2⟩ => ⟨J2.kIn, ?_⟩
    rw [k2]
    have b := hb s2 us ws J2.kIn hn (by rw [hn2, kl])
    exact F.ends tk hg hr b J2 (Vals.perm (r.append r2) perm) q2
end
end Py

-- text PyG
set_option Elab.async false
set_option linter.all false
set_option maxRecDepth 100000
set_option maxHeartbeats 4000000
namespace Py
open PySem PySem.Spec PyProof.Rows L2

/-! ### the text against the small language -/
/-- a def of the text: its name, its parameters, how it is called by names (how many places, names, order) -/
structure FI where
  nm : Str
  ps : List Str
  kw : List (Nat × List Str × List Nat)
/-- an exception class of the text: its name, its field, of which of the names asked for it is (itself among them) -/
structure XI where
  nm : Str
  fld : Option Str
  ups : List Str
structure Cfg where
  fs : List FI
  bl : List Str
  /-- constants of the module; names that are imported built-ins -/
  gl : List (Str × MV) := []
  im : List (Str × String) := []
  /-- exception classes; names of classes that clauses name or isinstance asks for -/
  xs : List XI := []
  xn : List Str := []
def visB (sc : Scope) (x : Str) : Bool := match sc.names.lookup x with
  | some .local => true
  | some .cell => true
  | some .free => true
  | _ => false
def glB (sc : Scope) (x : Str) : Bool := decide (sc.names.lookup x = some .globalImplicit) && !(x == ("__debug__" : Str))
def nmB (N : List Str) (sc : Scope) (i : Nat) (x : Str) : Bool := decide (N[i]? = some x) && visB sc x && !(x == ("__debug__" : Str)) && !(x == ("__classdict__" : Str))
def cstB : MV → Const → Bool
  | .non, .none => true
  | .bl b, .bool c => b == c
  | .int i, .int j => decide (i = j)
  | .str x, .str y => decide (x = y)
  | _, _ => false
def isSl : Expr → Bool
  | .Slice _ _ _ _ => true
  | _ => false
def isNm : Expr → Bool
  | .Constant .none _ _ => true
  | _ => false
def plainT : Expr → Bool
  | .UnaryOp .Not _ _ => false
  | .BoolOp _ _ _ => false
  | .IfExp _ _ _ _ => false
  | .Compare _ _ _ _ => false
  | _ => true
def isNot : Op → Bool
  | .notN => true
  | _ => false
def isIsN : Op → Bool
  | .isN => true
  | _ => false
def isIdx : Op → Bool
  | .idx => true
  | _ => false
def isNeg : Op → Bool
  | .neg => true
  | _ => false
def isSlc (l u : Bool) : Op → Bool
  | .slcT a b => a == l && b == u
  | _ => false
def isIsi (t : Str) : Op → Bool
  | .isi n => decide (Str.ofString n = t)
  | _ => false
def bopB (o : Op) (op : Operator) : Bool := decide (bop o = some op)
def copB (o : Op) (op : CmpOp) : Bool := decide (cop o = some op)
def cmpO : COp → CmpOp
  | .eq => .Eq | .ne => .NotEq | .lt => .Lt | .le => .LtE | .gt => .Gt | .ge => .GtE
def blB (C : Cfg) (sc : Scope) (x : Str) : Bool := glB sc x && C.bl.contains x && !(x == ("__name__" : Str))
def optL : Option Expr → List Expr
  | some e => [e]
  | none => []
mutual
def chkE (C : Cfg) (N : List Str) : E → Scope → Expr → Bool
  | .var i, sc, ex => match ex with
    | .Name x _ => nmB N sc i x
    | _ => false
  | .cst c, sc, ex => match ex with
    | .Constant k _ _ => cstB c k
    | _ => false
  | .op o a, sc, ex => match ex with
    | .BinOp l op r _ => bopB o op && chkA C N a sc [l, r]
    | .UnaryOp .USub x _ => isNeg o && chkA C N a sc [x]
    | .Compare l [op] [r] _ => (copB o op && !behindInMarks op r && chkA C N a sc [l, r]) || (decide (op = .Is) && isIsN o && isNm r && chkA C N a sc [l]) || (decide (op = .IsNot) && isNot o && isNm r && chkA C N a sc [l])
    | .Subscript x i _ => match i with
      | .Slice lo hi none _ => isSlc lo.isSome hi.isSome o && chkA C N a sc (x :: (optL lo ++ optL hi))
      | .Slice _ _ _ _ => false
      | i => isIdx o && chkA C N a sc [x, i]
    | .Call (.Name x _) args [] _ => match bName o with
      | some (y, t, n) => decide (x = y) && blB C sc x && decide (bootBuiltins x = some (bVal t n)) && noStar args && !args.isEmpty && chkA C N a sc args
      | none => match args with
        | [e, .Name t _] => decide (x = ("isinstance" : Str)) && isIsi t o && blB C sc x && blB C sc t && noStar args && decide (bootBuiltins t = some (match o with | .isi n => .type n | _ => .none)) && chkA C N a sc [e]
        | _ => false
    | _ => false
  | .tup a, sc, ex => match ex with
    | .Tuple es _ _ => noStar es && chkA C N a sc es
    | _ => false
  | .call f a, sc, ex => match ex with
    | .Call (.Name x _) args [] _ => match C.fs[f]? with
      | some d => decide (d.nm = x) && glB sc x && decide (args.length = d.ps.length) && noStar args && !args.isEmpty && chkA C N a sc args
      | none => false
    | _ => false
  | .callK f a perm, sc, ex => match ex with
    | .Call (.Name x _) args kws _ => match C.fs[f]?, kwNames kws with
      | some d, some ks => decide (d.nm = x) && glB sc x && d.kw.contains (args.length, ks, perm) && noStar args && chkA C N a sc (args ++ kws.map Keyword.value)
      | _, _ => false
    | _ => false
  | .ite c a b, sc, ex => match ex with
    | .IfExp t x y _ => chkE C N c sc t && chkE C N a sc x && chkE C N b sc y
    | _ => false
  | .and2 a b, sc, ex => match ex with
    | .BoolOp .And (x :: y :: r) pos => chkE C N a sc x && (match r with
      | [] => chkE C N b sc y
      | _ => chkE C N b sc (.BoolOp .And (y :: r) pos))
    | _ => false
  | .or2 a b, sc, ex => match ex with
    | .BoolOp .Or (x :: y :: r) pos => chkE C N a sc x && (match r with
      | [] => chkE C N b sc y
      | _ => chkE C N b sc (.BoolOp .Or (y :: r) pos))
    | _ => false
  | .not a, sc, ex => match ex with
    | .UnaryOp .Not x _ => chkE C N a sc x
    | _ => false
  | .chain c d x y z, sc, ex => match ex with
    | .Compare l [o1, o2] [m, r] _ => decide (o1 = cmpO c) && decide (o2 = cmpO d) && !behindInMarks o2 r && chkE C N x sc l && chkE C N y sc m && chkE C N z sc r
    | _ => false
  | _, _, _ => false
def chkA (C : Cfg) (N : List Str) : A → Scope → List Expr → Bool
  | .nil, _, es => es.isEmpty
  | .cons e r, sc, es => match es with
    | x :: t => chkE C N e sc x && chkA C N r sc t
    | [] => false
  | .own i r, sc, es => match es with
    | .Name x _ :: t => nmB N sc i x && chkA C N r sc t
    | _ => false
end

end Py

-- text PyXc
set_option Elab.async false
set_option linter.all false
set_option maxRecDepth 100000
set_option maxHeartbeats 4000000
namespace Py
open PySem PySem.Spec PyProof.Rows L2
/-! ### exception classes of the text -/
/-- the class over which they all are: its name stands in the text; B.__init__ is ValueError.__init__ -/
structure XBas (K : PySem.W.Frag) (mg : Str → Option Value) : Prop where
  ex : ∃ C0 : Addr, mg "TripError" = some (.ref C0) ∧ PySem.W.specialIn K (.ref C0) "__getattribute__" = some (some (.builtin "type.__getattribute__")) ∧ PySem.W.readsIn K C0 (.type "type") = true ∧
    PySem.W.findCls K (.ref C0) (.type "type") "__init__" = some (.val (.builtin "ValueError.__init__"))
/-- the text of __init__: B.__init__(self, '..'), then self.f = f if there is a field -/
def IniT (fl : Option Str) (body : List Stmt) : Prop := match fl with
  | none => ∃ p1 p2 p3 p4 p5 p6 j m, (p2.endLine == p5.line) = true ∧ body = [.Expr (.Call (.Attribute (.Name "TripError" p1) "__init__" p2) [.Name "self" p3, .Constant (.str m) j p4] [] p5) p6]
  | some f => ∃ p1 p2 p3 p4 p5 p6 p7 p8 p9 p10 j m, (p2.endLine == p5.line) = true ∧ body = [.Expr (.Call (.Attribute (.Name "TripError" p1) "__init__" p2) [.Name "self" p3, .Constant (.str m) j p4] [] p5) p6, .Assign [.Attribute (.Name "self" p7) f p8] (.Name f p9) p10]
def iniPs (fl : Option Str) : List Str := match fl with
  | none => ["self"]
  | some f => ["self", f]
structure XCls (K : PySem.W.Frag) (mg : Str → Option Value) (xn : List Str) (x : XI) (C : Addr) : Prop where
  gC : mg x.nm = some (.ref C)
  ox : OexC K C
  xf : XfC K C
  ec : ExcC K C
  no : ∀ f, x.fld = some f → PySem.W.findIn K (.ref C) f = some none
  ini : ∃ (fI : Addr) (fd : FuncData) (q : Str) (st : Stmt), PySem.W.findIn K (.ref C) "__init__" = some (some (.ref fI)) ∧ PySem.W.typeIn K (.ref fI) = some (.type "function") ∧ Fun K "__init__" q st fI fd ∧
    FnScope (iniPs x.fld) (iniPs x.fld) (defScope st) ∧ Binds K fd (iniPs x.fld) [] ∧ IniT x.fld (defBody st) ∧ XBas K mg ∧ (defScope st).names.lookup ("TripError" : Str) = some .globalImplicit ∧
    ∀ f, x.fld = some f → f ≠ "self" ∧ (f == ("__debug__" : Str)) = false ∧ (f == ("__classdict__" : Str)) = false
  ask : ∀ n ∈ xn, ∃ (cv : V) (v : Value), ClsV cv v ∧ (mg n = some v ∨ (mg n = none ∧ bootBuiltins n = some v ∧ n ≠ "__name__")) ∧ PySem.W.exmOne K (.ref C) v = some (x.ups.contains n) ∧ PySem.W.kitOne K (.ref C) v = some (x.ups.contains n)
section
variable {X : Cx} {e : Expr} {es : List Expr} {ta : TA}
/-- B.__init__(self, ..) -/
theorem pe_tinit {p1 p2 pos : Pos} (hl : (p2.endLine == pos.line) = true) (hg : Gl X "TripError") (B : XBas X.K X.mg) (ha : PA X (e :: es) ta) (hfew : methodCallForm ((e :: es).length + 0) (backTo pos (starEach (e :: es) X.env)) (backToKw pos (keywordEach [] X.env)) = true := by rfl)
    (he : starEach (e :: es) X.env = (false, eval e X.env) :: starEach es X.env := by rfl) (hpl : (backTo pos (starEach es X.env)).any (·.1) = false := by rfl) :
    PE X (.Call (.Attribute (.Name "TripError" p1) "__init__" p2) (e :: es) [] pos) (tVeI X.K ta) := by
  obtain ⟨C0, hm, hs, hr, hv⟩ := B.ex
  refine ⟨fun pins s σ H Q I h => ?_⟩
  have hc : eval (.Call (.Attribute (.Name "TripError" p1) "__init__" p2) (e :: es) [] pos) X.env = (do
      let ov ← eval (.Name "TripError" p1) X.env
      standAt p2.atName
      let (f, first) ← holding [ov] (getMethod ov "__init__" (do return (← importBound (.Name "TripError" p1) X.env).getD true))
      callWith pos f first (backTo pos (starEach (e :: es) X.env)) (backToKw pos (keywordEach [] X.env))) := by
    show (do let ov ← eval (.Name "TripError" p1) X.env; standAt p2.atName; methodCall _ _ _ _ _ ov _ _ _) = _
    unfold methodCall methodCallPos
    rw [hl]
    unfold calleeOf
    rw [show methodCallForm ((e :: es).length + ([] : List Keyword).length) (backTo pos (starEach (e :: es) X.env)) (backToKw pos (keywordEach [] X.env)) = true from hfew]
    rfl
  refine PySem.W.methodCall_KW (ld_glob I hg hm ?_ (by decide)) hc
  refine PySem.W.method_cls I.kIn hs (PySem.W.cls_value I.kIn hr hv (by decide +kernel) ?_)
  show wpAny _ _ (callWith pos (Value.builtin "ValueError.__init__") [] (backTo pos (starEach (e :: es) X.env)) []) _ _ _
  refine PyProof.Rows.callWith_method1 (thn (ha.run pos pins _ σ H _ (I.tok _) h) fun us s1 ⟨vs, H1, I1, r1, a, C, ws, ev, hl, T, ea, q⟩ => ?_) he hpl
  subst ev
  cases r1 with
  | @cons _ u0 _ ur ra rw' =>
    obtain rfl : u0 = Value.ref a := ra
    have hlen : ur.length ≤ sizeLine := by
      rw [← Paired.length rw', sizeLine_eq]
      omega
    exact oinit_ok T I1 ea hlen fun s' J => ⟨.non, H1, J, rfl, q⟩
end
/-! what __init__ keeps -/
def sp0 (K : PySem.W.Frag) : L2.Sp := fun vs H Q _ => ∃ a C : Addr, vs = [.ref a] ∧ OexC K C ∧ H a = some (exo a C none) ∧ Q .non H
def sp1 (K : PySem.W.Frag) (f : Str) : L2.Sp := fun vs H Q _ => ∃ (a C : Addr) (v : V), vs = [.ref a, v] ∧ OexC K C ∧ PySem.W.findIn K (.ref C) f = some none ∧ H a = some (exo a C none) ∧ ∀ dx, H dx = none → dx ≠ a → Q .non (upd (upd H dx (exd dx [(f, v)])) a (exo a C (some dx)))
def spI (K : PySem.W.Frag) (fl : Option Str) : L2.Sp := match fl with
  | none => sp0 K
  | some f => sp1 K f
section
variable {P : Program} {w : World} {K : PySem.W.Frag} {mg : Str → Option Value} {base : Heap}
theorem ini_ok {q : Str} {st : Stmt} {fI : Addr} {fd : FuncData} {fl : Option Str} (F : Fun K "__init__" q st fI fd) (S : FnScope (iniPs fl) (iniPs fl) (defScope st)) (T : IniT fl (defBody st)) (B : XBas K mg)
    (hb : (defScope st).names.lookup ("TripError" : Str) = some .globalImplicit) (hf : ∀ f, fl = some f → f ≠ "self" ∧ (f == ("__debug__" : Str)) = false ∧ (f == ("__classdict__" : Str)) = false) :
    FnOk P w K mg base (L2.CX P w) 1 fI fd (iniPs fl) (spI K fl) := by
  cases fl with
  | none =>
    obtain ⟨p1, p2, p3, p4, p5, p6, j, m, hl, T⟩ := T
    refine F.okX S (fun vs H Q E ⟨a, C, e, _⟩ => by rw [e]; rfl) fun cdv A outer s H vs Q E hr ⟨a, C, e, T1, ea, q⟩ => ?_
    subst e
    rw [T]
    have vis : Vis (defScope st) "self" := (S.par "self" (by simp [iniPs])).elim .inl fun h => .inr (.inl h)
    refine ⟨_, pss_one (ps_expr (pe_tinit hl (by exact hb) B (pa_cons (pe_var (i := 0) rfl vis) (pa_cons pe_str pa_nil)))), ?_⟩
    exact ⟨.ref a, rfl, a, C, [.str m], rfl, by simp, T1, ea, q⟩
  | some f =>
    obtain ⟨p1, p2, p3, p4, p5, p6, p7, p8, p9, p10, j, m, hl, T⟩ := T
    obtain ⟨f1, f2, f3⟩ := hf f rfl
    refine F.okX S (fun vs H Q E ⟨a, C, v, e, _⟩ => by rw [e]; rfl) fun cdv A outer s H vs Q E hr ⟨a, C, v, e, T1, hno, ea, q⟩ => ?_
    subst e
    rw [T]
    have vis : Vis (defScope st) "self" := (S.par "self" (by simp [iniPs])).elim .inl fun h => .inr (.inl h)
    have visf : Vis (defScope st) f := (S.par f (by simp [iniPs])).elim .inl fun h => .inr (.inl h)
    refine ⟨_, pss_cons (ps_expr (pe_tinit hl (by exact hb) B (pa_cons (pe_var (i := 0) rfl vis) (pa_cons pe_str pa_nil)))) (pss_one (ps_ost (pe_var (i := 0) rfl vis) (pe_var (i := 1) rfl visf f2 f3))), ?_⟩
    exact ⟨.ref a, rfl, a, C, [.str m], rfl, by simp, T1, ea, v, rfl, .ref a, rfl, a, C, rfl, T1, hno, .inl ⟨ea, fun dx n ne => q dx n ne⟩⟩
end
section
variable {X : Cx} {e : Expr} {es : List Expr} {te : TE} {xn : List Str} {x : XI} {C : Addr} {p pos : Pos}
theorem no_pass : Passes (L2.CX X.prog X.w) X (fun _ _ _ => False) := fun _ _ _ _ _ _ _ h => by
  obtain ⟨_, _, _, _, _, _, _, _, _, _, _, _, z⟩ := h
  exact z.elim
/-- a reading, weakened -/
def clo (te : TE) : TE := fun σ H Q' => ∃ Q0, te σ H Q0 ∧ ∀ v G, Q0 v G → Q' v G
theorem pe_clo (h : PE X e te) : PE X e (clo te) := ⟨fun pins s σ H Q I ⟨Q0, q0, im⟩ => wpAny_mono (h.run pins s σ H Q0 I q0) (fun u s' ⟨v, G, J, r, q⟩ => ⟨v, G, J, r, im v G q⟩) fun _ _ z => z⟩
/-- C(e), C with a field -/
theorem pmk_x1 {f : Str} (T : XCls X.K X.mg xn x C) (hf : x.fld = some f) (hr : Room 2 X.A) (hg : Gl X x.nm) (hdb : (x.nm == ("__debug__" : Str)) = false) (he : PE X e te)
    (hs : starEach (e :: []) X.env = (false, eval e X.env) :: starEach [] X.env) :
    PMk X (.Call (.Name x.nm p) [e] [] pos) (fun σ H Q => te σ H fun v H1 => ∀ d, H1 d = none → Q (.ref C) (some d) (upd H1 d (.xd [(f, v)]))) := by
  obtain ⟨fI, fd, q, st, iC, tI, F, S, hb, ti, B, hn, hff⟩ := T.ini
  rw [hf] at S hb ti hff
  have F1 := ini_ok (P := X.prog) (w := X.w) (base := X.base) (mg := X.mg) F S ti B hn hff
  have h := pmk_oex (pos := pos) (p := p) (dvs := []) T.ox iC tI F1 hr hb .nil no_pass hg T.gC (pa_cons (pe_clo he) pa_nil hs) hdb hs rfl
  intro pins s σ H Q I hq
  refine h pins s σ H Q I ⟨_, hq, fun v H1 q1 => ⟨by simp, fun a ha => ⟨a, C, v, rfl, T.ox, T.no f hf, upd_same, fun dx hd ne => ⟨rfl, dx, [(f, v)], upd_same, ?_, ?_, ?_⟩⟩⟩⟩
  · rw [upd_ne ne, upd_same]
  · rw [upd_ne ne] at hd; exact hd
  · have hd' : H1 dx = none := by rw [upd_ne ne] at hd; exact hd
    have e2 : upd (del (upd (upd (upd H1 a (exo a C none)) dx (exd dx [(f, v)])) a (exo a C (some dx))) a) dx (.xd [(f, v)]) = upd H1 dx (.xd [(f, v)]) := by
      funext b
      by_cases h1 : b = dx
      · subst h1; rw [upd_same, upd_same]
      · rw [upd_ne h1, upd_ne h1]
        by_cases h2 : b = a
        · subst h2; rw [del_same, ha]
        · rw [del_ne h2, upd_ne h2, upd_ne h1, upd_ne h2]
    show Q (.ref C) (some dx) (upd (del (upd (upd (upd H1 a (exo a C none)) dx (exd dx [(f, v)])) a (exo a C (some dx))) a) dx (.xd [(f, v)]))
    rw [e2]
    exact q1 dx hd'
/-- C(), C without a field -/
theorem pmk_x0 (T : XCls X.K X.mg xn x C) (hf : x.fld = none) (hr : Room 2 X.A) (hg : Gl X x.nm) (hdb : (x.nm == ("__debug__" : Str)) = false) :
    PMk X (.Call (.Name x.nm p) [] [] pos) (fun σ H Q => Q (.ref C) none H) := by
  obtain ⟨fI, fd, q, st, iC, tI, F, S, hb, ti, B, hn0, hff⟩ := T.ini
  rw [hf] at S hb ti hff
  have F1 := ini_ok (P := X.prog) (w := X.w) (base := X.base) (mg := X.mg) F S ti B hn0 hff
  intro pins s σ H Q I hq
  obtain ⟨nm, q2, N, bs, bm, sn, sub, ab, col, dd, k0, k1, k2, k3, k5, hC, hbm⟩ := T.ox.cls
  refine wpAny_Call_Name_kw (ld_glob I hg T.gC ?_ hdb)
  refine PySem.W.callWith_K0 I.kIn T.ox.kC ?_
  obtain ⟨hp, g, dr, tk, os⟩ := s
  have hsz : hp.objs.size ≤ hp.objs.size + 1 := Nat.le_succ _
  have hn : H (hp.objs.size + 1) = none := I.hok.fresh hsz
  have kk : ∀ b o, hp.get? b = some o → ((hp.push (PySem.W.kdv_tup [])).push (PySem.HandSPX.excO C hp.objs.size)).get? b = some o := fun b o e => Heap.get?_push_of_some _ (Heap.get?_push_of_some _ e)
  have hget : ((hp.push (PySem.W.kdv_tup [])).push (PySem.HandSPX.excO C hp.objs.size)).get? (hp.objs.size + 1) = some (PySem.HandSPX.excO C hp.objs.size) := by heap_get
  have I2 : Inv X pins σ (upd H (hp.objs.size + 1) (exo (hp.objs.size + 1) C none)) ⟨(hp.push (PySem.W.kdv_tup [])).push (PySem.HandSPX.excO C hp.objs.size), g, dr, tk, os⟩ :=
    I.laid (t' := tk) (a := hp.objs.size + 1) (o := exo (hp.objs.size + 1) C none) (h' := (hp.push (PySem.W.kdv_tup [])).push (PySem.HandSPX.excO C hp.objs.size)) kk hsz (exo_ok hget)
  have hsp : spI X.K none [.ref (hp.objs.size + 1)] (upd H (hp.objs.size + 1) (exo (hp.objs.size + 1) C none)) (fun v G => v = .non ∧ G = upd H (hp.objs.size + 1) (exo (hp.objs.size + 1) C none)) (fun _ _ _ => False) := ⟨_, C, rfl, T.ox, upd_same, rfl, rfl⟩
  have b1 := hb ⟨(hp.push (PySem.W.kdv_tup [])).push (PySem.HandSPX.excO C hp.objs.size), g, dr, tk, os⟩ [Value.ref (hp.objs.size + 1)] I2.kIn rfl
  have r2 : Vals [V.ref (hp.objs.size + 1)] [Value.ref (hp.objs.size + 1)] := .cons rfl .nil
  refine wpAny_call (PySem.HandSPX.call_own PySem.F.excBase_ValueError (fun Y => PySem.HandSPX.refsVE_contains Y bm hbm) (I.kIn _ _ hC) (PySem.W.looks_findIn I.kIn iC) (fun self => PySem.W.bind_fn I.kIn self tI) (by simp)
    (codeAny_mono (F1.run _ X.stack _ _ ⟨Value.ref (hp.objs.size + 1) :: [], []⟩ [Value.ref (hp.objs.size + 1)] _ _ (fun _ _ _ => False) (hr.make C [] []) (I2.env0.make C [] []) b1 r2 hsp) fun r s' hq' => ?_))
  cases r with
  | error er => exact no_pass pins σ _ _ er s' I2 hq'
  | ok fl =>
    cases fl with
    | ret u =>
      obtain ⟨v, H2, os2, bare2, un2, hok2, rv, ev, eH⟩ := hq'
      subst ev eH
      obtain ⟨h2, g2, d2, t2, os'⟩ := s'
      have os2' : os' = os := os2
      subst os2'
      obtain ⟨a, ha⟩ : ∃ a, a = hp.objs.size + 1 := ⟨_, rfl⟩
      rw [← ha] at un2 hok2 hn
      have hz : hp.objs.size ≤ a := by rw [ha]; exact hsz
      obtain ⟨t0, hoe⟩ := exo_at hok2 upd_same
      obtain ⟨G, g1', g2'⟩ := restrict h2 fun b => decide (b ≠ a)
      have gk : ∀ b, b ≠ a → G.get? b = h2.get? b := fun b hb => g1' b (decide_eq_true hb)
      have ge : G.get? a = none := g2' a (by simp)
      have nha : ∀ {b : Addr} {o : Obj}, hp.get? b = some o → b ≠ a := fun {b o} z => Nat.ne_of_lt (Nat.lt_of_lt_of_le (Heap.lt_size z) hz)
      have up : ∀ {b : Addr}, b ≠ a → upd H a (exo a C none) b = H b := fun {b} hb => upd_ne hb
      have U : Un (frs X.stack) [] H H hp G := {
        keep := fun b o z n hf' hx => by rw [gk b (nha z)]; exact un2.keep b o (kk b o z) (by rw [up (nha z)]; exact n) hf' hx
        slot := fun b o z n hf' hx => by rw [gk b (nha z)]; exact un2.slot b o (kk b o z) (by rw [up (nha z)]; exact n) hf' hx
        free := fun b o z n hx => n
        there := fun b o z hx => by rw [gk b (nha z)]; exact un2.there b o (kk b o z) hx
        tups := fun b xs z => z
        frzs := fun b o v z => z
        tbls := fun b ps z => ⟨#[], by simpa using z⟩ }
      have hok3 : HOk X.prog X.w H G := fun b o z => by
        have hba : b ≠ a := fun e => by rw [e, hn] at z; cases z
        have noa : ∀ {c : Addr}, H c = some (.own b) → c ≠ a := fun {c} hc e => by rw [e, hn] at hc; cases hc
        refine (hok2 b o (by rw [up hba]; exact z)).stay (fun c v hc y => ?_) (fun c hc => ?_) (fun c xs hc => ?_)
        · have hca : c ≠ a := by
            rcases hc with hc | hc
            · rw [hc]; exact hba
            · exact fun e => by
                rw [e, upd_same] at hc
                exact exo_own (Option.some.inj hc)
          rw [gk c hca]; exact y
        · have hca : c ≠ a := fun e => by
            rw [e, upd_same] at hc
            exact exo_own (Option.some.inj hc)
          rw [up hca] at hc; exact hc
        · have hca : c ≠ a := fun e => by
            rw [e, upd_same] at hc
            exact exo_tup (Option.some.inj hc)
          rw [up hca] at hc; exact hc
      have J : Inv X pins σ H ⟨G, g2, d2, t2, os'⟩ := I.call' (ch := []) rfl U hok3 bare2 (fun b z => absurd z (by simp))
      refine ⟨rv, ?_⟩
      rw [← ha]
      exact ⟨a, _, _, ⟨G, g2, d2, t2, os'⟩, H, .ref C, none, rfl, J, fun b o z => (by
        by_cases hba : b = a
        · subst hba
          have z' : G.get? b = some o := z
          rw [ge] at z'; cases z'
        · exact (gk b hba).symm.trans z), ge, hoe, ⟨rfl, rfl⟩, rfl, rfl, hn, rfl, bare2, raises_own T.ox.exC T.ox.tyC, hq⟩
    | next => exact False.elim hq'
    | brk => exact False.elim hq'
    | cont => exact False.elim hq'
end
/-! what the top has laid of a class -/
def clsI (s : Stmt) (j : Nat) : Stmt := match s with
  | .ClassDef _ _ _ b _ _ _ _ _ _ _ => b.getD j (.Pass ⟨0, 0, 0, 0⟩)
  | _ => .Pass ⟨0, 0, 0, 0⟩
section
variable {K : PySem.W.Frag} {h : Heap} {mg : Str → Option Value}
theorem xbas_of (X : K.In h) (G : h.Ns mainGlobals mg) {C0 : Addr} (hB : PySem.W.nsIn K mainGlobals "TripError" = some (some (.ref C0))) (sB : PySem.W.specialIn K (.ref C0) "__getattribute__" = some (some (.builtin "type.__getattribute__")))
    (rB : PySem.W.readsIn K C0 (.type "type") = true) (fB : PySem.W.findCls K (.ref C0) (.type "type") "__init__" = some (.val (.builtin "ValueError.__init__"))) : XBas K mg := ⟨⟨C0, PySem.W.mg_of X G hB, sB, rB, fB⟩⟩
/-- a name that is asked for -/
def AskOk (K : PySem.W.Frag) (mg : Str → Option Value) (C : Addr) (n : Str) (b : Bool) : Prop := ∃ (cv : V) (v : Value), ClsV cv v ∧ (mg n = some v ∨ (mg n = none ∧ bootBuiltins n = some v ∧ n ≠ "__name__")) ∧ PySem.W.exmOne K (.ref C) v = some b ∧ PySem.W.kitOne K (.ref C) v = some b
theorem kitC_ref {C D : Addr} {b : Bool} (hd : PySem.W.hasDictIn K D = true) (ht : PySem.W.typeIn K (.ref D) = some (.type "type")) (hs : PySem.W.subIn K (.ref C) (.ref D) = some b) : PySem.W.kitCls K (.ref C) (.ref D) = some b := by
  obtain ⟨cd, hc, _⟩ := PySem.W.any_some hd
  have e2 : ((PySem.W.clsIn K D).isSome && PySem.W.typeIn K (.ref D) == some (.type "type")) = true := by rw [hc, ht] <;> rfl
  show (if ((PySem.W.clsIn K D).isSome && PySem.W.typeIn K (.ref D) == some (.type "type")) = true then PySem.W.subIn K (.ref C) (.ref D) else none) = some b
  rw [if_pos e2]; exact hs
theorem ask_own (X : K.In h) (G : h.Ns mainGlobals mg) {C D : Addr} {n : Str} {b : Bool} (a : PySem.W.nsIn K mainGlobals n = some (some (.ref D))) (e : PySem.W.subIn K (.ref D) (.type "BaseException") = some true) (hd : PySem.W.hasDictIn K D = true)
    (ht : PySem.W.typeIn K (.ref D) = some (.type "type")) (hs : PySem.W.subIn K (.ref C) (.ref D) = some b) (hn : (Value.ref C == Value.ref D) = true → b = true) : AskOk K mg C n b := by
  refine ⟨.ref D, .ref D, .own D, .inl (PySem.W.mg_of X G a), PySem.W.exm_ref e hd ht hs, ?_⟩
  unfold PySem.W.kitOne
  split
  · rename_i h; rw [hn h]
  · exact kitC_ref hd ht hs
theorem ask_ty (X : K.In h) (G : h.Ns mainGlobals mg) {C : Addr} {n : Str} {t : String} {b : Bool} (a : PySem.W.nsIn K mainGlobals n = some none) (hb : bootBuiltins n = some (.type t)) (hn : n ≠ "__name__") (hx : PySem.W.subIn [] (.type t) (.type "BaseException") = some true) (hm : PySem.W.kitMeta t = true)
    (hs : PySem.W.subIn K (.ref C) (.type t) = some b) : AskOk K mg C n b := by
  have hk : PySem.W.kitCls K (.ref C) (.type t) = some b := by
    show (if PySem.W.kitMeta t = true then PySem.W.subIn K (.ref C) (.type t) else none) = some b
    rw [if_pos hm]; exact hs
  refine ⟨.ty t, .type t, .ty t, .inr ⟨PySem.W.mg_none_of X G a, hb, hn⟩, ?_, ?_⟩
  · unfold PySem.W.exmOne
    have : PySem.W.subIn K (.type t) (.type "BaseException") = some true := hx
    rw [this]
    exact hk
  · unfold PySem.W.kitOne
    rw [if_neg (by simp)]
    exact hk
theorem xcls_of (X : K.In h) (G : h.Ns mainGlobals mg) {xn : List Str} {x : XI} {C C0 fI N : Addr} {nm q qi : Str} {bs : List Value} {sn : List Str} {sub : List Value} {ab : Bool} {col : Option Bool} {dd : Option Addr} {k0 k1 k2 k3 k5 : Option Value} {st : Stmt}
    {od an : Option Addr} {sl : Array (Option Value)} {oc kV dc pm cd ct : Value}
    (hC : PySem.W.nsIn K mainGlobals x.nm = some (some (.ref C))) (B : XBas K mg)
    (xL : K.lookup C = some (excClassObj nm q C N bs [.ref C0, .type "ValueError", .type "Exception", .type "BaseException", .type "object"] true sn sub ab col dd k0 k1 k2 k3 k5 "ValueError.__new__"))
    (sa : PySem.W.findIn K (.ref C) "__setattr__" = some (some (.builtin "object.__setattr__"))) (eC : PySem.W.subIn K (.ref C) (.type "BaseException") = some true) (tC : PySem.W.typeIn K (.ref C) = some (.type "type")) (kC : PySem.W.keepIn K (.ref C) = true)
    (ga : PySem.W.findIn K (.ref C) "__getattribute__" = some (some (.builtin "BaseException.__getattribute__"))) (gg : PySem.W.findIn K (.ref C) "__getattr__" = some none) (hd : PySem.W.hasDictIn K C = true)
    (cl : PySem.W.findIn K (.ref C) "__class__" = some (some (.builtin "object.__class__"))) (gn : PySem.W.specialIn K (.builtin "object.__class__") "__get__" = some (some (.builtin "getset_descriptor.__get__"))) (gt : PySem.W.takesIn K (.builtin "object.__class__") = some true)
    (mo : PySem.W.mroIn K C (.type "object") = some true) (no : ∀ f, x.fld = some f → PySem.W.findIn K (.ref C) f = some none)
    (iC : PySem.W.findIn K (.ref C) "__init__" = some (some (.ref fI))) (iT : PySem.W.typeIn K (.ref fI) = some (.type "function"))
    (l : K.lookup fI = some ⟨oc, od, .func (PySem.W.fnOf "__init__" qi (defArgs st) (defBody st) (defScope st) .none kV dc pm an cd ct), sl⟩) (c : PySem.W.codeIn K cd qi = true) (k : PySem.W.keepIn K (.ref fI) = true)
    (S : FnScope (iniPs x.fld) (iniPs x.fld) (defScope st)) (bd : ∀ us : List Value, us.length = (iniPs x.fld).length → bindArgs (PySem.W.fnOf "__init__" qi (defArgs st) (defBody st) (defScope st) .none kV dc pm an cd ct) ⟨us, []⟩ = pure ((iniPs x.fld).zip us)) (T : IniT x.fld (defBody st))
    (sc : (defScope st).names.lookup ("TripError" : Str) = some .globalImplicit) (ff : ∀ f, x.fld = some f → f ≠ "self" ∧ (f == ("__debug__" : Str)) = false ∧ (f == ("__classdict__" : Str)) = false)
    (ask : ∀ n ∈ xn, AskOk K mg C n (x.ups.contains n)) : ∃ Ca, XCls K mg xn x Ca :=
  ⟨C, PySem.W.mg_of X G hC, ⟨⟨nm, q, N, bs, _, sn, sub, ab, col, dd, k0, k1, k2, k3, k5, xL, by rfl⟩, sa, eC, tC, kC⟩, ⟨ga, gg, eC, hd⟩, ⟨ga, gg, eC, hd, cl, gn, gt, mo⟩, no,
    ⟨fI, _, qi, st, iC, iT, fun_mk (st := st) l c k, S, .all bd, T, B, sc, ff⟩, ask⟩
end
end Py

-- text PyH
set_option Elab.async false
set_option linter.all false
set_option maxRecDepth 100000
set_option maxHeartbeats 4000000
namespace Py
open PySem PySem.Spec PyProof.Rows L2

/-! ### a call -/
section
variable {p p' : Pl} {H : Hp}
mutual
/-- the same places, other bars -/
theorem RV.conv (hK : p'.K = p.K) (hρ : ∃ l, p'.ρ = p.ρ ++ l) (hb : ∀ a, H a ≠ none → a ∉ p.ρ → a ∉ p.ω → ¬ p.F a → a ∉ p'.ρ ∧ a ∉ p'.ω ∧ ¬ p'.F a) : ∀ (x : MV) (v : V), RV p H x v → RV p' H x v
  | .non, v, h => by simpa only [RV] using h
  | .bl b, v, h => by simpa only [RV] using h
  | .int i, v, h => by simpa only [RV] using h
  | .str z, v, h => by simpa only [RV] using h
  | .tup xs, v, h => by
    simp only [RV] at h ⊢
    obtain ⟨a, vs, e, sq, r⟩ := h
    exact ⟨a, vs, e, sq, RVs.conv hK hρ hb xs vs r⟩
  | .lst xs, v, h => by
    simp only [RV] at h ⊢
    obtain ⟨a, vs, e, ⟨i1, i2, i3, i4⟩, r⟩ := h
    exact ⟨a, vs, e, ⟨i1, hb a (by rw [i1]; simp) i2 i3 i4⟩, RVs.conv hK hρ hb xs vs r⟩
  | .scr xs, v, h => by
    simp only [RV] at h ⊢
    obtain ⟨a, vs, e, sq, r⟩ := h
    exact ⟨a, vs, e, by rw [hK]; exact sq, RVs.conv hK hρ hb xs vs r⟩
  | .dk kvs, v, h => by
    simp only [RV] at h ⊢
    obtain ⟨a, vs, e, ⟨i1, i2, i3, i4⟩, r⟩ := h
    exact ⟨a, vs, e, ⟨i1, hb a (by rw [i1]; simp) i2 i3 i4⟩, RKs.conv hK hρ hb kvs vs r⟩
  | .dt kvs, v, h => by
    simp only [RV] at h ⊢
    obtain ⟨a, vs, e, ⟨i1, i2, i3, i4⟩, r⟩ := h
    exact ⟨a, vs, e, ⟨i1, hb a (by rw [i1]; simp) i2 i3 i4⟩, RTs.conv hK hρ hb kvs vs r⟩
  | .ref n, v, h => by
    simp only [RV] at h ⊢
    obtain ⟨a, e, g⟩ := h
    obtain ⟨l, el⟩ := hρ
    exact ⟨a, e, by rw [el, List.getElem?_append_left (List.getElem?_eq_some_iff.mp g).1]; exact g⟩
theorem RVs.conv (hK : p'.K = p.K) (hρ : ∃ l, p'.ρ = p.ρ ++ l) (hb : ∀ a, H a ≠ none → a ∉ p.ρ → a ∉ p.ω → ¬ p.F a → a ∉ p'.ρ ∧ a ∉ p'.ω ∧ ¬ p'.F a) : ∀ (xs : List MV) (vs : List V), RVs p H xs vs → RVs p' H xs vs
  | [], vs, h => by simpa only [RVs] using h
  | x :: xs, vs, h => by
    simp only [RVs] at h ⊢
    obtain ⟨v, r, e, h1, h2⟩ := h
    exact ⟨v, r, e, RV.conv hK hρ hb x v h1, RVs.conv hK hρ hb xs r h2⟩
theorem RKs.conv (hK : p'.K = p.K) (hρ : ∃ l, p'.ρ = p.ρ ++ l) (hb : ∀ a, H a ≠ none → a ∉ p.ρ → a ∉ p.ω → ¬ p.F a → a ∉ p'.ρ ∧ a ∉ p'.ω ∧ ¬ p'.F a) : ∀ (xs : List (Key × MV)) (vs : List (Key × V)), RKs p H xs vs → RKs p' H xs vs
  | [], vs, h => by simpa only [RKs] using h
  | (k, x) :: xs, vs, h => by
    simp only [RKs] at h ⊢
    obtain ⟨v, r, e, h1, h2⟩ := h
    exact ⟨v, r, e, RV.conv hK hρ hb x v h1, RKs.conv hK hρ hb xs r h2⟩
theorem RTs.conv (hK : p'.K = p.K) (hρ : ∃ l, p'.ρ = p.ρ ++ l) (hb : ∀ a, H a ≠ none → a ∉ p.ρ → a ∉ p.ω → ¬ p.F a → a ∉ p'.ρ ∧ a ∉ p'.ω ∧ ¬ p'.F a) : ∀ (xs : List (List Key × MV)) (vs : List (List Key × V)), RTs p H xs vs → RTs p' H xs vs
  | [], vs, h => by simpa only [RTs] using h
  | (k, x) :: xs, vs, h => by
    simp only [RTs] at h ⊢
    obtain ⟨v, r, e, h1, h2⟩ := h
    exact ⟨v, r, e, RV.conv hK hρ hb x v h1, RTs.conv hK hρ hb xs r h2⟩
end
theorem RV.re {x : MV} {v : V} (h : RV p H x v) (p' : Pl) (hK : p'.K = p.K) (hρ : p'.ρ = p.ρ) (hb : ∀ a, H a ≠ none → a ∉ p.ρ → a ∉ p.ω → ¬ p.F a → a ∉ p'.ω ∧ ¬ p'.F a) : RV p' H x v := RV.conv hK ⟨[], by rw [hρ]; simp⟩ (fun a h0 h1 h2 h3 => ⟨by rw [hρ]; exact h1, hb a h0 h1 h2 h3⟩) x v h
theorem RVs.re {x : List MV} {v : List V} (h : RVs p H x v) (p' : Pl) (hK : p'.K = p.K) (hρ : p'.ρ = p.ρ) (hb : ∀ a, H a ≠ none → a ∉ p.ρ → a ∉ p.ω → ¬ p.F a → a ∉ p'.ω ∧ ¬ p'.F a) : RVs p' H x v := RVs.conv hK ⟨[], by rw [hρ]; simp⟩ (fun a h0 h1 h2 h3 => ⟨by rw [hρ]; exact h1, hb a h0 h1 h2 h3⟩) x v h
theorem RKs.re {x : List (Key × MV)} {v : List (Key × V)} (h : RKs p H x v) (p' : Pl) (hK : p'.K = p.K) (hρ : p'.ρ = p.ρ) (hb : ∀ a, H a ≠ none → a ∉ p.ρ → a ∉ p.ω → ¬ p.F a → a ∉ p'.ω ∧ ¬ p'.F a) : RKs p' H x v := RKs.conv hK ⟨[], by rw [hρ]; simp⟩ (fun a h0 h1 h2 h3 => ⟨by rw [hρ]; exact h1, hb a h0 h1 h2 h3⟩) x v h
theorem RTs.re {x : List (List Key × MV)} {v : List (List Key × V)} (h : RTs p H x v) (p' : Pl) (hK : p'.K = p.K) (hρ : p'.ρ = p.ρ) (hb : ∀ a, H a ≠ none → a ∉ p.ρ → a ∉ p.ω → ¬ p.F a → a ∉ p'.ω ∧ ¬ p'.F a) : RTs p' H x v := RTs.conv hK ⟨[], by rw [hρ]; simp⟩ (fun a h0 h1 h2 h3 => ⟨by rw [hρ]; exact h1, hb a h0 h1 h2 h3⟩) x v h
theorem RC.conv (hK : p'.K = p.K) (hρ : ∃ l, p'.ρ = p.ρ ++ l) (hb : ∀ a, H a ≠ none → a ∉ p.ρ → a ∉ p.ω → ¬ p.F a → a ∉ p'.ρ ∧ a ∉ p'.ω ∧ ¬ p'.F a) {c : Cn} {u : HO} (h : RC p H c u) : RC p' H c u := by
  cases c with
  | l xs => obtain ⟨vs, e, r⟩ := h; exact ⟨vs, e, RVs.conv hK hρ hb xs vs r⟩
  | k kvs => obtain ⟨vs, e, r⟩ := h; exact ⟨vs, e, RKs.conv hK hρ hb kvs vs r⟩
  | t kvs => obtain ⟨vs, e, r⟩ := h; exact ⟨vs, e, RTs.conv hK hρ hb kvs vs r⟩
end

theorem RC.re {p : Pl} {H : Hp} {c : Cn} {u : HO} (h : RC p H c u) (p' : Pl) (hK : p'.K = p.K) (hρ : p'.ρ = p.ρ) (hb : ∀ a, H a ≠ none → a ∉ p.ρ → a ∉ p.ω → ¬ p.F a → a ∉ p'.ω ∧ ¬ p'.F a) : RC p' H c u := RC.conv hK ⟨[], by rw [hρ]; simp⟩ (fun a h0 h1 h2 h3 => ⟨by rw [hρ]; exact h1, hb a h0 h1 h2 h3⟩) h
/-- an exception lies the same among other places -/
structure XvOk (xv : XV) : Prop where
  conv : ∀ {p p' : Pl} {H : Hp} {c : Nat} {vs : List MV} {cls : Value} {d : Option Addr}, xv p H c vs cls d → p'.K = p.K → (∃ l, p'.ρ = p.ρ ++ l) → (∀ a, H a ≠ none → a ∉ p.ρ → a ∉ p.ω → ¬ p.F a → a ∉ p'.ρ ∧ a ∉ p'.ω ∧ ¬ p'.F a) → xv p' H c vs cls d
  keep : ∀ {p p' : Pl} {H H' : Hp} {c : Nat} {vs : List MV} {cls : Value} {d : Option Addr}, MuOk p H → Stp p H p' H' → xv p H c vs cls d → xv p' H' c vs cls d
theorem XvOk.re {xv : XV} (h : XvOk xv) {p : Pl} {H : Hp} {c : Nat} {vs : List MV} {cls : Value} {d : Option Addr} (x : xv p H c vs cls d) (p' : Pl) (hK : p'.K = p.K) (hρ : p'.ρ = p.ρ) (hb : ∀ a, H a ≠ none → a ∉ p.ρ → a ∉ p.ω → ¬ p.F a → a ∉ p'.ω ∧ ¬ p'.F a) : xv p' H c vs cls d :=
  h.conv x hK ⟨[], by rw [hρ]; simp⟩ fun a h0 h1 h2 h3 => ⟨by rw [hρ]; exact h1, hb a h0 h1 h2 h3⟩
/-- how the text's exceptions lie: c the class's number, its field -/
def xvOf (xs : List XI) (mg : Str → Option Value) : XV := fun p H c vs cls d => ∃ (x : XI) (Ca : Addr), xs[c]? = some x ∧ mg x.nm = some (.ref Ca) ∧ cls = .ref Ca ∧ match x.fld with
  | none => vs = [] ∧ d = none
  | some f => ∃ (dd : Addr) (v : V) (y : MV), d = some dd ∧ vs = [y] ∧ H dd = some (.xd [(f, v)]) ∧ RV p H y v
theorem xvOf_ok (xs : List XI) (mg : Str → Option Value) : XvOk (xvOf xs mg) := by
  refine ⟨fun {p p' H c vs cls d} h hK hρ hb => ?_, fun {p p' H H' c vs cls d} mu st h => ?_⟩
  · obtain ⟨x, Ca, h1, h2, h3, h4⟩ := h
    refine ⟨x, Ca, h1, h2, h3, ?_⟩
    split
    · rename_i e; rw [e] at h4; exact h4
    · rename_i f e
      rw [e] at h4
      obtain ⟨dd, v, y, g1, g2, g3, g4⟩ := h4
      exact ⟨dd, v, y, g1, g2, g3, RV.conv hK hρ hb y v g4⟩
  · obtain ⟨x, Ca, h1, h2, h3, h4⟩ := h
    refine ⟨x, Ca, h1, h2, h3, ?_⟩
    split
    · rename_i e; rw [e] at h4; exact h4
    · rename_i f e
      rw [e] at h4
      obtain ⟨dd, v, y, g1, g2, g3, g4⟩ := h4
      have nm : dd ∉ p.ρ ∧ dd ∉ p.ω := by
        refine ⟨fun hm => ?_, fun hm => ?_⟩
        · obtain ⟨u, hu, m⟩ := mu dd (.inl hm)
          rw [g3] at hu; cases hu; cases m
        · obtain ⟨u, hu, m⟩ := mu dd (.inr hm)
          rw [g3] at hu; cases hu; cases m
      exact ⟨dd, v, y, g1, g2, st.keep dd _ g3 (fun _ => nm.1) nm.2, RV.keepM mu st y v g4⟩
/-- what a def promises: it does what the small language's def does -/
def spF (K : PySem.W.Frag) (xv : XV) (D : Fns) (n i : Nat) : List V → Hp → VK → XK → Prop := fun vs H Q E => vs.length = n ∧ ∃ p xs mh, p.K = K ∧ HR p H mh ∧ p.ω = [] ∧ RVs p H xs vs ∧ (D.iso i = true → mh = none) ∧
  match D.run i xs mh with
  | .ok x mh' => ∀ v p' H', Stp p H p' H' → HR p' H' mh' → RV p' H' x v → Q v H'
  | .ex c us mh' => ∀ cls d p' H', Stp p H p' H' → HR p' H' mh' → xv p' H' c us cls d → E cls d H'
  | .no => False
section
variable {xv : XV} {W : WX} {p : Pl} {s : S} {σ : L2.St} {H : Hp} {Q : VK}

theorem call_out {D : Fns} {i n : Nat} {xs : List MV} {vs : List V} (xo : XvOk xv) (S : Sit p s σ H) (hx : RVs p H xs vs) (hn : vs.length = n) (o : Out rE xv W p H σ Q (callF D i xs s)) : spF p.K xv D n i vs H Q (WE W σ) := by
  refine ⟨hn, ?_⟩
  have hb0 : ∀ (lv : Bool), ∀ a, H a ≠ none → a ∉ p.ρ → a ∉ p.ω → ¬ p.F a → a ∉ ({ K := p.K, F := fun a => p.F a ∨ a ∈ p.ω, live := lv, ρ := p.ρ, ω := [] } : Pl).ω ∧ ¬ ({ K := p.K, F := fun a => p.F a ∨ a ∈ p.ω, live := lv, ρ := p.ρ, ω := [] } : Pl).F a := fun lv a _ _ h2 h3 =>
    ⟨by simp, fun z => z.elim h3 h2⟩
  unfold callF at o
  split at o
  · rename_i hi
    refine ⟨⟨p.K, fun a => p.F a ∨ a ∈ p.ω, false, p.ρ, []⟩, xs, none, rfl, ⟨rfl, fun l e => (by cases e), S.hr.nd, fun l i a c e => (by cases e), fun a ha => ?_, fun a ha => ?_, by simp⟩, rfl, hx.re ⟨p.K, fun a => p.F a ∨ a ∈ p.ω, false, p.ρ, []⟩ rfl rfl (hb0 false), fun _ => rfl, ?_⟩
    · rcases ha with ha | ha | ha | ha
      · exact S.hr.mu a (.inl ha)
      · cases ha
      · exact S.hr.mu a (.inr (.inr ha))
      · exact S.hr.mu a (.inr (.inl ha))
    · rcases ha with ha | ha
      · exact ⟨(S.hr.ap a ha).1, by simp⟩
      · exact ⟨S.hr.ap2 a ha, by simp⟩
    · have back : ∀ p' H', Stp ⟨p.K, fun a => p.F a ∨ a ∈ p.ω, false, p.ρ, []⟩ H p' H' → Stp p H p H' ∧ Sit p s σ H' ∧ p.K = p'.K ∧ p.ρ = p'.ρ ∧ ∀ a, H' a ≠ none → a ∉ p'.ρ → a ∉ p'.ω → ¬ p'.F a → a ∉ p.ω ∧ ¬ p.F a := by
        intro p' H' st
        obtain ⟨l, el, _, ell⟩ := st.grow
        have hl : l = [] := ell rfl
        subst hl
        have eρ : p'.ρ = p.ρ := by rw [el]; simp
        have keep : ∀ a o, H a = some o → H' a = some o := fun a o ha => st.keep a o ha (fun z => by cases z) (by simp)
        have st2 : Stp p H p H' := ⟨rfl, rfl, rfl, fun a o ha _ _ => keep a o ha, ⟨[], by simp, by simp, fun _ => rfl⟩, fun _ h => .inl h, st.lasts⟩
        refine ⟨st2, ?_, st.K.symm, eρ.symm, fun a _ h1 h2 h3 => ?_⟩
        · refine ⟨⟨S.hr.live, S.hr.len, S.hr.nd, fun l j a c e1 e2 e3 => ?_, fun a ha => ?_, S.hr.ap, S.hr.ap2⟩, S.len, fun j y e => ?_, fun j c e => ?_, S.ne⟩
          · obtain ⟨u, hu, rc⟩ := S.hr.at_ l j a c e1 e2 e3
            exact ⟨u, keep a u hu, rc.keep S.hr st2⟩
          · obtain ⟨u, hu, m⟩ := S.hr.mu a ha
            exact ⟨u, keep a u hu, m⟩
          · obtain ⟨v, h1, h2⟩ := S.var j y e
            exact ⟨v, h1, h2.keep S.hr st2⟩
          · obtain ⟨a, u, h1, h2, h3, h4⟩ := S.own j c e
            exact ⟨a, u, h1, h2, keep a u h3, h4.keep S.hr st2⟩
        · rw [st.F] at h3
          exact ⟨fun z => h3 (.inr z), fun z => h3 (.inl z)⟩
      split at o
      · rename_i x mh' e
        try rw [e]
        intro v p' H' st hr' rv
        obtain ⟨st2, S2, hK, hρ, hb⟩ := back p' H' st
        exact o v p H' st2 S2 (rv.re p hK hρ hb)
      · rename_i c us mh' e
        try rw [e]
        intro cls d p' H' st hr' rx
        obtain ⟨st2, S2, hK, hρ, hb⟩ := back p' H' st
        exact o cls d p H' st2 S2 (xo.re rx p hK hρ hb)
      · exact o.elim
  · rename_i hi
    refine ⟨⟨p.K, fun a => p.F a ∨ a ∈ p.ω, p.live, p.ρ, []⟩, xs, s.mh, rfl, ⟨S.hr.live, S.hr.len, S.hr.nd, fun l j a c e1 e2 e3 => ?_, fun a ha => ?_, fun a ha => ?_, by simp⟩, rfl, hx.re ⟨p.K, fun a => p.F a ∨ a ∈ p.ω, p.live, p.ρ, []⟩ rfl rfl (hb0 p.live), fun z => absurd z hi, ?_⟩
    · obtain ⟨u, hu, rc⟩ := S.hr.at_ l j a c e1 e2 e3
      exact ⟨u, hu, rc.re ⟨p.K, fun a => p.F a ∨ a ∈ p.ω, p.live, p.ρ, []⟩ rfl rfl (hb0 p.live)⟩
    · rcases ha with ha | ha | ha | ha
      · exact S.hr.mu a (.inl ha)
      · cases ha
      · exact S.hr.mu a (.inr (.inr ha))
      · exact S.hr.mu a (.inr (.inl ha))
    · rcases ha with ha | ha
      · exact ⟨(S.hr.ap a ha).1, by simp⟩
      · exact ⟨S.hr.ap2 a ha, by simp⟩
    · have back : ∀ mh' p' H', Stp ⟨p.K, fun a => p.F a ∨ a ∈ p.ω, p.live, p.ρ, []⟩ H p' H' → HR p' H' mh' → Stp p H ⟨p.K, p.F, p.live, p'.ρ, p.ω⟩ H' ∧ Sit ⟨p.K, p.F, p.live, p'.ρ, p.ω⟩ { s with mh := mh' } σ H' ∧ p.K = p'.K ∧ ∀ a, H' a ≠ none → a ∉ p'.ρ → a ∉ p'.ω → ¬ p'.F a → a ∉ p.ω ∧ ¬ p.F a := by
        intro mh' p' H' st hr'
        obtain ⟨l, el, el2, ell⟩ := st.grow
        have hF : ∀ a, p'.F a ↔ (p.F a ∨ a ∈ p.ω) := fun a => by rw [st.F]
        have keep : ∀ a o, H a = some o → (p.live = true → a ∉ p.ρ) → H' a = some o := fun a o ha hn => st.keep a o ha hn (by simp)
        have st2 : Stp p H ⟨p.K, p.F, p.live, p'.ρ, p.ω⟩ H' := ⟨rfl, rfl, rfl, fun a o ha hn _ => keep a o ha hn, ⟨l, el, el2, ell⟩, fun _ h => .inl h, st.lasts⟩
        have hb : ∀ a, H' a ≠ none → a ∉ p'.ρ → a ∉ p'.ω → ¬ p'.F a → a ∉ p.ω ∧ ¬ p.F a := fun a _ h1 h2 h3 => ⟨fun z => h3 ((hF a).mpr (.inr z)), fun z => h3 ((hF a).mpr (.inl z))⟩
        refine ⟨st2, ?_, st.K.symm, hb⟩
        refine ⟨⟨?_, hr'.len, hr'.nd, fun l j a c e1 e2 e3 => ?_, fun a ha => ?_, fun a ha => ?_, fun a ha => ?_⟩, S.len, fun j y e => ?_, fun j c e => ?_, S.ne⟩
        · have := hr'.live; rw [st.live] at this; exact this
        · obtain ⟨u, hu, rc⟩ := hr'.at_ l j a c e1 e2 e3
          exact ⟨u, hu, rc.re ⟨p.K, p.F, p.live, p'.ρ, p.ω⟩ st.K.symm rfl hb⟩
        · rcases ha with ha | ha | ha
          · exact hr'.mu a (.inl ha)
          · exact hr'.mu a (.inr (.inr ((hF a).mpr (.inr ha))))
          · exact hr'.mu a (.inr (.inr ((hF a).mpr (.inl ha))))
        · exact ⟨(hr'.ap a ((hF a).mpr (.inl ha))).1, (S.hr.ap a ha).2⟩
        · exact (hr'.ap a ((hF a).mpr (.inr ha))).1
        · obtain ⟨v, h1, h2⟩ := S.var j y e
          exact ⟨v, h1, h2.keep S.hr st2⟩
        · obtain ⟨a, u, h1, h2, h3, h4⟩ := S.own j c e
          exact ⟨a, u, h1, h2, keep a u h3 fun _ => S.hr.ap2 a h2, h4.keep S.hr st2⟩
      split at o
      · rename_i x mh' e
        try rw [e]
        intro v p' H' st hr' rv
        obtain ⟨st2, S2, hK, hb⟩ := back mh' p' H' st hr'
        exact o v _ H' st2 S2 (rv.re ⟨p.K, p.F, p.live, p'.ρ, p.ω⟩ hK rfl hb)
      · rename_i c us mh' e
        try rw [e]
        intro cls d p' H' st hr' rx
        obtain ⟨st2, S2, hK, hb⟩ := back mh' p' H' st hr'
        exact o cls d _ H' st2 S2 (xo.re rx ⟨p.K, p.F, p.live, p'.ρ, p.ω⟩ hK rfl hb)
      · exact o.elim
end
end Py

-- text PyI
set_option Elab.async false
set_option linter.all false
set_option maxRecDepth 100000
set_option maxHeartbeats 4000000
namespace Py
open PySem PySem.Spec PyProof.Rows L2

theorem PE.imp {X : Cx} {e : Expr} {t t' : TE} (h : PE X e t) (i : ∀ σ H Q, t' σ H Q → t σ H Q) : PE X e t' := ⟨fun pins s σ H Q I q => h.run pins s σ H Q I (i σ H Q q)⟩
theorem PT.imp {X : Cx} {e : Expr} {t t' : TT} (h : PT X e t) (i : ∀ σ H Q, t' σ H Q → t σ H Q) : PT X e t' := ⟨fun pins s σ H Q I q => h.run pins s σ H Q I (i σ H Q q)⟩

/-- the name x holds the constant c, for good -/
def GlbOk (K : PySem.W.Frag) (mg : Str → Option Value) (x : Str) (c : MV) : Prop := ∃ (v : V) (u : Value), mg x = some u ∧ RelV v u ∧ ∀ (p : Pl) (H : Hp), p.K = K → RV p H c v
/-- where a piece of the text stands -/
structure At (C : Cfg) (D : Fns) (k : Nat) (N : List Str) (sc : Scope) (X : Cx) (xv : XV) (W : WX) : Prop where
  hN : X.N = N
  nd : N.Nodup
  scp : X.env.scope = sc
  calm : X.calm = true
  gd : X.A.guards = some []
  rm : Room k X.A
  rm2 : Room k X.A.in1.in1
  bl : ∀ x ∈ C.bl, X.mg x = none
  fn : ∀ (i : Nat) (d : FI), C.fs[i]? = some d → ∃ f fd, X.mg d.nm = some (.ref f) ∧ PySem.W.keepIn X.K (.ref f) = true ∧ FnX X.prog X.w X.K X.mg X.base k f fd d.ps (spF X.K xv D d.ps.length i) ∧
    BindsK X.K fd d.ps d.ps.length [] (List.range d.ps.length) ∧ ∀ t ∈ d.kw, BindsK X.K fd d.ps t.1 t.2.1 t.2.2
  glb : ∀ g ∈ C.gl, GlbOk X.K X.mg g.1 g.2
  imb : ∀ g ∈ C.im, X.mg g.1 = some (.builtin g.2)
  tk : Takes X W
  xo : XvOk xv
  rx : Room 2 X.A
  xq : xv = xvOf C.xs X.mg
  xc : ∀ (c : Nat) (x : XI), C.xs[c]? = some x → ∃ Ca, XCls X.K X.mg C.xn x Ca

section
variable {C : Cfg} {D : Fns} {k : Nat} {N : List Str} {sc : Scope} {X : Cx} {xv : XV} {W : WX}
theorem At.units (A : At C D k N sc X xv W) : X.A.units + 100 < cLine := by have := A.rm.un; omega
theorem At.vis (A : At C D k N sc X xv W) {x : Str} (h : visB sc x = true) : Vis X.env.scope x := by
  rw [A.scp]
  unfold visB at h
  split at h
  · exact .inl (by assumption)
  · exact .inr (.inl (by assumption))
  · exact .inr (.inr (by assumption))
  · cases h
theorem At.gl (A : At C D k N sc X xv W) {x : Str} (h : glB sc x = true) : Gl X x ∧ (x == ("__debug__" : Str)) = false := by
  unfold glB at h
  simp only [Bool.and_eq_true, decide_eq_true_eq, Bool.not_eq_true'] at h
  refine ⟨?_, h.2⟩
  show X.env.scope.names.lookup x = _
  rw [A.scp]; exact h.1
theorem At.blt (A : At C D k N sc X xv W) {x : Str} (h : blB C sc x = true) : Gl X x ∧ (x == ("__debug__" : Str)) = false ∧ X.mg x = none ∧ x ≠ "__name__" := by
  unfold blB at h
  simp only [Bool.and_eq_true, Bool.not_eq_true'] at h
  obtain ⟨⟨h1, h2⟩, h3⟩ := h
  obtain ⟨g1, g2⟩ := A.gl h1
  exact ⟨g1, g2, A.bl x (by simpa using h2), fun e => by subst e; simp at h3⟩
theorem At.nm (A : At C D k N sc X xv W) {i : Nat} {x : Str} (h : nmB N sc i x = true) : X.N[i]? = some x ∧ Vis X.env.scope x ∧ (x == ("__debug__" : Str)) = false ∧ (x == ("__classdict__" : Str)) = false := by
  unfold nmB at h
  simp only [Bool.and_eq_true, decide_eq_true_eq, Bool.not_eq_true'] at h
  obtain ⟨⟨⟨h1, h2⟩, h3⟩, h4⟩ := h
  exact ⟨by rw [A.hN]; exact h1, A.vis h2, h3, h4⟩

/-! ### names and constants -/
theorem getV_some {i : Nat} {s s' : S} {x : MV} (e : getV i s = .ok x s') : s' = s ∧ s.env[i]? = some (some (.v x)) := by
  unfold getV at e
  split at e
  · rename_i y h; injection e with e1 e2; subst e1; exact ⟨e2.symm, h⟩
  · cases e
theorem getO_some {i : Nat} {s s' : S} {c : Cn} (e : getO i s = .ok c s') : s' = s ∧ s.env[i]? = some (some (.o c)) := by
  unfold getO at e
  split at e
  · rename_i y h; injection e with e1 e2; subst e1; exact ⟨e2.symm, h⟩
  · cases e
theorem snd_var (A : At C D k N sc X xv W) {i : Nat} {x : Str} {pos : Pos} (h : nmB N sc i x = true) : PE X (.Name x pos) (lift rE X.K xv W (getV i)) := by
  obtain ⟨h1, h2, h3, h4⟩ := A.nm h
  refine PE.imp (pe_var h1 h2 h3 h4) fun σ H Q ⟨p, s, hK, S, o⟩ => ?_
  cases e : getV i s with
  | ok y s' =>
    obtain ⟨rfl, hy⟩ := getV_some e
    rw [e] at o
    obtain ⟨v, hv, rv⟩ := S.var i y hy
    exact ⟨v, hv, o v p H (Stp.refl p H) S rv⟩
  | ex c vs s' => unfold getV at e; split at e <;> cases e
  | no => rw [e] at o; exact o.elim
theorem snd_cst {c : MV} {q : Const} {j : Nat} {pos : Pos} (h : cstB c q = true) : PE X (.Constant q j pos) (lift rE X.K xv W (pure c)) := by
  have key : ∀ {v : V}, PE X (.Constant q j pos) (tC v) → (∀ p H, RV p H c v) → PE X (.Constant q j pos) (lift rE X.K xv W (pure c)) := fun {v} hp hr =>
    PE.imp hp fun σ H Q ⟨p, s, hK, S, o⟩ => o v p H (Stp.refl p H) S (hr p H)
  cases c <;> cases q <;> simp only [cstB, beq_iff_eq, decide_eq_true_eq, reduceCtorEq] at h
  · exact key pe_non fun p H => by simp [RV]
  · subst h; exact key pe_bl fun p H => by simp [RV]
  · subst h; exact key pe_int fun p H => by simp [RV]
  · subst h; exact key pe_str fun p H => by simp [RV]
/-! ### rows of arguments -/
def AOk (D : Fns) (X : Cx) (xv : XV) (W : WX) (a : A) (es : List Expr) : Prop :=
  (∀ s zs s', denA D a s = .ok zs s' → zs.length = es.length) ∧ ∃ ts, PEs X es ts ∧ ∀ (σ : L2.St) (H : Hp) (Q : List V → Hp → Prop), lift (RSs σ) X.K xv W (denA D a) σ H Q → seqT ts σ H Q
theorem snd_nil : AOk D X xv W .nil [] := ⟨fun s zs s' e => by simp only [denA, ret_eq] at e; injection e with e1 _; subst e1; rfl, [], .nil, fun σ H Q ⟨p, s, hK, S, o⟩ => o [] p H (Stp.refl p H) S rfl⟩
theorem snd_cons {e : E} {r : A} {x : Expr} {es : List Expr} (h1 : PE X x (lift rE X.K xv W (denE D e))) (h2 : AOk D X xv W r es) : AOk D X xv W (.cons e r) (x :: es) := by
  obtain ⟨hl, ts, hp, hi⟩ := h2
  refine ⟨fun s zs s' e => ?_, _, .cons h1 hp, fun σ H Q ⟨p, s, hK, S, o⟩ => ?_⟩
  · simp only [denA, bnd_eq] at e
    split at e
    · split at e
      · rename_i ys s2 e2
        simp only [ret_eq] at e
        injection e with e1 _
        subst e1
        simp [hl _ _ _ e2]
      · cases e
      · cases e
    · cases e
    · cases e
  simp only [denA] at o
  refine ⟨p, s, hK, S, Out.bnd (r' := rE) o fun y s1 v p1 H1 _ st1 S1 rv1 o1 => ?_⟩
  refine hi σ H1 _ ⟨p1, s1, by rw [st1.K]; exact hK, S1, Out.bnd (r' := RSs σ) o1 fun ys s2 vs p2 H2 _ st2 S2 rv2 o2 => ?_⟩
  exact o2 (v :: vs) p2 H2 (Stp.refl p2 H2) S2 ⟨v, vs, rfl, RV.keep S1.hr st2 y v rv1, rv2⟩
theorem snd_own (A : At C D k N sc X xv W) {i : Nat} {x : Str} {pos : Pos} {r : Py.A} {es : List Expr} (h : nmB N sc i x = true) (h2 : AOk D X xv W r es) : AOk D X xv W (.own i r) (.Name x pos :: es) := by
  obtain ⟨hl, ts, hp, hi⟩ := h2
  obtain ⟨h1, h2, h3, h4⟩ := A.nm h
  refine ⟨fun s zs s' e => ?_, _, .cons (pe_var h1 h2 h3 h4) hp, fun σ H Q ⟨p, s, hK, S, o⟩ => ?_⟩
  · simp only [denA, bnd_eq] at e
    split at e
    · split at e
      · rename_i ys s2 e2
        simp only [ret_eq] at e
        injection e with e1 _
        subst e1
        simp [hl _ _ _ e2]
      · cases e
      · cases e
    · cases e
    · cases e
  simp only [denA] at o
  cases e : getO i s with
  | ok y s' =>
    obtain ⟨rfl, hy⟩ := getO_some e
    rw [bnd_eq, e] at o
    obtain ⟨a, u, hv, _⟩ := S.own i y hy
    refine ⟨.ref a, hv, ?_⟩
    refine hi σ H _ ⟨p, s', hK, S, Out.bnd (r' := RSs σ) o fun ys s2 vs p2 H2 _ st2 S2 rv2 o2 => ?_⟩
    exact o2 (.ref a :: vs) p2 H2 (Stp.refl p2 H2) S2 ⟨.ref a, vs, rfl, hv, rv2⟩
  | ex c vs s' => unfold getO at e; split at e <;> cases e
  | no => rw [bnd_eq, e] at o; exact o.elim
theorem lift?_out {α β : Type} {r : Pl → Hp → α → β → Prop} {γ : Type} {x : Option γ} {f : γ → M α} {p : Pl} {H : Hp} {σ : L2.St} {Q : β → Hp → Prop} {s : S} (o : Out r xv W p H σ Q ((lift? x >>= f) s)) : ∃ y, x = some y ∧ Out r xv W p H σ Q (f y s) := by
  cases x with
  | none => exact o.elim
  | some y => exact ⟨y, rfl, o⟩
theorem lift?_end {α β : Type} {r : Pl → Hp → α → β → Prop} {x : Option α} {p : Pl} {H : Hp} {σ : L2.St} {Q : β → Hp → Prop} {s : S} (o : Out r xv W p H σ Q ((lift? x : M α) s)) : ∃ y, x = some y ∧ ∀ b p' H', Stp p H p' H' → Sit p' s σ H' → r p' H' y b → Q b H' := by
  cases x with
  | none => exact o.elim
  | some y => exact ⟨y, rfl, o⟩
theorem getC_nex {n : Nat} {s s' : S} {c : Nat} {vs : List MV} : getC n s ≠ .ex c vs s' := by
  unfold getC
  split
  · split <;> simp
  · simp
theorem getO_nex {n : Nat} {s s' : S} {c : Nat} {vs : List MV} : getO n s ≠ .ex c vs s' := by
  unfold getO
  split <;> simp
theorem snap1_nex {s s' : S} {c : Nat} {vs : List MV} (z : Src) : snap1 z s ≠ .ex c vs s' := by
  intro e
  unfold snap1 at e
  split at e
  · rw [bnd_eq] at e
    split at e
    · cases e
    · rename_i h; exact getC_nex h
    · cases e
  · cases e
  · rw [bnd_eq] at e
    split at e
    · cases e
    · rename_i h; exact getO_nex h
    · cases e
theorem snap_nex {s s' : S} {c : Nat} {vs : List MV} : ∀ z : List Src, snap z s ≠ .ex c vs s'
  | [], e => by cases e
  | z :: zs, e => by
    unfold snap at e
    rw [bnd_eq] at e
    split at e
    · rename_i y s1 h1
      rw [bnd_eq] at e
      split at e
      · cases e
      · rename_i h; exact snap_nex zs h
      · cases e
    · rename_i h; exact snap1_nex z h
    · cases e
/-- an operation: its sources, then what it gives -/
theorem op_src {a : A} {f : List MV → Option MV} {σ : L2.St} {H : Hp} {Q : VK} (h : lift rE X.K xv W (do let zs ← denA D a; let xs ← snap zs; lift? (f xs)) σ H Q) :
    lift (RSs σ) X.K xv W (denA D a) σ H fun vs G => ∃ p s xs y, p.K = X.K ∧ Sit p s σ G ∧ RWs p G xs vs ∧ f xs = some y ∧ Cont p s σ G y Q := by
  obtain ⟨p, s, hK, S, o⟩ := h
  refine ⟨p, s, hK, S, Out.bnd (r' := RSs σ) o fun zs s1 vs p1 H1 _ st1 S1 rv1 o1 => ?_⟩
  rw [bnd_eq] at o1
  cases e : snap zs s1 with
  | ok xs s2 =>
    obtain ⟨rfl, rw1⟩ := snap_ok S1 rv1 e
    rw [e] at o1
    obtain ⟨y, e2, c⟩ := lift?_end o1
    exact ⟨p1, s2, xs, y, by rw [st1.K]; exact hK, S1, rw1, e2, c⟩
  | ex c vs s2 => exact absurd e (snap_nex zs)
  | no => rw [e] at o1; exact o1.elim
end
end Py

-- text PyJ
set_option Elab.async false
set_option linter.all false
set_option maxRecDepth 100000
set_option maxHeartbeats 4000000
namespace Py
open PySem PySem.Spec PyProof.Rows L2
section
variable {C : Cfg} {D : Fns} {k : Nat} {N : List Str} {sc : Scope} {X : Cx} {xv : XV} {W : WX} {pos : Pos}

theorem pes1 {e : Expr} {ts : List TE} (h : PEs X [e] ts) : ∃ t, ts = [t] ∧ PE X e t := by
  cases h with
  | cons h r => cases r; exact ⟨_, rfl, h⟩
theorem pes2 {e f : Expr} {ts : List TE} (h : PEs X [e, f] ts) : ∃ t u, ts = [t, u] ∧ PE X e t ∧ PE X f u := by
  cases h with
  | cons h r => obtain ⟨u, rfl, hu⟩ := pes1 r; exact ⟨_, _, rfl, h, hu⟩
theorem pes3 {e f g : Expr} {ts : List TE} (h : PEs X [e, f, g] ts) : ∃ t u v, ts = [t, u, v] ∧ PE X e t ∧ PE X f u ∧ PE X g v := by
  cases h with
  | cons h r => obtain ⟨u, v, rfl, hu, hv⟩ := pes2 r; exact ⟨_, _, _, rfl, h, hu, hv⟩
theorem two_vals {f : MV → MV → Option MV} {p : Pl} {G : Hp} {xs : List MV} {y : MV} {vs : List V} (h : RWs p G xs vs) (e : two f xs = some y) : ∃ v w, vs = [v, w] := by
  obtain ⟨_, _, v, w, rfl, _⟩ := two_some h e
  exact ⟨v, w, rfl⟩
theorem bop_two {o : Op} {op : Operator} (ho : bop o = some op) : ∃ f, ∀ xs, opV o xs = two f xs := by
  cases o <;> simp only [bop, reduceCtorEq] at ho <;> exact ⟨_, fun _ => rfl⟩
theorem cop_two {o : Op} {op : CmpOp} (ho : cop o = some op) : ∃ f, ∀ xs, opV o xs = two f xs := by
  cases o <;> simp only [cop, reduceCtorEq] at ho <;> exact ⟨_, fun _ => rfl⟩
theorem snd_bin {o : Op} {op : Operator} {a : A} {l r : Expr} (ho : bop o = some op) (ha : AOk D X xv W a [l, r]) : PE X (.BinOp l op r pos) (lift rE X.K xv W (denE D (.op o a))) := by
  obtain ⟨_, ts, hp, hi⟩ := ha
  obtain ⟨t, u, rfl, h1, h2⟩ := pes2 hp
  refine PE.imp (pe_op (opr_bin ho) h1 h2) fun σ H Q h => ?_
  simp only [denE] at h
  refine hi σ H (fun vs G => match vs with | [v, w] => rBin X.K o v w G Q | _ => False) ((op_src h).imp fun vs G ⟨p2, s2, xs, y, hK2, S2, rw2, e2, c⟩ => ?_)
  obtain ⟨f, hf⟩ := bop_two ho
  obtain ⟨v, w, rfl⟩ := two_vals rw2 (by rw [← hf]; exact e2)
  rw [← hK2]; exact core_bin ho S2 rw2 e2 c
theorem snd_neg {a : A} {l : Expr} (ha : AOk D X xv W a [l]) : PE X (.UnaryOp .USub l pos) (lift rE X.K xv W (denE D (.op .neg a))) := by
  obtain ⟨_, ts, hp, hi⟩ := ha
  obtain ⟨t, rfl, h1⟩ := pes1 hp
  refine PE.imp (pe_un un_neg h1) fun σ H Q h => ?_
  simp only [denE] at h
  refine hi σ H (fun vs G => match vs with | [v] => rU (fun i => .int (-i)) v G Q | _ => False) ((op_src h).imp fun vs G ⟨p2, s2, xs, y, hK2, S2, rw2, e2, c⟩ => ?_)
  simp only [opV] at e2
  obtain ⟨x, v, rfl, h1, e⟩ := one_some rw2 e2
  unfold unI at e
  split at e
  · simp only [Option.some.injEq] at e; subst e
    exact ⟨_, h1.int, c.at S2 (by simp [RV])⟩
  · cases e
theorem cmp_src (A : At C D k N sc X xv W) {o : Op} {op : CmpOp} {a : Py.A} {l r : Expr} (ho : cop o = some op) (ha : AOk D X xv W a [l, r]) :
    ∃ t u, PE X l t ∧ PE X r u ∧ ∀ σ H Q, lift rE X.K xv W (denE D (.op o a)) σ H Q → tOp (rCmp X.K o) t u σ H Q := by
  obtain ⟨_, ts, hp, hi⟩ := ha
  obtain ⟨t, u, rfl, h1, h2⟩ := pes2 hp
  refine ⟨t, u, h1, h2, fun σ H Q h => ?_⟩
  simp only [denE] at h
  refine hi σ H (fun vs G => match vs with | [v, w] => rCmp X.K o v w G Q | _ => False) ((op_src h).imp fun vs G ⟨p2, s2, xs, y, hK2, S2, rw2, e2, c⟩ => ?_)
  obtain ⟨f, hf⟩ := cop_two ho
  obtain ⟨v, w, rfl⟩ := two_vals rw2 (by rw [← hf]; exact e2)
  rw [← hK2]; exact (core_cmp ho S2 rw2 e2 c).1
theorem snd_cmp (A : At C D k N sc X xv W) {o : Op} {op : CmpOp} {a : Py.A} {l r : Expr} (ho : cop o = some op) (hm : behindInMarks op r = false) (ha : AOk D X xv W a [l, r]) : PE X (.Compare l [op] [r] pos) (lift rE X.K xv W (denE D (.op o a))) := by
  obtain ⟨t, u, h1, h2, h3⟩ := cmp_src A ho ha
  exact PE.imp (pe_cmpR (opr_cmp (by have := A.units; omega) ho) h1 h2 hm) h3
/-- a test of a value that is True or False -/
theorem tst_of {m : M MV} {σ : L2.St} {H : Hp} {Q : Bool → Hp → Prop} (hb : ∀ s y s', m s = .ok y s' → ∃ b, y = .bl b) (h : lift rB X.K xv W (do let x ← m; lift? (truthV x)) σ H Q) : lift rE X.K xv W m σ H fun x G => ∃ k, x = .bl k ∧ Q k G := by
  obtain ⟨p, s, hK, S, o⟩ := h
  refine ⟨p, s, hK, S, Out.bnd (r' := rE) o fun x s1 v p1 H1 e st1 S1 rv1 o1 => ?_⟩
  obtain ⟨b, rfl⟩ := hb s x s1 e
  have hv : v = .bl b := by simpa [RV] using rv1
  subst hv
  exact ⟨b, rfl, o1 b p1 H1 (Stp.refl p1 H1) S1 rfl⟩
theorem op_tst {o : Op} {a : A} : tstE D (.op o a) = (do let x ← denE D (.op o a); lift? (truthV x)) := by
  simp only [tstE, denE]
  funext s
  simp only [bnd_eq]
  cases denA D a s with
  | ok zs s1 =>
    simp only
    cases snap zs s1 with
    | ok xs s2 => rfl
    | _ => rfl
  | _ => rfl
theorem cmp_bl {o : Op} {op : CmpOp} {xs : List MV} {y : MV} (ho : cop o = some op) (e : opV o xs = some y) : ∃ b, y = .bl b := by
  cases o with
  | cmp c =>
    simp only [opV] at e
    unfold two at e
    split at e
    · cases c <;> simp only [cmpV, Option.map_eq_some_iff] at e
      · obtain ⟨b, _, rfl⟩ := e; exact ⟨_, rfl⟩
      · obtain ⟨b, _, rfl⟩ := e; exact ⟨_, rfl⟩
      · split at e
        · simp only [Option.some.injEq] at e; exact ⟨_, e.symm⟩
        · split at e
          · simp only [Option.some.injEq] at e; exact ⟨_, e.symm⟩
          · cases e
        · simp only [Option.some.injEq] at e; exact ⟨_, e.symm⟩
        · cases e
      all_goals (split at e <;> first | (simp only [Option.some.injEq] at e; exact ⟨_, e.symm⟩) | cases e)
    · cases e
  | isin => simp only [opV] at e; unfold two at e; split at e; · { obtain ⟨b, _, rfl⟩ := Option.map_eq_some_iff.mp e; exact ⟨_, rfl⟩ }; · cases e
  | notin => simp only [opV] at e; unfold two at e; split at e; · { obtain ⟨b, _, rfl⟩ := Option.map_eq_some_iff.mp e; exact ⟨_, rfl⟩ }; · cases e
  | _ => simp only [cop, reduceCtorEq] at ho
theorem op_ok {o : Op} {a : A} {s s' : S} {y : MV} (e : denE D (.op o a) s = .ok y s') : ∃ xs, opV o xs = some y := by
  simp only [denE, bnd_eq] at e
  split at e
  · split at e
    · rename_i xs s2 _
      refine ⟨xs, ?_⟩
      cases h : opV o xs with
      | none => rw [h] at e; cases e
      | some z => rw [h] at e; injection e with e1 e2; rw [e1]
    · cases e
    · cases e
  · cases e
  · cases e
theorem snd_cmpT (A : At C D k N sc X xv W) {o : Op} {op : CmpOp} {a : Py.A} {l r : Expr} (ho : cop o = some op) (hm : behindInMarks op r = false) (ha : AOk D X xv W a [l, r]) : PT X (.Compare l [op] [r] pos) (lift rB X.K xv W (tstE D (.op o a))) := by
  obtain ⟨t, u, h1, h2, h3⟩ := cmp_src A ho ha
  refine PT.imp (pt_cmpR (opr_cmp (by have := A.units; omega) ho) h1 h2 hm) fun σ H Q h => ?_
  rw [op_tst] at h
  exact h3 σ H _ (tst_of (fun s y s' e => let ⟨xs, hx⟩ := op_ok e; cmp_bl ho hx) h)
/-! ### is None -/
theorem isN_src {a : A} {l : Expr} {b : Bool} (ha : AOk D X xv W a [l]) :
    ∃ t, PE X l t ∧ ∀ σ H Q, lift rE X.K xv W (denE D (.op (if b then .isN else .notN) a)) σ H Q → t σ H fun x G => Q (.bl (if b then decide (x = .non) else !decide (x = .non))) G := by
  obtain ⟨_, ts, hp, hi⟩ := ha
  obtain ⟨t, rfl, h1⟩ := pes1 hp
  refine ⟨t, h1, fun σ H Q h => ?_⟩
  simp only [denE] at h
  refine hi σ H (fun vs G => match vs with | [x] => Q (.bl (if b then decide (x = .non) else !decide (x = .non))) G | _ => False) ((op_src h).imp fun vs G ⟨p2, s2, xs, y, hK2, S2, rw2, e2, c⟩ => ?_)
  have key : ∀ x v, RW p2 G x v → isNV x = decide (v = V.non) := fun x v h => by
    cases x with
    | non => simp [RW, RV] at h; subst h; rfl
    | bl b => have := h.bl; subst this; rfl
    | int b => have := h.int; subst this; rfl
    | str b => have := h.str; subst this; rfl
    | tup xs => obtain ⟨a, vs, rfl, _⟩ := h.tup; rfl
    | lst xs => obtain ⟨a, vs, rfl, _⟩ := h; rfl
    | dk xs => obtain ⟨a, vs, rfl, _⟩ := h; rfl
    | dt xs => obtain ⟨a, vs, rfl, _⟩ := h; rfl
    | ref n => simp only [RW, RV] at h; obtain ⟨a, rfl, _⟩ := h; rfl
    | scr xs => simp only [RW, RV] at h; obtain ⟨a, vs, rfl, _⟩ := h; rfl
  cases b
  · simp only [Bool.false_eq_true, if_false, opV] at e2
    obtain ⟨x, v, rfl, h1, e⟩ := one_some rw2 e2
    simp only [Option.some.injEq] at e; subst e
    rw [key x v h1] at c
    exact c.at S2 (by simp [RV])
  · simp only [if_true, opV] at e2
    obtain ⟨x, v, rfl, h1, e⟩ := one_some rw2 e2
    simp only [Option.some.injEq] at e; subst e
    rw [key x v h1] at c
    exact c.at S2 (by simp [RV])
theorem isNm_eq {r : Expr} (h : isNm r = true) : ∃ j p, r = .Constant .none j p := by
  unfold isNm at h
  split at h
  · exact ⟨_, _, rfl⟩
  · cases h
theorem snd_isN {a : A} {l r : Expr} (hr : isNm r = true) (ha : AOk D X xv W a [l]) : PE X (.Compare l [.Is] [r] pos) (lift rE X.K xv W (denE D (.op .isN a))) ∧ PT X (.Compare l [.Is] [r] pos) (lift rB X.K xv W (tstE D (.op .isN a))) := by
  obtain ⟨j, q, rfl⟩ := isNm_eq hr
  obtain ⟨t, h1, h2⟩ := isN_src (b := true) ha
  refine ⟨PE.imp (pe_cmp (pc_isN h1) rfl) fun σ H Q h => h2 σ H Q h, PT.imp (pt_cmp (pc_isN h1) rfl) fun σ H Q h => ?_⟩
  rw [op_tst] at h
  exact h2 σ H _ (tst_of (fun s y s' e => by
    obtain ⟨xs, hx⟩ := op_ok e
    change opV .isN xs = some y at hx
    simp only [opV] at hx
    unfold one at hx
    split at hx
    · simp only [Option.some.injEq] at hx; exact ⟨_, hx.symm⟩
    · cases hx) h)
theorem snd_notN {a : A} {l r : Expr} (hr : isNm r = true) (ha : AOk D X xv W a [l]) : PE X (.Compare l [.IsNot] [r] pos) (lift rE X.K xv W (denE D (.op .notN a))) ∧ PT X (.Compare l [.IsNot] [r] pos) (lift rB X.K xv W (tstE D (.op .notN a))) := by
  obtain ⟨j, q, rfl⟩ := isNm_eq hr
  obtain ⟨t, h1, h2⟩ := isN_src (b := false) ha
  refine ⟨PE.imp (pe_cmp (pc_notN h1) rfl) fun σ H Q h => h2 σ H Q h, PT.imp (pt_cmp (pc_notN h1) rfl) fun σ H Q h => ?_⟩
  rw [op_tst] at h
  exact h2 σ H _ (tst_of (fun s y s' e => by
    obtain ⟨xs, hx⟩ := op_ok e
    change opV .notN xs = some y at hx
    simp only [opV] at hx
    unfold one at hx
    split at hx
    · simp only [Option.some.injEq] at hx; exact ⟨_, hx.symm⟩
    · cases hx) h)
/-! ### subscripts -/
theorem plainIx {b : Expr} (h : isSl b = false) : PlainIx b := by
  intro o i
  cases b <;> first | rfl | (simp [isSl] at h)
theorem snd_idx {a : A} {l r : Expr} (hs : isSl r = false) (ha : AOk D X xv W a [l, r]) : PE X (.Subscript l r pos) (lift rE X.K xv W (denE D (.op .idx a))) := by
  obtain ⟨_, ts, hp, hi⟩ := ha
  obtain ⟨t, u, rfl, h1, h2⟩ := pes2 hp
  refine PE.imp (pe_ix ix_seq h1 h2 (plainIx hs)) fun σ H Q h => ?_
  simp only [denE] at h
  refine hi σ H (fun vs G => match vs with | [v, w] => rIx X.K v w G Q | _ => False) ((op_src h).imp fun vs G ⟨p2, s2, xs, y, hK2, S2, rw2, e2, c⟩ => ?_)
  obtain ⟨v, w, rfl⟩ := two_vals rw2 e2
  rw [← hK2]; exact core_idx S2 rw2 e2 c
/-! ### built-ins -/
theorem snd_blt (A : At C D k N sc X xv W) {o : Op} {x : Str} {t : Bool} {n : String} {a : Py.A} {e : Expr} {es : List Expr} {q : Pos} (ho : bName o = some (x, t, n)) (hx : blB C sc x = true) (hv : bootBuiltins x = some (bVal t n)) (ns : noStar (e :: es) = true)
    (ha : AOk D X xv W a (e :: es)) : PE X (.Call (.Name x q) (e :: es) [] pos) (lift rE X.K xv W (denE D (.op o a))) := by
  obtain ⟨_, ts, hp, hi⟩ := ha
  obtain ⟨g1, g2, g3, g4⟩ := A.blt hx
  obtain ⟨s1, s2⟩ := star_cons X.env ns
  have hc := opr_call (X := X) A.calm A.gd (by have := A.units; omega) ho
  have fin : ∀ σ H Q, lift rE X.K xv W (denE D (.op o a)) σ H Q → tCB (rCall X.K o) (seqT ts) σ H Q := fun σ H Q h => by
    simp only [denE] at h
    refine hi σ H _ ((op_src h).imp fun vs G ⟨p2, s2, xs, y, hK2, S2, rw2, e2, c⟩ => ?_)
    rw [← hK2]; exact core_call ho S2 rw2 e2 c
  cases t with
  | false => exact PE.imp (pe_callB hc g1 g3 hv (hp.pa ns) g4 g2 s1 (noStar_any _ _ s2)) fin
  | true => exact PE.imp (pe_callTy hc g1 g3 hv (hp.pa ns) g4 g2 s1 (noStar_any _ _ s2)) fin
end
end Py

-- text PyK
set_option Elab.async false
set_option linter.all false
set_option maxRecDepth 100000
set_option maxHeartbeats 4000000
namespace Py
open PySem PySem.Spec PyProof.Rows L2
section
variable {C : Cfg} {D : Fns} {k : Nat} {N : List Str} {sc : Scope} {X : Cx} {xv : XV} {W : WX} {pos : Pos}
/-! ### tests by truth -/
theorem truth_ok {p : Pl} {G : Hp} {x : MV} {v : V} {b : Bool} {K : PySem.W.Frag} (hK : p.K = K) (h : RV p G x v) (e : truthV x = some b) : TruV K v G b := by
  cases x with
  | non => simp only [truthV, Option.some.injEq] at e; subst e; have : v = .non := by simpa [RV] using h
           subst this; rfl
  | bl c => simp only [truthV, Option.some.injEq] at e; subst e; have : v = .bl c := by simpa [RV] using h
            subst this; rfl
  | int c => simp only [truthV, Option.some.injEq] at e; subst e; have : v = .int c := by simpa [RV] using h
             subst this; rfl
  | str c =>
    simp only [truthV] at e
    have : v = .str c := by simpa [RV] using h
    subst this
    split at e
    · rename_i hz
      simp only [Option.some.injEq] at e; subst e
      refine ⟨hz, ?_⟩
      by_cases h0 : c.length = 0
      · simp [h0]
      · have h1 : (c.length != 0) = true := by simpa using h0
        have h2 : ((c.length : Int) != 0) = true := by simp; omega
        rw [h1, h2]
    · cases e
  | tup xs =>
    simp only [truthV, Option.some.injEq] at e; subst e
    simp only [RV] at h
    obtain ⟨a, vs, rfl, q, r⟩ := h
    refine .inr (.inl ⟨vs, SqT.of q, ?_⟩)
    have := r.len
    cases xs <;> cases vs <;> simp at this ⊢
  | lst xs =>
    simp only [truthV, Option.some.injEq] at e; subst e
    simp only [RV] at h
    obtain ⟨a, vs, rfl, q, r⟩ := h
    refine .inl ⟨vs, SqL.of q.1, ?_⟩
    have := r.len
    cases xs <;> cases vs <;> simp at this ⊢
  | _ => simp [truthV] at e
/-- a test by its value's truth -/
theorem snd_tru {e : Expr} {m : M MV} (hp : plainT e = true) (h : PE X e (lift rE X.K xv W m)) : PT X e (lift rB X.K xv W (do let x ← m; lift? (truthV x))) := by
  refine PT.imp (pt_truth h fun whole => ?_) fun σ H Q ⟨p, s, hK, S, o⟩ => ?_
  · cases e <;> first | rfl | (simp [plainT] at hp; done) | skip
    rename_i u x q
    cases u <;> first | rfl | (simp [plainT] at hp)
  · refine ⟨p, s, hK, S, Out.bnd (r' := rE) o fun x s1 v p1 H1 _ st1 S1 rv1 o1 => ?_⟩
    obtain ⟨b, e2, c⟩ := lift?_end o1
    exact ⟨b, truth_ok (by rw [st1.K]; exact hK) rv1 e2, c b p1 H1 (Stp.refl p1 H1) S1 rfl⟩
/-! ### and, or, not, if -/
theorem Out.ok {α β : Type} {r : Pl → Hp → α → β → Prop} {p : Pl} {H : Hp} {σ : L2.St} {Q : β → Hp → Prop} {x : α} {s : S} {b : β} (o : Out r xv W p H σ Q ((pure x : M α) s)) (S : Sit p s σ H) (h : r p H x b) : Q b H := o b p H (Stp.refl p H) S h
theorem snd_ite {c a b : E} {t x y : Expr} (h1 : PT X t (lift rB X.K xv W (tstE D c))) (h2 : PE X x (lift rE X.K xv W (denE D a))) (h3 : PE X y (lift rE X.K xv W (denE D b))) : PE X (.IfExp t x y pos) (lift rE X.K xv W (denE D (.ite c a b))) := by
  refine PE.imp (pe_ifExp h1 h2 h3) fun σ H Q ⟨p, s, hK, S, o⟩ => ?_
  simp only [denE] at o
  refine ⟨p, s, hK, S, Out.bnd (r' := rB) o fun z s1 v p1 H1 _ st1 S1 rv1 o1 => ?_⟩
  have hz : z = v := rv1
  subst hz
  cases z with
  | true => exact ⟨p1, s1, by rw [st1.K]; exact hK, S1, o1⟩
  | false => exact ⟨p1, s1, by rw [st1.K]; exact hK, S1, o1⟩
theorem snd_and {a b : E} {x y : Expr} {r : List Expr} (h1 : PE X x (lift rE X.K xv W (denE D a))) (h2 : PE X (.BoolOp .And (y :: r) pos) (lift rE X.K xv W (denE D b))) : PE X (.BoolOp .And (x :: y :: r) pos) (lift rE X.K xv W (denE D (.and2 a b))) := by
  refine PE.imp (pe_and h1 h2) fun σ H Q ⟨p, s, hK, S, o⟩ => ?_
  simp only [denE] at o
  refine ⟨p, s, hK, S, Out.bnd (r' := rE) o fun z s1 v p1 H1 _ st1 S1 rv1 o1 => ?_⟩
  cases z with
  | bl c =>
    have hv : v = .bl c := by simpa [RV] using rv1
    subst hv
    refine ⟨c, rfl, ?_⟩
    cases c with
    | true => exact ⟨p1, s1, by rw [st1.K]; exact hK, S1, o1⟩
    | false => exact Out.ok o1 S1 (by simp [RV])
  | _ => exact o1.elim
theorem snd_or {a b : E} {x y : Expr} {r : List Expr} (h1 : PE X x (lift rE X.K xv W (denE D a))) (h2 : PE X (.BoolOp .Or (y :: r) pos) (lift rE X.K xv W (denE D b))) : PE X (.BoolOp .Or (x :: y :: r) pos) (lift rE X.K xv W (denE D (.or2 a b))) := by
  refine PE.imp (pe_or h1 h2) fun σ H Q ⟨p, s, hK, S, o⟩ => ?_
  simp only [denE] at o
  refine ⟨p, s, hK, S, Out.bnd (r' := rE) o fun z s1 v p1 H1 _ st1 S1 rv1 o1 => ?_⟩
  cases z with
  | bl c =>
    have hv : v = .bl c := by simpa [RV] using rv1
    subst hv
    refine ⟨c, rfl, ?_⟩
    cases c with
    | false => exact ⟨p1, s1, by rw [st1.K]; exact hK, S1, o1⟩
    | true => exact Out.ok o1 S1 (by simp [RV])
  | _ => exact o1.elim
theorem snd_not {a : E} {x : Expr} (h1 : PE X x (lift rE X.K xv W (denE D a))) : PE X (.UnaryOp .Not x pos) (lift rE X.K xv W (denE D (.not a))) := by
  refine PE.imp (pe_not h1) fun σ H Q ⟨p, s, hK, S, o⟩ => ?_
  simp only [denE] at o
  refine ⟨p, s, hK, S, Out.bnd (r' := rE) o fun z s1 v p1 H1 _ st1 S1 rv1 o1 => ?_⟩
  cases z with
  | bl c => exact ⟨c, by simpa [RV] using rv1, Out.ok o1 S1 (by simp [RV])⟩
  | _ => exact o1.elim
theorem snd_andT {a b : E} {x y : Expr} {r : List Expr} (h1 : PT X x (lift rB X.K xv W (tstE D a))) (h2 : PW X (.BoolOp .And (y :: r) pos) (lift rB X.K xv W (tstE D b))) : PW X (.BoolOp .And (x :: y :: r) pos) (lift rB X.K xv W (tstE D (.and2 a b))) := by
  have h := pw_and (pos := pos) h1 h2
  refine ⟨fun whole pins s σ H Q I ⟨p, z, hK, S, o⟩ => h.run whole pins s σ H Q I ?_⟩
  simp only [tstE] at o
  refine ⟨p, z, hK, S, Out.bnd (r' := rB) o fun c s1 v p1 H1 _ st1 S1 rv1 o1 => ?_⟩
  have hz : c = v := rv1
  subst hz
  cases c with
  | true => exact ⟨p1, s1, by rw [st1.K]; exact hK, S1, o1⟩
  | false => exact Out.ok o1 S1 rfl
theorem snd_orT {a b : E} {x y : Expr} {r : List Expr} (h1 : PT X x (lift rB X.K xv W (tstE D a))) (h2 : PW X (.BoolOp .Or (y :: r) pos) (lift rB X.K xv W (tstE D b))) : PW X (.BoolOp .Or (x :: y :: r) pos) (lift rB X.K xv W (tstE D (.or2 a b))) := by
  have h := pw_or (pos := pos) h1 h2
  refine ⟨fun whole pins s σ H Q I ⟨p, z, hK, S, o⟩ => h.run whole pins s σ H Q I ?_⟩
  simp only [tstE] at o
  refine ⟨p, z, hK, S, Out.bnd (r' := rB) o fun c s1 v p1 H1 _ st1 S1 rv1 o1 => ?_⟩
  have hz : c = v := rv1
  subst hz
  cases c with
  | false => exact ⟨p1, s1, by rw [st1.K]; exact hK, S1, o1⟩
  | true => exact Out.ok o1 S1 rfl
theorem snd_notT {a : E} {x : Expr} (h1 : PT X x (lift rB X.K xv W (tstE D a))) : PT X (.UnaryOp .Not x pos) (lift rB X.K xv W (tstE D (.not a))) := by
  refine PT.imp (pt_not h1) fun σ H Q ⟨p, s, hK, S, o⟩ => ?_
  simp only [tstE] at o
  exact ⟨p, s, hK, S, Out.bnd (r' := rB) o fun c s1 v p1 H1 _ st1 S1 rv1 o1 => (by
    have hz : c = v := rv1
    subst hz
    exact Out.ok o1 S1 rfl)⟩
/-! ### two comparisons in a row -/
theorem cmpO_cop (c : COp) : cop (.cmp c) = some (cmpO c) := by cases c <;> rfl
theorem cmpB_some {c : COp} {x y : MV} {b : Bool} (e : cmpB c x y = some b) : cmpV c x y = some (.bl b) := by
  unfold cmpB at e
  split at e
  · rename_i h; simp only [Option.some.injEq] at e; subst e; exact h
  · cases e
theorem snd_chain (A : At C D k N sc X xv W) {c d : COp} {x y z : E} {l m r : Expr} (hm : behindInMarks (cmpO d) r = false) (h1 : PE X l (lift rE X.K xv W (denE D x))) (h2 : PE X m (lift rE X.K xv W (denE D y))) (h3 : PE X r (lift rE X.K xv W (denE D z))) :
    PE X (.Compare l [cmpO c, cmpO d] [m, r] pos) (lift rE X.K xv W (denE D (.chain c d x y z))) ∧ PT X (.Compare l [cmpO c, cmpO d] [m, r] pos) (lift rB X.K xv W (tstE D (.chain c d x y z))) := by
  have hu := A.units
  have o1 := opr_cmp (X := X) (by omega) (cmpO_cop c)
  have o2 := opr_cmp (X := X) (by omega) (cmpO_cop d)
  constructor
  · refine PE.imp (pe_chain o1 o2 h1 h2 h3 hm) fun σ H Q ⟨p, s, hK, S, o⟩ => ?_
    simp only [denE] at o
    refine ⟨p, s, hK, S, Out.bnd (r' := rE) o fun a s1 v p1 H1 _ st1 S1 rv1 o1 => ?_⟩
    have hK1 : p1.K = X.K := by rw [st1.K]; exact hK
    refine ⟨p1, s1, hK1, S1, Out.bnd (r' := rE) o1 fun b s2 w p2 H2 _ st2 S2 rv2 o2 => ?_⟩
    have hK2 : p2.K = X.K := by rw [st2.K]; exact hK1
    obtain ⟨q, e, o3⟩ := lift?_out o2
    have rv1' := RV.keep S1.hr st2 a v rv1
    rw [← hK2]
    refine (core_cmp (cmpO_cop c) S2 (xs := [a, b]) (y := .bl q) ⟨v, [w], rfl, rv1'.weak, w, [], rfl, rv2.weak, rfl⟩ (by simp only [opV, two]; exact cmpB_some e) fun u p3 H3 st3 S3 rv3 => ?_).1
    have hu3 : u = .bl q := by simpa [RV] using rv3
    subst hu3
    have hK3 : p3.K = X.K := by rw [st3.K]; exact hK2
    refine ⟨q, rfl, ?_⟩
    cases q with
    | false => exact Out.ok (Out.mono st3 o3) S3 (by simp [RV])
    | true =>
      simp only [if_true] at o3 ⊢
      refine ⟨p3, s2, st3.K, S3, Out.bnd (r' := rE) (Out.mono st3 o3) fun e' s4 u4 p4 H4 _ st4 S4 rv4 o4 => ?_⟩
      obtain ⟨y', e5, c5⟩ := lift?_end o4
      have rv2' := RV.keep S3.hr st4 b w (RV.keep S2.hr st3 b w rv2)
      rw [← st3.K, ← st4.K]
      exact (core_cmp (cmpO_cop d) S4 (xs := [b, e']) (y := y') ⟨w, [u4], rfl, rv2'.weak, u4, [], rfl, rv4.weak, rfl⟩ (by simp only [opV, two]; exact e5) c5).1
  · refine PT.imp (pt_chain o1 o2 h1 h2 h3 hm) fun σ H Q ⟨p, s, hK, S, o⟩ => ?_
    simp only [tstE] at o
    refine ⟨p, s, hK, S, Out.bnd (r' := rE) o fun a s1 v p1 H1 _ st1 S1 rv1 o1 => ?_⟩
    have hK1 : p1.K = X.K := by rw [st1.K]; exact hK
    refine ⟨p1, s1, hK1, S1, Out.bnd (r' := rE) o1 fun b s2 w p2 H2 _ st2 S2 rv2 o2 => ?_⟩
    have hK2 : p2.K = X.K := by rw [st2.K]; exact hK1
    obtain ⟨q, e, o3⟩ := lift?_out o2
    have rv1' := RV.keep S1.hr st2 a v rv1
    rw [← hK2]
    refine (core_cmp (cmpO_cop c) S2 (xs := [a, b]) (y := .bl q) ⟨v, [w], rfl, rv1'.weak, w, [], rfl, rv2.weak, rfl⟩ (by simp only [opV, two]; exact cmpB_some e) fun u p3 H3 st3 S3 rv3 => ?_).1
    have hu3 : u = .bl q := by simpa [RV] using rv3
    subst hu3
    have hK3 : p3.K = X.K := by rw [st3.K]; exact hK2
    refine ⟨q, rfl, ?_⟩
    cases q with
    | false => exact ⟨false, rfl, Out.ok (Out.mono st3 o3) S3 rfl⟩
    | true =>
      simp only [if_true] at o3 ⊢
      refine ⟨p3, s2, st3.K, S3, Out.bnd (r' := rE) (Out.mono st3 o3) fun e' s4 u4 p4 H4 _ st4 S4 rv4 o4 => ?_⟩
      obtain ⟨y', e5, c5⟩ := lift?_end o4
      have rv2' := RV.keep S3.hr st4 b w (RV.keep S2.hr st3 b w rv2)
      rw [← st3.K, ← st4.K]
      refine (core_cmp (cmpO_cop d) S4 (xs := [b, e']) (y := .bl y') ⟨w, [u4], rfl, rv2'.weak, u4, [], rfl, rv4.weak, rfl⟩ (by simp only [opV, two]; exact cmpB_some e5) fun u6 p6 H6 st6 S6 rv6 => ?_).1
      have hu6 : u6 = .bl y' := by simpa [RV] using rv6
      subst hu6
      exact ⟨y', rfl, c5 y' p6 H6 st6 S6 rfl⟩
/-! ### rows of values: displays, calls -/
theorem vals_ok {σ : L2.St} {p : Pl} {G : Hp} : ∀ {zs : List Src} {xs : List MV} {vs : List V}, RSs σ p G zs vs → vals? zs = some xs → RVs p G xs vs
  | [], xs, vs, h, e => by simp only [vals?, Option.some.injEq] at e; subst e; have h' : vs = [] := h; subst h'; exact .nil
  | .inl x :: zs, xs, vs, h, e => by
    simp only [vals?, Option.map_eq_some_iff] at e
    obtain ⟨ys, e1, rfl⟩ := e
    obtain ⟨v, r, rfl, h1, h2⟩ := h
    exact .cons h1 (vals_ok h2 e1)
  | .inr _ :: _, _, _, _, e => by simp [vals?] at e
theorem rss_len {σ : L2.St} {p : Pl} {G : Hp} : ∀ {zs : List Src} {vs : List V}, RSs σ p G zs vs → vs.length = zs.length
  | [], vs, h => by have h' : vs = [] := h; subst h'; rfl
  | z :: zs, vs, h => by obtain ⟨v, r, rfl, _, h2⟩ := h; simp [rss_len h2]
/-- sources that are values, then what is done with them -/
theorem val_src {α β : Type} {r : Pl → Hp → α → β → Prop} {a : A} {f : List MV → M α} {σ : L2.St} {H : Hp} {Q : β → Hp → Prop} (h : lift r X.K xv W (do let zs ← denA D a; let xs ← lift? (vals? zs); f xs) σ H Q) :
    lift (RSs σ) X.K xv W (denA D a) σ H fun vs G => ∃ p s xs, p.K = X.K ∧ Sit p s σ G ∧ RVs p G xs vs ∧ Out r xv W p G σ Q (f xs s) ∧ ∃ s0 zs s1, denA D a s0 = .ok zs s1 ∧ vs.length = zs.length := by
  obtain ⟨p, s, hK, S, o⟩ := h
  refine ⟨p, s, hK, S, Out.bnd (r' := RSs σ) o fun zs s1 vs p1 H1 e0 st1 S1 rv1 o1 => ?_⟩
  obtain ⟨xs, e, o2⟩ := lift?_out o1
  exact ⟨p1, s1, xs, by rw [st1.K]; exact hK, S1, vals_ok rv1 e, o2, s, zs, s1, e0, rss_len rv1⟩
theorem snd_tup {a : A} {es : List Expr} {j : Nat} (ns : noStar es = true) (ha : AOk D X xv W a es) : PE X (.Tuple es j pos) (lift rE X.K xv W (denE D (.tup a))) := by
  obtain ⟨_, ts, hp, hi⟩ := ha
  refine PE.imp (pe_tup (hp.pa ns)) fun σ H Q h => ?_
  simp only [denE] at h
  refine hi σ H _ ((val_src h).imp fun vs G ⟨p, s, xs, hK, S, rv, o, _⟩ => ?_)
  split at o
  · rename_i hl
    have c : Cont p s σ G (.tup xs) Q := o
    exact ⟨by rw [rv.len]; exact hl, c.tup S rv⟩
  · exact o.elim
theorem permL_len {α : Type} : ∀ {perm : List Nat} {xs : List α}, (∀ j ∈ perm, j < xs.length) → (permL perm xs).length = perm.length
  | [], _, _ => rfl
  | j :: r, xs, h => by
    unfold permL
    have hj := h j (by simp)
    simp only [List.filterMap_cons, List.getElem?_eq_getElem hj]
    have := permL_len (perm := r) (xs := xs) fun i hi => h i (by simp [hi])
    unfold permL at this
    simp [this]
theorem range_take {α : Type} (xs : List α) : ∀ n, n ≤ xs.length → (List.range n).filterMap (xs[·]?) = xs.take n
  | 0, _ => by simp
  | n + 1, h => by
    rw [List.range_succ, List.filterMap_append, range_take xs n (by omega), List.take_add_one]
    congr 1
theorem range_perm {α : Type} (xs : List α) : permL (List.range xs.length) xs = xs := by
  unfold permL
  rw [range_take xs _ (Nat.le_refl _), List.take_length]
theorem permA_ok {p : Pl} {G : Hp} : ∀ {perm : List Nat} {xs ys : List MV} {vs : List V}, RVs p G xs vs → permA perm xs = some ys → RVs p G ys (permL perm vs)
  | [], xs, ys, vs, h, e => by simp only [permA, Option.some.injEq] at e; subst e; exact .nil
  | j :: r, xs, ys, vs, h, e => by
    simp only [permA] at e
    split at e
    · rename_i x l e1 e2
      simp only [Option.some.injEq] at e; subst e
      obtain ⟨v, h1, h2⟩ := h.get' e1
      have ih := permA_ok h e2
      unfold permL at ih ⊢
      simp only [List.filterMap_cons, h1]
      exact .cons h2 ih
    · cases e
theorem permA_len : ∀ {perm : List Nat} {xs ys : List MV}, permA perm xs = some ys → ys.length = perm.length
  | [], _, _, e => by simp only [permA, Option.some.injEq] at e; subst e; rfl
  | j :: r, xs, ys, e => by
    simp only [permA] at e
    split at e
    · rename_i x l e1 e2
      simp only [Option.some.injEq] at e; subst e
      simp [permA_len e2]
    · cases e
end
end Py

-- text PyL
set_option Elab.async false
set_option linter.all false
set_option maxRecDepth 100000
set_option maxHeartbeats 4000000
namespace Py
open PySem PySem.Spec PyProof.Rows L2
section
variable {C : Cfg} {D : Fns} {k : Nat} {N : List Str} {sc : Scope} {X : Cx} {xv : XV} {W : WX} {pos : Pos}
/-! ### calls of defs -/
theorem snd_call (A : At C D k N sc X xv W) {f : Nat} {d : FI} {a : Py.A} {x : Str} {e : Expr} {es : List Expr} {q : Pos} (hd : C.fs[f]? = some d) (hx : d.nm = x) (hg : glB sc x = true) (hl : (e :: es).length = d.ps.length) (ns : noStar (e :: es) = true)
    (ha : AOk D X xv W a (e :: es)) : PE X (.Call (.Name x q) (e :: es) [] pos) (lift rE X.K xv W (denE D (.call f a))) := by
  subst hx
  obtain ⟨fa, fd, m1, m2, F, b1, _⟩ := A.fn f d hd
  obtain ⟨g1, g2⟩ := A.gl hg
  obtain ⟨hn, ts, hp, hi⟩ := ha
  rw [← hl] at b1
  refine PE.imp (pe_callG F A.tk A.gd A.rm g1 m1 m2 b1 ns g2 hp) fun σ H Q h => ?_
  simp only [denE] at h
  refine hi σ H _ ((val_src h).imp fun vs G ⟨p, s, xs, hK, S, rv, o, s0, zs, s1, e0, hz⟩ => ?_)
  have hv : vs.length = (e :: es).length := by rw [hz, hn _ _ _ e0]
  rw [← hv, range_perm, ← hK]
  exact call_out A.xo S rv (by rw [hv]; exact hl) o
theorem snd_callK (A : At C D k N sc X xv W) {f : Nat} {d : FI} {a : Py.A} {perm : List Nat} {x : Str} {es : List Expr} {kws : List Keyword} {ks : List Str} {q : Pos} (hd : C.fs[f]? = some d) (hx : d.nm = x) (hg : glB sc x = true)
    (hk : kwNames kws = some ks) (hm : (es.length, ks, perm) ∈ d.kw) (hl : perm.length = d.ps.length) (ns : noStar es = true)
    (ha : AOk D X xv W a (es ++ kws.map Keyword.value)) : PE X (.Call (.Name x q) es kws pos) (lift rE X.K xv W (denE D (.callK f a perm))) := by
  subst hx
  obtain ⟨fa, fd, m1, m2, F, _, b1⟩ := A.fn f d hd
  obtain ⟨g1, g2⟩ := A.gl hg
  obtain ⟨hn, ts, hp, hi⟩ := ha
  refine PE.imp (pe_callGK F A.tk A.gd A.rm g1 m1 m2 (b1 _ hm) ns g2 hk hp) fun σ H Q h => ?_
  simp only [denE] at h
  refine hi σ H _ ((val_src h).imp fun vs G ⟨p, s, xs, hK, S, rv, o, s0, zs, s1, e0, hz⟩ => ?_)
  obtain ⟨ys, e1, o1⟩ := lift?_out o
  have rp := permA_ok rv e1
  rw [← hK]
  exact call_out A.xo S rp (by rw [rp.len, permA_len e1]; exact hl) o1
/-! ### cuts of tuples -/
theorem snd_slcT {lo hi : Option Expr} {a : A} {l : Expr} {q : Pos} (h1o : (lo.isSome && hi.isSome) = false) (ha : AOk D X xv W a (l :: (optL lo ++ optL hi))) : PE X (.Subscript l (.Slice lo hi none q) pos) (lift rE X.K xv W (denE D (.op (.slcT lo.isSome hi.isSome) a))) := by
  obtain ⟨_, ts, hp, hi'⟩ := ha
  have fin : ∀ {p2 : Pl} {s2 : S} {G : Hp} {σ : L2.St} {Q : VK} {xs : List MV} {y : MV} {vs : List V} {b c : Bool}, p2.K = X.K → Sit p2 s2 σ G → RWs p2 G xs vs → opV (.slcT b c) xs = some y → Cont p2 s2 σ G y Q →
      (b = true ∧ c = false ∧ ∃ v i, vs = [v, .int i] ∧ rSlA X.K v (some i) none G Q) ∨ (b = false ∧ c = true ∧ ∃ v j, vs = [v, .int j] ∧ rSlA X.K v none (some j) G Q) := by
    intro p2 s2 G σ Q xs y vs b c hK S2 rw2 e2 co
    simp only [opV, slcTV] at e2
    split at e2
    · simp only [Option.some.injEq] at e2; subst e2
      obtain ⟨v, r, rfl, h1, w, r2, rfl, h2, h4⟩ := rw2
      have h4' : r2 = [] := h4
      subst h4'
      have hw := h2.int
      subst hw
      exact .inl ⟨rfl, rfl, v, _, rfl, by rw [← hK]; exact core_slcT S2 h1 co⟩
    · simp only [Option.some.injEq] at e2; subst e2
      obtain ⟨v, r, rfl, h1, w, r2, rfl, h2, h4⟩ := rw2
      have h4' : r2 = [] := h4
      subst h4'
      have hw := h2.int
      subst hw
      exact .inr ⟨rfl, rfl, v, _, rfl, by rw [← hK]; exact core_slcT S2 h1 co⟩
    · cases e2
  cases lo with
  | some lo =>
    cases hi with
    | some hi => simp at h1o
    | none =>
      obtain ⟨t, u, rfl, h1, h2⟩ := pes2 hp
      refine PE.imp (pe_slice sl_tupA h1 (po_some h2) po_none) fun σ H Q h => ?_
      simp only [denE] at h
      refine hi' σ H (fun vs G => match vs with | [v, w] => ∃ i, w = .int i ∧ rSlA X.K v (some i) none G Q | _ => False) ((op_src h).imp fun vs G ⟨p2, s2, xs, y, hK2, S2, rw2, e2, c⟩ => ?_)
      rcases fin hK2 S2 rw2 e2 c with ⟨_, _, v, i, rfl, h⟩ | ⟨z, _⟩
      · exact ⟨i, rfl, h⟩
      · cases z
  | none =>
    cases hi with
    | some hi =>
      obtain ⟨t, u, rfl, h1, h2⟩ := pes2 hp
      refine PE.imp (pe_slice sl_tupA h1 po_none (po_some h2)) fun σ H Q h => ?_
      simp only [denE] at h
      refine hi' σ H (fun vs G => match vs with | [v, w] => ∃ i, w = .int i ∧ rSlA X.K v none (some i) G Q | _ => False) ((op_src h).imp fun vs G ⟨p2, s2, xs, y, hK2, S2, rw2, e2, c⟩ => ?_)
      rcases fin hK2 S2 rw2 e2 c with ⟨z, _⟩ | ⟨_, _, v, i, rfl, h⟩
      · cases z
      · exact ⟨i, rfl, h⟩
    | none =>
      obtain ⟨t, rfl, h1⟩ := pes1 hp
      refine PE.imp (pe_slice sl_tupA h1 po_none po_none) fun σ H Q h => ?_
      simp only [denE] at h
      refine hi' σ H (fun vs G => match vs with | [v] => rSlA X.K v none none G Q | _ => False) ((op_src h).imp fun vs G ⟨p2, s2, xs, y, hK2, S2, rw2, e2, c⟩ => ?_)
      rcases fin hK2 S2 rw2 e2 c with ⟨z, _⟩ | ⟨_, z, _⟩ <;> cases z
/-! ### isinstance -/
theorem tyX_of {p : Pl} {G : Hp} {x : MV} {v : V} {n : String} (h : RW p G x v) (e : tyN x = some n) : TyX p.K G v (.type n) := by
  cases x <;> simp only [tyN, Option.some.injEq, reduceCtorEq] at e <;> subst e
  · have : v = .non := by simpa [RW, RV] using h
    subst this; exact .base .non
  · have := h.bl; subst this; exact .base (.bl _)
  · have := h.int; subst this; exact .base (.int _)
  · have := h.str; subst this; exact .base (.str _)
  · obtain ⟨a, vs, rfl, q, _⟩ := h.tup
    rcases q with (q | ⟨o, q⟩) | ⟨o, its, m, hk, hc, _⟩
    · exact .base (.tup q)
    · exact .fTuple q
    · exact .kTuple hk hc
  · obtain ⟨a, vs, rfl, q, _⟩ := h; exact .base (.lst q)
  · obtain ⟨a, vs, rfl, q, _⟩ := h; exact .base (.dK q)
  · obtain ⟨a, vs, rfl, q, _⟩ := h; exact .base (.dT q)
theorem snd_isi (A : At C D k N sc X xv W) {n : String} {a : Py.A} {e : Expr} {t : Str} {q q2 : Pos} (ht : Str.ofString n = t) (h1 : blB C sc "isinstance" = true) (h2 : blB C sc t = true) (hv : bootBuiltins t = some (.type n)) (ns : noStar [e, .Name t q2] = true)
    (ha : AOk D X xv W a [e]) : PE X (.Call (.Name "isinstance" q) [e, .Name t q2] [] pos) (lift rE X.K xv W (denE D (.op (.isi n) a))) := by
  obtain ⟨_, ts, hp, hi⟩ := ha
  obtain ⟨u, rfl, hu⟩ := pes1 hp
  obtain ⟨g1, g2, g3, g4⟩ := A.blt h1
  obtain ⟨k1, k2, k3, k4⟩ := A.blt h2
  obtain ⟨s1, s2⟩ := star_cons X.env ns
  have pt : PE X (.Name t q2) (tC (.ty n)) := pe_bltn k1 k3 hv rfl k4 k2
  have pp : PEs X [e, .Name t q2] [u, tC (.ty n)] := .cons hu (.cons pt .nil)
  refine PE.imp (pe_callB call_isi g1 g3 (by decide +kernel) (pp.pa ns) g4 g2 s1 (noStar_any _ _ s2)) fun σ H Q h => ?_
  simp only [denE] at h
  refine hi σ H (fun vs G => match vs with | [v] => rIsi X.K [v, .ty n] G Q | _ => False) ((op_src h).imp fun vs G ⟨p2, s2, xs, y, hK2, S2, rw2, e2, c⟩ => ?_)
  simp only [opV] at e2
  obtain ⟨x, v, rfl, h1, e3⟩ := one_some rw2 e2
  unfold isiV at e3
  obtain ⟨m, e4, e5⟩ := Option.bind_eq_some_iff.mp e3
  obtain ⟨b, e6, rfl⟩ := Option.map_eq_some_iff.mp e5
  refine ⟨v, .ty n, .type m, .type n, b, rfl, .ty n, by rw [← hK2]; exact tyX_of h1 e4, kit_ty e6, c.at S2 (by simp [RV])⟩
end
end Py

-- text PyM
set_option Elab.async false
set_option linter.all false
set_option maxRecDepth 100000
set_option maxHeartbeats 4000000
namespace Py
open PySem PySem.Spec PyProof.Rows L2
section
variable {p p' : Pl} {s : S} {σ : L2.St} {H : Hp} {a : Addr} {u u' : HO} {c d : Cn} {i : Nat}
/-! ### a name's own thing -/
theorem own_ne (S : Sit p s σ H) {i j : Nat} {c d : Cn} {a b : Addr} (h : i ≠ j) (e1 : s.env[i]? = some (some (.o c))) (e2 : s.env[j]? = some (some (.o d))) (h1 : σ[i]? = some (some (.ref a))) (h2 : σ[j]? = some (some (.ref b))) : a ≠ b := fun z => by
  subst z
  exact h (S.ne i j c d a e1 e2 h1 h2)
theorem envSet {env : List (Option Slot)} {i j : Nat} {x : Option Slot} {y : Slot} (h : (env.set i x)[j]? = some (some y)) : (i = j ∧ x = some y ∧ i < env.length) ∨ (i ≠ j ∧ env[j]? = some (some y)) := by
  by_cases q : i = j
  · subst q
    by_cases hi : i < env.length
    · rw [List.getElem?_set_self hi] at h
      exact .inl ⟨rfl, Option.some.inj h, hi⟩
    · rw [List.getElem?_eq_none (by simpa using hi)] at h; cases h
  · rw [List.getElem?_set_ne q] at h
    exact .inr ⟨q, h⟩
def unown (p : Pl) (a : Addr) : Pl := ⟨p.K, p.F, p.live, p.ρ, p.ω.filter (· ≠ a)⟩
/-- it is given away -/
theorem Sit.escape (S : Sit p s σ H) (e : s.env[i]? = some (some (.o c))) : ∃ a p', σ[i]? = some (some (.ref a)) ∧ Stp p H p' H ∧ Sit p' { s with env := s.env.set i (some (.v c.mv)) } σ H ∧ RV p' H c.mv (.ref a) := by
  obtain ⟨a, u, h1, h2, h3, h4⟩ := S.own i c e
  have nρ := S.hr.ap2 a h2
  have nF : ¬ p.F a := fun z => (S.hr.ap a z).2 h2
  have hb : ∀ b, H b ≠ none → b ∉ p.ρ → b ∉ p.ω → ¬ p.F b → b ∉ (unown p a).ω ∧ ¬ (unown p a).F b := fun b _ _ h2 h3 => ⟨fun z => h2 (List.mem_filter.mp z).1, h3⟩
  refine ⟨a, unown p a, h1, ?_, ?_, ?_⟩
  · exact ⟨rfl, rfl, rfl, fun b o h _ _ => h, ⟨[], by simp [unown], by simp, fun _ => rfl⟩, fun b hb => .inl (List.mem_filter.mp hb).1, fun _ h => h⟩
  · have im : Im (unown p a) H a u := ⟨h3, nρ, by simp [unown], nF⟩
    have rvc : RV (unown p a) H c.mv (.ref a) := by
      cases c with
      | l xs => obtain ⟨vs, rfl, r⟩ := h4; simp only [Cn.mv, RV]; exact ⟨a, vs, rfl, im, RVs.re r (unown p a) rfl rfl hb⟩
      | k xs => obtain ⟨vs, rfl, r⟩ := h4; simp only [Cn.mv, RV]; exact ⟨a, vs, rfl, im, RKs.re r (unown p a) rfl rfl hb⟩
      | t xs => obtain ⟨vs, rfl, r⟩ := h4; simp only [Cn.mv, RV]; exact ⟨a, vs, rfl, im, RTs.re r (unown p a) rfl rfl hb⟩
    refine ⟨⟨S.hr.live, S.hr.len, S.hr.nd, fun l j b d e1 e2 e3 => ?_, fun b hb => ?_, fun b hb => ?_, fun b hb => ?_⟩, by simpa using S.len, fun j x ej => ?_, fun j d ej => ?_, fun j k d d' b ej ek => ?_⟩
    · obtain ⟨w, hw, rc⟩ := S.hr.at_ l j b d e1 e2 e3
      exact ⟨w, hw, rc.re (unown p a) rfl rfl hb⟩
    · rcases hb with hb | hb | hb
      · exact S.hr.mu b (.inl hb)
      · exact S.hr.mu b (.inr (.inl (List.mem_filter.mp hb).1))
      · exact S.hr.mu b (.inr (.inr hb))
    · exact ⟨(S.hr.ap b hb).1, fun z => (S.hr.ap b hb).2 (List.mem_filter.mp z).1⟩
    · exact S.hr.ap2 b (List.mem_filter.mp hb).1
    · rcases envSet ej with ⟨rfl, q, _⟩ | ⟨ne, ej⟩
      · cases q
        exact ⟨.ref a, h1, rvc⟩
      · obtain ⟨v, k1, k2⟩ := S.var j x ej
        exact ⟨v, k1, RV.re k2 (unown p a) rfl rfl hb⟩
    · rcases envSet ej with ⟨rfl, q, _⟩ | ⟨ne, ej⟩
      · cases q
      · obtain ⟨b, w, k1, k2, k3, k4⟩ := S.own j d ej
        exact ⟨b, w, k1, List.mem_filter.mpr ⟨k2, by simpa using (own_ne S ne e ej h1 k1).symm⟩, k3, k4.re (unown p a) rfl rfl hb⟩
    · rcases envSet ej with ⟨rfl, q, _⟩ | ⟨ne, ej⟩
      · cases q
      · rcases envSet ek with ⟨rfl, q, _⟩ | ⟨ne2, ek⟩
        · cases q
        · exact S.ne j k d d' b ej ek
  · have im : Im (unown p a) H a u := ⟨h3, nρ, by simp [unown], nF⟩
    cases c with
    | l xs => obtain ⟨vs, rfl, r⟩ := h4; simp only [Cn.mv, RV]; exact ⟨a, vs, rfl, im, RVs.re r (unown p a) rfl rfl hb⟩
    | k xs => obtain ⟨vs, rfl, r⟩ := h4; simp only [Cn.mv, RV]; exact ⟨a, vs, rfl, im, RKs.re r (unown p a) rfl rfl hb⟩
    | t xs => obtain ⟨vs, rfl, r⟩ := h4; simp only [Cn.mv, RV]; exact ⟨a, vs, rfl, im, RTs.re r (unown p a) rfl rfl hb⟩
/-- it changes -/
theorem Stp.own_upd (h : a ∈ p.ω) : Stp p H p (upd H a u) :=
  ⟨rfl, rfl, rfl, fun b o hb _ hn => by rw [upd_ne (fun z => hn (by rw [z]; exact h))]; exact hb, ⟨[], by simp, by simp, fun _ => rfl⟩, fun _ h => .inl h, fun b hb => by
    by_cases q : b = a
    · subst q; rw [upd_same]; simp
    · rw [upd_ne q]; exact hb⟩
theorem Sit.put (S : Sit p s σ H) (e : s.env[i]? = some (some (.o c))) (ha : σ[i]? = some (some (.ref a))) (hu : isMut u = true) (rc : RC p H d u) : a ∈ p.ω ∧ Stp p H p (upd H a u) ∧ Sit p { s with env := s.env.set i (some (.o d)) } σ (upd H a u) := by
  obtain ⟨a', w, h1, h2, h3, h4⟩ := S.own i c e
  have : a = a' := by rw [ha] at h1; injection h1 with h1; injection h1 with h1; injection h1
  subst this
  have st : Stp p H p (upd H a u) := Stp.own_upd h2
  refine ⟨h2, st, ⟨S.hr.live, S.hr.len, S.hr.nd, fun l j b d' e1 e2 e3 => ?_, fun b hb => ?_, S.hr.ap, S.hr.ap2⟩, by simpa using S.len, fun j x ej => ?_, fun j d' ej => ?_, fun j k d1 d2 b ej ek => ?_⟩
  · obtain ⟨w', hw, rc'⟩ := S.hr.at_ l j b d' e1 e2 e3
    have hb : b ≠ a := fun z => S.hr.ap2 a h2 (z ▸ List.mem_of_getElem? e2)
    exact ⟨w', by rw [upd_ne hb]; exact hw, rc'.keep S.hr st⟩
  · by_cases q : b = a
    · subst q; exact ⟨u, upd_same, hu⟩
    · obtain ⟨w', hw, m⟩ := S.hr.mu b hb
      exact ⟨w', by rw [upd_ne q]; exact hw, m⟩
  · rcases envSet ej with ⟨rfl, q, _⟩ | ⟨ne, ej⟩
    · cases q
    · obtain ⟨v, k1, k2⟩ := S.var j x ej
      exact ⟨v, k1, k2.keep S.hr st⟩
  · rcases envSet ej with ⟨rfl, q, _⟩ | ⟨ne, ej⟩
    · cases q
      exact ⟨a, u, ha, h2, upd_same, rc.keep S.hr st⟩
    · obtain ⟨b, w', k1, k2, k3, k4⟩ := S.own j d' ej
      exact ⟨b, w', k1, k2, by rw [upd_ne (own_ne S ne e ej ha k1).symm]; exact k3, k4.keep S.hr st⟩
  · have old : ∀ {m : Nat} {d' : Cn}, (s.env.set i (some (.o d)))[m]? = some (some (.o d')) → ∃ d'', s.env[m]? = some (some (.o d'')) := fun {m d'} em => by
      rcases envSet em with ⟨rfl, _, _⟩ | ⟨_, em⟩
      · exact ⟨c, e⟩
      · exact ⟨d', em⟩
    obtain ⟨e1, f1⟩ := old ej
    obtain ⟨e2, f2⟩ := old ek
    exact S.ne j k e1 e2 b f1 f2
/-! ### a cell changes -/
theorem Sit.putC {l : List Cn} {n : Nat} (S : Sit p s σ H) (hm : s.mh = some l) (ha : p.ρ[n]? = some a) (hn : n < l.length) (hu : isMut u = true) (rc : RC p H d u) : Stp p H p (upd H a u) ∧ Sit p { s with mh := some (l.set n d) } σ (upd H a u) := by
  have lv : p.live = true := by rw [S.hr.live, hm]; rfl
  have am : a ∈ p.ρ := List.mem_of_getElem? ha
  have st : Stp p H p (upd H a u) := ⟨rfl, rfl, rfl, fun b o hb hn _ => by rw [upd_ne (fun z => hn lv (by rw [z]; exact am))]; exact hb, ⟨[], by simp, by simp, fun _ => rfl⟩, fun _ h => .inl h, fun b hb => by
    by_cases q : b = a
    · subst q; rw [upd_same]; simp
    · rw [upd_ne q]; exact hb⟩
  refine ⟨st, ⟨by rw [lv]; rfl, fun l' e => ?_, S.hr.nd, fun l' j b d' e1 e2 e3 => ?_, fun b hb => ?_, S.hr.ap, S.hr.ap2⟩, S.len, fun j x ej => ?_, fun j d' ej => ?_, S.ne⟩
  · cases e; rw [List.length_set]; exact S.hr.len l hm
  · cases e1
    by_cases q : j = n
    · subst q
      rw [ha] at e2; cases e2
      rw [List.getElem?_set_self hn] at e3; cases e3
      exact ⟨u, upd_same, rc.keep S.hr st⟩
    · rw [List.getElem?_set_ne (fun z => q z.symm)] at e3
      obtain ⟨w, hw, rc'⟩ := S.hr.at_ l j b d' hm e2 e3
      have hb : b ≠ a := fun z => by
        subst z
        exact q ((List.getElem?_inj (List.getElem?_eq_some_iff.mp e2).1 S.hr.nd).mp (e2.trans ha.symm))
      exact ⟨w, by rw [upd_ne hb]; exact hw, rc'.keep S.hr st⟩
  · by_cases q : b = a
    · subst q; exact ⟨u, upd_same, hu⟩
    · obtain ⟨w', hw, m⟩ := S.hr.mu b hb
      exact ⟨w', by rw [upd_ne q]; exact hw, m⟩
  · obtain ⟨v, k1, k2⟩ := S.var j x ej
    exact ⟨v, k1, k2.keep S.hr st⟩
  · obtain ⟨b, w', k1, k2, k3, k4⟩ := S.own j d' ej
    exact ⟨b, w', k1, k2, by rw [upd_ne (fun z => S.hr.ap2 b k2 (by rw [z]; exact am))]; exact k3, k4.keep S.hr st⟩
/-! ### a new thing that may change -/
def bar (p : Pl) (a : Addr) : Pl := ⟨p.K, fun b => p.F b ∨ b = a, p.live, p.ρ, p.ω⟩
theorem bar_hb (ha : H a = none) : ∀ b, H b ≠ none → b ∉ p.ρ → b ∉ p.ω → ¬ p.F b → b ∉ (bar p a).ω ∧ ¬ (bar p a).F b := fun b hb _ h2 h3 => ⟨h2, fun z => z.elim h3 fun z => hb (by rw [z]; exact ha)⟩
theorem unbar_hb : ∀ b, H b ≠ none → b ∉ (bar p a).ρ → b ∉ (bar p a).ω → ¬ (bar p a).F b → b ∉ p.ω ∧ ¬ p.F b := fun b _ _ h2 h3 => ⟨h2, fun z => h3 (.inl z)⟩
/-- it is laid: nobody else has it -/
theorem Stp.bar (ha : H a = none) : Stp (bar p a) H (bar p a) (upd H a u) := Stp.new ha
theorem HR.muB {mh : Option (List Cn)} (hr : HR p H mh) : MuOk (bar p a) H := hr.muOk
theorem RV.laid {mh : Option (List Cn)} (hr : HR p H mh) (ha : H a = none) {x : MV} {v : V} (h : RV p H x v) : RV (bar p a) (upd H a u) x v := RV.keepM hr.muB (Stp.bar ha) x v (h.re (bar p a) rfl rfl (bar_hb ha))
theorem RVs.laid {mh : Option (List Cn)} (hr : HR p H mh) (ha : H a = none) {x : List MV} {v : List V} (h : RVs p H x v) : RVs (bar p a) (upd H a u) x v := RVs.keepM hr.muB (Stp.bar ha) x v (h.re (bar p a) rfl rfl (bar_hb ha))
theorem RC.laid {mh : Option (List Cn)} (hr : HR p H mh) (ha : H a = none) {c : Cn} {w : HO} (h : RC p H c w) : RC (bar p a) (upd H a u) c w := RC.keepM hr.muB (Stp.bar ha) (h.re (bar p a) rfl rfl (bar_hb ha))
theorem Sit.laid (S : Sit p s σ H) (ha : H a = none) (hu : isMut u = true) : Sit (bar p a) s σ (upd H a u) := by
  have fr := S.hr.fresh ha
  refine ⟨⟨S.hr.live, S.hr.len, S.hr.nd, fun l j b d e1 e2 e3 => ?_, fun b hb => ?_, fun b hb => ?_, S.hr.ap2⟩, S.len, fun j x ej => ?_, fun j d' ej => ?_, S.ne⟩
  · obtain ⟨w, hw, rc⟩ := S.hr.at_ l j b d e1 e2 e3
    exact ⟨w, by rw [upd_ne (ne_of_none hw ha)]; exact hw, rc.laid S.hr ha⟩
  · by_cases q : b = a
    · subst q; exact ⟨u, upd_same, hu⟩
    · have hb' : b ∈ p.ρ ∨ b ∈ p.ω ∨ p.F b := by
        rcases hb with hb | hb | hb | hb
        · exact .inl hb
        · exact .inr (.inl hb)
        · exact .inr (.inr hb)
        · exact absurd hb q
      obtain ⟨w', hw, m⟩ := S.hr.mu b hb'
      exact ⟨w', by rw [upd_ne q]; exact hw, m⟩
  · rcases hb with hb | rfl
    · exact S.hr.ap b hb
    · exact ⟨fr.1, fr.2.1⟩
  · obtain ⟨v, k1, k2⟩ := S.var j x ej
    exact ⟨v, k1, k2.laid S.hr ha⟩
  · obtain ⟨b, w', k1, k2, k3, k4⟩ := S.own j d' ej
    exact ⟨b, w', k1, k2, by rw [upd_ne (ne_of_none k3 ha)]; exact k3, k4.laid S.hr ha⟩
/-- the bar away: a place that is nobody's, told by Stp from a heap where it was free -/
theorem RV.unbar {x : MV} {v : V} (h : RV (bar p a) H x v) : RV p H x v := h.re p rfl rfl unbar_hb
theorem RC.unbar {c : Cn} {w : HO} (h : RC (bar p a) H c w) : RC p H c w := h.re p rfl rfl unbar_hb
theorem Sit.unbar (S : Sit (bar p a) s σ H) : Sit p s σ H := by
  refine ⟨⟨S.hr.live, S.hr.len, S.hr.nd, fun l j b d e1 e2 e3 => ?_, fun b hb => ?_, fun b hb => S.hr.ap b (.inl hb), S.hr.ap2⟩, S.len, fun j x ej => ?_, fun j d' ej => ?_, S.ne⟩
  · obtain ⟨w, hw, rc⟩ := S.hr.at_ l j b d e1 e2 e3
    exact ⟨w, hw, rc.unbar⟩
  · rcases hb with hb | hb | hb
    · exact S.hr.mu b (.inl hb)
    · exact S.hr.mu b (.inr (.inl hb))
    · exact S.hr.mu b (.inr (.inr (.inl hb)))
  · obtain ⟨v, k1, k2⟩ := S.var j x ej
    exact ⟨v, k1, k2.unbar⟩
  · obtain ⟨b, w', k1, k2, k3, k4⟩ := S.own j d' ej
    exact ⟨b, w', k1, k2, k3, k4.unbar⟩
/-- it becomes a value for good -/
theorem RC.im (S : Sit (bar p a) s σ H) (hu : H a = some u) (rc : RC (bar p a) H c u) (nF : ¬ p.F a) : RV p H c.mv (.ref a) := by
  have im : ∀ w, H a = some w → Im p H a w := fun w hw => ⟨hw, (S.hr.ap a (.inr rfl)).1, (S.hr.ap a (.inr rfl)).2, nF⟩
  have rc := rc.unbar
  cases c with
  | l xs => obtain ⟨vs, rfl, r⟩ := rc; simp only [Cn.mv, RV]; exact ⟨a, vs, rfl, im _ hu, r⟩
  | k xs => obtain ⟨vs, rfl, r⟩ := rc; simp only [Cn.mv, RV]; exact ⟨a, vs, rfl, im _ hu, r⟩
  | t xs => obtain ⟨vs, rfl, r⟩ := rc; simp only [Cn.mv, RV]; exact ⟨a, vs, rfl, im _ hu, r⟩
def addω (p : Pl) (a : Addr) : Pl := ⟨p.K, p.F, p.live, p.ρ, a :: p.ω⟩
theorem addω_hb : ∀ b, H b ≠ none → b ∉ (bar p a).ρ → b ∉ (bar p a).ω → ¬ (bar p a).F b → b ∉ (addω p a).ω ∧ ¬ (addω p a).F b := fun b _ _ h2 h3 => ⟨fun z => (List.mem_cons.mp z).elim (fun z => h3 (.inr z)) h2, fun z => h3 (.inl z)⟩
/-- it becomes a name's own -/
theorem Sit.toOwn (S : Sit (bar p a) s σ H) (hu : H a = some u) (rc : RC (bar p a) H c u) (nF : ¬ p.F a) (hi : i < s.env.length) : Sit (addω p a) { s with env := s.env.set i (some (.o c)) } (σ.set i (some (.ref a))) H := by
  have nn := S.hr.ap a (.inr rfl)
  have hiσ : i < σ.length := by rw [S.len]; exact hi
  refine ⟨⟨S.hr.live, S.hr.len, S.hr.nd, fun l j b d e1 e2 e3 => ?_, fun b hb => ?_, fun b hb => ?_, fun b hb => ?_⟩, by simpa using S.len, fun j x ej => ?_, fun j d' ej => ?_, fun j k d1 d2 b ej ek f1 f2 => ?_⟩
  · obtain ⟨w, hw, rc'⟩ := S.hr.at_ l j b d e1 e2 e3
    exact ⟨w, hw, rc'.re (addω p a) rfl rfl addω_hb⟩
  · rcases hb with hb | hb | hb
    · exact S.hr.mu b (.inl hb)
    · rcases List.mem_cons.mp hb with rfl | hb
      · exact ⟨u, hu, rc.isMut⟩
      · exact S.hr.mu b (.inr (.inl hb))
    · exact S.hr.mu b (.inr (.inr (.inl hb)))
  · exact ⟨(S.hr.ap b (.inl hb)).1, fun z => (List.mem_cons.mp z).elim (fun z => nF (by rw [← z]; exact hb)) (S.hr.ap b (.inl hb)).2⟩
  · rcases List.mem_cons.mp hb with rfl | hb
    · exact nn.1
    · exact S.hr.ap2 b hb
  · rcases envSet ej with ⟨rfl, q, _⟩ | ⟨ne, ej⟩
    · cases q
    · obtain ⟨v, k1, k2⟩ := S.var j x ej
      exact ⟨v, by rw [List.getElem?_set_ne ne]; exact k1, k2.re (addω p a) rfl rfl addω_hb⟩
  · rcases envSet ej with ⟨rfl, q, _⟩ | ⟨ne, ej⟩
    · cases q
      exact ⟨a, u, by rw [List.getElem?_set_self hiσ], List.mem_cons_self, hu, rc.re (addω p a) rfl rfl addω_hb⟩
    · obtain ⟨b, w', k1, k2, k3, k4⟩ := S.own j d' ej
      exact ⟨b, w', by rw [List.getElem?_set_ne ne]; exact k1, List.mem_cons_of_mem _ k2, k3, k4.re (addω p a) rfl rfl addω_hb⟩
  · have oldne : ∀ {m : Nat} {d' : Cn}, i ≠ m → s.env[m]? = some (some (.o d')) → (σ.set i (some (V.ref a)))[m]? = some (some (.ref b)) → b ≠ a := fun {m d'} ne em fm z => by
      rw [List.getElem?_set_ne ne] at fm
      obtain ⟨b', w', k1, k2, _⟩ := S.own m d' em
      rw [k1] at fm
      have : b' = b := by injection fm with fm; injection fm with fm; injection fm
      subst this
      rw [z] at k2
      exact nn.2 k2
    rcases envSet ej with ⟨rfl, _, _⟩ | ⟨ne, ej⟩
    · rcases envSet ek with ⟨rfl, _, _⟩ | ⟨ne2, ek⟩
      · rfl
      · rw [List.getElem?_set_self hiσ] at f1
        have : a = b := by injection f1 with f1; injection f1 with f1; injection f1
        exact absurd this.symm (oldne ne2 ek f2)
    · rcases envSet ek with ⟨rfl, _, _⟩ | ⟨ne2, ek⟩
      · rw [List.getElem?_set_self hiσ] at f2
        have : a = b := by injection f2 with f2; injection f2 with f2; injection f2
        exact absurd this.symm (oldne ne ej f1)
      · rw [List.getElem?_set_ne ne] at f1
        rw [List.getElem?_set_ne ne2] at f2
        exact S.ne j k d1 d2 b ej ek f1 f2
def addρ (p : Pl) (a : Addr) : Pl := ⟨p.K, p.F, p.live, p.ρ ++ [a], p.ω⟩
theorem addρ_hb : ∀ b, H b ≠ none → b ∉ (bar p a).ρ → b ∉ (bar p a).ω → ¬ (bar p a).F b → b ∉ (addρ p a).ρ ∧ b ∉ (addρ p a).ω ∧ ¬ (addρ p a).F b := fun b _ h1 h2 h3 =>
  ⟨fun z => (List.mem_append.mp z).elim h1 fun z => h3 (.inr (by simpa using z)), h2, fun z => h3 (.inl z)⟩
theorem RV.toC {x : MV} {v : V} (h : RV (bar p a) H x v) : RV (addρ p a) H x v := RV.conv (p := bar p a) (p' := addρ p a) rfl ⟨[a], rfl⟩ addρ_hb x v h
theorem RC.toC {d : Cn} {w : HO} (h : RC (bar p a) H d w) : RC (addρ p a) H d w := RC.conv (p := bar p a) (p' := addρ p a) rfl ⟨[a], rfl⟩ addρ_hb h
/-- it becomes a cell -/
theorem Sit.toCell {l : List Cn} (S : Sit (bar p a) s σ H) (hm : s.mh = some l) (hu : H a = some u) (rc : RC (bar p a) H c u) (nF : ¬ p.F a) : Sit (addρ p a) { s with mh := some (l ++ [c]) } σ H := by
  have nn := S.hr.ap a (.inr rfl)
  have hl := S.hr.len l hm
  refine ⟨⟨by have := S.hr.live; rw [hm] at this; exact this, fun l' e => ?_, ?_, fun l' j b d e1 e2 e3 => ?_, fun b hb => ?_, fun b hb => ?_, fun b hb => ?_⟩, S.len, fun j x ej => ?_, fun j d' ej => ?_, S.ne⟩
  · cases e; show (p.ρ ++ [a]).length = _; rw [List.length_append, List.length_append]; have : p.ρ.length = l.length := hl; rw [this]; rfl
  · show (p.ρ ++ [a]).Nodup
    rw [List.nodup_append]
    exact ⟨S.hr.nd, by simp, fun x hx y hy => by
      have : y = a := by simpa using hy
      subst this
      intro z; subst z; exact nn.1 hx⟩
  · cases e1
    have e2' : (p.ρ ++ [a])[j]? = some b := e2
    have hl' : p.ρ.length = l.length := hl
    by_cases hj : j < l.length
    · rw [List.getElem?_append_left (by omega)] at e2'
      rw [List.getElem?_append_left hj] at e3
      obtain ⟨w, hw, rc'⟩ := S.hr.at_ l j b d hm e2' e3
      exact ⟨w, hw, rc'.toC⟩
    · rw [List.getElem?_append_right (by omega)] at e2'
      rw [List.getElem?_append_right (by omega)] at e3
      have hj0 : j - l.length = 0 := by
        have := (List.getElem?_eq_some_iff.mp e3).1
        simp at this; exact this
      rw [hl', hj0] at e2'
      rw [hj0] at e3
      simp at e2' e3
      subst e2'; subst e3
      exact ⟨u, hu, rc.toC⟩
  · rcases hb with hb | hb | hb
    · rcases List.mem_append.mp hb with hb | hb
      · exact S.hr.mu b (.inl hb)
      · have : b = a := by simpa using hb
        subst this
        exact ⟨u, hu, rc.isMut⟩
    · exact S.hr.mu b (.inr (.inl hb))
    · exact S.hr.mu b (.inr (.inr (.inl hb)))
  · refine ⟨fun z => ?_, (S.hr.ap b (.inl hb)).2⟩
    rcases List.mem_append.mp z with z | z
    · exact (S.hr.ap b (.inl hb)).1 z
    · have : b = a := by simpa using z
      subst this; exact nF hb
  · intro z
    rcases List.mem_append.mp z with z | z
    · exact S.hr.ap2 b hb z
    · have : b = a := by simpa using z
      subst this; exact nn.2 hb
  · obtain ⟨v, k1, k2⟩ := S.var j x ej
    exact ⟨v, k1, k2.toC⟩
  · obtain ⟨b, w', k1, k2, k3, k4⟩ := S.own j d' ej
    exact ⟨b, w', k1, k2, k3, k4.toC⟩
end
end Py

-- text PyN
set_option Elab.async false
set_option linter.all false
set_option maxRecDepth 100000
set_option maxHeartbeats 4000000
namespace Py
open PySem PySem.Spec PyProof.Rows L2
/-! ### new things by expressions -/
def OutF (xv : XV) (W : WX) (p : Pl) (H : Hp) (σ : L2.St) (Q : VK) : R Cn → Prop
  | .ok c s => ∀ a u p' H', Stp p H p' H' → Sit (bar p' a) s σ H' → H' a = some u → RC (bar p' a) H' c u → H a = none → Q (.ref a) H'
  | .ex c vs s => ∀ cls d p' H', Stp p H p' H' → Sit p' s σ H' → xv p' H' c vs cls d → W cls d σ H'
  | .no => False
def liftF (K : PySem.W.Frag) (xv : XV) (W : WX) (m : M Cn) : TE := fun σ H Q => ∃ p s, p.K = K ∧ Sit p s σ H ∧ OutF xv W p H σ Q (m s)
section
variable {C : Cfg} {D : Fns} {k : Nat} {N : List Str} {sc : Scope} {X : Cx} {xv : XV} {W : WX} {pos : Pos}
section
variable {p p' : Pl} {H H' : Hp} {σ : L2.St} {Q : VK}
theorem OutF.mono {x : R Cn} (st : Stp p H p' H') (o : OutF xv W p H σ Q x) : OutF xv W p' H' σ Q x := by
  cases x with
  | ok x mh => exact fun a u p2 H2 st2 S hu rc ha => o a u p2 H2 (st.trans st2) S hu rc (free_of st.lasts ha)
  | ex c vs mh => exact fun cls d p2 H2 st2 hr x => o cls d p2 H2 (st.trans st2) hr x
  | no => exact o
theorem OutF.bnd {α β : Type} {r' : Pl → Hp → α → β → Prop} {Q1 : β → Hp → Prop} {ma : M α} {k : α → M Cn} {s : S} (o : OutF xv W p H σ Q ((ma >>= k) s))
    (h : ∀ x s' v p' H', ma s = .ok x s' → Stp p H p' H' → Sit p' s' σ H' → r' p' H' x v → OutF xv W p' H' σ Q (k x s') → Q1 v H') : Out r' xv W p H σ Q1 (ma s) := by
  rw [bnd_eq] at o
  cases e : ma s with
  | ok x s' => rw [e] at o; exact fun v p' H' st si rv => h x s' v p' H' e st si rv (OutF.mono st o)
  | ex c vs s' => rw [e] at o; exact o
  | no => rw [e] at o; exact o
theorem OutF.lay {c : Cn} {s : S} {u : HO} (o : OutF xv W p H σ Q ((pure c : M Cn) s)) (S : Sit p s σ H) (rc : RC p H c u) : ∀ q, H q = none → Q (.ref q) (upd H q u) := fun q hq =>
  o q u p (upd H q u) (Stp.new hq) (S.laid hq rc.isMut) upd_same (rc.laid S.hr hq) hq
theorem lift?_outF {γ : Type} {x : Option γ} {f : γ → M Cn} {s : S} (o : OutF xv W p H σ Q ((lift? x >>= f) s)) : ∃ y, x = some y ∧ OutF xv W p H σ Q (f y s) := by
  cases x with
  | none => exact o.elim
  | some y => exact ⟨y, rfl, o⟩
end
/-- the content that comes, and how it may be laid -/
abbrev ContF (xv : XV) (W : WX) (p : Pl) (s : S) (σ : L2.St) (H : Hp) (c : Cn) (Q : VK) : Prop := OutF xv W p H σ Q ((pure c : M Cn) s)
theorem fop_src {a : A} {f : List MV → Option Cn} {σ : L2.St} {H : Hp} {Q : VK} (h : liftF X.K xv W (do let zs ← denA D a; let xs ← snap zs; lift? (f xs)) σ H Q) :
    lift (RSs σ) X.K xv W (denA D a) σ H fun vs G => ∃ p s xs c, p.K = X.K ∧ Sit p s σ G ∧ RWs p G xs vs ∧ f xs = some c ∧ ContF xv W p s σ G c Q := by
  obtain ⟨p, s, hK, S, o⟩ := h
  refine ⟨p, s, hK, S, OutF.bnd (r' := RSs σ) o fun zs s1 vs p1 H1 _ st1 S1 rv1 o1 => ?_⟩
  rw [bnd_eq] at o1
  cases e : snap zs s1 with
  | ok xs s2 =>
    obtain ⟨rfl, rw1⟩ := snap_ok S1 rv1 e
    rw [e] at o1
    cases hf : f xs with
    | none => simp only [hf] at o1; exact o1.elim
    | some c => simp only [hf] at o1; exact ⟨p1, s2, xs, c, by rw [st1.K]; exact hK, S1, rw1, hf, o1⟩
  | ex c vs s2 => exact absurd e (snap_nex zs)
  | no => rw [e] at o1; exact o1.elim
theorem snd_disp {a : A} {es : List Expr} (ns : noStar es = true) (ha : AOk D X xv W a es) : PE X (.List es pos) (liftF X.K xv W (denF D (.disp a))) := by
  obtain ⟨_, ts, hp, hi⟩ := ha
  refine PE.imp (pe_lst (hp.pa ns)) fun σ H Q ⟨p, s, hK, S, o⟩ => ?_
  simp only [denF] at o
  refine hi σ H _ ⟨p, s, hK, S, OutF.bnd (r' := RSs σ) o fun zs s1 vs p1 H1 _ st1 S1 rv1 o1 => ?_⟩
  obtain ⟨xs, e, o2⟩ := lift?_outF o1
  have rv := vals_ok rv1 e
  split at o2
  · rename_i hl
    exact ⟨by rw [rv.len]; exact hl, o2.lay S1 ⟨vs, rfl, rv⟩⟩
  · exact o2.elim
theorem intD_some {x : MV} {i : Int} (e : intD? x = some i) : x = .int i := by
  cases x <;> simp only [intD?, Option.some.injEq, reduceCtorEq] at e
  rw [e]
theorem oneF_some {f : MV → Option Cn} {p : Pl} {G : Hp} {xs : List MV} {c : Cn} {vs : List V} (h : RWs p G xs vs) (e : oneF f xs = some c) : ∃ x v, vs = [v] ∧ RW p G x v ∧ f x = some c := by
  match xs, h, e with
  | [x], h, e =>
    obtain ⟨v, r, rfl, h1, h2⟩ := h
    have h2' : r = [] := h2
    subst h2'
    exact ⟨x, v, rfl, h1, e⟩
theorem twoF_some {f : MV → MV → Option Cn} {p : Pl} {G : Hp} {xs : List MV} {c : Cn} {vs : List V} (h : RWs p G xs vs) (e : twoF f xs = some c) : ∃ x y v w, vs = [v, w] ∧ RW p G x v ∧ RW p G y w ∧ f x y = some c := by
  match xs, h, e with
  | [x, y], h, e =>
    obtain ⟨v, r, rfl, h1, w, r2, rfl, h2, h3⟩ := h
    have h3' : r2 = [] := h3
    subst h3'
    exact ⟨x, y, v, w, rfl, h1, h2, e⟩
theorem snd_cat {a : A} {l r : Expr} (ha : AOk D X xv W a [l, r]) : PE X (.BinOp l .Add r pos) (liftF X.K xv W (denF D (.fop .cat a))) := by
  obtain ⟨_, ts, hp, hi⟩ := ha
  obtain ⟨t, u, rfl, h1, h2⟩ := pes2 hp
  refine PE.imp (pe_op op_cat h1 h2) fun σ H Q h => ?_
  simp only [denF] at h
  refine hi σ H (fun vs G => match vs with | [v, w] => rCat v w G Q | _ => False) ((fop_src h).imp fun vs G ⟨p2, s2, xs, c, hK2, S2, rw2, e2, o2⟩ => ?_)
  simp only [opF] at e2
  obtain ⟨x, y, v, w, rfl, g1, g2, e2⟩ := twoF_some rw2 e2
  unfold catC at e2
  split at e2
  · split at e2
    · rename_i hl
      simp only [Option.some.injEq] at e2; subst e2
      obtain ⟨a1, vs1, rfl, q1, r1⟩ := g1
      obtain ⟨a2, vs2, rfl, q2, r2⟩ := g2
      exact ⟨a1, a2, vs1, vs2, rfl, rfl, q1, q2, by rw [r1.len, r2.len]; exact hl, o2.lay S2 ⟨_, rfl, r1.app r2⟩⟩
    · cases e2
  · cases e2
theorem RVs.rep {p : Pl} {G : Hp} {xs : List MV} {vs : List V} (h : RVs p G xs vs) : ∀ n : Nat, RVs p G (List.replicate n xs).flatten (List.replicate n vs).flatten
  | 0 => .nil
  | n + 1 => by
    rw [List.replicate_succ, List.replicate_succ, List.flatten_cons, List.flatten_cons]
    exact h.app (h.rep n)
theorem snd_rep {a : A} {l r : Expr} (ha : AOk D X xv W a [l, r]) : PE X (.BinOp l .Mult r pos) (liftF X.K xv W (denF D (.fop .rep a))) := by
  obtain ⟨_, ts, hp, hi⟩ := ha
  obtain ⟨t, u, rfl, h1, h2⟩ := pes2 hp
  refine PE.imp (pe_op op_rep h1 h2) fun σ H Q h => ?_
  simp only [denF] at h
  refine hi σ H (fun vs G => match vs with | [v, w] => rRep v w G Q | _ => False) ((fop_src h).imp fun vs G ⟨p2, s2, xs, c, hK2, S2, rw2, e2, o2⟩ => ?_)
  simp only [opF] at e2
  obtain ⟨x, y, v, w, rfl, g1, g2, e2⟩ := twoF_some rw2 e2
  unfold repC at e2
  split at e2
  · split at e2
    · rename_i hl
      simp only [Option.some.injEq] at e2; subst e2
      obtain ⟨a1, vs1, rfl, q1, r1⟩ := g1
      have hw := g2.int
      subst hw
      exact ⟨a1, _, vs1, rfl, rfl, q1, hl.1, hl.2.1, by rw [r1.len]; exact hl.2.2, o2.lay S2 ⟨_, rfl, r1.rep _⟩⟩
    · cases e2
  · cases e2
theorem snd_slcL {lo hi : Option Expr} {a : A} {l : Expr} {q : Pos} (h1o : (lo.isSome && hi.isSome) = false) (ha : AOk D X xv W a (l :: (optL lo ++ optL hi))) : PE X (.Subscript l (.Slice lo hi none q) pos) (liftF X.K xv W (denF D (.fop (.slcL lo.isSome hi.isSome) a))) := by
  obtain ⟨_, ts, hp, hi'⟩ := ha
  have core : ∀ {p2 : Pl} {s2 : S} {G : Hp} {σ : L2.St} {Q : VK} {x : MV} {ys : List MV} {v : V} {b c : Option Int}, p2.K = X.K → Sit p2 s2 σ G → RW p2 G x v → lstItems? x = some ys → ContF xv W p2 s2 σ G (.l (cutM ys b c)) Q → rSlL X.K v b c G Q := by
    intro p2 s2 G σ Q x ys v b c hK S2 h e o
    obtain ⟨a1, vs, rfl, q, r⟩ := h.lsts e
    exact ⟨a1, vs, rfl, by rw [← hK]; exact q, o.lay S2 ⟨_, rfl, cutM_ok r⟩⟩
  cases lo with
  | some lo =>
    cases hi with
    | some hi => simp at h1o
    | none =>
      obtain ⟨t, u, rfl, h1, h2⟩ := pes2 hp
      refine PE.imp (pe_slice sl_list h1 (po_some h2) po_none) fun σ H Q h => ?_
      simp only [denF] at h
      refine hi' σ H (fun vs G => match vs with | [v, w] => ∃ i, w = .int i ∧ rSlL X.K v (some i) none G Q | _ => False) ((fop_src h).imp fun vs G ⟨p2, s2, xs, c, hK2, S2, rw2, e2, o2⟩ => ?_)
      simp only [opF, slcC, Option.isSome_some, Option.isSome_none] at e2
      obtain ⟨x, y, v, w, rfl, g1, g2, e2⟩ := twoF_some rw2 e2
      obtain ⟨i, e3, e4⟩ := Option.bind_eq_some_iff.mp e2
      obtain ⟨ys, e5, rfl⟩ := Option.map_eq_some_iff.mp e4
      have hy := intD_some e3
      subst hy
      exact ⟨i, g2.int, core hK2 S2 g1 e5 o2⟩
  | none =>
    cases hi with
    | some hi =>
      obtain ⟨t, u, rfl, h1, h2⟩ := pes2 hp
      refine PE.imp (pe_slice sl_list h1 po_none (po_some h2)) fun σ H Q h => ?_
      simp only [denF] at h
      refine hi' σ H (fun vs G => match vs with | [v, w] => ∃ i, w = .int i ∧ rSlL X.K v none (some i) G Q | _ => False) ((fop_src h).imp fun vs G ⟨p2, s2, xs, c, hK2, S2, rw2, e2, o2⟩ => ?_)
      simp only [opF, slcC, Option.isSome_some, Option.isSome_none] at e2
      obtain ⟨x, y, v, w, rfl, g1, g2, e2⟩ := twoF_some rw2 e2
      obtain ⟨i, e3, e4⟩ := Option.bind_eq_some_iff.mp e2
      obtain ⟨ys, e5, rfl⟩ := Option.map_eq_some_iff.mp e4
      have hy := intD_some e3
      subst hy
      exact ⟨i, g2.int, core hK2 S2 g1 e5 o2⟩
    | none =>
      obtain ⟨t, rfl, h1⟩ := pes1 hp
      refine PE.imp (pe_slice sl_list h1 po_none po_none) fun σ H Q h => ?_
      simp only [denF] at h
      refine hi' σ H (fun vs G => match vs with | [v] => rSlL X.K v none none G Q | _ => False) ((fop_src h).imp fun vs G ⟨p2, s2, xs, c, hK2, S2, rw2, e2, o2⟩ => ?_)
      simp only [opF, slcC, Option.isSome_none] at e2
      obtain ⟨x, v, rfl, g1, e2⟩ := oneF_some rw2 e2
      obtain ⟨ys, e5, rfl⟩ := Option.map_eq_some_iff.mp e2
      exact core hK2 S2 g1 e5 o2
theorem snd_listOf (A : At C D k N sc X xv W) {a : Py.A} {e : Expr} {q : Pos} (hx : blB C sc "list" = true) (ns : noStar [e] = true) (ha : AOk D X xv W a [e]) : PE X (.Call (.Name "list" q) [e] [] pos) (liftF X.K xv W (denF D (.fop .list a))) := by
  obtain ⟨_, ts, hp, hi⟩ := ha
  obtain ⟨g1, g2, g3, g4⟩ := A.blt hx
  obtain ⟨s1, s2⟩ := star_cons X.env ns
  refine PE.imp (pe_callTy call_list_of g1 g3 (by decide +kernel) (hp.pa ns) g4 g2 s1 (noStar_any _ _ s2)) fun σ H Q h => ?_
  simp only [denF] at h
  refine hi σ H _ ((fop_src h).imp fun vs G ⟨p2, s2, xs, c, hK2, S2, rw2, e2, o2⟩ => ?_)
  simp only [opF] at e2
  obtain ⟨x, v, rfl, g1, e2⟩ := oneF_some rw2 e2
  obtain ⟨ys, e5, rfl⟩ := Option.map_eq_some_iff.mp e2
  obtain ⟨a1, vs, rfl, q, r⟩ := g1.rows e5
  exact ⟨a1, vs, rfl, by rw [← hK2]; exact q, o2.lay S2 ⟨_, rfl, r⟩⟩
theorem sortI_perm (ns : List Int) : (sortI ns).Perm ns := List.mergeSort_perm ns _
theorem sortI_sorted (ns : List Int) : (sortI ns).Pairwise (· ≤ ·) := by
  have h := List.pairwise_mergeSort (le := fun a b : Int => decide (a ≤ b)) (fun a b c h1 h2 => by simp at h1 h2 ⊢; omega) (fun a b => by simp; omega) ns
  exact h.imp fun h => by simpa using h
theorem sorted_unique : ∀ {xs ys : List Int}, xs.Perm ys → xs.Pairwise (· ≤ ·) → ys.Pairwise (· ≤ ·) → xs = ys := fun {xs ys} h1 h2 h3 =>
  h1.eq_of_pairwise (le := (· ≤ ·)) (fun a b _ _ h4 h5 => Int.le_antisymm h4 h5) h2 h3
theorem snd_revL {a : A} {e : Expr} {j : Nat} {p1 p2 p3 : Pos} (ha : AOk D X xv W a [e]) : PE X (.Subscript e (.Slice none none (some (.UnaryOp .USub (.Constant (.int 1) j p1) p2)) p3) pos) (liftF X.K xv W (denF D (.fop .revL a))) := by
  obtain ⟨_, ts, hp, hi⟩ := ha
  obtain ⟨t, rfl, h1⟩ := pes1 hp
  refine PE.imp (pe_revL h1) fun σ H Q h => ?_
  simp only [denF] at h
  refine hi σ H (fun vs G => match vs with | [v] => ∃ (a : Addr) (xs : List V), v = V.ref a ∧ SqL X.K G a xs ∧ ∀ p, G p = none → Q (V.ref p) (upd G p (.lst xs.reverse)) | _ => False) ((fop_src h).imp fun vs G ⟨p2, s2, xs, c, hK2, S2, rw2, e2, o2⟩ => ?_)
  simp only [opF] at e2
  obtain ⟨x, v, rfl, g1, e2⟩ := oneF_some rw2 e2
  obtain ⟨ys, e5, rfl⟩ := Option.map_eq_some_iff.mp e2
  obtain ⟨a1, vs, rfl, q, r⟩ := g1.lsts e5
  exact ⟨a1, vs, rfl, by rw [← hK2]; exact q, o2.lay S2 ⟨_, rfl, r.rev⟩⟩
/-! ### a new thing as a value, as a cell; a name's own thing -/
theorem snd_im {f : FE} {e : Expr} (h : PE X e (liftF X.K xv W (denF D f))) : PE X e (lift rE X.K xv W (denE D (.im f))) := by
  refine PE.imp h fun σ H Q ⟨p, s, hK, S, o⟩ => ⟨p, s, hK, S, ?_⟩
  simp only [denE] at o
  rw [bnd_eq] at o
  cases e : denF D f s with
  | ok c s' =>
    rw [e] at o
    intro a u p' H' st Sb hu rc ha
    have nF : ¬ p'.F a := by rw [st.F]; exact (S.hr.fresh ha).2.2
    exact o (.ref a) p' H' st Sb.unbar (rc.im Sb hu nF)
  | ex c vs s' => rw [e] at o; exact o
  | no => rw [e] at o; exact o
theorem snd_ce {f : FE} {e : Expr} (h : PE X e (liftF X.K xv W (denF D f))) : PE X e (lift rE X.K xv W (denE D (.ce f))) := by
  refine PE.imp h fun σ H Q ⟨p, s, hK, S, o⟩ => ⟨p, s, hK, S, ?_⟩
  simp only [denE] at o
  rw [bnd_eq] at o
  cases e : denF D f s with
  | ok c s' =>
    rw [e] at o
    intro a u p' H' st Sb hu rc ha
    have nF : ¬ p'.F a := by rw [st.F]; exact (S.hr.fresh ha).2.2
    simp only [newC] at o
    cases hm : s'.mh with
    | none => simp only [hm] at o; exact o.elim
    | some l =>
      simp only [hm] at o
      have Sc := Sb.toCell hm hu rc nF
      obtain ⟨m, em, fm, gm⟩ := st.grow
      have lv : p'.live = true := by have := Sb.hr.live; rw [hm] at this; exact this
      refine o (.ref a) (addρ p' a) H' ⟨st.K, st.F, st.live, st.keep, ⟨m ++ [a], by show p'.ρ ++ [a] = _; rw [em, List.append_assoc], fun b hb => ?_, fun z => ?_⟩, st.own, st.lasts⟩ Sc ?_
      · rcases List.mem_append.mp hb with hb | hb
        · exact fm b hb
        · have : b = a := by simpa using hb
          subst this; exact ha
      · rw [← st.live, lv] at z; cases z
      · simp only [RV]
        have hl : p'.ρ.length = l.length := Sb.hr.len l hm
        exact ⟨a, rfl, by show (p'.ρ ++ [a])[l.length]? = _; rw [← hl]; simp⟩
  | ex c vs s' => rw [e] at o; exact o
  | no => rw [e] at o; exact o
theorem snd_esc (A : At C D k N sc X xv W) {i : Nat} {x : Str} (h : nmB N sc i x = true) : PE X (.Name x pos) (lift rE X.K xv W (denE D (.esc i))) := by
  obtain ⟨h1, h2, h3, h4⟩ := A.nm h
  refine PE.imp (pe_var h1 h2 h3 h4) fun σ H Q ⟨p, s, hK, S, o⟩ => ?_
  simp only [denE] at o
  rw [bnd_eq] at o
  cases e : getO i s with
  | ok c s' =>
    obtain ⟨rfl, hc⟩ := getO_some e
    rw [e] at o
    obtain ⟨a, p', k1, k2, k3, k4⟩ := S.escape hc
    exact ⟨.ref a, k1, o (.ref a) p' H k2 k3 k4⟩
  | ex c vs s' => exact absurd e getO_nex
  | no => rw [e] at o; exact o.elim
end
end Py

-- text PySt
set_option Elab.async false
set_option linter.all false
set_option maxRecDepth 100000
set_option maxHeartbeats 4000000
/-! ### sorted of tuples, empty ones among them -/
namespace Py
open PySem PySem.Spec PyProof.Rows PySem.Calls PySem.SeqAt
section
variable {prog : Program} {w : World} {A : Around} {E : Value → Shared → Prop} {s : Shared}
theorem call_tuple_lt {Q : Value → Shared → Prop} {l b : Addr} {items items2 : Array Value} {e r : Nat → Bool} (hl : s.heap.IsTuple l items) (hb : s.heap.IsTuple b items2)
    (he : ∀ j (h1 : j < items.size) (h2 : j < items2.size), EqAt A.in1 s items[j] items2[j] (e j)) (hr : ∀ j (h1 : j < items.size) (h2 : j < items2.size), e j = false → RcLt A.in1 s items[j] items2[j] (r j))
    (h : Q (.bool (firstLt e r (decide (items.size < items2.size)) (List.range (min items.size items2.size)))) s) : wpAny (model prog w) A (call (.builtin "tuple.__lt__") [.ref l, .ref b]) Q E s := by
  obtain ⟨⟨cls, dd, data, sl⟩, ho, hc, n, hd⟩ := id hl
  obtain ⟨⟨cls2, dd2, data2, sl2⟩, ho2, hc2, n2, hd2⟩ := id hb
  simp only at hc hd hc2 hd2
  subst hc hd hc2 hd2
  exact call_meets F.slot_tuple_lt ⟨_, ho, rfl⟩ F.entry_tuple_lt (F.args_tuple_lt_2 _ _) (tuple_ltAt l b items items2 n n2 dd dd2 sl sl2 e r) ⟨ho, ho2, he, hr, h⟩
theorem oneLt_tup {xs ys : List PyData} {a b : Value} {as bs : List Addr} {Q : Bool → Shared → Prop} (ra : Reads s.heap a (.tuple xs) as) (rb : Reads s.heap b (.tuple ys) bs) (h : PySem.W.alike (.tuple xs) (.tuple ys) = true)
    (hu : A.units + min (PyData.tuple xs).depth (PyData.tuple ys).depth < cLine) (hq : Q (PySem.W.dataLt (.tuple xs) (.tuple ys)) s) : wpAny (model prog w) A (oneLt' true a b) Q E s := by
  have hal : PySem.W.alikeAll xs ys = true := by simpa [PySem.W.alike] using h
  cases ra with
  | @tuple l o vs n _ as₁ h1 h2 h3 h4 =>
    cases rb with
    | @tuple l' o' vs' n' _ bs₁ k1 k2 k3 k4 =>
      have n1 : vs.size = xs.length := by simpa using ReadsAll.length _ _ _ h4
      have n2 : vs'.size = ys.length := by simpa using ReadsAll.length _ _ _ k4
      rw [PySem.W.dataLt_tuple, ← PySem.W.firstLt_toks xs ys hal, ← n1, ← n2] at hq
      rw [oneLt'_eq]
      simp only [if_true]
      refine wpAny_bind (wpAny_cRoomFor (PySem.SeqAt.room_here hu) ?_)
      refine wpAny_bind (wpAny_callSpecialIfBound?_slot (T := "tuple") ⟨_, h1, h2⟩ F.slot_tuple_lt (call_tuple_lt (e := pairEq xs ys) (r := fun j => PySem.W.dataLt (xs.getD j .none) (ys.getD j .none)) ⟨_, h1, h2, _, h3⟩ ⟨_, k1, k2, _, k3⟩ (fun j j1 j2 => ?_) (fun j j1 j2 hj => ?_) ?_))
      · have := PySem.W.eqAt_alikeAll xs ys A.in1 s vs.toList vs'.toList _ _ h4 k4 hal (PySem.SeqAt.room_in hu) j (by simpa using j1) (by simpa using j2)
        simpa using this
      · have := PySem.W.rcLt_alikeAll xs ys A.in1 s vs.toList vs'.toList _ _ h4 k4 hal (PySem.SeqAt.room_in hu) j (by simpa using j1) (by simpa using j2) hj
        simpa using this
      · exact wpAny_truthy_bool hq
end
def headOf : PyData → Bool
  | .tuple (_ :: _) => true
  | _ => false
section
variable {M : Model} {A : Around} {E : Value → Shared → Prop} {s : Shared}
/-- the first items that the sort asks for -/
theorem t_firsts : ∀ (vs : List Value) (ds : List PyData) {Q : List (Option Value) → Shared → Prop}, PySem.W.EachIs (fun v d => ∃ as, Reads s.heap v d as) vs ds → (∀ d ∈ ds, ∃ xs, d = .tuple xs) →
    (∀ fs : List (Option Value), fs.map (·.isSome) = ds.map headOf → Q fs s) → wpAny M A (vs.mapM firstOfTuple') Q E s
  | [], _, _, e, _, h => by
    cases e
    rw [List.mapM_nil]; exact wpAny_pure (h [] rfl)
  | v :: vs, _, Q, e, ht, h => by
    cases e with
    | @cons _ d _ ds r t =>
      obtain ⟨as, r⟩ := r
      obtain ⟨xs, rfl⟩ := ht d List.mem_cons_self
      cases r with
      | @tuple a o us n _ _ ho hc hd hr =>
        rw [List.mapM_cons]
        refine wpAny_bind ?_
        rw [PySem.W.kas_first_eq]
        refine wpAny_bind (PySem.W.Looks.here (show PySem.W.Looks M s.heap (typeOf (.ref a)) o.cls from (PySem.W.Looks.ld ho).andThen .now) ?_)
        rw [hc, if_neg (by first | decide | simp)]
        refine wpAny_bind (listItems_at ho hd (wpAny_pure ?_))
        refine wpAny_bind (t_firsts vs ds (Q := fun bs s' => wpAny M A (pure (us[0]? :: bs)) Q E s') t (fun d hd => ht d (List.mem_cons_of_mem _ hd)) fun fs hf => wpAny_pure (h (us[0]? :: fs) ?_))
        rw [List.map_cons, List.map_cons, hf]
        congr 1
        cases xs with
        | nil =>
          have : us.toList = [] := by
            generalize us.toList = l at hr
            cases hr; rfl
          rw [← Array.getElem?_toList, this]; rfl
        | cons x xs =>
          have : us.toList ≠ [] := by
            intro e
            rw [e] at hr
            cases hr
          rw [← Array.getElem?_toList]
          cases hl : us.toList with
          | nil => exact absurd hl this
          | cons f l => rfl
end
section
variable {prog : Program} {w : World} {A : Around} {s : Shared}
theorem t_kind {E : Value → Shared → Prop} {vs : List Value} {ds : List PyData} {Q : SortKind → Shared → Prop} (e : PySem.W.EachIs (fun v d => ∃ as, Reads s.heap v d as) vs ds) (ht : ∀ d ∈ ds, ∃ xs, d = .tuple xs) (hn : ¬ ∀ d ∈ ds, headOf d = true) (h2 : 2 ≤ vs.length)
    (h : Q (if (ds.head?.map headOf).getD false = true then general' else oneType') s) : wpAny (model prog w) A (keyKind' vs.toArray) Q E s := by
  rw [keyKind'_eq, List.mapM_toArray, map_eq_pure_bind]
  refine wpAny_bind (wpAny_bind (t_firsts vs ds e ht fun fs hf => wpAny_pure ?_))
  have hall : (fs.toArray.all fun x => x.isSome) = false := by
    rw [List.all_toArray]
    have e1 : fs.all (fun x => x.isSome) = (fs.map (·.isSome)).all id := by rw [List.all_map]; rfl
    rw [e1, hf, List.all_map]
    cases hh : ds.all (id ∘ headOf) with
    | false => rfl
    | true => exact absurd (fun d hd => by simpa using List.all_eq_true.mp hh d hd) hn
  have hhead : (fs.toArray[0]?.bind id).isSome = (ds.head?.map headOf).getD false := by
    cases fs with
    | nil =>
      cases ds with
      | nil => rfl
      | cons d ds => simp at hf
    | cons f fs =>
      cases ds with
      | nil => simp at hf
      | cons d ds =>
        rw [List.map_cons, List.map_cons] at hf
        have h1 : f.isSome = headOf d := (List.cons.inj hf).1
        show (some f |>.bind id).isSome = headOf d
        rw [← h1]
        cases f <;> rfl
  rw [hall]
  simp only [Bool.false_eq_true, if_false]
  rw [hhead]
  by_cases hc : (ds.head?.map headOf).getD false = true
  · rw [if_pos hc] at h ⊢
    exact wpAny_pure h
  · rw [if_neg hc] at h ⊢
    rw [oneTypeOnly'_eq, List.mapM_toArray, map_eq_pure_bind]
    have hT : ∀ v ∈ vs, PySem.W.Looks (model prog w) s.heap (typeOf v) (Value.type "tuple") := fun v hv => by
      obtain ⟨d, hd, as, r⟩ := e.left v hv
      obtain ⟨xs, rfl⟩ := ht d hd
      exact PySem.W.looks_reads r
    obtain ⟨v₁, v₂, rest, rfl⟩ : ∃ v₁ v₂ rest, vs = v₁ :: v₂ :: rest := by
      match vs, h2 with
      | [], h2 => simp at h2
      | [_], h2 => simp at h2
      | v₁ :: v₂ :: rest, _ => exact ⟨v₁, v₂, rest, rfl⟩
    refine wpAny_bind (wpAny_bind (wpAny_bind (PySem.W.kas_mapM (r := Value.type "tuple") _ (fun v hv Q' hq => (hT v hv).here hq) (wpAny_pure ?_))))
    have hall2 : ((List.map (fun _ => Value.type "tuple") (v₁ :: v₂ :: rest)).toArray.all fun x => x == Value.type "tuple") = true := by
      simp only [List.all_toArray, List.all_map, List.all_eq_true]
      intro _ _
      exact beq_self_eq_true _
    have h0 : (List.map (fun _ => Value.type "tuple") (v₁ :: v₂ :: rest)).toArray[0]? = some (Value.type "tuple") := by simp
    rw [h0]
    simp only [hall2, if_true]
    exact wpAny_pure (wpAny_pure h)
/-- tuples that are alike can be sorted -/
theorem SortsAt_tups {vs : List Value} {ds : List PyData} (e : PySem.W.EachIs (fun v d => ∃ as, Reads s.heap v d as) vs ds) (hal : PySem.W.AllAlike ds) (ht : ∀ d ∈ ds, ∃ xs, d = .tuple xs) (hu : ∀ d, d ∈ ds → A.units + d.depth < cLine) : PySem.W.SortsAt prog w A s (PySem.W.dataKind s.heap ds) vs := by
  by_cases hn : ∀ d ∈ ds, headOf d = true
  · refine PySem.W.SortsAt.data e hal (.inl fun d hd => ?_) hu
    obtain ⟨xs, rfl⟩ := ht d hd
    cases xs with
    | nil => have := hn _ hd; simp [headOf] at this
    | cons x r => exact ⟨x, r, rfl⟩
  refine ⟨fun v hv => ?_, if (ds.head?.map headOf).getD false = true then general' else oneType', ?_, fun h2 E Q hq => t_kind e ht hn h2 hq⟩
  · obtain ⟨d, hd, as, r⟩ := e.left v hv
    exact ⟨_, PySem.W.dataKind_some hal hd r⟩
  · intro E x y a b Q ha hb hq
    obtain ⟨d, as, hd, ra, rfl⟩ := PySem.W.dataKind_inv ha
    obtain ⟨d', as', hd', rb, rfl⟩ := PySem.W.dataKind_inv hb
    obtain ⟨xs, rfl⟩ := ht d hd
    obtain ⟨ys, rfl⟩ := ht d' hd'
    have room : A.units + min (PyData.tuple xs).depth (PyData.tuple ys).depth < cLine := Nat.lt_of_le_of_lt (Nat.add_le_add_left (Nat.min_le_left _ _) _) (hu _ hd)
    split
    · exact PySem.W.oneLt_alike (f := false) (fun h => by cases h) ra rb (hal _ hd _ hd') (fun h => by cases h) room hq
    · rw [keyLt'_oneType]
      exact oneLt_tup ra rb (hal _ hd _ hd') room hq
theorem sorted_tups {β : Type} {bs : List β} {enc : β → PyData} {R : Value → β → Prop} {vs : List Value} {E : Value → Shared → Prop} {l : Addr} {Q : Value → Shared → Prop} (hl : s.heap.IsList l vs.toArray) (e : PySem.W.EachIs R vs bs) (er : PySem.W.EachIs (fun v b => ∃ as, Reads s.heap v (enc b) as) vs bs)
    (hal : PySem.W.AllAlike (bs.map enc)) (ht : ∀ d ∈ bs.map enc, ∃ xs, d = .tuple xs) (hL : bs.length ≤ sizeLine)
    (hu : ∀ b, b ∈ bs → A.units + 2 + (enc b).depth < cLine) (h : ∀ out, out.length = bs.length → PySem.W.EachIs R out (bs.mergeSort (PySem.W.dataLe false enc)) → Q (.ref (s.heap.objs.size + 1)) { s with heap := sortedAll s.heap vs (List.toArray out) }) :
    wpAny (model prog w) A (call (.builtin "sorted") [.ref l]) Q E s := by
  have er' : PySem.W.EachIs (fun v b => ∃ as, Reads (PySem.W.sortingHeap (PySem.W.copyHeap s.heap vs) (s.heap.objs.size + 1) vs) v (enc b) as) vs bs := er.mono fun _ _ ⟨as, r⟩ => ⟨as, PyProof.Rows.Reads.keeps (fun _ _ => PySem.W.sorting_copy_old) r⟩
  exact PySem.W.sorted_vals hl (SortsAt_tups (s := { s with heap := PySem.W.sortingHeap (PySem.W.copyHeap s.heap vs) (s.heap.objs.size + 1) vs }) (PySem.W.each_map (R := fun v d => ∃ as, Reads (PySem.W.sortingHeap (PySem.W.copyHeap s.heap vs) (s.heap.objs.size + 1) vs) v d as) enc er') hal ht (PySem.W.bound_map hu)) (by rw [e.length]; exact hL)
    (h _ (by rw [PySem.W.sortVals_length false rfl]; exact e.length) (PySem.W.sortVals_data false e er' hal))
end
/-! ### sorted of a tuple -/
section
variable {prog : Program} {w : World} {A : Around} {E : Value → Shared → Prop} {s : Shared}
/-- a tuple's items, taken into a new list -/
theorem collect_tup {l : Addr} {vs : List Value} {Q : List Value → Shared → Prop} (hl : s.heap.IsTuple l vs.toArray) (hsz : vs.length ≤ sizeLine)
    (h : Q vs { s with heap := (s.heap.push (seqObj "list" #[] 0)).update s.heap.objs.size (Obj.mapSeq (· ++ vs.toArray)) }) : wpAny (model prog w) A (collect (.ref l)) Q E s := by
  obtain ⟨o, ho, hc, n, hd⟩ := id hl
  have ho' : (s.heap.push (seqObj "list" #[] 0)).get? l = some o := Heap.get?_push_of_some _ ho
  have hnew : (s.heap.push (seqObj "list" #[] 0)).get? s.heap.objs.size = some (seqObj "list" #[] 0) := Heap.get?_push_size _ rfl
  have hcat : ((#[] : Array Value) ++ vs.toArray) = vs.toArray := by simp
  unfold collect
  refine wpAny_bind (wpAny_runValue (codeAny_builtin entry_proto_collect' ?_))
  refine wpAny_bind (wpAny_newList (wpAny_pure ⟨Code.quiet_builtin _ (by decide +kernel), codeAny_builtin entry_list_iadd' ?_⟩))
  show wpAny _ _ (Builtin.List.listExtendWith (.ref s.heap.objs.size) (.ref l) (.ref s.heap.objs.size)) _ _ { s with heap := s.heap.push (seqObj "list" #[] 0) }
  unfold Builtin.List.listExtendWith
  refine wpAny_bind (wpAny_typeOf (T := "tuple") ⟨o, ho', hc⟩ ?_)
  rw [if_pos (by rw [show (Value.type "tuple" == Value.type "tuple") = true from rfl]; simp)]
  refine wpAny_bind (listItems_at ho' hd (wpAny_bind (listItems_at (xs := #[]) (n := 0) hnew rfl ?_)))
  rw [if_neg (by simp)]
  refine wpAny_bind (listUpdate_at (xs := #[]) (n := 0) hnew rfl (wpAny_pure ?_) (Nat.zero_le _) (by show (#[] ++ vs.toArray).size ≤ sizeLine + 1; rw [hcat, List.size_toArray]; omega))
  refine wpAny_bind (wpAny_load (get?_update_seq hnew _) ?_)
  show wpAny _ _ (pure ((#[] : Array Value) ++ vs.toArray).toList) Q E _
  rw [hcat]
  exact wpAny_pure h
theorem sortedT_vals {κ : PyProof.Rows.KeyKind} {l : Addr} {vs : List Value} {Q : Value → Shared → Prop} (hl : s.heap.IsTuple l vs.toArray)
    (S : PySem.W.SortsAt prog w A.in1.in1 { s with heap := PySem.W.sortingHeap (PySem.W.copyHeap s.heap vs) (s.heap.objs.size + 1) vs } κ vs) (hL : vs.length ≤ sizeLine)
    (h : Q (.ref (s.heap.objs.size + 1)) { s with heap := sortedAll s.heap vs (PySem.W.sortVals κ false vs vs).toArray }) : wpAny (model prog w) A (call (.builtin "sorted") [.ref l]) Q E s := by
  refine call_function_entry_kw kind_sorted plain_sorted entry_sorted (args_sorted1 _) ?_
  unfold Builtin.«sorted»
  refine wpAny_bind (m := checkCount "sorted" 1 1 _) (wpAny_pure (wpAny_bind (collect_tup hl hL (wpAny_bind (wpAny_newList ?_ hL)))))
  have hsz : ((s.heap.push (seqObj "list" #[] 0)).update s.heap.objs.size (Obj.mapSeq (· ++ vs.toArray))).objs.size = s.heap.objs.size + 1 := by rw [Heap.size_update, size_push']
  show wpAny _ _ _ _ _ { s with heap := PySem.W.copyHeap s.heap vs }
  rw [hsz]
  refine wpAny_bind (wpAny_holding (wpAny_call_entry_kw slot_list_sort ⟨_, PySem.W.copyHeap_at s.heap vs, rfl⟩ entry_list_sort ?_ (args_list_sort _)))
  refine wpAny_mono (PySem.W.list_sort_vals (s := { s with heap := PySem.W.copyHeap s.heap vs }) (P := fun f s' => f = .done (.ret .none) ∧ Q (.ref (s.heap.objs.size + 1)) s') (PySem.W.copyHeap_at s.heap vs) S hL ⟨rfl, h⟩) (fun f s' hf => ?_) fun _ _ e => e
  obtain ⟨rfl, hq⟩ := hf
  exact ⟨_, rfl, wpAny_pure ⟨_, rfl, hq⟩⟩
theorem sortedT_both {β : Type} {bs : List β} {enc : β → PyData} {R : Value → β → Prop} {vs : List Value} {l : Addr} {Q : Value → Shared → Prop} (hl : s.heap.IsTuple l vs.toArray) (e : PySem.W.EachIs R vs bs) (er : PySem.W.EachIs (fun v b => ∃ as, Reads s.heap v (enc b) as) vs bs)
    (hal : PySem.W.AllAlike (bs.map enc)) (ht : PySem.W.Sortable (bs.map enc) ∨ ∀ d ∈ bs.map enc, ∃ xs, d = .tuple xs) (hL : bs.length ≤ sizeLine)
    (hu : ∀ b, b ∈ bs → A.units + 2 + (enc b).depth < cLine) (h : ∀ out, out.length = bs.length → PySem.W.EachIs R out (bs.mergeSort (PySem.W.dataLe false enc)) → Q (.ref (s.heap.objs.size + 1)) { s with heap := sortedAll s.heap vs (List.toArray out) }) :
    wpAny (model prog w) A (call (.builtin "sorted") [.ref l]) Q E s := by
  have er' : PySem.W.EachIs (fun v b => ∃ as, Reads (PySem.W.sortingHeap (PySem.W.copyHeap s.heap vs) (s.heap.objs.size + 1) vs) v (enc b) as) vs bs := er.mono fun _ _ ⟨as, r⟩ => ⟨as, PyProof.Rows.Reads.keeps (fun _ _ => PySem.W.sorting_copy_old) r⟩
  have em := PySem.W.each_map (R := fun v d => ∃ as, Reads (PySem.W.sortingHeap (PySem.W.copyHeap s.heap vs) (s.heap.objs.size + 1) vs) v d as) enc er'
  have fin := h _ (by rw [PySem.W.sortVals_length false rfl]; exact e.length) (PySem.W.sortVals_data false e er' hal)
  rcases ht with ht | ht
  · exact sortedT_vals hl (PySem.W.SortsAt.data (s := { s with heap := PySem.W.sortingHeap (PySem.W.copyHeap s.heap vs) (s.heap.objs.size + 1) vs }) em hal ht (PySem.W.bound_map hu)) (by rw [e.length]; exact hL) fin
  · exact sortedT_vals hl (SortsAt_tups (s := { s with heap := PySem.W.sortingHeap (PySem.W.copyHeap s.heap vs) (s.heap.objs.size + 1) vs }) em hal ht (PySem.W.bound_map hu)) (by rw [e.length]; exact hL) fin
end
end Py

-- text PyNa
set_option Elab.async false
set_option linter.all false
set_option maxRecDepth 100000
set_option maxHeartbeats 4000000
/-! ### sorted of data; sorted by a def's keys -/
namespace Py
open PySem PySem.Spec PyProof.Rows L2
section
theorem each_vals {α : Type} {f : α → V} : ∀ {zs : List α} {its : List Value}, Vals (zs.map f) its → PySem.W.EachIs (fun u z => RelV (f z) u) its zs
  | [], its, h => by
    rw [List.map_nil] at h
    cases h; exact .nil
  | z :: zs, its, h => by
    rw [List.map_cons] at h
    cases h with
    | cons a b => exact .cons a (each_vals b)
theorem vals_each {α : Type} {f : α → V} : ∀ {its : List Value} {zs : List α}, PySem.W.EachIs (fun u z => RelV (f z) u) its zs → Vals (zs.map f) its
  | _, _, .nil => .nil
  | _, _, .cons a b => .cons a (vals_each b)
theorem dpAll_each {X : Cx} {pins : List (Addr × Obj)} {σ : L2.St} {H : Hp} {s : Shared} (I : Inv X pins σ H s) : ∀ {ks : List V} {ds : List PyData} {us : List Value}, DpAll X.K H ks ds → Vals ks us → PySem.W.EachIs (fun u d => ∃ as, Reads s.heap u d as) us ds
  | _, _, _, .nil, .nil => .nil
  | _, _, _, .cons a b, .cons c d => .cons (Dp.reads I _ _ _ a c) (dpAll_each I b d)
theorem dpAll_len {K : PySem.W.Frag} {H : Hp} : ∀ {ks : List V} {ds : List PyData}, DpAll K H ks ds → ks.length = ds.length
  | _, _, .nil => rfl
  | _, _, .cons _ b => congrArg (· + 1) (dpAll_len b)
end
/-- sorted(xs), data -/
def rSortedD (K : PySem.W.Frag) : List V → Hp → VK → Prop := fun vs H Q => ∃ (a : Addr) (zs : List (MV × V)), vs = [V.ref a] ∧ SqL K H a (zs.map Prod.snd) ∧ (∀ z ∈ zs, ∃ d, z.1.toD = some d ∧ Dp K H z.2 d) ∧
  PySem.W.AllAlike (zs.map fun z => dOf z.1) ∧ (PySem.W.Sortable (zs.map fun z => dOf z.1) ∨ ∀ d ∈ zs.map (fun z => dOf z.1), ∃ xs, d = .tuple xs) ∧ (∀ z ∈ zs, (dOf z.1).depth ≤ 60) ∧
  ∀ p, H p = none → Q (.ref p) (upd H p (.lst ((zs.mergeSort (PySem.W.dataLe false fun z => dOf z.1)).map Prod.snd)))
/-- sorted(t), data -/
def rSortedDT (K : PySem.W.Frag) : List V → Hp → VK → Prop := fun vs H Q => ∃ (a : Addr) (zs : List (MV × V)), vs = [V.ref a] ∧ SqT K H a (zs.map Prod.snd) ∧ (∀ z ∈ zs, ∃ d, z.1.toD = some d ∧ Dp K H z.2 d) ∧
  PySem.W.AllAlike (zs.map fun z => dOf z.1) ∧ (PySem.W.Sortable (zs.map fun z => dOf z.1) ∨ ∀ d ∈ zs.map (fun z => dOf z.1), ∃ xs, d = .tuple xs) ∧ (∀ z ∈ zs, (dOf z.1).depth ≤ 60) ∧
  ∀ p, H p = none → Q (.ref p) (upd H p (.lst ((zs.mergeSort (PySem.W.dataLe false fun z => dOf z.1)).map Prod.snd)))
section
variable {X : Cx}
theorem cr_sortedD (hu : X.A.units + 100 < cLine) : CallR X (.builtin "sorted") (rSortedD X.K) := by
  intro pins s σ H vs us Q I r h
  obtain ⟨a, zs, rfl, hs, hd, hal, hk, hdp, q⟩ := h
  obtain ⟨its, rv, hl, hz⟩ := I.list hs
  rw [Vals.ref1 r]
  have e := each_vals (f := Prod.snd) rv
  have hz' : zs.length ≤ sizeLine := by simpa using hz
  have er : PySem.W.EachIs (fun u z => ∃ as, Reads s.heap u (dOf z.1) as) its zs := (PySem.W.each_mem e).mono fun u z hz => by
    obtain ⟨d, e1, e2⟩ := hd z hz.2
    have e3 : dOf z.1 = d := by simp [dOf, e1]
    rw [e3]
    exact Dp.reads I d z.2 u e2 hz.1
  have hun : ∀ z, z ∈ zs → X.A.units + 2 + (dOf z.1).depth < cLine := fun z hz => by have := hdp z hz; omega
  have fin : ∀ out : List Value, out.length = zs.length → PySem.W.EachIs (fun u z => RelV z.2 u) out (zs.mergeSort (PySem.W.dataLe false fun z => dOf z.1)) → EP X pins σ Q (.ref (s.heap.objs.size + 1)) { s with heap := PyProof.Rows.sortedAll s.heap its (List.toArray out) } := fun out ho eo => ?_
  · rcases hk with hk | hk
    · exact PySem.W.sorted_data (bs := zs) (enc := fun z => dOf z.1) hl.isList e er hal hk hz' hun fin
    · exact sorted_tups (bs := zs) (enc := fun z => dOf z.1) hl.isList e er hal hk hz' hun fin
  obtain ⟨n, hn⟩ := PyProof.Rows.sortedAll_at s.heap its out.toArray
  have rv' := vals_each (f := Prod.snd) eo
  have hlen : ((zs.mergeSort (PySem.W.dataLe false fun z => dOf z.1)).map Prod.snd).length ≤ sizeLine := by rw [List.length_map, List.length_mergeSort]; exact hz'
  exact ⟨.ref _, upd H (s.heap.objs.size + 1) (.lst _), I.laid (t' := s.toks) (fun _ _ => PyProof.Rows.sortedAll_old) (Nat.le_succ _) ⟨hlen, out, n, rv', hn⟩, rfl, q _ (I.hok.fresh (Nat.le_succ _))⟩
theorem cr_sortedDT (hu : X.A.units + 100 < cLine) : CallR X (.builtin "sorted") (rSortedDT X.K) := by
  intro pins s σ H vs us Q I r h
  obtain ⟨a, zs, rfl, hs, hd, hal, hk, hdp, q⟩ := h
  obtain ⟨its, rv, hl, hz⟩ := I.tuple hs
  rw [Vals.ref1 r]
  have e := each_vals (f := Prod.snd) rv
  have hz' : zs.length ≤ sizeLine := by simpa using hz
  have er : PySem.W.EachIs (fun u z => ∃ as, Reads s.heap u (dOf z.1) as) its zs := (PySem.W.each_mem e).mono fun u z hz => by
    obtain ⟨d, e1, e2⟩ := hd z hz.2
    have e3 : dOf z.1 = d := by simp [dOf, e1]
    rw [e3]
    exact Dp.reads I d z.2 u e2 hz.1
  have hun : ∀ z, z ∈ zs → X.A.units + 2 + (dOf z.1).depth < cLine := fun z hz => by have := hdp z hz; omega
  refine sortedT_both (bs := zs) (enc := fun z => dOf z.1) hl e er hal hk hz' hun fun out ho eo => ?_
  obtain ⟨n, hn⟩ := PyProof.Rows.sortedAll_at s.heap its out.toArray
  have rv' := vals_each (f := Prod.snd) eo
  have hlen : ((zs.mergeSort (PySem.W.dataLe false fun z => dOf z.1)).map Prod.snd).length ≤ sizeLine := by rw [List.length_map, List.length_mergeSort]; exact hz'
  exact ⟨.ref _, upd H (s.heap.objs.size + 1) (.lst _), I.laid (t' := s.toks) (fun _ _ => PyProof.Rows.sortedAll_old) (Nat.le_succ _) ⟨hlen, out, n, rv', hn⟩, rfl, q _ (I.hok.fresh (Nat.le_succ _))⟩
theorem CallR.or2 {f : Value} {r1 r2 : List V → Hp → VK → Prop} (h1 : CallR X f r1) (h2 : CallR X f r2) : CallR X f (fun vs H Q => r1 vs H Q ∨ r2 vs H Q) := by
  intro pins s σ H vs us Q I r h
  exact h.elim (fun h => h1 pins s σ H vs us Q I r h) (fun h => h2 pins s σ H vs us Q I r h)
end
/-! ### by keys -/
def keysT (sp : List V → Hp → VK → Prop) : List V → Hp → (List V → Hp → Prop) → Prop
  | [], H, Q => Q [] H
  | x :: xs, H, Q => sp [x] H fun k G => keysT sp xs G fun ks J => Q (k :: ks) J
def srtK {α : Type} (xs : List α) (ds : List PyData) : List α := ((xs.zip ds).mergeSort (PySem.W.dataLe false Prod.snd)).map Prod.fst
def rSortKey (K : PySem.W.Frag) (f : Addr) (sp : List V → Hp → VK → Prop) : List V → List V → Hp → VK → Prop := fun vs zs H Q => ∃ (a : Addr) (xs : List V), vs = [V.ref a] ∧ zs = [V.ref f] ∧ SqL K H a xs ∧
  keysT sp xs H fun ks G => ∃ ds, DpAll K G ks ds ∧ ds.length = xs.length ∧ PySem.W.AllAlike ds ∧ PySem.W.Sortable ds ∧ (∀ d ∈ ds, d.depth ≤ 60) ∧ ∀ p, G p = none → Q (.ref p) (upd G p (.lst (srtK xs ds)))
section
variable {prog : Program} {w : World} {A : Around} {E : Value → Shared → Prop} {s : Shared} {a kS : Addr} {vs : List Value} {keys : Array Value} {e e1 : Nat} {P : PySem.Fin → Shared → Prop}
theorem srt_tail {st : SortSt} {out : List Value} (nk : s.heap.get? kS = some (seqObj "list" keys e)) (na : s.heap.get? a = some (seqObj "list" #[] e1)) (hka : kS ≠ a) (z1 : keys.size ≤ sizeLine) (z2 : out.length ≤ sizeLine) (fl : failedOf st = none)
    (eo : (arrOf st).map (·.2) = out.toArray)
    (h : ∀ c, ((s.heap.update kS (Obj.mapSeq fun _ => #[])).update a (Obj.mapSeq fun _ => out.toArray)).get? a = some (seqObj "list" out.toArray c) → P (.done (.ret .none)) { s with heap := (s.heap.update kS (Obj.mapSeq fun _ => #[])).update a (Obj.mapSeq fun _ => out.toArray) }) :
    wpAny (model prog w) A (ksk_tail a false e1 (.ref kS) st) P E s := by
  have na1 : (s.heap.update kS (Obj.mapSeq fun _ => (#[] : Array Value))).get? a = some (seqObj "list" #[] e1) := ((Heap.SameBut.update s.heap kS (Obj.mapSeq fun _ => (#[] : Array Value))).2 a hka.symm).trans na
  obtain ⟨c, hc⟩ : ∃ c, ((s.heap.update kS (Obj.mapSeq fun _ => (#[] : Array Value))).update a (Obj.mapSeq fun _ => out.toArray)).get? a = some (seqObj "list" out.toArray c) := ⟨_, get?_update_seq na1 fun _ => out.toArray⟩
  unfold ksk_tail
  dsimp only
  simp only [Bool.false_eq_true, if_false]
  rw [eo]
  refine wpAny_bind (listUpdate_at nk rfl ?_ z1 (Nat.zero_le _))
  refine wpAny_bind (wpAny_letGo ?_)
  refine wpAny_bind (seqEpoch_at na1 rfl ?_)
  refine wpAny_bind (listUpdate_at na1 rfl ?_ (Nat.zero_le _) (by rw [List.size_toArray]; omega))
  rw [fl]
  simp only [bne_self_eq_false, Bool.false_eq_true, if_false]
  exact wpAny_pure (h c hc)
theorem srt_end {κ : PyProof.Rows.KeyKind} (nk : s.heap.get? kS = some (seqObj "list" keys e)) (na : s.heap.get? a = some (seqObj "list" #[] e1)) (hka : kS ≠ a) (S : PySem.W.SortsAt prog w A s κ keys.toList) (hsz : keys.size = vs.length) (hZ : vs.length ≤ sizeLine)
    (h : ∀ c, ((s.heap.update kS (Obj.mapSeq fun _ => #[])).update a (Obj.mapSeq fun _ => (PySem.W.sortVals κ false keys.toList vs).toArray)).get? a = some (seqObj "list" (PySem.W.sortVals κ false keys.toList vs).toArray c) →
      P (.done (.ret .none)) { s with heap := (s.heap.update kS (Obj.mapSeq fun _ => #[])).update a (Obj.mapSeq fun _ => (PySem.W.sortVals κ false keys.toList vs).toArray) }) :
    wpAny (model prog w) A (ksk_end a false vs.toArray e1 (.ref kS) keys) P E s := by
  obtain ⟨kd, h1, h2⟩ := S.kind
  have kl : keys.toList.length = vs.length := by rw [Array.length_toList]; exact hsz
  have hK : PyProof.Rows.KeysOf κ (keys.zip vs.toArray) := PySem.W.keysOf_zip S.keys
  have ol : (PySem.W.sortVals κ false keys.toList vs).length = vs.length := PySem.W.sortVals_length false kl
  have zsz : (keys.zip vs.toArray).size = vs.length := by rw [Array.size_zip, hsz, List.size_toArray, Nat.min_self]
  have fin : ∀ st' : SortSt, (arrOf st').Perm (keys.zip vs.toArray) → PyProof.Rows.SortedToK κ (arrOf st') (keys.zip vs.toArray).size → PyProof.Rows.Stable κ (arrOf st') (keys.zip vs.toArray) →
      (arrOf st').map (·.2) = (PySem.W.sortVals κ false keys.toList vs).toArray := by
    intro st' hp hs ht
    have q := congrArg List.toArray (PySem.W.sort_out (rev := false) (keys := keys) (items := vs.toArray) (xs := arrOf st') (κ := κ) hK (by simpa using hp) (by simpa using hs) (by simpa using ht))
    simp only [Bool.false_eq_true, if_false, Array.toArray_toList] at q
    exact q
  unfold ksk_end
  dsimp only
  simp only [Bool.false_eq_true, if_false]
  by_cases hl2 : vs.toArray.size < 2
  · rw [if_pos hl2, if_pos hl2]
    refine wpAny_bind (wpAny_pure ?_)
    rw [StateT.run_pure]
    refine wpAny_bind (wpAny_pure ?_)
    dsimp only
    refine srt_tail (st := SortSt.mk' general' (keys.zip vs.toArray) #[] 7 none) nk na hka (by omega) (by omega) rfl (fin _ (Array.Perm.refl _) ?_ (PyProof.Rows.Stable.refl _)) h
    intro i j hij hj
    rw [zsz] at hj
    rw [List.size_toArray] at hl2
    obtain rfl : i = j := by omega
    exact PyProof.Rows.KeyOrd.kle_refl _
  · rw [if_neg hl2, if_neg hl2]
    rw [List.size_toArray] at hl2
    refine wpAny_bind (h2 (by omega) _ ?_)
    have run := PyProof.Rows.H.wpS_sortRunsSt (prog := prog) (w := w) (A := A) (E := E) (s := s) (κ := κ) (kd := kd) (a₀ := keys.zip vs.toArray) (st := SortSt.mk' kd (keys.zip vs.toArray) #[] 7 none)
      (Q := fun _ st' => failedOf st' = none ∧ (arrOf st').map (·.2) = (PySem.W.sortVals κ false keys.toList vs).toArray)
      h1 hK ⟨Array.Perm.refl _, rfl, rfl⟩ rfl (PyProof.Rows.Stable.refl _) (by rw [zsz]; omega) fun st' a1 a2 a3 a4 => ⟨a2, fin st' a1 a3 a4⟩
    refine wpAny_bind (wpAny_mono run ?_ fun _ _ z => z)
    rintro ⟨⟨⟩, st'⟩ s' ⟨rfl, hf, ho⟩
    exact srt_tail nk na hka (by omega) (by omega) hf ho h
end
section
variable {X : Cx} {k : Nat} {f : Addr} {fd : FuncData} {ps : List Str} {sp : List V → Hp → VK → Prop} {pins : List (Addr × Obj)} {σ : L2.St} {H G : Hp} {s : Shared}
theorem FnG.endsI {Q : VK} {args : List Value} {us : List Value} {vs : List V} {E : Value → Shared → Prop}
    (F : FnG X.prog X.w X.K X.mg X.base k f fd ps sp) (hg : X.A.guards = some []) (hr : Room k X.A.in1.in1) (hb : BindsTo s fd ⟨args, []⟩ (ps.zip us))
    (I : Inv X pins σ H s) (r : Vals vs us) (h : sp vs H Q) : wpAny (model X.prog X.w) X.A.in1.in1 (call (.ref f) args) (EP X pins σ Q) E s := by
  refine wpAny_call (codeAny_mono (F.run X.A.in1.in1 X.stack s H ⟨args, []⟩ us vs Q hg hr I.env0.in1.in1 hb r h) fun r s' hq => ?_)
  match r, hq with
  | .error e, hq => exact False.elim hq
  | .ok (.ret u), hq => exact I.after hq
  | .ok .next, hq => exact False.elim hq
  | .ok .brk, hq => exact False.elim hq
  | .ok .cont, hq => exact False.elim hq
/-- a thing of nobody's that changes between two calls -/
theorem repin {b : Addr} {o o' : Obj} {h' : Heap} (J : Inv X ((b, o) :: pins) σ G s) (fb : FpOk X pins H b) (k : ∀ c oc, c ≠ b → s.heap.get? c = some oc → h'.get? c = some oc) (hn : h'.get? b = some o') (hc : ∀ v, o'.data ≠ .cell v) :
    Inv X ((b, o') :: pins) σ G { s with heap := h' } := by
  have hb := J.pin (b, o) (List.mem_append_right _ (.head _))
  have J0 : Inv X pins σ G s := J.pins_of fun p hp => J.pin p ((List.mem_append.mp (List.mem_append_right X.pn hp)).elim (List.mem_append_left _) fun z => List.mem_append_right _ (.tail _ z))
  have J1 : Inv X pins σ G { s with heap := h' } := J0.turnedL (t' := s.toks) (ch := [b]) (fun c oc hc h => k c oc (fun e => hc (by simp [e])) h) (fun c hc => by obtain rfl := List.mem_singleton.mp hc; exact ⟨hb.2.1, fb.2⟩)
  exact J1.pins_of fun p hp => by
    rcases List.mem_cons.mp hp with rfl | hp
    · exact ⟨hn, hb.2.1, hb.2.2.1, hb.2.2.2.1, hc⟩
    · exact J1.pin p (List.mem_append_right _ hp)
theorem key_loop {xs : List V} {its : List Value} {kS a : Addr} {e1 : Nat} {pa : Addr × Obj} {Qk : List V → Hp → Prop} {P : PySem.Fin → Shared → Prop} {E : Value → Shared → Prop}
    (F : FnG X.prog X.w X.K X.mg X.base k f fd ps sp) (hg : X.A.guards = some []) (hr : Room k X.A.in1.in1) (hb : ∀ (s : Shared) (u : Value), X.K.In s.heap → BindsTo s fd ⟨[u], []⟩ (ps.zip [u]))
    (I : Inv X ((kS, seqObj "list" #[] 0) :: pa :: pins) σ H s) (fk : FpOk X (pa :: pins) H kS) (rv : Vals xs its) (hZ : its.length ≤ sizeLine) (q : keysT sp xs H Qk)
    (done : ∀ s' G ks kA e, Inv X ((kS, seqObj "list" kA e) :: pa :: pins) σ G s' → Vals ks kA.toList → Qk ks G → ks.length = xs.length → wpAny (model X.prog X.w) X.A.in1.in1 (ksk_end a false its.toArray e1 (.ref kS) kA) P E s') :
    wpAny (model X.prog X.w) X.A.in1.in1 (ksk_rest a (.ref f) false its.toArray e1 (.ref kS)) P E s := by
  have lx : xs.length = its.length := rv.length
  unfold ksk_rest
  refine wpAny_bind (wpAny_rule ?_)
  rw [List.forIn_toArray]
  refine wpAny_bind (ksk_fold (fun i s' => ∃ kA e ks G, Inv X ((kS, seqObj "list" kA e) :: pa :: pins) σ G s' ∧ Vals ks kA.toList ∧ ks.length = i ∧ keysT sp (xs.drop i) G (fun r J => Qk (ks ++ r) J)) its 0 s ⟨#[], 0, [], H, I, .nil, rfl, by simpa using q⟩ ?step ?done)
  case step =>
    rintro j x s' hx ⟨kA, e, ks, G, J, rk, hl, hq⟩
    simp only [Nat.zero_add] at hl hq ⊢
    have hj : j < its.length := (List.getElem?_eq_some_iff.mp hx).1
    have hjx : j < xs.length := by omega
    obtain ⟨u0, hu0, rx⟩ := rv.get (List.getElem?_eq_getElem hjx)
    obtain rfl : u0 = x := Option.some.inj (hu0.symm.trans hx)
    rw [List.drop_eq_getElem_cons hjx] at hq
    simp only [keysT] at hq
    have ksz : kA.size = j := by simpa using rk.length.symm.trans hl
    refine wpAny_bind (wpAny_attempt (wpAny_mono (F.endsI (E := fun _ _ => False) hg hr (hb s' u0 J.kIn) J (.cons rx .nil) hq) (fun u s2 he => ?_) fun _ _ hF => hF.elim))
    obtain ⟨kv, G2, J2, rk2, q2⟩ := he
    have nk := (J2.pin (kS, seqObj "list" kA e) (List.mem_append_right _ (.head _))).1
    obtain ⟨c2, hc2⟩ : ∃ c2, (s2.heap.update kS (Obj.mapSeq (·.push u))).get? kS = some (seqObj "list" (kA.push u) c2) := ⟨_, get?_update_seq nk (·.push u)⟩
    refine wpAny_bind (listUpdate_at nk rfl ?_ (by omega) (by rw [Array.size_push]; omega))
    refine wpAny_pure ⟨rfl, kA.push u, c2, ks ++ [kv], G2, repin J2 fk (fun c oc hc h => ((Heap.SameBut.update s2.heap kS (Obj.mapSeq (·.push u))).2 c hc).trans h) hc2 (fun v => by simp [seqObj]), ?_, by simp [hl], ?_⟩
    · rw [Array.toList_push]
      exact rk.append (.cons rk2 .nil)
    · simp only [List.append_assoc, List.cons_append, List.nil_append]
      exact q2
  case done =>
    rintro s' ⟨kA, e, ks, G, J, rk, hl, hq⟩
    simp only [Nat.zero_add] at hl hq
    rw [← lx, List.drop_length] at hq
    simp only [keysT, List.append_nil] at hq
    have nk := (J.pin (kS, seqObj "list" kA e) (List.mem_append_right _ (.head _))).1
    refine wpAny_bind (listItems_at nk rfl ?_)
    exact done s' G ks kA e J rk hq (by omega)
theorem cr_sortKey (F : FnG X.prog X.w X.K X.mg X.base k f fd ps sp) (hg : X.A.guards = some []) (hr : Room k X.A.in1.in1) (hb : ∀ (s : Shared) (u : Value), X.K.In s.heap → BindsTo s fd ⟨[u], []⟩ (ps.zip [u])) (hu : X.A.units + 100 < cLine) :
    CallRK X (.builtin "sorted") [Str.ofString "key"] (rSortKey X.K f sp) := by
  intro pins s σ H vs zs us ws Q I r rz h
  obtain ⟨l, xs, rfl, rfl, hs, q⟩ := h
  obtain ⟨its, rv, hl, hz⟩ := I.list hs
  obtain rfl := Vals.ref1 r
  obtain ⟨w1, rfl, e1⟩ := vals1 rz
  obtain rfl : w1 = Value.ref f := e1
  have lx : xs.length = its.length := rv.length
  refine PySem.W.sorted_of_sort hl.isList (by omega) (ksk_s1 _ _) (fun _ => ksk_l1 _ _) fun E' => ?_
  show wpAny _ _ (Builtin.«list.sort» ⟨[.ref (s.heap.objs.size + 1)], [(Str.ofString "key", Value.ref f)]⟩) _ _ _
  rw [ksk_t1]
  have ho := PySem.W.copyHeap_at s.heap its
  have fa : FpOk X pins H (s.heap.objs.size + 1) := I.fpOk (Nat.le_succ _) (I.hok.fresh (Nat.le_succ _))
  have I1 : Inv X pins σ H { s with heap := PySem.W.copyHeap s.heap its } := I.turnedL (t' := s.toks) (ch := []) (fun c oc _ h => PySem.W.copyHeap_old h) (fun c hc => by cases hc)
  obtain ⟨a, ha⟩ : ∃ a, s.heap.objs.size + 1 = a := ⟨_, rfl⟩
  rw [ha] at ho fa ⊢
  obtain ⟨h2, hh⟩ : ∃ h2, (PySem.W.copyHeap s.heap its).update a (Obj.mapSeq fun _ => #[]) = h2 := ⟨_, rfl⟩
  have s1 : Heap.SameBut a (PySem.W.copyHeap s.heap its) h2 := by rw [← hh]; exact Heap.SameBut.update _ _ _
  obtain ⟨n1, ho1⟩ : ∃ n1, h2.get? a = some (seqObj "list" #[] n1) := by rw [← hh]; exact ⟨_, get?_update_seq ho fun _ => #[]⟩
  have I2 : Inv X pins σ H { s with heap := h2 } := Inv.turnedL (s := { s with heap := PySem.W.copyHeap s.heap its }) (t' := s.toks) (ch := [a]) I1 (fun c oc hc h => (s1.2 c (fun z => hc (by simp [z]))).trans h) (fun c hc => by obtain rfl := List.mem_singleton.mp hc; exact fa)
  have I3 : Inv X pins σ H { s with heap := (h2.push (seqObj "tuple" its.toArray 0)).push (seqObj "list" #[] 0) } := Inv.turnedL (s := { s with heap := h2 }) (t' := s.toks) (ch := []) I2 (fun c oc _ h => Heap.get?_push_of_some _ (Heap.get?_push_of_some _ h)) (fun c hc => by cases hc)
  have hlt : a < h2.objs.size := Heap.lt_size ho1
  have hsz2 : (h2.push (seqObj "tuple" its.toArray 0)).objs.size = h2.objs.size + 1 := size_push' _ _
  have hsz : s.heap.objs.size ≤ (h2.push (seqObj "tuple" its.toArray 0)).objs.size := by omega
  have hne : (h2.push (seqObj "tuple" its.toArray 0)).objs.size ≠ a := by omega
  have fk : FpOk X pins H (h2.push (seqObj "tuple" its.toArray 0)).objs.size := I.fpOk hsz (I.hok.fresh hsz)
  unfold ksk_tree
  refine wpAny_bind (listItems_at ho rfl ?_)
  refine wpAny_bind (listUpdate_at ho rfl ?_ (by rw [List.size_toArray]; omega) (Nat.zero_le _))
  show wpAny _ _ _ _ _ { s with heap := (PySem.W.copyHeap s.heap its).update a (Obj.mapSeq fun _ => #[]) }
  rw [hh]
  refine wpAny_bind (seqEpoch_at ho1 rfl ?_)
  refine wpAny_bind (wpAny_newTuple ?_ (by show its.length ≤ _; omega))
  refine wpAny_bind (wpAny_newList ?_ (Nat.zero_le _))
  refine wpAny_holding ?_
  have gk : ((h2.push (seqObj "tuple" its.toArray 0)).push (seqObj "list" #[] 0)).get? (h2.push (seqObj "tuple" its.toArray 0)).objs.size = some (seqObj "list" #[] 0) := Heap.get?_push_size _ rfl
  have ga : ((h2.push (seqObj "tuple" its.toArray 0)).push (seqObj "list" #[] 0)).get? a = some (seqObj "list" #[] n1) := Heap.get?_push_of_some _ (Heap.get?_push_of_some _ ho1)
  have fk2 : FpOk X ((a, seqObj "list" #[] n1) :: pins) H (h2.push (seqObj "tuple" its.toArray 0)).objs.size := by
    obtain ⟨f1, f2, f3, f4, f5, f6⟩ := fk
    refine ⟨f1, f2, f3, f4, f5, fun p hp => ?_⟩
    rcases List.mem_append.mp hp with hp | hp
    · exact f6 p (List.mem_append_left _ hp)
    · rcases List.mem_cons.mp hp with rfl | hp
      · exact hne.symm
      · exact f6 p (List.mem_append_right _ hp)
  generalize (h2.push (seqObj "tuple" its.toArray 0)).objs.size = kS at *
  have I4 : Inv X ((kS, seqObj "list" #[] 0) :: (a, seqObj "list" #[] n1) :: pins) σ H { s with heap := (h2.push (seqObj "tuple" its.toArray 0)).push (seqObj "list" #[] 0) } := I3.pins_of fun p hp => by
    rcases List.mem_cons.mp hp with rfl | hp
    · exact ⟨gk, fk.1, fk.2.1, fk.2.2.1, fun v => by simp [seqObj]⟩
    · rcases List.mem_cons.mp hp with rfl | hp
      · exact ⟨ga, fa.1, fa.2.1, fa.2.2.1, fun v => by simp [seqObj]⟩
      · exact I3.pin p (List.mem_append_right _ hp)
  refine key_loop F hg hr hb I4 fk2 rv (by omega) q fun s' G ks kA e J rk hq hlen => ?_
  obtain ⟨ds, hd, dl, hal, hsk, hdp, q⟩ := hq
  have each : PySem.W.EachIs (fun v d => ∃ as, Reads s'.heap v d as) kA.toList ds := dpAll_each J hd rk
  have pk := J.pin (kS, seqObj "list" kA e) (List.mem_append_right _ (.head _))
  have pa := J.pin (a, seqObj "list" #[] n1) (List.mem_append_right _ (.tail _ (.head _)))
  have ksz : kA.size = its.length := by simpa using rk.length.symm.trans (hlen.trans lx)
  have S := PySem.W.SortsAt.data (prog := X.prog) (w := X.w) (A := X.A.in1.in1) (s := s') each hal hsk (fun d hd => by have := hdp d hd; show X.A.units + 1 + 1 + _ < _; omega)
  refine srt_end pk.1 pa.1 hne S ksz (by omega) fun c hc => ⟨rfl, ?_⟩
  have rout : PySem.W.EachIs (fun u z => RelV (Prod.fst z) u) (PySem.W.sortVals (PySem.W.dataKind s'.heap ds) false kA.toList its) ((xs.zip ds).mergeSort (PySem.W.dataLe false Prod.snd)) := by
    have m1 : (xs.zip ds).map Prod.fst = xs := List.map_fst_zip (by omega)
    have m2 : (xs.zip ds).map Prod.snd = ds := List.map_snd_zip (by omega)
    refine PySem.W.keyedOut_each (R := fun u z => RelV (Prod.fst z) u) Prod.snd ⟨s'.heap, kA.toList, by rw [m2]; exact hal, by rw [m2], by rw [m2]; exact each⟩ (each_vals (by rw [m1]; exact rv))
  have J0 : Inv X ((a, seqObj "list" #[] n1) :: pins) σ G s' := J.pins_of fun p hp => J.pin p (List.mem_append_right _ (.tail _ hp))
  have b1 := Heap.SameBut.update s'.heap kS (Obj.mapSeq fun _ => (#[] : Array Value))
  have J1 : Inv X ((a, seqObj "list" #[] n1) :: pins) σ G { s' with heap := s'.heap.update kS (Obj.mapSeq fun _ => #[]) } := J0.turnedL (t' := s'.toks) (ch := [kS]) (fun c oc hc h => (b1.2 c (fun z => hc (by simp [z]))).trans h) (fun c hc => by obtain rfl := List.mem_singleton.mp hc; exact ⟨pk.2.1, fk2.2⟩)
  have J2 : Inv X pins σ G { s' with heap := s'.heap.update kS (Obj.mapSeq fun _ => #[]) } := J1.pins_of fun p hp => J1.pin p (List.mem_append_right _ (.tail _ hp))
  have b2 := Heap.SameBut.update (s'.heap.update kS (Obj.mapSeq fun _ => #[])) a (Obj.mapSeq fun _ => (PySem.W.sortVals (PySem.W.dataKind s'.heap ds) false kA.toList its).toArray)
  refine ⟨.ref a, upd G a (.lst (srtK xs ds)), J2.take (t' := s'.toks) (fun c oc hc h => (b2.2 c hc).trans h) ⟨pa.2.1, fa.2⟩ ⟨?_, _, c, vals_each rout, hc⟩, rfl, q a pa.2.1⟩
  unfold srtK
  rw [List.length_map, List.length_mergeSort, List.length_zip]
  omega
end
/-! ### the rule of sorted(xs) -/
section
theorem toDs_eq : ∀ {xs : List MV} {ds : List PyData}, toDs xs = some ds → ds = xs.map dOf ∧ ∀ x ∈ xs, ∃ d, x.toD = some d
  | [], ds, h => by simp only [toDs, Option.some.injEq] at h; subst h; exact ⟨rfl, fun x hx => by cases hx⟩
  | x :: xs, ds, h => by
    simp only [toDs] at h
    split at h
    · rename_i d ds' e1 e2
      simp only [Option.some.injEq] at h; subst h
      obtain ⟨h1, h2⟩ := toDs_eq e2
      refine ⟨by rw [List.map_cons, ← h1]; simp [dOf, e1], fun y hy => ?_⟩
      rcases List.mem_cons.mp hy with rfl | hy
      · exact ⟨d, e1⟩
      · exact h2 y hy
    · cases h
theorem okSort_of {ds : List PyData} (h : okSort ds = true) : PySem.W.AllAlike ds ∧ PySem.W.Sortable ds ∧ ∀ d ∈ ds, d.depth ≤ 60 := by
  simp only [okSort, Bool.and_eq_true] at h
  obtain ⟨⟨h1, h2⟩, h3⟩ := h
  refine ⟨fun d hd e he => ?_, ?_, fun d hd => by simpa using List.all_eq_true.mp h3 d hd⟩
  · exact List.all_eq_true.mp (List.all_eq_true.mp h1 d hd) e he
  · simp only [sortableB, Bool.or_eq_true] at h2
    rcases h2 with h2 | h2
    · refine .inl fun d hd => ?_
      have := List.all_eq_true.mp h2 d hd
      unfold tupB at this
      split at this
      · exact ⟨_, _, rfl⟩
      · cases this
    · refine .inr fun d hd => ?_
      have := List.all_eq_true.mp h2 d hd
      refine ⟨fun e => ?_, fun xs e => ?_⟩ <;> subst e <;> simp [noTupB] at this
theorem okTup_of {ds : List PyData} (h : okTup ds = true) : PySem.W.AllAlike ds ∧ (∀ d ∈ ds, ∃ xs, d = .tuple xs) ∧ ∀ d ∈ ds, d.depth ≤ 60 := by
  simp only [okTup, Bool.and_eq_true] at h
  obtain ⟨⟨h1, h2⟩, h3⟩ := h
  refine ⟨fun d hd e he => ?_, fun d hd => ?_, fun d hd => by simpa using List.all_eq_true.mp h3 d hd⟩
  · exact List.all_eq_true.mp (List.all_eq_true.mp h1 d hd) e he
  · have := List.all_eq_true.mp h2 d hd
    unfold isTupB at this
    split at this
    · exact ⟨_, rfl⟩
    · cases this
theorem sortD_some {ys zs : List MV} (e5 : sortD ys = some zs) : ∃ ds, toDs ys = some ds ∧ zs = ys.mergeSort (PySem.W.dataLe false dOf) ∧ PySem.W.AllAlike ds ∧ (PySem.W.Sortable ds ∨ ∀ d ∈ ds, ∃ xs, d = .tuple xs) ∧ ∀ d ∈ ds, d.depth ≤ 60 := by
  obtain ⟨ds, e6, e7⟩ := Option.bind_eq_some_iff.mp e5
  refine ⟨ds, e6, ?_⟩
  split at e7
  · rename_i hok
    obtain ⟨k1, k2, k3⟩ := okSort_of hok
    exact ⟨(Option.some.inj e7).symm, k1, .inl k2, k3⟩
  · split at e7
    · rename_i hok
      obtain ⟨k1, k2, k3⟩ := okTup_of hok
      exact ⟨(Option.some.inj e7).symm, k1, .inr k2, k3⟩
    · cases e7
variable {p : Pl} {H : Hp}
theorem rvs_zip : ∀ {xs : List MV} {vs : List V}, RVs p H xs vs → (xs.zip vs).map Prod.fst = xs ∧ (xs.zip vs).map Prod.snd = vs ∧ ∀ z ∈ xs.zip vs, RV p H z.1 z.2
  | [], vs, h => by simp only [RVs] at h; subst h; simp
  | x :: xs, vs, h => by
    simp only [RVs] at h
    obtain ⟨w, r, rfl, h1, h2⟩ := h
    obtain ⟨a, b, c⟩ := rvs_zip h2
    refine ⟨by simp [a], by simp [b], fun z hz => ?_⟩
    rcases List.mem_cons.mp hz with rfl | hz
    · exact h1
    · exact c z hz
theorem rvs_maps : ∀ {zs : List (MV × V)}, (∀ z ∈ zs, RV p H z.1 z.2) → RVs p H (zs.map Prod.fst) (zs.map Prod.snd)
  | [], _ => .nil
  | z :: zs, h => .cons (h z List.mem_cons_self) (rvs_maps fun y hy => h y (List.mem_cons_of_mem _ hy))
/-- what the rule of sorted data asks -/
theorem sort_core {ys zs : List MV} {vs : List V} (e5 : sortD ys = some zs) (r : RVs p H ys vs) : (ys.zip vs).map Prod.snd = vs ∧ (∀ z ∈ ys.zip vs, ∃ d, z.1.toD = some d ∧ Dp p.K H z.2 d) ∧
    PySem.W.AllAlike ((ys.zip vs).map fun z => dOf z.1) ∧ (PySem.W.Sortable ((ys.zip vs).map fun z => dOf z.1) ∨ ∀ d ∈ (ys.zip vs).map (fun z => dOf z.1), ∃ xs, d = .tuple xs) ∧ (∀ z ∈ ys.zip vs, (dOf z.1).depth ≤ 60) ∧
    RVs p H zs (((ys.zip vs).mergeSort (PySem.W.dataLe false fun z => dOf z.1)).map Prod.snd) := by
  obtain ⟨ds, e6, rfl, k1, k2, k3⟩ := sortD_some e5
  obtain ⟨d1, d2⟩ := toDs_eq e6
  obtain ⟨m1, m2, m3⟩ := rvs_zip r
  have md : (ys.zip vs).map (fun z => dOf z.1) = ds := by
    have e8 := congrArg (List.map dOf) m1
    rw [List.map_map] at e8
    rw [d1]; exact e8
  have hm : ∀ z ∈ ys.zip vs, z.1 ∈ ys := fun z hz => by rw [← m1]; exact List.mem_map.mpr ⟨z, hz, rfl⟩
  refine ⟨m2, fun z hz => ?_, by rw [md]; exact k1, by rw [md]; exact k2, fun z hz => k3 _ (by rw [← md]; exact List.mem_map.mpr ⟨z, hz, rfl⟩), ?_⟩
  · obtain ⟨d, hd⟩ := d2 _ (hm z hz)
    exact ⟨d, hd, dp_of _ _ _ (m3 z hz) hd⟩
  · have := rvs_maps (zs := (ys.zip vs).mergeSort (PySem.W.dataLe false fun z => dOf z.1)) (fun z hz => m3 z ((List.mergeSort_perm _ _).mem_iff.mp hz))
    have e9 : ((ys.zip vs).mergeSort (PySem.W.dataLe false fun z => dOf z.1)).map Prod.fst = ((ys.zip vs).map Prod.fst).mergeSort (PySem.W.dataLe false dOf) := List.map_mergeSort (fun _ _ _ _ => rfl)
    rw [e9, m1] at this
    exact this
end
section
variable {C : Cfg} {D : Fns} {k : Nat} {N : List Str} {sc : Scope} {X : Cx} {xv : XV} {W : WX} {pos : Pos}
theorem snd_sorted (A : At C D k N sc X xv W) {a : Py.A} {e : Expr} {q : Pos} (hx : blB C sc "sorted" = true) (ns : noStar [e] = true) (ha : AOk D X xv W a [e]) : PE X (.Call (.Name "sorted" q) [e] [] pos) (liftF X.K xv W (denF D (.fop .sorted a))) := by
  obtain ⟨_, ts, hp, hi⟩ := ha
  obtain ⟨g1, g2, g3, g4⟩ := A.blt hx
  obtain ⟨s1, s2⟩ := star_cons X.env ns
  refine PE.imp (pe_callB (CallR.or2 cr_sortedI (CallR.or2 (cr_sortedD A.units) (cr_sortedDT A.units))) g1 g3 (by decide +kernel) (hp.pa ns) g4 g2 s1 (noStar_any _ _ s2)) fun σ H Q h => ?_
  simp only [denF] at h
  refine hi σ H _ ((fop_src h).imp fun vs G ⟨p2, s2, xs, c, hK2, S2, rw2, e2, o2⟩ => ?_)
  simp only [opF] at e2
  obtain ⟨x, v, rfl, g1, e2⟩ := oneF_some rw2 e2
  unfold sortC at e2
  split at e2
  · rename_i ys
    obtain ⟨zs, e5, rfl⟩ := Option.map_eq_some_iff.mp e2
    obtain ⟨a1, vs, rfl, q, r⟩ := g1.tup
    obtain ⟨m2, c1, c2, c3, c4, c5⟩ := sort_core e5 r
    exact .inr (.inr ⟨a1, ys.zip vs, rfl, by rw [m2, ← hK2]; exact q, fun z hz => by rw [← hK2]; exact c1 z hz, c2, c3, c4, o2.lay S2 ⟨_, rfl, c5⟩⟩)
  · obtain ⟨ys, e3, e4⟩ := Option.bind_eq_some_iff.mp e2
    obtain ⟨a1, vs, rfl, q, r⟩ := g1.lsts e3
    split at e4
    · rename_i ns' e5
      simp only [Option.some.injEq] at e4; subst e4
      rw [ints_of e5] at r
      rw [RVs.of_ints r] at q
      refine .inl ⟨a1, ns', rfl, by rw [← hK2]; exact q, fun ms z h1 h2 h3 => ?_⟩
      have hs : ms = sortI ns' := sorted_unique (h1.trans (sortI_perm ns').symm) h2 (sortI_sorted ns')
      subst hs
      exact o2.lay S2 ⟨_, rfl, RVs.ints _⟩ z h3
    · obtain ⟨zs, e5, rfl⟩ := Option.map_eq_some_iff.mp e4
      obtain ⟨m2, c1, c2, c3, c4, c5⟩ := sort_core e5 r
      exact .inr (.inl ⟨a1, ys.zip vs, rfl, by rw [m2, ← hK2]; exact q, fun z hz => by rw [← hK2]; exact c1 z hz, c2, c3, c4, o2.lay S2 ⟨_, rfl, c5⟩⟩)
end
/-! ### the rule of sorted(xs, key=def) -/
theorem M_assoc {α β γ : Type} (m : M α) (f : α → M β) (g : β → M γ) (s : S) : ((m >>= f) >>= g) s = (m >>= fun x => f x >>= g) s := by
  simp only [bnd_eq]
  cases m s <;> rfl
theorem rvs_srtK {p : Pl} {H : Hp} {ys : List MV} {vs : List V} {ds : List PyData} (h : RVs p H ys vs) (hl : ds.length = vs.length) : RVs p H (((ys.zip ds).mergeSort (PySem.W.dataLe false Prod.snd)).map Prod.fst) (srtK vs ds) := by
  obtain ⟨m1, m2, m3⟩ := rvs_zip h
  have hy : vs.length = ys.length := h.len
  have a1 : ((ys.zip vs).zip ds).map (fun t => (t.1.1, t.2)) = ys.zip ds := by
    have := (List.zip_map_left (f := Prod.fst) (l₁ := ys.zip vs) (l₂ := ds))
    rw [m1] at this
    rw [this]
    exact List.map_congr_left fun x _ => rfl
  have a2 : ((ys.zip vs).zip ds).map (fun t => (t.1.2, t.2)) = vs.zip ds := by
    have := (List.zip_map_left (f := Prod.snd) (l₁ := ys.zip vs) (l₂ := ds))
    rw [m2] at this
    rw [this]
    exact List.map_congr_left fun x _ => rfl
  have e1 : (((ys.zip vs).zip ds).mergeSort (PySem.W.dataLe false Prod.snd)).map (fun t => (t.1.1, t.2)) = (ys.zip ds).mergeSort (PySem.W.dataLe false Prod.snd) := by
    rw [← a1]; exact List.map_mergeSort (fun _ _ _ _ => rfl)
  have e2 : (((ys.zip vs).zip ds).mergeSort (PySem.W.dataLe false Prod.snd)).map (fun t => (t.1.2, t.2)) = (vs.zip ds).mergeSort (PySem.W.dataLe false Prod.snd) := by
    rw [← a2]; exact List.map_mergeSort (fun _ _ _ _ => rfl)
  unfold srtK
  rw [← e1, ← e2, List.map_map, List.map_map]
  have key : ∀ T : List ((MV × V) × PyData), (∀ t ∈ T, RV p H t.1.1 t.1.2) → RVs p H (T.map (Prod.fst ∘ fun t => (t.1.1, t.2))) (T.map (Prod.fst ∘ fun t => (t.1.2, t.2))) := by
    intro T
    induction T with
    | nil => intro _; exact .nil
    | cons t T ih => intro h; exact .cons (h t List.mem_cons_self) (ih fun y hy => h y (List.mem_cons_of_mem _ hy))
  refine key _ fun t ht => ?_
  have ht2 := (List.mergeSort_perm _ _).mem_iff.mp ht
  exact m3 _ (List.of_mem_zip ht2).1
section
variable {C : Cfg} {D : Fns} {k : Nat} {N : List Str} {sc : Scope} {X : Cx} {xv : XV} {W : WX} {pos : Pos}
theorem keys_walk (xo : XvOk xv) {f : Nat} {σ : L2.St} : ∀ (ys : List MV) {vs : List V} {p : Pl} {s : S} {H : Hp} {ks : List MV} {s0 : S} {Qk : List V → Hp → Prop}, p.K = X.K → Sit p s σ H → RVs p H ys vs → keysM D f ys s = .ok ks s0 →
    (∀ vks p' H', Stp p H p' H' → Sit p' s0 σ H' → RVs p' H' ks vks → vks.length = vs.length → Qk vks H') → keysT (fun vs H Q => spF X.K xv D 1 f vs H Q E0) vs H Qk
  | [], vs, p, s, H, ks, s0, Qk, hK, S, r, e, h => by
    simp only [RVs] at r; subst r
    simp only [keysM, ret_eq] at e
    injection e with e1 e2
    subst e1 e2
    exact h [] p H (Stp.refl p H) S .nil rfl
  | x :: ys, vs, p, s, H, ks, s0, Qk, hK, S, r, e, h => by
    simp only [RVs] at r
    obtain ⟨v, r', rfl, h1, h2⟩ := r
    rw [keysM, bnd_eq] at e
    split at e
    · rename_i kx s1 e1
      rw [bnd_eq] at e
      split at e
      · rename_i ks' s2 e2
        simp only [ret_eq] at e
        injection e with e3 e4
        subst e3 e4
        show spF X.K xv D 1 f [v] H _ E0
        suffices hc : spF p.K xv D 1 f [v] H (fun k G => keysT (fun vs H Q => spF X.K xv D 1 f vs H Q E0) r' G fun ks J => Qk (k :: ks) J) E0 by rw [hK] at hc; exact hc
        refine call_out (W := fun _ _ _ _ => False) xo S (.cons h1 .nil) rfl ?_
        rw [e1]
        intro vk p1 H1 st1 S1 rk
        refine keys_walk xo ys (by rw [st1.K]; exact hK) S1 (RVs.keep S.hr st1 ys r' h2) e2 fun vks p' H' st' S' rks hl => ?_
        exact h (vk :: vks) p' H' (st1.trans st') S' (.cons (RV.keep S1.hr st' kx vk rk) rks) (by simp [hl])
      · cases e
      · cases e
    · cases e
    · cases e
theorem snd_sortKey (A : At C D k N sc X xv W) {f : Nat} {d : FI} {a : Py.A} {e : Expr} {y : Str} {q q2 kp : Pos} (hx : blB C sc "sorted" = true) (hd : C.fs[f]? = some d) (hy : d.nm = y) (hg : glB sc y = true) (h1 : d.ps.length = 1) (ns : noStar [e] = true) (ha : AOk D X xv W a [e]) :
    PE X (.Call (.Name "sorted" q) [e] [⟨some "key", .Name y q2, kp⟩] pos) (liftF X.K xv W (denF D (.sortK f a))) := by
  subst hy
  obtain ⟨_, ts, hp, hi⟩ := ha
  obtain ⟨g1, g2, g3, g4⟩ := A.blt hx
  obtain ⟨s1, s2⟩ := star_cons X.env ns
  obtain ⟨fa, fd, m1, m2, F, b1, _⟩ := A.fn f d hd
  obtain ⟨y1, y2⟩ := A.gl hg
  have hb : ∀ (s : Shared) (u : Value), X.K.In s.heap → BindsTo s fd ⟨[u], []⟩ (d.ps.zip [u]) := fun s u hK => by
    have := b1 s [u] [] hK (by rw [h1]; rfl) rfl
    rw [h1] at this
    exact this
  rw [h1] at F
  refine PE.imp (pe_callBK (cr_sortKey F.g A.gd A.rm2 hb A.units) g1 g3 (by decide +kernel) (hp.pa ns) (PEs.pk (kws := [⟨some "key", .Name d.nm q2, kp⟩]) (.cons (pe_glob y1 m1 (v := V.ref fa) rfl y2) .nil)) g4 g2 (by rw [s1]; rfl) (noStar_any _ _ ns)) fun σ H Q h => ?_
  simp only [denF] at h
  obtain ⟨p, s, hK, S, o⟩ := h
  refine hi σ H _ ⟨p, s, hK, S, OutF.bnd (r' := RSs σ) o fun zs s1 vs p1 H1 _ st1 S1 rv1 o1 => ?_⟩
  rw [bnd_eq] at o1
  cases es : snap zs s1 with
  | ok xs s2 =>
    obtain ⟨rfl, rw1⟩ := snap_ok S1 rv1 es
    rw [es] at o1
    obtain ⟨ys, e2, o2⟩ := lift?_outF o1
    unfold lstOne at e2
    split at e2
    · rename_i x
      obtain ⟨v, r, rfl, h2, h3⟩ := rw1
      have h3' : r = [] := h3
      subst h3'
      obtain ⟨a1, vl, rfl, sq, rl⟩ := h2.lsts e2
      have hK1 : p1.K = X.K := by rw [st1.K]; exact hK
      rw [bnd_eq] at o2
      cases ek : keysM D f ys s2 with
      | no => unfold noEx at o2; rw [ek] at o2; exact o2.elim
      | ex c us s3 => unfold noEx at o2; rw [ek] at o2; exact o2.elim
      | ok ks s3 =>
      have o' : OutF xv W p1 H1 σ Q ((lift? (sortK ys ks) >>= fun zs => pure (Cn.l zs)) s3) := by unfold noEx at o2; rw [ek] at o2; exact o2
      clear o2
      refine ⟨a1, vl, rfl, rfl, by rw [← hK1]; exact sq, keys_walk A.xo ys hK1 S1 rl ek fun vks p' H' st' S' rks hl => ?_⟩
      have o' := o'.mono st'
      obtain ⟨zs, e3, o3⟩ := lift?_outF o'
      obtain ⟨ds, e4, e5⟩ := Option.bind_eq_some_iff.mp e3
      split at e5
      · rename_i hok
        simp only [Option.some.injEq] at e5; subst e5
        obtain ⟨k1, k2, k3⟩ := okSort_of hok
        have hd := dps_of ks vks ds rks e4
        have hl2 : ds.length = vl.length := by rw [← dpAll_len hd, hl]
        exact ⟨ds, by rw [← hK1, ← st'.K]; exact hd, hl2, k1, k2, k3, o3.lay S' ⟨_, rfl, rvs_srtK (RVs.keep S1.hr st' ys vl rl) hl2⟩⟩
      · cases e5
    · cases e2
  | ex c vs s2 => exact absurd es (snap_nex zs)
  | no => rw [es] at o1; exact o1.elim
end
end Py

-- text PyPa
set_option Elab.async false
set_option linter.all false
set_option maxRecDepth 100000
set_option maxHeartbeats 4000000
/-! ### enumerate of a tuple -/
namespace PySem
open Sem (wp)
open AutoSeq1 (wpAny_loadPart')
section
variable {prog : Program} {w : World} {A : Around} {E : Value → Shared → Prop} {s : Shared}
theorem refNe (t : Addr) : ¬ (Value.ref t == Value.none) = true := fun z => Bool.false_ne_true z
theorem nx_tup_item {it t : Addr} {i : Nat} {items : Array Value} {x : Value} {Q : Value → Shared → Prop} (hit : s.heap.IsTupleIter it t i) (ht : s.heap.IsTuple t items) (hx : items[i]? = some x)
    (hQ : ∀ h', h'.IsTupleIter it t (i + 1) → Heap.SameBut it s.heap h' → Q x { s with heap := h' }) : wpAny (model prog w) A (Builtin.SmallTypes.nextOf (.ref it)) Q E s := by
  obtain ⟨o, ho, hc, hd⟩ := id hit
  obtain ⟨q, hq, _, m, hm⟩ := ht
  unfold Builtin.SmallTypes.nextOf
  refine wpAny_bind (wpAny_callSpecial?_slot (name := Str.ofString "__next__") hit.typeIs F.slot_tuple_iterator_next (wpAny_call_entry F.slot_tuple_iterator_next hit.typeIs F.entry_tuple_iterator_next ?_ (F.args_tuple_iterator_next_1 _)))
  (show wpAny _ _ (field (.ref it) 0 >>= _) _ _ s); refine wpAny_bind (wpAny_field ho hd (x := .ref t) rfl ?_)
  (show wpAny _ _ (if (Value.ref t == Value.none) = true then _ else _) _ _ s); rw [if_neg (refNe t)]
  (show wpAny _ _ (field (.ref it) 1 >>= _) _ _ s); refine wpAny_bind (wpAny_field ho hd (x := .int i 0) rfl ?_)
  (show wpAny _ _ (seqItems? (.ref t) >>= _) _ _ s); refine wpAny_bind (wpAny_seqItems hq hm ?_)
  simp only [Int.toNat_natCast, hx]
  refine wpAny_bind (wpAny_setField ho hd (by simp) (wpAny_pure ⟨x, rfl, wpAny_pure (hQ _ ⟨_, Heap.get?_update_self _ ho (Obj.isFreed_of_fields (Obj.data_mapFields hd _)), (Obj.cls_mapFields ..).trans hc, by rw [Obj.data_mapFields hd]; simp [rawInt]⟩ (Heap.SameBut.update ..))⟩))
theorem nx_tup_end {it t : Addr} {i : Nat} {items : Array Value} {Q : Value → Shared → Prop} (hh : A.handled = none) (hit : s.heap.IsTupleIter it t i) (ht : s.heap.IsTuple t items) (hx : items[i]? = none)
    (hE : ∀ h' e, Heap.ExtBut it s.heap h' → (∃ o, h'.get? e = some o ∧ o.cls = .type "StopIteration") → E (.ref e) { s with heap := h' }) : wpAny (model prog w) A (Builtin.SmallTypes.nextOf (.ref it)) Q E s := by
  obtain ⟨o, ho, hc, hd⟩ := id hit
  obtain ⟨q, hq, _, m, hm⟩ := ht
  unfold Builtin.SmallTypes.nextOf
  refine wpAny_bind (wpAny_callSpecial?_slot (name := Str.ofString "__next__") hit.typeIs F.slot_tuple_iterator_next (wpAny_call_entry F.slot_tuple_iterator_next hit.typeIs F.entry_tuple_iterator_next ?_ (F.args_tuple_iterator_next_1 _)))
  (show wpAny _ _ (field (.ref it) 0 >>= _) _ _ s); refine wpAny_bind (wpAny_field ho hd (x := .ref t) rfl ?_)
  (show wpAny _ _ (if (Value.ref t == Value.none) = true then _ else _) _ _ s); rw [if_neg (refNe t)]
  (show wpAny _ _ (field (.ref it) 1 >>= _) _ _ s); refine wpAny_bind (wpAny_field ho hd (x := .int i 0) rfl ?_)
  (show wpAny _ _ (seqItems? (.ref t) >>= _) _ _ s); refine wpAny_bind (wpAny_seqItems hq hm ?_)
  simp only [Int.toNat_natCast, hx]
  (refine wpAny_bind (wpAny_rule (wpAny_bind (wpAny_setField ho hd (by simp) ?_)))); show wpAny _ _ (newExc (.type "StopIteration") [] >>= _) _ _ _
  refine wpAny_bind ?_; simp only [newExc, newTuple]
  refine wpAny_bind (wpAny_newObj_type ?_ (by size_fits)); refine wpAny_bind (m := firstArgMember _ _) (wpAny_of_eq (a := Value.none) (by first | rfl | (simp only [firstArgMember]; rfl)) ?_)
  refine wpAny_newObj_type ?_ (by size_fits); simp only [raiseNew]; refine wpAny_bind (wpAny_handled ?_)
  first | rw [show A.in1.handled = none from hh] | rw [hh]
  refine wpAny_bind (wpAny_pure (wpAny_throw (hE _ _ (((Heap.SameBut.update ..).extBut.push _).push _) ⟨_, Heap.get?_push_size _ rfl, rfl⟩)))
theorem draws_tup {it t : Addr} {items : Array Value} (hh : A.handled = none) (hne : t ≠ it) : Draws prog w A it [it, t] items.size (fun i v => items[i]? = some v) (fun i h => h.IsTupleIter it t i ∧ h.IsTuple t items) where
  live := fun i h st => let ⟨⟨o, ho, _⟩, _⟩ := st; ⟨o, ho⟩
  frame := fun i h h' st k => by
    obtain ⟨⟨o, ho, r⟩, o2, ho2, r2⟩ := st
    exact ⟨⟨o, k it (by simp) o ho, r⟩, o2, k t (by simp) o2 ho2, r2⟩
  item := fun i s Q E hi st hQ => by
    have e : items[i]? = some items[i] := by simp [hi]
    exact nx_tup_item st.1 st.2 e fun h' a b => hQ _ h' s.toks e ⟨a, st.2.extBut b.extBut hne⟩ b
  done := fun s Q E st hE => nx_tup_end hh st.1 st.2 (by simp) hE
theorem meets_enumT (l : Addr) (items : Array Value) (n : Nat) (dct : Option Addr) (sl : Array (Option Value)) :
    Meets (Builtin.«enumerate.__new__» ⟨[.type "enumerate", .ref l], []⟩) (fun _ R s => s.heap.get? l = some { cls := .type "tuple", dict := dct, data := .seq items n, slots := sl } ∧
      R (.ok (.ret (.ref (s.heap.push { cls := .type "tuple_iterator", data := .fields #[.ref l, .int 0 0] }).objs.size)))
        { s with heap := (s.heap.push { cls := .type "tuple_iterator", data := .fields #[.ref l, .int 0 0] }).push { cls := .type "enumerate", data := .fields #[.none, .bool false, .ref s.heap.objs.size, rawInt 0, .none, .none] } }) :=
  .of_wp fun prog w A R s h => by
    obtain ⟨hp, g, d, tk, os⟩ := s; obtain ⟨hl, h⟩ := h; have hsub := sub_enumerate
    have hL : Heap.IsTuple (Shared.heap ⟨hp, g, d, tk, os⟩) l items := ⟨_, hl, rfl, n, rfl⟩
    wp_walk using wpAny_loadPart' hl
    refine wpAny_stack_any fun st => wpAny_pure ?_
    split
    · rename_i c _ _ _ _ _
      cases (c == Value.type "enumerate")
      · wp_walk using wpAny_loadPart' hl, wpAny_pyIter_tuple hL
        exact ⟨_, rfl, h⟩
      · wp_walk using wpAny_loadPart' hl, wpAny_pyIter_tuple hL
        exact ⟨_, rfl, h⟩
    · wp_walk using wpAny_loadPart' hl, wpAny_pyIter_tuple hL
      exact ⟨_, rfl, h⟩
theorem call_enumT {l : Addr} {items : Array Value} {Q : Value → Shared → Prop} (hL : s.heap.IsTuple l items)
    (h : ∀ h', IsEnum h' (s.heap.objs.size + 1) s.heap.objs.size 0 .none → h'.IsTupleIter s.heap.objs.size l 0 → (∀ b o, s.heap.get? b = some o → h'.get? b = some o) → Q (.ref (s.heap.objs.size + 1)) { s with heap := h' }) :
    wpAny (model prog w) A (call (.type "enumerate") [.ref l]) Q E s := by
  obtain ⟨⟨c, dct, dt, sl⟩, hl, hc, n, hd⟩ := hL
  obtain rfl : c = .type "tuple" := hc
  obtain rfl : dt = .seq items n := hd
  refine callType_new F.called_enumerate (by decide) (F.typeCall_enumerate_1 _) (F.newCall_enumerate_1 _) (fun obj => F.args_object_init_2 obj _) F.entry_enumerate_new (meets_enumT l items n dct sl) ⟨hl, ?_⟩
  have hz : (s.heap.push { cls := .type "tuple_iterator", data := .fields #[.ref l, .int 0 0] }).objs.size = s.heap.objs.size + 1 := Heap.size_push ..
  (show _ ∧ _); rw [hz]
  have he : IsEnum ((s.heap.push { cls := .type "tuple_iterator", data := .fields #[.ref l, .int 0 0] }).push { cls := .type "enumerate", data := .fields #[.none, .bool false, .ref s.heap.objs.size, rawInt 0, .none, .none] }) (s.heap.objs.size + 1) s.heap.objs.size 0 .none := by
    have := Heap.get?_push_size (s.heap.push { cls := .type "tuple_iterator", data := .fields #[.ref l, .int 0 0] }) (o := { cls := .type "enumerate", data := .fields #[.none, .bool false, .ref s.heap.objs.size, rawInt 0, .none, .none] }) rfl
    rw [hz] at this; exact this
  exact ⟨⟨_, he, rfl⟩, h _ he ⟨_, Heap.get?_push_of_some _ (Heap.get?_push_size _ rfl), rfl, rfl⟩ fun b o x => Heap.get?_push_of_some _ (Heap.get?_push_of_some _ x)⟩
end
end PySem
namespace Py
open PySem PySem.Spec PyProof.Rows L2
/-- the tuple at a, each item in a new pair with its place -/
def IteT (K : PySem.W.Frag) (a : Addr) : It :=
  ⟨fun i H => ∃ xs x, SqT K H a xs ∧ xs[i]? = some x, fun i H v H' => ∃ T x, v = .ref T ∧ H T = none ∧ H' = upd H T (.tup [.int (i : Nat), x]) ∧ ∀ xs, SqT K H a xs → xs[i]? = some x, fun i H => ∃ xs, SqT K H a xs ∧ xs.length ≤ i⟩
theorem tup_apart {h : Heap} {a b : Addr} {its : Array Value} {T : String} (p : IsTup h a its) (q : ∃ o, h.get? b = some o ∧ o.cls = .type T) (hT : ("tuple" == T) = false) : a ≠ b := fun z => by
  obtain ⟨o, e, c, _⟩ := p
  obtain ⟨o', e', c'⟩ := q
  rw [z, e'] at e
  cases e
  rw [c] at c'
  injection c' with c'
  rw [← c'] at hT
  simp at hT
theorem turn_enumT {P : Program} {w : World} {K : PySem.W.Frag} {elts : List Expr} {kk : Nat} {tpos : Pos} (a e it : Addr) :
    Turn P w K (.Tuple elts kk tpos) (IteT K a) [e, it] e (fun i h => (∃ old, IsEnum h e it ((i : Nat) : Int) old) ∧ h.IsTupleIter it a i ∧ e ≠ it) where
  mem := by simp
  obj := fun i h st b hb => by
    obtain ⟨⟨old, he⟩, ⟨o, ho, hc, hd⟩, _⟩ := st
    rcases (show b = e ∨ b = it by simpa using hb) with rfl | rfl
    · exact ⟨_, he, fun v q => nomatch q⟩
    · exact ⟨o, ho, fun v q => by rw [hd] at q; cases q⟩
  keep := fun i h h' st k => by
    obtain ⟨⟨old, he⟩, hi, hne⟩ := st
    exact ⟨⟨old, k e (by simp) _ he⟩, hi.at fun o q => k it (by simp) o q, hne⟩
  item := by
    intro X hP hw hK hc i pins s σ H E I hf st hg
    subst hP hw hK
    obtain ⟨⟨old, he⟩, hit, hne⟩ := st
    obtain ⟨xs, x, hq, hx⟩ := hg
    obtain ⟨its, rv, p, hz⟩ := I.tuple hq
    obtain ⟨u, hu, ru⟩ := rv.get hx
    have n1 : a ≠ it := tup_apart p (let ⟨o, ho, hc, _⟩ := hit; ⟨o, ho, hc⟩) (by decide)
    have n2 : a ≠ e := tup_apart (T := "enumerate") p ⟨_, he, rfl⟩ (by decide)
    have hel : e < s.heap.objs.size := Heap.lt_size he
    have hil : it < s.heap.objs.size := by obtain ⟨_, q, _⟩ := hit; exact Heap.lt_size q
    have hlt : i < its.toArray.size := by rw [List.size_toArray]; exact (List.getElem?_eq_some_iff.mp hu).1
    refine wpAny_pyNext_enum_itemD (draws_tup (A := X.A.in1) (I.ok.hd hc) n1) he ⟨hit, p⟩ hlt hne (by simp [hne, Ne.symm n2]) fun y h' tk hy ho hst hT hsz hk => ?_
    obtain rfl : y = u := by
      have : its[i]? = some y := by simpa using hy
      rw [hu] at this
      exact (Option.some.inj this).symm
    refine ⟨_, rfl, wpAny_letOwnedTupleGo_enum (s := { s with heap := h', toks := tk + 1 }) ho fun h2 he' sb => ?_⟩
    have hT2 : h2.get? s.heap.objs.size = some { cls := .type "tuple", data := .seq #[.int i tk, y] } := (sb.2 _ (Nat.ne_of_gt hel)).trans hT
    have new : ObjOk X.prog X.w (upd H s.heap.objs.size (.tup [.int (i : Nat), x])) h2 s.heap.objs.size (.tup [.int (i : Nat), x]) := ⟨by show 2 ≤ sizeLine; decide, [.int i tk, y], .cons ⟨_, rfl⟩ (.cons ru .nil), ⟨_, hT2, rfl, _, rfl⟩⟩
    have I1 : Inv X pins σ (upd H s.heap.objs.size (.tup [.int (i : Nat), x])) { s with heap := h2, toks := tk + 1 } :=
      I.turnedNew (ch := [e, it]) (fun b ob hb q => (sb.2 b (fun z => hb (by simp [z]))).trans (hk b ob (fun z => hb (by simp [z])) (fun z => hb (by simp [z])) q)) hf (Nat.le_refl _) new
    refine ⟨.ref s.heap.objs.size, _, I1, rfl, ⟨_, x, rfl, I.hok.fresh (Nat.le_refl _), rfl, fun ys hy => by rw [I.tuple_inj hy hq]; exact hx⟩, ⟨⟨y, ?_⟩, hst.1.at fun o q => (sb.2 it (Ne.symm hne)).trans q, hne⟩, fun b hb => ?_⟩
    · rw [show ((i + 1 : Nat) : Int) = (i : Int) + 1 by omega]; exact he'
    · have hb' : b < s.heap.objs.size := by rcases (show b = e ∨ b = it by simpa using hb) with rfl | rfl <;> assumption
      rw [upd_ne (Nat.ne_of_lt hb')]
      exact (hf b hb).1
  done := by
    intro X hP hw hK hc i pins s σ H E I hf st hg
    subst hP hw hK
    obtain ⟨⟨old, he⟩, hit, hne⟩ := st
    obtain ⟨xs, hq, hx⟩ := hg
    obtain ⟨its, rv, p, hz⟩ := I.tuple hq
    obtain ⟨f0, f1, f2, f3, f4, f5⟩ := hf it (by simp)
    have hl := rv.length
    have hT : s.TypeIs (.ref e) "enumerate" := ⟨_, he, rfl⟩
    unfold pyNext
    refine wpAny_bind (wpAny_attempt (wpAny_callSpecial?_slot (name := Str.ofString "__next__") hT F.slot_enumerate_next (wpAny_call_entry F.slot_enumerate_next hT F.entry_enumerate_next ?_ (F.args_enumerate_next_1 _))))
    (show wpAny _ _ (field (.ref e) 2 >>= _) _ _ _); refine wpAny_bind (wpAny_field he rfl (x := .ref it) rfl ?_)
    refine wpAny_bind (nx_tup_end (items := its.toArray) (A := X.A.in1) (I.ok.hd hc) hit p (by simp; omega) fun h' x he' hx' => ?_)
    obtain ⟨o, ho, hc'⟩ := hx'
    refine wpAny_bind (wpAny_isInstance (T := "StopIteration") (b := true) ⟨o, ho, hc'⟩ isSubtype_stop ?_)
    exact wpAny_pure ⟨rfl, I.turned (t' := s.toks) (fun b o hb q => he' b o hb q) f0 f1 f3 f4 f5⟩
  self := fun A i s Q E st h => let ⟨⟨_, he⟩, _⟩ := st; wpAny_pyIter_enum he h
def iEnum2 (K : PySem.W.Frag) (ta : TA) : TI := fun σ H R => ta σ H fun vs H1 => ∃ a xs, vs = [.ref a] ∧ ((SqL K H1 a xs ∧ R (Ite K a) H1) ∨ (SqT K H1 a xs ∧ R (IteT K a) H1))
theorem pi_enum2 {X : Cx} {e : Expr} {ta : TA} {p pos tpos : Pos} {elts : List Expr} {kk : Nat} (hg : Gl X "enumerate") (hm : X.mg "enumerate" = none) (ha : PA X [e] ta) (hs : starEach [e] X.env = [(false, eval e X.env)]) :
    PI X (.Tuple elts kk tpos) (.Call (.Name "enumerate" p) [e] [] pos) (iEnum2 X.K ta) := by
  refine ⟨fun pins s σ H R I h => ?_⟩
  refine Call_ (ld_blt I hg hm boot_enumerate (PyProof.Rows.callWith_type1 (thn (ha.run pos pins s σ H _ I h) fun us s1 ⟨vs, H1, I1, r1, q1⟩ => ?_) hs rfl))
  obtain ⟨a, xs, rfl, q⟩ := q1
  rw [Vals.ref1 r1]
  have hle : ∀ b, b = s1.heap.objs.size + 1 ∨ b = s1.heap.objs.size → s1.heap.objs.size ≤ b := fun b z => by rcases z with rfl | rfl <;> omega
  rcases q with ⟨hq, q⟩ | ⟨hq, q⟩
  · obtain ⟨its, rv, p', hz⟩ := I1.list hq
    refine call_enumerate_list p'.isList fun h' he hit hsz hk => wpAny_pyIter_enum he ?_
    refine ⟨s1.heap.objs.size + 1, [s1.heap.objs.size + 1, s1.heap.objs.size], _, _, H1, rfl, I1.kept (t' := s1.toks) hk, turn_enum a (s1.heap.objs.size + 1) s1.heap.objs.size, ⟨⟨.none, he⟩, hit, Nat.succ_ne_self _⟩, fun b hb => ?_, q⟩
    have := hle b (by simpa using hb)
    exact I1.fpOk this (I1.hok.fresh this)
  · obtain ⟨its, rv, p', hz⟩ := I1.tuple hq
    refine call_enumT (items := its.toArray) p' fun h' he hit hk => wpAny_pyIter_enum he ?_
    refine ⟨s1.heap.objs.size + 1, [s1.heap.objs.size + 1, s1.heap.objs.size], _, _, H1, rfl, I1.kept (t' := s1.toks) hk, turn_enumT a (s1.heap.objs.size + 1) s1.heap.objs.size, ⟨⟨.none, he⟩, hit, Nat.succ_ne_self _⟩, fun b hb => ?_, q⟩
    have := hle b (by simpa using hb)
    exact I1.fpOk this (I1.hok.fresh this)
theorem walk_enumT {K : PySem.W.Frag} {a : Addr} {xs : List V} : Walk (IteT K a) xs.length (fun H => SqT K H a xs) (YPair (fun i => some (.int (i : Nat))) (fun i => xs[i]?)) := by
  refine ⟨fun i _ hi q => ⟨xs, xs[i], q, by simp [hi]⟩, fun _ q => ⟨xs, q, Nat.le_refl _⟩, fun i H v H' _ q y => ?_⟩
  obtain ⟨T, x, h1, h2, h3, h4⟩ := y
  exact ⟨T, .int (i : Nat), x, h1, h2, h3, rfl, h4 xs q⟩
/-! ### xs.extend(tuple) -/
theorem extT_meets (l : Addr) (items : Array Value) (n : Nat) (b : Addr) (items2 : Array Value) (n2 : Nat) (dct : Option Addr) (sl : Array (Option Value)) (h0 : ¬(!items.isEmpty && Builtin.List.listTooLong (items.size + items2.size)) = true) (h1 : items.size ≤ sizeLine) (h2 : items.size + items2.size ≤ sizeLine + 1) :
    Meets (Builtin.«list.extend» ⟨[.ref l, .ref b], []⟩) (fun _ R s => s.heap.get? l = some { cls := .type "list", dict := none, data := .seq items n, slots := #[] } ∧ s.heap.get? b = some { cls := .type "tuple", dict := dct, data := .seq items2 n2, slots := sl } ∧ R (.ok (.ret Value.none)) { s with heap := s.heap.update l (Obj.mapSeq fun x => x ++ items2), toks := s.toks }) :=
  .of_wp fun prog w A R s h => by
    obtain ⟨hp, g, d, tk, os⟩ := s; obtain ⟨hl, hb, h⟩ := h; have f1 := AutoSeq1.idx_int; have f2 := AutoSeq1.sub_tuple_tuple; have f3 := AutoSeq1.sub_list_list; have f4 := AutoSeq1.sub_tuple_list; have f5 := AutoSeq1.sub_list_tuple
    have hz' : (items ++ items2).size ≤ sizeLine + 1 := by rw [Array.size_append]; exact h2
    wp_walk using (wpAny_updateSeq hl rfl (hz := h1) (_hz' := hz')), AutoSeq1.wpAny_loadPart' hl, AutoSeq1.wpAny_loadPart' hb
    exact ⟨_, rfl, h⟩
def rExtend2 (K : PySem.W.Frag) : V → List V → Hp → VK → Prop := fun x vs H Q => ∃ l b xs zs, x = .ref l ∧ vs = [.ref b] ∧ H l = some (.lst xs) ∧ (H b = some (.lst zs) ∨ SqT K H b zs) ∧ xs.length + zs.length ≤ sizeLine ∧ Q .non (upd H l (.lst (xs ++ zs)))
theorem mt_extend2 {X : Cx} : MtM X "list.extend" (rExtend2 X.K) := by
  intro pins s σ H x vs v us Q I rx rv h
  obtain ⟨l, b, xs, zs, rfl, rfl, hH, hB, hz, q⟩ := h
  rcases hB with hB | hB
  · exact mt_extend pins s σ H _ _ v us Q I rx rv ⟨l, b, xs, zs, rfl, rfl, hH, hB, hz, q⟩
  cases rx
  obtain ⟨u, rfl, ru⟩ := rv.one
  cases ru
  obtain ⟨z, its, n, r, hl, e⟩ := I.lstM hH
  obtain ⟨its2, r2, ⟨⟨c, dct, dt, sl⟩, e2, hc, n2, hd⟩, z2⟩ := I.tuple hB
  obtain rfl : c = .type "tuple" := hc
  obtain rfl : dt = .seq its2.toArray n2 := hd
  have l2 : zs.length = its2.length := r2.length
  have hsz : its.toArray.size + its2.toArray.size ≤ sizeLine := by rw [List.size_toArray, List.size_toArray]; omega
  have hlong : ¬ (!its.toArray.isEmpty && Builtin.List.listTooLong (its.toArray.size + its2.toArray.size)) = true := by
    rw [notLongL hsz, Bool.and_false]
    exact Bool.false_ne_true
  refine call_meets F.slot_list_extend ⟨_, e, rfl⟩ F.entry_list_extend (F.args_list_extend_2 _ _) (extT_meets l its.toArray n b its2.toArray n2 dct sl hlong (by rw [List.size_toArray]; omega) (by omega)) ⟨e, e2, ?_⟩
  exact ⟨.non, _, I.lset (its' := its ++ its2) hH e (by simp) (r.append r2) (by rw [List.length_append]; omega), rfl, q⟩
end Py

-- text PyO
set_option Elab.async false
set_option linter.all false
set_option maxRecDepth 100000
set_option maxHeartbeats 4000000
namespace Py
open PySem PySem.Spec PyProof.Rows L2
section
variable {C : Cfg} {D : Fns} {k : Nat} {N : List Str} {sc : Scope} {X : Cx} {xv : XV} {W : WX} {pos apos q : Pos}
/-! ### methods of a name's own list -/
section
variable {p p' : Pl} {s : S} {σ : L2.St} {H : Hp} {Q : VK} {i : Nat} {c d : Cn} {a : Addr}
theorem getO_out {α β : Type} {r : Pl → Hp → α → β → Prop} {Q : β → Hp → Prop} {f : Cn → M α} (o : Out r xv W p H σ Q ((getO i >>= f) s)) : ∃ c, s.env[i]? = some (some (.o c)) ∧ Out r xv W p H σ Q (f c s) := by
  rw [bnd_eq] at o
  cases e : getO i s with
  | ok c s' => obtain ⟨rfl, hc⟩ := getO_some e; rw [e] at o; exact ⟨c, hc, o⟩
  | ex n vs s' => exact absurd e getO_nex
  | no => rw [e] at o; exact o.elim
theorem getC_out {α β : Type} {r : Pl → Hp → α → β → Prop} {Q : β → Hp → Prop} {n : Nat} {f : Cn → M α} (o : Out r xv W p H σ Q ((getC n >>= f) s)) : ∃ l c, s.mh = some l ∧ l[n]? = some c ∧ Out r xv W p H σ Q (f c s) := by
  rw [bnd_eq] at o
  cases e : getC n s with
  | ok c s' =>
    rw [e] at o
    unfold getC at e
    split at e
    · rename_i l hl
      split at e
      · rename_i c' hc
        injection e with e1 e2
        subst e1; subst e2
        exact ⟨l, _, hl, hc, o⟩
      · cases e
    · cases e
  | ex n vs s' => exact absurd e getC_nex
  | no => rw [e] at o; exact o.elim
theorem lC_some {c : Cn} {x : Unit} (e : lC c = some x) : ∃ xs, c = .l xs := by
  cases c <;> simp only [lC, reduceCtorEq] at e
  exact ⟨_, rfl⟩
theorem own_list {xs : List MV} (S : Sit p s σ H) (e : s.env[i]? = some (some (.o (.l xs)))) : ∃ a vs, σ[i]? = some (some (.ref a)) ∧ H a = some (.lst vs) ∧ RVs p H xs vs := by
  obtain ⟨a, u, h1, h2, h3, vs, rfl, r⟩ := S.own i _ e
  exact ⟨a, vs, h1, h3, r⟩
theorem RVs.last {xs : List MV} {vs : List V} {x : MV} (h : RVs p H xs vs) (e : xs.getLast? = some x) : ∃ v, vs[vs.length - 1]? = some v ∧ RV p H x v := by
  rw [List.getLast?_eq_getElem?] at e
  obtain ⟨v, h1, h2⟩ := h.get' e
  exact ⟨v, by rw [h.len]; exact h1, h2⟩
theorem RVs.dropLast {xs : List MV} {vs : List V} (h : RVs p H xs vs) : RVs p H xs.dropLast vs.dropLast := by
  rw [List.dropLast_eq_take, List.dropLast_eq_take, h.len]
  exact h.take _
theorem RVs.erase : ∀ {xs : List MV} {vs : List V} (j : Nat), RVs p H xs vs → RVs p H (xs.eraseIdx j) (vs.eraseIdx j)
  | [], vs, j, h => by simp only [RVs] at h; subst h; simp [RVs]
  | x :: xs, vs, 0, h => by simp only [RVs] at h; obtain ⟨v, r, rfl, _, h2⟩ := h; simpa using h2
  | x :: xs, vs, j + 1, h => by
    simp only [RVs] at h; obtain ⟨v, r, rfl, h1, h2⟩ := h
    simp only [List.eraseIdx_cons_succ]
    exact .cons h1 (RVs.erase j h2)
/-- what is handed back, behind the change of a name's own thing -/
theorem put_end {u : HO} {y : MV} {v : V} (S : Sit p s σ H) (e : s.env[i]? = some (some (.o c))) (ha : σ[i]? = some (some (.ref a))) (rc : RC p H d u) (rv : RV p H y v)
    (o : Out rE xv W p H σ Q ((do setSl i (some (.o d)); pure y : M MV) s)) : Q v (upd H a u) := by
  obtain ⟨h1, h2, h3⟩ := S.put e ha rc.isMut rc
  exact o v p (upd H a u) h2 h3 (rv.keep S.hr h2)
theorem putC_end {u : HO} {y : MV} {v : V} {l : List Cn} {n : Nat} (S : Sit p s σ H) (hm : s.mh = some l) (ha : p.ρ[n]? = some a) (hn : n < l.length) (rc : RC p H d u) (rv : RV p H y v)
    (o : Out rE xv W p H σ Q ((do setC n d; pure y : M MV) s)) : Q v (upd H a u) := by
  obtain ⟨h2, h3⟩ := S.putC hm ha hn rc.isMut rc
  rw [bnd_eq] at o
  simp only [setC, hm] at o
  exact o v p (upd H a u) h2 h3 (rv.keep S.hr h2)
end
theorem few1 {e : Expr} (ns : noStar [e] = true) (pos : Pos) (env : PySem.Env) : (((((backTo pos (starEach [e] env)).all fun x => !x.fst) && (backToKw pos (keywordEach [] env)).all fun x => x.fst.isSome) &&
    decide (([e].length + ([] : List Keyword).length + if ([] : List Keyword).isEmpty = true then 0 else 1) < 30)) = true) := by
  obtain ⟨h1, _⟩ := star_cons env ns
  rw [h1]; rfl
theorem name_base {x m : Str} {q : Pos} {env : PySem.Env} : attributeBase (.Name x q) m env (eval (.Name x q) env) = eval (.Name x q) env := rfl
theorem snd_pop (A : At C D k N sc X xv W) {i : Nat} {x : Str} (h : nmB N sc i x = true) (hl : (apos.endLine == pos.line) = true) : PE X (.Call (.Attribute (.Name x q) "pop" apos) [] [] pos) (lift rE X.K xv W (denE D (.pop i))) := by
  obtain ⟨h1, h2, h3, h4⟩ := A.nm h
  refine PE.imp (pe_bm0 PySem.F.plainAttrs_list PySem.F.slot_list_pop PySem.F.type_list_pop mt_pop (pe_var h1 h2 h3 h4) rfl hl) fun σ H Q ⟨p, s, hK, S, o⟩ => ?_
  simp only [denE] at o
  obtain ⟨c, hc, o1⟩ := getO_out o
  obtain ⟨⟨y, d⟩, e, o2⟩ := lift?_out o1
  cases c with
  | l xs =>
    obtain ⟨a, vs, k1, k2, r⟩ := own_list S hc
    simp only [popV] at e
    split at e
    · rename_i z hz
      simp only [Option.some.injEq, Prod.mk.injEq] at e
      obtain ⟨rfl, rfl⟩ := e
      obtain ⟨v, g1, g2⟩ := r.last hz
      refine ⟨.ref a, k1, .inl ⟨rfl, vs, SqL.of k2⟩, a, vs, v, rfl, rfl, k2, g1, ?_⟩
      exact put_end (d := .l xs.dropLast) S hc k1 ⟨_, rfl, r.dropLast⟩ g2 o2
    · cases e
  | k kvs => cases e
  | t kvs => cases e
theorem popi_some {c : Cn} {k : MV} {r : MV × Cn} (e : popiV c k = some r) : ∃ xs i j, c = .l xs ∧ k = .int i ∧ ixN xs.length i = some j ∧ -(2 ^ 63) ≤ i ∧ i < 2 ^ 63 ∧ xs[j]? = some r.1 ∧ r.2 = .l (xs.eraseIdx j) := by
  unfold popiV at e
  split at e
  · rename_i xs i
    obtain ⟨j, e1, e2⟩ := Option.bind_eq_some_iff.mp e
    split at e2
    · rename_i hr
      obtain ⟨x, e3, rfl⟩ := Option.map_eq_some_iff.mp e2
      exact ⟨xs, i, j, rfl, rfl, e1, hr.1, hr.2, e3, rfl⟩
    · cases e2
  · cases e
theorem snd_popi (A : At C D k N sc X xv W) {i : Nat} {x : Str} {ex : Expr} {e : E} (h : nmB N sc i x = true) (hl : (apos.endLine == pos.line) = true) (ns : noStar [ex] = true) (he : PE X ex (lift rE X.K xv W (denE D e))) :
    PE X (.Call (.Attribute (.Name x q) "pop" apos) [ex] [] pos) (lift rE X.K xv W (denE D (.popi i e))) := by
  obtain ⟨h1, h2, h3, h4⟩ := A.nm h
  obtain ⟨s1, s2⟩ := star_cons X.env ns
  refine PE.imp (pe_bm PySem.F.plainAttrs_list PySem.F.slot_list_pop PySem.F.type_list_pop mt_popAt (pe_var h1 h2 h3 h4) (pa_cons he pa_nil s1) rfl (few1 ns _ _) hl s1 (noStar_any _ _ s2)) fun σ H Q ⟨p, s, hK, S, o⟩ => ?_
  simp only [denE] at o
  obtain ⟨c₀, hc₀, o⟩ := getO_out o
  obtain ⟨_, e0, o⟩ := lift?_out o
  obtain ⟨xs₀, rfl⟩ := lC_some e0
  obtain ⟨a, vs₀, k1, k2, _⟩ := own_list S hc₀
  refine ⟨.ref a, k1, .inl ⟨rfl, vs₀, SqL.of k2⟩, p, s, hK, S, Out.bnd (r' := rE) o fun y s1 v p1 H1 _ st1 S1 rv1 o1 => ?_⟩
  obtain ⟨c, hc, o2⟩ := getO_out o1
  obtain ⟨r, e2, o3⟩ := lift?_out o2
  obtain ⟨xs, n, j, rfl, rfl, e3, b1, b2, e4, e5⟩ := popi_some e2
  obtain ⟨a', vs, k1', k2', rv⟩ := own_list S1 hc
  have : a' = a := by rw [k1] at k1'; injection k1' with z; injection z with z; injection z with z; exact z.symm
  subst this
  have hv : v = .int n := by simpa [RV] using rv1
  subst hv
  obtain ⟨w, g1, g2⟩ := rv.get' e4
  have ix := ixN_seq e3
  refine ⟨a', vs, n, j, w, rfl, rfl, k2', b1, b2, by rw [rv.len]; exact ix.1, g1, ?_⟩
  rw [e5] at o3
  exact put_end (d := .l (xs.eraseIdx j)) S1 hc k1' ⟨_, rfl, rv.erase j⟩ g2 o3
theorem app_some {c d : Cn} {x : MV} (e : appV c x = some d) : ∃ xs, c = .l xs ∧ xs.length < sizeLine ∧ d = .l (xs ++ [x]) := by
  unfold appV at e
  split at e
  · split at e
    · rename_i h; simp only [Option.some.injEq] at e; exact ⟨_, rfl, h, e.symm⟩
    · cases e
  · cases e
theorem snd_app (A : At C D k N sc X xv W) {i : Nat} {x : Str} {ex : Expr} {e : E} (h : nmB N sc i x = true) (hl : (apos.endLine == pos.line) = true) (ns : noStar [ex] = true) (he : PE X ex (lift rE X.K xv W (denE D e))) :
    PE X (.Call (.Attribute (.Name x q) "append" apos) [ex] [] pos) (lift rE X.K xv W (denE D (.app i e))) := by
  obtain ⟨h1, h2, h3, h4⟩ := A.nm h
  obtain ⟨s1, s2⟩ := star_cons X.env ns
  refine PE.imp (pe_bm PySem.F.plainAttrs_list PySem.F.slot_list_append PySem.F.type_list_append mt_append (pe_var h1 h2 h3 h4) (pa_cons he pa_nil s1) rfl (few1 ns _ _) hl s1 (noStar_any _ _ s2)) fun σ H Q ⟨p, s, hK, S, o⟩ => ?_
  simp only [denE] at o
  obtain ⟨c₀, hc₀, o⟩ := getO_out o
  obtain ⟨_, e0, o⟩ := lift?_out o
  obtain ⟨xs₀, rfl⟩ := lC_some e0
  obtain ⟨a, vs₀, k1, k2, _⟩ := own_list S hc₀
  refine ⟨.ref a, k1, .inl ⟨rfl, vs₀, SqL.of k2⟩, p, s, hK, S, Out.bnd (r' := rE) o fun y s1 v p1 H1 _ st1 S1 rv1 o1 => ?_⟩
  obtain ⟨c, hc, o2⟩ := getO_out o1
  obtain ⟨d, e2, o3⟩ := lift?_out o2
  obtain ⟨xs, rfl, hz, rfl⟩ := app_some e2
  obtain ⟨a', vs, k1', k2', rv⟩ := own_list S1 hc
  have : a' = a := by rw [k1] at k1'; injection k1' with z; injection z with z; injection z with z; exact z.symm
  subst this
  exact ⟨a', vs, v, rfl, rfl, k2', by rw [rv.len]; exact hz, put_end (y := .non) (v := .non) (d := .l (xs ++ [y])) S1 hc k1' ⟨_, rfl, rv.app (.one rv1)⟩ (by simp [RV]) o3⟩
theorem ext_some {c d : Cn} {x : MV} (e : extV c x = some d) : ∃ xs ys, c = .l xs ∧ (x = .lst ys ∨ x = .tup ys) ∧ xs.length + ys.length ≤ sizeLine ∧ d = .l (xs ++ ys) := by
  cases c <;> cases x <;> simp only [extV, reduceCtorEq] at e
  · rename_i xs ys
    split at e
    · rename_i h
      cases e
      exact ⟨xs, ys, rfl, .inr rfl, h, rfl⟩
    · cases e
  · rename_i xs ys
    split at e
    · rename_i h
      cases e
      exact ⟨xs, ys, rfl, .inl rfl, h, rfl⟩
    · cases e
theorem snd_ext (A : At C D k N sc X xv W) {i : Nat} {x : Str} {ex : Expr} {e : E} (h : nmB N sc i x = true) (hl : (apos.endLine == pos.line) = true) (ns : noStar [ex] = true) (he : PE X ex (lift rE X.K xv W (denE D e))) :
    PE X (.Call (.Attribute (.Name x q) "extend" apos) [ex] [] pos) (lift rE X.K xv W (denE D (.ext i e))) := by
  obtain ⟨h1, h2, h3, h4⟩ := A.nm h
  obtain ⟨s1, s2⟩ := star_cons X.env ns
  refine PE.imp (pe_bm PySem.F.plainAttrs_list PySem.F.slot_list_extend PySem.F.type_list_extend mt_extend2 (pe_var h1 h2 h3 h4) (pa_cons he pa_nil s1) rfl (few1 ns _ _) hl s1 (noStar_any _ _ s2)) fun σ H Q ⟨p, s, hK, S, o⟩ => ?_
  simp only [denE] at o
  obtain ⟨c₀, hc₀, o⟩ := getO_out o
  obtain ⟨_, e0, o⟩ := lift?_out o
  obtain ⟨xs₀, rfl⟩ := lC_some e0
  obtain ⟨a, vs₀, k1, k2, _⟩ := own_list S hc₀
  refine ⟨.ref a, k1, .inl ⟨rfl, vs₀, SqL.of k2⟩, p, s, hK, S, Out.bnd (r' := rE) o fun y s1 v p1 H1 _ st1 S1 rv1 o1 => ?_⟩
  obtain ⟨c, hc, o2⟩ := getO_out o1
  obtain ⟨d, e2, o3⟩ := lift?_out o2
  obtain ⟨xs, ys, rfl, hy, hz, rfl⟩ := ext_some e2
  obtain ⟨a', vs, k1', k2', rv⟩ := own_list S1 hc
  have : a' = a := by rw [k1] at k1'; injection k1' with z; injection z with z; injection z with z; exact z.symm
  subst this
  have hb : ∃ b ws, v = .ref b ∧ (H1 b = some (.lst ws) ∨ SqT X.K H1 b ws) ∧ RVs p1 H1 ys ws := by
    rcases hy with rfl | rfl
    · simp only [RV] at rv1
      obtain ⟨b, ws, rfl, im, rw1⟩ := rv1
      exact ⟨b, ws, rfl, .inl im.1, rw1⟩
    · simp only [RV] at rv1
      obtain ⟨b, ws, rfl, sq, rw1⟩ := rv1
      exact ⟨b, ws, rfl, .inr (SqT.of sq), rw1⟩
  obtain ⟨b, ws, rfl, im, rw1⟩ := hb
  exact ⟨a', b, vs, ws, rfl, rfl, k2', im, by rw [rv.len, rw1.len]; exact hz, put_end (y := .non) (v := .non) (d := .l (xs ++ ys)) S1 hc k1' ⟨_, rfl, rv.app rw1⟩ (by simp [RV]) o3⟩
/-! ### methods of a cell's list -/
theorem refN_some {x : MV} {n : Nat} (e : refN x = some n) : x = .ref n := by
  cases x <;> simp only [refN, Option.some.injEq, reduceCtorEq] at e
  rw [e]
theorem cell_at {p : Pl} {s : S} {σ : L2.St} {H : Hp} {n : Nat} {v : V} {l : List Cn} {c : Cn} (S : Sit p s σ H) (rv : RV p H (.ref n) v) (hm : s.mh = some l) (hc : l[n]? = some c) : ∃ a u, v = .ref a ∧ p.ρ[n]? = some a ∧ H a = some u ∧ RC p H c u ∧ n < l.length := by
  simp only [RV] at rv
  obtain ⟨a, rfl, ha⟩ := rv
  obtain ⟨u, hu, rc⟩ := S.hr.at_ l n a c hm ha hc
  exact ⟨a, u, rfl, ha, hu, rc, (List.getElem?_eq_some_iff.mp hc).1⟩
theorem snd_popc {o' : Expr} {e : E} {m : Str} (hm' : m = "pop") (hb : attributeBase o' m X.env (eval o' X.env) = eval o' X.env) (hl : (apos.endLine == pos.line) = true) (he : PE X o' (lift rE X.K xv W (denE D e))) :
    PE X (.Call (.Attribute o' m apos) [] [] pos) (lift rE X.K xv W (denE D (.popc e))) := by
  subst hm'
  refine PE.imp (pe_bm0 PySem.F.plainAttrs_list PySem.F.slot_list_pop PySem.F.type_list_pop mt_pop he hb hl) fun σ H Q ⟨p, s, hK, S, o⟩ => ?_
  simp only [denE] at o
  refine ⟨p, s, hK, S, Out.bnd (r' := rE) o fun x s1 v p1 H1 _ st1 S1 rv1 o1 => ?_⟩
  obtain ⟨n, e1, o2⟩ := lift?_out o1
  have := refN_some e1
  subst this
  obtain ⟨l, c, hm, hc, o3⟩ := getC_out o2
  obtain ⟨⟨y, d⟩, e2, o4⟩ := lift?_out o3
  obtain ⟨a, u, rfl, ha, hu, rc, hn⟩ := cell_at S1 rv1 hm hc
  cases c with
  | l xs =>
    obtain ⟨vs, rfl, r⟩ := rc
    simp only [popV] at e2
    split at e2
    · rename_i z hz
      simp only [Option.some.injEq, Prod.mk.injEq] at e2
      obtain ⟨rfl, rfl⟩ := e2
      obtain ⟨w, g1, g2⟩ := r.last hz
      exact ⟨.inl ⟨rfl, vs, SqL.of hu⟩, a, vs, w, rfl, rfl, hu, g1, putC_end (d := .l xs.dropLast) S1 hm ha hn ⟨_, rfl, r.dropLast⟩ g2 o4⟩
    · cases e2
  | k kvs => cases e2
  | t kvs => cases e2
theorem snd_appc {o' ex : Expr} {e f : E} {m : Str} (hm' : m = "append") (hb : attributeBase o' m X.env (eval o' X.env) = eval o' X.env) (hl : (apos.endLine == pos.line) = true) (ns : noStar [ex] = true)
    (he : PE X o' (lift rE X.K xv W (denE D e))) (hf : PE X ex (lift rE X.K xv W (denE D f))) : PE X (.Call (.Attribute o' m apos) [ex] [] pos) (lift rE X.K xv W (denE D (.appc e f))) := by
  subst hm'
  obtain ⟨s1, s2⟩ := star_cons X.env ns
  refine PE.imp (pe_bm PySem.F.plainAttrs_list PySem.F.slot_list_append PySem.F.type_list_append mt_append he (pa_cons hf pa_nil s1) hb (few1 ns _ _) hl s1 (noStar_any _ _ s2)) fun σ H Q ⟨p, s, hK, S, o⟩ => ?_
  simp only [denE] at o
  refine ⟨p, s, hK, S, Out.bnd (r' := rE) o fun x s1 v p1 H1 _ st1 S1 rv1 o1 => ?_⟩
  obtain ⟨n, e1, o2⟩ := lift?_out o1
  have := refN_some e1
  subst this
  obtain ⟨l, c, hm, hc, o3⟩ := getC_out o2
  obtain ⟨_, e0, o3⟩ := lift?_out o3
  obtain ⟨xs₀, rfl⟩ := lC_some e0
  obtain ⟨a, u, rfl, ha, hu, ⟨vs₀, rfl, r₀⟩, hn⟩ := cell_at S1 rv1 hm hc
  refine ⟨.inl ⟨rfl, vs₀, SqL.of hu⟩, p1, s1, by rw [st1.K]; exact hK, S1, Out.bnd (r' := rE) o3 fun y s2 v2 p2 H2 _ st2 S2 rv2 o4 => ?_⟩
  obtain ⟨l2, c2, hm2, hc2, o5⟩ := getC_out o4
  obtain ⟨d, e2, o6⟩ := lift?_out o5
  obtain ⟨xs, rfl, hz, rfl⟩ := app_some e2
  obtain ⟨a2, u2, ea, ha2, hu2, ⟨vs, rfl, r⟩, hn2⟩ := cell_at S2 (rv1.keep S1.hr st2) hm2 hc2
  cases ea
  exact ⟨a, vs, v2, rfl, rfl, hu2, by rw [r.len]; exact hz, putC_end (d := .l (xs ++ [y])) S2 hm2 ha2 hn2 ⟨_, rfl, r.app (.one rv2)⟩ (by simp [RV]) o6⟩
end
end Py

-- text PyP
set_option Elab.async false
set_option linter.all false
set_option maxRecDepth 100000
set_option maxHeartbeats 4000000
namespace Py
open PySem PySem.Spec PyProof.Rows L2
/-! ### targets -/
mutual
def slotsG : G → List Nat
  | .nm i => [i]
  | .row g => slotsG g
  | .nil => []
  | .cons g r => slotsG g ++ slotsG r
end
def stB (N : List Str) (sc : Scope) (fnc : Bool) (i : Nat) (x : Str) : Bool := decide (N[i]? = some x) && (decide (sc.names.lookup x = some .local) || (fnc && decide (sc.names.lookup x = some .cell)))
mutual
def chkG (N : List Str) (fnc : Bool) : G → Scope → Expr → Bool
  | .nm i, sc, ex => match ex with
    | .Name x _ => stB N sc fnc i x
    | _ => false
  | .row g, sc, ex => match ex with
    | .Tuple es _ _ => chkGs N fnc g sc es
    | _ => false
  | .nil, _, _ => false
  | .cons _ _, _, _ => false
def chkGs (N : List Str) (fnc : Bool) : G → Scope → List Expr → Bool
  | .nil, _, es => es.isEmpty
  | .cons g r, sc, es => match es with
    | x :: t => chkG N fnc g sc x && chkGs N fnc r sc t
    | [] => false
  | .nm _, _, _ => false
  | .row _, _, _ => false
end
section
variable {C : Cfg} {D : Fns} {k : Nat} {N : List Str} {sc : Scope} {X : Cx} {xv : XV} {W : WX} {pos : Pos} {fnc : Bool}
theorem Sit.setV {p : Pl} {s : S} {σ : L2.St} {H : Hp} {i : Nat} {x : MV} {v : V} (S : Sit p s σ H) (rv : RV p H x v) : Sit p { s with env := s.env.set i (some (.v x)) } (σ.set i (some v)) H := by
  refine ⟨S.hr, by simpa using S.len, fun j y ej => ?_, fun j d ej => ?_, fun j k d1 d2 b ej ek f1 f2 => ?_⟩
  · rcases envSet ej with ⟨rfl, q, hi⟩ | ⟨ne, ej⟩
    · cases q
      exact ⟨v, by rw [List.getElem?_set_self (by rw [S.len]; exact hi)], rv⟩
    · obtain ⟨w, k1, k2⟩ := S.var j y ej
      exact ⟨w, by rw [List.getElem?_set_ne ne]; exact k1, k2⟩
  · rcases envSet ej with ⟨rfl, q, _⟩ | ⟨ne, ej⟩
    · cases q
    · obtain ⟨b, w, k1, k2⟩ := S.own j d ej
      exact ⟨b, w, by rw [List.getElem?_set_ne ne]; exact k1, k2⟩
  · rcases envSet ej with ⟨rfl, q, _⟩ | ⟨ne, ej⟩
    · cases q
    · rcases envSet ek with ⟨rfl, q, _⟩ | ⟨ne2, ek⟩
      · cases q
      · rw [List.getElem?_set_ne ne] at f1
        rw [List.getElem?_set_ne ne2] at f2
        exact S.ne j k d1 d2 b ej ek f1 f2
/-- a target's reading: the stores that it does, its slots alone -/
def GOk (X : Cx) (g : G) (e : Expr) : Prop := ∃ t : TG, PG X e t ∧ ∀ (p : Pl) (s s' : S) (σ : L2.St) (H : Hp) (x : MV) (v : V) (Q : L2.St → Hp → Prop), p.K = X.K → Sit p s σ H → RV p H x v → bindG g x s = .ok () s' →
  (∀ σ', Sit p s' σ' H → σ'.length = σ.length → (∀ j, j ∉ slotsG g → σ'[j]? = σ[j]?) → Q σ' H) → t v σ H Q
def GsOk (X : Cx) (g : G) (es : List Expr) : Prop := ∃ t : TGs, PGs X es t ∧ ∀ (p : Pl) (s s' : S) (σ : L2.St) (H : Hp) (xs : List MV) (vs : List V) (Q : L2.St → Hp → Prop), p.K = X.K → Sit p s σ H → RVs p H xs vs → bindGs g xs s = .ok () s' →
  (∀ σ', Sit p s' σ' H → σ'.length = σ.length → (∀ j, j ∉ slotsG g → σ'[j]? = σ[j]?) → Q σ' H) → t vs σ H Q
theorem asg_cons {x : Expr} {t : List Expr} {env : Env} (h : ∀ a b, x ≠ .Starred a b) : assignEach (x :: t) env = (false, assign x env) :: assignEach t env := by
  cases x <;> first | rfl | exact absurd rfl (h _ _)
theorem chkG_star {g : G} {x : Expr} (h : chkG N fnc g sc x = true) : ∀ a b, x ≠ .Starred a b := by
  rintro a b rfl
  cases g <;> simp [chkG] at h
theorem chkGs_asg {env : Env} : ∀ {g : G} {es : List Expr}, chkGs N fnc g sc es = true → (assignEach es env).findIdx? (·.1) = none ∧ (assignEach es env).length = es.length
  | .nil, es, h => by
    simp only [chkGs, List.isEmpty_iff] at h
    subst h
    exact ⟨rfl, rfl⟩
  | .cons g r, es, h => by
    simp only [chkGs] at h
    split at h
    · simp only [Bool.and_eq_true] at h
      obtain ⟨h1, h2⟩ := chkGs_asg (env := env) h.2
      rw [asg_cons (chkG_star h.1)]
      refine ⟨by rw [List.findIdx?_cons, h1]; rfl, by simp [h2]⟩
    · cases h
  | .nm _, _, h => by simp [chkGs] at h
  | .row _, _, h => by simp [chkGs] at h
theorem bindGs_len : ∀ {g : G} {es : List Expr} {xs : List MV} {s s' : S}, chkGs N fnc g sc es = true → bindGs g xs s = .ok () s' → xs.length = es.length
  | .nil, es, xs, s, s', h, e => by
    simp only [chkGs, List.isEmpty_iff] at h
    subst h
    simp only [bindGs] at e
    split at e
    · rfl
    · cases e
  | .cons g r, es, xs, s, s', h, e => by
    simp only [chkGs] at h
    split at h
    · simp only [Bool.and_eq_true] at h
      simp only [bindGs] at e
      split at e
      · rw [bnd_eq] at e
        split at e
        · simp [bindGs_len h.2 e]
        · cases e
        · cases e
      · cases e
    · cases h
  | .nm _, _, _, _, _, h, _ => by simp [chkGs] at h
  | .row _, _, _, _, _, h, _ => by simp [chkGs] at h
theorem At.st (A : At C D k N sc X xv W) (hf : fnc = true → ∀ x, X.fn x = true) {i : Nat} {x : Str} (h : stB N sc fnc i x = true) : X.N[i]? = some x ∧ Loc X.env.scope x ∧ (X.fn x = true ∨ X.env.scope.names.lookup x = some .local) := by
  unfold stB at h
  simp only [Bool.and_eq_true, Bool.or_eq_true, decide_eq_true_eq] at h
  obtain ⟨h1, h2⟩ := h
  refine ⟨by rw [A.hN]; exact h1, ?_, ?_⟩
  · rw [A.scp]
    rcases h2 with h2 | ⟨_, h2⟩
    · exact .inl h2
    · exact .inr h2
  · rw [A.scp]
    rcases h2 with h2 | ⟨h2, _⟩
    · exact .inr h2
    · exact .inl (hf h2 x)
mutual
theorem snd_G (A : At C D k N sc X xv W) (hf : fnc = true → ∀ x, X.fn x = true) : ∀ (g : G) (e : Expr), chkG N fnc g sc e = true → GOk X g e
  | .nm i, e, h => by
    simp only [chkG] at h
    split at h
    · obtain ⟨h1, h2, h3⟩ := A.st hf h
      refine ⟨_, pg_name (by rw [A.hN]; exact A.nd) h1 h2 h3, fun p s s' σ H x v Q hK S rv eb q => ?_⟩
      simp only [bindG, setSl] at eb
      injection eb with _ eb
      subst eb
      refine q _ (S.setV rv) (by simp) fun j hj => ?_
      rw [List.getElem?_set_ne (fun z => hj (by simp [slotsG, z]))]
    · cases h
  | .row g, e, h => by
    simp only [chkG] at h
    split at h
    · rename_i es j q
      obtain ⟨t, h1, h2⟩ := snd_Gs A hf g es h
      refine ⟨_, pg_tup A.calm h1 (chkGs_asg h).2 (chkGs_asg h).1, fun p s s' σ H x v Q hK S rv eb q => ?_⟩
      cases x with
      | tup xs =>
        simp only [bindG] at eb
        simp only [RV] at rv
        obtain ⟨a, vs, rfl, sq, r⟩ := rv
        exact ⟨a, vs, rfl, SqT.of sq, by rw [r.len]; exact bindGs_len h eb, h2 p s s' σ H xs vs Q hK S r eb fun σ' S' k1 k2 => q σ' S' k1 k2⟩
      | _ => cases eb
    · cases h
  | .nil, e, h => by simp [chkG] at h
  | .cons _ _, e, h => by simp [chkG] at h
theorem snd_Gs (A : At C D k N sc X xv W) (hf : fnc = true → ∀ x, X.fn x = true) : ∀ (g : G) (es : List Expr), chkGs N fnc g sc es = true → GsOk X g es
  | .nil, es, h => by
    simp only [chkGs, List.isEmpty_iff] at h
    subst h
    refine ⟨_, pgs_nil, fun p s s' σ H xs vs Q hK S r eb => ?_⟩
    simp only [bindGs] at eb
    split at eb
    · rw [ret_eq] at eb
      injection eb with _ eb
      subst eb
      simp only [RVs] at r
      subst r
      exact fun q => ⟨rfl, q σ S rfl fun _ _ => rfl⟩
    · cases eb
  | .cons g r, es, h => by
    simp only [chkGs] at h
    split at h
    · rename_i x t
      simp only [Bool.and_eq_true] at h
      obtain ⟨t1, h1, h2⟩ := snd_G A hf g x h.1
      obtain ⟨t2, h3, h4⟩ := snd_Gs A hf r t h.2
      refine ⟨_, pgs_cons (hs := by rw [asg_cons (chkG_star h.1)]; rfl) h1 h3, fun p s s' σ H xs vs Q hK S rv eb => ?_⟩
      simp only [bindGs] at eb
      split at eb
      · rename_i x' xs'
        rw [bnd_eq] at eb
        split at eb
        · rename_i u s1 e1
          simp only [RVs] at rv
          obtain ⟨w, ws, rfl, rv1, rv2⟩ := rv
          refine fun q => ⟨w, ws, rfl, h2 p s s1 σ H x' w _ hK S rv1 e1 fun σ' S' k1 k2 => ?_⟩
          refine h4 p s1 s' σ' H xs' ws Q hK S' rv2 eb fun σ2 S2 k3 k4 => q σ2 S2 (k3.trans k1) fun j hj => ?_
          simp only [slotsG, List.mem_append, not_or] at hj
          rw [k4 j hj.2, k2 j hj.1]
        · cases eb
        · cases eb
      · cases eb
    · cases h
  | .nm _, _, h => by simp [chkGs] at h
  | .row _, _, h => by simp [chkGs] at h
end
end
end Py

-- text PyQ
set_option Elab.async false
set_option linter.all false
set_option maxRecDepth 100000
set_option maxHeartbeats 4000000
namespace Py
open PySem PySem.Spec PyProof.Rows L2 RZ
/-! ### what is walked -/
def iR0 : Pl → Hp → ItV → It → Prop := fun p H v J => ∃ Y : Nat → Hp → V → Hp → Prop, Walk J (itemsOf v).length (fun G => ∃ p', Stp p H p' G) Y ∧
  ∀ (i : Nat) (G : Hp) (x : V) (G' : Hp) (p' : Pl), Stp p H p' G → MuOk p' G → Y i G x G' → ∃ y, (itemsOf v)[i]? = some y ∧ Stp p' G p' G' ∧ RV p' G' y x ∧ ∀ s σ, Sit p' s σ G → Sit p' s σ G'
def iR : Pl → Hp → ItV → It → Prop := fun p H v J => iR0 p H v J ∧ ∀ D, H D = none → iR0 (bar p D) H v J
theorem PI.imp {X : Cx} {tg e : Expr} {t t' : TI} (h : PI X tg e t) (i : ∀ σ H Q, t' σ H Q → t σ H Q) : PI X tg e t' := ⟨fun pins s σ H Q I q => h.run pins s σ H Q I (i σ H Q q)⟩
section
variable {p p' : Pl} {H G : Hp} {mh : Option (List Cn)}
theorem lst_keep (hr : MuOk p H) (st : Stp p H p' G) {xs : List MV} {v : V} (h : RV p H (.lst xs) v ∨ RV p H (.scr xs) v) : ∃ a vs, v = .ref a ∧ SqL p.K G a vs ∧ RVs p' G xs vs ∧ vs.length = xs.length := by
  rcases h with h | h
  · have h' := RV.keepM hr st _ _ h
    simp only [RV] at h'
    obtain ⟨a, vs, e, im, r⟩ := h'
    exact ⟨a, vs, e, .inl (.inl im.1), r, r.len⟩
  · have h' := RV.keepM hr st _ _ h
    simp only [RV] at h'
    obtain ⟨a, vs, e, sq, r⟩ := h'
    refine ⟨a, vs, e, ?_, r, r.len⟩
    rcases sq with ⟨o, sq⟩ | sq
    · exact .inl (.inr ⟨o, sq⟩)
    · rw [← st.K]; exact sq G
/-- a list that stays: one address, one row of items, wherever one looks -/
theorem lst_all (hr : MuOk p H) {xs : List MV} {v : V} (h : RV p H (.lst xs) v ∨ RV p H (.scr xs) v) : ∃ a vs, v = .ref a ∧ vs.length = xs.length ∧ ∀ p' G, Stp p H p' G → SqL p.K G a vs ∧ RVs p' G xs vs := by
  rcases h with h | h
  · have h' := h
    simp only [RV] at h
    obtain ⟨a, vs, e, im, r⟩ := h
    exact ⟨a, vs, e, r.len, fun p' G st => ⟨.inl (.inl (im.keep st).1), RVs.keepM hr st xs vs r⟩⟩
  · have h' := h
    simp only [RV] at h
    obtain ⟨a, vs, e, sq, r⟩ := h
    refine ⟨a, vs, e, r.len, fun p' G st => ⟨?_, RVs.keepM hr st xs vs r⟩⟩
    rcases sq with ⟨o, sq⟩ | sq
    · refine .inl (.inr ⟨o, st.keep a _ sq (fun _ hm => ?_) fun hm => ?_⟩)
      · obtain ⟨u, hu, mu⟩ := hr a (.inl hm)
        rw [sq] at hu; cases hu; cases mu
      · obtain ⟨u, hu, mu⟩ := hr a (.inr hm)
        rw [sq] at hu; cases hu; cases mu
    · exact sq G
theorem tup_all (hr : MuOk p H) {xs : List MV} {v : V} (h : RV p H (.tup xs) v) : ∃ a vs, v = .ref a ∧ vs.length = xs.length ∧ ∀ p' G, Stp p H p' G → SqT p.K G a vs ∧ RVs p' G xs vs := by
  have h' := h
  simp only [RV] at h
  obtain ⟨a, vs, e, sq, r⟩ := h
  exact ⟨a, vs, e, r.len, fun p' G st => ⟨SqT.of (tup_keep hr st sq), RVs.keepM hr st xs vs r⟩⟩
theorem iR0_lst (hr : MuOk p H) {xs : List MV} {a : Addr} {y : MV} (hy : y = .lst xs ∨ y = .scr xs) (h : RV p H y (.ref a)) : (∃ vs, SqL p.K H a vs) ∧ iR0 p H (.seq y) (Itl p.K a) := by
  obtain ⟨a', vs, e, hl, all⟩ := lst_all (xs := xs) hr (v := .ref a) (by rcases hy with rfl | rfl; exact .inl h; exact .inr h)
  cases e
  have hi : itemsOf (.seq y) = xs := by rcases hy with rfl | rfl <;> rfl
  refine ⟨⟨vs, (all p H (Stp.refl p H)).1⟩, YAt vs, by rw [hi, ← hl]; exact (walk_list (K := p.K) (a := a) (xs := vs)).mono (fun G ⟨p', st⟩ => (all p' G st).1) fun i G x G' _ _ y => y, fun i G x G' p' st mu yy => ?_⟩
  obtain ⟨rfl, e⟩ := yy
  obtain ⟨z, h1, h2⟩ := (all p' G' st).2.get e
  exact ⟨z, by rw [hi]; exact h1, Stp.refl _ _, h2, fun _ _ S => S⟩
theorem iR0_tup (hr : MuOk p H) {xs : List MV} {a : Addr} (h : RV p H (.tup xs) (.ref a)) : (∃ vs, SqT p.K H a vs) ∧ iR0 p H (.seq (.tup xs)) (Itt p.K a) := by
  obtain ⟨a', vs, e, hl, all⟩ := tup_all hr h
  cases e
  refine ⟨⟨vs, (all p H (Stp.refl p H)).1⟩, YAt vs, by show Walk _ xs.length _ _; rw [← hl]; exact (walk_tup (K := p.K) (a := a) (xs := vs)).mono (fun G ⟨p', st⟩ => (all p' G st).1) fun i G x G' _ _ y => y, fun i G x G' p' st mu yy => ?_⟩
  obtain ⟨rfl, e⟩ := yy
  obtain ⟨z, h1, h2⟩ := (all p' G' st).2.get e
  exact ⟨z, h1, Stp.refl _ _, h2, fun _ _ S => S⟩
theorem iR0_up {lo : Int} {n : Nat} : iR0 p H (.up lo n) (Itr lo n) := by
  refine ⟨fun i G x G' => i < n ∧ YFn (fun i => .int (lo + (i : Nat))) i G x G', ?_, fun i G x G' p' st mu yy => ?_⟩
  · have : (itemsOf (.up lo n)).length = n := by simp [itemsOf]
    rw [this]
    exact (walk_range (lo := lo) (n := n)).mono (fun _ _ => trivial) fun i G x G' hi _ y => ⟨hi, y⟩
  · obtain ⟨hi, rfl, rfl⟩ := yy
    exact ⟨.int (lo + (i : Nat)), by simp [itemsOf, hi], Stp.refl _ _, by simp [RV], fun _ _ S => S⟩
theorem iR0_down {lo : Int} {n : Nat} : iR0 p H (.down lo n) (Itc lo (-1) n) := by
  refine ⟨fun i G x G' => i < n ∧ YFn (fun i => .int (lo + (i : Nat) * (-1))) i G x G', ?_, fun i G x G' p' st mu yy => ?_⟩
  · have : (itemsOf (.down lo n)).length = n := by simp [itemsOf]
    rw [this]
    exact (walk_rangeC (lo := lo) (c := -1) (n := n)).mono (fun _ _ => trivial) fun i G x G' hi _ y => ⟨hi, y⟩
  · obtain ⟨hi, rfl, rfl⟩ := yy
    exact ⟨.int (lo + (i : Nat) * (-1)), by simp [itemsOf, hi], Stp.refl _ _, by simp [RV], fun _ _ S => S⟩
/-- a new pair -/
theorem pair_new (hr : MuOk p' G) {T : Addr} {x y : V} {z w : MV} (hT : G T = none) (h1 : RV p' G z x) (h2 : RV p' G w y) : Stp p' G p' (upd G T (.tup [x, y])) ∧ RV p' (upd G T (.tup [x, y])) (pair z w) (.ref T) ∧ ∀ s σ, Sit p' s σ G → Sit p' s σ (upd G T (.tup [x, y])) := by
  have st : Stp p' G p' (upd G T (.tup [x, y])) := Stp.new hT
  refine ⟨st, ?_, fun s σ S => S.new hT⟩
  simp only [pair, RV]
  exact ⟨T, [x, y], rfl, upd_same, .cons (RV.keepM hr st z x h1) (.cons (RV.keepM hr st w y h2) .nil)⟩
theorem iR0_enum (hr : MuOk p H) {xs : List MV} {a : Addr} (h : RV p H (.lst xs) (.ref a)) : (∃ vs, SqL p.K H a vs) ∧ iR0 p H (.enum (.lst xs)) (Ite p.K a) := by
  obtain ⟨a', vs, e, hl, all⟩ := lst_all (xs := xs) hr (v := .ref a) (.inl h)
  cases e
  have hn : (itemsOf (.enum (.lst xs))).length = vs.length := by simp [itemsOf, items?, hl]
  refine ⟨⟨vs, (all p H (Stp.refl p H)).1⟩, YPair (fun i => some (.int (i : Nat))) (fun i => vs[i]?), by rw [hn]; exact (walk_enum (K := p.K) (a := a) (xs := vs)).mono (fun G ⟨p', st⟩ => (all p' G st).1) fun i G x G' _ _ y => y, fun i G x G' p' st mu yy => ?_⟩
  obtain ⟨T, x, y, rfl, hT, rfl, e1, e2⟩ := yy
  cases e1
  obtain ⟨z, h1, h2⟩ := (all p' G st).2.get e2
  obtain ⟨k1, k2, k3⟩ := pair_new mu (x := .int (i : Nat)) (z := .int (i : Nat)) hT (by simp [RV]) h2
  refine ⟨_, ?_, k1, k2, k3⟩
  have hi : i < xs.length := (List.getElem?_eq_some_iff.mp h1).1
  have hz : xs[i] = z := by rw [List.getElem?_eq_getElem hi] at h1; exact Option.some.inj h1
  simp [itemsOf, items?, List.getElem?_zipWith, hi, hz]
theorem iR0_enumT (hr : MuOk p H) {xs : List MV} {a : Addr} (h : RV p H (.tup xs) (.ref a)) : (∃ vs, SqT p.K H a vs) ∧ iR0 p H (.enum (.tup xs)) (IteT p.K a) := by
  obtain ⟨a', vs, e, hl, all⟩ := tup_all hr h
  cases e
  have hn : (itemsOf (.enum (.tup xs))).length = vs.length := by simp [itemsOf, items?, hl]
  refine ⟨⟨vs, (all p H (Stp.refl p H)).1⟩, YPair (fun i => some (.int (i : Nat))) (fun i => vs[i]?), by rw [hn]; exact (walk_enumT (K := p.K) (a := a) (xs := vs)).mono (fun G ⟨p', st⟩ => (all p' G st).1) fun i G x G' _ _ y => y, fun i G x G' p' st mu yy => ?_⟩
  obtain ⟨T, x, y, rfl, hT, rfl, e1, e2⟩ := yy
  cases e1
  obtain ⟨z, h1, h2⟩ := (all p' G st).2.get e2
  obtain ⟨k1, k2, k3⟩ := pair_new mu (x := .int (i : Nat)) (z := .int (i : Nat)) hT (by simp [RV]) h2
  refine ⟨_, ?_, k1, k2, k3⟩
  have hi : i < xs.length := (List.getElem?_eq_some_iff.mp h1).1
  have hz : xs[i] = z := by rw [List.getElem?_eq_getElem hi] at h1; exact Option.some.inj h1
  simp [itemsOf, items?, List.getElem?_zipWith, hi, hz]
theorem iR0_zipL (hr : MuOk p H) {xs ys : List MV} {a b : Addr} (h1 : RV p H (.lst xs) (.ref a)) (h2 : RV p H (.lst ys) (.ref b)) : (∃ vs ws, SqL p.K H a vs ∧ SqL p.K H b ws) ∧ iR0 p H (.zip (.lst xs) (.lst ys)) (Itz p.K a b) := by
  obtain ⟨a', vs, e, hl, all⟩ := lst_all (xs := xs) hr (v := .ref a) (.inl h1)
  cases e
  obtain ⟨b', ws, e, hl2, all2⟩ := lst_all (xs := ys) hr (v := .ref b) (.inl h2)
  cases e
  have hn : (itemsOf (.zip (.lst xs) (.lst ys))).length = min vs.length ws.length := by simp [itemsOf, items?, hl, hl2]
  refine ⟨⟨vs, ws, (all p H (Stp.refl p H)).1, (all2 p H (Stp.refl p H)).1⟩, YPair (fun i => vs[i]?) (fun i => ws[i]?), by rw [hn]; exact (walk_zip (K := p.K) (a := a) (b := b) (xs := vs) (ys := ws) rfl).mono (fun G ⟨p', st⟩ => ⟨(all p' G st).1, (all2 p' G st).1⟩) fun i G x G' _ _ y => y, fun i G x G' p' st mu yy => ?_⟩
  obtain ⟨T, x, y, rfl, hT, rfl, e1, e2⟩ := yy
  obtain ⟨z, q1, q2⟩ := (all p' G st).2.get e1
  obtain ⟨w, q3, q4⟩ := (all2 p' G st).2.get e2
  obtain ⟨k1, k2, k3⟩ := pair_new mu hT q2 q4
  exact ⟨_, by simp [itemsOf, items?, List.getElem?_zipWith, q1, q3], k1, k2, k3⟩
theorem walk_zipT {K : PySem.W.Frag} {a b : Addr} {xs ys : List V} : Walk (ItzT K a b) (min xs.length ys.length) (fun H => SqT K H a xs ∧ SqT K H b ys) (YPair (fun i => xs[i]?) (fun i => ys[i]?)) := by
  refine ⟨fun i _ hi q => ?_, fun _ q => ⟨xs, ys, q.1, q.2, by omega⟩, fun i H v H' _ q y => ?_⟩
  · have h1 : i < xs.length := by omega
    have h2 : i < ys.length := by omega
    exact ⟨xs, ys, xs[i], ys[i], q.1, q.2, by simp [h1], by simp [h2]⟩
  · obtain ⟨T, x, z, e1, e2, e3, e4, e5⟩ := y
    exact ⟨T, x, z, e1, e2, e3, e4 xs q.1, e5 ys q.2⟩
theorem iR0_zipT (hr : MuOk p H) {xs ys : List MV} {a b : Addr} (h1 : RV p H (.tup xs) (.ref a)) (h2 : RV p H (.tup ys) (.ref b)) : (∃ vs ws, SqT p.K H a vs ∧ SqT p.K H b ws) ∧ iR0 p H (.zip (.tup xs) (.tup ys)) (ItzT p.K a b) := by
  obtain ⟨a', vs, e, hl, all⟩ := tup_all hr h1
  cases e
  obtain ⟨b', ws, e, hl2, all2⟩ := tup_all hr h2
  cases e
  have hn : (itemsOf (.zip (.tup xs) (.tup ys))).length = min vs.length ws.length := by simp [itemsOf, items?, hl, hl2]
  refine ⟨⟨vs, ws, (all p H (Stp.refl p H)).1, (all2 p H (Stp.refl p H)).1⟩, YPair (fun i => vs[i]?) (fun i => ws[i]?), by rw [hn]; exact (walk_zipT (K := p.K) (a := a) (b := b) (xs := vs) (ys := ws)).mono (fun G ⟨p', st⟩ => ⟨(all p' G st).1, (all2 p' G st).1⟩) fun i G x G' _ _ y => y, fun i G x G' p' st mu yy => ?_⟩
  obtain ⟨T, x, y, rfl, hT, rfl, e1, e2⟩ := yy
  obtain ⟨z, q1, q2⟩ := (all p' G st).2.get e1
  obtain ⟨w, q3, q4⟩ := (all2 p' G st).2.get e2
  obtain ⟨k1, k2, k3⟩ := pair_new mu hT q2 q4
  exact ⟨_, by simp [itemsOf, items?, List.getElem?_zipWith, q1, q3], k1, k2, k3⟩
theorem iR0_rev (hr : MuOk p H) {xs : List MV} {a : Addr} (h : RV p H (.lst xs) (.ref a)) : (∃ vs, vs.length = xs.length ∧ SqL p.K H a vs) ∧ iR0 p H (.rev (.lst xs)) (Itv p.K a xs.length) := by
  obtain ⟨a', vs, e, hl, all⟩ := lst_all (xs := xs) hr (v := .ref a) (.inl h)
  cases e
  have hi : itemsOf (.rev (.lst xs)) = xs.reverse := rfl
  refine ⟨⟨vs, hl, (all p H (Stp.refl p H)).1⟩, fun i G x G' => i < vs.length ∧ G' = G ∧ vs[vs.length - 1 - i]? = some x, by rw [hi, List.length_reverse, ← hl]; exact (walk_rev (K := p.K) (a := a) (xs := vs)).mono (fun G ⟨p', st⟩ => (all p' G st).1) fun i G x G' hi _ y => ⟨hi, y⟩, fun i G x G' p' st mu yy => ?_⟩
  obtain ⟨hlt, rfl, e⟩ := yy
  obtain ⟨z, h1, h2⟩ := (all p' G' st).2.get e
  exact ⟨z, by rw [hi, List.getElem?_reverse (by omega), ← hl]; exact h1, Stp.refl _ _, h2, fun _ _ S => S⟩
theorem iR_rev (hr : MuOk p H) {xs : List MV} {a : Addr} (h : RV p H (.lst xs) (.ref a)) : (∃ vs, vs.length = xs.length ∧ SqL p.K H a vs) ∧ iR p H (.rev (.lst xs)) (Itv p.K a xs.length) :=
  ⟨(iR0_rev hr h).1, (iR0_rev hr h).2, fun D hD => (iR0_rev (p := bar p D) hr (h.re (bar p D) rfl rfl (bar_hb hD))).2⟩
theorem iR_lst (hr : MuOk p H) {xs : List MV} {a : Addr} {y : MV} (hy : y = .lst xs ∨ y = .scr xs) (h : RV p H y (.ref a)) : (∃ vs, SqL p.K H a vs) ∧ iR p H (.seq y) (Itl p.K a) :=
  ⟨(iR0_lst hr hy h).1, (iR0_lst hr hy h).2, fun D hD => (iR0_lst (p := bar p D) hr hy (h.re (bar p D) rfl rfl (bar_hb hD))).2⟩
theorem iR_tup (hr : MuOk p H) {xs : List MV} {a : Addr} (h : RV p H (.tup xs) (.ref a)) : (∃ vs, SqT p.K H a vs) ∧ iR p H (.seq (.tup xs)) (Itt p.K a) :=
  ⟨(iR0_tup hr h).1, (iR0_tup hr h).2, fun D hD => (iR0_tup (p := bar p D) hr (h.re (bar p D) rfl rfl (bar_hb hD))).2⟩
theorem iR_up {lo : Int} {n : Nat} : iR p H (.up lo n) (Itr lo n) := ⟨iR0_up, fun D _ => iR0_up⟩
theorem iR_down {lo : Int} {n : Nat} : iR p H (.down lo n) (Itc lo (-1) n) := ⟨iR0_down, fun D _ => iR0_down⟩
theorem iR_enum (hr : MuOk p H) {xs : List MV} {a : Addr} (h : RV p H (.lst xs) (.ref a)) : (∃ vs, SqL p.K H a vs) ∧ iR p H (.enum (.lst xs)) (Ite p.K a) :=
  ⟨(iR0_enum hr h).1, (iR0_enum hr h).2, fun D hD => (iR0_enum (p := bar p D) hr (h.re (bar p D) rfl rfl (bar_hb hD))).2⟩
theorem iR_enumT (hr : MuOk p H) {xs : List MV} {a : Addr} (h : RV p H (.tup xs) (.ref a)) : (∃ vs, SqT p.K H a vs) ∧ iR p H (.enum (.tup xs)) (IteT p.K a) :=
  ⟨(iR0_enumT hr h).1, (iR0_enumT hr h).2, fun D hD => (iR0_enumT (p := bar p D) hr (h.re (bar p D) rfl rfl (bar_hb hD))).2⟩
theorem iR_zipL (hr : MuOk p H) {xs ys : List MV} {a b : Addr} (h1 : RV p H (.lst xs) (.ref a)) (h2 : RV p H (.lst ys) (.ref b)) : (∃ vs ws, SqL p.K H a vs ∧ SqL p.K H b ws) ∧ iR p H (.zip (.lst xs) (.lst ys)) (Itz p.K a b) :=
  ⟨(iR0_zipL hr h1 h2).1, (iR0_zipL hr h1 h2).2, fun D hD => (iR0_zipL (p := bar p D) hr (h1.re (bar p D) rfl rfl (bar_hb hD)) (h2.re (bar p D) rfl rfl (bar_hb hD))).2⟩
theorem iR_zipT (hr : MuOk p H) {xs ys : List MV} {a b : Addr} (h1 : RV p H (.tup xs) (.ref a)) (h2 : RV p H (.tup ys) (.ref b)) : (∃ vs ws, SqT p.K H a vs ∧ SqT p.K H b ws) ∧ iR p H (.zip (.tup xs) (.tup ys)) (ItzT p.K a b) :=
  ⟨(iR0_zipT hr h1 h2).1, (iR0_zipT hr h1 h2).2, fun D hD => (iR0_zipT (p := bar p D) hr (h1.re (bar p D) rfl rfl (bar_hb hD)) (h2.re (bar p D) rfl rfl (bar_hb hD))).2⟩
end
section
variable {C : Cfg} {D : Fns} {k : Nat} {N : List Str} {sc : Scope} {X : Cx} {xv : XV} {W : WX} {pos : Pos} {tg : Expr}
def iSeq (K : PySem.W.Frag) (tl : TE) : TI := fun σ H R => tl σ H fun x H1 => ∃ a, x = .ref a ∧ (((∃ xs, SqL K H1 a xs) ∧ R (Itl K a) H1) ∨ ((∃ xs, SqT K H1 a xs) ∧ R (Itt K a) H1))
theorem pi_seq {l : Expr} {tl : TE} (hl : PE X l tl) : PI X tg l (iSeq X.K tl) := by
  refine ⟨fun pins s σ H R I h => ?_⟩
  refine thn (hl.run pins s σ H _ I h) fun v s1 ⟨x, H1, I1, r1, q1⟩ => ?_
  obtain ⟨a, rfl, q1⟩ := q1
  cases r1
  have fr : ∀ b ∈ [s1.heap.objs.size], FpOk X pins H1 b := fun b hb => by
    have e : b = s1.heap.objs.size := by simpa using hb
    subst e
    exact I1.fpOk (Nat.le_refl _) (I1.hok.fresh (Nat.le_refl _))
  rcases q1 with ⟨⟨xs, hq⟩, q⟩ | ⟨⟨xs, hq⟩, q⟩
  · obtain ⟨its, _, w, _⟩ := I1.list hq
    exact wpAny_pyIter_list w.isList ⟨_, _, _, _, H1, rfl, I1.kept (t' := s1.toks) fun _ _ e => Heap.get?_push_of_some _ e, turn_list a _, ⟨_, Heap.get?_push_size _ rfl, rfl, rfl⟩, fr, q⟩
  · obtain ⟨its, _, w, _⟩ := I1.tuple hq
    exact wpAny_pyIter_tuple (show s1.heap.IsTuple a its.toArray from w) ⟨_, _, _, _, H1, rfl, I1.kept (t' := s1.toks) fun _ _ e => Heap.get?_push_of_some _ e, turn_tuple a _, ⟨_, Heap.get?_push_size _ rfl, rfl, rfl⟩, fr, q⟩
abbrev IOk (D : Fns) (X : Cx) (xv : XV) (W : WX) (it : I) (tg iter : Expr) : Prop := PI X tg iter (lift iR X.K xv W (denI D it))
theorem den1 {β : Type} {e : E} {f : MV → M β} : (do let x ← denE D e; f x) = (do let zs ← denA D (.cons e .nil); match zs with | [.inl x] => f x | _ => fail) := by
  funext s
  simp only [bnd_eq, denA, ret_eq]
  cases denE D e s <;> rfl
theorem den2 {β : Type} {e g : E} {f : MV → MV → M β} : (do let x ← denE D e; let y ← denE D g; f x y) = (do let zs ← denA D (.cons e (.cons g .nil)); match zs with | [.inl x, .inl y] => f x y | _ => fail) := by
  funext s
  simp only [bnd_eq, denA, ret_eq]
  cases denE D e s with
  | ok x s1 => simp only []; cases denE D g s1 <;> rfl
  | ex c vs s1 => rfl
  | no => rfl
theorem den3 {β : Type} {e g h : E} {f : MV → MV → MV → M β} : (do let x ← denE D e; let y ← denE D g; let z ← denE D h; f x y z) = (do let zs ← denA D (.cons e (.cons g (.cons h .nil))); match zs with | [.inl x, .inl y, .inl z] => f x y z | _ => fail) := by
  funext s
  simp only [bnd_eq, denA, ret_eq]
  cases denE D e s with
  | ok x s1 =>
    simp only []
    cases denE D g s1 with
    | ok y s2 => simp only []; cases denE D h s2 <;> rfl
    | ex c vs s1 => rfl
    | no => rfl
  | ex c vs s1 => rfl
  | no => rfl
theorem snd_Iex {e : E} {x : Expr} (h : PE X x (lift rE X.K xv W (denE D e))) : IOk D X xv W (.ex e) tg x := by
  refine PI.imp (pi_seq h) fun σ H R ⟨p, s, hK, S, o⟩ => ?_
  simp only [denI] at o
  refine ⟨p, s, hK, S, Out.bnd (r' := rE) o fun y s1 v p1 H1 _ st1 S1 rv1 o1 => ?_⟩
  obtain ⟨j, e1, q⟩ := lift?_end o1
  have hk1 : p1.K = X.K := by rw [st1.K]; exact hK
  unfold seqI at e1
  cases y with
  | tup xs =>
    simp only [items?, Option.some.injEq] at e1
    subst e1
    have rv' := rv1
    simp only [RV] at rv1
    obtain ⟨a, vs, rfl, _⟩ := rv1
    obtain ⟨g1, g2⟩ := iR_tup S1.hr.muOk rv'
    rw [hk1] at g1 g2
    exact ⟨a, rfl, .inr ⟨g1, q _ p1 H1 (Stp.refl _ _) S1 g2⟩⟩
  | lst xs =>
    simp only [items?, Option.some.injEq] at e1
    subst e1
    have rv' := rv1
    simp only [RV] at rv1
    obtain ⟨a, vs, rfl, _⟩ := rv1
    obtain ⟨g1, g2⟩ := iR_lst S1.hr.muOk (.inl rfl) rv'
    rw [hk1] at g1 g2
    exact ⟨a, rfl, .inl ⟨g1, q _ p1 H1 (Stp.refl _ _) S1 g2⟩⟩
  | scr xs =>
    simp only [items?, Option.some.injEq] at e1
    subst e1
    have rv' := rv1
    simp only [RV] at rv1
    obtain ⟨a, vs, rfl, _⟩ := rv1
    obtain ⟨g1, g2⟩ := iR_lst S1.hr.muOk (.inr rfl) rv'
    rw [hk1] at g1 g2
    exact ⟨a, rfl, .inl ⟨g1, q _ p1 H1 (Stp.refl _ _) S1 g2⟩⟩
  | _ => cases e1
theorem rv_int {p : Pl} {H : Hp} {i : Int} {v : V} (h : RV p H (.int i) v) : v = .int i := by simpa only [RV] using h
theorem rss_one {p : Pl} {H : Hp} {σ : L2.St} {y : MV} {vs : List V} (h : RSs σ p H [.inl y] vs) : ∃ v, vs = [v] ∧ RV p H y v := by
  obtain ⟨v, r, rfl, hv, hr⟩ := h
  have hr' : r = [] := hr
  subst hr'
  exact ⟨v, rfl, hv⟩
theorem rss_two {p : Pl} {H : Hp} {σ : L2.St} {y z : MV} {vs : List V} (h : RSs σ p H [.inl y, .inl z] vs) : ∃ v w, vs = [v, w] ∧ RV p H y v ∧ RV p H z w := by
  obtain ⟨v, r, rfl, hv, hr⟩ := h
  obtain ⟨w, rfl, hw⟩ := rss_one hr
  exact ⟨v, w, rfl, hv, hw⟩
theorem rss_three {p : Pl} {H : Hp} {σ : L2.St} {x y z : MV} {vs : List V} (h : RSs σ p H [.inl x, .inl y, .inl z] vs) : ∃ u v w, vs = [u, v, w] ∧ RV p H x u ∧ RV p H y v ∧ RV p H z w := by
  obtain ⟨v, r, rfl, hv, hr⟩ := h
  obtain ⟨w, w2, rfl, hw, hw2⟩ := rss_two hr
  exact ⟨v, w, w2, rfl, hv, hw, hw2⟩
theorem snd_rng1 (A : At C D k N sc X xv W) (hb : blB C sc ("range" : Str) = true) {e : E} {x : Expr} {q : Pos} (ns : noStar [x] = true) (h : PE X x (lift rE X.K xv W (denE D e))) : IOk D X xv W (.rng1 e) tg (.Call (.Name "range" q) [x] [] pos) := by
  obtain ⟨g1, _, g3, _⟩ := A.blt hb
  obtain ⟨_, ts, hp, hi⟩ := snd_cons h snd_nil
  refine PI.imp (pi_range1 g1 g3 (hp.pa ns) (star_cons X.env ns).1) fun σ H R hh => ?_
  simp only [denI, den1] at hh
  obtain ⟨p, s, hK, S, o⟩ := hh
  refine hi σ H _ ⟨p, s, hK, S, Out.bnd (r' := RSs σ) o fun zs s1 vs p1 H1 hz st1 S1 rv1 o1 => ?_⟩
  clear hz
  split at o1
  · obtain ⟨v, rfl, hv⟩ := rss_one rv1
    obtain ⟨j, e1, qq⟩ := lift?_end o1
    unfold rng1I at e1
    split at e1
    · rename_i i
      split at e1
      · rename_i hb
        cases e1
        have hv' : v = .int i := rv_int hv
        subst hv'
        exact ⟨i, rfl, hb.1, hb.2, qq _ p1 H1 (Stp.refl _ _) S1 iR_up⟩
      · cases e1
    · cases e1
  · exact o1.elim
theorem snd_rng2 (A : At C D k N sc X xv W) (hb : blB C sc ("range" : Str) = true) {e f : E} {x y : Expr} {q : Pos} (ns : noStar [x, y] = true) (h : PE X x (lift rE X.K xv W (denE D e))) (h2 : PE X y (lift rE X.K xv W (denE D f))) :
    IOk D X xv W (.rng2 e f) tg (.Call (.Name "range" q) [x, y] [] pos) := by
  obtain ⟨g1, _, g3, _⟩ := A.blt hb
  obtain ⟨_, ts, hp, hi⟩ := snd_cons h (snd_cons h2 snd_nil)
  have st := star_cons X.env ns
  have st2 := star_cons X.env st.2
  refine PI.imp (pi_range2 g1 g3 (hp.pa ns) (by rw [st.1, st2.1]; rfl) st2.1) fun σ H R hh => ?_
  simp only [denI, den2] at hh
  obtain ⟨p, s, hK, S, o⟩ := hh
  refine hi σ H _ ⟨p, s, hK, S, Out.bnd (r' := RSs σ) o fun zs s1 vs p1 H1 hz st1 S1 rv1 o1 => ?_⟩
  clear hz
  split at o1
  · obtain ⟨v, w, rfl, hv, hw⟩ := rss_two rv1
    obtain ⟨j, e1, qq⟩ := lift?_end o1
    unfold rng2I at e1
    split at e1
    · rename_i i j
      split at e1
      · rename_i hb
        cases e1
        have hv' := rv_int hv
        have hw' := rv_int hw
        subst hv' hw'
        exact ⟨i, j, rfl, ⟨hb.1.1, hb.1.2, hb.2.1, hb.2.2⟩, qq _ p1 H1 (Stp.refl _ _) S1 iR_up⟩
      · cases e1
    · cases e1
  · exact o1.elim
theorem snd_rng3 (A : At C D k N sc X xv W) (hb : blB C sc ("range" : Str) = true) {e f g : E} {x y z : Expr} {q : Pos} (ns : noStar [x, y, z] = true) (h : PE X x (lift rE X.K xv W (denE D e))) (h2 : PE X y (lift rE X.K xv W (denE D f))) (h3 : PE X z (lift rE X.K xv W (denE D g))) :
    IOk D X xv W (.rng3 e f g) tg (.Call (.Name "range" q) [x, y, z] [] pos) := by
  obtain ⟨g1, _, g3, _⟩ := A.blt hb
  obtain ⟨_, ts, hp, hi⟩ := snd_cons h (snd_cons h2 (snd_cons h3 snd_nil))
  have st := star_cons X.env ns
  refine PI.imp (pi_range3 g1 g3 (hp.pa ns) st.1 (noStar_any _ _ st.2)) fun σ H R hh => ?_
  simp only [denI, den3] at hh
  obtain ⟨p, s, hK, S, o⟩ := hh
  refine hi σ H _ ⟨p, s, hK, S, Out.bnd (r' := RSs σ) o fun zs s1 vs p1 H1 hz st1 S1 rv1 o1 => ?_⟩
  clear hz
  split at o1
  · obtain ⟨u, v, w, rfl, hu, hv, hw⟩ := rss_three rv1
    obtain ⟨j, e1, qq⟩ := lift?_end o1
    unfold rng3I at e1
    split at e1
    · rename_i i j c
      split at e1
      · rename_i hb
        obtain ⟨⟨⟨b1, b2⟩, b3, b4⟩, rfl⟩ := hb
        cases e1
        have hu' := rv_int hu
        have hv' := rv_int hv
        have hw' := rv_int hw
        subst hu' hv' hw'
        exact ⟨i, j, -1, (i - j).toNat, rfl, RgC.neg b1 b2 b3 b4, qq _ p1 H1 (Stp.refl _ _) S1 iR_down⟩
      · cases e1
    · cases e1
  · exact o1.elim
theorem snd_enum (A : At C D k N sc X xv W) (hb : blB C sc ("enumerate" : Str) = true) {e : E} {x : Expr} {q tpos : Pos} {elts : List Expr} {kk : Nat} (ns : noStar [x] = true) (h : PE X x (lift rE X.K xv W (denE D e))) :
    IOk D X xv W (.enum e) (.Tuple elts kk tpos) (.Call (.Name "enumerate" q) [x] [] pos) := by
  obtain ⟨g1, _, g3, _⟩ := A.blt hb
  obtain ⟨_, ts, hp, hi⟩ := snd_cons h snd_nil
  refine PI.imp (pi_enum2 g1 g3 (hp.pa ns) (star_cons X.env ns).1) fun σ H R hh => ?_
  simp only [denI, den1] at hh
  obtain ⟨p, s, hK, S, o⟩ := hh
  refine hi σ H _ ⟨p, s, hK, S, Out.bnd (r' := RSs σ) o fun zs s1 vs p1 H1 hz st1 S1 rv1 o1 => ?_⟩
  clear hz
  have hk1 : p1.K = X.K := by rw [st1.K]; exact hK
  split at o1
  · obtain ⟨v, rfl, hv⟩ := rss_one rv1
    obtain ⟨j, e1, qq⟩ := lift?_end o1
    rename_i y
    unfold enumI at e1
    split at e1
    · cases e1
      have hv' := hv
      simp only [RV] at hv
      obtain ⟨a, vs, rfl, _⟩ := hv
      obtain ⟨⟨us, g1⟩, g2⟩ := iR_enum S1.hr.muOk hv'
      rw [hk1] at g1 g2
      exact ⟨a, us, rfl, .inl ⟨g1, qq _ p1 H1 (Stp.refl _ _) S1 g2⟩⟩
    · cases e1
      have hv' := hv
      simp only [RV] at hv
      obtain ⟨a, vs, rfl, _⟩ := hv
      obtain ⟨⟨us, g1⟩, g2⟩ := iR_enumT S1.hr.muOk hv'
      rw [hk1] at g1 g2
      exact ⟨a, us, rfl, .inr ⟨g1, qq _ p1 H1 (Stp.refl _ _) S1 g2⟩⟩
    · cases e1
  · exact o1.elim
theorem snd_rev (A : At C D k N sc X xv W) (hb : blB C sc ("reversed" : Str) = true) {e : E} {x : Expr} {q : Pos} (ns : noStar [x] = true) (h : PE X x (lift rE X.K xv W (denE D e))) :
    IOk D X xv W (.rev e) tg (.Call (.Name "reversed" q) [x] [] pos) := by
  obtain ⟨g1, _, g3, _⟩ := A.blt hb
  refine PI.imp (RT.pi_revA g1 g3 h (star_cons X.env ns).1) fun σ H R ⟨p, s, hK, S, o⟩ => ?_
  simp only [denI] at o
  refine ⟨p, s, hK, S, Out.bnd (r' := rE) o fun y s1 v p1 H1 _ st1 S1 rv1 o1 => ?_⟩
  obtain ⟨j, e1, q⟩ := lift?_end o1
  have hk1 : p1.K = X.K := by rw [st1.K]; exact hK
  unfold revI at e1
  split at e1
  · simp only [Option.some.injEq] at e1
    subst e1
    have rv' := rv1
    simp only [RV] at rv1
    obtain ⟨a, vs, rfl, _⟩ := rv1
    obtain ⟨⟨us, hl, g1⟩, g2⟩ := iR_rev S1.hr.muOk rv'
    rw [hk1] at g1 g2
    exact ⟨a, us, rfl, .inl ⟨g1, by rw [hl]; exact q _ p1 H1 (Stp.refl _ _) S1 g2⟩⟩
  · cases e1
theorem snd_zip (A : At C D k N sc X xv W) (hb : blB C sc ("zip" : Str) = true) {e f : E} {x y : Expr} {q tpos : Pos} {elts : List Expr} {kk : Nat} (ns : noStar [x, y] = true) (h : PE X x (lift rE X.K xv W (denE D e))) (h2 : PE X y (lift rE X.K xv W (denE D f))) :
    IOk D X xv W (.zip e f) (.Tuple elts kk tpos) (.Call (.Name "zip" q) [x, y] [] pos) := by
  obtain ⟨g1, _, g3, _⟩ := A.blt hb
  obtain ⟨_, ts, hp, hi⟩ := snd_cons h (snd_cons h2 snd_nil)
  have st := star_cons X.env ns
  refine PI.imp (pi_zipA g1 g3 (hp.pa ns) st.1 (noStar_any _ _ st.2)) fun σ H R hh => ?_
  simp only [denI, den2] at hh
  obtain ⟨p, s, hK, S, o⟩ := hh
  refine hi σ H _ ⟨p, s, hK, S, Out.bnd (r' := RSs σ) o fun zs s1 vs p1 H1 hz st1 S1 rv1 o1 => ?_⟩
  clear hz
  have hk1 : p1.K = X.K := by rw [st1.K]; exact hK
  split at o1
  · rename_i y z
    obtain ⟨v, w, rfl, hv, hw⟩ := rss_two rv1
    obtain ⟨j, e1, qq⟩ := lift?_end o1
    unfold zipI at e1
    split at e1
    · rename_i hc
      simp only [Bool.or_eq_true, Bool.and_eq_true] at hc
      cases e1
      rcases hc with ⟨c1, c2⟩ | ⟨c1, c2⟩
      · cases y <;> simp only [isLst, reduceCtorEq] at c1
        cases z <;> simp only [isLst, reduceCtorEq] at c2
        have hv' := hv
        have hw' := hw
        simp only [RV] at hv hw
        obtain ⟨a, vs, rfl, _⟩ := hv
        obtain ⟨b, ws, rfl, _⟩ := hw
        obtain ⟨⟨us, us2, g1, g3⟩, g2⟩ := iR_zipL S1.hr.muOk hv' hw'
        rw [hk1] at g1 g2 g3
        exact ⟨a, b, us, us2, rfl, .inl ⟨g1, g3, qq _ p1 H1 (Stp.refl _ _) S1 g2⟩⟩
      · cases y <;> simp only [isTup, reduceCtorEq] at c1
        cases z <;> simp only [isTup, reduceCtorEq] at c2
        have hv' := hv
        have hw' := hw
        simp only [RV] at hv hw
        obtain ⟨a, vs, rfl, _⟩ := hv
        obtain ⟨b, ws, rfl, _⟩ := hw
        obtain ⟨⟨us, us2, g1, g3⟩, g2⟩ := iR_zipT S1.hr.muOk hv' hw'
        rw [hk1] at g1 g2 g3
        exact ⟨a, b, us, us2, rfl, .inr ⟨g1, g3, qq _ p1 H1 (Stp.refl _ _) S1 g2⟩⟩
    · cases e1
  · exact o1.elim
end
end Py

-- text PyR
set_option Elab.async false
set_option linter.all false
set_option maxRecDepth 100000
set_option maxHeartbeats 4000000
namespace Py
open PySem PySem.Spec PyProof.Rows L2
/-! ### slots forgotten -/
section
variable {p p' : Pl} {H G : Hp} {s : S} {σ σ' : L2.St}
theorem wipeE_out {e : List (Option Slot)} {i : Nat} : ∀ {vs : List Nat}, i ∉ vs → (wipeE e vs)[i]? = e[i]?
  | [], _ => rfl
  | v :: vs, h => by
    simp only [List.mem_cons, not_or] at h
    unfold wipeE
    rw [List.getElem?_set_ne (fun z => h.1 z.symm)]
    exact wipeE_out h.2
theorem wipeE_len (e : List (Option Slot)) : ∀ vs : List Nat, (wipeE e vs).length = e.length
  | [] => rfl
  | v :: vs => by unfold wipeE; rw [List.length_set, wipeE_len e vs]
theorem wipeE_in {e : List (Option Slot)} {i : Nat} {x : Slot} : ∀ {vs : List Nat}, (wipeE e vs)[i]? = some (some x) → i ∉ vs ∧ e[i]? = some (some x)
  | [], h => ⟨by simp, h⟩
  | v :: vs, h => by
    unfold wipeE at h
    rcases envSet h with ⟨_, q, _⟩ | ⟨ne, h⟩
    · cases q
    · obtain ⟨h1, h2⟩ := wipeE_in h
      exact ⟨by simp only [List.mem_cons, not_or]; exact ⟨fun z => ne z.symm, h1⟩, h2⟩
theorem backE_out {o e : List (Option Slot)} {i : Nat} : ∀ {vs : List Nat}, i ∉ vs → (backE o e vs)[i]? = e[i]?
  | [], _ => rfl
  | v :: vs, h => by
    simp only [List.mem_cons, not_or] at h
    unfold backE
    rw [List.getElem?_set_ne (fun z => h.1 z.symm)]
    exact backE_out h.2
theorem backE_len (o e : List (Option Slot)) : ∀ vs : List Nat, (backE o e vs).length = e.length
  | [] => rfl
  | v :: vs => by unfold backE; rw [List.length_set, backE_len o e vs]
theorem backE_in {o e : List (Option Slot)} {i : Nat} {x : Slot} : ∀ {vs : List Nat}, (backE o e vs)[i]? = some (some x) → (i ∉ vs ∧ e[i]? = some (some x)) ∨ ∃ y, x = .v y ∧ o[i]? = some (some (.v y))
  | [], h => .inl ⟨by simp, h⟩
  | v :: vs, h => by
    unfold backE at h
    rcases envSet h with ⟨rfl, q, _⟩ | ⟨ne, h⟩
    · unfold valSl at q
      split at q
      · rename_i y hy
        cases q
        exact .inr ⟨y, rfl, hy⟩
      · cases q
    · rcases backE_in h with ⟨h1, h2⟩ | h
      · exact .inl ⟨by simp only [List.mem_cons, not_or]; exact ⟨fun z => ne z.symm, h1⟩, h2⟩
      · exact .inr h
theorem wipe_same {i : Nat} : ∀ {vs : List Nat}, i ∈ vs → i < σ.length → (wipe σ vs)[i]? = some none
  | [], h, _ => by simp at h
  | v :: vs, h, hi => by
    unfold wipe
    by_cases q : v = i
    · subst q
      rw [List.getElem?_set_self (by rw [wipe_length]; exact hi)]
    · rw [List.getElem?_set_ne q]
      exact wipe_same ((List.mem_cons.mp h).resolve_left fun z => q z.symm) hi
theorem wipe_eq {vs : List Nat} (hl : σ'.length = σ.length) (h : ∀ j, j ∉ vs → σ'[j]? = σ[j]?) : wipe σ' vs = wipe σ vs := by
  apply List.ext_getElem?
  intro j
  by_cases hj : j ∈ vs
  · by_cases hi : j < σ.length
    · rw [wipe_same hj hi, wipe_same hj (by rw [hl]; exact hi)]
    · rw [List.getElem?_eq_none (by rw [wipe_length]; omega), List.getElem?_eq_none (by rw [wipe_length]; omega)]
  · rw [wipe_out hj, wipe_out hj, h j hj]
theorem wipe_wipe (vs : List Nat) : wipe (wipe σ vs) vs = wipe σ vs := wipe_eq (wipe_length σ vs) fun j hj => wipe_out hj
theorem Sit.wipe (S : Sit p s σ H) (vs : List Nat) : Sit p { s with env := wipeE s.env vs } (L2.wipe σ vs) H := by
  refine ⟨S.hr, by rw [wipe_length]; show σ.length = (wipeE s.env vs).length; rw [wipeE_len]; exact S.len, fun i x e => ?_, fun i c e => ?_, fun i j c d b e1 e2 f1 f2 => ?_⟩
  · obtain ⟨h1, h2⟩ := wipeE_in e
    obtain ⟨v, h3, h4⟩ := S.var i x h2
    exact ⟨v, by rw [wipe_out h1]; exact h3, h4⟩
  · obtain ⟨h1, h2⟩ := wipeE_in e
    obtain ⟨a, u, h3, h4⟩ := S.own i c h2
    exact ⟨a, u, by rw [wipe_out h1]; exact h3, h4⟩
  · obtain ⟨h1, h2⟩ := wipeE_in e1
    obtain ⟨h3, h4⟩ := wipeE_in e2
    rw [wipe_out h1] at f1
    rw [wipe_out h3] at f2
    exact S.ne i j c d b h2 h4 f1 f2
/-- a thing that nobody holds changes -/
def addF (p : Pl) (a : Addr) : Pl := ⟨p.K, p.F, p.live, p.ρ, a :: p.ω⟩
theorem addF_hb {a : Addr} (hF : p.F a) : ∀ b, H b ≠ none → b ∉ p.ρ → b ∉ p.ω → ¬ p.F b → b ∉ (addF p a).ω ∧ ¬ (addF p a).F b := fun b _ _ h2 h3 => ⟨fun z => (List.mem_cons.mp z).elim (fun z => h3 (by rw [z]; exact hF)) h2, h3⟩
theorem addF_bh {a : Addr} : ∀ b, H b ≠ none → b ∉ (addF p a).ρ → b ∉ (addF p a).ω → ¬ (addF p a).F b → b ∉ p.ω ∧ ¬ p.F b := fun b _ _ h2 h3 => ⟨fun z => h2 (List.mem_cons_of_mem _ z), h3⟩
theorem addF_mu {a : Addr} (mu : MuOk p H) (ha : ∃ u, H a = some u ∧ isMut u = true) : MuOk (addF p a) H := fun b hb => by
  rcases hb with hb | hb
  · exact mu b (.inl hb)
  · rcases List.mem_cons.mp hb with rfl | hb
    · exact ha
    · exact mu b (.inr hb)
theorem addF_stp {a : Addr} {w : HO} : Stp (addF p a) H (addF p a) (upd H a w) := Stp.own_upd List.mem_cons_self
section
variable {a : Addr} {w : HO} (hF : p.F a) (mu : MuOk p H) (ha : ∃ u, H a = some u ∧ isMut u = true)
include hF mu ha
theorem updF_v {x : MV} {v : V} (h : RV p H x v) : RV p (upd H a w) x v :=
  (RV.keepM (addF_mu mu ha) addF_stp x v (h.re (addF p a) rfl rfl (addF_hb hF))).re p rfl rfl addF_bh
theorem updF_vs {x : List MV} {v : List V} (h : RVs p H x v) : RVs p (upd H a w) x v :=
  (RVs.keepM (addF_mu mu ha) addF_stp x v (h.re (addF p a) rfl rfl (addF_hb hF))).re p rfl rfl addF_bh
theorem updF_c {c : Cn} {u : HO} (h : RC p H c u) : RC p (upd H a w) c u :=
  (RC.keepM (addF_mu mu ha) addF_stp (h.re (addF p a) rfl rfl (addF_hb hF))).re p rfl rfl addF_bh
end
theorem Sit.updF {a : Addr} {w : HO} (S : Sit p s σ H) (hF : p.F a) (hw : isMut w = true) : Sit p s σ (upd H a w) := by
  have mu := S.hr.muOk
  have ha := S.hr.mu a (.inr (.inr hF))
  have nn := S.hr.ap a hF
  refine ⟨⟨S.hr.live, S.hr.len, S.hr.nd, fun l j b d e1 e2 e3 => ?_, fun b hb => ?_, S.hr.ap, S.hr.ap2⟩, S.len, fun j x ej => ?_, fun j d' ej => ?_, S.ne⟩
  · obtain ⟨w', hw', rc⟩ := S.hr.at_ l j b d e1 e2 e3
    have hb : b ≠ a := fun z => nn.1 (by rw [← z]; exact List.mem_of_getElem? e2)
    exact ⟨w', by rw [upd_ne hb]; exact hw', updF_c hF mu ha rc⟩
  · by_cases q : b = a
    · subst q; exact ⟨w, upd_same, hw⟩
    · obtain ⟨w', hw', m⟩ := S.hr.mu b hb
      exact ⟨w', by rw [upd_ne q]; exact hw', m⟩
  · obtain ⟨v, k1, k2⟩ := S.var j x ej
    exact ⟨v, k1, updF_v hF mu ha k2⟩
  · obtain ⟨b, w', k1, k2, k3, k4⟩ := S.own j d' ej
    have hb : b ≠ a := fun z => nn.2 (by rw [← z]; exact k2)
    exact ⟨b, w', k1, k2, by rw [upd_ne hb]; exact k3, updF_c hF mu ha k4⟩
theorem Stp.updN {a : Addr} {w : HO} (st : Stp p H p' G) (ha : H a = none) : Stp p H p' (upd G a w) :=
  ⟨st.K, st.F, st.live, fun b o h1 h2 h3 => by rw [upd_ne (ne_of_none h1 ha)]; exact st.keep b o h1 h2 h3, st.grow, st.own, fun b hb => by
    by_cases q : b = a
    · subst q; rw [upd_same]; simp
    · rw [upd_ne q]; exact st.lasts b hb⟩
end
/-! ### comprehension -/
def liftG (K : PySem.W.Frag) (g : G) : TG := fun v σ H Q => ∃ p s s' x, p.K = K ∧ Sit p s σ H ∧ RV p H x v ∧ bindG g x s = .ok () s' ∧
  ∀ σ', Sit p s' σ' H → σ'.length = σ.length → (∀ j, j ∉ slotsG g → σ'[j]? = σ[j]?) → Q σ' H
theorem PG.imp {X : Cx} {e : Expr} {t t' : TG} (h : PG X e t) (i : ∀ v σ H Q, t' v σ H Q → t v σ H Q) : PG X e t' := ⟨fun pins s σ H v u Q I r q => h.run pins s σ H v u Q I r (i v σ H Q q)⟩
theorem GOk.lift {X : Cx} {g : G} {e : Expr} (h : GOk X g e) : PG X e (liftG X.K g) := by
  obtain ⟨t, h1, h2⟩ := h
  exact PG.imp h1 fun v σ H Q ⟨p, s, s', x, hK, S, rv, eb, q⟩ => h2 p s s' σ H x v Q hK S rv eb q
section
variable {C : Cfg} {D : Fns} {k : Nat} {N : List Str} {sc : Scope} {X : Cx} {xv : XV} {W : WX} {pos : Pos} {tg : Expr}
theorem mapC_nil {own : List Nat} {g : MV → M Unit} {c : M Bool} {e : M MV} {acc ys : List MV} {s s2 : S} (h : mapC own g c e [] acc s = .ok ys s2) : acc = ys ∧ s = s2 := by
  unfold mapC at h
  rw [ret_eq] at h
  injection h with h1 h2
  exact ⟨h1, h2⟩
theorem mapC_cons {own : List Nat} {g : MV → M Unit} {c : M Bool} {e : M MV} {x : MV} {r acc ys : List MV} {s s2 : S} (h : mapC own g c e (x :: r) acc s = .ok ys s2) :
    ∃ s3 b s4, g x { s with env := wipeE s.env own } = .ok () s3 ∧ c s3 = .ok b s4 ∧ ((b = true ∧ ∃ y s5, e s4 = .ok y s5 ∧ acc.length < sizeLine ∧ mapC own g c e r (acc ++ [y]) s5 = .ok ys s2) ∨ (b = false ∧ mapC own g c e r acc s4 = .ok ys s2)) := by
  unfold mapC at h
  rw [bnd_eq] at h
  simp only [wipeS] at h
  rw [bnd_eq] at h
  split at h
  · rename_i u s3 e3
    rw [bnd_eq] at h
    split at h
    · rename_i b s4 e4
      refine ⟨s3, b, s4, e3, e4, ?_⟩
      cases b with
      | true =>
        simp only [if_true] at h
        rw [bnd_eq] at h
        split at h
        · rename_i y s5 e5
          split at h
          · rename_i hl
            exact .inl ⟨rfl, y, s5, e5, hl, h⟩
          · cases h
        · cases h
        · cases h
      | false =>
        simp only [Bool.false_eq_true, if_false] at h
        exact .inr ⟨rfl, h⟩
    · cases h
    · cases h
  · cases h
  · cases h
theorem lc_in {K : PySem.W.Frag} {g : G} {v : ItV} {c e : E} {vs : List Nat} {xv' : XV} {W' : WX} {J : It} (hsub : ∀ j ∈ slotsG g, j ∈ vs) {p1 : Pl} {s1 : S} {σ : L2.St} {H1 : Hp} {Q : VK} (hK : p1.K = K) (S1 : Sit p1 s1 σ H1) (w1 : iR p1 H1 v J)
    (o1 : OutF xv W p1 H1 σ Q (lcM vs (bindG g) (tstE D c) (denE D e) (itemsOf v) s1)) : tLc (fun _ H R => R J H) (liftG K g) (lift rB K xv' W' (tstE D c)) (lift rE K xv' W' (denE D e)) vs σ H1 Q := by
  intro Dn hD
  unfold lcM at o1
  split at o1
  · rename_i ys s2 hm
    obtain ⟨Y, wk, hy⟩ := w1.2 Dn hD
    have hF1 : (bar p1 Dn).F Dn := .inr rfl
    refine lc_it wk (fun i G => ∃ p' s' acc ws, Stp (bar p1 Dn) H1 p' G ∧ Sit p' { s' with env := wipeE s'.env vs } (wipe σ vs) G ∧ G Dn = some (.lst ws) ∧ RVs p' G acc ws ∧ mapC vs (bindG g) (tstE D c) (denE D e) ((itemsOf v).drop i) acc s' = .ok ys s2)
      ⟨bar p1 Dn, s1, [], [], Stp.new hD, (S1.laid hD rfl).wipe vs, upd_same, .nil, hm⟩ (fun i G hi ⟨p', s', acc, ws, st, _⟩ => ⟨p', st⟩) ?_ ?_
    · rintro i x G G' hi ⟨p', s', acc, ws, st, S', hG, rv, hm'⟩ yy
      obtain ⟨y, hyi, sty, rvy, Sy⟩ := hy i G x G' p' st S'.hr.muOk yy
      have hlt : i < (itemsOf v).length := hi
      have hgi : (itemsOf v)[i] = y := by rw [List.getElem?_eq_getElem hlt] at hyi; exact Option.some.inj hyi
      rw [List.drop_eq_getElem_cons hlt, hgi] at hm'
      obtain ⟨s3, b, s4, e3, e4, hb⟩ := mapC_cons hm'
      have S'' := Sy _ _ S'
      have hFD : p'.F Dn := by rw [st.F]; exact hF1
      have nn := S''.hr.ap Dn hFD
      have hG' : G' Dn = some (.lst ws) := sty.keep Dn _ hG (fun _ => nn.1) nn.2
      have hKp : p'.K = K := by rw [st.K]; exact hK
      have stY : Stp (bar p1 Dn) H1 p' G' := st.trans sty
      refine ⟨p', _, s3, y, hKp, S'', rvy, e3, fun σ2 S2 l2 k2 => ⟨?_, ?_⟩⟩
      · rw [wipe_eq (l2) (fun j hj => k2 j fun z => hj (hsub j z)), wipe_wipe]
      have hw2 : wipe σ2 vs = wipe σ vs := by rw [wipe_eq (l2) (fun j hj => k2 j fun z => hj (hsub j z)), wipe_wipe]
      refine ⟨p', s3, hKp, S2, ?_⟩
      rw [e4]
      intro b' p3 H3 st3 S3 rb
      have rb' : b = b' := rb
      subst rb'
      have hF3 : p3.F Dn := by rw [st3.F]; exact hFD
      have nn3 := S3.hr.ap Dn hF3
      have hG3 : H3 Dn = some (.lst ws) := st3.keep Dn _ hG' (fun _ => nn.1) nn.2
      rcases hb with ⟨rfl, y2, s5, e5, hl, hm5⟩ | ⟨rfl, hm5⟩
      · simp only [if_true]
        refine ⟨p3, s4, by rw [st3.K]; exact hKp, S3, ?_⟩
        rw [e5]
        intro v4 p4 H4 st4 S4 rv4
        have hF4 : p4.F Dn := by rw [st4.F]; exact hF3
        have hG4 : H4 Dn = some (.lst ws) := st4.keep Dn _ hG3 (fun _ => nn3.1) nn3.2
        have mu4 := S4.hr.muOk
        have ha4 : ∃ u, H4 Dn = some u ∧ isMut u = true := ⟨_, hG4, rfl⟩
        have rvA : RVs p4 H4 (acc ++ [y2]) (ws ++ [v4]) := (RVs.keepM S3.hr.muOk st4 _ _ (RVs.keepM S2.hr.muOk st3 _ _ (RVs.keepM S'.hr.muOk sty _ _ rv))).app (.one rv4)
        refine ⟨ws, hG4, by rw [rv.len]; exact hl, p4, s5, acc ++ [y2], ws ++ [v4], ((stY.trans st3).trans st4).updN hD, ?_, upd_same, updF_vs hF4 mu4 ha4 rvA, hm5⟩
        have := (S4.updF (w := .lst (ws ++ [v4])) hF4 rfl).wipe vs
        rw [hw2] at this
        exact this
      · simp only [Bool.false_eq_true, if_false]
        refine ⟨p3, s4, acc, ws, stY.trans st3, ?_, hG3, RVs.keepM S2.hr.muOk st3 _ _ (RVs.keepM S'.hr.muOk sty _ _ rv), hm5⟩
        have := S3.wipe vs
        rw [hw2] at this
        exact this
    · rintro G ⟨p', s', acc, ws, st, S', hG, rv, hm'⟩
      rw [List.drop_length] at hm'
      obtain ⟨rfl, rfl⟩ := mapC_nil hm'
      have hF : p'.F = fun b => p1.F b ∨ b = Dn := st.F
      have hp : bar ⟨p'.K, p1.F, p'.live, p'.ρ, p'.ω⟩ Dn = p' := by
        unfold bar
        cases p' with
        | mk K F l r o => simp only at hF; subst hF; rfl
      have rcl : RC p' G (.l acc) (.lst ws) := ⟨ws, rfl, rv⟩
      refine o1 Dn (.lst ws) ⟨p'.K, p1.F, p'.live, p'.ρ, p'.ω⟩ G ⟨st.K, rfl, st.live, st.keep, st.grow, st.own, st.lasts⟩ ?_ hG (by rw [hp]; exact rcl) hD
      rw [hp]
      refine ⟨S'.hr, ?_, fun j x ej => ?_, fun j d ej => ?_, fun j k2 d1 d2 b ej ek f1 f2 => ?_⟩
      · show σ.length = (backE s1.env s'.env vs).length
        have := S'.len
        rw [wipe_length] at this
        rw [backE_len, this]
        exact wipeE_len _ _
      · rcases backE_in ej with ⟨n1, h1⟩ | ⟨y, q, h1⟩
        · obtain ⟨v', k1, k3⟩ := S'.var j x (by show (wipeE s'.env vs)[j]? = _; rw [wipeE_out n1]; exact h1)
          rw [wipe_out n1] at k1
          exact ⟨v', k1, k3⟩
        · cases q
          obtain ⟨v', k1, k3⟩ := S1.var j x h1
          exact ⟨v', k1, RV.keepM S1.hr.muB st x v' (k3.re (bar p1 Dn) rfl rfl (bar_hb hD))⟩
      · rcases backE_in ej with ⟨n1, h1⟩ | ⟨y, q, h1⟩
        · obtain ⟨b, u, k1, k3⟩ := S'.own j d (by show (wipeE s'.env vs)[j]? = _; rw [wipeE_out n1]; exact h1)
          rw [wipe_out n1] at k1
          exact ⟨b, u, k1, k3⟩
        · cases q
      · rcases backE_in ej with ⟨n1, h1⟩ | ⟨y, q, h1⟩
        · rcases backE_in ek with ⟨n2, h2⟩ | ⟨y, q, h2⟩
          · exact S'.ne j k2 d1 d2 b (by show (wipeE s'.env vs)[j]? = _; rw [wipeE_out n1]; exact h1) (by show (wipeE s'.env vs)[k2]? = _; rw [wipeE_out n2]; exact h2) (by rw [wipe_out n1]; exact f1) (by rw [wipe_out n2]; exact f2)
          · cases q
        · cases q
  · exact o1.elim
theorem lc_imp {K : PySem.W.Frag} {g : G} {it : I} {c e : E} {vs : List Nat} {xv' : XV} {W' : WX} (hsub : ∀ j ∈ slotsG g, j ∈ vs) {σ : L2.St} {H : Hp} {Q : VK} (hh : liftF K xv W (denF D (.lc g vs it c e)) σ H Q) :
    tLc (lift iR K xv W (denI D it)) (liftG K g) (lift rB K xv' W' (tstE D c)) (lift rE K xv' W' (denE D e)) vs σ H Q := by
  obtain ⟨p, s, hK, S, o⟩ := hh
  simp only [denF] at o
  exact ⟨p, s, hK, S, OutF.bnd (r' := iR) o fun v s1 J p1 H1 _ st1 S1 w1 o1 => lc_in hsub (by rw [st1.K]; exact hK) S1 w1 o1⟩
theorem snd_lc {g : G} {it : I} {c e : E} {elt iter : Expr} {ifs : List Expr} {scope : Scope} {own : List (Str × Nat)} {xv' : XV} {W' : WX} (A : At C D k N sc X xv W) (hi : IOk D X xv W it tg iter) (ok : BlkOk X.N X.env.scope scope own)
    (hg : ∀ (s : Shared) (H : Hp) (C : Addr) (cl : List (Str × Addr)) (fp : List Addr), GOk (X.blk s H scope (compEnvC scope cl C X.env) fp) g tg)
    (ht : ∀ (s : Shared) (H : Hp) (C : Addr) (cl : List (Str × Addr)) (fp : List Addr), PTs (X.blk s H scope (compEnvC scope cl C X.env) fp) ifs (lift rB X.K xv' W' (tstE D c)))
    (he : ∀ (s : Shared) (H : Hp) (C : Addr) (cl : List (Str × Addr)) (fp : List Addr), PE (X.blk s H scope (compEnvC scope cl C X.env) fp) elt (lift rE X.K xv' W' (denE D e)))
    (hsub : ∀ j ∈ slotsG g, j ∈ own.map (·.2)) (hs : ∀ x, foldedSetIterable iter X.env x = pure x) :
    PE X (.ListComp elt [⟨tg, iter, ifs, 0⟩] scope pos) (liftF X.K xv W (denF D (.lc g (own.map (·.2)) it c e))) :=
  PE.imp (pe_lc (g := liftG X.K g) A.calm (by rw [A.hN]; exact A.nd) hi ok (fun s H C cl fp => (hg s H C cl fp).lift) ht he hs) fun σ H Q h => lc_imp hsub h
/-- name = [..] on one line: the stores are swapped -/
theorem snd_lcN {g : G} {it : I} {c e : E} {elt iter : Expr} {ifs : List Expr} {scope : Scope} {own : List (Str × Nat)} {xv' : XV} {W' : WX} {i : Nat} {y : Str} {py spos : Pos} (A : At C D k N sc X xv W) (hy : N[i]? = some y) (hyl : sc.names.lookup y = some .local)
    (hk : sc.kind = .function) (hl : (py.line == pos.line) = true) (hn : (scope.names.any fun (n, k) => n == y && (k == .local || k == .cell)) = false)
    (hi : IOk D X xv W it tg iter) (ok : BlkOk X.N X.env.scope scope own)
    (hg : ∀ (s : Shared) (H : Hp) (C : Addr) (cl : List (Str × Addr)) (fp : List Addr), GOk (X.blk s H scope (compEnvC scope cl C X.env) fp) g tg)
    (ht : ∀ (s : Shared) (H : Hp) (C : Addr) (cl : List (Str × Addr)) (fp : List Addr), PTs (X.blk s H scope (compEnvC scope cl C X.env) fp) ifs (lift rB X.K xv' W' (tstE D c)))
    (he : ∀ (s : Shared) (H : Hp) (C : Addr) (cl : List (Str × Addr)) (fp : List Addr), PE (X.blk s H scope (compEnvC scope cl C X.env) fp) elt (lift rE X.K xv' W' (denE D e)))
    (hsub : ∀ j ∈ slotsG g, j ∈ own.map (·.2)) (hs : ∀ x, foldedSetIterable iter X.env x = pure x) :
    PS X (.Assign [.Name y py] (.ListComp elt [⟨tg, iter, ifs, 0⟩] scope pos) spos) (tAsg (liftF X.K xv W (denF D (.lc g (own.map (·.2)) it c e))) (gName i)) := by
  have hsc := A.scp
  have h := ps_setLc (g := liftG X.K g) (spos := spos) (py := py) (pos := pos) (i := i) (y := y) A.calm (by rw [A.hN]; exact A.nd) (by rw [A.hN]; exact hy) (by rw [hsc]; exact hyl) (sw_true (by rw [hsc]; exact hk) (by rw [hsc]; exact hyl) hl hn) hi ok (fun s H C cl fp => (hg s H C cl fp).lift) ht he hs
  exact ⟨fun pins s σ H T I q => h.run pins s σ H T I (lc_imp hsub q)⟩
end
end Py

-- text PyS
set_option Elab.async false
set_option linter.all false
set_option maxRecDepth 100000
set_option maxHeartbeats 4000000
namespace Py
open PySem PySem.Spec PyProof.Rows L2
/-! ### statements -/
def OutS (xv : XV) (W : WX) (p : Pl) (H : Hp) (T : Ends) : R Fl → Prop
  | .ex c vs s => ∀ σ' cls d p' H', Stp p H p' H' → Sit p' s σ' H' → xv p' H' c vs cls d → W cls d σ' H'
  | .ok .nx s => ∀ σ' p' H', Stp p H p' H' → Sit p' s σ' H' → T.nx σ' H'
  | .ok .bk s => ∀ σ' p' H', Stp p H p' H' → Sit p' s σ' H' → T.bk σ' H'
  | .ok .ct s => ∀ σ' p' H', Stp p H p' H' → Sit p' s σ' H' → T.ct σ' H'
  | .ok (.rt x) s => ∀ σ' v p' H', Stp p H p' H' → Sit p' s σ' H' → RV p' H' x v → T.rt v H'
  | _ => False
def liftS (K : PySem.W.Frag) (xv : XV) (W : WX) (m : M Fl) : TS := fun T σ H => ∃ p s, p.K = K ∧ Sit p s σ H ∧ OutS xv W p H T (m s)
section
variable {p p' : Pl} {H H' : Hp} {T T' : Ends} {xv : XV} {W : WX} {σ : L2.St}
theorem OutS.mono {x : R Fl} (st : Stp p H p' H') (o : OutS xv W p H T x) : OutS xv W p' H' T x := by
  cases x with
  | ok f s =>
    cases f with
    | nx => exact fun σ' q G st2 S => o σ' q G (st.trans st2) S
    | bk => exact fun σ' q G st2 S => o σ' q G (st.trans st2) S
    | ct => exact fun σ' q G st2 S => o σ' q G (st.trans st2) S
    | rt x => exact fun σ' v q G st2 S => o σ' v q G (st.trans st2) S
  | ex c vs s => exact fun σ' cls d q G st2 S => o σ' cls d q G (st.trans st2) S
  | no => exact o
theorem OutS.bnd {α β : Type} {r : Pl → Hp → α → β → Prop} {Q : β → Hp → Prop} {ma : M α} {k : α → M Fl} {s : S} (o : OutS xv W p H T ((ma >>= k) s))
    (h : ∀ x s' v p' H', ma s = .ok x s' → Stp p H p' H' → Sit p' s' σ H' → r p' H' x v → OutS xv W p' H' T (k x s') → Q v H') : Out r xv W p H σ Q (ma s) := by
  rw [bnd_eq] at o
  cases e : ma s with
  | ok x s' => rw [e] at o; exact fun v p' H' st S rv => h x s' v p' H' e st S rv (o.mono st)
  | ex c vs s' => rw [e] at o; exact fun cls d p' H' st S rx => o σ cls d p' H' st S rx
  | no => rw [e] at o; exact o.elim
theorem OutS.bndF {ma : M Cn} {k : Cn → M Fl} {s : S} {Q : VK} (o : OutS xv W p H T ((ma >>= k) s))
    (h : ∀ c s' a u p' H', ma s = .ok c s' → Stp p H p' H' → Sit (bar p' a) s' σ H' → H' a = some u → RC (bar p' a) H' c u → H a = none → OutS xv W p H T (k c s') → Q (.ref a) H') : OutF xv W p H σ Q (ma s) := by
  rw [bnd_eq] at o
  cases e : ma s with
  | ok x s' => rw [e] at o; exact fun a u p' H' st S hu rc ha => h x s' a u p' H' e st S hu rc ha o
  | ex c vs s' => rw [e] at o; exact fun cls d p' H' st S rx => o σ cls d p' H' st S rx
  | no => rw [e] at o; exact o.elim
theorem OutS.seq {m : M Fl} {k : Fl → M Fl} {s : S} (o : OutS xv W p H T ((m >>= k) s))
    (hn : ∀ s' σ' p' H', Stp p H p' H' → Sit p' s' σ' H' → OutS xv W p' H' T (k .nx s') → T'.nx σ' H')
    (hb : ∀ s' σ' p' H', Stp p H p' H' → Sit p' s' σ' H' → OutS xv W p' H' T (k .bk s') → T'.bk σ' H')
    (hc : ∀ s' σ' p' H', Stp p H p' H' → Sit p' s' σ' H' → OutS xv W p' H' T (k .ct s') → T'.ct σ' H')
    (hr : ∀ x s' σ' v p' H', Stp p H p' H' → Sit p' s' σ' H' → RV p' H' x v → OutS xv W p' H' T (k (.rt x) s') → T'.rt v H') : OutS xv W p H T' (m s) := by
  rw [bnd_eq] at o
  cases e : m s with
  | ok f s' =>
    rw [e] at o
    cases f with
    | nx => exact fun σ' q G st S => hn s' σ' q G st S (o.mono st)
    | bk => exact fun σ' q G st S => hb s' σ' q G st S (o.mono st)
    | ct => exact fun σ' q G st S => hc s' σ' q G st S (o.mono st)
    | rt x => exact fun σ' v q G st S rv => hr x s' σ' v q G st S rv (o.mono st)
  | ex c vs s' => rw [e] at o; exact o
  | no => rw [e] at o; exact o.elim
mutual
theorem bindG_nex : ∀ (g : G) (x : MV) (s s' : S) (c : Nat) (vs : List MV), bindG g x s ≠ .ex c vs s'
  | .nm i, x, s, s', c, vs, e => by simp only [bindG, setSl] at e; cases e
  | .row g, x, s, s', c, vs, e => by
    cases x with
    | tup xs => simp only [bindG] at e; exact bindGs_nex g xs s s' c vs e
    | _ => simp only [bindG] at e; cases e
  | .nil, x, s, s', c, vs, e => by simp only [bindG] at e; cases e
  | .cons _ _, x, s, s', c, vs, e => by simp only [bindG] at e; cases e
theorem bindGs_nex : ∀ (g : G) (xs : List MV) (s s' : S) (c : Nat) (vs : List MV), bindGs g xs s ≠ .ex c vs s'
  | .nil, xs, s, s', c, vs, e => by cases xs <;> simp only [bindGs] at e <;> cases e
  | .cons g r, xs, s, s', c, vs, e => by
    cases xs with
    | nil => simp only [bindGs] at e; cases e
    | cons x t =>
      simp only [bindGs] at e
      rw [bnd_eq] at e
      split at e
      · exact bindGs_nex r t _ s' c vs e
      · rename_i h; exact bindG_nex g x s _ _ _ h
      · cases e
  | .nm _, xs, s, s', c, vs, e => by simp only [bindGs] at e; cases e
  | .row _, xs, s, s', c, vs, e => by simp only [bindGs] at e; cases e
end
theorem bnd_asc {α β γ : Type} (m : M α) (f : α → M β) (g : β → M γ) : ((m >>= f) >>= g) = (m >>= fun x => f x >>= g) := by
  funext s
  simp only [bnd_eq]
  cases m s <;> rfl
end
section
variable {C : Cfg} {D : Fns} {k : Nat} {N : List Str} {sc : Scope} {X : Cx} {xv : XV} {W : WX} {pos : Pos}
theorem _root_.L2.PS.imp {st : Stmt} {t t' : TS} (h : PS X st t) (i : ∀ T σ H, t' T σ H → t T σ H) : PS X st t' := ⟨fun pins s σ H T I q => h.run pins s σ H T I (i T σ H q)⟩
theorem _root_.L2.PSs.imp {st : List Stmt} {t t' : TS} (h : PSs X st t) (i : ∀ T σ H, t' T σ H → t T σ H) : PSs X st t' := ⟨fun pins s σ H T I q => h.run pins s σ H T I (i T σ H q)⟩
/-- target = value -/
theorem snd_asgS {st : Stmt} {g : G} {e : E} (h : PS X st (tAsg (lift rE X.K xv W (denE D e)) (liftG X.K g))) : PS X st (liftS X.K xv W (denS D (.asg g e))) := by
  refine h.imp fun T σ H ⟨p, s, hK, S, o⟩ => ?_
  simp only [denS] at o
  refine ⟨p, s, hK, S, OutS.bnd (r := rE) o fun x s1 v p1 H1 hz st1 S1 rv1 o1 => ?_⟩
  rw [bnd_eq] at o1
  cases e1 : bindG g x s1 with
  | ok u s2 => rw [e1] at o1; exact ⟨p1, s1, s2, x, by rw [st1.K]; exact hK, S1, rv1, e1, fun σ' S' _ _ => o1 σ' p1 H1 (Stp.refl _ _) S'⟩
  | ex c vs s2 => exact absurd e1 (bindG_nex _ _ _ _ _ _)
  | no => rw [e1] at o1; exact o1.elim
/-- a name gets a thing of its own -/
theorem snd_ownS {st : Stmt} {i : Nat} {f : FE} (h : PS X st (tAsg (liftF X.K xv W (denF D f)) (gName i))) : PS X st (liftS X.K xv W (denS D (.own i f))) := by
  refine h.imp fun T σ H ⟨p, s, hK, S, o⟩ => ?_
  simp only [denS] at o
  refine ⟨p, s, hK, S, OutS.bndF o fun c s1 a u p1 H1 hz st1 S1 hu rc ha o1 => ?_⟩
  have nF : ¬ p1.F a := by rw [st1.F]; exact (S.hr.fresh ha).2.2
  by_cases hi : i < s1.env.length
  · refine o1 _ (addω p1 a) H1 ⟨st1.K, st1.F, st1.live, st1.keep, st1.grow, fun b hb => ?_, st1.lasts⟩ (S1.toOwn hu rc nF hi)
    rcases List.mem_cons.mp hb with rfl | hb
    · exact .inr ha
    · exact st1.own b hb
  · have e1 : s1.env.set i (some (.o c)) = s1.env := List.set_eq_of_length_le (by omega)
    have e2 : σ.set i (some (V.ref a)) = σ := List.set_eq_of_length_le (by rw [S1.len]; omega)
    show T.nx (σ.set i (some (V.ref a))) H1
    rw [e2]
    refine o1 σ p1 H1 st1 ?_
    show Sit p1 { s1 with env := s1.env.set i (some (.o c)) } σ H1
    rw [e1]
    exact S1.unbar
def noC : Expr → Bool
  | .ListComp _ _ _ _ => false
  | .SetComp _ _ _ _ => false
  | .DictComp _ _ _ _ _ => false
  | _ => true
theorem noC_sw {value : Expr} {t : Option Expr} {l : Nat} {env : PySem.Env} (h : noC value = true) : swapsWith value t l env = pure false := by
  unfold swapsWith
  cases value <;> first | rfl | simp [noC] at h
theorem snd_expS {ex : Expr} {e : E} (hn : noC ex = true) (h : PE X ex (lift rE X.K xv W (denE D e))) : PS X (.Expr ex pos) (liftS X.K xv W (denS D (.exp e))) := by
  refine (ps_expr h (noC_sw hn)).imp fun T σ H ⟨p, s, hK, S, o⟩ => ?_
  simp only [denS] at o
  exact ⟨p, s, hK, S, OutS.bnd (r := rE) o fun x s1 v p1 H1 hz st1 S1 rv1 o1 => o1 σ p1 H1 (Stp.refl _ _) S1⟩
theorem snd_retS {ex : Expr} {e : E} (h : PE X ex (lift rE X.K xv W (denE D e))) : PS X (.Return (some ex) pos) (liftS X.K xv W (denS D (.ret e))) := by
  refine (ps_ret h).imp fun T σ H ⟨p, s, hK, S, o⟩ => ?_
  simp only [denS] at o
  exact ⟨p, s, hK, S, OutS.bnd (r := rE) o fun x s1 v p1 H1 hz st1 S1 rv1 o1 => o1 σ v p1 H1 (Stp.refl _ _) S1 rv1⟩
theorem snd_retN : PS X (.Return none pos) (liftS X.K xv W (denS D .retN)) := ps_retN.imp fun T σ H ⟨p, s, hK, S, o⟩ => o σ .non p H (Stp.refl _ _) S (by simp [RV])
theorem snd_pass : PS X (.Pass pos) (liftS X.K xv W (denS D .pass)) := ps_pass.imp fun T σ H ⟨p, s, hK, S, o⟩ => o σ p H (Stp.refl _ _) S
theorem snd_doc {x : Str} {j : Nat} {pos' : Pos} : PS X (.Expr (.Constant (.str x) j pos) pos') (liftS X.K xv W (denS D .pass)) := ps_doc.imp fun T σ H ⟨p, s, hK, S, o⟩ => o σ p H (Stp.refl _ _) S
theorem snd_brk : PS X (.Break pos) (liftS X.K xv W (denS D .brk)) := ps_break.imp fun T σ H ⟨p, s, hK, S, o⟩ => o σ p H (Stp.refl _ _) S
theorem snd_cont : PS X (.Continue pos) (liftS X.K xv W (denS D .cont)) := ps_continue.imp fun T σ H ⟨p, s, hK, S, o⟩ => o σ p H (Stp.refl _ _) S
theorem snd_nilS : PSs X [] (liftS X.K xv W (denS D .nil)) := pss_nil.imp fun T σ H ⟨p, s, hK, S, o⟩ => o σ p H (Stp.refl _ _) S
theorem snd_consS {a b : SS} {st : Stmt} {r : List Stmt} (h1 : PS X st (liftS X.K xv W (denS D a))) (h2 : PSs X r (liftS X.K xv W (denS D b))) : PSs X (st :: r) (liftS X.K xv W (denS D (.cons a b))) := by
  refine (pss_cons h1 h2).imp fun T σ H ⟨p, s, hK, S, o⟩ => ?_
  simp only [denS] at o
  refine ⟨p, s, hK, S, OutS.seq o (fun s' σ' p' H' st S' o' => ?_) (fun s' σ' p' H' st S' o' => ?_) (fun s' σ' p' H' st S' o' => ?_) (fun x s' σ' v p' H' st S' rv o' => ?_)⟩
  · exact ⟨p', s', by rw [st.K]; exact hK, S', o'⟩
  · exact o' σ' p' H' (Stp.refl _ _) S'
  · exact o' σ' p' H' (Stp.refl _ _) S'
  · exact o' σ' v p' H' (Stp.refl _ _) S' rv
theorem snd_oneS {a : SS} {st : Stmt} (h1 : PS X st (liftS X.K xv W (denS D a))) : PSs X [st] (liftS X.K xv W (denS D a)) := pss_one h1
theorem snd_ifS {ct : Expr} {c : E} {a b : SS} {x y : List Stmt} (hc : PT X ct (lift rB X.K xv W (tstE D c))) (h1 : PSs X x (liftS X.K xv W (denS D a))) (h2 : PSs X y (liftS X.K xv W (denS D b))) : PS X (.If ct x y pos) (liftS X.K xv W (denS D (.ife c a b))) := by
  refine (ps_if hc h1 h2).imp fun T σ H ⟨p, s, hK, S, o⟩ => ?_
  simp only [denS] at o
  refine ⟨p, s, hK, S, OutS.bnd (r := rB) o fun t s1 v p1 H1 hz st1 S1 rv1 o1 => ?_⟩
  have rv1 : t = v := rv1
  subst rv1
  cases t with
  | true => simp only [if_true] at o1 ⊢; exact ⟨p1, s1, by rw [st1.K]; exact hK, S1, o1⟩
  | false => simp only [Bool.false_eq_true, if_false] at o1 ⊢; exact ⟨p1, s1, by rw [st1.K]; exact hK, S1, o1⟩
theorem forS_cons {b : MV → M Fl} {x : MV} {r : List MV} : forS b (x :: r) = (b x >>= fun f => match f with | .nx => forS b r | .ct => forS b r | .bk => pure .nx | .rt v => pure (.rt v)) := rfl
theorem snd_forS {tg iter : Expr} {g : G} {it : I} {b : SS} {body : List Stmt} (A : At C D k N sc X xv W) (hp : PassesOwn (model X.prog X.w) X.A X.env X.xe) (hi : IOk D X xv W it tg iter) (hg : GOk X g tg) (hb : PSs X body (liftS X.K xv W (denS D b))) (hs : ∀ x, foldedSetIterable iter X.env x = pure x) :
    PS X (.For tg iter body [] pos) (liftS X.K xv W (denS D (.fr g it b))) := by
  refine (ps_for hp A.calm hi hg.lift hb hs).imp fun T σ H ⟨p, s, hK, S, o⟩ => ?_
  simp only [denS] at o
  refine ⟨p, s, hK, S, OutS.bnd (r := iR) o fun v s1 J p1 H1 hz st1 S1 w1 o1 => ?_⟩
  clear hz
  obtain ⟨Y, wk, hy⟩ := w1.1
  refine for_it wk (fun i σ G => ∃ p' s', Stp p1 H1 p' G ∧ Sit p' s' σ G ∧ OutS xv W p' G T (forS (fun x => do bindG g x; denS D b) ((itemsOf v).drop i) s')) ⟨p1, s1, Stp.refl _ _, S1, o1⟩ (fun i σ G hi ⟨p', s', st, _⟩ => ⟨p', st⟩) ?_ ?_
  · rintro i x σ1 G G' hi ⟨p', s', st, S', o'⟩ yy
    obtain ⟨y, hyi, sty, rvy, Sy⟩ := hy i G x G' p' st S'.hr.muOk yy
    have hlt : i < (itemsOf v).length := hi
    have hgi : (itemsOf v)[i] = y := by rw [List.getElem?_eq_getElem hlt] at hyi; exact Option.some.inj hyi
    rw [List.drop_eq_getElem_cons hlt, hgi, forS_cons, bnd_asc, bnd_eq] at o'
    have hKp : p'.K = X.K := by rw [st.K, st1.K]; exact hK
    cases eg : bindG g y s' with
    | ok u s2 =>
      rw [eg] at o'
      refine ⟨p', s', s2, y, hKp, Sy _ _ S', rvy, eg, fun σ2 S2 _ _ => ⟨p', s2, hKp, S2, OutS.seq (o'.mono sty) (fun s3 σ3 p3 H3 st3 S3 o3 => ?_) (fun s3 σ3 p3 H3 st3 S3 o3 => ?_) (fun s3 σ3 p3 H3 st3 S3 o3 => ?_) (fun x s3 σ3 w p3 H3 st3 S3 rv o3 => ?_)⟩⟩
      · exact ⟨p3, s3, (st.trans sty).trans st3, S3, o3⟩
      · exact o3 σ3 p3 H3 (Stp.refl _ _) S3
      · exact ⟨p3, s3, (st.trans sty).trans st3, S3, o3⟩
      · exact o3 σ3 w p3 H3 (Stp.refl _ _) S3 rv
    | ex c vs s2 => exact absurd eg (bindG_nex _ _ _ _ _ _)
    | no => rw [eg] at o'; exact o'.elim
  · rintro σ1 G ⟨p', s', st, S', o'⟩
    rw [List.drop_length] at o'
    exact o' σ1 p' G (Stp.refl _ _) S'
theorem snd_whlS {ct : Expr} {c : E} {b : SS} {body : List Stmt} (hp : PassesOwn (model X.prog X.w) X.A X.env X.xe) (hc : PT X ct (lift rB X.K xv W (tstE D c))) (hb : PSs X body (liftS X.K xv W (denS D b))) : PS X (.While ct body [] pos) (liftS X.K xv W (denS D (.whl c b))) := by
  refine (ps_while hp hc hb).imp fun T σ H ⟨p, s, hK, S, o⟩ => ?_
  simp only [denS] at o
  refine ⟨fun m σ G => ∃ p' s', p'.K = X.K ∧ Sit p' s' σ G ∧ OutS xv W p' G T (whlS (tstE D c) (denS D b) m s'), ⟨fuelW, p, s, hK, S, o⟩, ?_⟩
  rintro m σ1 G ⟨p', s', hK', S', o'⟩
  cases m with
  | zero => exact o'.elim
  | succ m =>
    unfold whlS at o'
    refine ⟨p', s', hK', S', OutS.bnd (r := rB) o' fun t s1 v p1 H1 hz st1 S1 rv1 o1 => ?_⟩
    have rv1 : t = v := rv1
    subst rv1
    cases t with
    | true =>
      simp only [if_true] at o1 ⊢
      refine ⟨fun σ2 G2 => ∃ p' s', p'.K = X.K ∧ Sit p' s' σ2 G2 ∧ OutS xv W p' G2 T (whlS (tstE D c) (denS D b) m s'), fun σ2 G2 h => ⟨m, Nat.lt_succ_self m, h⟩, p1, s1, by rw [st1.K]; exact hK', S1, OutS.seq o1 (fun s3 σ3 p3 H3 st3 S3 o3 => ?_) (fun s3 σ3 p3 H3 st3 S3 o3 => ?_) (fun s3 σ3 p3 H3 st3 S3 o3 => ?_) (fun x s3 σ3 w p3 H3 st3 S3 rv o3 => ?_)⟩
      · exact ⟨p3, s3, by rw [st3.K, st1.K]; exact hK', S3, o3⟩
      · exact o3 σ3 p3 H3 (Stp.refl _ _) S3
      · exact ⟨p3, s3, by rw [st3.K, st1.K]; exact hK', S3, o3⟩
      · exact o3 σ3 w p3 H3 (Stp.refl _ _) S3 rv
    | false =>
      simp only [Bool.false_eq_true, if_false] at o1 ⊢
      exact o1 σ1 p1 H1 (Stp.refl _ _) S1
end
end Py

-- text PyT
set_option Elab.async false
set_option linter.all false
set_option maxRecDepth 100000
set_option maxHeartbeats 4000000
namespace Py
open PySem PySem.Spec PyProof.Rows L2
/-! ### which stores are swapped, told by the scope alone -/
def starX : Expr → Bool
  | .Starred .. => true
  | _ => false
def nmL (sc : Scope) (l : Nat) : Expr → Option Str
  | .Name x pos => if sc.names.lookup x == some .local && pos.line == l then some x else none
  | _ => none
def pairX (ts : List Expr) (value : Expr) : Option (List Expr × List Expr) := match ts, value with
  | [.Tuple ts _ _], .Tuple vs _ _ => some (ts, vs)
  | [.List ts _], .Tuple vs _ _ => some (ts, vs)
  | _, _ => none
def swapP (sc : Scope) (ts : List Expr) (value : Expr) : Option (Option (List Str)) := match pairX ts value with
  | none => some none
  | some (ts, vs) =>
    if !(ts.length == 2 || ts.length == 3) || vs.length != ts.length then some none
    else if vs.any starX then some none
    else
      let names := ts.filterMap (nmL sc ((ts.head?.map (·.pos.line)).getD 0))
      if names.length != ts.length || names.eraseDups.length != names.length then some none
      else if vs.all (foldedForSure 8) then some none
      else if vs.all (constantsAlone 8) then none
      else some (some names)
theorem swapP_core {env : PySem.Env} {ts vs : List Expr} {r : Option (List Str)} {T : List Expr} {value : Expr} (hk : env.scope.kind = .function) (hp : pairX T value = some (ts, vs)) (h : swapP env.scope T value = some r) (hsh : swappedStores T value env = (do
      if !(ts.length == 2 || ts.length == 3) || vs.length != ts.length || env.blockKind != .function then return none
      if vs.any (fun | .Starred .. => true | _ => false) then return none
      let line := (ts.head?.map (·.pos.line)).getD 0
      let names := ts.filterMap fun
        | .Name id pos => if env.kindOf id == some .local && pos.line == line then some id else none
        | _ => none
      if names.length != ts.length || names.eraseDups.length != names.length then return none
      if vs.all (foldedForSure 8) then return none
      if vs.all (constantsAlone 8) then unsupported "assign.tuple-of-constant-expressions:order-of-the-stores"
      return some names)) : swappedStores T value env = pure r := by
  have hb : env.blockKind = .function := by unfold Env.blockKind; rw [hk]; rfl
  have hnm : ∀ l : Nat, (fun e : Expr => match e with | .Name id pos => if (env.kindOf id == some .local && pos.line == l) = true then some id else none | _ => none) = nmL env.scope l := by intro l; funext e; cases e <;> rfl
  have hst : (fun e : Expr => match e with | .Starred .. => true | _ => false) = starX := by funext e; cases e <;> rfl
  rw [hsh]
  unfold swapP at h
  rw [hp] at h
  simp only [hb, bne_self_eq_false, Bool.or_false, hst] at h ⊢
  split at h
  · rename_i c
    rw [if_pos c]; cases h; rfl
  · rename_i c
    rw [if_neg c]
    split at h
    · rename_i c2
      rw [if_pos c2]; cases h; rfl
    · rename_i c2
      rw [if_neg c2]
      simp only [hnm]
      split at h
      · rename_i c3
        rw [if_pos c3]; cases h; rfl
      · rename_i c3
        rw [if_neg c3]
        split at h
        · rename_i c4
          rw [if_pos c4]; cases h; rfl
        · rename_i c4
          rw [if_neg c4]
          split at h
          · cases h
          · rename_i c5
            rw [if_neg c5]; cases h; rfl
theorem swapP_ok {env : PySem.Env} {T : List Expr} {value : Expr} {r : Option (List Str)} (hk : env.scope.kind = .function) (h : swapP env.scope T value = some r) : swappedStores T value env = pure r := by
  cases hp : pairX T value with
  | some q =>
    obtain ⟨ts, vs⟩ := q
    refine swapP_core hk hp h ?_
    unfold pairX at hp
    split at hp
    · cases hp; rfl
    · cases hp; rfl
    · cases hp
  | none =>
    have hr : r = none := by unfold swapP at h; rw [hp] at h; cases h; rfl
    subst hr
    unfold swappedStores
    clear h
    rcases T with _ | ⟨t, _ | ⟨t2, T⟩⟩
    · rfl
    · cases t <;> first | rfl | (cases value <;> first | rfl | (simp [pairX] at hp))
    · cases t <;> first | rfl | (cases value <;> rfl)
end Py

-- text PyU
set_option Elab.async false
set_option linter.all false
set_option maxRecDepth 100000
set_option maxHeartbeats 4000000
namespace Py
open PySem PySem.Spec PyProof.Rows L2
section
variable {C : Cfg} {D : Fns} {k : Nat} {N : List Str} {sc : Scope} {X : Cx} {xv : XV} {W : WX} {pos : Pos}
/-! ### several names at once -/
def bars : Pl → List Addr → Pl
  | p, [] => p
  | p, a :: as => bars (bar p a) as
/-- what was computed and waits to be stored -/
def HeldR (q : Pl) (H : Hp) : List Slot → List V → List Addr → Prop
  | [], ws, as => ws = [] ∧ as = []
  | .v x :: sl, ws, as => ∃ w r, ws = w :: r ∧ RV q H x w ∧ HeldR q H sl r as
  | .o c :: sl, ws, as => ∃ a u r bs, ws = .ref a :: r ∧ as = a :: bs ∧ a ∉ bs ∧ H a = some u ∧ RC q H c u ∧ HeldR q H sl r bs
theorem bars_K (p : Pl) : ∀ as : List Addr, (bars p as).K = p.K ∧ (bars p as).ρ = p.ρ ∧ (bars p as).ω = p.ω ∧ (bars p as).live = p.live
  | [] => ⟨rfl, rfl, rfl, rfl⟩
  | a :: as => bars_K (bar p a) as
theorem bars_F : ∀ (as : List Addr) (p : Pl) (b : Addr), (bars p as).F b ↔ p.F b ∨ b ∈ as
  | [], p, b => by simp [bars]
  | a :: as, p, b => by
    show (bars (bar p a) as).F b ↔ _
    rw [bars_F as (bar p a) b]
    show (p.F b ∨ b = a) ∨ b ∈ as ↔ _
    simp only [List.mem_cons, or_assoc]
theorem pl_ext {p q : Pl} (h1 : p.K = q.K) (h2 : ∀ b, p.F b ↔ q.F b) (h3 : p.live = q.live) (h4 : p.ρ = q.ρ) (h5 : p.ω = q.ω) : p = q := by
  cases p; cases q
  simp only [Pl.mk.injEq] at *
  exact ⟨h1, funext fun b => propext (h2 b), h3, h4, h5⟩
theorem bars_bar (p : Pl) (a : Addr) (as : List Addr) : bars p (a :: as) = bar (bars p as) a := by
  obtain ⟨h1, h2, h3, h4⟩ := bars_K (bar p a) as
  obtain ⟨g1, g2, g3, g4⟩ := bars_K p as
  refine pl_ext (h1.trans g1.symm) (fun b => ?_) (h4.trans g4.symm) (h2.trans g2.symm) (h3.trans g3.symm)
  rw [bars_F]
  show _ ↔ (bars p as).F b ∨ b = a
  rw [bars_F]
  simp only [List.mem_cons]
  constructor
  · rintro (h | h | h)
    · exact .inl (.inl h)
    · exact .inr h
    · exact .inl (.inr h)
  · rintro ((h | h) | h)
    · exact .inl h
    · exact .inr (.inr h)
    · exact .inr (.inl h)
theorem addω_bars (p : Pl) (a : Addr) (as : List Addr) : addω (bars p as) a = bars (addω p a) as := by
  obtain ⟨h1, h2, h3, h4⟩ := bars_K (addω p a) as
  obtain ⟨g1, g2, g3, g4⟩ := bars_K p as
  refine pl_ext (g1.trans h1.symm) (fun b => ?_) (g4.trans h4.symm) (g2.trans h2.symm) ?_
  · show (bars p as).F b ↔ _
    rw [bars_F, bars_F]; exact Iff.rfl
  · show a :: (bars p as).ω = _
    rw [g3, h3]; rfl
theorem HeldR.re {q q' : Pl} {H : Hp} (hK : q'.K = q.K) (hρ : q'.ρ = q.ρ) (hb : ∀ a, H a ≠ none → a ∉ q.ρ → a ∉ q.ω → ¬ q.F a → a ∉ q'.ω ∧ ¬ q'.F a) : ∀ {sl : List Slot} {ws : List V} {as : List Addr}, HeldR q H sl ws as → HeldR q' H sl ws as
  | [], ws, as, h => h
  | .v x :: sl, ws, as, h => by
    obtain ⟨w, r, e, h1, h2⟩ := h
    exact ⟨w, r, e, h1.re q' hK hρ hb, h2.re hK hρ hb⟩
  | .o c :: sl, ws, as, h => by
    obtain ⟨a, u, r, bs, e1, e2, n, e3, h1, h2⟩ := h
    exact ⟨a, u, r, bs, e1, e2, n, e3, h1.re q' hK hρ hb, h2.re hK hρ hb⟩
theorem bars_hb {p : Pl} {H : Hp} {as : List Addr} (fr : ∀ a ∈ as, H a = none) : ∀ b, H b ≠ none → b ∉ p.ρ → b ∉ p.ω → ¬ p.F b → b ∉ (bars p as).ω ∧ ¬ (bars p as).F b := fun b hb _ n2 n3 =>
  ⟨by rw [(bars_K p as).2.2.1]; exact n2, fun z => ((bars_F as p b).mp z).elim n3 fun m => hb (fr b m)⟩
theorem bars_stp {p q : Pl} {H G : Hp} {as : List Addr} (st : Stp p H q G) : Stp (bars p as) H (bars q as) G := by
  obtain ⟨h1, h2, h3, h4⟩ := bars_K p as
  obtain ⟨g1, g2, g3, g4⟩ := bars_K q as
  refine ⟨by rw [g1, h1]; exact st.K, funext fun b => propext ?_, by rw [g4, h4]; exact st.live, fun b o e n1 n2 => st.keep b o e (fun z => by rw [← h2]; exact n1 (by rw [h4]; exact z)) (by rw [← h3]; exact n2), by rw [g2, h2, h4]; exact st.grow, by rw [g3, h3]; exact st.own, st.lasts⟩
  rw [bars_F, bars_F, st.F]
theorem bars_mu {p : Pl} {H : Hp} {as : List Addr} (mu : MuOk p H) : MuOk (bars p as) H := fun b hb => mu b (by
  obtain ⟨h1, h2, h3, h4⟩ := bars_K p as
  rw [h2, h3] at hb; exact hb)
theorem RV.bars {p q : Pl} {H G : Hp} {as : List Addr} {x : MV} {v : V} (mu : MuOk p H) (fr : ∀ a ∈ as, H a = none) (st : Stp p H q G) (h : RV p H x v) : RV (Py.bars q as) G x v :=
  RV.keepM (bars_mu mu) (bars_stp st) x v (h.re (Py.bars p as) (bars_K p as).1 (bars_K p as).2.1 (bars_hb fr))
theorem RC.bars {p q : Pl} {H G : Hp} {as : List Addr} {c : Cn} {u : HO} (mu : MuOk p H) (fr : ∀ a ∈ as, H a = none) (st : Stp p H q G) (h : RC p H c u) : RC (Py.bars q as) G c u :=
  RC.keepM (bars_mu mu) (bars_stp st) (h.re (Py.bars p as) (bars_K p as).1 (bars_K p as).2.1 (bars_hb fr))
def readEF (D : Fns) (K : PySem.W.Frag) (xv : XV) (W : WX) : EF → TE
  | .e x => lift rE K xv W (denE D x)
  | .f x => liftF K xv W (denF D x)
/-- from the left; what went before waits -/
theorem efs_walk {K : PySem.W.Frag} : ∀ (vs : List EF) {p : Pl} {s s' : S} {σ : L2.St} {H : Hp} {sl : List Slot} (Z : List V → Hp → Prop), p.K = K → Sit p s σ H → denEFs D vs s = .ok sl s' →
    (∀ ws p' as G, Stp p H p' G → (∀ a ∈ as, H a = none) → Sit (bars p' as) s' σ G → HeldR (bars p' as) G sl ws as → Z ws G) → seqT (vs.map (readEF D K xv W)) σ H Z
  | [], p, s, s', σ, H, sl, Z, hK, S, e, h => by
    simp only [denEFs, ret_eq] at e
    injection e with e1 e2
    subst e1; subst e2
    exact h [] p [] H (Stp.refl _ _) (by simp) S ⟨rfl, rfl⟩
  | .e x :: r, p, s, s', σ, H, sl, Z, hK, S, e, h => by
    refine ⟨p, s, hK, S, ?_⟩
    simp only [denEFs, bnd_eq] at e
    cases e1 : denE D x s with
    | ok y s1 =>
      simp only [e1] at e
      intro v p1 H1 st1 S1 rv1
      cases e2 : denEFs D r s1 with
      | ok ys s2 =>
        simp only [e2, ret_eq] at e
        injection e with e3 e4
        subst e3; subst e4
        refine efs_walk r (fun ws G => Z (v :: ws) G) (by rw [st1.K]; exact hK) S1 e2 fun ws p2 as G st2 fr S2 hR => ?_
        exact h (v :: ws) p2 as G (st1.trans st2) (fun a ha => free_of st1.lasts (fr a ha)) S2 ⟨v, ws, rfl, rv1.bars S1.hr.muOk fr st2, hR⟩
      | ex c us s2 => simp only [e2] at e; cases e
      | no => simp only [e2] at e; cases e
    | ex c us s1 => simp only [e1] at e; cases e
    | no => simp only [e1] at e; cases e
  | .f x :: r, p, s, s', σ, H, sl, Z, hK, S, e, h => by
    refine ⟨p, s, hK, S, ?_⟩
    simp only [denEFs, bnd_eq] at e
    cases e1 : denF D x s with
    | ok c s1 =>
      simp only [e1] at e
      intro a u p1 H1 st1 S1 hu rc ha
      cases e2 : denEFs D r s1 with
      | ok ys s2 =>
        simp only [e2, ret_eq] at e
        injection e with e3 e4
        subst e3; subst e4
        refine efs_walk r (fun ws G => Z (.ref a :: ws) G) (p := bar p1 a) (by show p1.K = K; rw [st1.K]; exact hK) S1 e2 fun ws q as G st2 fr S2 hR => ?_
        have hq : bar ⟨q.K, p1.F, q.live, q.ρ, q.ω⟩ a = q := by
          have hF : q.F = fun b => p1.F b ∨ b = a := st2.F
          cases q with
          | mk K F l r o => simp only at hF; subst hF; rfl
        have nn := S1.hr.ap a (.inr rfl)
        have na : a ∉ as := fun z => by have := fr a z; rw [hu] at this; cases this
        have st3 : Stp p1 H1 ⟨q.K, p1.F, q.live, q.ρ, q.ω⟩ G := ⟨st2.K, rfl, st2.live, st2.keep, st2.grow, st2.own, st2.lasts⟩
        have hbs : bars ⟨q.K, p1.F, q.live, q.ρ, q.ω⟩ (a :: as) = bars q as := by show bars (bar _ a) as = _; rw [hq]
        refine h (.ref a :: ws) ⟨q.K, p1.F, q.live, q.ρ, q.ω⟩ (a :: as) G (st1.trans st3) (fun b hb => ?_) (by rw [hbs]; exact S2) ?_
        · rcases List.mem_cons.mp hb with rfl | hb
          · exact ha
          · exact free_of st1.lasts (fr b hb)
        · rw [hbs]
          exact ⟨a, u, ws, as, rfl, rfl, na, st2.keep a u hu (fun _ => nn.1) nn.2, rc.bars S1.hr.muOk fr st2, hR⟩
      | ex c us s2 => simp only [e2] at e; cases e
      | no => simp only [e2] at e; cases e
    | ex c us s1 => simp only [e1] at e; cases e
    | no => simp only [e1] at e; cases e
def setσ : List Nat → List V → L2.St → L2.St
  | i :: js, w :: ws, σ => setσ js ws (σ.set i (some w))
  | _, _, σ => σ
theorem store_all : ∀ (sl : List Slot) (js : List Nat) {ws : List V} {as : List Addr} {p : Pl} {s : S} {σ : L2.St} {G : Hp}, sl.length = js.length → Sit (bars p as) s σ G → HeldR (bars p as) G sl ws as → (∀ a ∈ as, ¬ p.F a) →
    ∃ s' p', setSls js sl s = .ok () s' ∧ Sit p' s' (setσ js ws σ) G ∧ p'.K = p.K ∧ p'.F = p.F ∧ p'.live = p.live ∧ p'.ρ = p.ρ ∧ ∀ b ∈ p'.ω, b ∈ p.ω ∨ b ∈ as
  | [], js, ws, as, p, s, σ, G, hl, S, hR, nF => by
    obtain ⟨rfl, rfl⟩ := hR
    have hj : js = [] := List.eq_nil_of_length_eq_zero (by simpa using hl.symm)
    subst hj
    exact ⟨s, p, rfl, S, rfl, rfl, rfl, rfl, fun b hb => .inl hb⟩
  | .v x :: sl, [], ws, as, p, s, σ, G, hl, S, hR, nF => by simp at hl
  | .o x :: sl, [], ws, as, p, s, σ, G, hl, S, hR, nF => by simp at hl
  | .v x :: sl, j :: js, ws, as, p, s, σ, G, hl, S, hR, nF => by
    obtain ⟨w, r, rfl, rv, hR⟩ := hR
    obtain ⟨s', p', e, h⟩ := store_all sl js (by simpa using hl) (S.setV (i := j) rv) hR nF
    exact ⟨s', p', by simp only [setSls, bnd_eq, setSl]; exact e, h⟩
  | .o c :: sl, j :: js, ws, as, p, s, σ, G, hl, S, hR, nF => by
    obtain ⟨a, u, r, bs, rfl, rfl, na, hu, rc, hR⟩ := hR
    rw [bars_bar] at S rc
    have nFa : ¬ (bars p bs).F a := fun z => ((bars_F bs p a).mp z).elim (nF a List.mem_cons_self) na
    obtain ⟨k1, k2, k3, k4⟩ := bars_K p (a :: bs)
    by_cases hi : j < s.env.length
    · have S1 := S.toOwn (i := j) hu rc nFa hi
      rw [addω_bars] at S1
      obtain ⟨g1, g2, g3, g4⟩ := bars_K (addω p a) bs
      have hR1 : HeldR (bars (addω p a) bs) G sl r bs := hR.re (by rw [g1, k1]; rfl) (by rw [g2, k2]; rfl) fun b hb n1 n2 n3 => by
        rw [bars_F] at n3
        rw [k3] at n2
        simp only [List.mem_cons, not_or] at n3
        refine ⟨by rw [g3]; show b ∉ a :: p.ω; simp only [List.mem_cons, not_or]; exact ⟨n3.2.1, n2⟩, fun z => ?_⟩
        rcases (bars_F bs (addω p a) b).mp z with z | z
        · exact n3.1 z
        · exact n3.2.2 z
      obtain ⟨s', p', e, h1, h2, h3, h4, h5, h6⟩ := store_all sl js (by simpa using hl) S1 hR1 (fun b hb => nF b (List.mem_cons_of_mem _ hb))
      refine ⟨s', p', by simp only [setSls, bnd_eq, setSl]; exact e, h1, h2, h3, h4, h5, fun b hb => ?_⟩
      rcases h6 b hb with h | h
      · rcases List.mem_cons.mp h with rfl | h
        · exact .inr List.mem_cons_self
        · exact .inl h
      · exact .inr (List.mem_cons_of_mem _ h)
    · have e1 : s.env.set j (some (.o c)) = s.env := List.set_eq_of_length_le (by omega)
      have e2 : σ.set j (some (V.ref a)) = σ := List.set_eq_of_length_le (by rw [S.len]; omega)
      have S1 := S.unbar
      obtain ⟨g1, g2, g3, g4⟩ := bars_K p bs
      have hR1 : HeldR (bars p bs) G sl r bs := hR.re (by rw [g1, k1]) (by rw [g2, k2]) fun b hb n1 n2 n3 => by
        rw [bars_F] at n3
        rw [k3] at n2
        simp only [List.mem_cons, not_or] at n3
        refine ⟨by rw [g3]; exact n2, fun z => ?_⟩
        rcases (bars_F bs p b).mp z with z | z
        · exact n3.1 z
        · exact n3.2.2 z
      obtain ⟨s', p', e, h1, h2, h3, h4, h5, h6⟩ := store_all sl js (by simpa using hl) S1 hR1 (fun b hb => nF b (List.mem_cons_of_mem _ hb))
      refine ⟨s', p', by simp only [setSls, bnd_eq, setSl, e1]; exact e, ?_, h2, h3, h4, h5, fun b hb => ?_⟩
      · show Sit p' s' (setσ js r (σ.set j (some (V.ref a)))) G
        rw [e2]; exact h1
      · rcases h6 b hb with h | h
        · exact .inl h
        · exact .inr (List.mem_cons_of_mem _ h)
theorem efs_len : ∀ (vs : List EF) {s s' : S} {sl : List Slot}, denEFs D vs s = .ok sl s' → sl.length = vs.length
  | [], s, s', sl, e => by simp only [denEFs, ret_eq] at e; injection e with e1 _; subst e1; rfl
  | .e x :: r, s, s', sl, e => by
    simp only [denEFs, bnd_eq] at e
    split at e
    · split at e
      · rename_i e2
        simp only [ret_eq] at e
        injection e with e1 _
        subst e1
        simp [efs_len r e2]
      · cases e
      · cases e
    · cases e
    · cases e
  | .f x :: r, s, s', sl, e => by
    simp only [denEFs, bnd_eq] at e
    split at e
    · split at e
      · rename_i e2
        simp only [ret_eq] at e
        injection e with e1 _
        subst e1
        simp [efs_len r e2]
      · cases e
      · cases e
    · cases e
    · cases e
/-- the stores, behind the values -/
theorem heldR_len {q : Pl} {H : Hp} : ∀ {sl : List Slot} {ws : List V} {as : List Addr}, HeldR q H sl ws as → ws.length = sl.length
  | [], ws, as, h => by obtain ⟨rfl, _⟩ := h; rfl
  | .v x :: sl, ws, as, h => by obtain ⟨w, r, rfl, _, h⟩ := h; simp [heldR_len h]
  | .o c :: sl, ws, as, h => by obtain ⟨a, u, r, bs, rfl, _, _, _, _, h⟩ := h; simp [heldR_len h]
theorem par_walk {js : List Nat} {vs : List EF} {K : PySem.W.Frag} {T : Ends} {σ : L2.St} {H : Hp} (hn : vs.length = js.length) (h : liftS K xv W (denS D (.par js vs)) T σ H) {Z : List V → Hp → Prop} (hZ : ∀ ws G, ws.length = js.length → T.nx (setσ js ws σ) G → Z ws G) : seqT (vs.map (readEF D K xv W)) σ H Z := by
  obtain ⟨p, s, hK, S, o⟩ := h
  simp only [denS] at o
  rw [bnd_eq] at o
  unfold noEx at o
  cases e : denEFs D vs s with
  | ok sl s' =>
    simp only [e] at o
    refine efs_walk vs _ hK S e fun ws p' as G st fr S' hR => ?_
    have nF : ∀ a ∈ as, ¬ p'.F a := fun a ha => by rw [st.F]; exact (S.hr.fresh (fr a ha)).2.2
    obtain ⟨s2, p2, e2, h1, h2, h3, h4, h5, h6⟩ := store_all sl js (by rw [efs_len vs e]; exact hn) S' hR nF
    simp only [bnd_eq, e2] at o
    refine hZ ws G (by rw [heldR_len hR, efs_len vs e]; exact hn) (o _ p2 G ⟨h2.trans st.K, h3.trans st.F, h4.trans st.live, st.keep, by rw [h5]; exact st.grow, fun b hb => ?_, st.lasts⟩ h1)
    rcases h6 b hb with h | h
    · exact st.own b h
    · exact .inr (fr b h)
  | ex c us s' => simp only [e] at o; exact o.elim
  | no => simp only [e] at o; exact o.elim
theorem snd_par2 (A : At C D k N sc X xv W) {i j : Nat} {x y : Str} {a b : EF} {ea eb : Expr} {px py pt pt2 : Pos} {kt k2 : Nat} (hk : sc.kind = .function) (hi : N[i]? = some x) (hj : N[j]? = some y) (hij : i ≠ j)
    (hx : sc.names.lookup x = some .local) (hy : sc.names.lookup y = some .local) (ns : noStar [ea, eb] = true) (hw : swapP sc [.Tuple [.Name x px, .Name y py] kt pt] (.Tuple [ea, eb] k2 pt2) = some (some [x, y]))
    (h1 : PE X ea (readEF D X.K xv W a)) (h2 : PE X eb (readEF D X.K xv W b)) : PS X (.Assign [.Tuple [.Name x px, .Name y py] kt pt] (.Tuple [ea, eb] k2 pt2) pos) (liftS X.K xv W (denS D (.par [i, j] [a, b]))) := by
  have hs := A.scp
  refine (ps_par A.calm (by rw [A.hN]; exact A.nd) (by rw [A.hN]; exact hi) (by rw [A.hN]; exact hj) hij (by rw [hs]; exact hx) (by rw [hs]; exact hy) ((PEs.cons h1 (.cons h2 .nil)).pa ns) (swapP_ok (by rw [hs]; exact hk) (by rw [hs]; exact hw))).imp fun T σ H hh => ?_
  refine par_walk (xv := xv) (W := W) rfl hh fun ws G hl q => ?_
  match ws, hl, q with
  | [v, w], _, q => exact ⟨v, w, rfl, q⟩
theorem snd_par3 (A : At C D k N sc X xv W) {i j l : Nat} {x y z : Str} {a b c : EF} {ea eb ec : Expr} {px py pz pt pt2 : Pos} {kt k2 : Nat} (hk : sc.kind = .function) (hi : N[i]? = some x) (hj : N[j]? = some y) (hl : N[l]? = some z) (hij : i ≠ j) (hil : i ≠ l) (hjl : j ≠ l)
    (hx : sc.names.lookup x = some .local) (hy : sc.names.lookup y = some .local) (hz : sc.names.lookup z = some .local) (ns : noStar [ea, eb, ec] = true)
    (hw : swapP sc [.Tuple [.Name x px, .Name y py, .Name z pz] kt pt] (.Tuple [ea, eb, ec] k2 pt2) = some (some [x, y, z]))
    (h1 : PE X ea (readEF D X.K xv W a)) (h2 : PE X eb (readEF D X.K xv W b)) (h3 : PE X ec (readEF D X.K xv W c)) :
    PS X (.Assign [.Tuple [.Name x px, .Name y py, .Name z pz] kt pt] (.Tuple [ea, eb, ec] k2 pt2) pos) (liftS X.K xv W (denS D (.par [i, j, l] [a, b, c]))) := by
  have hs := A.scp
  refine (ps_par3 A.calm (by rw [A.hN]; exact A.nd) (by rw [A.hN]; exact hi) (by rw [A.hN]; exact hj) (by rw [A.hN]; exact hl) hij hil hjl (by rw [hs]; exact hx) (by rw [hs]; exact hy) (by rw [hs]; exact hz) ((PEs.cons h1 (.cons h2 (.cons h3 .nil))).pa ns) (swapP_ok (by rw [hs]; exact hk) (by rw [hs]; exact hw))).imp fun T σ H hh => ?_
  refine par_walk (xv := xv) (W := W) rfl hh fun ws G hl q => ?_
  match ws, hl, q with
  | [u, v, w], _, q => exact ⟨u, v, w, rfl, q⟩
end
section
variable {C : Cfg} {D : Fns} {k : Nat} {N : List Str} {sc : Scope} {X : Cx} {xv : XV} {W : WX} {pos : Pos}
/-! ### an item is set -/
def tSetA : TSet := fun o i v H Q => rSetL o i v H Q ∨ rSetD o i v H Q
theorem set_any (hu : X.A.units + 1 < cLine) : PSet X tSetA := by
  intro pins s σ H o i v ov iv u Q I ro ri rv h
  rcases h with h | h
  · exact set_list pins s σ H o i v ov iv u Q I ro ri rv h
  · exact set_dict hu pins s σ H o i v ov iv u Q I ro ri rv h
theorem RKs.any {p : Pl} {H : Hp} {k : Key} : ∀ {kvs : List (Key × MV)} {us : List (Key × V)}, RKs p H kvs us → (us.any fun q => decide (q.1 = k)) = (kvs.any fun q => decide (q.1 = k))
  | [], us, h => by simp only [RKs] at h; subst h; rfl
  | (j, x) :: r, us, h => by
    simp only [RKs] at h
    obtain ⟨v, w, rfl, _, h2⟩ := h
    simp only [List.any_cons, RKs.any h2]
theorem RKs.mapK {p : Pl} {H : Hp} {k : Key} {x : MV} {v : V} (hx : RV p H x v) : ∀ {kvs : List (Key × MV)} {us : List (Key × V)}, RKs p H kvs us → RKs p H (kvs.map fun q => if q.1 = k then (q.1, x) else q) (us.map fun q => if q.1 = k then (q.1, v) else q)
  | [], us, h => by simp only [RKs] at h; subst h; simp [RKs]
  | (j, y) :: r, us, h => by
    simp only [RKs] at h
    obtain ⟨w, w2, rfl, h1, h2⟩ := h
    have ih := RKs.mapK (k := k) hx h2
    simp only [List.map_cons]
    by_cases q : j = k
    · simp only [if_pos q, RKs]; exact ⟨v, _, rfl, hx, ih⟩
    · simp only [if_neg q, RKs]; exact ⟨w, _, rfl, h1, ih⟩
theorem RKs.app1 {p : Pl} {H : Hp} {k : Key} {x : MV} {v : V} (hx : RV p H x v) : ∀ {kvs : List (Key × MV)} {us : List (Key × V)}, RKs p H kvs us → RKs p H (kvs ++ [(k, x)]) (us ++ [(k, v)])
  | [], us, h => by simp only [RKs] at h; subst h; simp only [List.nil_append, RKs]; exact ⟨v, _, rfl, hx, rfl⟩
  | (j, y) :: r, us, h => by
    simp only [RKs] at h
    obtain ⟨w, w2, rfl, h1, h2⟩ := h
    simp only [List.cons_append, RKs]
    exact ⟨w, _, rfl, h1, RKs.app1 hx h2⟩
theorem RKs.put {p : Pl} {H : Hp} {k : Key} {x : MV} {v : V} {kvs : List (Key × MV)} {us : List (Key × V)} (hx : RV p H x v) (h : RKs p H kvs us) : RKs p H (Py.putK k x kvs) (L2.putK us k v) := by
  unfold Py.putK L2.putK
  rw [h.any]
  split
  · exact h.mapK hx
  · exact h.app1 hx
theorem key_rv {p : Pl} {H : Hp} {x : MV} {v : V} {k : Key} (h : RV p H x v) (e : key? x = some k) : v = kV k := by
  cases x <;> simp only [key?, reduceCtorEq, Option.some.injEq] at e
  · subst e; simp only [RV] at h; exact h
  · subst e; simp only [RV] at h; exact h
theorem keys_rv {p : Pl} {H : Hp} : ∀ {xs : List MV} {vs : List V} {ks : List Key}, RVs p H xs vs → keys? xs = some ks → vs = ks.map kV
  | [], vs, ks, h, e => by simp only [RVs] at h; simp only [keys?, Option.some.injEq] at e; subst h; subst e; rfl
  | x :: xs, vs, ks, h, e => by
    simp only [RVs] at h
    obtain ⟨v, w, rfl, h1, h2⟩ := h
    simp only [keys?] at e
    split at e
    · rename_i k ks' e1 e2
      simp only [Option.some.injEq] at e; subst e
      rw [List.map_cons, key_rv h1 e1, keys_rv h2 e2]
    · cases e
theorem tkey_some {x : MV} {ks : List Key} (e : tkey? x = some ks) : ∃ xs, x = .tup xs ∧ keys? xs = some ks := by
  cases x <;> simp only [tkey?, reduceCtorEq] at e
  exact ⟨_, rfl, e⟩
theorem tkey_rv {p : Pl} {H : Hp} {x : MV} {v : V} {ks : List Key} (h : RW p H x v) (e : tkey? x = some ks) : ∃ b, v = .ref b ∧ H b = some (.tup (ks.map kV)) := by
  obtain ⟨xs, rfl, e⟩ := tkey_some e
  obtain ⟨a, vs, rfl, q, r⟩ := h.tupH
  exact ⟨a, rfl, by rw [q, keys_rv r e]⟩
theorem RTs.len {p : Pl} {H : Hp} : ∀ {kvs : List (List Key × MV)} {ws : List (List Key × V)}, RTs p H kvs ws → ws.length = kvs.length
  | [], ws, r => by simp only [RTs] at r; subst r; rfl
  | (k, x) :: kvs, ws, r => by
    simp only [RTs] at r
    obtain ⟨v, r2, rfl, _, h2⟩ := r
    simp [RTs.len h2]
theorem RTs.any {p : Pl} {H : Hp} {k : List Key} : ∀ {kvs : List (List Key × MV)} {us : List (List Key × V)}, RTs p H kvs us → (kvs.any fun q => decide (q.1 = k)) = us.any fun q => decide (q.1 = k)
  | [], us, h => by simp only [RTs] at h; subst h; rfl
  | (j, y) :: r, us, h => by
    simp only [RTs] at h
    obtain ⟨w, w2, rfl, h1, h2⟩ := h
    simp only [List.any_cons, RTs.any h2]
theorem RTs.mapK {p : Pl} {H : Hp} {k : List Key} {x : MV} {v : V} (hx : RV p H x v) : ∀ {kvs : List (List Key × MV)} {us : List (List Key × V)}, RTs p H kvs us → RTs p H (kvs.map fun q => if q.1 = k then (q.1, x) else q) (us.map fun q => if q.1 = k then (q.1, v) else q)
  | [], us, h => by simp only [RTs] at h; subst h; simp [RTs]
  | (j, y) :: r, us, h => by
    simp only [RTs] at h
    obtain ⟨w, w2, rfl, h1, h2⟩ := h
    rw [List.map_cons, List.map_cons]
    by_cases e : j = k
    · simp only [e, if_true, RTs]
      exact ⟨v, _, rfl, hx, RTs.mapK hx h2⟩
    · simp only [e, if_false, RTs]
      exact ⟨w, _, rfl, h1, RTs.mapK hx h2⟩
theorem RTs.app1 {p : Pl} {H : Hp} {k : List Key} {x : MV} {v : V} (hx : RV p H x v) : ∀ {kvs : List (List Key × MV)} {us : List (List Key × V)}, RTs p H kvs us → RTs p H (kvs ++ [(k, x)]) (us ++ [(k, v)])
  | [], us, h => by simp only [RTs] at h; subst h; simp only [List.nil_append, RTs]; exact ⟨v, [], rfl, hx, rfl⟩
  | (j, y) :: r, us, h => by
    simp only [RTs] at h
    obtain ⟨w, w2, rfl, h1, h2⟩ := h
    simp only [List.cons_append, RTs]
    exact ⟨w, _, rfl, h1, RTs.app1 hx h2⟩
theorem RTs.put {p : Pl} {H : Hp} {k : List Key} {x : MV} {v : V} {kvs : List (List Key × MV)} {us : List (List Key × V)} (hx : RV p H x v) (h : RTs p H kvs us) : RTs p H (Py.putK k x kvs) (L2.putK us k v) := by
  unfold Py.putK L2.putK
  rw [h.any]
  split
  · exact h.mapK hx
  · exact h.app1 hx
/-- a thing's item set, as the abstract heap tells it -/
theorem set_core {p : Pl} {H : Hp} {c d : Cn} {u : HO} {y x : MV} {kv v : V} {a : Addr} {Q : Hp → Prop} (ha : H a = some u) (rc : RC p H c u) (hk : RV p H y kv) (hx : RV p H x v) (e : putV c y x = some d)
    (q : ∀ w, RC p H d w → Q (upd H a w)) : tSetA (.ref a) kv v H Q := by
  cases c with
  | l xs =>
    obtain ⟨vs, rfl, r⟩ := rc
    simp only [putV] at e
    split at e
    · rename_i i
      obtain ⟨j, e1, rfl⟩ := Option.map_eq_some_iff.mp e
      have := rv_int hk
      subst this
      exact .inl ⟨a, vs, i, j, rfl, rfl, ha, by rw [r.len]; exact e1, q _ ⟨_, rfl, RVs.set hx j r⟩⟩
    · cases e
  | k kvs =>
    obtain ⟨us, rfl, r⟩ := rc
    simp only [putV] at e
    obtain ⟨k, e1, e2⟩ := Option.bind_eq_some_iff.mp e
    split at e2
    · rename_i hl
      cases e2
      exact .inr ⟨a, _, rfl, .inl ⟨us, k, ha, key_rv hk e1, by rw [r.len]; exact hl, rfl⟩, q _ ⟨_, rfl, r.put hx⟩⟩
    · cases e2
  | t kvs =>
    obtain ⟨us, rfl, r⟩ := rc
    simp only [putV] at e
    obtain ⟨k, e1, e2⟩ := Option.bind_eq_some_iff.mp e
    split at e2
    · rename_i hl
      cases e2
      obtain ⟨b, rfl, hb⟩ := tkey_rv hk.weak e1
      exact .inr ⟨a, _, rfl, .inr ⟨us, k, b, ha, rfl, hb, by rw [r.len]; exact hl, rfl⟩, q _ ⟨_, rfl, r.put hx⟩⟩
    · cases e2
theorem getO_S {α : Type} {p : Pl} {H : Hp} {T : Ends} {s : S} {i : Nat} {f : Cn → M Fl} (o : OutS xv W p H T ((getO i >>= f) s)) : ∃ c, s.env[i]? = some (some (.o c)) ∧ OutS xv W p H T (f c s) := by
  rw [bnd_eq] at o
  cases e : getO i s with
  | ok c s' => obtain ⟨rfl, hc⟩ := getO_some e; rw [e] at o; exact ⟨c, hc, o⟩
  | ex n vs s' => exact absurd e getO_nex
  | no => rw [e] at o; exact o.elim
theorem lift?_S {p : Pl} {H : Hp} {T : Ends} {s : S} {γ : Type} {x : Option γ} {f : γ → M Fl} (o : OutS xv W p H T ((lift? x >>= f) s)) : ∃ y, x = some y ∧ OutS xv W p H T (f y s) := by
  cases x with
  | none => exact o.elim
  | some y => exact ⟨y, rfl, o⟩
theorem getC_S {p : Pl} {H : Hp} {T : Ends} {s : S} {n : Nat} {f : Cn → M Fl} (o : OutS xv W p H T ((getC n >>= f) s)) : ∃ l c, s.mh = some l ∧ l[n]? = some c ∧ OutS xv W p H T (f c s) := by
  rw [bnd_eq] at o
  cases e : getC n s with
  | ok c s' =>
    rw [e] at o
    unfold getC at e
    split at e
    · rename_i l hl
      split at e
      · rename_i c' hc
        injection e with e1 e2
        subst e1; subst e2
        exact ⟨l, _, hl, hc, o⟩
      · cases e
    · cases e
  | ex n vs s' => exact absurd e getC_nex
  | no => rw [e] at o; exact o.elim
theorem ps_sub {o i value : Expr} {td ty tv : TE} {pos' : Pos} {t : TSet} (ho : PE X o td) (hi : PE X i ty) (hv : PE X value tv) (ht : PSet X t) (hs : swapsWith value (some (.Subscript o i pos')) pos.line X.env = pure false) :
    PS X (.Assign [.Subscript o i pos'] value pos) (fun T σ H => tv σ H fun v H1 => td σ H1 fun x H2 => ty σ H2 fun y H3 => t x y v H3 fun H4 => T.nx σ H4) := by
  refine ⟨fun pins s σ H T I h => ?_⟩
  refine wpAny_Assign_Subscript (thn (hv.run pins s σ H _ I h) fun r s1 ⟨v, H1, I1, rv, q1⟩ => thn (ho.run pins s1 σ H1 _ I1 q1) fun u s2 ⟨x, H2, I2, rx, q2⟩ => thn (hi.run pins s2 σ H2 _ I2 q2) fun iv s3 ⟨y, H3, I3, ry, q3⟩ => ?_) hs
  exact thn (ht pins s3 σ H3 x y v u iv r _ I3 rx ry rv q3) fun _ s4 ⟨H4, I4, q4⟩ => ⟨σ, H4, I4, q4⟩
theorem snd_sti (A : At C D k N sc X xv W) {i : Nat} {x : Str} {ke ve : Expr} {key val : E} {px ps : Pos} (hn : nmB N sc i x = true) (hc : noC ve = true) (h1 : PE X ke (lift rE X.K xv W (denE D key))) (h2 : PE X ve (lift rE X.K xv W (denE D val))) :
    PS X (.Assign [.Subscript (.Name x px) ke ps] ve pos) (liftS X.K xv W (denS D (.sti i key val))) := by
  obtain ⟨n1, n2, n3, n4⟩ := A.nm hn
  have hu := A.units
  refine (ps_sub (pe_var n1 n2 n3 n4) h1 h2 (set_any (by omega)) (noC_sw hc)).imp fun T σ H ⟨p, s, hK, S, o⟩ => ?_
  simp only [denS] at o
  refine ⟨p, s, hK, S, OutS.bnd (r := rE) o fun y s1 v p1 H1 hz st1 S1 rv1 o1 => ?_⟩
  obtain ⟨c0, e0, o2⟩ := getO_S (α := Unit) o1
  obtain ⟨a, u, k1, _⟩ := S1.own i c0 e0
  refine ⟨.ref a, k1, p1, s1, by rw [st1.K]; exact hK, S1, OutS.bnd (r := rE) o2 fun z s2 kv p2 H2 hz st2 S2 rv2 o3 => ?_⟩
  obtain ⟨c, e1, o4⟩ := getO_S (α := Unit) o3
  obtain ⟨d, e2, o5⟩ := lift?_S o4
  obtain ⟨a', u', q1, q2, q3, q4⟩ := S2.own i c e1
  have : a' = a := by rw [k1] at q1; injection q1 with q1; injection q1 with q1; injection q1 with q1; exact q1.symm
  subst this
  refine set_core q3 q4 rv2 (rv1.keep S1.hr st2) e2 fun w hw => ?_
  obtain ⟨_, g2, g3⟩ := S2.put e1 q1 hw.isMut hw
  exact o5 σ p2 _ g2 g3
theorem snd_stc (A : At C D k N sc X xv W) {ce ke ve : Expr} {cl key val : E} {ps : Pos} (hc : noC ve = true) (h0 : PE X ce (lift rE X.K xv W (denE D cl))) (h1 : PE X ke (lift rE X.K xv W (denE D key))) (h2 : PE X ve (lift rE X.K xv W (denE D val))) :
    PS X (.Assign [.Subscript ce ke ps] ve pos) (liftS X.K xv W (denS D (.stc cl key val))) := by
  have hu := A.units
  refine (ps_sub h0 h1 h2 (set_any (by omega)) (noC_sw hc)).imp fun T σ H ⟨p, s, hK, S, o⟩ => ?_
  simp only [denS] at o
  refine ⟨p, s, hK, S, OutS.bnd (r := rE) o fun y s1 v p1 H1 hz st1 S1 rv1 o1 => ?_⟩
  refine ⟨p1, s1, by rw [st1.K]; exact hK, S1, OutS.bnd (r := rE) o1 fun r s2 rv p2 H2 hz st2 S2 rv2 o2 => ?_⟩
  refine ⟨p2, s2, by rw [st2.K, st1.K]; exact hK, S2, OutS.bnd (r := rE) o2 fun z s3 kv p3 H3 hz st3 S3 rv3 o3 => ?_⟩
  obtain ⟨n, e1, o4⟩ := lift?_S o3
  obtain ⟨l, c, e2, e3, o5⟩ := getC_S o4
  obtain ⟨d, e4, o6⟩ := lift?_S o5
  have hr : r = .ref n := by cases r <;> simp only [refN, reduceCtorEq, Option.some.injEq] at e1; rw [e1]
  subst hr
  have rr := rv2.keep S2.hr st3
  simp only [RV] at rr
  obtain ⟨a, rfl, ea⟩ := rr
  obtain ⟨u, q3, q4⟩ := S3.hr.at_ l n a c e2 ea e3
  refine set_core q3 q4 rv3 ((rv1.keep S1.hr st2).keep S2.hr st3) e4 fun w hw => ?_
  obtain ⟨g2, g3⟩ := S3.putC e2 ea (List.getElem?_eq_some_iff.mp e3).1 hw.isMut hw
  have hset : setC n d s3 = .ok () { s3 with mh := some (l.set n d) } := by unfold setC; rw [e2]
  rw [bnd_eq, hset] at o6
  exact o6 σ p3 _ g2 g3
end
end Py

-- text PyUa
set_option Elab.async false
set_option linter.all false
set_option maxRecDepth 100000
set_option maxHeartbeats 4000000
namespace Py
open PySem PySem.Spec PyProof.Rows L2
/-! ### dicts -/
theorem find_val {p : Pl} {H : Hp} {k : Key} : ∀ {kvs : List (Key × MV)} {us : List (Key × V)}, RKs p H kvs us → (findK k kvs).isSome = (valV us k).isSome ∧ ∀ x, findK k kvs = some x → ∃ v, valV us k = some v ∧ RV p H x v
  | [], us, h => by simp only [RKs] at h; subst h; exact ⟨rfl, fun x e => by cases e⟩
  | (j, y) :: r, us, h => by
    simp only [RKs] at h
    obtain ⟨w, w2, rfl, h1, h2⟩ := h
    obtain ⟨i1, i2⟩ := find_val (k := k) h2
    unfold findK
    by_cases q : j = k
    · rw [if_pos q, valV_pos (p := (j, w)) q]
      exact ⟨rfl, fun x e => by cases e; exact ⟨w, rfl, h1⟩⟩
    · rw [if_neg q]
      have : valV ((j, w) :: w2) k = valV w2 k := by simp [valV, List.find?_cons, q]
      rw [this]
      exact ⟨i1, i2⟩
theorem find_valT {p : Pl} {H : Hp} {k : List Key} : ∀ {kvs : List (List Key × MV)} {us : List (List Key × V)}, RTs p H kvs us → (findK k kvs).isSome = (valV us k).isSome ∧ ∀ x, findK k kvs = some x → ∃ v, valV us k = some v ∧ RV p H x v
  | [], us, h => by simp only [RTs] at h; subst h; exact ⟨rfl, fun x e => by cases e⟩
  | (j, y) :: r, us, h => by
    simp only [RTs] at h
    obtain ⟨w, w2, rfl, h1, h2⟩ := h
    obtain ⟨i1, i2⟩ := find_valT (k := k) h2
    unfold findK
    by_cases q : j = k
    · rw [if_pos q, valV_pos (p := (j, w)) q]
      exact ⟨rfl, fun x e => by cases e; exact ⟨w, rfl, h1⟩⟩
    · rw [if_neg q]
      have : valV ((j, w) :: w2) k = valV w2 k := by simp [valV, List.find?_cons, q]
      rw [this]
      exact ⟨i1, i2⟩
section
variable {C : Cfg} {D : Fns} {k : Nat} {N : List Str} {sc : Scope} {X : Cx} {xv : XV} {W : WX} {pos : Pos}
theorem noSl {i : Expr} (h : isSl i = false) : NoSl i := by
  intro o v
  cases i <;> first | rfl | (simp [isSl] at h)
theorem weak_int {p : Pl} {G : Hp} {x : MV} {w : V} {k : Key} (h : RW p G x w) (e : key? x = some k) : w = kV k := by
  cases x <;> simp only [key?, reduceCtorEq, Option.some.injEq] at e
  · subst e; exact (show RV p G _ w from h) |> fun h => by simp only [RV] at h; exact h
  · subst e; exact (show RV p G _ w from h) |> fun h => by simp only [RV] at h; exact h
theorem snd_idxD (A : At C D k N sc X xv W) {a : Py.A} {l r : Expr} (hs : isSl r = false) (ha : AOk D X xv W a [l, r]) : PE X (.Subscript l r pos) (lift rE X.K xv W (denE D (.op .idxD a))) := by
  have hu := A.units
  obtain ⟨_, ts, hp, hi⟩ := ha
  obtain ⟨t, u, rfl, h1, h2⟩ := pes2 hp
  refine PE.imp (pe_dget (by omega) h1 h2 (noSl hs)) fun σ H Q h => ?_
  simp only [denE] at h
  refine hi σ H (fun vs G => match vs with | [v, w] => ∃ a z, v = .ref a ∧ DGet G a w (some z) ∧ Q z G | _ => False) ((op_src h).imp fun vs G ⟨p2, s2, xs, y, hK2, S2, rw2, e2, c⟩ => ?_)
  match xs, rw2, e2 with
  | [x, kx], rw2, e2 =>
    obtain ⟨v, r1, rfl, g1, w, r2, rfl, g2, g3⟩ := rw2
    have g3' : r2 = [] := g3
    subst g3'
    simp only [opV, two] at e2
    unfold idxDV at e2
    split at e2
    · obtain ⟨kk, e3, e4⟩ := Option.bind_eq_some_iff.mp e2
      obtain ⟨ad, us, rfl, hd, rk⟩ := g1
      obtain ⟨z, e5, rz⟩ := (find_val rk).2 _ e4
      have hw := weak_int g2 e3
      subst hw
      exact ⟨ad, z, rfl, by rw [← e5]; exact .k hd, c z p2 G (Stp.refl _ _) S2 rz⟩
    · obtain ⟨kk, e3, e4⟩ := Option.bind_eq_some_iff.mp e2
      obtain ⟨ad, us, rfl, hd, rk⟩ := g1
      obtain ⟨z, e5, rz⟩ := (find_valT rk).2 _ e4
      obtain ⟨b, rfl, hb⟩ := tkey_rv g2 e3
      exact ⟨ad, z, rfl, by rw [← e5]; exact .t hd hb, c z p2 G (Stp.refl _ _) S2 rz⟩
    · cases e2
theorem snd_inD (A : At C D k N sc X xv W) {a : Py.A} {l r : Expr} (hm : behindInMarks .In r = false) (ha : AOk D X xv W a [l, r]) : PE X (.Compare l [.In] [r] pos) (lift rE X.K xv W (denE D (.op .inD a))) ∧ PT X (.Compare l [.In] [r] pos) (lift rB X.K xv W (tstE D (.op .inD a))) := by
  have hu := A.units
  obtain ⟨_, ts, hp, hi⟩ := ha
  obtain ⟨t, u, rfl, h1, h2⟩ := pes2 hp
  have key : ∀ {p2 : Pl} {G : Hp} {xs : List MV} {y : MV} {vs : List V}, RWs p2 G xs vs → opV .inD xs = some y → ∃ v w ad o, vs = [v, w] ∧ w = .ref ad ∧ DGet G ad v o ∧ y = .bl o.isSome := by
    intro p2 G xs y vs rw2 e2
    match xs, rw2, e2 with
    | [kx, x], rw2, e2 =>
      obtain ⟨v, r1, rfl, g1, w, r2, rfl, g2, g3⟩ := rw2
      have g3' : r2 = [] := g3
      subst g3'
      simp only [opV, two] at e2
      obtain ⟨b, e3, rfl⟩ := Option.map_eq_some_iff.mp e2
      unfold inDV at e3
      split at e3
      · obtain ⟨kk, e4, rfl⟩ := Option.map_eq_some_iff.mp e3
        obtain ⟨ad, us, rfl, hd, rk⟩ := g2
        have hw := weak_int g1 e4
        subst hw
        exact ⟨_, _, ad, valV us kk, rfl, rfl, .k hd, by rw [(find_val rk).1]⟩
      · cases e3
  constructor
  · refine PE.imp (pe_cmp (pc_din (by omega) h1 h2) hm) fun σ H Q h => ?_
    simp only [denE] at h
    refine hi σ H (fun vs G => match vs with | [v, w] => ∃ ad o, w = .ref ad ∧ DGet G ad v o ∧ Q (.bl o.isSome) G | _ => False) ((op_src h).imp fun vs G ⟨p2, s2, xs, y, hK2, S2, rw2, e2, c⟩ => ?_)
    obtain ⟨v, w, ad, o, rfl, hw, dg, rfl⟩ := key rw2 e2
    exact ⟨ad, o, hw, dg, c _ p2 G (Stp.refl _ _) S2 (by simp [RV])⟩
  · refine PT.imp (pt_cmp (pc_din (by omega) h1 h2) hm) fun σ H Q h => ?_
    simp only [tstE] at h
    obtain ⟨p, s, hK, S, o⟩ := h
    refine hi σ H (fun vs G => match vs with | [v, w] => ∃ ad o, w = .ref ad ∧ DGet G ad v o ∧ (∃ c, V.bl o.isSome = .bl c ∧ Q c G) | _ => False) ⟨p, s, hK, S, Out.bnd (r' := RSs σ) o fun zs s1 vs p1 H1 hz st1 S1 rv1 o1 => ?_⟩
    rw [bnd_eq] at o1
    cases e : snap zs s1 with
    | ok xs s2 =>
      obtain ⟨rfl, rw1⟩ := snap_ok S1 rv1 e
      rw [e] at o1
      obtain ⟨y, e2, o2⟩ := lift?_out o1
      obtain ⟨b, e3, o3⟩ := lift?_end o2
      obtain ⟨v, w, ad, o, rfl, hw, dg, rfl⟩ := key rw1 e2
      simp only [truthV, Option.some.injEq] at e3
      subst e3
      exact ⟨ad, o, hw, dg, _, rfl, o3 _ p1 H1 (Stp.refl _ _) S1 rfl⟩
    | ex c us s2 => exact absurd e (snap_nex zs)
    | no => rw [e] at o1; exact o1.elim
theorem snd_notinD (A : At C D k N sc X xv W) {a : Py.A} {l r : Expr} (hm : behindInMarks .NotIn r = false) (ha : AOk D X xv W a [l, r]) : PE X (.Compare l [.NotIn] [r] pos) (lift rE X.K xv W (denE D (.op .notinD a))) ∧ PT X (.Compare l [.NotIn] [r] pos) (lift rB X.K xv W (tstE D (.op .notinD a))) := by
  have hu := A.units
  obtain ⟨_, ts, hp, hi⟩ := ha
  obtain ⟨t, u, rfl, h1, h2⟩ := pes2 hp
  have key : ∀ {p2 : Pl} {G : Hp} {xs : List MV} {y : MV} {vs : List V}, RWs p2 G xs vs → opV .notinD xs = some y → ∃ v w ad o, vs = [v, w] ∧ w = .ref ad ∧ DGet G ad v o ∧ y = .bl (!o.isSome) := by
    intro p2 G xs y vs rw2 e2
    match xs, rw2, e2 with
    | [kx, x], rw2, e2 =>
      obtain ⟨v, r1, rfl, g1, w, r2, rfl, g2, g3⟩ := rw2
      have g3' : r2 = [] := g3
      subst g3'
      simp only [opV, two] at e2
      obtain ⟨b, e3, rfl⟩ := Option.map_eq_some_iff.mp e2
      unfold inDV at e3
      split at e3
      · obtain ⟨kk, e4, rfl⟩ := Option.map_eq_some_iff.mp e3
        obtain ⟨ad, us, rfl, hd, rk⟩ := g2
        have hw := weak_int g1 e4
        subst hw
        exact ⟨_, _, ad, valV us kk, rfl, rfl, .k hd, by rw [(find_val rk).1]⟩
      · cases e3
  constructor
  · refine PE.imp (pe_cmp (pc_dnotin (by omega) h1 h2) hm) fun σ H Q h => ?_
    simp only [denE] at h
    refine hi σ H (fun vs G => match vs with | [v, w] => ∃ ad o, w = .ref ad ∧ DGet G ad v o ∧ Q (.bl (!o.isSome)) G | _ => False) ((op_src h).imp fun vs G ⟨p2, s2, xs, y, hK2, S2, rw2, e2, c⟩ => ?_)
    obtain ⟨v, w, ad, o, rfl, hw, dg, rfl⟩ := key rw2 e2
    exact ⟨ad, o, hw, dg, c _ p2 G (Stp.refl _ _) S2 (by simp [RV])⟩
  · refine PT.imp (pt_cmp (pc_dnotin (by omega) h1 h2) hm) fun σ H Q h => ?_
    simp only [tstE] at h
    obtain ⟨p, s, hK, S, o⟩ := h
    refine hi σ H (fun vs G => match vs with | [v, w] => ∃ ad o, w = .ref ad ∧ DGet G ad v o ∧ (∃ c, V.bl (!o.isSome) = .bl c ∧ Q c G) | _ => False) ⟨p, s, hK, S, Out.bnd (r' := RSs σ) o fun zs s1 vs p1 H1 hz st1 S1 rv1 o1 => ?_⟩
    rw [bnd_eq] at o1
    cases e : snap zs s1 with
    | ok xs s2 =>
      obtain ⟨rfl, rw1⟩ := snap_ok S1 rv1 e
      rw [e] at o1
      obtain ⟨y, e2, o2⟩ := lift?_out o1
      obtain ⟨b, e3, o3⟩ := lift?_end o2
      obtain ⟨v, w, ad, o, rfl, hw, dg, rfl⟩ := key rw1 e2
      simp only [truthV, Option.some.injEq] at e3
      subst e3
      exact ⟨ad, o, hw, dg, _, rfl, o3 _ p1 H1 (Stp.refl _ _) S1 rfl⟩
    | ex c us s2 => exact absurd e (snap_nex zs)
    | no => rw [e] at o1; exact o1.elim
/-! ### a dict laid -/
def keyC (k : Key) (q : Const) : Bool := match k with
  | .inl i => (match q with
    | .int j => decide (i = j)
    | _ => false)
  | .inr x => (match q with
    | .str y => decide (x = y)
    | _ => false)
def keyX (k : Key) (e : Expr) : Bool := match e with
  | .Constant q _ _ => keyC k q
  | _ => false
def keyB (k : Key) (e : Option Expr) : Bool := match e with
  | some x => keyX k x
  | none => false
def keysB : List Key → List (Option Expr) → Bool
  | [], es => es.isEmpty
  | k :: ks, es => match es with
    | e :: r => keyB k e && keysB ks r
    | [] => false
theorem keyB_ok {k : Key} {e : Option Expr} (h : keyB k e = true) : ∃ x, e = some x ∧ PE X x (tC (kV k)) := by
  cases e with
  | none => cases h
  | some x =>
    have h : keyX k x = true := h
    refine ⟨x, rfl, ?_⟩
    unfold keyX at h
    split at h
    · rename_i q j pos
      cases k with
      | inl i =>
        unfold keyC at h
        simp only [] at h
        split at h
        · simp only [decide_eq_true_eq] at h
          subst h; exact pe_int
        · cases h
      | inr y =>
        unfold keyC at h
        simp only [] at h
        split at h
        · simp only [decide_eq_true_eq] at h
          subst h; exact pe_str
        · cases h
    · cases h
theorem pps_of : ∀ {ks : List Key} {keys : List (Option Expr)} {values : List Expr} {ts : List TE}, keysB ks keys = true → PEs X values ts → ks.length = values.length → PPs X pos keys values ((ks.map fun k => tC (kV k)).zip ts)
  | [], keys, values, ts, h, hp, hl => by
    simp only [keysB, List.isEmpty_iff] at h
    subst h
    cases hp with
    | nil => exact pps_nil
    | cons _ _ => simp at hl
  | k :: ks, keys, values, ts, h, hp, hl => by
    simp only [keysB] at h
    split at h
    · simp only [Bool.and_eq_true] at h
      obtain ⟨x, rfl, hk⟩ := keyB_ok (X := X) h.1
      cases hp with
      | nil => simp at hl
      | cons hv hr => exact pps_cons hk hv (pps_of h.2 hr (by simpa using hl))
    · cases h
theorem keyB_some {k : Key} {e : Option Expr} (h : keyB k e = true) : e.isSome = true := by
  cases e with
  | none => simp [keyB] at h
  | some x => rfl
theorem keysB_some : ∀ {ks : List Key} {keys : List (Option Expr)}, keysB ks keys = true → keys.all (·.isSome) = true ∧ keys.length = ks.length
  | [], keys, h => by simp only [keysB, List.isEmpty_iff] at h; subst h; exact ⟨rfl, rfl⟩
  | k :: ks, keys, h => by
    simp only [keysB] at h
    split at h
    · simp only [Bool.and_eq_true] at h
      obtain ⟨h1, h2⟩ := keysB_some h.2
      exact ⟨by simp [h1, keyB_some h.1], by simp [h2]⟩
    · cases h
theorem tPairs_of : ∀ {ks : List Key} {ts : List TE} {σ : L2.St} {H : Hp} {F : List (V × V) → Hp → Prop}, ks.length = ts.length → tPairs ((ks.map fun k => tC (kV k)).zip ts) σ H F = seqT ts σ H (fun vs G => F ((ks.map kV).zip vs) G)
  | [], [], σ, H, F, _ => rfl
  | [], _ :: _, σ, H, F, hl => by simp at hl
  | _ :: _, [], σ, H, F, hl => by simp at hl
  | k :: ks, t :: ts, σ, H, F, hl => by
    have hl' : ks.length = ts.length := by simpa using hl
    show (t σ H fun y H2 => tPairs ((ks.map fun k => tC (kV k)).zip ts) σ H2 fun ps H3 => F ((kV k, y) :: ps) H3) = _
    simp only [tPairs_of hl']
    rfl
theorem dnk_fold {p : Pl} {H : Hp} : ∀ {ks : List Key} {xs : List MV} {vs : List V} {d : List (Key × MV)} {us : List (Key × V)}, RVs p H xs vs → RKs p H d us →
    RKs p H ((ks.zip xs).foldl (fun d q => Py.putK q.1 q.2 d) d) ((ks.zip vs).foldl (fun acc kv => L2.putK acc kv.1 kv.2) us)
  | [], xs, vs, d, us, r, h => h
  | k :: ks, [], vs, d, us, r, h => by simp only [RVs] at r; subst r; exact h
  | k :: ks, x :: xs, vs, d, us, r, h => by
    simp only [RVs] at r
    obtain ⟨v, w, rfl, h1, h2⟩ := r
    exact dnk_fold (ks := ks) h2 (h.put h1)
theorem zip_kV : ∀ {ks : List Key} {vs : List V}, (ks.map kV).zip vs = (ks.zip vs).map fun kv => (kV kv.1, kv.2)
  | [], vs => rfl
  | k :: ks, [] => rfl
  | k :: ks, v :: vs => by simp only [List.map_cons, List.zip_cons_cons, zip_kV]
theorem snd_dnk0 : PE X (.Dict [] [] pos) (liftF X.K xv W (denF D (.dnk [] .nil))) := by
  refine PE.imp pe_dnewK fun σ H Q ⟨p, s, hK, S, o⟩ => ?_
  intro q hq
  exact OutF.lay (c := .k []) (u := .dK []) o S ⟨[], rfl, by simp [RKs]⟩ q hq
theorem bar_of {p q : Pl} {a : Addr} (h : q.F = (bar p a).F) : bar ⟨q.K, p.F, q.live, q.ρ, q.ω⟩ a = q := by
  have hF : q.F = fun b => p.F b ∨ b = a := h
  cases q with
  | mk K F l r o => simp only at hF; subst hF; rfl
theorem snd_dnk {ks : List Key} {a : Py.A} {keys : List (Option Expr)} {values : List Expr} (hne : ks ≠ []) (hk : keysB ks keys = true) (hl : ks.length = values.length) (h15 : ks.length ≤ 15) (ha : AOk D X xv W a values) : PE X (.Dict keys values pos) (liftF X.K xv W (denF D (.dnk ks a))) := by
  obtain ⟨k1, k2⟩ := keysB_some hk
  obtain ⟨hln, ts, hp, hi⟩ := ha
  have hts : ts.length = values.length := by
    clear hi hln hl h15
    induction hp with
    | nil => rfl
    | cons _ _ ih => simp [ih]
  refine PE.imp (pe_disp (pps_of hk hp hl) k1 (by rw [k2, hl]) (fun z => hne (List.eq_nil_of_length_eq_zero (by rw [← k2, z]; rfl))) (by rw [k2]; exact h15)) fun σ H Q ⟨p, s, hK, S, o⟩ => ?_
  intro q hq
  rw [tPairs_of (by rw [hl, hts])]
  have S1 : Sit (bar p q) s σ (upd H q (.dK [])) := S.laid hq rfl
  simp only [denF] at o
  rw [bnd_eq] at o
  unfold noEx at o
  refine hi σ _ _ ⟨bar p q, s, hK, S1, ?_⟩
  cases e : denA D a s with
  | ok zs s1 =>
    rw [e] at o
    simp only [] at o
    intro vs p2 H2 st2 S2 rv2
    have hb := bar_of (p := p) (a := q) st2.F
    have hF2 : p2.F q := by rw [st2.F]; exact .inr rfl
    have nn := S1.hr.ap q (.inr rfl)
    have hq2 : H2 q = some (.dK []) := st2.keep q _ upd_same (fun _ => nn.1) nn.2
    have st3 : Stp p H ⟨p2.K, p.F, p2.live, p2.ρ, p2.ω⟩ H2 := by
      refine ⟨st2.K, rfl, st2.live, fun b u hb n1 n2 => st2.keep b u (by rw [upd_ne (ne_of_none hb hq)]; exact hb) n1 n2, ?_, fun b hb => ?_, fun b hb => ?_⟩
      · obtain ⟨l, e1, e2, e3⟩ := st2.grow
        refine ⟨l, e1, fun b hb => ?_, e3⟩
        have := e2 b hb
        by_cases z : b = q
        · subst z; exact hq
        · rw [upd_ne z] at this; exact this
      · rcases st2.own b hb with h | h
        · exact .inl h
        · refine .inr ?_
          by_cases z : b = q
          · subst z; exact hq
          · rw [upd_ne z] at h; exact h
      · refine st2.lasts b ?_
        by_cases z : b = q
        · subst z; rw [upd_same]; simp
        · rw [upd_ne z]; exact hb
    obtain ⟨xs, e2, o2⟩ := lift?_outF o
    have rv := vals_ok rv2 e2
    split at o2
    · rename_i hc
      refine ⟨hq2, ks.zip vs, zip_kV, ?_, ?_⟩
      · rw [List.length_zip]; omega
      · have ha2 : ∃ u, H2 q = some u ∧ isMut u = true := ⟨_, hq2, rfl⟩
        have rk : RKs p2 H2 ((ks.zip xs).foldl (fun d q => Py.putK q.1 q.2 d) []) (mergeK [] (ks.zip vs)) := dnk_fold rv (by simp [RKs])
        have rc : RC p2 (upd H2 q (.dK (mergeK [] (ks.zip vs)))) (.k ((ks.zip xs).foldl (fun d q => Py.putK q.1 q.2 d) [])) (.dK (mergeK [] (ks.zip vs))) := updF_c hF2 S2.hr.muOk ha2 ⟨_, rfl, rk⟩
        refine o2 q _ ⟨p2.K, p.F, p2.live, p2.ρ, p2.ω⟩ _ (st3.updN hq) ?_ upd_same (by rw [hb]; exact rc) hq
        rw [hb]
        exact S2.updF hF2 rfl
    · exact o2.elim
  | ex c us s1 => rw [e] at o; exact o.elim
  | no => rw [e] at o; exact o.elim
/-! ### cuts with both bounds -/
theorem rss1 {p : Pl} {H : Hp} {σ : L2.St} {zs : List Src} {vs : List V} (h : RSs σ p H zs vs) (hl : zs.length = 1) : ∃ z v, zs = [z] ∧ vs = [v] ∧ RS σ p H z v := by
  match zs, hl, h with
  | [z], _, h =>
    obtain ⟨v, r, rfl, h1, h2⟩ := h
    have h2' : r = [] := h2
    subst h2'
    exact ⟨z, v, rfl, rfl, h1⟩
theorem snd_cutT {a : Py.A} {el eh : E} {l lo hi : Expr} {q : Pos} (ha : AOk D X xv W a [l]) (h1 : PE X lo (lift rE X.K xv W (denE D el))) (h2 : PE X hi (lift rE X.K xv W (denE D eh))) :
    PE X (.Subscript l (.Slice (some lo) (some hi) none q) pos) (lift rE X.K xv W (denE D (.cut a el eh))) := by
  obtain ⟨hln, ts, hp, hi'⟩ := ha
  obtain ⟨t, rfl, h0⟩ := pes1 hp
  refine PE.imp (pe_slice sl_tupA h0 (po_some h1) (po_some h2)) fun σ H Q ⟨p, s, hK, S, o⟩ => ?_
  simp only [denE] at o
  refine hi' σ H (fun vs G => match vs with | [v] => tPart (lift rE X.K xv W (denE D el)) σ G fun i G2 => tPart (lift rE X.K xv W (denE D eh)) σ G2 fun j G3 => rSlA X.K v i j G3 Q | _ => False) ⟨p, s, hK, S, Out.bnd (r' := RSs σ) o fun zs s1 vs p1 H1 hz st1 S1 rv1 o1 => ?_⟩
  obtain ⟨z, v, rfl, rfl, rz⟩ := rss1 rv1 (hln _ _ _ hz)
  have hK1 : p1.K = X.K := by rw [st1.K]; exact hK
  refine ⟨p1, s1, hK1, S1, Out.bnd (r' := rE) o1 fun x s2 w p2 H2 _ st2 S2 rv2 o2 => ?_⟩
  obtain ⟨i, e1, o3⟩ := lift?_out o2
  have hx := intD_some e1
  subst hx
  have hK2 : p2.K = X.K := by rw [st2.K]; exact hK1
  refine ⟨i, rv_int rv2, p2, s2, hK2, S2, Out.bnd (r' := rE) o3 fun y s3 w2 p3 H3 _ st3 S3 rv3 o4 => ?_⟩
  obtain ⟨j, e2, o5⟩ := lift?_out o4
  have hy := intD_some e2
  subst hy
  refine ⟨j, rv_int rv3, ?_⟩
  have hK3 : p3.K = X.K := by rw [st3.K]; exact hK2
  rw [bnd_eq] at o5
  have rz3 : RSs σ p3 H3 [z] [v] := ⟨v, [], rfl, (rz.keep S1.hr st2).keep S2.hr st3, rfl⟩
  cases e : snap [z] s3 with
  | ok xs s4 =>
    obtain ⟨rfl, rw1⟩ := snap_ok S3 rz3 e
    rw [e] at o5
    obtain ⟨u, e3, c⟩ := lift?_end o5
    match xs, rw1, e3 with
    | [x1], rw1, e3 =>
      obtain ⟨v1, r1, ev, g1, g2⟩ := rw1
      cases ev
      simp only [one] at e3
      unfold cutT at e3
      split at e3
      · cases e3
        rw [← hK3]
        exact core_slcT S3 g1 c
      · cases e3
  | ex c us s4 => exact absurd e (snap_nex _)
  | no => rw [e] at o5; exact o5.elim
theorem snd_cutL {a : Py.A} {el eh : E} {l lo hi : Expr} {q : Pos} (ha : AOk D X xv W a [l]) (h1 : PE X lo (lift rE X.K xv W (denE D el))) (h2 : PE X hi (lift rE X.K xv W (denE D eh))) :
    PE X (.Subscript l (.Slice (some lo) (some hi) none q) pos) (liftF X.K xv W (denF D (.cut a el eh))) := by
  obtain ⟨hln, ts, hp, hi'⟩ := ha
  obtain ⟨t, rfl, h0⟩ := pes1 hp
  refine PE.imp (pe_slice sl_list h0 (po_some h1) (po_some h2)) fun σ H Q ⟨p, s, hK, S, o⟩ => ?_
  simp only [denF] at o
  refine hi' σ H (fun vs G => match vs with | [v] => tPart (lift rE X.K xv W (denE D el)) σ G fun i G2 => tPart (lift rE X.K xv W (denE D eh)) σ G2 fun j G3 => rSlL X.K v i j G3 Q | _ => False) ⟨p, s, hK, S, OutF.bnd (r' := RSs σ) o fun zs s1 vs p1 H1 hz st1 S1 rv1 o1 => ?_⟩
  obtain ⟨z, v, rfl, rfl, rz⟩ := rss1 rv1 (hln _ _ _ hz)
  have hK1 : p1.K = X.K := by rw [st1.K]; exact hK
  refine ⟨p1, s1, hK1, S1, OutF.bnd (r' := rE) o1 fun x s2 w p2 H2 _ st2 S2 rv2 o2 => ?_⟩
  obtain ⟨i, e1, o3⟩ := lift?_outF o2
  have hx := intD_some e1
  subst hx
  have hK2 : p2.K = X.K := by rw [st2.K]; exact hK1
  refine ⟨i, rv_int rv2, p2, s2, hK2, S2, OutF.bnd (r' := rE) o3 fun y s3 w2 p3 H3 _ st3 S3 rv3 o4 => ?_⟩
  obtain ⟨j, e2, o5⟩ := lift?_outF o4
  have hy := intD_some e2
  subst hy
  refine ⟨j, rv_int rv3, ?_⟩
  have hK3 : p3.K = X.K := by rw [st3.K]; exact hK2
  rw [bnd_eq] at o5
  have rz3 : RSs σ p3 H3 [z] [v] := ⟨v, [], rfl, (rz.keep S1.hr st2).keep S2.hr st3, rfl⟩
  cases e : snap [z] s3 with
  | ok xs s4 =>
    obtain ⟨rfl, rw1⟩ := snap_ok S3 rz3 e
    rw [e] at o5
    match xs, rw1, o5 with
    | [x1], rw1, o5 =>
      obtain ⟨v1, r1, ev, g1, g2⟩ := rw1
      cases ev
      simp only [oneF] at o5
      cases e3 : cutL i j x1 with
      | none => simp only [e3] at o5; exact o5.elim
      | some c =>
        simp only [e3] at o5
        unfold cutL at e3
        obtain ⟨ys, e4, rfl⟩ := Option.map_eq_some_iff.mp e3
        obtain ⟨a1, us, rfl, q1, r1⟩ := g1.lsts e4
        exact ⟨a1, us, rfl, by rw [← hK3]; exact q1, OutF.lay o5 S3 ⟨_, rfl, cutM_ok r1⟩⟩
    | [], _, o5 => exact o5.elim
    | _ :: _ :: _, _, o5 => exact o5.elim
  | ex c us s4 => exact absurd e (snap_nex _)
  | no => rw [e] at o5; exact o5.elim
end
end Py

-- text PyUb
set_option Elab.async false
set_option linter.all false
set_option maxRecDepth 100000
set_option maxHeartbeats 4000000
namespace Py
open PySem PySem.Spec PyProof.Rows L2
/-! ### a name's own list, walked -/
section
variable {p : Pl} {s : S} {σ : L2.St} {H : Hp} {i : Nat}
theorem iR0_own {a : Addr} {vs : List V} {xs : List MV} (ha : H a = some (.lst vs)) (r : RVs p H xs vs) (mu : MuOk p H) (nρ : a ∉ p.ρ) (nω : a ∉ p.ω) : iR0 p H (.seq (.lst xs)) (Itl p.K a) := by
  have keep : ∀ p' G, Stp p H p' G → SqL p.K G a vs := fun p' G st => .inl (.inl (st.keep a _ ha (fun _ => nρ) nω))
  refine ⟨YAt vs, by show Walk _ xs.length _ _; rw [← r.len]; exact (walk_list (K := p.K) (a := a) (xs := vs)).mono (fun G ⟨p', st⟩ => keep p' G st) fun i G x G' _ _ y => y, fun i G x G' p' st m yy => ?_⟩
  obtain ⟨rfl, e⟩ := yy
  obtain ⟨z, h1, h2⟩ := (RVs.keepM mu st xs vs r).get e
  exact ⟨z, h1, Stp.refl _ _, h2, fun _ _ S => S⟩
theorem iR_own {a : Addr} {vs : List V} {xs : List MV} (ha : H a = some (.lst vs)) (r : RVs p H xs vs) (mu : MuOk p H) (nρ : a ∉ p.ρ) (nω : a ∉ p.ω) : iR p H (.seq (.lst xs)) (Itl p.K a) :=
  ⟨iR0_own ha r mu nρ nω, fun D hD => iR0_own (p := bar p D) ha (r.re (bar p D) rfl rfl (bar_hb hD)) mu nρ nω⟩
def hid (p : Pl) (a : Addr) : Pl := bar (unown p a) a
theorem hid_hb {a : Addr} (ha : a ∈ p.ω) : ∀ b, H b ≠ none → b ∉ p.ρ → b ∉ p.ω → ¬ p.F b → b ∉ (hid p a).ω ∧ ¬ (hid p a).F b := fun b _ _ n2 n3 =>
  ⟨fun z => n2 (List.mem_filter.mp z).1, fun z => z.elim n3 fun z => n2 (by rw [z]; exact ha)⟩
theorem Sit.hide (S : Sit p s σ H) {c : Cn} (e : s.env[i]? = some (some (.o c))) {a : Addr} (h1 : σ[i]? = some (some (.ref a))) (h2 : a ∈ p.ω) : Sit (hid p a) { s with env := s.env.set i none } σ H := by
  have nρ := S.hr.ap2 a h2
  refine ⟨⟨S.hr.live, S.hr.len, S.hr.nd, fun l j b d e1 e2 e3 => ?_, fun b hb => ?_, fun b hb => ?_, fun b hb => ?_⟩, by simpa using S.len, fun j x ej => ?_, fun j d ej => ?_, fun j k d d' b ej ek => ?_⟩
  · obtain ⟨w, hw, rc⟩ := S.hr.at_ l j b d e1 e2 e3
    exact ⟨w, hw, rc.re (hid p a) rfl rfl (hid_hb h2)⟩
  · rcases hb with hb | hb | hb | hb
    · exact S.hr.mu b (.inl hb)
    · exact S.hr.mu b (.inr (.inl (List.mem_filter.mp hb).1))
    · exact S.hr.mu b (.inr (.inr hb))
    · subst hb; exact S.hr.mu b (.inr (.inl h2))
  · rcases hb with hb | rfl
    · exact ⟨(S.hr.ap b hb).1, fun z => (S.hr.ap b hb).2 (List.mem_filter.mp z).1⟩
    · exact ⟨nρ, fun z => by simpa using (List.mem_filter.mp z).2⟩
  · exact S.hr.ap2 b (List.mem_filter.mp hb).1
  · rcases envSet ej with ⟨_, q, _⟩ | ⟨ne, ej⟩
    · cases q
    · obtain ⟨v, k1, k2⟩ := S.var j x ej
      exact ⟨v, k1, RV.re k2 (hid p a) rfl rfl (hid_hb h2)⟩
  · rcases envSet ej with ⟨_, q, _⟩ | ⟨ne, ej⟩
    · cases q
    · obtain ⟨b, w, k1, k2, k3, k4⟩ := S.own j d ej
      exact ⟨b, w, k1, List.mem_filter.mpr ⟨k2, by simpa using (own_ne S ne e ej h1 k1).symm⟩, k3, k4.re (hid p a) rfl rfl (hid_hb h2)⟩
  · rcases envSet ej with ⟨_, q, _⟩ | ⟨ne, ej⟩
    · cases q
    · rcases envSet ek with ⟨_, q, _⟩ | ⟨ne2, ek⟩
      · cases q
      · exact S.ne j k d d' b ej ek
theorem set_same {α : Type} {xs : List α} {i : Nat} {x : α} (h : xs[i]? = some x) : xs.set i x = xs := by
  apply List.ext_getElem?
  intro j
  by_cases q : i = j
  · subst q
    rw [List.getElem?_set_self (List.getElem?_eq_some_iff.mp h).1, h]
  · rw [List.getElem?_set_ne q]
end
section
variable {C : Cfg} {D : Fns} {k : Nat} {N : List Str} {sc : Scope} {X : Cx} {xv : XV} {W : WX} {pos : Pos} {tg : Expr}
/-- behind the walk it is the name's own again -/
theorem hid_out {p : Pl} {s : S} {σ : L2.St} {H : Hp} {i : Nat} {xs : List MV} {vs : List V} {a : Addr} {Q : VK} {f : List MV → M Cn} (S : Sit p s σ H) (e : s.env[i]? = some (some (.o (.l xs)))) (h1 : σ[i]? = some (some (.ref a))) (h2 : a ∈ p.ω) (h3 : H a = some (.lst vs)) (h4 : RVs p H xs vs)
    (o : OutF xv W p H σ Q (hidden i f s)) : OutF xv W (hid p a) H σ Q (f xs { s with env := s.env.set i none }) := by
  unfold hidden at o
  rw [e] at o
  simp only [] at o
  cases em : f xs { s with env := s.env.set i none } with
  | ok d s' =>
    simp only [em] at o
    intro a2 u q G st Sq hu rc ha
    have hq := bar_of (p := p) (a := a) (q := q) st.F
    have nρ := S.hr.ap2 a h2
    have nω : a ∉ (hid p a).ω := fun z => by simpa using (List.mem_filter.mp z).2
    have hne : a ≠ a2 := fun z => by rw [z, ha] at h3; cases h3
    have hga : G a = some (.lst vs) := st.keep a _ h3 (fun _ => nρ) nω
    have S0 := S.hide e h1 h2
    have fr2 : ∀ b ∈ [a2], H b = none := fun b hb => by
      have hb : b = a2 := by simpa using hb
      rw [hb]; exact ha
    have rc0 : RC (hid p a) H (.l xs) (.lst vs) := RC.re (c := .l xs) ⟨vs, rfl, h4⟩ (hid p a) rfl rfl (hid_hb h2)
    have rcx : RC (bar q a2) G (.l xs) (.lst vs) := RC.bars (as := [a2]) S0.hr.muOk fr2 st rc0
    have hbb : bar q a2 = bar (bar ⟨q.K, p.F, q.live, q.ρ, q.ω⟩ a2) a := by
      have := bars_bar ⟨q.K, p.F, q.live, q.ρ, q.ω⟩ a [a2]
      exact (congrArg (fun z => bar z a2) hq.symm).trans this
    rw [hbb] at Sq rcx rc
    have nF : ¬ (bar ⟨q.K, p.F, q.live, q.ρ, q.ω⟩ a2).F a := fun z => z.elim (fun z => (S.hr.ap a z).2 h2) hne
    have hil : i < s'.env.length := by
      have l1 := Sq.len
      have l2 := S.len
      have l3 := (List.getElem?_eq_some_iff.mp e).1
      omega
    have S2 := Sq.toOwn (i := i) hga rcx nF hil
    rw [set_same h1] at S2
    have st2 : Stp p H (addω ⟨q.K, p.F, q.live, q.ρ, q.ω⟩ a) G := by
      refine ⟨st.K, rfl, st.live, fun b o hb n1 n2 => st.keep b o hb n1 fun z => n2 (List.mem_filter.mp z).1, st.grow, fun b hb => ?_, st.lasts⟩
      rcases List.mem_cons.mp hb with rfl | hb
      · exact .inl h2
      · rcases st.own b hb with h | h
        · exact .inl (List.mem_filter.mp h).1
        · exact .inr h
    refine o a2 u (addω ⟨q.K, p.F, q.live, q.ρ, q.ω⟩ a) G st2 S2 hu (rc.re (bar (addω ⟨q.K, p.F, q.live, q.ρ, q.ω⟩ a) a2) rfl rfl fun b hb n1 n2 n3 => ⟨fun z => ?_, fun z => ?_⟩) ha
    · rcases List.mem_cons.mp z with rfl | z
      · exact n3 (.inr rfl)
      · exact n2 z
    · rcases z with z | z
      · exact n3 (.inl (.inl z))
      · exact n3 (.inl (.inr z))
  | ex c us s' => simp only [em] at o; exact o.elim
  | no => simp only [em] at o; exact o.elim
theorem snd_lcO {g : G} {i : Nat} {x : Str} {c e : E} {elt : Expr} {ifs : List Expr} {scope : Scope} {own : List (Str × Nat)} {xv' : XV} {W' : WX} {q : Pos} (A : At C D k N sc X xv W) (hn : nmB N sc i x = true) (ok : BlkOk X.N X.env.scope scope own)
    (hg : ∀ (s : Shared) (H : Hp) (C : Addr) (cl : List (Str × Addr)) (fp : List Addr), GOk (X.blk s H scope (compEnvC scope cl C X.env) fp) g tg)
    (ht : ∀ (s : Shared) (H : Hp) (C : Addr) (cl : List (Str × Addr)) (fp : List Addr), PTs (X.blk s H scope (compEnvC scope cl C X.env) fp) ifs (lift rB X.K xv' W' (tstE D c)))
    (he : ∀ (s : Shared) (H : Hp) (C : Addr) (cl : List (Str × Addr)) (fp : List Addr), PE (X.blk s H scope (compEnvC scope cl C X.env) fp) elt (lift rE X.K xv' W' (denE D e)))
    (hsub : ∀ j ∈ slotsG g, j ∈ own.map (·.2)) :
    PE X (.ListComp elt [⟨tg, .Name x q, ifs, 0⟩] scope pos) (liftF X.K xv W (denF D (.lcO g (own.map (·.2)) i c e))) := by
  obtain ⟨n1, n2, n3, n4⟩ := A.nm hn
  refine PE.imp (pe_lc (g := liftG X.K g) A.calm (by rw [A.hN]; exact A.nd) (pi_seq (pe_var n1 n2 n3 n4)) ok (fun s H C cl fp => (hg s H C cl fp).lift) ht he) fun σ H Q ⟨p, s, hK, S, o⟩ => ?_
  simp only [denF] at o
  have o' := o
  unfold hidden at o
  split at o
  · rename_i xs e0
    obtain ⟨a, u, k1, k2, k3, vs, rfl, r⟩ := S.own i _ e0
    have nω : a ∉ (hid p a).ω := fun z => by simpa using (List.mem_filter.mp z).2
    have S0 := S.hide e0 k1 k2
    refine ⟨.ref a, k1, a, rfl, .inl ⟨⟨vs, .inl (.inl k3)⟩, ?_⟩⟩
    have w : iR (hid p a) H (.seq (.lst xs)) (Itl X.K a) := by
      have := iR_own (p := hid p a) k3 (r.re (hid p a) rfl rfl (hid_hb k2)) S0.hr.muOk (S.hr.ap2 a k2) nω
      have hk : (hid p a).K = X.K := hK
      rw [hk] at this
      exact this
    have o2 := hid_out S e0 k1 k2 k3 r o'
    exact lc_in (p1 := hid p a) hsub hK S0 w o2
  · exact o.elim
end
end Py

-- text PyDt
set_option Elab.async false
set_option linter.all false
set_option maxRecDepth 100000
set_option maxHeartbeats 4000000
/-! ### dict(xs) of pairs whose keys are tuples -/
namespace Py
open PySem PySem.Spec PyProof.Rows L2
abbrev TPr (H : Hp) (kv : List Key × Addr × V) (x : List Key × Addr × Value) : Prop := kv.1 = x.1 ∧ H x.2.1 = some (.tup (x.1.map kV)) ∧ RelV kv.2.2 x.2.2
def mergeT (acc : List (List Key × V)) (kvs : List (List Key × Addr × V)) : List (List Key × V) := kvs.foldl (fun acc x => L2.putK acc x.1 x.2.2) acc
theorem kt_all {H : Hp} : ∀ {kvs : List (List Key × Addr × V)} {prs : List (List Key × Addr × Value)} {acc : List (List Key × V)} {xs : List (List Key × Addr × Value)}, Paired (TPr H) kvs prs → KT H acc xs → KT H (mergeT acc kvs) (storedAllH xs prs)
  | _, _, acc, xs, .nil, h => h
  | _, _, acc, xs, .cons (a := kv) (b := x) (l₁ := kvs) (l₂ := prs) ⟨h1, h2, h3⟩ t, h => by
    have : KT H (L2.putK acc kv.1 kv.2.2) (storedH xs x.1 x.2.1 x.2.2) := by
      rw [h1]
      exact h.put x.1 h2 h3
    show KT H (mergeT (L2.putK acc kv.1 kv.2.2) kvs) (storedAllH (storedH xs x.1 x.2.1 x.2.2) prs)
    exact kt_all t this
theorem length_mergeT : ∀ (kvs : List (List Key × Addr × V)) (acc : List (List Key × V)), (mergeT acc kvs).length ≤ acc.length + kvs.length
  | [], acc => by show acc.length ≤ acc.length + 0; omega
  | p :: r, acc => by
    have h1 := length_mergeT r (L2.putK acc p.1 p.2.2)
    have h2 := length_putK acc p.1 p.2.2
    show (mergeT (L2.putK acc p.1 p.2.2) r).length ≤ _
    rw [List.length_cons]
    omega
section
variable {X : Cx}
theorem pairsT_of {pins : List (Addr × Obj)} {σ : L2.St} {H : Hp} {s : Shared} (I : Inv X pins σ H s) : ∀ {ps : List Addr} {kvs : List (List Key × Addr × V)}, Paired (fun p kv => SqT X.K H p [.ref kv.2.1, kv.2.2] ∧ H kv.2.1 = some (.tup (kv.1.map kV))) ps kvs →
    ∃ prs : List (List Key × Addr × Value), Paired (TPr H) kvs prs ∧ prs.length = ps.length ∧ ∀ (j : Nat) (q : List Key × Addr × Value), prs[j]? = some q → ∃ b : Addr, ps[j]? = some b ∧ IsTup s.heap b #[.ref q.2.1, q.2.2] ∧ H q.2.1 = some (.tup (q.1.map kV))
  | _, _, .nil => ⟨[], .nil, rfl, fun j q e => by simp at e⟩
  | _, _, .cons (a := p) (b := kv) h t => by
    obtain ⟨prs, r, hl, hp⟩ := pairsT_of I t
    obtain ⟨its, rv, ht, _⟩ := I.tuple h.1
    obtain ⟨u, y, ei, ru, ry⟩ := vals2 rv
    subst ei
    cases (show u = Value.ref kv.2.1 from ru)
    refine ⟨(kv.1, kv.2.1, y) :: prs, .cons ⟨rfl, h.2, ry⟩ r, by rw [List.length_cons, List.length_cons, hl], fun j q e => ?_⟩
    cases j with
    | zero =>
      have e' : (kv.1, kv.2.1, y) = q := Option.some.inj e
      subst e'
      exact ⟨p, rfl, ht, h.2⟩
    | succ j =>
      obtain ⟨b, e1, e2, e3⟩ := hp j q (by simpa using e)
      exact ⟨b, by simpa using e1, e2, e3⟩
theorem call_dictT (hcalm : X.calm = true) (hu : X.A.units + 100 < cLine) : CallR X (.type "dict") (fun xs H Q => ∃ (a : Addr) (ps : List Addr) (kvs : List (List Key × Addr × V)), xs = [.ref a] ∧ SqL X.K H a (ps.map V.ref) ∧
    Paired (fun p kv => SqT X.K H p [.ref kv.2.1, kv.2.2] ∧ H kv.2.1 = some (.tup (kv.1.map kV))) ps kvs ∧ ∀ p, H p = none → Q (.ref p) (upd H p (.dT (mergeT [] kvs)))) := by
  intro pins s σ H xs us Q I r q
  obtain ⟨a, ps, kvs, ex, hq, hp, q⟩ := q
  subst ex
  obtain ⟨u, eu, rx⟩ := vals1 r
  subst eu
  cases rx
  obtain ⟨its, rv, pl, hz⟩ := I.list hq
  have ei := refs_at rv
  subst ei
  rw [List.length_map] at hz
  obtain ⟨prs, rel, hl, hpr⟩ := pairsT_of I hp
  have hlen0 := Paired.length rel
  have P := PairArg.list (prog := X.prog) (w := X.w) a (ps.map Value.ref).toArray (fun j => ps.getD j 0) (prs.map fun x => (Value.ref x.2.1, x.2.2))
  have ok : PlainSeq "list" s.heap a (ps.map Value.ref).toArray ∧ PairItems s.heap (ps.map Value.ref).toArray (fun j => ps.getD j 0) (prs.map fun x => (Value.ref x.2.1, x.2.2)) := by
    refine ⟨pl, by simp [hl], fun j k v e => ?_⟩
    rw [List.getElem?_map] at e
    obtain ⟨x, hx, e⟩ := Option.map_eq_some_iff.mp e
    cases e
    obtain ⟨b, e1, e2, e3⟩ := hpr j x hx
    have hb : ps.getD j 0 = b := by simp [List.getD, e1]
    refine ⟨by simp [e1, hb], .inl ?_⟩
    show IsTup s.heap (ps.getD j 0) _
    rw [hb]; exact e2
  refine call_dict_pairsH (knd := tupleKind (mixKind X.prog X.w)) (ps := prs) P (I.ok.hd hcalm) (tupleKind_room_in1 (by show X.A.units + 1 + 1 < cLine; omega)) ok ⟨by simp, fun i key v e => ?_⟩ (fun h' hk x hx => ?_) (by rw [List.length_map, hl]; exact hz) fun h' tk hd' k => ?_
  · have e' : (prs.map fun x => (Value.ref x.2.1, x.2.2))[i]? = some (key, v) := e
    rw [List.getElem?_map] at e'
    obtain ⟨x, hx, e'⟩ := Option.map_eq_some_iff.mp e'
    cases e'
    exact ⟨x.1, x.2.1, hx, rfl⟩
  · obtain ⟨j, hj⟩ := List.mem_iff_getElem?.mp hx
    obtain ⟨b, _, _, e3⟩ := hpr j x hj
    obtain ⟨o, its, n, ho, r⟩ := key_of I.hok e3
    exact ⟨o, its, n, hk _ _ (Nat.ne_of_lt (Heap.lt_size ho)) (fun z => nomatch z) ho, r⟩
  · have hm : (s.heap.objs.size == sysModules) = false := beq_eq_false_iff_ne.mpr (Nat.ne_of_gt I.big)
    have hfr := I.hok.fresh (Nat.le_refl s.heap.objs.size)
    have hlen : (mergeT [] kvs).length ≤ sizeLine := by
      refine Nat.le_trans (length_mergeT kvs []) ?_
      rw [List.length_nil, Nat.zero_add, hlen0, hl]
      exact hz
    obtain ⟨o, es, ep, hq, h2, h3, h4, _, h5⟩ := hd'
    refine ⟨.ref s.heap.objs.size, upd H s.heap.objs.size (.dT (mergeT [] kvs)), I.laid (t' := tk) (fun b o e => k b o (fun z => nomatch z) e) (Nat.le_refl _) ⟨hlen, hm, _, (kt_all rel .nil).keeps fun c ys ec => ?_, o, es, ep, hq, h2, h3, h4, h5⟩, rfl, q _ hfr⟩
    rw [upd_ne (ne_of_none ec hfr)]
    exact ec
end
end Py

-- text PyUc
set_option Elab.async false
set_option linter.all false
set_option maxRecDepth 100000
set_option maxHeartbeats 4000000
namespace HT
open PySem PySem.Spec PyProof.Rows
/-! ### t[::-1], t[-2::-1] of a tuple -/
def backLo (k : Nat) : Option Int := if k = 0 then none else some (-2)
theorem back_places {k : Nat} (hk : k = 0 ∨ k = 1) (n : Nat) : Builtin.Slice.slicePlaces (Builtin.Slice.sliceAdjust (backLo k) none (-1) (n : Int)).1 (Builtin.Slice.sliceAdjust (backLo k) none (-1) (n : Int)).2 (-1) = n - k ∧
    (0 < n - k → (Builtin.Slice.sliceAdjust (backLo k) none (-1) (n : Int)).1 = ((n - k : Nat) : Int) - 1) := by
  rcases hk with rfl | rfl
  · have e : Builtin.Slice.sliceAdjust (backLo 0) none (-1) (n : Int) = ((n : Int) - 1, -1) := rfl
    rw [e]
    refine ⟨?_, fun _ => by simp⟩
    unfold Builtin.Slice.slicePlaces
    rw [if_neg (by decide)]
    by_cases h : (n : Int) - 1 > -1
    · rw [if_pos h, show (-(-1 : Int)) = 1 by decide, Int.ediv_one]; simp only; omega
    · rw [if_neg h]; simp only [Int.toNat_zero]; omega
  · have e : Builtin.Slice.sliceAdjust (backLo 1) none (-1) (n : Int) = (max (-2 + (n : Int)) (-1), -1) := rfl
    rw [e]
    refine ⟨?_, fun _ => by simp only; omega⟩
    unfold Builtin.Slice.slicePlaces
    rw [if_neg (by decide)]
    by_cases h : max (-2 + (n : Int)) (-1) > -1
    · rw [if_pos h, show (-(-1 : Int)) = 1 by decide, Int.ediv_one]; simp only; omega
    · rw [if_neg h]; simp only [Int.toNat_zero]; omega
theorem filterMap_eq {α β : Type} {f g : α → Option β} : ∀ {l : List α}, (∀ x ∈ l, f x = g x) → l.filterMap f = l.filterMap g
  | [], _ => rfl
  | x :: l, h => by rw [List.filterMap_cons, List.filterMap_cons, h x List.mem_cons_self, filterMap_eq fun y hy => h y (List.mem_cons_of_mem _ hy)]
theorem back_pick (xs : Array Value) (m : Nat) {lo : Int} (hl : 0 < m → lo = (m : Int) - 1) : ((List.range m).filterMap fun (j : Nat) => xs[(lo + (j : Int) * (-1)).toNat]?) = (xs.toList.take m).reverse := by
  have e : ((List.range m).filterMap fun (j : Nat) => xs[(lo + (j : Int) * (-1)).toNat]?) = ((List.range m).map fun j => m - 1 - j).filterMap (xs[·]?) := by
    rw [List.filterMap_map]
    refine filterMap_eq fun j hj => ?_
    have hj' := List.mem_range.mp hj
    have := hl (by omega)
    show xs[(lo + (j : Int) * (-1)).toNat]? = xs[m - 1 - j]?
    congr 1
    omega
  rw [e, PySem.W.krv_range, List.filterMap_reverse]
  have h := pick_run xs 0 m
  rw [show ((0 + ·) : Nat → Nat) = id from funext fun k => Nat.zero_add k, List.map_id, List.drop_zero] at h
  rw [h]
section
variable {prog : Program} {w : World} {A : Around} {E : Value → Shared → Prop} {s : Shared}
theorem getItem_tuple_back {t sl : Addr} {items : Array Value} {vl vu vs : Value} {k : Nat} {Q : Value → Shared → Prop} (hk : k = 0 ∨ k = 1) (ht : IsTup s.heap t items) (hs : s.heap.IsSliceOf sl vl vu vs) (pl : IsPart vl (backLo k)) (pu : IsPart vu none) (ps : IsPart vs (some (-1)))
    (h : Q (.ref s.heap.objs.size) { s with heap := s.heap.push { cls := .type "tuple", data := .seq (items.toList.take (items.size - k)).reverse.toArray } })
    (hsz : items.size ≤ sizeLine) : wpAny (model prog w) A (getItem (.ref t) (.ref sl)) Q E s := by
  have htake : sizeOk (.seq (items.toList.take (items.size - k)).reverse.toArray) := by
    show (items.toList.take (items.size - k)).reverse.toArray.size ≤ sizeLine
    rw [List.size_toArray, List.length_reverse, List.length_take, Array.length_toList]
    omega
  obtain ⟨os, hos, hcs, hds⟩ := id hs
  have hTs : s.TypeIs (.ref sl) "slice" := ⟨os, hos, hcs⟩
  unfold getItem
  try with_reducible refine wpAny_holding ?_
  first | refine wpAny_bind (wpAny_pure ?_) | skip
  refine wpAny_bind (wpAny_sequenceKey ht.typeIs (by decide) ?_)
  refine wpAny_bind (wpAny_callSpecial?_slot (name := Str.ofString "__getitem__") ht.typeIs PyProof.Rows.slot_tuple_getitem
    (wpAny_call_entry PyProof.Rows.slot_tuple_getitem ht.typeIs entry_tuple_getitem ?_ (args_tuple_getitem _ _)))
  show wpAny _ _ (Builtin.Tuple.tupleItemsOf (.ref t) >>= _) _ _ s
  refine wpAny_bind (tupleItemsOf_ ht ?_)
  refine wpAny_bind (wpAny_typeOf hTs ?_)
  rw [if_pos (by decide)]
  have app : ∀ {A : Around} {Q : Int × Int × Nat → Shared → Prop}, Q ((Builtin.Slice.sliceAdjust (backLo k) none (-1) (items.size : Int)).1, -1, items.size - k) s → wpAny (model prog w) A (Builtin.Slice.sliceApplied (.ref sl) (pure (items.size : Int))) Q E s := by
    intro A Q h
    unfold Builtin.Slice.sliceApplied Builtin.Slice.sliceFields
    refine wpAny_bind (wpAny_bind (wpAny_field hos hds (x := vl) rfl (wpAny_bind (wpAny_field hos hds (x := vu) rfl (wpAny_bind (wpAny_field hos hds (x := vs) rfl (wpAny_pure ?_)))))))
    refine wpAny_bind (slicePart_ ps ?_)
    show wpAny _ _ (if ((-1 : Int) == 0) = true then _ else _) _ _ s
    rw [if_neg (by decide)]
    refine wpAny_bind (slicePart_ pl (wpAny_bind (slicePart_ pu (wpAny_bind (wpAny_pure ?_)))))
    have e := (back_places hk items.size).1
    show wpAny _ _ (pure ((Builtin.Slice.sliceAdjust (backLo k) none (-1) (items.size : Int)).1, (-1 : Int), Builtin.Slice.slicePlaces (Builtin.Slice.sliceAdjust (backLo k) none (-1) (items.size : Int)).1 (Builtin.Slice.sliceAdjust (backLo k) none (-1) (items.size : Int)).2 (-1))) _ _ s
    rw [e]
    exact wpAny_pure h
  refine wpAny_bind (app ?_)
  have hno : ¬ (((Builtin.Slice.sliceAdjust (backLo k) none (-1) (items.size : Int)).1 == 0 && (-1 : Int) == 1 && (items.size - k) == items.size) = true) := by
    intro q
    rw [Bool.and_eq_true, Bool.and_eq_true] at q
    exact absurd q.1.2 (by decide)
  show wpAny _ _ (if ((Builtin.Slice.sliceAdjust (backLo k) none (-1) (items.size : Int)).1 == 0 && (-1 : Int) == 1 && (items.size - k) == items.size) = true then _ else _) _ _ s
  rw [if_neg hno, back_pick _ _ (back_places hk items.size).2]
  first
    | exact wpAny_bind (m := Builtin.Tuple.tupleExact _) (wpAny_newObj_type (wpAny_pure ⟨_, rfl, wpAny_pure h⟩) htake)
    | exact wpAny_bind (m := Builtin.Tuple.tupleExact _) (wpAny_newObj_type (wpAny_bind (wpAny_pure (wpAny_pure ⟨_, rfl, wpAny_pure h⟩))) htake)
    | exact wpAny_bind (wpAny_bind (m := Builtin.Tuple.tupleExact _) (wpAny_newObj_type (wpAny_pure (wpAny_pure ⟨_, rfl, wpAny_pure h⟩)) htake))
    | exact wpAny_bind (wpAny_bind (m := Builtin.Tuple.tupleExact _) (wpAny_newObj_type (wpAny_pure ⟨_, rfl, wpAny_pure h⟩) htake))
end
end HT
namespace Py
open PySem PySem.Spec PyProof.Rows L2
section
variable {X : Cx}
def tRevT (K : PySem.W.Frag) (k : Nat) (te : TE) : TE := fun σ H Q => te σ H fun x H1 => ∃ a xs, x = .ref a ∧ SqT K H1 a xs ∧ ∀ p, H1 p = none → Q (.ref p) (upd H1 p (.tup (xs.take (xs.length - k)).reverse))
theorem revT_core {e : Expr} {te : TE} {k j : Nat} {lo : Option Expr} {p1 p2 p3 pos : Pos} (hk : k = 0 ∨ k = 1) (he : PE X e te)
    (hlo : ∀ (pins : List (Addr × Obj)) (s : Shared) (σ : L2.St) (H : Hp), Inv X pins σ H s → wpAny (model X.prog X.w) X.A (evalPart lo X.env) (fun u s' => ∃ o H', Inv X pins σ H' s' ∧ IsPart u o ∧ (o = HT.backLo k ∧ H' = H)) X.xe s)
    (hs : ∀ a b, subscripted (.Slice lo none (some (.UnaryOp .USub (.Constant (.int 1) j p1) p2)) p3) false (.ref a) (.ref b) = operate [.ref a, .ref b] (getItem (.ref a) (.ref b))) : PE X (.Subscript e (.Slice lo none (some (.UnaryOp .USub (.Constant (.int 1) j p1) p2)) p3) pos) (tRevT X.K k te) := by
  refine ⟨fun pins s σ H Q I h => ?_⟩
  refine Subscript_ (thn (he.run pins s σ H _ I h) fun v s1 ⟨x, H1, I1, r1, q1⟩ => ?_)
  obtain ⟨a, xs, ex, hx, q⟩ := q1
  subst ex
  cases r1
  have hst : PO X (some (.UnaryOp .USub (.Constant (.int 1) j p1) p2)) (tPart (tUn (rU fun i => .int (-i)) (tC (.int 1)))) := po_some (pe_un un_neg pe_int)
  refine wpAny_Slice (thn (hlo pins s1 σ H1 I1) fun vl s2 ⟨l, H2, I2, pl, el, e2⟩ => ?_)
  subst el e2
  refine thn (po_none.run pins s2 σ H2 (fun o H3 => o = none ∧ H3 = H2) I2 ⟨rfl, rfl⟩) fun vu s3 ⟨u, H3, I3, pu, eu, e3⟩ => ?_
  subst eu e3
  refine thn (hst.run pins s3 σ H3 (fun o H4 => o = some (-1) ∧ H4 = H3) I3 ⟨1, rfl, -1, rfl, rfl, rfl⟩) fun vs s4 ⟨o, H4, I4, ps, eo, e4⟩ => ?_
  subst eo e4
  have I5 : Inv X pins σ H4 { s4 with heap := s4.heap.push { cls := .type "slice", data := .fields #[vl, vu, vs] } } := I4.kept (t' := s4.toks) fun b ob q => Heap.get?_push_of_some _ q
  obtain ⟨its, r, ht, hz⟩ := I5.tuple hx
  have hlen := r.length
  have hsize : its.toArray.size = xs.length := by rw [List.size_toArray]; exact hlen.symm
  show wpAny (model X.prog X.w) X.A (subscriptTail e (.Slice lo none (some (.UnaryOp .USub (.Constant (.int 1) j p1) p2)) p3) (.ref a) (.ref s4.heap.objs.size)) (EP X pins σ Q) X.xe { s4 with heap := s4.heap.push { cls := .type "slice", data := .fields #[vl, vu, vs] } }
  refine tail_any (ops := [.ref a, .ref s4.heap.objs.size]) ht.typeIs (PyProof.Rows.slot_tuple_getitem.lookup) ?_ (hs _ _)
  refine HT.getItem_tuple_back hk ht (Heap.IsSliceOf.new _ vl vu vs) pl pu ps ?_ (by rw [hsize]; omega)
  rw [hsize]
  refine ⟨.ref _, _, I5.laid (t' := s4.toks) (o := .tup (xs.take (xs.length - k)).reverse) (fun b ob q => Heap.get?_push_of_some _ q) (Nat.le_refl _) ?_, rfl, q _ (I5.hok.fresh (Nat.le_refl _))⟩
  refine ⟨by rw [List.length_reverse, List.length_take]; omega, (its.take (xs.length - k)).reverse, ?_, ⟨_, Heap.get?_push_size _ rfl, rfl, _, rfl⟩⟩
  exact (r.take _).reverse
end
section
variable {C : Cfg} {D : Fns} {k : Nat} {N : List Str} {sc : Scope} {X : Cx} {xv : XV} {W : WX} {pos : Pos}
theorem back0 : ∀ (pins : List (Addr × Obj)) (s : Shared) (σ : L2.St) (H : Hp), Inv X pins σ H s → wpAny (model X.prog X.w) X.A (evalPart none X.env) (fun u s' => ∃ o H', Inv X pins σ H' s' ∧ IsPart u o ∧ (o = HT.backLo 0 ∧ H' = H)) X.xe s :=
  fun pins s σ H I => po_none.run pins s σ H (fun o H3 => o = none ∧ H3 = H) I ⟨rfl, rfl⟩
theorem back1 {j : Nat} {p1 p2 : Pos} : ∀ (pins : List (Addr × Obj)) (s : Shared) (σ : L2.St) (H : Hp), Inv X pins σ H s → wpAny (model X.prog X.w) X.A (evalPart (some (.UnaryOp .USub (.Constant (.int 2) j p1) p2)) X.env) (fun u s' => ∃ o H', Inv X pins σ H' s' ∧ IsPart u o ∧ (o = HT.backLo 1 ∧ H' = H)) X.xe s := by
  intro pins s σ H I
  have hst : PO X (some (.UnaryOp .USub (.Constant (.int 2) j p1) p2)) (tPart (tUn (rU fun i => .int (-i)) (tC (.int 2)))) := po_some (pe_un un_neg pe_int)
  exact hst.run pins s σ H (fun o H4 => o = some (-2) ∧ H4 = H) I ⟨2, rfl, -2, rfl, rfl, rfl⟩
theorem revT_read {kk : Nat} {a : Py.A} {e : Expr} (t : TE) (hp : PEs X [e] [t]) (hi : ∀ (σ : L2.St) (H : Hp) (Q : List V → Hp → Prop), lift (RSs σ) X.K xv W (denA D a) σ H Q → seqT [t] σ H Q) :
    ∀ (σ : L2.St) (H : Hp) (Q : VK), lift rE X.K xv W (denE D (.op (.revT kk) a)) σ H Q → tRevT X.K kk t σ H Q := fun σ H Q h => by
  simp only [denE] at h
  refine hi σ H (fun vs G => match vs with | [v] => ∃ (a : Addr) (xs : List V), v = V.ref a ∧ SqT X.K G a xs ∧ ∀ p, G p = none → Q (V.ref p) (upd G p (.tup (xs.take (xs.length - kk)).reverse)) | _ => False) ((op_src h).imp fun vs G ⟨p2, s2, xs, y, hK2, S2, rw2, e2, c⟩ => ?_)
  simp only [opV] at e2
  obtain ⟨x, v, rfl, g1, e2⟩ := one_some rw2 e2
  cases x <;> simp only [revTV, reduceCtorEq, Option.some.injEq] at e2
  subst e2
  obtain ⟨a1, vs, rfl, q, r⟩ := g1.tup
  exact ⟨a1, vs, rfl, by rw [← hK2]; exact q, c.tup S2 (by rw [r.len]; exact (r.take _).rev)⟩
theorem snd_revT0 {a : Py.A} {e : Expr} {j : Nat} {p1 p2 p3 : Pos} (ha : AOk D X xv W a [e]) : PE X (.Subscript e (.Slice none none (some (.UnaryOp .USub (.Constant (.int 1) j p1) p2)) p3) pos) (lift rE X.K xv W (denE D (.op (.revT 0) a))) := by
  obtain ⟨_, ts, hp, hi⟩ := ha
  obtain ⟨t, rfl, h1⟩ := pes1 hp
  exact PE.imp (revT_core (.inl rfl) h1 back0 (fun _ _ => by with_unfolding_all rfl)) (revT_read t hp hi)
theorem snd_revT1 {a : Py.A} {e : Expr} {i j : Nat} {q1 q2 p1 p2 p3 : Pos} (ha : AOk D X xv W a [e]) : PE X (.Subscript e (.Slice (some (.UnaryOp .USub (.Constant (.int 2) i q1) q2)) none (some (.UnaryOp .USub (.Constant (.int 1) j p1) p2)) p3) pos) (lift rE X.K xv W (denE D (.op (.revT 1) a))) := by
  obtain ⟨_, ts, hp, hi⟩ := ha
  obtain ⟨t, rfl, h1⟩ := pes1 hp
  exact PE.imp (revT_core (.inr rfl) h1 back1 (fun _ _ => by with_unfolding_all rfl)) (revT_read t hp hi)
/-! ### a constant of the module -/
theorem snd_glob (A : At C D k N sc X xv W) {x : Str} {c : MV} (hg : glB sc x = true) (h : (x, c) ∈ C.gl) : PE X (.Name x pos) (lift rE X.K xv W (denE D (.glob x c))) := by
  obtain ⟨v, u, h1, h2, h3⟩ := A.glb _ h
  obtain ⟨g1, g2⟩ := A.gl hg
  refine PE.imp (pe_glob g1 h1 h2 g2) fun σ H Q ⟨p, s, hK, S, o⟩ => ?_
  exact o v p H (Stp.refl p H) S (h3 p H hK)
/-! ### math.gcd -/
theorem snd_gcd (A : At C D k N sc X xv W) {x : Str} {a : Py.A} {e f : Expr} {q : Pos} (hg : glB sc x = true) (h : (x, "math.gcd") ∈ C.im) (ns : noStar [e, f] = true) (ha : AOk D X xv W a [e, f]) : PE X (.Call (.Name x q) [e, f] [] pos) (lift rE X.K xv W (denE D (.op .gcd a))) := by
  obtain ⟨g1, g2⟩ := A.gl hg
  obtain ⟨_, ts, hp, hi⟩ := ha
  obtain ⟨s1, s2⟩ := star_cons X.env ns
  refine PE.imp (pe_callBfun cr_gcd g1 (A.imb _ h) (hp.pa ns) g2 s1 (noStar_any _ _ s2)) fun σ H Q h => ?_
  simp only [denE] at h
  refine hi σ H _ ((op_src h).imp fun vs G ⟨p2, s2, xs, y, hK2, S2, rw2, e2, c⟩ => ?_)
  simp only [opV] at e2
  obtain ⟨x, y', v, w, rfl, g1, g2, e2⟩ := two_some rw2 e2
  cases x <;> simp only [arI, reduceCtorEq] at e2
  cases y' <;> simp only [arI, reduceCtorEq, Option.map_some, Option.some.injEq] at e2
  subst e2
  exact ⟨_, _, by rw [g1.int, g2.int], c.at S2 (by simp [RV])⟩
/-! ### d.get(k, x) -/
theorem m2_of {o e f : Expr} {m : Str} {apos cpos : Pos} (ns : noStar [e, f] = true) (hb : attributeBase o m X.env (eval o X.env) = eval o X.env) (hl : (apos.endLine == cpos.line) = true) : M2 X o m apos e f cpos := by
  obtain ⟨s1, s2⟩ := star_cons X.env ns
  obtain ⟨s3, s4⟩ := star_cons X.env s2
  refine ⟨hb, ?_, hl, ?_⟩
  · rw [s1, s3]; rfl
  · rw [s1, s3]; rfl
theorem dk_some {x : MV} {kvs : List (Key × MV)} (e : dk? x = some kvs) : x = .dk kvs := by
  cases x <;> simp only [dk?, Option.some.injEq, reduceCtorEq] at e
  rw [e]
theorem kC_some {x : Cn} {kvs : List (Key × MV)} (e : kC? x = some kvs) : x = .k kvs := by
  cases x <;> simp only [kC?, Option.some.injEq, reduceCtorEq] at e
  rw [e]
theorem get_end {p : Pl} {G : Hp} {kvs : List (Key × MV)} {us : List (Key × V)} {kk : Key} {z : MV} {w : V} (rk : RKs p G kvs us) (rz : RV p G z w) : RV p G ((findK kk kvs).getD z) ((valV us kk).getD w) := by
  obtain ⟨h1, h2⟩ := find_val (k := kk) rk
  cases e : findK kk kvs with
  | none =>
    rw [e] at h1
    cases e2 : valV us kk with
    | none => exact rz
    | some v => rw [e2] at h1; cases h1
  | some x =>
    obtain ⟨v, e2, rv⟩ := h2 x e
    rw [e2]; exact rv
theorem snd_getd (A : At C D k N sc X xv W) {o e f : Expr} {eo ek ed : E} {apos : Pos} {m : Str} (hm : m = "get") (ns : noStar [e, f] = true) (hb : attributeBase o m X.env (eval o X.env) = eval o X.env) (hl : (apos.endLine == pos.line) = true)
    (h1 : PE X o (lift rE X.K xv W (denE D eo))) (h2 : PE X e (lift rE X.K xv W (denE D ek))) (h3 : PE X f (lift rE X.K xv W (denE D ed))) :
    PE X (.Call (.Attribute o m apos) [e, f] [] pos) (lift rE X.K xv W (denE D (.getd eo ek ed))) := by
  subst hm
  have hu := A.units
  refine PE.imp (pe_dget2 (by omega) h1 h2 h3 (m2_of ns hb hl)) fun σ H Q ⟨p, s, hK, S, oo⟩ => ?_
  simp only [denE] at oo
  refine ⟨p, s, hK, S, Out.bnd (r' := rE) oo fun x s1 v p1 H1 _ st1 S1 rv1 o1 => ?_⟩
  obtain ⟨kvs, e1, o2⟩ := lift?_out o1
  have := dk_some e1
  subst this
  simp only [RV] at rv1
  obtain ⟨ad, us, rfl, im, rk⟩ := rv1
  refine ⟨ad, rfl, .inl ⟨us, .inl im.1⟩, p1, s1, by rw [st1.K]; exact hK, S1, Out.bnd (r' := rE) o2 fun y s2 w p2 H2 _ st2 S2 rv2 o3 => ?_⟩
  obtain ⟨kk, e2, o4⟩ := lift?_out o3
  refine ⟨p2, s2, by rw [st2.K, st1.K]; exact hK, S2, Out.bnd (r' := rE) o4 fun z s3 u p3 H3 _ st3 S3 rv3 o5 => ?_⟩
  have im3 := (im.keep st2).keep st3
  have rk3 := RKs.keep S2.hr st3 _ _ (RKs.keep S1.hr st2 _ _ rk)
  have hw := key_rv (rv2.keep S2.hr st3) e2
  subst hw
  exact ⟨valV us kk, .k im3.1, o5 _ p3 H3 (Stp.refl _ _) S3 (get_end rk3 rv3)⟩
theorem snd_geto (A : At C D k N sc X xv W) {i : Nat} {x : Str} {e f : Expr} {ek ed : E} {apos q : Pos} {m : Str} (hm : m = "get") (h : nmB N sc i x = true) (ns : noStar [e, f] = true) (hl : (apos.endLine == pos.line) = true)
    (h2 : PE X e (lift rE X.K xv W (denE D ek))) (h3 : PE X f (lift rE X.K xv W (denE D ed))) :
    PE X (.Call (.Attribute (.Name x q) m apos) [e, f] [] pos) (lift rE X.K xv W (denE D (.geto i ek ed))) := by
  subst hm
  have hu := A.units
  obtain ⟨n1, n2, n3, n4⟩ := A.nm h
  refine PE.imp (pe_dget2 (by omega) (pe_var n1 n2 n3 n4) h2 h3 (m2_of ns name_base hl)) fun σ H Q ⟨p, s, hK, S, oo⟩ => ?_
  simp only [denE] at oo
  obtain ⟨c₀, hc₀, oo⟩ := getO_out oo
  obtain ⟨kvs₀, e0, oo⟩ := lift?_out oo
  have := kC_some e0
  subst this
  obtain ⟨ad, u, k1, k2, k3, us₀, rfl, rk₀⟩ := S.own i _ hc₀
  refine ⟨.ref ad, k1, ad, rfl, .inl ⟨us₀, .inl k3⟩, p, s, hK, S, Out.bnd (r' := rE) oo fun y s2 w p2 H2 _ st2 S2 rv2 o3 => ?_⟩
  obtain ⟨kk, e2, o4⟩ := lift?_out o3
  refine ⟨p2, s2, by rw [st2.K]; exact hK, S2, Out.bnd (r' := rE) o4 fun z s3 u p3 H3 _ st3 S3 rv3 o5 => ?_⟩
  obtain ⟨c, hc, o6⟩ := getO_out o5
  obtain ⟨kvs, e3, o7⟩ := lift?_out o6
  have := kC_some e3
  subst this
  obtain ⟨ad', u', q1, q2, q3, us, rfl, rk⟩ := S3.own i _ hc
  have : ad' = ad := by rw [k1] at q1; injection q1 with q1; injection q1 with q1; injection q1 with q1; exact q1.symm
  subst this
  have hw := key_rv (rv2.keep S2.hr st3) e2
  subst hw
  exact ⟨valV us kk, .k q3, o7 _ p3 H3 (Stp.refl _ _) S3 (get_end rk rv3)⟩
/-! ### c.pop(i) of a cell -/
theorem snd_popci {o' ex : Expr} {e f : E} {apos : Pos} {m : Str} (hm' : m = "pop") (hb : attributeBase o' m X.env (eval o' X.env) = eval o' X.env) (hl : (apos.endLine == pos.line) = true) (ns : noStar [ex] = true)
    (he : PE X o' (lift rE X.K xv W (denE D e))) (hf : PE X ex (lift rE X.K xv W (denE D f))) : PE X (.Call (.Attribute o' m apos) [ex] [] pos) (lift rE X.K xv W (denE D (.popci e f))) := by
  subst hm'
  obtain ⟨s1, s2⟩ := star_cons X.env ns
  refine PE.imp (pe_bm PySem.F.plainAttrs_list PySem.F.slot_list_pop PySem.F.type_list_pop mt_popAt he (pa_cons hf pa_nil s1) hb (few1 ns _ _) hl s1 (noStar_any _ _ s2)) fun σ H Q ⟨p, s, hK, S, o⟩ => ?_
  simp only [denE] at o
  refine ⟨p, s, hK, S, Out.bnd (r' := rE) o fun x s1 v p1 H1 _ st1 S1 rv1 o1 => ?_⟩
  obtain ⟨n, e1, o2⟩ := lift?_out o1
  have := refN_some e1
  subst this
  obtain ⟨l, c, hm, hc, o3⟩ := getC_out o2
  obtain ⟨_, e0, o3⟩ := lift?_out o3
  obtain ⟨xs₀, rfl⟩ := lC_some e0
  obtain ⟨a, u, rfl, ha, hu, ⟨vs₀, rfl, r₀⟩, hn⟩ := cell_at S1 rv1 hm hc
  refine ⟨.inl ⟨rfl, vs₀, SqL.of hu⟩, p1, s1, by rw [st1.K]; exact hK, S1, Out.bnd (r' := rE) o3 fun y s2 v2 p2 H2 _ st2 S2 rv2 o4 => ?_⟩
  obtain ⟨l2, c2, hm2, hc2, o5⟩ := getC_out o4
  obtain ⟨r, e2, o6⟩ := lift?_out o5
  obtain ⟨xs, i, j, rfl, rfl, e3, b1, b2, e4, e5⟩ := popi_some e2
  obtain ⟨a2, u2, ea, ha2, hu2, ⟨vs, rfl, rv⟩, hn2⟩ := cell_at S2 (rv1.keep S1.hr st2) hm2 hc2
  cases ea
  have hv : v2 = .int i := by simpa [RV] using rv2
  subst hv
  obtain ⟨w, g1, g2⟩ := rv.get' e4
  have ix := ixN_seq e3
  refine ⟨a, vs, i, j, w, rfl, rfl, hu2, b1, b2, by rw [rv.len]; exact ix.1, g1, ?_⟩
  rw [e5] at o6
  exact putC_end (d := .l (xs.eraseIdx j)) S2 hm2 ha2 hn2 ⟨_, rfl, rv.erase j⟩ g2 o6
/-! ### (*e, ..) -/
theorem rows_rv {p : Pl} {H : Hp} {x : MV} {xs : List MV} {v : V} (h : RV p H x v) (e : items? x = some xs) : ∃ a vs, v = .ref a ∧ (SqT p.K H a vs ∨ SqL p.K H a vs) ∧ RVs p H xs vs := by
  obtain ⟨a, vs, e1, q, r⟩ := h.weak.rows e
  exact ⟨a, vs, e1, q.symm, r⟩
/-- (*e, ..) -/
theorem snd_star {e : Expr} {es : List Expr} {p0 : Pos} {j : Nat} {eo : E} {a : Py.A} (ns : noStar es = true) (he : PE X e (lift rE X.K xv W (denE D eo))) (ha : AOk D X xv W a es) : PE X (.Tuple (.Starred e p0 :: es) j pos) (lift rE X.K xv W (denE D (.star eo a))) := by
  obtain ⟨_, ts, hp, hi⟩ := ha
  refine PE.imp (pe_tup (StX.pa_star he (hp.pa ns) rfl)) fun σ H Q ⟨p, s, hK, S, o⟩ => ?_
  simp only [denE] at o
  refine ⟨p, s, hK, S, Out.bnd (r' := rE) o fun x s1 v p1 H1 _ st1 S1 rv1 o1 => ?_⟩
  obtain ⟨xs, e1, o2⟩ := lift?_out o1
  obtain ⟨ad, us, rfl, sq, r⟩ := rows_rv rv1 e1
  refine ⟨ad, us, rfl, by rw [← hK, ← st1.K]; exact sq, hi σ H1 _ ⟨p1, s1, by rw [st1.K]; exact hK, S1, Out.bnd (r' := RSs σ) o2 fun zs s2 vs p2 H2 _ st2 S2 rvs o3 => ?_⟩⟩
  obtain ⟨ys, e2, o4⟩ := lift?_out o3
  have rv := vals_ok rvs e2
  have r2 := RVs.keep S1.hr st2 _ _ r
  split at o4
  · rename_i hl
    have c : Cont p2 s2 σ H2 (.tup (xs ++ ys)) Q := o4
    exact ⟨by rw [List.length_append, r2.len, rv.len]; exact hl, c.tup S2 (r2.app rv)⟩
  · exact o4.elim
/-! ### list(range(..)) -/
theorem rng_items {p : Pl} {H : Hp} (a : Int) (n : Nat) : RVs p H (itemsOf (.up a n)) ((List.range n).map fun i : Nat => V.int (a + (i : Nat))) := by
  have := RVs.ints (p := p) (H := H) ((List.range n).map fun i : Nat => a + (i : Int))
  rw [List.map_map, List.map_map] at this
  exact this
theorem lrg_some {v : ItV} {c : Cn} (e : lrgC v = some c) : ∃ lo n, v = .up lo n ∧ n ≤ sizeLine ∧ c = .l (itemsOf (.up lo n)) := by
  unfold lrgC at e
  split at e
  · split at e
    · rename_i h; simp only [Option.some.injEq] at e; exact ⟨_, _, rfl, h, e.symm⟩
    · cases e
  · cases e
theorem trg_some {v : ItV} {c : MV} (e : trgC v = some c) : ∃ lo n, v = .up lo n ∧ n ≤ sizeLine ∧ c = .tup (itemsOf (.up lo n)) := by
  unfold trgC at e
  split at e
  · split at e
    · rename_i h; simp only [Option.some.injEq] at e; exact ⟨_, _, rfl, h, e.symm⟩
    · cases e
  · cases e
theorem snd_trg (A : At C D k N sc X xv W) {e : E} {a : Expr} {q q2 pr : Pos} (hx : blB C sc "tuple" = true) (hr : blB C sc "range" = true) (ns : noStar [a] = true) (he : PE X a (lift rE X.K xv W (denE D e))) :
    PE X (.Call (.Name "tuple" q) [.Call (.Name "range" q2) [a] [] pr] [] pos) (lift rE X.K xv W (denE D (.trg e))) := by
  obtain ⟨g1, g2, g3, g4⟩ := A.blt hx
  obtain ⟨r1, r2, r3, r4⟩ := A.blt hr
  refine PE.imp (pe_tupRg A.calm g1 g3 (prg_1 r1 r3 he (star_cons X.env ns).1) rfl) fun σ H Q ⟨p, s, hK, S, o⟩ => ?_
  simp only [denE] at o
  refine ⟨p, s, hK, S, Out.bnd (r' := rE) o fun x s1 v p1 H1 hz st1 S1 rv1 o1 => ?_⟩
  obtain ⟨y, e1, o2⟩ := lift?_out o1
  obtain ⟨c, e2, o3⟩ := lift?_end o2
  obtain ⟨lo, n, rfl, hn, rfl⟩ := trg_some e2
  clear hz
  cases x <;> simp only [rng1I, reduceCtorEq] at e1
  rename_i j
  split at e1
  · rename_i hb
    simp only [Option.some.injEq, ItV.up.injEq] at e1
    obtain ⟨rfl, rfl⟩ := e1
    have hv : v = .int j := by simpa [RV] using rv1
    subst hv
    have cc : Cont p1 s1 σ H1 (.tup (itemsOf (.up 0 j.toNat))) Q := o3
    refine ⟨j, rfl, ⟨by decide, by decide, hb.1, hb.2, by rw [Int.sub_zero]; exact hn⟩, fun q hq => ?_⟩
    exact cc.tup S1 (vs := rgV 0 j) (by unfold rgV; rw [Int.sub_zero]; exact rng_items 0 j.toNat) q hq
  · cases e1
theorem liftF_end {p : Pl} {H : Hp} {σ : L2.St} {Q : VK} {x : Option Cn} {s : S} (o : OutF xv W p H σ Q ((lift? x) s)) : ∃ c, x = some c ∧ OutF xv W p H σ Q ((pure c : M Cn) s) := by
  cases x with
  | none => exact o.elim
  | some c => exact ⟨c, rfl, o⟩
theorem snd_lrg1 (A : At C D k N sc X xv W) {e : E} {a : Expr} {q q2 pr : Pos} (hx : blB C sc "list" = true) (hr : blB C sc "range" = true) (ns : noStar [a] = true) (he : PE X a (lift rE X.K xv W (denE D e))) :
    PE X (.Call (.Name "list" q) [.Call (.Name "range" q2) [a] [] pr] [] pos) (liftF X.K xv W (denF D (.lrg (.rng1 e)))) := by
  obtain ⟨g1, g2, g3, g4⟩ := A.blt hx
  obtain ⟨r1, r2, r3, r4⟩ := A.blt hr
  refine PE.imp (pe_listRg A.calm g1 g3 (prg_1 r1 r3 he (star_cons X.env ns).1) rfl) fun σ H Q ⟨p, s, hK, S, o⟩ => ?_
  simp only [denF, denI, bnd_asc] at o
  refine ⟨p, s, hK, S, OutF.bnd (r' := rE) o fun x s1 v p1 H1 hz st1 S1 rv1 o1 => ?_⟩
  obtain ⟨y, e1, o2⟩ := lift?_outF o1
  obtain ⟨c, e2, o3⟩ := liftF_end o2
  obtain ⟨lo, n, rfl, hn, rfl⟩ := lrg_some e2
  clear hz
  cases x <;> simp only [rng1I, reduceCtorEq] at e1
  rename_i j
  split at e1
  · rename_i hb
    simp only [Option.some.injEq, ItV.up.injEq] at e1
    obtain ⟨rfl, rfl⟩ := e1
    have hv : v = .int j := by simpa [RV] using rv1
    subst hv
    refine ⟨j, rfl, ⟨by decide, by decide, hb.1, hb.2, by rw [Int.sub_zero]; exact hn⟩, fun q hq => ?_⟩
    have := o3.lay S1 (u := .lst (rgV 0 j)) ⟨_, rfl, by unfold rgV; rw [Int.sub_zero]; exact rng_items 0 j.toNat⟩ q hq
    exact this
  · cases e1
theorem snd_lrg2 (A : At C D k N sc X xv W) {e f : E} {a b : Expr} {q q2 pr : Pos} (hx : blB C sc "list" = true) (hr : blB C sc "range" = true) (ns : noStar [a, b] = true) (he : PE X a (lift rE X.K xv W (denE D e))) (hf : PE X b (lift rE X.K xv W (denE D f))) :
    PE X (.Call (.Name "list" q) [.Call (.Name "range" q2) [a, b] [] pr] [] pos) (liftF X.K xv W (denF D (.lrg (.rng2 e f)))) := by
  obtain ⟨g1, g2, g3, g4⟩ := A.blt hx
  obtain ⟨r1, r2, r3, r4⟩ := A.blt hr
  obtain ⟨s1, s2⟩ := star_cons X.env ns
  refine PE.imp (pe_listRg A.calm g1 g3 (prg_2 r1 r3 he hf s1 (star_cons X.env s2).1 (noStar_any _ _ s2)) rfl) fun σ H Q ⟨p, s, hK, S, o⟩ => ?_
  simp only [denF, denI, bnd_asc] at o
  refine ⟨p, s, hK, S, OutF.bnd (r' := rE) o fun x s1 v p1 H1 hz st1 S1 rv1 o1 => ?_⟩
  refine ⟨p1, s1, by rw [st1.K]; exact hK, S1, OutF.bnd (r' := rE) o1 fun x2 s2 v2 p2 H2 hz2 st2 S2 rv2 o1b => ?_⟩
  obtain ⟨y, e1, o2⟩ := lift?_outF o1b
  obtain ⟨c, e2, o3⟩ := liftF_end o2
  obtain ⟨lo, n, rfl, hn, rfl⟩ := lrg_some e2
  clear hz hz2 o1 o1b
  cases x <;> simp only [rng2I, reduceCtorEq] at e1
  cases x2 <;> simp only [reduceCtorEq] at e1
  rename_i i j
  split at e1
  · rename_i hb
    simp only [Option.some.injEq, ItV.up.injEq] at e1
    obtain ⟨rfl, rfl⟩ := e1
    have hv : v = .int i := by simpa [RV] using rv1
    subst hv
    have hv : v2 = .int j := by simpa [RV] using rv2
    subst hv
    refine ⟨i, j, rfl, rfl, ⟨hb.1.1, hb.1.2, hb.2.1, hb.2.2, hn⟩, fun q hq => ?_⟩
    exact o3.lay S2 (u := .lst (rgV i j)) ⟨_, rfl, rng_items i (j - i).toNat⟩ q hq
  · cases e1
/-! ### dict(pairs) -/
theorem pair_some {x : MV} {r : Key × MV} (e : pair? x = some r) : ∃ k, x = .tup [k, r.2] ∧ key? k = some r.1 := by
  unfold pair? at e
  split at e
  · obtain ⟨k, e1, rfl⟩ := Option.map_eq_some_iff.mp e
    exact ⟨_, rfl, e1⟩
  · cases e
theorem pairs_rv {p : Pl} {G : Hp} : ∀ {ys : List MV} {vs : List V} {kvs : List (Key × MV)}, RVs p G ys vs → pairs? ys = some kvs → ∃ (ps : List Addr) (us : List (Key × V)), vs = ps.map V.ref ∧ Paired (fun q kv => SqT p.K G q [kV kv.1, kv.2]) ps us ∧ RKs p G kvs us
  | [], vs, kvs, r, e => by
    simp only [RVs] at r
    simp only [pairs?, Option.some.injEq] at e
    subst r; subst e
    exact ⟨[], [], rfl, .nil, by simp [RKs]⟩
  | y :: ys, vs, kvs, r, e => by
    simp only [RVs] at r
    obtain ⟨v, w, rfl, r1, r2⟩ := r
    simp only [pairs?] at e
    cases e1 : pair? y with
    | none => rw [e1] at e; cases e
    | some q =>
      cases e2 : pairs? ys with
      | none => rw [e1, e2] at e; cases e
      | some qs =>
        rw [e1, e2] at e
        simp only [Option.some.injEq] at e
        subst e
        obtain ⟨ps, us, rfl, i1, i2⟩ := pairs_rv r2 e2
        obtain ⟨kk, rfl, hk⟩ := pair_some e1
        simp only [RV, RVs] at r1
        obtain ⟨ad, ws, rfl, sq, z1, z2, rfl, g1, z3, z4, rfl, g2, rfl⟩ := r1
        have := key_rv g1 hk
        subst this
        exact ⟨ad :: ps, (q.1, z3) :: us, rfl, .cons (SqT.of sq) i1, by simp only [RKs]; exact ⟨z3, us, rfl, g2, i2⟩⟩
theorem merge_rk {p : Pl} {H : Hp} : ∀ {kvs : List (Key × MV)} {us : List (Key × V)} {d : List (Key × MV)} {ds : List (Key × V)}, RKs p H kvs us → RKs p H d ds →
    RKs p H (kvs.foldl (fun d q => Py.putK q.1 q.2 d) d) (us.foldl (fun acc kv => L2.putK acc kv.1 kv.2) ds)
  | [], us, d, ds, r, h => by simp only [RKs] at r; subst r; exact h
  | (kk, x) :: kvs, us, d, ds, r, h => by
    simp only [RKs] at r
    obtain ⟨v, w, rfl, h1, h2⟩ := r
    show RKs p H (kvs.foldl (fun d q => Py.putK q.1 q.2 d) (Py.putK kk x d)) (w.foldl (fun acc kv => L2.putK acc kv.1 kv.2) (L2.putK ds kk v))
    exact merge_rk h2 (h.put h1)
theorem pairT_some {x : MV} {q : List Key × MV} (e : pairT? x = some q) : ∃ k, x = .tup [k, q.2] ∧ tkey? k = some q.1 := by
  unfold pairT? at e
  split at e
  · obtain ⟨k, e1, rfl⟩ := Option.map_eq_some_iff.mp e
    exact ⟨_, rfl, e1⟩
  · cases e
/-- the pairs' second items -/
def RT3 (p : Pl) (G : Hp) : List (List Key × MV) → List (List Key × Addr × V) → Prop
  | [], us => us = []
  | (k, x) :: xs, us => ∃ b v r, us = (k, b, v) :: r ∧ RV p G x v ∧ RT3 p G xs r
theorem pairsT_rv {p : Pl} {G : Hp} : ∀ {ys : List MV} {vs : List V} {kvs : List (List Key × MV)}, RVs p G ys vs → pairsT? ys = some kvs → ∃ (ps : List Addr) (us : List (List Key × Addr × V)), vs = ps.map V.ref ∧ Paired (fun q kv => SqT p.K G q [.ref kv.2.1, kv.2.2] ∧ G kv.2.1 = some (.tup (kv.1.map kV))) ps us ∧ RT3 p G kvs us
  | [], vs, kvs, r, e => by
    simp only [RVs] at r
    simp only [pairsT?, Option.some.injEq] at e
    subst r; subst e
    exact ⟨[], [], rfl, .nil, by simp [RT3]⟩
  | y :: ys, vs, kvs, r, e => by
    simp only [RVs] at r
    obtain ⟨v, w, rfl, r1, r2⟩ := r
    simp only [pairsT?] at e
    cases e1 : pairT? y with
    | none => rw [e1] at e; cases e
    | some q =>
      cases e2 : pairsT? ys with
      | none => rw [e1, e2] at e; cases e
      | some qs =>
        rw [e1, e2] at e
        simp only [Option.some.injEq] at e
        subst e
        obtain ⟨ps, us, rfl, i1, i2⟩ := pairsT_rv r2 e2
        obtain ⟨kk, rfl, hk⟩ := pairT_some e1
        simp only [RV, RVs] at r1
        obtain ⟨ad, ws, rfl, sq, z1, z2, rfl, g1, z3, z4, rfl, g2, rfl⟩ := r1
        obtain ⟨b, rfl, hb⟩ := tkey_rv g1.weak hk
        exact ⟨ad :: ps, (q.1, b, z3) :: us, rfl, .cons ⟨SqT.of sq, hb⟩ i1, by simp only [RT3]; exact ⟨b, z3, us, rfl, g2, i2⟩⟩
theorem merge_rt {p : Pl} {H : Hp} : ∀ {kvs : List (List Key × MV)} {us : List (List Key × Addr × V)} {d : List (List Key × MV)} {ds : List (List Key × V)}, RT3 p H kvs us → RTs p H d ds →
    RTs p H (kvs.foldl (fun d q => Py.putK q.1 q.2 d) d) (mergeT ds us)
  | [], us, d, ds, r, h => by simp only [RT3] at r; subst r; exact h
  | (kk, x) :: kvs, us, d, ds, r, h => by
    simp only [RT3] at r
    obtain ⟨b, v, w, rfl, h1, h2⟩ := r
    show RTs p H (kvs.foldl (fun d q => Py.putK q.1 q.2 d) (Py.putK kk x d)) (mergeT (L2.putK ds kk v) w)
    exact merge_rt h2 (h.put h1)
theorem snd_dictP (A : At C D k N sc X xv W) {a : Py.A} {e : Expr} {q : Pos} (hx : blB C sc "dict" = true) (ns : noStar [e] = true) (ha : AOk D X xv W a [e]) : PE X (.Call (.Name "dict" q) [e] [] pos) (liftF X.K xv W (denF D (.dictP a))) := by
  obtain ⟨_, ts, hp, hi⟩ := ha
  obtain ⟨g1, g2, g3, g4⟩ := A.blt hx
  obtain ⟨s1, s2⟩ := star_cons X.env ns
  refine PE.imp (pe_callTy (CallR.or2 (call_dictP A.calm) (call_dictT A.calm A.units)) g1 g3 (by decide +kernel) (hp.pa ns) g4 g2 s1 (noStar_any _ _ s2)) fun σ H Q h => ?_
  simp only [denF] at h
  refine hi σ H _ ((fop_src h).imp fun vs G ⟨p2, s2, xs, c, hK2, S2, rw2, e2, o2⟩ => ?_)
  obtain ⟨x, v, rfl, g1, e2⟩ := oneF_some rw2 e2
  unfold dictC at e2
  obtain ⟨ys, e3, e4⟩ := Option.bind_eq_some_iff.mp e2
  obtain ⟨a1, vs, rfl, q1, r⟩ := g1.lsts e3
  split at e4
  · rename_i kvs e5
    simp only [Option.some.injEq] at e4; subst e4
    obtain ⟨ps, us, rfl, i1, i2⟩ := pairs_rv r e5
    exact .inl ⟨a1, ps, us, rfl, by rw [← hK2]; exact q1, by rw [← hK2]; exact i1, o2.lay S2 ⟨_, rfl, merge_rk i2 (by simp [RKs])⟩⟩
  · obtain ⟨kvs, e5, rfl⟩ := Option.map_eq_some_iff.mp e4
    obtain ⟨ps, us, rfl, i1, i2⟩ := pairsT_rv r e5
    exact .inr ⟨a1, ps, us, rfl, by rw [← hK2]; exact q1, by rw [← hK2]; exact i1, o2.lay S2 ⟨_, rfl, merge_rt i2 (by simp [RTs])⟩⟩
/-! ### several names at once, by a tuple -/
theorem par_walkT {js : List Nat} {vs : List EF} {K : PySem.W.Frag} {T : Ends} {σ : L2.St} {H : Hp} (hn : vs.length = js.length) (h : liftS K xv W (denS D (.par js vs)) T σ H) {Z : List V → Hp → Prop} (hZ : ∀ ws G, ws.length = js.length → (∀ q, G q = none → T.nx (setσ js ws σ) (upd G q (.tup ws))) → Z ws G) : seqT (vs.map (readEF D K xv W)) σ H Z := by
  obtain ⟨p, s, hK, S, o⟩ := h
  simp only [denS] at o
  rw [bnd_eq] at o
  unfold noEx at o
  cases e : denEFs D vs s with
  | ok sl s' =>
    simp only [e] at o
    refine efs_walk vs _ hK S e fun ws p' as G st fr S' hR => ?_
    have nF : ∀ a ∈ as, ¬ p'.F a := fun a ha => by rw [st.F]; exact (S.hr.fresh (fr a ha)).2.2
    obtain ⟨s2, p2, e2, h1, h2, h3, h4, h5, h6⟩ := store_all sl js (by rw [efs_len vs e]; exact hn) S' hR nF
    simp only [bnd_eq, e2] at o
    have stt : Stp p H p2 G := ⟨h2.trans st.K, h3.trans st.F, h4.trans st.live, st.keep, by rw [h5]; exact st.grow, fun b hb => (by
      rcases h6 b hb with h | h
      · exact st.own b h
      · exact .inr (fr b h)), st.lasts⟩
    exact hZ ws G (by rw [heldR_len hR, efs_len vs e]; exact hn) fun q hq => o _ p2 _ (stt.trans (Stp.new hq)) (h1.new hq)
  | ex c us s' => simp only [e] at o; exact o.elim
  | no => simp only [e] at o; exact o.elim
def nmsB (N : List Str) (sc : Scope) : List Nat → List Expr → Bool
  | [], es => es.isEmpty
  | j :: js, es => match es with
    | e :: t => (match e with
      | .Name x _ => stB N sc true j x && nmsB N sc js t
      | _ => false)
    | [] => false
theorem nms_ok (A : At C D k N sc X xv W) (hf : ∀ x, X.fn x = true) : ∀ (js : List Nat) (us : List Expr), nmsB N sc js us = true → us.length = js.length ∧ (assignEach us X.env).findIdx? (·.1) = none ∧ (assignEach us X.env).length = us.length ∧
    ∃ t : TGs, PGs X us t ∧ ∀ (ws : List V) (σ : L2.St) (H : Hp) (Q : L2.St → Hp → Prop), ws.length = js.length → Q (setσ js ws σ) H → t ws σ H Q
  | [], us, h => by
    simp only [nmsB, List.isEmpty_iff] at h
    subst h
    refine ⟨rfl, rfl, rfl, _, pgs_nil, fun ws σ H Q hl q => ?_⟩
    have : ws = [] := List.eq_nil_of_length_eq_zero hl
    subst this
    exact ⟨rfl, q⟩
  | j :: js, us, h => by
    simp only [nmsB] at h
    split at h
    · split at h
      · rename_i x px
        simp only [Bool.and_eq_true] at h
        obtain ⟨h1, h2, h3⟩ := A.st (fun _ => hf) h.1
        obtain ⟨i0, i1, i2, t, i3, i4⟩ := nms_ok A hf js _ h.2
        rename_i tl _
        have ha : assignEach (Expr.Name x px :: tl) X.env = (false, assign (Expr.Name x px) X.env) :: assignEach tl X.env := rfl
        refine ⟨by simp [i0], by rw [ha, List.findIdx?_cons, i1]; rfl, by rw [ha]; simp [i2], _, pgs_cons (pg_name (by rw [A.hN]; exact A.nd) h1 h2 h3) i3, fun ws σ H Q hl q => ?_⟩
        match ws, hl, q with
        | w :: ws, hl, q => exact ⟨w, ws, rfl, i4 ws _ _ _ (by simpa using hl) q⟩
      · cases h
    · cases h
theorem snd_parT (A : At C D k N sc X xv W) (hf : ∀ x, X.fn x = true) {js : List Nat} {vals : List EF} {us vs : List Expr} {pt pv : Pos} {kt k2 : Nat} (hk : sc.kind = .function) (hn : nmsB N sc js us = true) (hl : vals.length = js.length) (h16 : js.length ≤ 30) (ns : noStar vs = true)
    (hw : swapP sc [.Tuple us kt pt] (.Tuple vs k2 pv) = some none) (hv : PEs X vs (vals.map (readEF D X.K xv W))) :
    PS X (.Assign [.Tuple us kt pt] (.Tuple vs k2 pv) pos) (liftS X.K xv W (denS D (.par js vals))) := by
  have hs := A.scp
  obtain ⟨i0, i1, i2, t, i3, i4⟩ := nms_ok A hf js us hn
  refine (ps_asg (pe_tup (hv.pa ns)) (pg_tup A.calm i3 i2 i1) (by rfl) (swapP_ok (by rw [hs]; exact hk) (by rw [hs]; exact hw)) rfl).imp fun T σ H hh => ?_
  refine par_walkT (xv := xv) (W := W) hl hh fun ws G hl2 q => ?_
  refine ⟨by rw [hl2]; exact Nat.le_trans h16 (by decide), fun a ha => ⟨a, ws, rfl, SqT.of upd_same, by rw [hl2, i0], i4 ws σ _ _ hl2 (q a ha)⟩⟩
/-! ### raise: where it stands, nobody comes -/
theorem snd_rse {st : Stmt} : PS X st (liftS X.K xv W (denS D .rse)) := ⟨fun pins s σ H T I ⟨p, z, _, _, o⟩ => by
  simp only [denS, fail] at o
  exact o.elim⟩
end
end Py

-- text PySe
set_option Elab.async false
set_option linter.all false
set_option maxRecDepth 100000
set_option maxHeartbeats 4000000
/-! ### set(list of ints), set(tuple of ints); sorted of these -/
namespace Py
open PySem PySem.Spec PyProof.Rows L2
section
/-- a set that is new -/
abbrev nuSet (w : World) : Obj := { cls := .type "set", dict := none, data := .set #[] 0 (.fresh 0 0 (!w.params.followText "set-order")) }
variable {P : Program} {w : World} {A : Around} {E : Value → Shared → Prop} {s : Shared}
/-- what is asked of the end -/
abbrev SetEnd (w : World) (s : Shared) (ns : List Int) (Q : Value → Shared → Prop) : Prop :=
  ∀ (g : Heap) (u m : Nat), SetR w g s.heap.objs.size (fun z => decide (z ∈ ns)) m → m ≤ ns.length → (∀ b o, s.heap.get? b = some o → g.get? b = some o) → Q (.ref s.heap.objs.size) { s with heap := g, toks := u }
theorem set_of_list {l : Addr} {its : Array Value} (ns : List Int) {Q : Value → Shared → Prop} (calm : A.handled = none) (isl : s.heap.IsList l its) (alli : IntsAre its.toList ns) (room : ns.length + 1 < scanBound) (fin : SetEnd w s ns Q) :
    wpAny (model P w) A (call (.type "set") [.ref l]) Q E s := by
  have size : its.size = ns.length := (Array.length_toList (xs := its)).symm.trans (IntsAre.length alli)
  have mro := F.called_set.mro
  obtain ⟨mroC, mroT, mroE⟩ := mro
  have isMade := F.called_set.made
  have isSub := F.called_set.sub
  have notTy := F.called_set.notType
  have canBe := F.called_set.canCreate
  have oneArg := F.typeCall_set_1 (.ref l)
  refine wpAny_call (codeAny_of_tree ?_)
  show wpAny _ _ (callAny (.type "set") _) _ _ _
  refine wpAny_pure ⟨Code.quiet_builtin _ (by decide +kernel), ?_⟩
  refine codeAny_builtin F.entry_type_call ?_
  rw [Around.under_plain (weight_type_call_type "set" [.ref l] []) rfl]
  repeat (any_goals (first | assumption | wp_step))
  refine codeAny_mono (code_set_led1 (.ref l) (E := E) (Q₁ := fun x t => x = .ref s.heap.objs.size ∧ t = { s with heap := s.heap.push (nuSet w) }) ⟨rfl, rfl⟩) ?_
  rintro (err | fl) t ht
  · exact ht
  cases fl with
  | ret x =>
    obtain ⟨rfl, rfl⟩ := ht
    have there : (s.heap.push (nuSet w)).get? s.heap.objs.size = some (nuSet w) := Heap.get?_push_size _ rfl
    have itsType : Shared.TypeIs { s with heap := s.heap.push (nuSet w) } (.ref s.heap.objs.size) "set" := ⟨_, there, rfl⟩
    have initLook := F.called_set.init.lookup
    have initBind := F.called_set.init.bind (.ref s.heap.objs.size)
    repeat (any_goals (first | assumption | wp_step))
    refine codeAny_mono (codeAny_call_builtin (R := wants (fun r t => r = .none ∧ ∃ g u m, t = { s with heap := g, toks := u } ∧ SetR w g s.heap.objs.size (fun z => decide (z ∈ ns)) m ∧ m ≤ ns.length ∧ ∀ b o, s.heap.get? b = some o → g.get? b = some o) E)
      F.called_set.init.plain F.entry_set_init (check_set_init_1 itsType ?_)) ?_
    · have lOld : l < s.heap.objs.size := by
        obtain ⟨ol, e, _⟩ := isl
        exact Heap.lt_size e
      have isl' := isl.push (nuSet w)
      obtain ⟨⟨cl, di, da, sl⟩, lAt, lCl, ep, lDa⟩ := isl
      simp only at lCl lDa
      subst lCl lDa
      have lAt' := Heap.get?_push_of_some (nuSet w) lAt
      have noSub := F.sub_list_set
      have noFro := F.sub_list_frozenset
      have noDict : (Value.type "list" == Value.type "dict") = false := by decide
      unfold Builtin.«set.__init__» noKeywords Builtin.Frozenset.updateFrom
      generalize walkIt : pyIter = it
      wp_walk
      subst walkIt
      refine wpAny_pyIter_list isl' ?_
      refine wpAny_bind (wpAny_runValue ?_)
      have calm3 : A.in1.in1.in1.handled = none := by simp [calm]
      have grown : (s.heap.push (nuSet w)).objs.size = s.heap.objs.size + 1 := Heap.size_push ..
      have apart : l ≠ (s.heap.push (nuSet w)).objs.size := by rw [grown]; exact fun h => Nat.ne_of_lt (Nat.lt_succ_of_lt lOld) h
      have notIn : s.heap.objs.size ∉ [(s.heap.push (nuSet w)).objs.size, l] := by
        intro h
        rw [grown] at h
        rcases List.mem_cons.mp h with h | h
        · exact Nat.ne_of_lt (Nat.lt_succ_self _) h
        · exact Nat.ne_of_gt lOld (List.mem_singleton.mp h)
      have each : ∀ (i : Nat) (v : Value), its[i]? = some v → ∃ z t, ns[i]? = some z ∧ v = .int z t := by
        intro i v e
        have small : i < ns.length := by
          obtain ⟨q, _⟩ := Array.getElem?_eq_some_iff.mp e
          omega
        have at' : ns[i]? = some (ns.getD i 0) := by
          rw [List.getD_eq_getElem?_getD, List.getElem?_eq_getElem small]; rfl
        obtain ⟨t, q⟩ := PyProof.Rows.IntsAre.int_at alli i v (by rw [Array.getElem?_toList]; exact e)
        exact ⟨_, t, at', q⟩
      refine set_update_ints ((Walks.list calm3 _ l apart its).toS) s.heap.objs.size notIn ns size room each its.size 0 _ (Nat.sub_zero _) (Nat.zero_le _) ⟨⟨_, Heap.get?_push_size _ rfl, rfl, rfl⟩, isl'.push _⟩ ?_ ?_
      · refine ⟨0, Nat.le_refl 0, setR_new_at ?_⟩
        exact Heap.get?_push_of_some _ there
      · rintro ⟨g, ge, dr, u, os⟩ m mv small R
        obtain rfl : ge = s.gens := mv.gens
        obtain rfl : dr = s.drawn := mv.drawn
        obtain rfl : os = s.os := mv.os
        rw [size] at small
        show wpAny _ _ _ _ _ _
        refine wpAny_pure ?_
        show wpAny _ _ (ret Value.none) _ _ _
        refine wpAny_pure ⟨rfl, g, u, m, rfl, R, small, ?_⟩
        intro b o e
        have old : b < s.heap.objs.size := Heap.lt_size e
        refine mv.heap b o ?_ (Heap.get?_push_of_some _ (Heap.get?_push_of_some _ e))
        intro h
        rcases List.mem_cons.mp h with h | h
        · exact Nat.ne_of_lt old h
        · have up := List.mem_singleton.mp h
          rw [grown] at up
          exact Nat.ne_of_lt (Nat.lt_succ_of_lt old) up
    · rintro (err | fl) t ht
      · exact ht
      cases fl with
      | ret r =>
        obtain ⟨rfl, g, u, m, rfl, R, small, keep⟩ := ht
        repeat (any_goals (first | assumption | wp_step))
        exact fin g u m R small keep
      | _ => exact ht.elim
  | _ => exact ht.elim
end
/-- set(xs), ints -/
def rSetI (K : PySem.W.Frag) (w : World) : List V → Hp → VK → Prop := fun vs H Q => ∃ (l : Addr) (ns : List Int), vs = [.ref l] ∧ (SqL K H l (ns.map V.int) ∨ SqT K H l (ns.map V.int)) ∧ ns.length < 64 ∧
  ∀ (p : Addr) (m : Nat), H p = none → m ≤ ns.length → Q (.ref p) (upd H p (SetO w p (fun z => decide (z ∈ ns)) m))
theorem cr_setI {X : Cx} (hc : X.calm = true) : CallR X (.type "set") (rSetI X.K X.w) := by
  intro pins s σ H xs us Q I r h
  obtain ⟨l, ns, rfl, hl, few, q⟩ := h
  rw [Vals.ref1 r]
  have free : H s.heap.objs.size = none := I.hok.fresh (Nat.le_refl _)
  have room : ns.length + 1 < scanBound := by unfold scanBound; omega
  rcases hl with hl | hl
  · obtain ⟨its, rv, pl, _⟩ := I.list hl
    refine set_of_list ns (I.ok.hd hc) pl.isList (ints_of_vals rv) room fun g u m R hm k => ?_
    exact ⟨.ref _, upd H _ (SetO X.w _ _ m), I.laid (t' := u) k (Nat.le_refl _) (setO_new R), rfl, q _ m free hm⟩
  · obtain ⟨its, rv, pl, _⟩ := I.tuple hl
    refine call_set_tupI ns (I.ok.hd hc) pl (ints_of_vals rv) room fun g u m R hm k => ?_
    exact ⟨.ref _, upd H _ (SetO X.w _ _ m), I.laid (t' := u) k (Nat.le_refl _) (setO_new R), rfl, q _ m free hm⟩
end Py

-- text PySf
set_option Elab.async false
set_option linter.all false
set_option maxRecDepth 100000
set_option maxHeartbeats 4000000
/-! ### sorted(set(xs)) -/
namespace Py
open PySem PySem.Spec PyProof.Rows L2
theorem mem_dups {ns : List Int} {z : Int} : z ∈ ns.eraseDups ↔ z ∈ ns := List.mem_eraseDups
theorem nodup_dups : ∀ (n : Nat) (l : List Int), l.length ≤ n → l.eraseDups.Nodup
  | _, [], _ => by simp
  | 0, a :: l, h => by simp at h
  | n + 1, a :: l, h => by
    rw [List.eraseDups_cons, List.nodup_cons]
    refine ⟨fun hm => ?_, nodup_dups n _ (Nat.le_trans (List.length_filter_le _ _) (by simpa using h))⟩
    have := List.mem_eraseDups.mp hm
    simp at this
theorem dupI_mem {ns : List Int} {z : Int} : z ∈ dupI ns ↔ z ∈ ns := by
  unfold dupI
  rw [(sortI_perm _).mem_iff, mem_dups]
theorem dupI_asc (ns : List Int) : (dupI ns).Pairwise (· < ·) := by
  have h1 := sortI_sorted ns.eraseDups
  have h2 : (dupI ns).Nodup := (sortI_perm _).nodup_iff.mpr (nodup_dups _ ns (Nat.le_refl _))
  exact (h1.and h2).imp fun h => by have := h.1; have := h.2; omega
theorem asc_eq : ∀ {xs ys : List Int}, xs.Pairwise (· < ·) → ys.Pairwise (· < ·) → (∀ z, z ∈ xs ↔ z ∈ ys) → xs = ys := fun {xs ys} h1 h2 h =>
  sorted_unique ((List.perm_ext_iff_of_nodup (h1.imp Int.ne_of_lt) (h2.imp Int.ne_of_lt)).mpr h) (h1.imp Int.le_of_lt) (h2.imp Int.le_of_lt)
section
variable {C : Cfg} {D : Fns} {k : Nat} {N : List Str} {sc : Scope} {X : Cx} {xv : XV} {W : WX} {pos : Pos}
theorem snd_sset (A : At C D k N sc X xv W) {a : Py.A} {e : Expr} {q q2 pos2 : Pos} (hx : blB C sc "sorted" = true) (hx2 : blB C sc "set" = true) (ns : noStar [e] = true) (ha : AOk D X xv W a [e]) :
    PE X (.Call (.Name "sorted" q) [.Call (.Name "set" q2) [e] [] pos2] [] pos) (liftF X.K xv W (denF D (.sset a))) := by
  obtain ⟨_, ts, hp, hi⟩ := ha
  obtain ⟨g1, g2, g3, g4⟩ := A.blt hx
  obtain ⟨j1, j2, j3, j4⟩ := A.blt hx2
  obtain ⟨s1, s2⟩ := star_cons X.env ns
  obtain ⟨t1, t2⟩ := star_cons X.env (show noStar [Expr.Call (.Name "set" q2) [e] [] pos2] = true from rfl)
  have hin := pe_callTy (pos := pos2) (p := q2) (cr_setI A.calm) j1 j3 (by decide +kernel) (hp.pa ns) j4 j2 s1 (noStar_any _ _ s2)
  refine PE.imp (pe_callB (cr_sortedSet A.calm) g1 g3 (by decide +kernel) ((PEs.cons hin .nil).pa rfl) g4 g2 t1 (noStar_any _ _ t2)) fun σ H Q h => ?_
  simp only [denF] at h
  refine hi σ H _ ((fop_src h).imp fun vs G ⟨p2, s2, xs, c, hK2, S2, rw2, e2, o2⟩ => ?_)
  obtain ⟨x, v, rfl, w1, e2⟩ := oneF_some rw2 e2
  unfold dupC at e2
  obtain ⟨ys, e3, e4⟩ := Option.bind_eq_some_iff.mp e2
  obtain ⟨is, e5, e6⟩ := Option.bind_eq_some_iff.mp e4
  split at e6
  · rename_i few
    simp only [Option.some.injEq] at e6; subst e6
    obtain ⟨a1, us, rfl, q1, r⟩ := w1.rows e3
    rw [ints_of e5] at r
    rw [RVs.of_ints r] at q1
    refine ⟨a1, is, rfl, by rw [← hK2]; exact q1, few, fun p m hp hm => ?_⟩
    refine ⟨p, _, m, rfl, upd_same, by omega, fun zs p' z1 z2 z3 z4 => ?_⟩
    have hz : zs = dupI is := asc_eq z1 (dupI_asc is) fun z => by rw [z2, dupI_mem, decide_eq_true_eq]
    subst hz
    exact (OutF.mono (Stp.new hp) o2).lay (S2.new hp) ⟨_, rfl, RVs.ints _⟩ p' z4
  · cases e6
end
end Py

-- text PyV
set_option Elab.async false
set_option linter.all false
set_option maxRecDepth 100000
set_option maxHeartbeats 4000000
namespace Py
open PySem PySem.Spec PyProof.Rows L2
/-! ### the text against the small language, whole -/
def relS (sc scope : Scope) : Scope := { scope with names := scope.names.map fun (n, k) => if (k == .free && sc.kind == .function && sc.names.lookup n == some .cell) then (n, .cell) else (n, k) }
theorem relS_eq {sc scope : Scope} {env : PySem.Env} (h : env.scope = sc) : relabel scope env = relS sc scope := by
  unfold relabel relS
  subst h
  rfl
def ownN (N : List Str) (own : List Nat) : List (Str × Nat) := own.map fun j => (N.getD j "", j)
theorem ownN_snd {N : List Str} {own : List Nat} : (ownN N own).map (·.2) = own := by simp [ownN, Function.comp_def]
def blkC (N : List Str) (sc scope : Scope) (own : List Nat) : Bool :=
  decide (scope.kind = .function) && scope.names.all (fun y => decide (scope.names.lookup y.1 = some y.2)) && (ownN N own).all (fun p => decide (N[p.2]? = some p.1)) &&
  scope.names.all (fun y => !decide (y.2 = .free) || decide (sc.names.lookup y.1 = some .cell) || decide (sc.names.lookup y.1 = some .free)) &&
  scope.names.all (fun y => !(decide (y.2 = .local) || decide (y.2 = .cell)) || ((ownN N own).map (·.1)).contains y.1 || !N.contains y.1)
theorem blkC_ok {N : List Str} {sc scope : Scope} {own : List Nat} (h : blkC N sc scope own = true) : BlkOk N sc scope (ownN N own) := by
  unfold blkC at h
  simp only [Bool.and_eq_true, List.all_eq_true, decide_eq_true_eq, Bool.or_eq_true, Bool.not_eq_true', decide_eq_false_iff_not] at h
  obtain ⟨⟨⟨⟨h1, h2⟩, h3⟩, h4⟩, h5⟩ := h
  refine ⟨h1, h2, h3, fun y hy e => ?_, fun y hy e => ?_⟩
  · rcases h4 y hy with (q | q) | q
    · exact absurd e q
    · exact .inl q
    · exact .inr q
  · rcases h5 y hy with (q | q) | q
    · exfalso
      simp only [Bool.or_eq_false_iff, decide_eq_false_iff_not] at q
      rcases e with e | e
      · exact q.1 e
      · exact q.2 e
    · exact .inl (by simpa using q)
    · exact .inr (by simpa using q)
def isTT : E → Bool
  | .tt => true
  | _ => false
def isCat : FOp → Bool
  | .cat => true
  | _ => false
def isRep : FOp → Bool
  | .rep => true
  | _ => false
def isListO : FOp → Bool
  | .list => true
  | _ => false
def isSortO : FOp → Bool
  | .sorted => true
  | _ => false
def isRevO : FOp → Bool
  | .revL => true
  | _ => false
def isSlcF (l u : Bool) : FOp → Bool
  | .slcL a b => a == l && b == u
  | _ => false
def notSet : Expr → Bool
  | .Set _ _ _ => false
  | _ => true
theorem notSet_ok {e : Expr} (h : notSet e = true) (env : PySem.Env) : ∀ x, foldedSetIterable e env x = pure x := by
  intro x
  cases e <;> first | rfl | simp [notSet] at h
def baseB : Expr → Bool
  | .Subscript _ _ _ => true
  | .Name _ _ => true
  | _ => false
theorem baseB_ok {o : Expr} (h : baseB o = true) {m : Str} {env : PySem.Env} {w : Sem Value} : attributeBase o m env w = w := by
  cases o <;> first | rfl | simp [baseB] at h
def isIdxD : Op → Bool
  | .idxD => true
  | _ => false
def isInD : Op → Bool
  | .inD => true
  | _ => false
def isNotinD : Op → Bool
  | .notinD => true
  | _ => false
def isNilA : A → Bool
  | .nil => true
  | _ => false
mutual
/-- the same constant -/
def sameC : MV → MV → Bool
  | .non, .non => true
  | .bl a, .bl b => a == b
  | .int a, .int b => decide (a = b)
  | .str a, .str b => decide (a = b)
  | .tup a, .tup b => sameCs a b
  | _, _ => false
def sameCs : List MV → List MV → Bool
  | [], [] => true
  | x :: xs, y :: ys => sameC x y && sameCs xs ys
  | _, _ => false
end
def isM (n : Int) : Option Expr → Bool
  | some (.UnaryOp u c _) => decide (u = .USub) && (match c with
    | .Constant q _ _ => (match q with
      | .int m => decide (m = n)
      | _ => false)
    | _ => false)
  | _ => false
def isRevT (lo hi st : Option Expr) : Op → Bool
  | .revT 0 => lo.isNone && hi.isNone && isM 1 st
  | .revT 1 => isM 2 lo && hi.isNone && isM 1 st
  | _ => false
def isGcd : Op → Bool
  | .gcd => true
  | _ => false
mutual
def kE (C : Cfg) (N : List Str) : E → Scope → Expr → Bool
  | .var i, sc, ex => match ex with
    | .Name x _ => nmB N sc i x
    | _ => false
  | .esc i, sc, ex => match ex with
    | .Name x _ => nmB N sc i x
    | _ => false
  | .cst c, sc, ex => match ex with
    | .Constant k _ _ => cstB c k
    | _ => false
  | .op o a, sc, ex => match ex with
    | .BinOp l op r _ => bopB o op && kA C N a sc [l, r]
    | .UnaryOp u x _ => decide (u = .USub) && isNeg o && kA C N a sc [x]
    | .Compare l ops rs _ => (match ops, rs with
      | [op], [r] => (copB o op && !behindInMarks op r && kA C N a sc [l, r]) || (decide (op = .Is) && isIsN o && isNm r && kA C N a sc [l]) || (decide (op = .IsNot) && isNot o && isNm r && kA C N a sc [l]) ||
        (decide (op = .In) && isInD o && !behindInMarks .In r && kA C N a sc [l, r]) || (decide (op = .NotIn) && isNotinD o && !behindInMarks .NotIn r && kA C N a sc [l, r])
      | _, _ => false)
    | .Subscript x i _ => (match i with
      | .Slice lo hi st _ => (st.isNone && !(lo.isSome && hi.isSome) && isSlc lo.isSome hi.isSome o && kA C N a sc (x :: (optL lo ++ optL hi))) || (isRevT lo hi st o && kA C N a sc [x])
      | i => (isIdx o || isIdxD o) && !isSl i && kA C N a sc [x, i])
    | .Call f args kws _ => (match f with
      | .Name x _ => kws.isEmpty && (match bName o with
        | some (y, t, n) => decide (x = y) && blB C sc x && decide (bootBuiltins x = some (bVal t n)) && noStar args && !args.isEmpty && kA C N a sc args
        | none => (match args with
          | [e, t] => (isGcd o && glB sc x && C.im.contains (x, "math.gcd") && noStar args && kA C N a sc [e, t]) || (match t with
            | .Name t _ => decide (x = ("isinstance" : Str)) && isIsi t o && blB C sc x && blB C sc t && noStar args && decide (bootBuiltins t = some (match o with | .isi n => .type n | _ => .none)) && kA C N a sc [e]
            | _ => false)
          | _ => false))
      | _ => false)
    | _ => false
  | .tup a, sc, ex => match ex with
    | .Tuple es _ _ => noStar es && kA C N a sc es
    | _ => false
  | .im f, sc, ex => kF C N f sc ex
  | .ce f, sc, ex => kF C N f sc ex
  | .call f a, sc, ex => match ex with
    | .Call g args kws _ => (match g with
      | .Name x _ => kws.isEmpty && (match C.fs[f]? with
        | some d => decide (d.nm = x) && glB sc x && decide (args.length = d.ps.length) && noStar args && !args.isEmpty && kA C N a sc args
        | none => false)
      | _ => false)
    | _ => false
  | .callK f a perm, sc, ex => match ex with
    | .Call g args kws _ => (match g with
      | .Name x _ => (match C.fs[f]?, kwNames kws with
        | some d, some ks => decide (d.nm = x) && glB sc x && d.kw.contains (args.length, ks, perm) && decide (perm.length = d.ps.length) && noStar args && kA C N a sc (args ++ kws.map Keyword.value)
        | _, _ => false)
      | _ => false)
    | _ => false
  | .pop i, sc, ex => match ex with
    | .Call g args kws pos => (match g with
      | .Attribute o m apos => (match o with
        | .Name x _ => args.isEmpty && kws.isEmpty && decide (m = ("pop" : Str)) && (apos.endLine == pos.line) && nmB N sc i x
        | _ => false)
      | _ => false)
    | _ => false
  | .popi i e, sc, ex => match ex with
    | .Call g args kws pos => (match g with
      | .Attribute o m apos => (match o with
        | .Name x _ => (match args with
          | [y] => kws.isEmpty && decide (m = ("pop" : Str)) && (apos.endLine == pos.line) && nmB N sc i x && noStar [y] && kE C N e sc y
          | _ => false)
        | _ => false)
      | _ => false)
    | _ => false
  | .app i e, sc, ex => match ex with
    | .Call g args kws pos => (match g with
      | .Attribute o m apos => (match o with
        | .Name x _ => (match args with
          | [y] => kws.isEmpty && decide (m = ("append" : Str)) && (apos.endLine == pos.line) && nmB N sc i x && noStar [y] && kE C N e sc y
          | _ => false)
        | _ => false)
      | _ => false)
    | _ => false
  | .ext i e, sc, ex => match ex with
    | .Call g args kws pos => (match g with
      | .Attribute o m apos => (match o with
        | .Name x _ => (match args with
          | [y] => kws.isEmpty && decide (m = ("extend" : Str)) && (apos.endLine == pos.line) && nmB N sc i x && noStar [y] && kE C N e sc y
          | _ => false)
        | _ => false)
      | _ => false)
    | _ => false
  | .popc e, sc, ex => match ex with
    | .Call g args kws pos => (match g with
      | .Attribute o m apos => args.isEmpty && kws.isEmpty && decide (m = ("pop" : Str)) && (apos.endLine == pos.line) && baseB o && kE C N e sc o
      | _ => false)
    | _ => false
  | .appc c e, sc, ex => match ex with
    | .Call g args kws pos => (match g with
      | .Attribute o m apos => (match args with
        | [y] => kws.isEmpty && decide (m = ("append" : Str)) && (apos.endLine == pos.line) && baseB o && noStar [y] && kE C N c sc o && kE C N e sc y
        | _ => false)
      | _ => false)
    | _ => false
  | .ite c a b, sc, ex => match ex with
    | .IfExp t x y _ => kE C N c sc t && kE C N a sc x && kE C N b sc y
    | _ => false
  | .and2 a b, sc, ex => match ex with
    | .BoolOp op vs pos => (match vs with
      | x :: y :: r => decide (op = .And) && kE C N a sc x && (match r with
        | [] => kE C N b sc y
        | z :: r => kE C N b sc (.BoolOp .And (y :: z :: r) pos))
      | _ => false)
    | _ => false
  | .or2 a b, sc, ex => match ex with
    | .BoolOp op vs pos => (match vs with
      | x :: y :: r => decide (op = .Or) && kE C N a sc x && (match r with
        | [] => kE C N b sc y
        | z :: r => kE C N b sc (.BoolOp .Or (y :: z :: r) pos))
      | _ => false)
    | _ => false
  | .not a, sc, ex => match ex with
    | .UnaryOp u x _ => decide (u = .Not) && kE C N a sc x
    | _ => false
  | .chain c d x y z, sc, ex => match ex with
    | .Compare l ops rs _ => (match ops, rs with
      | [o1, o2], [m, r] => decide (o1 = cmpO c) && decide (o2 = cmpO d) && !behindInMarks o2 r && kE C N x sc l && kE C N y sc m && kE C N z sc r
      | _, _ => false)
    | _ => false
  | .tt, _, _ => false
  | .cut a lo hi, sc, ex => match ex with
    | .Subscript x i _ => (match i with
      | .Slice l h st _ => (match l, h with
        | some l, some h => st.isNone && kA C N a sc [x] && kE C N lo sc l && kE C N hi sc h
        | _, _ => false)
      | _ => false)
    | _ => false
  | .glob x c, sc, ex => match ex with
    | .Name y _ => decide (y = x) && glB sc y && C.gl.any (fun g => decide (g.1 = y) && sameC g.2 c)
    | _ => false
  | .popci e k, sc, ex => match ex with
    | .Call g args kws pos => (match g with
      | .Attribute o m apos => (match args with
        | [y] => kws.isEmpty && decide (m = ("pop" : Str)) && (apos.endLine == pos.line) && baseB o && noStar [y] && kE C N e sc o && kE C N k sc y
        | _ => false)
      | _ => false)
    | _ => false
  | .trg e, sc, ex => match ex with
    | .Call f args kws _ => (match f with
      | .Name x _ => (match args with
        | [y] => kws.isEmpty && decide (x = ("tuple" : Str)) && blB C sc x && (match y with
          | .Call f2 args2 kws2 _ => (match f2 with
            | .Name x2 _ => (match args2 with
              | [a] => kws2.isEmpty && decide (x2 = ("range" : Str)) && blB C sc x2 && noStar [a] && kE C N e sc a
              | _ => false)
            | _ => false)
          | _ => false)
        | _ => false)
      | _ => false)
    | _ => false
  | .star e a, sc, ex => match ex with
    | .Tuple es _ _ => (match es with
      | x :: t => (match x with
        | .Starred y _ => noStar t && kE C N e sc y && kA C N a sc t
        | _ => false)
      | [] => false)
    | _ => false
  | .getd eo k d, sc, ex => match ex with
    | .Call g args kws pos => (match g with
      | .Attribute o m apos => (match args with
        | [y, z] => kws.isEmpty && decide (m = ("get" : Str)) && (apos.endLine == pos.line) && baseB o && noStar [y, z] && kE C N eo sc o && kE C N k sc y && kE C N d sc z
        | _ => false)
      | _ => false)
    | _ => false
  | .geto i k d, sc, ex => match ex with
    | .Call g args kws pos => (match g with
      | .Attribute o m apos => (match o with
        | .Name x _ => (match args with
          | [y, z] => kws.isEmpty && decide (m = ("get" : Str)) && (apos.endLine == pos.line) && nmB N sc i x && noStar [y, z] && kE C N k sc y && kE C N d sc z
          | _ => false)
        | _ => false)
      | _ => false)
    | _ => false
def kA (C : Cfg) (N : List Str) : A → Scope → List Expr → Bool
  | .nil, _, es => es.isEmpty
  | .cons e r, sc, es => match es with
    | x :: t => kE C N e sc x && kA C N r sc t
    | [] => false
  | .own i r, sc, es => match es with
    | x :: t => (match x with
      | .Name x _ => nmB N sc i x && kA C N r sc t
      | _ => false)
    | [] => false
def kF (C : Cfg) (N : List Str) : FE → Scope → Expr → Bool
  | .disp a, sc, ex => match ex with
    | .List es _ => noStar es && kA C N a sc es
    | _ => false
  | .fop o a, sc, ex => match ex with
    | .BinOp l op r _ => ((decide (op = .Add) && isCat o) || (decide (op = .Mult) && isRep o)) && kA C N a sc [l, r]
    | .Subscript x i _ => (match i with
      | .Slice lo hi st _ => (match st with
        | none => !(lo.isSome && hi.isSome) && isSlcF lo.isSome hi.isSome o && kA C N a sc (x :: (optL lo ++ optL hi))
        | some st => lo.isNone && hi.isNone && isRevO o && (match st with
          | .UnaryOp u c _ => (match c with
            | .Constant q _ _ => decide (u = .USub) && (match q with
              | .int n => decide (n = 1) && kA C N a sc [x]
              | _ => false)
            | _ => false)
          | _ => false))
      | _ => false)
    | .Call f args kws _ => (match f with
      | .Name x _ => kws.isEmpty && (match args with
        | [e] => ((decide (x = ("list" : Str)) && isListO o) || (decide (x = ("sorted" : Str)) && isSortO o)) && blB C sc x && noStar [e] && kA C N a sc [e]
        | _ => false)
      | _ => false)
    | _ => false
  | .dnk ks a, sc, ex => match ex with
    | .Dict keys values _ => (match ks with
      | [] => keys.isEmpty && values.isEmpty && isNilA a
      | k :: ks => keysB (k :: ks) keys && decide ((k :: ks).length = values.length) && decide ((k :: ks).length ≤ 15) && kA C N a sc values)
    | _ => false
  | .cut a lo hi, sc, ex => match ex with
    | .Subscript x i _ => (match i with
      | .Slice l h st _ => (match l, h with
        | some l, some h => st.isNone && kA C N a sc [x] && kE C N lo sc l && kE C N hi sc h
        | _, _ => false)
      | _ => false)
    | _ => false
  | .lc g own it c e, sc, ex => match ex with
    | .ListComp elt gens scope _ => (match gens with
      | [⟨tg, iter, ifs, as⟩] => decide (as = 0) && blkC N sc scope own && chkG N false g (relS sc scope) tg && notSet iter && (slotsG g).all (fun j => own.contains j) && kI C N it sc tg iter &&
        (match ifs with
        | [] => isTT c
        | [t] => kE C N c (relS sc scope) t
        | _ => false) && kE C N e (relS sc scope) elt
      | _ => false)
    | _ => false
  | .lcO g own i c e, sc, ex => match ex with
    | .ListComp elt gens scope _ => (match gens with
      | [⟨tg, iter, ifs, as⟩] => (match iter with
        | .Name x _ => decide (as = 0) && blkC N sc scope own && chkG N false g (relS sc scope) tg && nmB N sc i x && (slotsG g).all (fun j => own.contains j) &&
          (match ifs with
          | [] => isTT c
          | [t] => kE C N c (relS sc scope) t
          | _ => false) && kE C N e (relS sc scope) elt
        | _ => false)
      | _ => false)
    | _ => false
  | .lrg it, sc, ex => match ex with
    | .Call f args kws _ => (match f with
      | .Name x _ => (match args with
        | [y] => kws.isEmpty && decide (x = ("list" : Str)) && blB C sc x && kL C N it sc y
        | _ => false)
      | _ => false)
    | _ => false
  | .dictP a, sc, ex => match ex with
    | .Call f args kws _ => (match f with
      | .Name x _ => (match args with
        | [y] => kws.isEmpty && decide (x = ("dict" : Str)) && blB C sc x && noStar [y] && kA C N a sc [y]
        | _ => false)
      | _ => false)
    | _ => false
  | .sset a, sc, ex => match ex with
    | .Call f args kws _ => (match f with
      | .Name x _ => (match args with
        | [y] => (match y with
          | .Call f2 args2 kws2 _ => (match f2 with
            | .Name x2 _ => (match args2 with
              | [z] => kws.isEmpty && kws2.isEmpty && decide (x = ("sorted" : Str)) && decide (x2 = ("set" : Str)) && blB C sc x && blB C sc x2 && noStar [z] && kA C N a sc [z]
              | _ => false)
            | _ => false)
          | _ => false)
        | _ => false)
      | _ => false)
    | _ => false
  | .sortK g a, sc, ex => match ex with
    | .Call f args kws _ => (match f with
      | .Name x _ => (match args with
        | [z] => (match kws with
          | [⟨some n, key, _⟩] => (match key with
            | .Name y _ => (match C.fs[g]? with
              | some d => decide (x = ("sorted" : Str)) && decide (n = ("key" : Str)) && blB C sc ("sorted" : Str) && decide (d.nm = y) && glB sc y && decide (d.ps.length = 1) && noStar [z] && kA C N a sc [z]
              | none => false)
            | _ => false)
          | _ => false)
        | _ => false)
      | _ => false)
    | _ => false
/-- range(..) within list(..) -/
def kL (C : Cfg) (N : List Str) : I → Scope → Expr → Bool
  | .rng1 e, sc, it => match it with
    | .Call f args kws _ => (match f with
      | .Name x _ => (match args with
        | [a] => kws.isEmpty && decide (x = ("range" : Str)) && blB C sc x && noStar [a] && kE C N e sc a
        | _ => false)
      | _ => false)
    | _ => false
  | .rng2 e g, sc, it => match it with
    | .Call f args kws _ => (match f with
      | .Name x _ => (match args with
        | [a, b] => kws.isEmpty && decide (x = ("range" : Str)) && blB C sc x && noStar [a, b] && kE C N e sc a && kE C N g sc b
        | _ => false)
      | _ => false)
    | _ => false
  | _, _, _ => false
def kI (C : Cfg) (N : List Str) : I → Scope → Expr → Expr → Bool
  | .ex e, sc, _, it => kE C N e sc it
  | .rng1 e, sc, _, it => match it with
    | .Call f args kws _ => (match f with
      | .Name x _ => (match args with
        | [a] => kws.isEmpty && decide (x = ("range" : Str)) && blB C sc x && noStar [a] && kE C N e sc a
        | _ => false)
      | _ => false)
    | _ => false
  | .rng2 e g, sc, _, it => match it with
    | .Call f args kws _ => (match f with
      | .Name x _ => (match args with
        | [a, b] => kws.isEmpty && decide (x = ("range" : Str)) && blB C sc x && noStar [a, b] && kE C N e sc a && kE C N g sc b
        | _ => false)
      | _ => false)
    | _ => false
  | .rng3 e g h, sc, _, it => match it with
    | .Call f args kws _ => (match f with
      | .Name x _ => (match args with
        | [a, b, c] => kws.isEmpty && decide (x = ("range" : Str)) && blB C sc x && noStar [a, b, c] && kE C N e sc a && kE C N g sc b && kE C N h sc c
        | _ => false)
      | _ => false)
    | _ => false
  | .enum e, sc, tg, it => match it with
    | .Call f args kws _ => (match f with
      | .Name x _ => (match args with
        | [a] => kws.isEmpty && (match tg with | .Tuple _ _ _ => true | _ => false) && decide (x = ("enumerate" : Str)) && blB C sc x && noStar [a] && kE C N e sc a
        | _ => false)
      | _ => false)
    | _ => false
  | .rev e, sc, _, it => match it with
    | .Call f args kws _ => (match f with
      | .Name x _ => (match args with
        | [a] => kws.isEmpty && decide (x = ("reversed" : Str)) && blB C sc x && noStar [a] && kE C N e sc a
        | _ => false)
      | _ => false)
    | _ => false
  | .zip e g, sc, tg, it => match it with
    | .Call f args kws _ => (match f with
      | .Name x _ => (match args with
        | [a, b] => kws.isEmpty && (match tg with | .Tuple _ _ _ => true | _ => false) && decide (x = ("zip" : Str)) && blB C sc x && noStar [a, b] && kE C N e sc a && kE C N g sc b
        | _ => false)
      | _ => false)
    | _ => false
end
end Py

-- text PyW
set_option Elab.async false
set_option linter.all false
set_option maxRecDepth 100000
set_option maxHeartbeats 4000000
namespace Py
open PySem PySem.Spec PyProof.Rows L2
/-! ### the checker is sound: expressions -/
def isBO : Expr → Bool
  | .BoolOp _ _ _ => true
  | _ => false
structure Snd (D : Fns) (X : Cx) (xv : XV) (W : WX) (e : E) (ex : Expr) : Prop where
  pe : PE X ex (lift rE X.K xv W (denE D e))
  pt : PT X ex (lift rB X.K xv W (tstE D e))
  pw : isBO ex = true → PW X ex (lift rB X.K xv W (tstE D e))
section
variable {C : Cfg} {D : Fns} {k : Nat} {N : List Str} {sc : Scope} {X : Cx} {xv : XV} {W : WX}
theorem pt_no {ex : Expr} {m : M Bool} (h : ∀ s, m s = .no) : PT X ex (lift rB X.K xv W m) := ⟨fun pins s σ H Q I ⟨p, z, _, _, o⟩ => by rw [h z] at o; exact o.elim⟩
theorem pw_no {ex : Expr} {m : M Bool} (h : ∀ s, m s = .no) : PW X ex (lift rB X.K xv W m) := ⟨fun whole pins s σ H Q I ⟨p, z, _, _, o⟩ => by rw [h z] at o; exact o.elim⟩
/-- a value whose test is its truth -/
theorem Snd.tru {e : E} {ex : Expr} (hp : plainT ex = true) (h : PE X ex (lift rE X.K xv W (denE D e))) (ht : tstE D e = (do let x ← denE D e; lift? (truthV x)) ∨ ∀ s, tstE D e s = .no) : Snd D X xv W e ex := by
  refine ⟨h, ?_, fun hb => ?_⟩
  · rcases ht with ht | ht
    · rw [ht]; exact snd_tru hp h
    · exact pt_no ht
  · cases ex <;> simp [isBO, plainT] at hb hp
theorem Snd.mk' {e : E} {ex : Expr} (hp : isBO ex = false) (h : PE X ex (lift rE X.K xv W (denE D e))) (ht : PT X ex (lift rB X.K xv W (tstE D e))) : Snd D X xv W e ex := ⟨h, ht, fun hb => by rw [hp] at hb; cases hb⟩
theorem Snd.no {e : E} {ex : Expr} (h : PE X ex (lift rE X.K xv W (denE D e))) (ht : ∀ s, tstE D e s = .no) : Snd D X xv W e ex := ⟨h, pt_no ht, fun _ => pw_no ht⟩
theorem tst_op {o : Op} {a : A} : tstE D (.op o a) = (do let x ← denE D (.op o a); lift? (truthV x)) := by
  simp only [tstE, denE, bnd_asc]
theorem isBop {o : Op} {op : Operator} (h : bopB o op = true) : bop o = some op := by simpa [bopB] using h
theorem isCop {o : Op} {op : CmpOp} (h : copB o op = true) : cop o = some op := by simpa [copB] using h
theorem snd_blt2 (A : At C D k N sc X xv W) {o : Op} {x : Str} {t : Bool} {n : String} {a : Py.A} {es : List Expr} {q pos : Pos} (ho : bName o = some (x, t, n)) (hx : blB C sc x = true) (hv : bootBuiltins x = some (bVal t n)) (ns : noStar es = true) (hne : es.isEmpty = false)
    (ha : AOk D X xv W a es) : PE X (.Call (.Name x q) es [] pos) (lift rE X.K xv W (denE D (.op o a))) := by
  cases es with
  | nil => cases hne
  | cons e es => exact snd_blt A ho hx hv ns ha
theorem snd_call2 (A : At C D k N sc X xv W) {f : Nat} {d : FI} {a : Py.A} {x : Str} {es : List Expr} {q pos : Pos} (hd : C.fs[f]? = some d) (hx : d.nm = x) (hg : glB sc x = true) (hl : es.length = d.ps.length) (ns : noStar es = true) (hne : es.isEmpty = false)
    (ha : AOk D X xv W a es) : PE X (.Call (.Name x q) es [] pos) (lift rE X.K xv W (denE D (.call f a))) := by
  cases es with
  | nil => cases hne
  | cons e es => exact snd_call A hd hx hg hl ns ha
mutual
theorem sameC_ok : ∀ {a b : MV}, sameC a b = true → a = b
  | .non, b, h => by cases b <;> simp [sameC] at h; rfl
  | .bl x, b, h => by cases b <;> simp [sameC] at h; rw [h]
  | .int x, b, h => by cases b <;> simp [sameC] at h; rw [h]
  | .str x, b, h => by cases b <;> simp [sameC] at h; rw [h]
  | .tup xs, b, h => by
    cases b <;> simp only [sameC, Bool.false_eq_true] at h
    rw [sameCs_ok h]
  | .lst _, b, h => by simp [sameC] at h
  | .dk _, b, h => by simp [sameC] at h
  | .dt _, b, h => by simp [sameC] at h
  | .ref _, b, h => by simp [sameC] at h
  | .scr _, b, h => by simp [sameC] at h
theorem sameCs_ok : ∀ {a b : List MV}, sameCs a b = true → a = b
  | [], [], h => rfl
  | [], _ :: _, h => by simp [sameCs] at h
  | _ :: _, [], h => by simp [sameCs] at h
  | x :: xs, y :: ys, h => by
    simp only [sameCs, Bool.and_eq_true] at h
    rw [sameC_ok h.1, sameCs_ok h.2]
end
theorem isM_ok {n : Int} {e : Option Expr} (h : isM n e = true) : ∃ j p1 p2, e = some (.UnaryOp .USub (.Constant (.int n) j p1) p2) := by
  unfold isM at h
  split at h
  · simp only [Bool.and_eq_true, decide_eq_true_eq] at h
    obtain ⟨rfl, h⟩ := h
    split at h
    · split at h
      · simp only [decide_eq_true_eq] at h
        subst h
        exact ⟨_, _, _, rfl⟩
      · cases h
    · cases h
  · cases h
theorem revT_cases {lo hi st : Option Expr} {o : Op} (h : isRevT lo hi st o = true) : (o = .revT 0 ∧ lo = none ∧ hi = none ∧ ∃ j p1 p2, st = some (.UnaryOp .USub (.Constant (.int 1) j p1) p2)) ∨
    (o = .revT 1 ∧ (∃ j p1 p2, lo = some (.UnaryOp .USub (.Constant (.int 2) j p1) p2)) ∧ hi = none ∧ ∃ j p1 p2, st = some (.UnaryOp .USub (.Constant (.int 1) j p1) p2)) := by
  unfold isRevT at h
  split at h
  · simp only [Bool.and_eq_true, Option.isNone_iff_eq_none] at h
    exact .inl ⟨rfl, h.1.1, h.1.2, isM_ok h.2⟩
  · simp only [Bool.and_eq_true, Option.isNone_iff_eq_none] at h
    exact .inr ⟨rfl, isM_ok h.1.1, h.1.2, isM_ok h.2⟩
  · cases h
theorem op_snd (A : At C D k N sc X xv W) {o : Op} {a : Py.A} {ex : Expr} (hA : ∀ es, kA C N a sc es = true → AOk D X xv W a es) (h : kE C N (.op o a) sc ex = true) : Snd D X xv W (.op o a) ex := by
  simp only [kE] at h
  split at h
  · simp only [Bool.and_eq_true] at h
    exact .tru rfl (snd_bin (isBop h.1) (hA _ h.2)) (.inl tst_op)
  · simp only [Bool.and_eq_true, decide_eq_true_eq] at h
    obtain ⟨⟨rfl, h2⟩, h3⟩ := h
    cases o <;> simp only [isNeg, reduceCtorEq, Bool.false_eq_true] at h2
    exact .tru rfl (snd_neg (hA _ h3)) (.inl tst_op)
  · split at h
    · simp only [Bool.or_eq_true, Bool.and_eq_true, decide_eq_true_eq, Bool.not_eq_true'] at h
      rcases h with (((⟨⟨h1, h2⟩, h3⟩ | ⟨⟨⟨rfl, h2⟩, h3⟩, h4⟩) | ⟨⟨⟨rfl, h2⟩, h3⟩, h4⟩) | ⟨⟨⟨rfl, h2⟩, h3⟩, h4⟩) | ⟨⟨⟨rfl, h2⟩, h3⟩, h4⟩
      · have h1' := isCop h1
        exact .mk' rfl (snd_cmp A h1' h2 (hA _ h3)) (snd_cmpT A h1' h2 (hA _ h3))
      · cases o <;> simp only [isIsN, reduceCtorEq, Bool.false_eq_true] at h2
        obtain ⟨q1, q2⟩ := snd_isN (pos := _) h3 (hA _ h4)
        exact .mk' rfl q1 q2
      · cases o <;> simp only [isNot, reduceCtorEq, Bool.false_eq_true] at h2
        obtain ⟨q1, q2⟩ := snd_notN (pos := _) h3 (hA _ h4)
        exact .mk' rfl q1 q2
      · cases o <;> simp only [isInD, reduceCtorEq, Bool.false_eq_true] at h2
        obtain ⟨q1, q2⟩ := snd_inD (pos := _) A h3 (hA _ h4)
        exact .mk' rfl q1 q2
      · cases o <;> simp only [isNotinD, reduceCtorEq, Bool.false_eq_true] at h2
        obtain ⟨q1, q2⟩ := snd_notinD (pos := _) A h3 (hA _ h4)
        exact .mk' rfl q1 q2
    · cases h
  · split at h
    · rename_i lo hi st _
      simp only [Bool.or_eq_true, Bool.and_eq_true, Bool.not_eq_true'] at h
      rcases h with ⟨⟨⟨h1, h2⟩, h3⟩, h4⟩ | ⟨h1, h2⟩
      · cases st with
        | some st => cases h1
        | none =>
          cases o <;> simp only [isSlc, Bool.and_eq_true, beq_iff_eq, Bool.false_eq_true] at h3
          obtain ⟨rfl, rfl⟩ := h3
          exact .tru rfl (snd_slcT h2 (hA _ h4)) (.inl tst_op)
      · rcases revT_cases h1 with ⟨rfl, rfl, rfl, j, p1, p2, rfl⟩ | ⟨rfl, ⟨i, q1, q2, rfl⟩, rfl, j, p1, p2, rfl⟩
        · exact .tru rfl (snd_revT0 (hA _ h2)) (.inl tst_op)
        · exact .tru rfl (snd_revT1 (hA _ h2)) (.inl tst_op)
    · simp only [Bool.and_eq_true, Bool.or_eq_true, Bool.not_eq_true'] at h
      obtain ⟨⟨h1, h2⟩, h3⟩ := h
      rcases h1 with h1 | h1
      · cases o <;> simp only [isIdx, Bool.false_eq_true] at h1
        exact .tru rfl (snd_idx h2 (hA _ h3)) (.inl tst_op)
      · cases o <;> simp only [isIdxD, Bool.false_eq_true] at h1
        exact .tru rfl (snd_idxD A h2 (hA _ h3)) (.inl tst_op)
  · split at h
    · simp only [Bool.and_eq_true, List.isEmpty_iff] at h
      obtain ⟨rfl, h⟩ := h
      split at h
      · rename_i y t n hb
        simp only [Bool.and_eq_true, decide_eq_true_eq, Bool.not_eq_true'] at h
        obtain ⟨⟨⟨⟨⟨rfl, h2⟩, h3⟩, h4⟩, h5⟩, h6⟩ := h
        exact .tru rfl (snd_blt2 A hb h2 h3 h4 h5 (hA _ h6)) (.inl tst_op)
      · split at h
        · simp only [Bool.or_eq_true] at h
          rcases h with h | h
          · simp only [Bool.and_eq_true, List.contains_iff_mem] at h
            obtain ⟨⟨⟨⟨h1, h2⟩, h3⟩, h4⟩, h5⟩ := h
            cases o <;> simp only [isGcd, Bool.false_eq_true] at h1
            exact .tru rfl (snd_gcd A h2 h3 h4 (hA _ h5)) (.inl tst_op)
          split at h
          · simp only [Bool.and_eq_true, decide_eq_true_eq] at h
            obtain ⟨⟨⟨⟨⟨⟨rfl, h2⟩, h3⟩, h4⟩, h5⟩, h6⟩, h7⟩ := h
            cases o <;> simp only [isIsi, Bool.false_eq_true, decide_eq_true_eq] at h2
            exact .tru rfl (snd_isi A h2 h3 h4 h6 h5 (hA _ h7)) (.inl tst_op)
          · cases h
        · cases h
    · cases h
  · cases h
theorem blkAt (A : At C D k N sc X xv W) {s : Shared} {H : Hp} {scope : Scope} {cl : List (Str × Addr)} {Ca : Addr} {fp : List Addr} : At C D k N (relS sc scope) (X.blk s H scope (compEnvC scope cl Ca X.env) fp) xv (fun _ _ _ _ => False) :=
  ⟨A.hN, A.nd, relS_eq A.scp, A.calm, A.gd, A.rm, A.rm2, A.bl, A.fn, A.glb, A.imb, takes0, A.xo, A.rx, A.xq, A.xc⟩
theorem call_snd (A : At C D k N sc X xv W) {f : Nat} {a : Py.A} {ex : Expr} (hA : ∀ es, kA C N a sc es = true → AOk D X xv W a es) (h : kE C N (.call f a) sc ex = true) : Snd D X xv W (.call f a) ex := by
  simp only [kE] at h
  split at h
  · split at h
    · simp only [Bool.and_eq_true, List.isEmpty_iff] at h
      obtain ⟨rfl, h⟩ := h
      split at h
      · rename_i d hd
        simp only [Bool.and_eq_true, decide_eq_true_eq, Bool.not_eq_true'] at h
        obtain ⟨⟨⟨⟨⟨h1, h2⟩, h3⟩, h4⟩, h5⟩, h6⟩ := h
        exact .tru rfl (snd_call2 A hd h1 h2 h3 h4 h5 (hA _ h6)) (.inl (by simp only [tstE, denE, bnd_asc]))
      · cases h
    · cases h
  · cases h
theorem callK_snd (A : At C D k N sc X xv W) {f : Nat} {a : Py.A} {perm : List Nat} {ex : Expr} (hA : ∀ es, kA C N a sc es = true → AOk D X xv W a es) (h : kE C N (.callK f a perm) sc ex = true) : Snd D X xv W (.callK f a perm) ex := by
  simp only [kE] at h
  split at h
  · split at h
    · split at h
      · rename_i d ks hd hk
        simp only [Bool.and_eq_true, decide_eq_true_eq, List.contains_iff_mem] at h
        obtain ⟨⟨⟨⟨⟨h1, h2⟩, h3⟩, h4⟩, h5⟩, h6⟩ := h
        exact .tru rfl (snd_callK A hd h1 h2 hk h3 h4 h5 (hA _ h6)) (.inl (by simp only [tstE, denE, bnd_asc]))
      · cases h
    · cases h
  · cases h
theorem ifs_ok {c : E} {t : Expr} (h : PT X t (lift rB X.K xv W (tstE D c))) : PTs X [t] (lift rB X.K xv W (tstE D c)) := pts_one h
theorem ifs_tt : PTs X [] (lift rB X.K xv W (tstE D .tt)) := by
  have h := pts_nil (X := X)
  exact ⟨fun pins s σ H Q I ⟨p, z, hK, S, o⟩ => h.run pins s σ H Q I (by simp only [tstE] at o; exact Out.ok o S rfl)⟩
mutual
theorem sE : ∀ (e : E) {sc : Scope} {X : Cx} {W : WX} {ex : Expr}, At C D k N sc X xv W → kE C N e sc ex = true → Snd D X xv W e ex
  | .var i, sc, X, W, ex, A, h => by
    simp only [kE] at h
    split at h
    · exact .tru rfl (snd_var A h) (.inl (by simp only [tstE, denE]))
    · cases h
  | .esc i, sc, X, W, ex, A, h => by
    simp only [kE] at h
    split at h
    · exact .no (snd_esc A h) fun s => by simp only [tstE]; rfl
    · cases h
  | .cst c, sc, X, W, ex, A, h => by
    simp only [kE] at h
    split at h
    · exact .tru rfl (snd_cst h) (.inl (by simp only [tstE, denE]; rfl))
    · cases h
  | .op o a, sc, X, W, ex, A, h => op_snd A (fun es q => sA a A q) h
  | .tup a, sc, X, W, ex, A, h => by
    simp only [kE] at h
    split at h
    · simp only [Bool.and_eq_true] at h
      exact .no (snd_tup h.1 (sA a A h.2)) fun s => by simp only [tstE]; rfl
    · cases h
  | .im f, sc, X, W, ex, A, h => by
    simp only [kE] at h
    exact .no (snd_im (sF f A h)) fun s => by simp only [tstE]; rfl
  | .ce f, sc, X, W, ex, A, h => by
    simp only [kE] at h
    exact .no (snd_ce (sF f A h)) fun s => by simp only [tstE]; rfl
  | .call f a, sc, X, W, ex, A, h => call_snd A (fun es q => sA a A q) h
  | .callK f a perm, sc, X, W, ex, A, h => callK_snd A (fun es q => sA a A q) h
  | .pop i, sc, X, W, ex, A, h => by
    simp only [kE] at h
    split at h
    · split at h
      · split at h
        · simp only [Bool.and_eq_true, List.isEmpty_iff, decide_eq_true_eq] at h
          obtain ⟨⟨⟨⟨rfl, rfl⟩, rfl⟩, h1⟩, h2⟩ := h
          exact .no (snd_pop A h2 h1) fun s => by simp only [tstE]; rfl
        · cases h
      · cases h
    · cases h
  | .popi i e, sc, X, W, ex, A, h => by
    simp only [kE] at h
    split at h
    · split at h
      · split at h
        · split at h
          · simp only [Bool.and_eq_true, List.isEmpty_iff, decide_eq_true_eq] at h
            obtain ⟨⟨⟨⟨⟨rfl, rfl⟩, h1⟩, h2⟩, h3⟩, h4⟩ := h
            exact .no (snd_popi A h2 h1 h3 (sE e A h4).pe) fun s => by simp only [tstE]; rfl
          · cases h
        · cases h
      · cases h
    · cases h
  | .app i e, sc, X, W, ex, A, h => by
    simp only [kE] at h
    split at h
    · split at h
      · split at h
        · split at h
          · simp only [Bool.and_eq_true, List.isEmpty_iff, decide_eq_true_eq] at h
            obtain ⟨⟨⟨⟨⟨rfl, rfl⟩, h1⟩, h2⟩, h3⟩, h4⟩ := h
            exact .no (snd_app A h2 h1 h3 (sE e A h4).pe) fun s => by simp only [tstE]; rfl
          · cases h
        · cases h
      · cases h
    · cases h
  | .ext i e, sc, X, W, ex, A, h => by
    simp only [kE] at h
    split at h
    · split at h
      · split at h
        · split at h
          · simp only [Bool.and_eq_true, List.isEmpty_iff, decide_eq_true_eq] at h
            obtain ⟨⟨⟨⟨⟨rfl, rfl⟩, h1⟩, h2⟩, h3⟩, h4⟩ := h
            exact .no (snd_ext A h2 h1 h3 (sE e A h4).pe) fun s => by simp only [tstE]; rfl
          · cases h
        · cases h
      · cases h
    · cases h
  | .popc e, sc, X, W, ex, A, h => by
    simp only [kE] at h
    split at h
    · split at h
      · simp only [Bool.and_eq_true, List.isEmpty_iff, decide_eq_true_eq] at h
        obtain ⟨⟨⟨⟨⟨rfl, rfl⟩, h0⟩, h1⟩, h2⟩, h3⟩ := h
        exact .no (snd_popc h0 (baseB_ok h2) h1 (sE e A h3).pe) fun s => by simp only [tstE]; rfl
      · cases h
    · cases h
  | .appc c e, sc, X, W, ex, A, h => by
    simp only [kE] at h
    split at h
    · split at h
      · split at h
        · simp only [Bool.and_eq_true, List.isEmpty_iff, decide_eq_true_eq] at h
          obtain ⟨⟨⟨⟨⟨⟨rfl, h0⟩, h1⟩, h2⟩, h3⟩, h4⟩, h5⟩ := h
          exact .no (snd_appc h0 (baseB_ok h2) h1 h3 (sE c A h4).pe (sE e A h5).pe) fun s => by simp only [tstE]; rfl
        · cases h
      · cases h
    · cases h
  | .ite c a b, sc, X, W, ex, A, h => by
    simp only [kE] at h
    split at h
    · simp only [Bool.and_eq_true] at h
      exact .no (snd_ite (sE c A h.1.1).pt (sE a A h.1.2).pe (sE b A h.2).pe) fun s => by simp only [tstE]; rfl
    · cases h
  | .and2 a b, sc, X, W, ex, A, h => by
    simp only [kE] at h
    split at h
    · split at h
      · simp only [Bool.and_eq_true, decide_eq_true_eq] at h
        obtain ⟨⟨rfl, h1⟩, h2⟩ := h
        have i1 := sE a A h1
        split at h2
        · have i2 := sE b A h2
          exact ⟨snd_and i1.pe (pe_one i2.pe), (snd_andT i1.pt (pw_and1 i2.pt)).pt, fun _ => snd_andT i1.pt (pw_and1 i2.pt)⟩
        · have i2 := sE b A h2
          exact ⟨snd_and i1.pe i2.pe, (snd_andT i1.pt (i2.pw rfl)).pt, fun _ => snd_andT i1.pt (i2.pw rfl)⟩
      · cases h
    · cases h
  | .or2 a b, sc, X, W, ex, A, h => by
    simp only [kE] at h
    split at h
    · split at h
      · simp only [Bool.and_eq_true, decide_eq_true_eq] at h
        obtain ⟨⟨rfl, h1⟩, h2⟩ := h
        have i1 := sE a A h1
        split at h2
        · have i2 := sE b A h2
          exact ⟨snd_or i1.pe (pe_one i2.pe), (snd_orT i1.pt (pw_or1 i2.pt)).pt, fun _ => snd_orT i1.pt (pw_or1 i2.pt)⟩
        · have i2 := sE b A h2
          exact ⟨snd_or i1.pe i2.pe, (snd_orT i1.pt (i2.pw rfl)).pt, fun _ => snd_orT i1.pt (i2.pw rfl)⟩
      · cases h
    · cases h
  | .not a, sc, X, W, ex, A, h => by
    simp only [kE] at h
    split at h
    · simp only [Bool.and_eq_true, decide_eq_true_eq] at h
      obtain ⟨rfl, h1⟩ := h
      have i1 := sE a A h1
      exact .mk' rfl (snd_not i1.pe) (snd_notT i1.pt)
    · cases h
  | .chain c d x y z, sc, X, W, ex, A, h => by
    simp only [kE] at h
    split at h
    · split at h
      · simp only [Bool.and_eq_true, decide_eq_true_eq, Bool.not_eq_true'] at h
        obtain ⟨⟨⟨⟨⟨rfl, rfl⟩, h1⟩, h2⟩, h3⟩, h4⟩ := h
        obtain ⟨q1, q2⟩ := snd_chain (pos := _) A h1 (sE x A h2).pe (sE y A h3).pe (sE z A h4).pe
        exact .mk' rfl q1 q2
      · cases h
    · cases h
  | .tt, sc, X, W, ex, A, h => by simp [kE] at h
  | .cut a lo hi, sc, X, W, ex, A, h => by
    simp only [kE] at h
    split at h
    · split at h
      · split at h
        · simp only [Bool.and_eq_true, Option.isNone_iff_eq_none] at h
          obtain ⟨⟨⟨rfl, h1⟩, h2⟩, h3⟩ := h
          exact .no (snd_cutT (sA a A h1) (sE lo A h2).pe (sE hi A h3).pe) fun s => by simp only [tstE]; rfl
        · cases h
      · cases h
    · cases h
  | .glob x c, sc, X, W, ex, A, h => by
    simp only [kE] at h
    split at h
    · simp only [Bool.and_eq_true, decide_eq_true_eq, List.any_eq_true] at h
      obtain ⟨⟨rfl, h1⟩, g, hg, h2, h3⟩ := h
      have h4 := sameC_ok h3
      subst h2; subst h4
      exact .no (snd_glob A h1 hg) fun s => by simp only [tstE]; rfl
    · cases h
  | .popci e k, sc, X, W, ex, A, h => by
    simp only [kE] at h
    split at h
    · split at h
      · split at h
        · simp only [Bool.and_eq_true, List.isEmpty_iff, decide_eq_true_eq] at h
          obtain ⟨⟨⟨⟨⟨⟨rfl, h0⟩, h1⟩, h2⟩, h3⟩, h4⟩, h5⟩ := h
          exact .no (snd_popci h0 (baseB_ok h2) h1 h3 (sE e A h4).pe (sE k A h5).pe) fun s => by simp only [tstE]; rfl
        · cases h
      · cases h
    · cases h
  | .trg e, sc, X, W, ex, A, h => by
    simp only [kE] at h
    split at h
    · split at h
      · split at h
        · simp only [Bool.and_eq_true, List.isEmpty_iff, decide_eq_true_eq] at h
          obtain ⟨⟨⟨rfl, rfl⟩, h1⟩, h⟩ := h
          split at h
          · split at h
            · split at h
              · simp only [Bool.and_eq_true, List.isEmpty_iff, decide_eq_true_eq] at h
                obtain ⟨⟨⟨⟨rfl, rfl⟩, h2⟩, h3⟩, h4⟩ := h
                exact .no (snd_trg A h1 h2 h3 (sE e A h4).pe) fun s => by simp only [tstE]; rfl
              · cases h
            · cases h
          · cases h
        · cases h
      · cases h
    · cases h
  | .star e a, sc, X, W, ex, A, h => by
    simp only [kE] at h
    split at h
    · split at h
      · split at h
        · simp only [Bool.and_eq_true] at h
          exact .no (snd_star h.1.1 (sE e A h.1.2).pe (sA a A h.2)) fun s => by simp only [tstE]; rfl
        · cases h
      · cases h
    · cases h
  | .getd eo k d, sc, X, W, ex, A, h => by
    simp only [kE] at h
    split at h
    · split at h
      · split at h
        · simp only [Bool.and_eq_true, List.isEmpty_iff, decide_eq_true_eq] at h
          obtain ⟨⟨⟨⟨⟨⟨⟨rfl, h0⟩, h1⟩, h2⟩, h3⟩, h4⟩, h5⟩, h6⟩ := h
          exact .no (snd_getd A h0 h3 (baseB_ok h2) h1 (sE eo A h4).pe (sE k A h5).pe (sE d A h6).pe) fun s => by simp only [tstE]; rfl
        · cases h
      · cases h
    · cases h
  | .geto i k d, sc, X, W, ex, A, h => by
    simp only [kE] at h
    split at h
    · split at h
      · split at h
        · split at h
          · simp only [Bool.and_eq_true, List.isEmpty_iff, decide_eq_true_eq] at h
            obtain ⟨⟨⟨⟨⟨⟨rfl, h0⟩, h1⟩, h2⟩, h3⟩, h4⟩, h5⟩ := h
            exact .no (snd_geto A h0 h2 h3 h1 (sE k A h4).pe (sE d A h5).pe) fun s => by simp only [tstE]; rfl
          · cases h
        · cases h
      · cases h
    · cases h
theorem sA : ∀ (a : Py.A) {sc : Scope} {X : Cx} {W : WX} {es : List Expr}, At C D k N sc X xv W → kA C N a sc es = true → AOk D X xv W a es
  | .nil, sc, X, W, es, A, h => by
    simp only [kA, List.isEmpty_iff] at h
    subst h
    exact snd_nil
  | .cons e r, sc, X, W, es, A, h => by
    simp only [kA] at h
    split at h
    · simp only [Bool.and_eq_true] at h
      exact snd_cons (sE e A h.1).pe (sA r A h.2)
    · cases h
  | .own i r, sc, X, W, es, A, h => by
    simp only [kA] at h
    split at h
    · split at h
      · simp only [Bool.and_eq_true] at h
        exact snd_own A h.1 (sA r A h.2)
      · cases h
    · cases h
theorem sF : ∀ (f : FE) {sc : Scope} {X : Cx} {W : WX} {ex : Expr}, At C D k N sc X xv W → kF C N f sc ex = true → PE X ex (liftF X.K xv W (denF D f))
  | .disp a, sc, X, W, ex, A, h => by
    simp only [kF] at h
    split at h
    · simp only [Bool.and_eq_true] at h
      exact snd_disp h.1 (sA a A h.2)
    · cases h
  | .fop o a, sc, X, W, ex, A, h => by
    simp only [kF] at h
    split at h
    · simp only [Bool.and_eq_true, Bool.or_eq_true, decide_eq_true_eq] at h
      obtain ⟨h1, h2⟩ := h
      rcases h1 with ⟨rfl, h1⟩ | ⟨rfl, h1⟩
      · cases o <;> simp only [isCat, Bool.false_eq_true] at h1
        exact snd_cat (sA a A h2)
      · cases o <;> simp only [isRep, Bool.false_eq_true] at h1
        exact snd_rep (sA a A h2)
    · split at h
      · split at h
        · simp only [Bool.and_eq_true, Bool.not_eq_true'] at h
          obtain ⟨⟨h1, h2⟩, h3⟩ := h
          cases o <;> simp only [isSlcF, Bool.and_eq_true, beq_iff_eq, Bool.false_eq_true] at h2
          obtain ⟨rfl, rfl⟩ := h2
          exact snd_slcL h1 (sA a A h3)
        · rename_i lo hi _ _ _
          simp only [Bool.and_eq_true] at h
          obtain ⟨⟨⟨h1, h2⟩, h3⟩, h4⟩ := h
          cases o <;> simp only [isRevO, Bool.false_eq_true] at h3
          cases lo with
          | some lo => cases h1
          | none =>
            cases hi with
            | some hi => cases h2
            | none =>
              split at h4
              · split at h4
                · simp only [Bool.and_eq_true, decide_eq_true_eq] at h4
                  obtain ⟨rfl, h5⟩ := h4
                  split at h5
                  · simp only [Bool.and_eq_true, decide_eq_true_eq] at h5
                    obtain ⟨rfl, h6⟩ := h5
                    exact snd_revL (sA a A h6)
                  · cases h5
                · cases h4
              · cases h4
      · cases h
    · split at h
      · simp only [Bool.and_eq_true, List.isEmpty_iff] at h
        obtain ⟨rfl, h⟩ := h
        split at h
        · simp only [Bool.and_eq_true, Bool.or_eq_true, decide_eq_true_eq] at h
          obtain ⟨⟨⟨h1, h2⟩, h3⟩, h4⟩ := h
          rcases h1 with ⟨rfl, h1⟩ | ⟨rfl, h1⟩
          · cases o <;> simp only [isListO, Bool.false_eq_true] at h1
            exact snd_listOf A h2 h3 (sA a A h4)
          · cases o <;> simp only [isSortO, Bool.false_eq_true] at h1
            exact snd_sorted A h2 h3 (sA a A h4)
        · cases h
      · cases h
    · cases h
  | .dnk ks a, sc, X, W, ex, A, h => by
    simp only [kF] at h
    split at h
    · split at h
      · simp only [Bool.and_eq_true, List.isEmpty_iff] at h
        obtain ⟨⟨rfl, rfl⟩, h3⟩ := h
        cases a <;> simp only [isNilA, Bool.false_eq_true] at h3
        exact snd_dnk0
      · simp only [Bool.and_eq_true, decide_eq_true_eq] at h
        obtain ⟨⟨⟨h1, h2⟩, h3⟩, h4⟩ := h
        exact snd_dnk (by simp) h1 h2 h3 (sA a A h4)
    · cases h
  | .cut a lo hi, sc, X, W, ex, A, h => by
    simp only [kF] at h
    split at h
    · split at h
      · split at h
        · simp only [Bool.and_eq_true, Option.isNone_iff_eq_none] at h
          obtain ⟨⟨⟨rfl, h1⟩, h2⟩, h3⟩ := h
          exact snd_cutL (sA a A h1) (sE lo A h2).pe (sE hi A h3).pe
        · cases h
      · cases h
    · cases h
  | .lc g own it c e, sc, X, W, ex, A, h => by
    simp only [kF] at h
    split at h
    · split at h
      · simp only [Bool.and_eq_true, decide_eq_true_eq, List.all_eq_true, List.contains_iff_mem] at h
        obtain ⟨⟨⟨⟨⟨⟨⟨rfl, h1⟩, h2⟩, h3⟩, h4⟩, h5⟩, h6⟩, h7⟩ := h
        have hb := blkC_ok h1
        rw [← ownN_snd (N := N) (own := own)]
        refine snd_lc A (sI it A h5) (by rw [A.hN, A.scp]; exact hb) (fun s H Ca cl fp => snd_G (fnc := false) (blkAt A) (fun z => by cases z) g _ h2) (fun s H Ca cl fp => ?_) (fun s H Ca cl fp => (sE e (blkAt A) h7).pe) (by rw [ownN_snd]; exact h4) (notSet_ok h3 _)
        split at h6
        · cases c <;> simp only [isTT, Bool.false_eq_true] at h6
          exact ifs_tt
        · exact ifs_ok (sE c (blkAt A) h6).pt
        · cases h6
      · cases h
    · cases h
  | .lcO g own i c e, sc, X, W, ex, A, h => by
    simp only [kF] at h
    split at h
    · split at h
      · split at h
        · simp only [Bool.and_eq_true, decide_eq_true_eq, List.all_eq_true, List.contains_iff_mem] at h
          obtain ⟨⟨⟨⟨⟨⟨rfl, h1⟩, h2⟩, h3⟩, h4⟩, h6⟩, h7⟩ := h
          have hb := blkC_ok h1
          rw [← ownN_snd (N := N) (own := own)]
          refine snd_lcO A h3 (by rw [A.hN, A.scp]; exact hb) (fun s H Ca cl fp => snd_G (fnc := false) (blkAt A) (fun z => by cases z) g _ h2) (fun s H Ca cl fp => ?_) (fun s H Ca cl fp => (sE e (blkAt A) h7).pe) (by rw [ownN_snd]; exact h4)
          split at h6
          · cases c <;> simp only [isTT, Bool.false_eq_true] at h6
            exact ifs_tt
          · exact ifs_ok (sE c (blkAt A) h6).pt
          · cases h6
        · cases h
      · cases h
    · cases h
  | .lrg it, sc, X, W, ex, A, h => by
    simp only [kF] at h
    split at h
    · split at h
      · split at h
        · simp only [Bool.and_eq_true, List.isEmpty_iff, decide_eq_true_eq] at h
          obtain ⟨⟨⟨rfl, rfl⟩, h1⟩, h2⟩ := h
          exact sL it A h1 h2
        · cases h
      · cases h
    · cases h
  | .dictP a, sc, X, W, ex, A, h => by
    simp only [kF] at h
    split at h
    · split at h
      · split at h
        · simp only [Bool.and_eq_true, List.isEmpty_iff, decide_eq_true_eq] at h
          obtain ⟨⟨⟨⟨rfl, rfl⟩, h1⟩, h2⟩, h3⟩ := h
          exact snd_dictP A h1 h2 (sA a A h3)
        · cases h
      · cases h
    · cases h
  | .sset a, sc, X, W, ex, A, h => by
    simp only [kF] at h
    split at h
    · split at h
      · split at h
        · split at h
          · split at h
            · split at h
              · simp only [Bool.and_eq_true, List.isEmpty_iff, decide_eq_true_eq] at h
                obtain ⟨⟨⟨⟨⟨⟨⟨rfl, rfl⟩, rfl⟩, rfl⟩, h1⟩, h2⟩, h3⟩, h4⟩ := h
                exact snd_sset A h1 h2 h3 (sA a A h4)
              · cases h
            · cases h
          · cases h
        · cases h
      · cases h
    · cases h
  | .sortK f a, sc, X, W, ex, A, h => by
    simp only [kF] at h
    split at h
    · split at h
      · split at h
        · split at h
          · split at h
            · split at h
              · rename_i d hd
                simp only [Bool.and_eq_true, decide_eq_true_eq] at h
                obtain ⟨⟨⟨⟨⟨⟨⟨rfl, rfl⟩, h1⟩, h2⟩, h3⟩, h4⟩, h5⟩, h6⟩ := h
                exact snd_sortKey A h1 hd h2 h3 h4 h5 (sA a A h6)
              · cases h
            · cases h
          · cases h
        · cases h
      · cases h
    · cases h
theorem sL : ∀ (it : I) {sc : Scope} {X : Cx} {W : WX} {y : Expr} {q pos : Pos}, At C D k N sc X xv W → blB C sc "list" = true → kL C N it sc y = true → PE X (.Call (.Name "list" q) [y] [] pos) (liftF X.K xv W (denF D (.lrg it)))
  | .rng1 e, sc, X, W, y, q, pos, A, hx, h => by
    simp only [kL] at h
    split at h
    · split at h
      · split at h
        · simp only [Bool.and_eq_true, List.isEmpty_iff, decide_eq_true_eq] at h
          obtain ⟨⟨⟨⟨rfl, rfl⟩, h1⟩, h2⟩, h3⟩ := h
          exact snd_lrg1 A hx h1 h2 (sE e A h3).pe
        · cases h
      · cases h
    · cases h
  | .rng2 e g, sc, X, W, y, q, pos, A, hx, h => by
    simp only [kL] at h
    split at h
    · split at h
      · split at h
        · simp only [Bool.and_eq_true, List.isEmpty_iff, decide_eq_true_eq] at h
          obtain ⟨⟨⟨⟨⟨rfl, rfl⟩, h1⟩, h2⟩, h3⟩, h4⟩ := h
          exact snd_lrg2 A hx h1 h2 (sE e A h3).pe (sE g A h4).pe
        · cases h
      · cases h
    · cases h
  | .ex _, _, _, _, _, _, _, _, _, h => by simp [kL] at h
  | .rng3 _ _ _, _, _, _, _, _, _, _, _, h => by simp [kL] at h
  | .enum _, _, _, _, _, _, _, _, _, h => by simp [kL] at h
  | .zip _ _, _, _, _, _, _, _, _, _, h => by simp [kL] at h
  | .rev _, _, _, _, _, _, _, _, _, h => by simp [kL] at h
theorem sI : ∀ (it : Py.I) {sc : Scope} {X : Cx} {W : WX} {tg ex : Expr}, At C D k N sc X xv W → kI C N it sc tg ex = true → IOk D X xv W it tg ex
  | .ex e, sc, X, W, tg, ex, A, h => by
    simp only [kI] at h
    exact snd_Iex (sE e A h).pe
  | .rng1 e, sc, X, W, tg, ex, A, h => by
    simp only [kI] at h
    split at h
    · split at h
      · split at h
        · simp only [Bool.and_eq_true, List.isEmpty_iff, decide_eq_true_eq] at h
          obtain ⟨⟨⟨⟨rfl, rfl⟩, h1⟩, h2⟩, h3⟩ := h
          exact snd_rng1 A h1 h2 (sE e A h3).pe
        · cases h
      · cases h
    · cases h
  | .rng2 e g, sc, X, W, tg, ex, A, h => by
    simp only [kI] at h
    split at h
    · split at h
      · split at h
        · simp only [Bool.and_eq_true, List.isEmpty_iff, decide_eq_true_eq] at h
          obtain ⟨⟨⟨⟨⟨rfl, rfl⟩, h1⟩, h2⟩, h3⟩, h4⟩ := h
          exact snd_rng2 A h1 h2 (sE e A h3).pe (sE g A h4).pe
        · cases h
      · cases h
    · cases h
  | .rng3 e g l, sc, X, W, tg, ex, A, h => by
    simp only [kI] at h
    split at h
    · split at h
      · split at h
        · simp only [Bool.and_eq_true, List.isEmpty_iff, decide_eq_true_eq] at h
          obtain ⟨⟨⟨⟨⟨⟨rfl, rfl⟩, h1⟩, h2⟩, h3⟩, h4⟩, h5⟩ := h
          exact snd_rng3 A h1 h2 (sE e A h3).pe (sE g A h4).pe (sE l A h5).pe
        · cases h
      · cases h
    · cases h
  | .enum e, sc, X, W, tg, ex, A, h => by
    simp only [kI] at h
    split at h
    · split at h
      · split at h
        · simp only [Bool.and_eq_true, List.isEmpty_iff, decide_eq_true_eq] at h
          obtain ⟨⟨⟨⟨⟨rfl, ht⟩, rfl⟩, h1⟩, h2⟩, h3⟩ := h
          split at ht
          · exact snd_enum A h1 h2 (sE e A h3).pe
          · cases ht
        · cases h
      · cases h
    · cases h
  | .rev e, sc, X, W, tg, ex, A, h => by
    simp only [kI] at h
    split at h
    · split at h
      · split at h
        · simp only [Bool.and_eq_true, List.isEmpty_iff, decide_eq_true_eq] at h
          obtain ⟨⟨⟨⟨rfl, rfl⟩, h1⟩, h2⟩, h3⟩ := h
          exact snd_rev A h1 h2 (sE e A h3).pe
        · cases h
      · cases h
    · cases h
  | .zip e g, sc, X, W, tg, ex, A, h => by
    simp only [kI] at h
    split at h
    · split at h
      · split at h
        · simp only [Bool.and_eq_true, List.isEmpty_iff, decide_eq_true_eq] at h
          obtain ⟨⟨⟨⟨⟨⟨rfl, ht⟩, rfl⟩, h1⟩, h2⟩, h3⟩, h4⟩ := h
          split at ht
          · exact snd_zip A h1 h2 (sE e A h3).pe (sE g A h4).pe
          · cases ht
        · cases h
      · cases h
    · cases h
end
end
end Py

-- text PyEx
set_option Elab.async false
set_option linter.all false
set_option maxRecDepth 100000
set_option maxHeartbeats 4000000
namespace Py
open PySem PySem.Spec PyProof.Rows L2
/-! ### what an except suite works out -/
/-- the classes that are of the class with the name n -/
def upsB (C : Cfg) (n : Str) (ms : List Nat) : Bool := (List.range C.xs.length).all fun c => (C.xs[c]?.map fun x => x.ups.contains n) == some (ms.contains c)
def fldB (C : Cfg) (f : Str) (ms : List Nat) : Bool := ms.all fun c => (C.xs[c]?.map fun x => x.fld) == some (some f)
def nmI (N : List Str) (sc : Scope) (nm : Option Nat) (y : Str) : Bool := match nm with
  | some i => nmB N sc i y
  | none => false
mutual
def kX (C : Cfg) (N : List Str) (sc : Scope) (nm : Option Nat) : XX → Expr → Bool
  | .cst c, ex => match ex with
    | .Constant k _ _ => cstB c k
    | _ => false
  | .fld ms, ex => match ex with
    | .Attribute o f _ => (match o with
      | .Name y _ => nmI N sc nm y && fldB C f ms
      | _ => false)
    | _ => false
  | .isx ms, ex => match ex with
    | .Call f args kws _ => (match f with
      | .Name x _ => kws.isEmpty && decide (x = ("isinstance" : Str)) && blB C sc x && (match args with
        | [a, b] => (match a, b with
          | .Name y _, .Name n _ => nmI N sc nm y && glB sc n && C.xn.contains n && upsB C n ms
          | _, _ => false)
        | _ => false)
      | _ => false)
    | _ => false
  | .rep e, ex => match ex with
    | .Call f args kws _ => (match f with
      | .Name x _ => kws.isEmpty && decide (x = ("repr" : Str)) && blB C sc x && (match args with
        | [a] => noStar [a] && kX C N sc nm e a
        | _ => false)
      | _ => false)
    | _ => false
  | .lst a, ex => match ex with
    | .List es _ => noStar es && kXs C N sc nm a es
    | _ => false
  | .and2 a b, ex => match ex with
    | .BoolOp op vs pos => (match vs with
      | x :: y :: r => decide (op = .And) && kX C N sc nm a x && (match r with
        | [] => kX C N sc nm b y
        | z :: r => kX C N sc nm b (.BoolOp .And (y :: z :: r) pos))
      | _ => false)
    | _ => false
  | .or2 a b, ex => match ex with
    | .BoolOp op vs pos => (match vs with
      | x :: y :: r => decide (op = .Or) && kX C N sc nm a x && (match r with
        | [] => kX C N sc nm b y
        | z :: r => kX C N sc nm b (.BoolOp .Or (y :: z :: r) pos))
      | _ => false)
    | _ => false
  | .not a, ex => match ex with
    | .UnaryOp u x _ => decide (u = .Not) && kX C N sc nm a x
    | _ => false
  | .eq a b, ex => match ex with
    | .Compare l ops rs _ => (match ops, rs with
      | [op], [r] => decide (op = .Eq) && !behindInMarks op r && kX C N sc nm a l && kX C N sc nm b r
      | _, _ => false)
    | _ => false
  | .ne a b, ex => match ex with
    | .Compare l ops rs _ => (match ops, rs with
      | [op], [r] => decide (op = .NotEq) && !behindInMarks op r && kX C N sc nm a l && kX C N sc nm b r
      | _, _ => false)
    | _ => false
def kXs (C : Cfg) (N : List Str) (sc : Scope) (nm : Option Nat) : XA → List Expr → Bool
  | .nil, es => es.isEmpty
  | .cons e r, es => match es with
    | x :: t => kX C N sc nm e x && kXs C N sc nm r t
    | [] => false
end
/-- where the suite stands: a the exception -/
structure AtX (C : Cfg) (N : List Str) (sc : Scope) (X : Cx) : Prop where
  hN : X.N = N
  nd : N.Nodup
  scp : X.env.scope = sc
  gd : X.A.guards = some []
  un : X.A.units + 100 < cLine
  bl : ∀ x ∈ C.bl, X.mg x = none
  xc : ∀ (c : Nat) (x : XI), C.xs[c]? = some x → ∃ Ca, XCls X.K X.mg C.xn x Ca
section
variable {C : Cfg} {N : List Str} {sc : Scope} {X : Cx} {nm : Option Nat} {a : Addr} {oe : Obj} {cls : Value} {d : Option Addr} {pn : List (Addr × Obj)} {c : Nat} {vs : List MV} {pos : Pos}
def StA (C : Cfg) (X : Cx) (nm : Option Nat) (a : Addr) (cls : Value) (d : Option Addr) (c : Nat) (vs : List MV) (p : Pl) (s : S) (σ : L2.St) (H : Hp) : Prop :=
  p.K = X.K ∧ Sit p s σ H ∧ (∀ i, nm = some i → i < σ.length → σ[i]? = some (some (.ref a))) ∧ xvOf C.xs X.mg p H c vs cls d
def rX (C : Cfg) (X : Cx) (nm : Option Nat) (a : Addr) (cls : Value) (d : Option Addr) (c : Nat) (vs : List MV) (x : MV) : TE := fun σ H Q => ∃ p s, StA C X nm a cls d c vs p s σ H ∧ Cont p s σ H x Q
def rXT (C : Cfg) (X : Cx) (nm : Option Nat) (a : Addr) (cls : Value) (d : Option Addr) (c : Nat) (vs : List MV) (b : Bool) : TT := fun σ H Q => ∃ p s, StA C X nm a cls d c vs p s σ H ∧ ∀ p' H', Stp p H p' H' → Sit p' s σ H' → Q b H'
theorem StA.step {p p' : Pl} {s : S} {σ : L2.St} {H H' : Hp} (h : StA C X nm a cls d c vs p s σ H) (st : Stp p H p' H') (S' : Sit p' s σ H') : StA C X nm a cls d c vs p' s σ H' :=
  ⟨by rw [st.K]; exact h.1, S', h.2.2.1, (xvOf_ok _ _).keep h.2.1.hr.muOk st h.2.2.2⟩
structure SnX (C : Cfg) (X : Cx) (a : Addr) (oe : Obj) (pn : List (Addr × Obj)) (nm : Option Nat) (cls : Value) (d : Option Addr) (c : Nat) (vs : List MV) (ex : Expr) (x : MV) : Prop where
  pe : PE (X.suite a ((a, oe) :: pn)) ex (rX C X nm a cls d c vs x)
  pt : ∀ b, x = .bl b → PT (X.suite a ((a, oe) :: pn)) ex (rXT C X nm a cls d c vs b)
  pw : isBO ex = true → ∀ b, x = .bl b → PW (X.suite a ((a, oe) :: pn)) ex (rXT C X nm a cls d c vs b)
theorem SnX.tru {ex : Expr} {x : MV} (hp : plainT ex = true) (h : PE (X.suite a ((a, oe) :: pn)) ex (rX C X nm a cls d c vs x)) : SnX C X a oe pn nm cls d c vs ex x := by
  refine ⟨h, fun b e => ?_, fun hb => ?_⟩
  · subst e
    refine PT.imp (pt_truth h fun whole => ?_) fun σ H Q ⟨p, s, h1, h2⟩ => ?_
    · cases ex <;> first | rfl | (simp [plainT] at hp; done) | skip
      rename_i u x q
      cases u <;> first | rfl | (simp [plainT] at hp)
    · refine ⟨p, s, h1, fun v p' H' st S' rv => ?_⟩
      have hv : v = .bl b := by simpa [RV] using rv
      subst hv
      exact ⟨b, rfl, h2 p' H' st S'⟩
  · cases ex <;> simp [isBO, plainT] at hb hp
/-! the rules -/
section
variable (A : AtX C N sc X) (hz : Zc cls d oe) (hf : ∃ vs, oe.data = .fields vs)
theorem AtX.nm' {i : Nat} {y : Str} (A : AtX C N sc X) (h : nmB N sc i y = true) : X.N[i]? = some y ∧ Vis X.env.scope y ∧ (y == ("__debug__" : Str)) = false ∧ (y == ("__classdict__" : Str)) = false := by
  unfold nmB at h
  simp only [Bool.and_eq_true, decide_eq_true_eq, Bool.not_eq_true'] at h
  obtain ⟨⟨⟨h1, h2⟩, h3⟩, h4⟩ := h
  refine ⟨by rw [A.hN]; exact h1, ?_, h3, h4⟩
  rw [A.scp]
  unfold visB at h2
  split at h2
  · exact .inl (by assumption)
  · exact .inr (.inl (by assumption))
  · exact .inr (.inr (by assumption))
  · cases h2
theorem AtX.gl (A : AtX C N sc X) {x : Str} (h : glB sc x = true) : Gl X x ∧ (x == ("__debug__" : Str)) = false := by
  unfold glB at h
  simp only [Bool.and_eq_true, decide_eq_true_eq, Bool.not_eq_true'] at h
  refine ⟨?_, h.2⟩
  show X.env.scope.names.lookup x = _
  rw [A.scp]; exact h.1
theorem AtX.blt (A : AtX C N sc X) {x : Str} (h : blB C sc x = true) : Gl X x ∧ (x == ("__debug__" : Str)) = false ∧ X.mg x = none ∧ x ≠ "__name__" := by
  unfold blB at h
  simp only [Bool.and_eq_true, Bool.not_eq_true'] at h
  obtain ⟨⟨h1, h2⟩, h3⟩ := h
  obtain ⟨g1, g2⟩ := A.gl h1
  exact ⟨g1, g2, A.bl x (by simpa using h2), fun e => by subst e; simp at h3⟩
include A
theorem x_nm {y : Str} {q : Pos} (h : nmI N sc nm y = true) : PE (X.suite a ((a, oe) :: pn)) (.Name y q) (fun σ H Q => ∃ p s, StA C X nm a cls d c vs p s σ H ∧ Q (.ref a) H) := by
  unfold nmI at h
  split at h
  · rename_i i
    obtain ⟨h1, h2, h3, h4⟩ := A.nm' h
    exact ⟨fun pins s0 σ H Q I ⟨p, s, st, q⟩ => (pe_var (X := X.suite a ((a, oe) :: pn)) h1 h2 h3 h4).run pins s0 σ H Q I ⟨.ref a, st.2.2.1 i rfl (by rw [I.len]; exact (List.getElem?_eq_some_iff.mp h1).1), q⟩⟩
  · cases h
theorem x_cst {v : MV} {k : Const} {j : Nat} (h : cstB v k = true) : SnX C X a oe pn nm cls d c vs (.Constant k j pos) v := by
  have key : ∀ {w : V}, PE (X.suite a ((a, oe) :: pn)) (.Constant k j pos) (tC w) → (∀ p H, RV p H v w) → SnX C X a oe pn nm cls d c vs (.Constant k j pos) v := fun {w} hp hr =>
    .tru rfl (PE.imp hp fun σ H Q ⟨p, s, st, q⟩ => q w p H (Stp.refl p H) st.2.1 (hr p H))
  cases v <;> cases k <;> simp only [cstB, beq_iff_eq, decide_eq_true_eq, reduceCtorEq] at h
  · exact key pe_non fun p H => by simp [RV]
  · subst h; exact key pe_bl fun p H => by simp [RV]
  · subst h; exact key pe_int fun p H => by simp [RV]
  · subst h; exact key pe_str fun p H => by simp [RV]
theorem x_cls {x : XI} {Ca : Addr} (hx : C.xs[c]? = some x) (hm : X.mg x.nm = some (.ref Ca)) : XCls X.K X.mg C.xn x Ca := by
  obtain ⟨Cb, T⟩ := A.xc c x hx
  have := T.gC
  rw [hm] at this
  cases this
  exact T
include hz hf
theorem x_fld {y f : Str} {q : Pos} {ms : List Nat} {v : MV} (h1 : nmI N sc nm y = true) (h2 : fldB C f ms = true) (hc : ms.contains c = true) (hv : vs[0]? = some v) :
    SnX C X a oe pn nm cls d c vs (.Attribute (.Name y q) f pos) v := by
  refine .tru rfl ⟨fun pins s0 σ H Q I ⟨p, s, st, hq⟩ => ?_⟩
  obtain ⟨x, Ca, g1, g2, g3, g4⟩ := st.2.2.2
  have T := x_cls A g1 g2
  have hfx : x.fld = some f := by
    have := List.all_eq_true.mp h2 c (by simpa using hc)
    rw [g1] at this
    simpa using this
  rw [hfx] at g4
  obtain ⟨dd, w, y', e1, e2, e3, e4⟩ := g4
  rw [e2] at hv
  have hv' : y' = v := by simpa using hv
  subst hv'
  exact (pe_xf (C := Ca) T.xf (T.no f hfx) hz hf (x_nm (c := c) (vs := vs) (d := d) (cls := cls) (nm := nm) (pn := pn) (oe := oe) (a := a) A h1)).run pins s0 σ H Q I ⟨p, s, st, rfl, g3, dd, [(f, w)], w, e1, e3, by simp [List.lookup], hq w p H (Stp.refl p H) st.2.1 e4⟩
theorem x_isx {y n : Str} {q q2 q3 : Pos} {ms : List Nat} (hb : blB C sc "isinstance" = true) (h1 : nmI N sc nm y = true) (hg : glB sc n = true) (hn : n ∈ C.xn) (hu : upsB C n ms = true) :
    SnX C X a oe pn nm cls d c vs (.Call (.Name "isinstance" q) [.Name y q2, .Name n q3] [] pos) (.bl (ms.contains c)) := by
  refine .tru rfl ⟨fun pins s0 σ H Q I ⟨p, s, st, hq⟩ => ?_⟩
  obtain ⟨x, Ca, g1, g2, g3, g4⟩ := st.2.2.2
  have T := x_cls A g1 g2
  obtain ⟨cv, v, k1, k2, k3, k4⟩ := T.ask n hn
  have hms : x.ups.contains n = ms.contains c := by
    have := List.all_eq_true.mp hu c (by rw [List.mem_range]; exact (List.getElem?_eq_some_iff.mp g1).1)
    rw [g1] at this
    simpa using this
  rw [hms] at k4
  obtain ⟨b1, b2, b3, b4⟩ := A.blt hb
  obtain ⟨n1, n2⟩ := A.gl hg
  have rel : RelV cv v := by cases k1 <;> rfl
  have pc : PE (X.suite a ((a, oe) :: pn)) (.Name n q3) (tC cv) := by
    rcases k2 with hm | ⟨hm, hv, hne⟩
    · exact pe_glob n1 hm rel n2
    · exact pe_bltn n1 hm hv rel hne n2
  have call : CallR (X.suite a ((a, oe) :: pn)) (.builtin "isinstance") (fun xs H Q => xs = [.ref a, cv] ∧ (∀ dd, d = some dd → ∃ fs, H dd = some (.xd fs)) ∧ Q (.bl (ms.contains c)) H) := by
    intro pins s σ H xs us Q I r ⟨e, hd, q⟩
    subst e
    cases r with
    | cons rx rr =>
      cases rr with
      | cons rt rr =>
        cases rr
        cases rx
        have ec := k1.eq rt
        subst ec
        obtain ⟨hget, _⟩ := I.pin (a, oe) (List.mem_append.mpr (.inl List.mem_cons_self))
        obtain ⟨fv, hv⟩ := hf
        obtain ⟨od, J⟩ : ∃ od, PySem.W.InstAt s.heap a oe Ca od := by
          cases d with
          | none => exact ⟨none, hget, by rw [hz.1, g3], by unfold PySem.W.notCls; rw [hv] <;> rfl, by rw [hz.2]; trivial⟩
          | some dd =>
            obtain ⟨fs, ed⟩ := hd dd rfl
            have hx : ObjOk X.prog X.w H s.heap dd (.xd fs) := I.hok dd _ ed
            obtain ⟨mA, hns, hr⟩ := hx
            obtain ⟨od, ho, hl⟩ := lookIn_ns hns
            exact ⟨some od, hget, by rw [hz.1, g3], by unfold PySem.W.notCls; rw [hv] <;> rfl, by rw [hz.2]; exact ho⟩
        obtain ⟨cd, hcl, _⟩ := PySem.W.any_some T.ec.hd
        exact PySem.W.kia_one (PySem.W.kitx_exc (x := a) (ox := oe) (od := od) (by rw [hcl]; rfl) T.ec.hg T.ec.hk T.ec.hs T.ec.ha T.ec.hn T.ec.ht T.ec.hm) I.kIn J k4 (fun z => nomatch z) fun tk => ⟨.bl _, H, I.kept (t' := tk) fun _ _ z => z, rfl, q⟩
  have pp : PA (X.suite a ((a, oe) :: pn)) [.Name y q2, .Name n q3] _ := pa_cons (x_nm (c := c) (vs := vs) (d := d) (cls := cls) (nm := nm) (pn := pn) (oe := oe) (a := a) A h1) (pa_cons pc pa_nil)
  exact (pe_callB (pos := pos) (p := q) call b1 b3 (by decide +kernel) pp b4 b2).run pins s0 σ H Q I ⟨p, s, st, rfl, fun dd e => (by
    split at g4
    · rw [g4.2] at e; cases e
    · obtain ⟨dd', w, y', e1, e2, e3, e4⟩ := g4
      rw [e1] at e; cases e
      exact ⟨_, e3⟩), hq _ p H (Stp.refl p H) st.2.1 (by simp [RV])⟩
omit hz hf
theorem AtX.gd' (A : AtX C N sc X) : (X.suite a ((a, oe) :: pn)).A.guards = some [] := A.gd
theorem x_rep {e : Expr} {x y : MV} {q : Pos} (hb : blB C sc "repr" = true) (ns : noStar [e] = true) (h : SnX C X a oe pn nm cls d c vs e x) (hr : reprV x = some y) : SnX C X a oe pn nm cls d c vs (.Call (.Name "repr" q) [e] [] pos) y := by
  obtain ⟨b1, b2, b3, b4⟩ := A.blt hb
  obtain ⟨s1, s2⟩ := star_cons (X.suite a ((a, oe) :: pn)).env ns
  have hc : CallR (X.suite a ((a, oe) :: pn)) (.builtin "repr") (rCall X.K .repr) := (call_reprD (X := X.suite a ((a, oe) :: pn)) A.gd (by have := A.un; show X.A.units + _ < _; omega)).or (call_reprR (X := X.suite a ((a, oe) :: pn)) A.gd (by have := A.un; show X.A.units + _ < _; omega))
  refine .tru rfl (PE.imp (pe_callB hc b1 b3 (by decide +kernel) (pa_cons h.pe pa_nil s1) b4 b2 s1 (noStar_any _ _ s2)) fun σ H Q ⟨p, s, st, q⟩ => ⟨p, s, st, fun v p' H' st' S' rv => ?_⟩)
  have K' : p'.K = X.K := by rw [st'.K]; exact st.1
  rw [← K']
  exact core_call (o := .repr) (xs := [x]) rfl S' ⟨v, [], rfl, rv.weak, rfl⟩ (show opV .repr [x] = some y from hr) fun w p2 H2 st2 S2 rw2 => q w p2 H2 (st'.trans st2) S2 rw2
theorem x_cmp {l r : Expr} {x y z : MV} {cp : COp} {op : CmpOp} (ho : cop (.cmp cp) = some op) (hm : behindInMarks op r = false) (h1 : SnX C X a oe pn nm cls d c vs l x) (h2 : SnX C X a oe pn nm cls d c vs r y) (he : cmpV cp x y = some z) :
    SnX C X a oe pn nm cls d c vs (.Compare l [op] [r] pos) z := by
  have hop : OpR (X.suite a ((a, oe) :: pn)) (compareOp op) (rCmp X.K (.cmp cp)) := opr_cmp (by have := A.un; show X.A.units + _ < _; omega) ho
  have src : ∀ σ H Q, rX C X nm a cls d c vs z σ H Q → tOp (rCmp X.K (.cmp cp)) (rX C X nm a cls d c vs x) (rX C X nm a cls d c vs y) σ H Q := fun σ H Q ⟨p, s, st, q⟩ => by
    refine ⟨p, s, st, fun v p1 H1 st1 S1 rv1 => ⟨p1, s, st.step st1 S1, fun w p2 H2 st2 S2 rv2 => ?_⟩⟩
    have K' : p2.K = X.K := by rw [st2.K, st1.K]; exact st.1
    rw [← K']
    exact (core_cmp (o := .cmp cp) (xs := [x, y]) ho S2 ⟨v, [w], rfl, (RV.keep S1.hr st2 x v rv1).weak, w, [], rfl, rv2.weak, rfl⟩ (show opV (.cmp cp) [x, y] = some z from he) fun u p3 H3 st3 S3 rv3 => q u p3 H3 ((st1.trans st2).trans st3) S3 rv3).1
  refine ⟨PE.imp (pe_cmpR hop h1.pe h2.pe hm) src, fun b e => ?_, fun hb => by simp [isBO] at hb⟩
  subst e
  refine PT.imp (pt_cmpR hop h1.pe h2.pe hm) fun σ H Q ⟨p, s, st, q⟩ => src σ H _ ⟨p, s, st, fun v p' H' st' S' rv => ?_⟩
  have hv : v = .bl b := by simpa [RV] using rv
  subst hv
  exact ⟨b, rfl, q p' H' st' S'⟩
omit A
theorem x_not {e : Expr} {b : Bool} (h : SnX C X a oe pn nm cls d c vs e (.bl b)) : SnX C X a oe pn nm cls d c vs (.UnaryOp .Not e pos) (.bl (!b)) := by
  refine ⟨PE.imp (pe_not h.pe) fun σ H Q ⟨p, s, st, q⟩ => ⟨p, s, st, fun v p' H' st' S' rv => ?_⟩, fun b' e => ?_, fun hb => by simp [isBO] at hb⟩
  · have hv : v = .bl b := by simpa [RV] using rv
    subst hv
    exact ⟨b, rfl, q _ p' H' st' S' (by simp [RV])⟩
  · have e' : b' = !b := by simpa using e.symm
    subst e'
    exact PT.imp (pt_not (h.pt b rfl)) fun σ H Q ⟨p, s, st, q⟩ => ⟨p, s, st, q⟩
theorem x_and {x y : Expr} {r : List Expr} {b : Bool} {z : MV} (h1 : SnX C X a oe pn nm cls d c vs x (.bl b)) (h2 : b = true → SnX C X a oe pn nm cls d c vs (.BoolOp .And (y :: r) pos) z) (hz : b = false → z = .bl false) :
    SnX C X a oe pn nm cls d c vs (.BoolOp .And (x :: y :: r) pos) z := by
  have pw : ∀ b', z = .bl b' → PW (X.suite a ((a, oe) :: pn)) (.BoolOp .And (x :: y :: r) pos) (rXT C X nm a cls d c vs b') := fun b' e => by
    cases b with
    | true =>
      have h := pw_and (pos := pos) (h1.pt true rfl) ((h2 rfl).pw rfl b' e)
      exact ⟨fun whole pins s σ H Q I ⟨p, z, st, q⟩ => h.run whole pins s σ H Q I ⟨p, z, st, fun p' H' st' S' => ⟨p', z, st.step st' S', fun p2 H2 st2 S2 => q p2 H2 (st'.trans st2) S2⟩⟩⟩
    | false =>
      have := hz rfl
      rw [this] at e
      have e' : b' = false := by simpa using e.symm
      subst e'
      have ht : PW (X.suite a ((a, oe) :: pn)) (.BoolOp .And (y :: r) pos) (fun _ _ _ => False) := ⟨fun _ _ _ _ _ _ _ h => h.elim⟩
      have h := pw_and (pos := pos) (h1.pt false rfl) ht
      exact ⟨fun whole pins s σ H Q I ⟨p, z, st, q⟩ => h.run whole pins s σ H Q I ⟨p, z, st, fun p' H' st' S' => q p' H' st' S'⟩⟩
  refine ⟨?_, fun b' e => (pw b' e).pt, fun _ => pw⟩
  cases b with
  | true =>
    refine PE.imp (pe_and h1.pe (h2 rfl).pe) fun σ H Q ⟨p, s, st, q⟩ => ⟨p, s, st, fun v p' H' st' S' rv => ?_⟩
    have hv : v = .bl true := by simpa [RV] using rv
    subst hv
    exact ⟨true, rfl, p', s, st.step st' S', fun w p2 H2 st2 S2 rv2 => q w p2 H2 (st'.trans st2) S2 rv2⟩
  | false =>
    have := hz rfl
    subst this
    have ht : PE (X.suite a ((a, oe) :: pn)) (.BoolOp .And (y :: r) pos) (fun _ _ _ => False) := ⟨fun _ _ _ _ _ _ h => h.elim⟩
    refine PE.imp (pe_and h1.pe ht) fun σ H Q ⟨p, s, st, q⟩ => ⟨p, s, st, fun v p' H' st' S' rv => ?_⟩
    have hv : v = .bl false := by simpa [RV] using rv
    subst hv
    exact ⟨false, rfl, q _ p' H' st' S' (by simp [RV])⟩
theorem x_or {x y : Expr} {r : List Expr} {b : Bool} {z : MV} (h1 : SnX C X a oe pn nm cls d c vs x (.bl b)) (h2 : b = false → SnX C X a oe pn nm cls d c vs (.BoolOp .Or (y :: r) pos) z) (hz : b = true → z = .bl true) :
    SnX C X a oe pn nm cls d c vs (.BoolOp .Or (x :: y :: r) pos) z := by
  have pw : ∀ b', z = .bl b' → PW (X.suite a ((a, oe) :: pn)) (.BoolOp .Or (x :: y :: r) pos) (rXT C X nm a cls d c vs b') := fun b' e => by
    cases b with
    | false =>
      have h := pw_or (pos := pos) (h1.pt false rfl) ((h2 rfl).pw rfl b' e)
      exact ⟨fun whole pins s σ H Q I ⟨p, z, st, q⟩ => h.run whole pins s σ H Q I ⟨p, z, st, fun p' H' st' S' => ⟨p', z, st.step st' S', fun p2 H2 st2 S2 => q p2 H2 (st'.trans st2) S2⟩⟩⟩
    | true =>
      have := hz rfl
      rw [this] at e
      have e' : b' = true := by simpa using e.symm
      subst e'
      have ht : PW (X.suite a ((a, oe) :: pn)) (.BoolOp .Or (y :: r) pos) (fun _ _ _ => False) := ⟨fun _ _ _ _ _ _ _ h => h.elim⟩
      have h := pw_or (pos := pos) (h1.pt true rfl) ht
      exact ⟨fun whole pins s σ H Q I ⟨p, z, st, q⟩ => h.run whole pins s σ H Q I ⟨p, z, st, fun p' H' st' S' => q p' H' st' S'⟩⟩
  refine ⟨?_, fun b' e => (pw b' e).pt, fun _ => pw⟩
  cases b with
  | false =>
    refine PE.imp (pe_or h1.pe (h2 rfl).pe) fun σ H Q ⟨p, s, st, q⟩ => ⟨p, s, st, fun v p' H' st' S' rv => ?_⟩
    have hv : v = .bl false := by simpa [RV] using rv
    subst hv
    exact ⟨false, rfl, p', s, st.step st' S', fun w p2 H2 st2 S2 rv2 => q w p2 H2 (st'.trans st2) S2 rv2⟩
  | true =>
    have := hz rfl
    subst this
    have ht : PE (X.suite a ((a, oe) :: pn)) (.BoolOp .Or (y :: r) pos) (fun _ _ _ => False) := ⟨fun _ _ _ _ _ _ h => h.elim⟩
    refine PE.imp (pe_or h1.pe ht) fun σ H Q ⟨p, s, st, q⟩ => ⟨p, s, st, fun v p' H' st' S' rv => ?_⟩
    have hv : v = .bl true := by simpa [RV] using rv
    subst hv
    exact ⟨true, rfl, q _ p' H' st' S' (by simp [RV])⟩
theorem SnX.one {op : BoolOp} {x : Expr} {z : MV} (h : SnX C X a oe pn nm cls d c vs x z) (hand : op = .And ∨ op = .Or) : SnX C X a oe pn nm cls d c vs (.BoolOp op [x] pos) z := by
  rcases hand with rfl | rfl
  · exact ⟨pe_one h.pe, fun b e => (pw_and1 (h.pt b e)).pt, fun _ b e => pw_and1 (h.pt b e)⟩
  · exact ⟨pe_one h.pe, fun b e => (pw_or1 (h.pt b e)).pt, fun _ b e => pw_or1 (h.pt b e)⟩
theorem x_ite {t x y : Expr} {b : Bool} {z : MV} (h1 : SnX C X a oe pn nm cls d c vs t (.bl b)) (h2 : b = true → SnX C X a oe pn nm cls d c vs x z) (h3 : b = false → SnX C X a oe pn nm cls d c vs y z) : PE (X.suite a ((a, oe) :: pn)) (.IfExp t x y pos) (rX C X nm a cls d c vs z) := by
  have no : ∀ e, PE (X.suite a ((a, oe) :: pn)) e (fun _ _ _ => False) := fun e => ⟨fun _ _ _ _ _ _ h => h.elim⟩
  cases b with
  | true =>
    refine PE.imp (pe_ifExp (h1.pt true rfl) (h2 rfl).pe (no y)) fun σ H Q ⟨p, s, st, q⟩ => ⟨p, s, st, fun p' H' st' S' => ?_⟩
    exact ⟨p', s, st.step st' S', fun w p2 H2 st2 S2 rv2 => q w p2 H2 (st'.trans st2) S2 rv2⟩
  | false =>
    refine PE.imp (pe_ifExp (h1.pt false rfl) (no x) (h3 rfl).pe) fun σ H Q ⟨p, s, st, q⟩ => ⟨p, s, st, fun p' H' st' S' => ?_⟩
    exact ⟨p', s, st.step st' S', fun w p2 H2 st2 S2 rv2 => q w p2 H2 (st'.trans st2) S2 rv2⟩
/-- a row of them -/
def SnXs (C : Cfg) (X : Cx) (a : Addr) (oe : Obj) (pn : List (Addr × Obj)) (nm : Option Nat) (cls : Value) (d : Option Addr) (c : Nat) (vs : List MV) (es : List Expr) (xs : List MV) : Prop :=
  ∃ ts, PEs (X.suite a ((a, oe) :: pn)) es ts ∧ ∀ (σ : L2.St) (H : Hp) (Q : List V → Hp → Prop) p s, StA C X nm a cls d c vs p s σ H → (∀ ws p' H', Stp p H p' H' → Sit p' s σ H' → RVs p' H' xs ws → Q ws H') → seqT ts σ H Q
theorem xs_nil : SnXs C X a oe pn nm cls d c vs [] [] := ⟨[], .nil, fun σ H Q p s st q => q [] p H (Stp.refl p H) st.2.1 .nil⟩
theorem xs_cons {e : Expr} {es : List Expr} {x : MV} {xs : List MV} (h1 : SnX C X a oe pn nm cls d c vs e x) (h2 : SnXs C X a oe pn nm cls d c vs es xs) : SnXs C X a oe pn nm cls d c vs (e :: es) (x :: xs) := by
  obtain ⟨ts, hp, hi⟩ := h2
  refine ⟨_, .cons h1.pe hp, fun σ H Q p s st q => ⟨p, s, st, fun v p1 H1 st1 S1 rv1 => ?_⟩⟩
  exact hi σ H1 _ p1 s (st.step st1 S1) fun ws p2 H2 st2 S2 rv2 => q (v :: ws) p2 H2 (st1.trans st2) S2 (.cons (RV.keep S1.hr st2 x v rv1) rv2)
theorem x_lst {es : List Expr} {xs : List MV} (ns : noStar es = true) (h : SnXs C X a oe pn nm cls d c vs es xs) (hl : xs.length ≤ sizeLine) : SnX C X a oe pn nm cls d c vs (.List es pos) (.lst xs) := by
  obtain ⟨ts, hp, hi⟩ := h
  refine .tru rfl (PE.imp (pe_lst (hp.pa ns)) fun σ H Q ⟨p, s, st, q⟩ => hi σ H _ p s st fun ws p' H' st' S' rv => ⟨by rw [rv.len]; exact hl, fun b hb => ?_⟩)
  refine q _ p' _ (st'.trans (Stp.new hb)) (S'.new hb) ?_
  obtain ⟨n1, n2, n3⟩ := S'.hr.fresh hb
  simp only [RV]
  exact ⟨b, ws, rfl, ⟨upd_same, n1, n2, n3⟩, RVs.keep S'.hr (Stp.new hb) xs ws rv⟩
end
end
section
variable {C : Cfg} {N : List Str} {sc : Scope} {X : Cx} {nm : Option Nat} {a : Addr} {oe : Obj} {cls : Value} {d : Option Addr} {pn : List (Addr × Obj)} {c : Nat} {vs : List MV} {pos : Pos}
theorem bl_some {o : Option MV} {f : Bool → Option MV} {z : MV} (h : ((o.bind bl?).bind f) = some z) : ∃ b, o = some (.bl b) ∧ f b = some z := by
  obtain ⟨b, h1, h2⟩ := Option.bind_eq_some_iff.mp h
  obtain ⟨x, h3, h4⟩ := Option.bind_eq_some_iff.mp h1
  cases x <;> simp only [bl?, reduceCtorEq, Option.some.injEq] at h4
  subst h4
  exact ⟨_, h3, h2⟩
mutual
theorem sX (A : AtX C N sc X) (hz : Zc cls d oe) (hf : ∃ vs, oe.data = .fields vs) : ∀ (e : XX) {ex : Expr} {x : MV}, kX C N sc nm e ex = true → valX c vs e = some x → SnX C X a oe pn nm cls d c vs ex x
  | .cst v, ex, x, h, hv => by
    simp only [kX] at h
    split at h
    · simp only [valX, Option.some.injEq] at hv; subst hv; exact x_cst A h
    · cases h
  | .fld ms, ex, x, h, hv => by
    simp only [kX] at h
    split at h
    · split at h
      · simp only [Bool.and_eq_true] at h
        simp only [valX] at hv
        split at hv
        · rename_i hc; exact x_fld A hz hf h.1 h.2 hc hv
        · cases hv
      · cases h
    · cases h
  | .isx ms, ex, x, h, hv => by
    simp only [kX] at h
    split at h
    · split at h
      · simp only [Bool.and_eq_true, List.isEmpty_iff, decide_eq_true_eq] at h
        obtain ⟨⟨⟨rfl, rfl⟩, h3⟩, h⟩ := h
        split at h
        · split at h
          · simp only [Bool.and_eq_true, List.contains_iff_mem] at h
            obtain ⟨⟨⟨h4, h5⟩, h6⟩, h7⟩ := h
            simp only [valX, Option.some.injEq] at hv
            subst hv
            exact x_isx A hz hf h3 h4 h5 h6 h7
          · cases h
        · cases h
      · cases h
    · cases h
  | .rep e, ex, x, h, hv => by
    simp only [kX] at h
    split at h
    · split at h
      · simp only [Bool.and_eq_true, List.isEmpty_iff, decide_eq_true_eq] at h
        obtain ⟨⟨⟨rfl, rfl⟩, h3⟩, h⟩ := h
        split at h
        · simp only [Bool.and_eq_true] at h
          simp only [valX] at hv
          obtain ⟨y, e1, e2⟩ := Option.bind_eq_some_iff.mp hv
          exact x_rep A h3 h.1 (sX A hz hf e h.2 e1) e2
        · cases h
      · cases h
    · cases h
  | .lst l, ex, x, h, hv => by
    simp only [kX] at h
    split at h
    · simp only [Bool.and_eq_true] at h
      simp only [valX] at hv
      obtain ⟨xs, e1, e2⟩ := Option.bind_eq_some_iff.mp hv
      split at e2
      · rename_i hl
        simp only [Option.some.injEq] at e2
        subst e2
        exact x_lst h.1 (sXs A hz hf l h.2 e1) hl
      · cases e2
    · cases h
  | .and2 e1 e2, ex, x, h, hv => by
    simp only [kX] at h
    split at h
    · split at h
      · simp only [Bool.and_eq_true, decide_eq_true_eq] at h
        obtain ⟨⟨rfl, h1⟩, h2⟩ := h
        simp only [valX] at hv
        obtain ⟨b, g1, g2⟩ := bl_some hv
        refine x_and (sX A hz hf e1 h1 g1) (fun hb => ?_) (fun hb => ?_)
        · subst hb
          simp only [if_true] at g2
          split at h2
          · exact (sX A hz hf e2 h2 g2).one (.inl rfl)
          · exact sX A hz hf e2 h2 g2
        · subst hb
          simp only [Bool.false_eq_true, if_false, Option.some.injEq] at g2
          exact g2.symm
      · cases h
    · cases h
  | .or2 e1 e2, ex, x, h, hv => by
    simp only [kX] at h
    split at h
    · split at h
      · simp only [Bool.and_eq_true, decide_eq_true_eq] at h
        obtain ⟨⟨rfl, h1⟩, h2⟩ := h
        simp only [valX] at hv
        obtain ⟨b, g1, g2⟩ := bl_some hv
        refine x_or (sX A hz hf e1 h1 g1) (fun hb => ?_) (fun hb => ?_)
        · subst hb
          simp only [Bool.false_eq_true, if_false] at g2
          split at h2
          · exact (sX A hz hf e2 h2 g2).one (.inr rfl)
          · exact sX A hz hf e2 h2 g2
        · subst hb
          simp only [if_true, Option.some.injEq] at g2
          exact g2.symm
      · cases h
    · cases h
  | .not e, ex, x, h, hv => by
    simp only [kX] at h
    split at h
    · simp only [Bool.and_eq_true, decide_eq_true_eq] at h
      obtain ⟨rfl, h1⟩ := h
      simp only [valX] at hv
      obtain ⟨b, g1, rfl⟩ := Option.map_eq_some_iff.mp hv
      obtain ⟨y, g2, g3⟩ := Option.bind_eq_some_iff.mp g1
      cases y <;> simp only [bl?, reduceCtorEq, Option.some.injEq] at g3
      subst g3
      exact x_not (sX A hz hf e h1 g2)
    · cases h
  | .eq e1 e2, ex, x, h, hv => by
    simp only [kX] at h
    split at h
    · split at h
      · simp only [Bool.and_eq_true, decide_eq_true_eq, Bool.not_eq_true'] at h
        obtain ⟨⟨⟨rfl, h0⟩, h1⟩, h2⟩ := h
        simp only [valX] at hv
        obtain ⟨y, g1, hv⟩ := Option.bind_eq_some_iff.mp hv
        obtain ⟨z, g2, hv⟩ := Option.bind_eq_some_iff.mp hv
        exact x_cmp A rfl h0 (sX A hz hf e1 h1 g1) (sX A hz hf e2 h2 g2) hv
      · cases h
    · cases h
  | .ne e1 e2, ex, x, h, hv => by
    simp only [kX] at h
    split at h
    · split at h
      · simp only [Bool.and_eq_true, decide_eq_true_eq, Bool.not_eq_true'] at h
        obtain ⟨⟨⟨rfl, h0⟩, h1⟩, h2⟩ := h
        simp only [valX] at hv
        obtain ⟨y, g1, hv⟩ := Option.bind_eq_some_iff.mp hv
        obtain ⟨z, g2, hv⟩ := Option.bind_eq_some_iff.mp hv
        exact x_cmp A rfl h0 (sX A hz hf e1 h1 g1) (sX A hz hf e2 h2 g2) hv
      · cases h
    · cases h
theorem sXs (A : AtX C N sc X) (hz : Zc cls d oe) (hf : ∃ vs, oe.data = .fields vs) : ∀ (l : XA) {es : List Expr} {xs : List MV}, kXs C N sc nm l es = true → valXs c vs l = some xs → SnXs C X a oe pn nm cls d c vs es xs
  | .nil, es, xs, h, hv => by
    simp only [kXs, List.isEmpty_iff] at h
    simp only [valXs, Option.some.injEq] at hv
    subst h hv
    exact xs_nil
  | .cons e r, es, xs, h, hv => by
    simp only [kXs] at h
    split at h
    · simp only [Bool.and_eq_true] at h
      simp only [valXs] at hv
      obtain ⟨y, g1, hv⟩ := Option.bind_eq_some_iff.mp hv
      obtain ⟨ys, g2, rfl⟩ := Option.map_eq_some_iff.mp hv
      exact xs_cons (sX A hz hf e h.1 g1) (sXs A hz hf r h.2 g2)
    · cases h
end
/-! the suite's statements -/
def kSX (C : Cfg) (N : List Str) (sc : Scope) (nm : Option Nat) : SX → List Stmt → Bool
  | .ret e, sts => match sts with
    | [st] => (match st with
      | .Return v _ => (match v with
        | some v => kX C N sc nm e v
        | none => false)
      | _ => false)
    | _ => false
  | .retI t x y, sts => match sts with
    | [st] => (match st with
      | .Return v _ => (match v with
        | some v => (match v with
          | .IfExp et ex ey _ => kX C N sc nm t et && kX C N sc nm x ex && kX C N sc nm y ey
          | _ => false)
        | none => false)
      | _ => false)
    | _ => false
  | .ifr t e r, sts => match sts with
    | st :: rest => (match st with
      | .If et b els _ => els.isEmpty && kX C N sc nm t et && (match b with
        | [.Return (some v) _] => kX C N sc nm e v && kSX C N sc nm r rest
        | _ => false)
      | _ => false)
    | [] => false
  | .fall, sts => match sts with
    | [] => true
    | [st] => (match st with
      | .Pass _ => true
      | _ => false)
    | _ => false
/-- the reading of a suite -/
def rS (C : Cfg) (X : Cx) (nm : Option Nat) (a : Addr) (cls : Value) (d : Option Addr) (c : Nat) (vs : List MV) (m : M Fl) : TS := fun T σ H => ∃ p s, StA C X nm a cls d c vs p s σ H ∧ match m s with
  | .ok .nx _ => ∀ p' H', Stp p H p' H' → Sit p' s σ H' → T.nx σ H'
  | .ok (.rt x) _ => Cont p s σ H x fun v H' => T.rt v H'
  | _ => False
theorem sSX (A : AtX C N sc X) (hz : Zc cls d oe) (hf : ∃ vs, oe.data = .fields vs) : ∀ (e : SX) {sts : List Stmt}, kSX C N sc nm e sts = true → PSs (X.suite a ((a, oe) :: pn)) sts (rS C X nm a cls d c vs (denSX c vs e))
  | .ret e, sts, h => by
    simp only [kSX] at h
    split at h
    · split at h
      · split at h
        · rename_i v _ _ _
          cases hv : valX c vs e with
          | none => exact ⟨fun _ _ _ _ _ _ ⟨p, s, _, o⟩ => by simp only [denSX, hv, lift?] at o; exact o.elim⟩
          | some x =>
            refine (pss_one (ps_ret (sX A hz hf e h hv).pe)).imp fun T σ H ⟨p, s, st, o⟩ => ?_
            simp only [denSX, hv] at o
            exact ⟨p, s, st, o⟩
        · cases h
      · cases h
    · cases h
  | .retI t e1 e2, sts, h => by
    simp only [kSX] at h
    split at h
    · split at h
      · split at h
        · split at h
          · simp only [Bool.and_eq_true] at h
            obtain ⟨⟨h0, h1⟩, h2⟩ := h
            cases hv : ((valX c vs t).bind bl?).bind fun t => if t then valX c vs e1 else valX c vs e2 with
            | none => exact ⟨fun _ _ _ _ _ _ ⟨p, s, _, o⟩ => by simp only [denSX, hv, lift?] at o; exact o.elim⟩
            | some x =>
              obtain ⟨b, g1, g2⟩ := bl_some hv
              refine (pss_one (ps_ret (x_ite (sX A hz hf t h0 g1) (fun hb => sX A hz hf e1 (x := x) h1 (by subst hb; simpa using g2)) (fun hb => sX A hz hf e2 (x := x) h2 (by subst hb; simpa using g2))))).imp fun T σ H ⟨p, s, st, o⟩ => ?_
              simp only [denSX, hv] at o
              exact ⟨p, s, st, o⟩
          · cases h
        · cases h
      · cases h
    · cases h
  | .ifr t e r, sts, h => by
    simp only [kSX] at h
    split at h
    · split at h
      · simp only [Bool.and_eq_true, List.isEmpty_iff] at h
        obtain ⟨⟨rfl, h0⟩, h⟩ := h
        split at h
        · simp only [Bool.and_eq_true] at h
          obtain ⟨h1, h2⟩ := h
          cases hv : (valX c vs t).bind bl? with
          | none => exact ⟨fun _ _ _ _ _ _ ⟨p, s, _, o⟩ => by simp only [denSX, hv, lift?] at o; exact o.elim⟩
          | some b =>
            obtain ⟨y, g1, g2⟩ := Option.bind_eq_some_iff.mp hv
            cases y <;> simp only [bl?, reduceCtorEq, Option.some.injEq] at g2
            rename_i b'
            have g2' : b' = b := g2
            subst g2'
            have ht := (sX (a := a) (pn := pn) A hz hf t h0 g1).pt _ rfl
            have hr := sSX A hz hf r h2
            cases b' with
            | true =>
              cases hw : valX c vs e with
              | none => exact ⟨fun _ _ _ _ _ _ ⟨p, s, _, o⟩ => by
                  have o' : False := by
                    simp only [denSX, hv] at o
                    change (match ((lift? (valX c vs e) >>= fun y => pure (Fl.rt y) : M Fl) s) with | .ok .nx _ => _ | .ok (.rt x) _ => _ | _ => False) at o
                    rw [hw] at o
                    exact o
                  exact o'.elim⟩
              | some x =>
                refine (pss_cons (ps_if ht (pss_one (ps_ret (sX A hz hf e h1 hw).pe)) pss_nil) hr).imp fun T σ H ⟨p, s, st, o⟩ => ?_
                simp only [denSX, hv] at o
                change (match ((lift? (valX c vs e) >>= fun y => pure (Fl.rt y) : M Fl) s) with | .ok .nx _ => _ | .ok (.rt x) _ => _ | _ => False) at o
                rw [hw] at o
                refine ⟨p, s, st, fun p' H' st' S' => ?_⟩
                exact ⟨p', s, st.step st' S', fun w p2 H2 st2 S2 rv2 => o w p2 H2 (st'.trans st2) S2 rv2⟩
            | false =>
              have no : ∀ l, PSs (X.suite a ((a, oe) :: pn)) l (fun _ _ _ => False) := fun l => ⟨fun _ _ _ _ _ _ h => h.elim⟩
              refine (pss_cons (ps_if ht (no _) pss_nil) hr).imp fun T σ H ⟨p, s, st, o⟩ => ?_
              simp only [denSX, hv] at o
              change (match (denSX c vs r s) with | .ok .nx _ => _ | .ok (.rt x) _ => _ | _ => False) at o
              refine ⟨p, s, st, fun p' H' st' S' => ⟨p', s, st.step st' S', ?_⟩⟩
              split at o
              · exact fun p2 H2 st2 S2 => o p2 H2 (st'.trans st2) S2
              · exact fun w p2 H2 st2 S2 rv2 => o w p2 H2 (st'.trans st2) S2 rv2
              · exact o.elim
        · cases h
      · cases h
    · cases h
  | .fall, sts, h => by
    simp only [kSX] at h
    split at h
    · exact pss_nil.imp fun T σ H ⟨p, s, st, o⟩ => o p H (Stp.refl p H) st.2.1
    · split at h
      · exact (pss_one ps_pass).imp fun T σ H ⟨p, s, st, o⟩ => o p H (Stp.refl p H) st.2.1
      · cases h
    · cases h
/-! ### try, with several clauses, each with a name or without -/
/-- what the clauses wish of an exception -/
def wHs (K : PySem.W.Frag) (Wout : WX) (D : Ends) : List (Value × Option Nat × (Addr → Value → Option Addr → TS)) → WX
  | [] => Wout
  | (c, nm, ts) :: r => fun cls d σ H => ∃ b, PySem.W.exmOne K cls c = some b ∧ (b = true → ∀ a, H a = none → (match nm with
    | none => ts a cls d D σ H
    | some i => ts a cls d { nx := fun σ' H' => D.nx (σ'.set i none) H', rt := D.rt, bk := fun σ' H' => D.bk (σ'.set i none) H', ct := fun σ' H' => D.ct (σ'.set i none) H' } (σ.set i (some (.ref a))) H)) ∧ (b = false → wHs K Wout D r cls d σ H)
inductive HsOk (X : Cx) : List ExceptHandler → List (Value × Option Nat × (Addr → Value → Option Addr → TS)) → Prop
  | nil : HsOk X [] []
  | cons {x : Str} {c : Value} {nm : Option Nat} {n : Option Str} {ts : Addr → Value → Option Addr → TS} {b₀ : Stmt} {suite : List Stmt} {np pos' : Pos} {hds : List ExceptHandler} {l : List (Value × Option Nat × (Addr → Value → Option Addr → TS))} (hc : Names X x c)
      (hn : (nm = none ∧ n = none) ∨ ∃ i y, nm = some i ∧ n = some y ∧ X.N[i]? = some y ∧ X.env.kindOf y = some .local)
      (hsu : ∀ (a : Addr) (oe : Obj) (cls : Value) (d : Option Addr) (pn : List (Addr × Obj)), Zc cls d oe → (∃ vs, oe.data = .fields vs) → PSs (X.suite a ((a, oe) :: pn)) (b₀ :: suite) (ts a cls d)) (r : HsOk X hds l) :
      HsOk X (.ExceptHandler (some (.Name x np)) n (b₀ :: suite) pos' :: hds) ((c, nm, ts) :: l)
section
variable {X : Cx} {body : List Stmt} {h₀ : ExceptHandler} {hds : List ExceptHandler} {l : List (Value × Option Nat × (Addr → Value → Option Addr → TS))} {pos : Pos} {tb : WX → TS} {Wout : WX}
theorem ps_tryHs (hs : X.stack = X.env :: X.outer) (hf : X.env.frame = some X.env.locals) (hN : X.N.Nodup) (tk : Takes X Wout)
    (hb : ∀ (W : WX) (pn : List (Addr × Obj)) (xe : Value → Shared → Prop), Takes (X.tr pn xe) W → PassesOwn (model X.prog X.w) X.A X.env xe → PSs (X.tr pn xe) body (tb W))
    (hh : HsOk X (h₀ :: hds) l) : PS X (.Try body (h₀ :: hds) [] [] pos) (fun D σ H => tb (wHs X.K Wout D l) D σ H) := by
  refine ⟨fun pins s σ H D I h => ?_⟩
  have ok := I.ok
  have hfr : X.A.frames = some (X.env :: X.outer) := by rw [ok.frames, hs]
  refine wpAny_Try_except ?_
  let catchE : Value → Shared → Prop := fun e s₁ => wpAny (model X.prog X.w) X.A (noteFrame e X.env) (fun _ s₂ => wpAny (model X.prog X.w) X.A (setFlight e none) (fun _ s₃ =>
    wpAny (model X.prog X.w) X.A (handleBy e X.env (h₀ :: hds)) (SP X pins D) X.xe s₃) X.xe s₂) X.xe s₁
  have hrun := (hb (wHs X.K Wout D l) (X.pn ++ pins) catchE (fun u s' xx => ?_) PassesOwn.looking).run [] s σ H D (I.toTry _) h
  · refine wpAny_mono hrun (fun f s1 hsp => ?_) (fun e s1 he => he)
    cases f with
    | next => obtain ⟨σ', H', J', q⟩ := hsp; exact wpAny_execs_nil ⟨σ', H', J'.ofTry ok, q⟩
    | brk => obtain ⟨σ', H', J', q⟩ := hsp; exact ⟨σ', H', J'.ofTry ok, q⟩
    | cont => obtain ⟨σ', H', J', q⟩ := hsp; exact ⟨σ', H', J'.ofTry ok, q⟩
    | ret u => obtain ⟨v, σ', H', J', r, q⟩ := hsp; exact ⟨v, σ', H', J'.ofTry ok, r, q⟩
  · obtain ⟨a, B, sI, pins', σ', H', cls, d, rfl, J', nb, up, sky, na, os, ag, w⟩ := xx
    have J : Inv X pins σ' H' sI := J'.ofTry ok
    have sky' : Sky B (X.env :: X.outer) a (Zc cls d) X.env.locals s'.heap := by rw [← hs]; exact sky
    show wpAny (model X.prog X.w) X.A (noteFrame (.ref a) X.env) _ _ _
    refine Sky.land Zc.steady hfr hf sky' fun h3 fl3 up3 => ?_
    have J3 : Inv X pins σ' H' { s' with heap := h3 } := J.landed nb fl3.1 (up.trans up3) os ag
    obtain ⟨oe3, vs3, he3, hz3, hd3⟩ := fl3.there
    have nfr : a ∉ frs (X.env :: X.outer) := fun hm => by
      obtain ⟨_, o', e', hnf⟩ := fl3.2.2.1.mem hm
      rw [he3] at e'; cases e'
      exact hnf _ hd3
    have nL : a ≠ X.env.locals := fun z => nfr (List.mem_filterMap.mpr ⟨X.env, List.mem_cons_self, by rw [hf, z]⟩)
    have nF : a ∉ X.fs := fun hm => by
      obtain ⟨e, he, q⟩ := List.mem_filterMap.mp hm
      exact nfr (List.mem_filterMap.mpr ⟨e, List.mem_cons_of_mem _ he, q⟩)
    have S3 := J3.suite he3 hd3 na nL nF
    have go : ∀ {hds' : List ExceptHandler} {l' : List (Value × Option Nat × (Addr → Value → Option Addr → TS))}, HsOk X hds' l' → wHs X.K Wout D l' cls d σ' H' →
        wpAny (model X.prog X.w) X.A (handleBy (.ref a) X.env hds') (SP X pins D) X.xe { s' with heap := h3 } := by
      intro hds' l' hk
      induction hk with
      | nil =>
        intro w
        refine wpAny_handleBy_nil ?_
        obtain ⟨k1, k2, k3, oe, vs, T, oT, ts', he, hz, hd, h1, hr⟩ := id fl3
        unfold PySem.passOn
        refine wpAny_bind (wpAny_field he hd h1 ?_)
        rw [if_neg (show ¬ ((Value.ref T == Value.none) = true) from by simp)]
        have fin : wpAny (model X.prog X.w) X.A (setFlight (.ref a) X.env.frame) (fun _ s4 => wpAny (model X.prog X.w) X.A (throw (.ref a) : Sem Flow) (SP X pins D) X.xe s4) X.xe { s' with heap := h3 } := by
          rw [hf]
          refine HandSPX.setFlight_upZ fl3 fun h4 hh4 up4 => wpAny_throw (tk _ _ ?_)
          exact ⟨a, B, sI, pins, σ', H', cls, d, rfl, J, nb, (up.trans up3).trans up4, .inr (.inr (by rw [hs]; exact hh4)), na, os, ag, w⟩
        first
          | exact wpAny_bind (wpAny_pure (wpAny_bind fin))
          | exact wpAny_bind fin
      | @cons x c nm n ts b₀ suite np pos' hds2 l2 hc hn hsu r ih =>
        intro w
        obtain ⟨b, hb1, hyes, hno⟩ := w
        refine wpAny_handleBy_cons (codeAny_handlers_test ?_) (by intro q; cases q)
        have LT : PySem.W.Looks (model X.prog X.w) h3 (typeOf (.ref a)) cls := fun A Q E s k q => wpAny_typeOf_ref (k _ _ he3) (by rw [hz3.1]; exact q)
        have LM := PySem.W.exm_one (M := model X.prog X.w) (J3.kIn) LT hb1
        have test : ∀ {Q : Value → Shared → Prop} {E : Value → Shared → Prop}, Q c { s' with heap := h3 } → wpAny (model X.prog X.w) (X.A.mark (some (.ref a))) (eval (.Name x np) X.env) Q E { s' with heap := h3 } := fun {Q E} q => by
          obtain ⟨hg, hdbg, hm | ⟨hm, hv, hnn⟩⟩ := hc
          · exact ld_glob (X := X.suite a ((a, oe3) :: (X.pn ++ pins))) S3 hg hm q hdbg
          · exact ld_blt (X := X.suite a ((a, oe3) :: (X.pn ++ pins))) S3 hg hm hv q hnn hdbg
        refine test (LM.here ?_)
        cases b with
        | false =>
          show wpAny _ X.A (handleBy (.ref a) X.env hds2) _ _ _
          exact ih (hno rfl)
        | true =>
          rcases hn with ⟨rfl, rfl⟩ | ⟨i, y, rfl, rfl, hi, hln⟩
          · refine codeAny_handlers_suite ?_
            refine HandSPX.lands_againZ fl3 fun h4 fl4 up4 => ?_
            have J4 : Inv X pins σ' H' { s' with heap := h4 } := J.landed nb fl4.1 ((up.trans up3).trans up4) os ag
            obtain ⟨oe4, vs4, he4, hz4, hd4⟩ := fl4.there
            have S4 := J4.suite he4 hd4 na nL nF
            refine wpAny_mono ((hsu a oe4 cls d (X.pn ++ pins) hz4 ⟨_, hd4⟩).run [] _ _ H' _ S4 (hyes rfl a na)) (fun f s6 hsp => ?_) (fun _ _ z => False.elim z)
            cases f with
            | next => obtain ⟨σ6, H6, S6, q6⟩ := hsp; exact ⟨_, _, S6.unsuite ok, q6⟩
            | brk => obtain ⟨σ6, H6, S6, q6⟩ := hsp; exact ⟨_, _, S6.unsuite ok, q6⟩
            | cont => obtain ⟨σ6, H6, S6, q6⟩ := hsp; exact ⟨_, _, S6.unsuite ok, q6⟩
            | ret u => obtain ⟨v6, σ6, H6, S6, r6, q6⟩ := hsp; exact ⟨_, _, _, S6.unsuite ok, r6, q6⟩
          · refine codeAny_handlers_suite_as ?_
            refine HandSPX.lands_againZ fl3 fun h4 fl4 up4 => ?_
            have J4 : Inv X pins σ' H' { s' with heap := h4 } := J.landed nb fl4.1 ((up.trans up3).trans up4) os ag
            obtain ⟨oe4, vs4, he4, hz4, hd4⟩ := fl4.there
            have S4 := J4.suite he4 hd4 na nL nF
            have hloc : Loc X.env.scope y := .inl hln
            refine store_ok (X := X.suite a ((a, oe4) :: (X.pn ++ pins))) (v := .ref a) S4 hN hi hloc rfl (fun s5 S5 => ?_) (.inr hln)
            refine wpAny_mono ((hsu a oe4 cls d (X.pn ++ pins) hz4 ⟨_, hd4⟩).run [] s5 _ H' _ S5 (hyes rfl a na)) (fun f s6 hsp => ?_) (fun _ _ z => False.elim z)
            have end_ : ∀ {σ6 : L2.St} {H6 : Hp} {Q : Shared → Prop}, Inv (X.suite a ((a, oe4) :: (X.pn ++ pins))) [] σ6 H6 s6 → (∀ s7, Inv X pins (σ6.set i none) H6 s7 → Q s7) →
                wpAny (model X.prog X.w) X.A (do bindName X.env y .none; unbindBehindTheSuite X.env y pos') (fun _ s7 => Q s7) X.xe s6 := fun {σ6 H6 Q} S6 hq => gone_ok (S6.unsuite ok) hN hi hln hq
            cases f with
            | next => obtain ⟨σ6, H6, S6, q6⟩ := hsp; exact end_ S6 fun s7 J7 => ⟨_, _, J7, q6⟩
            | brk => obtain ⟨σ6, H6, S6, q6⟩ := hsp; exact end_ S6 fun s7 J7 => ⟨_, _, J7, q6⟩
            | cont => obtain ⟨σ6, H6, S6, q6⟩ := hsp; exact end_ S6 fun s7 J7 => ⟨_, _, J7, q6⟩
            | ret u => obtain ⟨v6, σ6, H6, S6, r6, q6⟩ := hsp; exact end_ S6 fun s7 J7 => ⟨_, _, _, J7, r6, q6⟩
    exact go hh w
end
end
/-! ### raise, try: of the small language -/
section
variable {C : Cfg} {D : Fns} {k : Nat} {N : List Str} {sc : Scope} {X : Cx} {xv : XV} {W : WX} {pos : Pos}
theorem denSX_st {c : Nat} {vs : List MV} : ∀ (e : SX) {s s' : S} {f : Fl}, denSX c vs e s = .ok f s' → s' = s ∧ (f = .nx ∨ ∃ y, f = .rt y)
  | .ret e, s, s', f, h => by
    simp only [denSX] at h
    cases hv : valX c vs e with
    | none => rw [hv] at h; cases h
    | some x => rw [hv] at h; injection h with h1 h; exact ⟨h.symm, .inr ⟨_, h1.symm⟩⟩
  | .retI t a b, s, s', f, h => by
    simp only [denSX] at h
    cases hv : ((valX c vs t).bind bl?).bind fun t => if t then valX c vs a else valX c vs b with
    | none => rw [hv] at h; cases h
    | some x => rw [hv] at h; injection h with h1 h; exact ⟨h.symm, .inr ⟨_, h1.symm⟩⟩
  | .ifr t e r, s, s', f, h => by
    simp only [denSX] at h
    cases hv : (valX c vs t).bind bl? with
    | none => rw [hv] at h; cases h
    | some b =>
      rw [hv] at h
      cases b with
      | true =>
        change (lift? (valX c vs e) >>= fun y => pure (Fl.rt y) : M Fl) s = _ at h
        cases hw : valX c vs e with
        | none => rw [hw] at h; cases h
        | some x => rw [hw] at h; injection h with h1 h; exact ⟨h.symm, .inr ⟨_, h1.symm⟩⟩
      | false => exact denSX_st r h
  | .fall, s, s', f, h => by simp only [denSX, ret_eq] at h; injection h with h1 h; exact ⟨h.symm, .inl h1.symm⟩
theorem denSX_nex {c : Nat} {vs : List MV} : ∀ (e : SX) {s s' : S} {c' : Nat} {us : List MV}, denSX c vs e s ≠ .ex c' us s'
  | .ret e, s, s', c', us, h => by
    simp only [denSX] at h
    cases hv : valX c vs e <;> rw [hv] at h <;> cases h
  | .retI t a b, s, s', c', us, h => by
    simp only [denSX] at h
    cases hv : ((valX c vs t).bind bl?).bind fun t => if t then valX c vs a else valX c vs b <;> rw [hv] at h <;> cases h
  | .ifr t e r, s, s', c', us, h => by
    simp only [denSX] at h
    cases hv : (valX c vs t).bind bl? with
    | none => rw [hv] at h; cases h
    | some b =>
      rw [hv] at h
      cases b with
      | true =>
        change (lift? (valX c vs e) >>= fun y => pure (Fl.rt y) : M Fl) s = _ at h
        cases hw : valX c vs e <;> rw [hw] at h <;> cases h
      | false => exact denSX_nex r h
  | .fall, s, s', c', us, h => by simp only [denSX, ret_eq] at h; cases h
theorem Sit.gone {p : Pl} {s : S} {σ : L2.St} {H : Hp} (S : Sit p s σ H) (i : Nat) (x : Option V) : Sit p { s with env := s.env.set i none } (σ.set i x) H := by
  refine ⟨S.hr, by simp [S.len], fun j y e => ?_, fun j c e => ?_, fun j l c1 c2 b e1 e2 f1 f2 => ?_⟩
  · by_cases h : i = j
    · subst h
      simp only [List.getElem?_set_self'] at e
      cases q : s.env[i]? <;> rw [q] at e <;> simp at e
    · rw [List.getElem?_set_ne h] at e ⊢
      exact S.var j y e
  · by_cases h : i = j
    · subst h
      simp only [List.getElem?_set_self'] at e
      cases q : s.env[i]? <;> rw [q] at e <;> simp at e
    · rw [List.getElem?_set_ne h] at e ⊢
      exact S.own j c e
  · by_cases h : i = j
    · subst h
      simp only [List.getElem?_set_self'] at e1
      cases q : s.env[i]? <;> rw [q] at e1 <;> simp at e1
    · by_cases h' : i = l
      · subst h'
        simp only [List.getElem?_set_self'] at e2
        cases q : s.env[i]? <;> rw [q] at e2 <;> simp at e2
      · rw [List.getElem?_set_ne h] at e1 f1
        rw [List.getElem?_set_ne h'] at e2 f2
        exact S.ne j l c1 c2 b e1 e2 f1 f2
theorem At.toX (A : At C D k N sc X xv W) : AtX C N sc X := ⟨A.hN, A.nd, A.scp, A.gd, A.units, A.bl, A.xc⟩
def rscB (C : Cfg) (sc : Scope) (c : Nat) (x : Str) (n : Nat) : Bool := glB sc x && (match C.xs[c]? with
  | some i => decide (i.nm = x) && decide (n = (if i.fld.isSome then 1 else 0))
  | none => false)
theorem snd_rsc (A : At C D k N sc X xv W) {c : Nat} {a : Py.A} {x : Str} {es : List Expr} {q pos2 : Pos} (h : rscB C sc c x es.length = true) (ns : noStar es = true) (ha : AOk D X xv W a es) :
    PS X (.Raise (some (.Call (.Name x q) es [] pos)) none pos2) (liftS X.K xv W (denS D (.rsc c a))) := by
  unfold rscB at h
  simp only [Bool.and_eq_true] at h
  obtain ⟨hg, h⟩ := h
  split at h
  · rename_i i hi
    simp only [Bool.and_eq_true, decide_eq_true_eq] at h
    obtain ⟨rfl, hn⟩ := h
    obtain ⟨Ca, T⟩ := A.xc c i hi
    obtain ⟨g1, g2⟩ := A.gl hg
    obtain ⟨hl, ts, hp, him⟩ := ha
    cases hf : i.fld with
    | none =>
      rw [hf] at hn
      have he : es = [] := List.eq_nil_of_length_eq_zero (by simpa using hn)
      subst he
      cases hp
      refine (ps_raise A.calm A.tk (pmk_x0 (p := q) (pos := pos) T hf A.rx g1 g2)).imp fun T' σ H ⟨p, s, hK, S, o⟩ => ?_
      simp only [denS] at o
      refine him σ H (fun _ G => W (.ref Ca) none σ G) ⟨p, s, hK, S, OutS.bnd (r := RSs σ) o fun zs s1 vs p1 H1 hz st1 S1 rv1 o1 => ?_⟩
      have hz0 : zs = [] := List.eq_nil_of_length_eq_zero (by rw [hl _ _ _ hz]; rfl)
      subst hz0
      have o2 : OutS xv W p1 H1 T' (.ex c [] s1) := o1
      exact o2 σ _ _ p1 H1 (Stp.refl _ _) S1 (by rw [A.xq]; exact ⟨i, Ca, hi, T.gC, rfl, by rw [hf]; exact ⟨rfl, rfl⟩⟩)
    | some f =>
      rw [hf] at hn
      match es, hn with
      | [e], _ =>
        obtain ⟨te, rfl, he⟩ := pes1 hp
        refine (ps_raise A.calm A.tk (pmk_x1 (p := q) (pos := pos) T hf A.rx g1 g2 he (star_cons X.env ns).1)).imp fun T' σ H ⟨p, s, hK, S, o⟩ => ?_
        simp only [denS] at o
        refine him σ H (fun vs G => match vs with | [v] => ∀ d, G d = none → W (.ref Ca) (some d) σ (upd G d (.xd [(f, v)])) | _ => False) ⟨p, s, hK, S, OutS.bnd (r := RSs σ) o fun zs s1 vs p1 H1 hz st1 S1 rv1 o1 => ?_⟩
        cases hv : vals? zs with
        | none => rw [hv] at o1; exact o1.elim
        | some xs =>
          rw [hv] at o1
          have rv := vals_ok rv1 hv
          have hzl := hl _ _ _ hz
          match zs, hzl, hv, rv1 with
          | [z], _, hv, rv1 =>
            obtain ⟨v, r, rfl, _, h4⟩ := rv1
            have h4' : r = [] := h4
            subst h4'
            have hxs : ∃ y, xs = [y] := by
              have := rv.len
              match xs, this with
              | [y], _ => exact ⟨y, rfl⟩
            obtain ⟨y, rfl⟩ := hxs
            intro d hd
            have rvy : RV p1 H1 y v := by
              simp only [RVs] at rv
              obtain ⟨w, r, e, h1, _⟩ := rv
              cases e; exact h1
            have o2 : OutS xv W p1 H1 T' (.ex c [y] s1) := o1
            exact o2 σ _ _ p1 _ (Stp.new hd) (S1.new hd) (by rw [A.xq]; exact ⟨i, Ca, hi, T.gC, rfl, by rw [hf]; exact ⟨d, v, y, rfl, rfl, upd_same, RV.keep S1.hr (Stp.new hd) y v rvy⟩⟩)
  · cases h
/-- the clauses -/
def kHs (C : Cfg) (N : List Str) (sc : Scope) : List Hd → List ExceptHandler → Bool
  | [], l => l.isEmpty
  | h :: r, l => match l with
    | eh :: t => (match eh with
      | .ExceptHandler ty n su _ => (match ty, su with
        | some (.Name x _), b₀ :: rest => glB sc x && C.xn.contains x && upsB C x h.ms && (match h.nm, n with
          | none, none => true
          | some i, some y => nmB N sc i y && decide (sc.names.lookup y = some .local)
          | _, _ => false) && kSX C N sc h.nm h.su (b₀ :: rest) && kHs C N sc r t
        | _, _ => false))
    | [] => false
theorem hs_ok (A : At C D k N sc X xv W) {i0 : XI} (h0 : C.xs[0]? = some i0) : ∀ (hs : List Hd) {eh : List ExceptHandler}, kHs C N sc hs eh = true →
    ∃ l, HsOk X eh l ∧ ∀ (T : Ends) (c : Nat) (vs : List MV) (s : S) (σ : L2.St) (H : Hp) (p p0 : Pl) (H0 : Hp) (cls : Value) (d : Option Addr), p.K = X.K → Stp p0 H0 p H → Sit p s σ H → xv p H c vs cls d → OutS xv W p0 H0 T (denHs c vs s hs) → wHs X.K W T l cls d σ H
  | [], eh, h => by
    simp only [kHs, List.isEmpty_iff] at h
    subst h
    exact ⟨[], .nil, fun T c vs s σ H p p0 H0 cls d hK st S hx o => o σ cls d p H st S hx⟩
  | hd :: r, eh, h => by
    simp only [kHs] at h
    split at h
    · rename_i eh' t
      split at h
      rename_i ty n su pos'
      split at h
      · rename_i x np b₀ rest
        simp only [Bool.and_eq_true, List.contains_iff_mem] at h
        obtain ⟨⟨⟨⟨⟨h1, h2⟩, h3⟩, h4⟩, h5⟩, h6⟩ := h
        obtain ⟨l, hl, hw⟩ := hs_ok A h0 r h6
        obtain ⟨g1, g2⟩ := A.gl h1
        obtain ⟨C0, T0⟩ := A.xc 0 i0 h0
        obtain ⟨cv, v, kc, kv, _, _⟩ := T0.ask x h2
        have names : Names X x v := ⟨g1, g2, kv⟩
        refine ⟨(v, hd.nm, fun a cls d => fun T σ H => ∃ c vs, rS C X hd.nm a cls d c vs (denSX c vs hd.su) T σ H) :: l, .cons names ?_ (fun a oe cls d pn hz hf => ?_) hl, fun T c vs s σ H p p0 H0 cls d hK st S hx o => ?_⟩
        · split at h4
          · exact .inl ⟨by assumption, rfl⟩
          · rename_i i y e
            simp only [Bool.and_eq_true, decide_eq_true_eq] at h4
            exact .inr ⟨i, y, e, rfl, (A.nm h4.1).1, by show X.env.scope.names.lookup y = _; rw [A.scp]; exact h4.2⟩
          · cases h4
        · exact ⟨fun pins s σ H T I ⟨c, vs, q⟩ => (sSX A.toX hz hf hd.su h5).run pins s σ H T I q⟩
        · have hx' := hx
          rw [A.xq] at hx'
          obtain ⟨i, Ca, e1, e2, e3, e4⟩ := hx'
          obtain ⟨Cb, Tc⟩ := A.xc c i e1
          have : Cb = Ca := by have := Tc.gC; rw [e2] at this; cases this; rfl
          subst this
          obtain ⟨cv', v', kc', kv', ke, _⟩ := Tc.ask x h2
          have hv : v' = v := by
            rcases kv with kv | ⟨kv, kb, _⟩ <;> rcases kv' with kv' | ⟨kv', kb', _⟩ <;> rw [kv] at kv'
            · exact (Option.some.inj kv').symm
            · cases kv'
            · cases kv'
            · rw [kb] at kb'; exact (Option.some.inj kb').symm
          subst hv
          have hms : i.ups.contains x = hd.ms.contains c := by
            have := List.all_eq_true.mp h3 c (by rw [List.mem_range]; exact (List.getElem?_eq_some_iff.mp e1).1)
            rw [e1] at this
            simpa using this
          rw [hms] at ke
          refine ⟨hd.ms.contains c, by rw [e3]; exact ke, fun hb a ha => ?_, fun hb => ?_⟩
          · simp only [denHs, hb, if_true] at o
            cases en : hd.nm with
            | none =>
              rw [en] at o
              refine ⟨c, vs, p, s, ⟨hK, S, (fun i e => by cases e), by rw [← A.xq]; exact hx⟩, ?_⟩
              have hh : goneSl s none = s := rfl
              rw [hh] at o
              cases er : denSX c vs hd.su s with
              | ok f s2 =>
                obtain ⟨e9, e8⟩ := denSX_st _ er
                subst e9
                rw [er] at o
                rcases e8 with rfl | ⟨y, rfl⟩
                · exact fun p' H' st' S' => o σ p' H' (st.trans st') S'
                · exact fun w p' H' st' S' rw' => o σ w p' H' (st.trans st') S' rw'
              | ex c' us s2 => exact absurd er (denSX_nex _)
              | no => rw [er] at o; exact o.elim
            | some j =>
              rw [en] at o
              have hg : Sit p (goneSl s (some j)) (σ.set j (some (.ref a))) H := S.gone j _
              refine ⟨c, vs, p, goneSl s (some j), ⟨hK, hg, (fun i e hi => ?_), by rw [← A.xq]; exact hx⟩, ?_⟩
              · cases e
                rw [List.length_set] at hi
                exact List.getElem?_set_self hi
              · cases er : denSX c vs hd.su (goneSl s (some j)) with
                | ok f s2 =>
                  obtain ⟨e9, e8⟩ := denSX_st _ er
                  subst e9
                  rw [er] at o
                  rcases e8 with rfl | ⟨y, rfl⟩
                  · intro p' H' st' S'
                    have S2 : Sit p' (goneSl s (some j)) ((σ.set j (some (.ref a))).set j none) H' := by
                      have := S'.gone j none
                      simpa [goneSl] using this
                    exact o _ p' H' (st.trans st') S2
                  · exact fun w p' H' st' S' rw' => o _ w p' H' (st.trans st') S' rw'
                | ex c' us s2 => exact absurd er (denSX_nex _)
                | no => rw [er] at o; exact o.elim
          · simp only [denHs, hb] at o
            exact hw T c vs s σ H p p0 H0 cls d hK st S hx (by simpa using o)
      · cases h
    · cases h
theorem snd_tr (A : At C D k N sc X xv W) {b : SS} {hs : List Hd} {body : List Stmt} {eh : List ExceptHandler} (hst : X.stack = X.env :: X.outer) (hfr : X.env.frame = some X.env.locals)
    (hb : ∀ (W : WX) (pn : List (Addr × Obj)) (xe : Value → Shared → Prop), Takes (X.tr pn xe) W → PassesOwn (model X.prog X.w) X.A X.env xe → PSs (X.tr pn xe) body (liftS X.K xv W (denS D b)))
    (hne : eh.isEmpty = false) (hx0 : C.xs.isEmpty = false) (hh : kHs C N sc hs eh = true) : PS X (.Try body eh [] [] pos) (liftS X.K xv W (denS D (.tr b hs))) := by
  obtain ⟨i0, h0⟩ : ∃ i0, C.xs[0]? = some i0 := by
    cases e : C.xs with
    | nil => rw [e] at hx0; cases hx0
    | cons i0 r => exact ⟨i0, rfl⟩
  obtain ⟨l, hl, hw⟩ := hs_ok A h0 hs hh
  match eh, hne, hl with
  | e1 :: er, _, hl =>
    refine (ps_tryHs (tb := fun W => liftS X.K xv W (denS D b)) hst hfr (by rw [A.hN]; exact A.nd) A.tk hb hl).imp fun T σ H ⟨p, s, hK, S, o⟩ => ⟨p, s, hK, S, ?_⟩
    simp only [denS] at o
    cases en : denS D b s with
    | ok f s' => rw [en] at o; cases f <;> exact o
    | no => rw [en] at o; exact o.elim
    | ex c vs s' =>
      rw [en] at o
      exact fun σ' cls d p' H' st' S' hx => hw T c vs s' σ' H' p' p H cls d (by rw [st'.K]; exact hK) st' S' hx o
end
end Py

-- text PyX
set_option Elab.async false
set_option linter.all false
set_option maxRecDepth 100000
set_option maxHeartbeats 4000000
namespace Py
open PySem PySem.Spec PyProof.Rows L2
/-! ### the checker is sound: statements -/
def isLC : FE → Bool
  | .lc _ _ _ _ _ => true
  | _ => false
/-- name = [..] whose stores are swapped -/
def lcN (sc : Scope) (y : Str) (py : Pos) (v : Expr) : Bool := match v with
  | .ListComp _ _ scope pos => decide (sc.names.lookup y = some .local) && (py.line == pos.line) && !(scope.names.any fun (n, k) => n == y && (k == .local || k == .cell))
  | _ => false
/-- a store that is not swapped with its comprehension -/
def noSw (sc : Scope) (t v : Expr) : Bool := match v with
  | .ListComp _ _ scope pos => (match t with
    | .Name y py => !(decide (sc.names.lookup y = some .local) && (py.line == pos.line) && !(scope.names.any fun (n, k) => n == y && (k == .local || k == .cell)))
    | _ => true)
  | .SetComp _ _ _ _ => false
  | .DictComp _ _ _ _ _ => false
  | _ => true
theorem noSw_ok {sc : Scope} {t v : Expr} {l : Nat} {env : PySem.Env} (hs : env.scope = sc) (hk : sc.kind = .function) (h : noSw sc t v = true) : swapsWith v (some t) l env = pure false := by
  have hb : env.blockKind = .function := by unfold Env.blockKind; rw [hs, hk]; rfl
  cases v <;> first | rfl | (simp [noSw] at h; done) | skip
  rename_i elt gens scope pos
  cases t <;> first | rfl | skip
  rename_i y py
  simp only [noSw, Bool.not_eq_true'] at h
  unfold swapsWith
  simp only [hb, Env.kindOf, hs, Expr.pos]
  have e : (ScopeKind.function == ScopeKind.function && List.lookup y sc.names == some NameKind.local && py.line == pos.line && !(scope.names.any fun x => x.fst == y && (x.snd == NameKind.local || x.snd == NameKind.cell))) = false := by
    rw [← h]
    have q : (List.lookup y sc.names == some NameKind.local) = decide (List.lookup y sc.names = some NameKind.local) := by
      cases hq : decide (List.lookup y sc.names = some NameKind.local) with
      | true => rw [of_decide_eq_true hq]; rfl
      | false => exact beq_eq_false_iff_ne.mpr (of_decide_eq_false hq)
    rw [q]; rfl
  rw [e]
def kEFs (C : Cfg) (N : List Str) (f : EF → Scope → Expr → Bool) (sc : Scope) : List EF → List Expr → Bool
  | [], es => es.isEmpty
  | v :: vs, es => match es with
    | e :: t => f v sc e && kEFs C N f sc vs t
    | [] => false
def kEF (C : Cfg) (N : List Str) : EF → Scope → Expr → Bool
  | .e x, sc, ex => kE C N x sc ex
  | .f x, sc, ex => kF C N x sc ex
mutual
def k1 (C : Cfg) (N : List Str) : SS → Scope → Stmt → Bool
  | .asg g e, sc, st => match st with
    | .Assign ts v _ => (match ts with
      | [t] => decide (sc.kind = .function) && chkG N true g sc t && ((noSw sc t v && kE C N e sc v && decide (swapP sc [t] v = some none)) || (match g, e, t with
        | .nm i, .im f, .Name y py => isLC f && kF C N f sc v && lcN sc y py v && decide (N[i]? = some y)
        | _, _, _ => false))
      | _ => false)
    | _ => false
  | .own i f, sc, st => match st with
    | .Assign ts v _ => (match ts with
      | [t] => (match t with
        | .Name y py => decide (sc.kind = .function) && stB N sc true i y && kF C N f sc v && (noSw sc (.Name y py) v || (isLC f && lcN sc y py v))
        | _ => false)
      | _ => false)
    | _ => false
  | .par js vals, sc, st => match st with
    | .Assign ts v _ => (match ts, v with
      | [t], .Tuple vs k2 pv => (match t with
        | .Tuple us kt pt => (decide (sc.kind = .function) && nmsB N sc js us && decide (vals.length = js.length) && decide (js.length ≤ 30) && noStar vs && decide (swapP sc [.Tuple us kt pt] (.Tuple vs k2 pv) = some none) && kEFs C N (kEF C N) sc vals vs) || (match us, vs, js, vals with
          | [u1, u2], [ea, eb], [i, j], [a, b] => (match u1, u2 with
            | .Name x px, .Name y py => decide (sc.kind = .function) && decide (N[i]? = some x) && decide (N[j]? = some y) && decide (i ≠ j) && decide (sc.names.lookup x = some .local) && decide (sc.names.lookup y = some .local) && noStar [ea, eb] &&
              decide (swapP sc [.Tuple [.Name x px, .Name y py] kt pt] (.Tuple [ea, eb] k2 pv) = some (some [x, y])) && kEF C N a sc ea && kEF C N b sc eb
            | _, _ => false)
          | [u1, u2, u3], [ea, eb, ec], [i, j, l], [a, b, c] => (match u1, u2, u3 with
            | .Name x px, .Name y py, .Name z pz => decide (sc.kind = .function) && decide (N[i]? = some x) && decide (N[j]? = some y) && decide (N[l]? = some z) && decide (i ≠ j) && decide (i ≠ l) && decide (j ≠ l) &&
              decide (sc.names.lookup x = some .local) && decide (sc.names.lookup y = some .local) && decide (sc.names.lookup z = some .local) && noStar [ea, eb, ec] &&
              decide (swapP sc [.Tuple [.Name x px, .Name y py, .Name z pz] kt pt] (.Tuple [ea, eb, ec] k2 pv) = some (some [x, y, z])) && kEF C N a sc ea && kEF C N b sc eb && kEF C N c sc ec
            | _, _, _ => false)
          | _, _, _, _ => false)
        | _ => false)
      | _, _ => false)
    | _ => false
  | .sti i key val, sc, st => match st with
    | .Assign ts v _ => (match ts with
      | [t] => (match t with
        | .Subscript o ke _ => (match o with
          | .Name x _ => noC v && nmB N sc i x && kE C N key sc ke && kE C N val sc v
          | _ => false)
        | _ => false)
      | _ => false)
    | _ => false
  | .stc cl key val, sc, st => match st with
    | .Assign ts v _ => (match ts with
      | [t] => (match t with
        | .Subscript o ke _ => noC v && kE C N cl sc o && kE C N key sc ke && kE C N val sc v
        | _ => false)
      | _ => false)
    | _ => false
  | .exp e, sc, st => match st with
    | .Expr v _ => noC v && kE C N e sc v
    | _ => false
  | .ret e, sc, st => match st with
    | .Return v _ => (match v with
      | some v => kE C N e sc v
      | none => false)
    | _ => false
  | .retN, sc, st => match st with
    | .Return v _ => v.isNone
    | _ => false
  | .ife c a b, sc, st => match st with
    | .If t x y _ => kE C N c sc t && kS C N a sc x && kS C N b sc y
    | _ => false
  | .fr g it b, sc, st => match st with
    | .For tg iter body els _ => els.isEmpty && chkG N true g sc tg && kI C N it sc tg iter && notSet iter && kS C N b sc body
    | _ => false
  | .whl c b, sc, st => match st with
    | .While t body els _ => els.isEmpty && kE C N c sc t && kS C N b sc body
    | _ => false
  | .brk, sc, st => match st with
    | .Break _ => true
    | _ => false
  | .cont, sc, st => match st with
    | .Continue _ => true
    | _ => false
  | .pass, sc, st => match st with
    | .Pass _ => true
    | .Expr v _ => (match v with
      | .Constant q _ _ => (match q with
        | .str _ => true
        | _ => false)
      | _ => false)
    | _ => false
  | .rsc c a, sc, st => match st with
    | .Raise e cause _ => (match e, cause with
      | some e, none => (match e with
        | .Call f args kws _ => (match f with
          | .Name x _ => kws.isEmpty && rscB C sc c x args.length && noStar args && kA C N a sc args
          | _ => false)
        | _ => false)
      | _, _ => false)
    | _ => false
  | .tr b hs, sc, st => match st with
    | .Try body eh els fin _ => els.isEmpty && fin.isEmpty && !eh.isEmpty && !C.xs.isEmpty && kHs C N sc hs eh && kS C N b sc body
    | _ => false
  | .rse, sc, st => match st with
    | .Raise _ _ _ => true
    | _ => false
  | .nil, _, _ => false
  | .cons _ _, _, _ => false
def kS (C : Cfg) (N : List Str) : SS → Scope → List Stmt → Bool
  | .nil, sc, sts => sts.isEmpty
  | .cons s r, sc, sts => match sts with
    | st :: t => k1 C N s sc st && kS C N r sc t
    | [] => false
  | _, _, _ => false
end
section
variable {C : Cfg} {D : Fns} {k : Nat} {N : List Str} {sc : Scope} {X : Cx} {xv : XV} {W : WX} {pos : Pos}
theorem im_imp {f : FE} {K : PySem.W.Frag} {σ : L2.St} {H : Hp} {Q : VK} (h : lift rE K xv W (denE D (.im f)) σ H Q) : liftF K xv W (denF D f) σ H Q := by
  obtain ⟨p, s, hK, S, o⟩ := h
  refine ⟨p, s, hK, S, ?_⟩
  simp only [denE] at o
  rw [bnd_eq] at o
  cases e : denF D f s with
  | ok c s' =>
    rw [e] at o
    intro a u p' H' st Sb hu rc ha
    have nF : ¬ p'.F a := by rw [st.F]; exact (S.hr.fresh ha).2.2
    exact o (.ref a) p' H' st Sb.unbar (rc.im Sb hu nF)
  | ex c vs s' => rw [e] at o; exact o
  | no => rw [e] at o; exact o
theorem nm_imp {i : Nat} {K : PySem.W.Frag} {v : V} {σ : L2.St} {H : Hp} {Q : L2.St → Hp → Prop} (h : liftG K (.nm i) v σ H Q) : gName i v σ H Q := by
  obtain ⟨p, s, s', x, hK, S, rv, eb, q⟩ := h
  simp only [bindG, setSl] at eb
  injection eb with _ eb
  subst eb
  exact q _ (S.setV rv) (by simp) fun j hj => by rw [List.getElem?_set_ne (fun z => hj (by simp [slotsG, z]))]
theorem asg_im {st : Stmt} {i : Nat} {f : FE} (h : PS X st (tAsg (liftF X.K xv W (denF D f)) (gName i))) : PS X st (tAsg (lift rE X.K xv W (denE D (.im f))) (liftG X.K (.nm i))) :=
  h.imp fun T σ H q => im_imp (q.imp fun b G q2 => nm_imp q2)
theorem lcN_ok (A : At C D k N sc X xv W) {f : FE} {v : Expr} {y : Str} {py spos : Pos} {i : Nat} (hf : isLC f = true) (hk : sc.kind = .function) (h : kF C N f sc v = true) (hl : lcN sc y py v = true) (hi : N[i]? = some y) :
    PS X (.Assign [.Name y py] v spos) (tAsg (liftF X.K xv W (denF D f)) (gName i)) := by
  cases f <;> simp only [isLC, Bool.false_eq_true] at hf
  rename_i g own it c e
  simp only [kF] at h
  split at h
  · split at h
    · simp only [Bool.and_eq_true, decide_eq_true_eq, List.all_eq_true, List.contains_iff_mem] at h
      obtain ⟨⟨⟨⟨⟨⟨⟨rfl, h1⟩, h2⟩, h3⟩, h4⟩, h5⟩, h6⟩, h7⟩ := h
      have hb := blkC_ok h1
      simp only [lcN, Bool.and_eq_true, decide_eq_true_eq, Bool.not_eq_true'] at hl
      obtain ⟨⟨l1, l2⟩, l3⟩ := hl
      rw [← ownN_snd (N := N) (own := own)]
      refine snd_lcN (xv' := xv) (W' := fun _ _ _ _ => False) A hi l1 hk l2 l3 (sI it A h5) (by rw [A.hN, A.scp]; exact hb) (fun s H Ca cl fp => snd_G (fnc := false) (blkAt A) (fun z => by cases z) g _ h2) (fun s H Ca cl fp => ?_) (fun s H Ca cl fp => (sE e (blkAt A) h7).pe) (by rw [ownN_snd]; exact h4) (notSet_ok h3 _)
      split at h6
      · cases c <;> simp only [isTT, Bool.false_eq_true] at h6
        exact ifs_tt
      · exact ifs_ok (sE c (blkAt A) h6).pt
      · cases h6
    · cases h
  · cases h
theorem one_asg {x : Expr} {env : PySem.Env} (h : ∀ a b, x ≠ .Starred a b) : (assignEach [x] env).map (·.2) = [assign x env] := by
  rw [asg_cons h]; rfl
theorem sEF (A : At C D k N sc X xv W) {v : EF} {ex : Expr} (h : kEF C N v sc ex = true) : PE X ex (readEF D X.K xv W v) := by
  cases v with
  | e x => exact (sE x A h).pe
  | f x => exact sF x A h
theorem sEFs (A : At C D k N sc X xv W) : ∀ (vals : List EF) (vs : List Expr), kEFs C N (kEF C N) sc vals vs = true → PEs X vs (vals.map (readEF D X.K xv W))
  | [], vs, h => by
    simp only [kEFs, List.isEmpty_iff] at h
    subst h
    exact .nil
  | v :: vals, vs, h => by
    simp only [kEFs] at h
    split at h
    · simp only [Bool.and_eq_true] at h
      exact .cons (sEF A h.1) (sEFs A vals _ h.2)
    · cases h
theorem noSw_sole {sc : Scope} {v t : Expr} {l : Nat} {env : PySem.Env} (hs : env.scope = sc) (hk : sc.kind = .function) (h : noSw sc t v = true) : swapsWithSole [t] v l env = pure false := noSw_ok hs hk h
/-- where a statement stands -/
structure AtS (C : Cfg) (D : Fns) (k : Nat) (N : List Str) (sc : Scope) (X : Cx) (xv : XV) (W : WX) : Prop extends At C D k N sc X xv W where
  hp : PassesOwn (model X.prog X.w) X.A X.env X.xe
  fn1 : ∀ x, X.fn x = true
  st : X.stack = X.env :: X.outer
  fr : X.env.frame = some X.env.locals
mutual
theorem s1 : ∀ (s : SS) {X : Cx} {W : WX} {st : Stmt}, AtS C D k N sc X xv W → k1 C N s sc st = true → PS X st (liftS X.K xv W (denS D s))
  | .asg g e, X, W, st, A', h => by
    have A := A'.toAt; have hf := A'.fn1
    simp only [k1] at h
    split at h
    · split at h
      · simp only [Bool.and_eq_true, Bool.or_eq_true, decide_eq_true_eq] at h
        obtain ⟨⟨hk, hg⟩, h⟩ := h
        rcases h with ⟨⟨h1, h2⟩, h3⟩ | h
        · have G := snd_G A (fun _ => hf) g _ hg
          exact snd_asgS (ps_asg (sE e A h2).pe G.lift (noSw_sole A.scp hk h1) (swapP_ok (by rw [A.scp]; exact hk) (by rw [A.scp]; exact h3)) (one_asg (chkG_star hg)))
        · split at h
          · simp only [Bool.and_eq_true, decide_eq_true_eq] at h
            obtain ⟨⟨⟨h1, h2⟩, h3⟩, h4⟩ := h
            exact snd_asgS (asg_im (lcN_ok A h1 hk h2 h3 h4))
          · cases h
      · cases h
    · cases h
  | .own i f, X, W, st, A', h => by
    have A := A'.toAt; have hf := A'.fn1
    simp only [k1] at h
    split at h
    · split at h
      · split at h
        · simp only [Bool.and_eq_true, Bool.or_eq_true, decide_eq_true_eq] at h
          obtain ⟨⟨⟨hk, hs⟩, h2⟩, h⟩ := h
          obtain ⟨g1, g2, g3⟩ := A.st (fun _ => hf) hs
          rcases h with h1 | ⟨h1, h3⟩
          · exact snd_ownS (ps_asg (sF f A h2) (pg_name (by rw [A.hN]; exact A.nd) g1 g2 g3) (noSw_sole A.scp hk h1) (swapP_ok (by rw [A.scp]; exact hk) rfl) (one_asg (fun a b z => by cases z)))
          · exact snd_ownS (lcN_ok A h1 hk h2 h3 (by rw [A.hN] at g1; exact g1))
        · cases h
      · cases h
    · cases h
  | .par js vals, X, W, st, A', h => by
    have A := A'.toAt; have hf := A'.fn1
    simp only [k1] at h
    split at h
    · split at h
      · split at h
        · simp only [Bool.or_eq_true] at h
          rcases h with h | h
          · simp only [Bool.and_eq_true, decide_eq_true_eq] at h
            obtain ⟨⟨⟨⟨⟨⟨h1, h2⟩, h3⟩, h4⟩, h5⟩, h6⟩, h7⟩ := h
            exact snd_parT A hf h1 h2 h3 h4 h5 h6 (sEFs A _ _ h7)
          split at h
          · split at h
            · simp only [Bool.and_eq_true, decide_eq_true_eq] at h
              obtain ⟨⟨⟨⟨⟨⟨⟨⟨⟨h1, h2⟩, h3⟩, h4⟩, h5⟩, h6⟩, h7⟩, h8⟩, h9⟩, h10⟩ := h
              exact snd_par2 A h1 h2 h3 h4 h5 h6 h7 h8 (sEF A h9) (sEF A h10)
            · cases h
          · split at h
            · simp only [Bool.and_eq_true, decide_eq_true_eq] at h
              obtain ⟨⟨⟨⟨⟨⟨⟨⟨⟨⟨⟨⟨⟨⟨h1, h2⟩, h3⟩, h4⟩, h5⟩, h6⟩, h7⟩, h8⟩, h9⟩, h10⟩, h11⟩, h12⟩, h13⟩, h14⟩, h15⟩ := h
              exact snd_par3 A h1 h2 h3 h4 h5 h6 h7 h8 h9 h10 h11 h12 (sEF A h13) (sEF A h14) (sEF A h15)
            · cases h
          · cases h
        · cases h
      · cases h
    · cases h
  | .sti i key val, X, W, st, A', h => by
    have A := A'.toAt; have hf := A'.fn1
    simp only [k1] at h
    split at h
    · split at h
      · split at h
        · split at h
          · simp only [Bool.and_eq_true] at h
            obtain ⟨⟨⟨h1, h2⟩, h3⟩, h4⟩ := h
            exact snd_sti A h2 h1 (sE key A h3).pe (sE val A h4).pe
          · cases h
        · cases h
      · cases h
    · cases h
  | .stc cl key val, X, W, st, A', h => by
    have A := A'.toAt; have hf := A'.fn1
    simp only [k1] at h
    split at h
    · split at h
      · split at h
        · simp only [Bool.and_eq_true] at h
          obtain ⟨⟨⟨h1, h2⟩, h3⟩, h4⟩ := h
          exact snd_stc A h1 (sE cl A h2).pe (sE key A h3).pe (sE val A h4).pe
        · cases h
      · cases h
    · cases h
  | .exp e, X, W, st, A', h => by
    have A := A'.toAt; have hf := A'.fn1
    simp only [k1] at h
    split at h
    · simp only [Bool.and_eq_true] at h
      exact snd_expS h.1 (sE e A h.2).pe
    · cases h
  | .ret e, X, W, st, A', h => by
    have A := A'.toAt; have hf := A'.fn1
    simp only [k1] at h
    split at h
    · split at h
      · exact snd_retS (sE e A h).pe
      · cases h
    · cases h
  | .retN, X, W, st, A', h => by
    have A := A'.toAt; have hf := A'.fn1
    simp only [k1] at h
    split at h
    · rename_i v _
      cases v with
      | some v => cases h
      | none => exact snd_retN
    · cases h
  | .ife c a b, X, W, st, A', h => by
    have A := A'.toAt; have hf := A'.fn1
    simp only [k1] at h
    split at h
    · simp only [Bool.and_eq_true] at h
      exact snd_ifS (sE c A h.1.1).pt (sSs a A' h.1.2) (sSs b A' h.2)
    · cases h
  | .fr g it b, X, W, st, A', h => by
    have A := A'.toAt; have hf := A'.fn1
    simp only [k1] at h
    split at h
    · simp only [Bool.and_eq_true, List.isEmpty_iff] at h
      obtain ⟨⟨⟨⟨rfl, h1⟩, h2⟩, h3⟩, h4⟩ := h
      exact snd_forS A A'.hp (sI it A h2) (snd_G A (fun _ => hf) g _ h1) (sSs b A' h4) (notSet_ok h3 _)
    · cases h
  | .whl c b, X, W, st, A', h => by
    have A := A'.toAt; have hf := A'.fn1
    simp only [k1] at h
    split at h
    · simp only [Bool.and_eq_true, List.isEmpty_iff] at h
      obtain ⟨⟨rfl, h1⟩, h2⟩ := h
      exact snd_whlS A'.hp (sE c A h1).pt (sSs b A' h2)
    · cases h
  | .brk, X, W, st, A', h => by
    have A := A'.toAt; have hf := A'.fn1
    simp only [k1] at h
    split at h
    · exact snd_brk
    · cases h
  | .cont, X, W, st, A', h => by
    have A := A'.toAt; have hf := A'.fn1
    simp only [k1] at h
    split at h
    · exact snd_cont
    · cases h
  | .pass, X, W, st, A', h => by
    have A := A'.toAt; have hf := A'.fn1
    simp only [k1] at h
    split at h
    · exact snd_pass
    · split at h
      · split at h
        · exact snd_doc
        · cases h
      · cases h
    · cases h
  | .rsc c a, X, W, st, A', h => by
    have A := A'.toAt
    simp only [k1] at h
    split at h
    · split at h
      · split at h
        · split at h
          · simp only [Bool.and_eq_true, List.isEmpty_iff] at h
            obtain ⟨⟨⟨rfl, h1⟩, h2⟩, h3⟩ := h
            exact snd_rsc A h1 h2 (sA a A h3)
          · cases h
        · cases h
      · cases h
    · cases h
  | .tr b hs, X, W, st, A', h => by
    simp only [k1] at h
    split at h
    · simp only [Bool.and_eq_true, List.isEmpty_iff, Bool.not_eq_true'] at h
      obtain ⟨⟨⟨⟨⟨rfl, rfl⟩, h1⟩, h2⟩, h3⟩, h4⟩ := h
      refine snd_tr A'.toAt A'.st A'.fr (fun W pn xe tk po => sSs b (X := X.tr pn xe) ?_ h4) h1 h2 h3
      exact ⟨⟨A'.hN, A'.nd, A'.scp, A'.calm, A'.gd, A'.rm, A'.rm2, A'.bl, A'.fn, A'.glb, A'.imb, tk, A'.xo, A'.rx, A'.xq, A'.xc⟩, po, A'.fn1, A'.st, A'.fr⟩
    · cases h
  | .rse, X, W, st, A', h => by exact snd_rse
  | .nil, X, W, st, A', h => by simp [k1] at h
  | .cons _ _, X, W, st, A', h => by simp [k1] at h
theorem sSs : ∀ (s : SS) {X : Cx} {W : WX} {sts : List Stmt}, AtS C D k N sc X xv W → kS C N s sc sts = true → PSs X sts (liftS X.K xv W (denS D s))
  | .nil, X, W, sts, A', h => by
    simp only [kS, List.isEmpty_iff] at h
    subst h
    exact snd_nilS
  | .cons s r, X, W, sts, A', h => by
    simp only [kS] at h
    split at h
    · simp only [Bool.and_eq_true] at h
      exact snd_consS (s1 s A' h.1) (sSs r A' h.2)
    · cases h
  | .asg _ _, _, _, _, _, h => by simp [kS] at h
  | .rsc _ _, _, _, _, _, h => by simp [kS] at h
  | .tr _ _, _, _, _, _, h => by simp [kS] at h
  | .own _ _, _, _, _, _, h => by simp [kS] at h
  | .par _ _, _, _, _, _, h => by simp [kS] at h
  | .sti _ _ _, _, _, _, _, h => by simp [kS] at h
  | .stc _ _ _, _, _, _, _, h => by simp [kS] at h
  | .exp _, _, _, _, _, h => by simp [kS] at h
  | .ret _, _, _, _, _, h => by simp [kS] at h
  | .retN, _, _, _, _, h => by simp [kS] at h
  | .ife _ _ _, _, _, _, _, h => by simp [kS] at h
  | .fr _ _ _, _, _, _, _, h => by simp [kS] at h
  | .whl _ _, _, _, _, _, h => by simp [kS] at h
  | .brk, _, _, _, _, h => by simp [kS] at h
  | .cont, _, _, _, _, h => by simp [kS] at h
  | .pass, _, _, _, _, h => by simp [kS] at h
  | .rse, _, _, _, _, h => by simp [kS] at h
end
end
end Py

-- text PyY
set_option Elab.async false
set_option linter.all false
set_option maxRecDepth 100000
set_option maxHeartbeats 4000000
namespace Py
open PySem PySem.Spec PyProof.Rows L2
/-! ### the whole program -/
/-- a def of the text and what it is in the small language -/
structure DF where
  fi : FI
  st : Stmt
  N : List Str
  fd : FD
def fnsK (P : List FD) (k : Nat) : Fns := ⟨isoP P, runP P k⟩
def scopeB (N ps : List Str) (sc : Scope) : Bool :=
  decide (sc.kind = .function) && !sc.isCoroutine && !sc.isGenerator && decide N.Nodup && decide (N.take ps.length = ps) &&
  ps.all (fun x => decide (sc.names.lookup x = some .local) || decide (sc.names.lookup x = some .cell)) && sc.names.all (fun y => !decide (y.2 = .free))
theorem scopeB_ok {N ps : List Str} {sc : Scope} (h : scopeB N ps sc = true) : FnScope N ps sc := by
  unfold scopeB at h
  simp only [Bool.and_eq_true, decide_eq_true_eq, Bool.not_eq_true', List.all_eq_true, Bool.or_eq_true, decide_eq_false_iff_not] at h
  obtain ⟨⟨⟨⟨⟨⟨h1, h2⟩, h3⟩, h4⟩, h5⟩, h6⟩, h7⟩ := h
  exact ⟨h1, h2, h3, h4, h5, h6, h7⟩
def dfB (C : Cfg) (d : DF) : Bool := scopeB d.N d.fi.ps (defScope d.st) && decide (d.fd.np = d.fi.ps.length) && decide (d.fd.ns = d.N.length) && kS C d.N d.fd.body (defScope d.st) (defBody d.st)
section
variable {prog : Program} {w : World} {K : PySem.W.Frag} {mg : Str → Option Value} {base : Heap}
/-- what is known of the def's object -/
structure Known (K : PySem.W.Frag) (mg : Str → Option Value) (d : DF) (f : Addr) (fd : FuncData) : Prop where
  fn : Fun K d.fi.nm d.fi.nm d.st f fd
  mg : mg d.fi.nm = some (.ref f)
  b : BindsK K fd d.fi.ps d.fi.ps.length [] (List.range d.fi.ps.length)
  kw : ∀ t ∈ d.fi.kw, BindsK K fd d.fi.ps t.1 t.2.1 t.2.2
def Tab (prog : Program) (w : World) (K : PySem.W.Frag) (mg : Str → Option Value) (base : Heap) (C : Cfg) (ds : List DF) (k : Nat) : Prop :=
  ∀ (i : Nat) (d : DF), ds[i]? = some d → ∀ f fd, Known K mg d f fd → FnX prog w K mg base (k + 3) f fd d.fi.ps (spF K (xvOf C.xs mg) (fnsK (ds.map (·.fd)) k) d.fi.ps.length i)
theorem sit_start {p : Pl} {N : List Str} {xs : List MV} {vs : List V} {mh : Option (List Cn)} {H : Hp} (hr : HR p H mh) (r : RVs p H xs vs) : Sit p ⟨startE N.length xs, mh⟩ (L2.start N vs) H := by
  have hl := r.len
  have key : ∀ (i : Nat) (y : Slot), (startE N.length xs)[i]? = some (some y) → ∃ x, xs[i]? = some x ∧ y = .v x := fun i y e => by
    unfold startE at e
    by_cases hi : i < xs.length
    · rw [List.getElem?_append_left (by simpa using hi), List.getElem?_map] at e
      cases q : xs[i]? with
      | none => rw [q] at e; cases e
      | some x => rw [q] at e; cases e; exact ⟨x, rfl, rfl⟩
    · rw [List.getElem?_append_right (by simpa using hi)] at e
      have := List.mem_of_getElem? e
      simp at this
  refine ⟨hr, by simp [L2.start, startE, hl], fun i x e => ?_, fun i c e => ?_, fun i j c d a e => ?_⟩
  · obtain ⟨y, e1, e2⟩ := key i _ e
    cases e2
    obtain ⟨v, g1, g2⟩ := r.get' e1
    refine ⟨v, ?_, g2⟩
    unfold L2.start
    rw [List.getElem?_append_left (by simpa using (List.getElem?_eq_some_iff.mp g1).1), List.getElem?_map, g1]
    rfl
  · obtain ⟨y, _, e2⟩ := key i _ e
    cases e2
  · obtain ⟨y, _, e2⟩ := key i _ e
    cases e2
theorem tab_all {C : Cfg} {ds : List DF} (hC : C.fs = ds.map (·.fi)) (hd : ∀ d ∈ ds, dfB C d = true) (hk : ∀ d ∈ ds, ∃ f fd, Known K mg d f fd) (hb : ∀ x ∈ C.bl, mg x = none) (hgl : ∀ g ∈ C.gl, GlbOk K mg g.1 g.2) (him : ∀ g ∈ C.im, mg g.1 = some (.builtin g.2)) (hxc : ∀ (c : Nat) (x : XI), C.xs[c]? = some x → ∃ Ca, XCls K mg C.xn x Ca) : ∀ k, Tab prog w K mg base C ds k
  | 0 => fun i d e f fd kn => ⟨fun vs H Q E h => h.1, fun A outer s H args us vs Q E _ _ _ _ _ h => by
      obtain ⟨_, p, xs, mh, _, _, _, _, _, h⟩ := h
      exact h.elim⟩
  | k + 1 => fun i d e f fd kn => by
    have ih := tab_all hC hd hk hb hgl him hxc k
    have hm : d ∈ ds := List.mem_of_getElem? e
    have hB := hd d hm
    unfold dfB at hB
    simp only [Bool.and_eq_true, decide_eq_true_eq] at hB
    obtain ⟨⟨⟨b1, b2⟩, b3⟩, b4⟩ := hB
    have fsc := scopeB_ok b1
    refine FnX.of kn.fn fsc (fun vs H Q E h => h.1) fun cdv A outer s H vs Q E hg hr hr2 hsp => ?_
    have A' : AtS C (fnsK (ds.map (·.fd)) k) (k + 3) d.N (defScope d.st) (cxOf (L2.CX prog w) prog w K mg base d.N d.fi.nm (defScope d.st) f cdv A outer s H E) (xvOf C.xs mg) (fun cls d _ G => E cls d G) := by
      refine ⟨⟨rfl, fsc.nd, rfl, rfl, hg, hr, hr2, hb, fun j g ej => ?_, hgl, him, takes_of rfl rfl rfl rfl, xvOf_ok _ _, hr.mono (by omega), rfl, hxc⟩, passes_of rfl, fun _ => rfl, rfl, rfl⟩
      rw [hC, List.getElem?_map] at ej
      cases q : ds[j]? with
      | none => rw [q] at ej; cases ej
      | some d' =>
        rw [q] at ej
        cases ej
        obtain ⟨f', fd', kn'⟩ := hk d' (List.mem_of_getElem? q)
        exact ⟨f', fd', kn'.mg, kn'.fn.kp, ih j d' q f' fd' kn', kn'.b, kn'.kw⟩
    refine ⟨_, sSs d.fd.body A' b4, ?_⟩
    obtain ⟨hl, p, xs, mh, hK, hr', hω, rv, hiso, h⟩ := hsp
    refine ⟨p, ⟨startE d.N.length xs, mh⟩, hK, sit_start hr' rv, ?_⟩
    have hrun : (fnsK (ds.map (·.fd)) (k + 1)).run i xs mh = runB (fnsK (ds.map (·.fd)) k) d.fd xs mh := by
      show runP (ds.map (·.fd)) (k + 1) i xs mh = _
      unfold runP
      rw [List.getElem?_map, e]
      rfl
    rw [hrun] at h
    unfold runB at h
    have hxl : xs.length = d.fd.np := by rw [b2, ← hl, rv.len]
    rw [if_pos hxl, b3] at h
    cases en : denS (fnsK (ds.map (·.fd)) k) d.fd.body ⟨startE d.N.length xs, mh⟩ with
    | ok fl s' =>
      rw [en] at h
      cases fl with
      | nx => exact fun σ' p' H' st S => h .non p' H' st S.hr (by simp [RV])
      | rt x => exact fun σ' v p' H' st S rx => h v p' H' st S.hr rx
      | bk => exact h.elim
      | ct => exact h.elim
    | ex c us s' => rw [en] at h; exact fun σ' cls d p' H' st S hx => h cls d p' H' st S.hr hx
    | no => rw [en] at h; exact h.elim
end
/-! ### the law's own call -/
/-- the script alone is told of, if it is no object of the module -/
def scrH (K : PySem.W.Frag) (a : Addr) (ob : Obj) (ns : List Int) : Hp := fun b => if b = a ∧ K.lookup a = none then some (.frz ob (.lst (ns.map V.int))) else none
theorem scrH_some {K : PySem.W.Frag} {a b : Addr} {ob : Obj} {ns : List Int} {u : HO} (h : scrH K a ob ns b = some u) : b = a ∧ K.lookup a = none ∧ u = .frz ob (.lst (ns.map V.int)) := by
  unfold scrH at h
  split at h
  · rename_i q; cases h; exact ⟨q.1, q.2, rfl⟩
  · cases h
theorem scr_rv {K : PySem.W.Frag} {p : Pl} {a : Addr} {ob : Obj} {vs : List Value} {ns : List Int} {h : Heap} (hp : p.K = K) (hin : K.In h) (ho : h.get? a = some ob) (he : ob = { cls := .type "list", data := .seq vs.toArray }) (r : Vals (ns.map V.int) vs) (hl : ns.length ≤ sizeLine) :
    RV p (scrH K a ob ns) (.scr (ns.map .int)) (.ref a) := by
  simp only [RV]
  refine ⟨a, ns.map V.int, rfl, ?_, RVs.ints ns⟩
  cases q : K.lookup a with
  | none => exact .inl ⟨ob, if_pos ⟨rfl, q⟩⟩
  | some o =>
    have e2 := hin a o q
    rw [ho] at e2
    cases e2
    subst he
    refine .inr fun G => .inr ⟨_, vs.toArray, _, by rw [hp]; exact q, rfl, rfl, rfl, ?_, by simpa using r⟩
    have := r.length
    rw [List.length_map] at this
    rw [List.size_toArray, ← this]; exact hl
theorem law_end {P : Program} {w : World} {K : PySem.W.Frag} {mg mb : Str → Option Value} {k : Nat} {fa a : Addr} {fd : FuncData} {x : Str} {sp : List V → Hp → VK → Prop} {t : Shared} {vs : List Value} {ns : List Int} {ob : Obj}
    (hin : K.In t.heap) (hm : t.heap.Ns mainGlobals mg) (hb : t.heap.Ns builtinsNs mb) (hbb : ∀ z : Str, z ≠ "__name__" → mb z = bootBuiltins z) (hlim : t.heap.NoLimit) (hg : t.gens = #[])
    (ho : t.heap.get? a = some ob) (he : ob = { cls := .type "list", data := .seq vs.toArray }) (hi : IntsAre vs ns) (hl : ns.length ≤ sizeLine) (hr : Room k callerA)
    (F : ∀ base : Heap, K.In base → base.Ns mainGlobals mg → FnG P w K mg base k fa fd [x] sp) (hbd : ∀ (s : Shared) (u : Value), BindsTo s fd ⟨[u], []⟩ [(x, u)])
    (hsp : sp [.ref a] (scrH K a ob ns) fun v _ => v = .bl true) :
    codeAny (model P w) callerA (.call (.ref fa) ⟨[.ref a], []⟩) (fun r z => r = .ok (.ret (.bool true)) ∧ OldK t.heap z.heap ∧ z.os = t.os ∧ AllBare z.gens) t := by
  have r := vals_ints hi
  have notDict : ∀ {b : Addr} {o : Obj} {es : Array DictEntry} {ep : Nat}, t.heap.get? b = some o → o.data = .dict es ep → scrH K a ob ns b = none := fun {b o es ep} e d => by
    cases q : scrH K a ob ns b with
    | none => rfl
    | some u =>
      obtain ⟨rfl, _, _⟩ := scrH_some q
      rw [ho] at e; cases e
      subst he
      cases d
  have nsOf : ∀ {b : Addr} {m : Str → Option Value}, t.heap.Ns b m → (hidT t.heap (scrH K a ob ns)).Ns b m := fun ⟨o, es, ep, e, d, c⟩ => ⟨o, es, ep, hidT_get e (notDict e d), d, c⟩
  have inOf : K.In (hidT t.heap (scrH K a ob ns)) := fun b o e => hidT_get (hin b o e) (by
    cases q : scrH K a ob ns b with
    | none => rfl
    | some u =>
      obtain ⟨rfl, h2, _⟩ := scrH_some q
      rw [h2] at e; cases e)
  have hok : HOk P w (scrH K a ob ns) t.heap := fun b u q => by
    obtain ⟨rfl, _, rfl⟩ := scrH_some q
    subst he
    exact ⟨ho, by rw [List.length_map]; exact hl, vs, _, r, ho⟩
  obtain ⟨ml, l1, l2⟩ := hlim
  have env0 : Env0 P w K mg (hidT t.heap (scrH K a ob ns)) callerA [] t (scrH K a ob ns) :=
    { frames := rfl, mod := ⟨inOf, nsOf hm, ⟨mb, nsOf hb, hbb⟩, ⟨ml, nsOf l1, l2⟩⟩, bs := fun b o e => of_hidT e, bsz := Nat.le_of_eq (hidT_size _ _), funs := trivial, frf := fun b z => (nomatch z), hok := hok, bare := .of_eq hg }
  refine codeAny_mono ((F _ inOf (nsOf hm)).run callerA [] t (scrH K a ob ns) ⟨[.ref a], []⟩ [.ref a] [.ref a] _ rfl hr env0 (hbd t (.ref a)) (.cons rfl .nil) hsp) fun z s' hz => ?_
  match z, hz with
  | .error e, hz => exact False.elim hz
  | .ok .next, hz => exact False.elim hz
  | .ok .brk, hz => exact False.elim hz
  | .ok .cont, hz => exact False.elim hz
  | .ok (.ret u), ⟨v, H2, g1, g2, un, hok2, rv, hv⟩ =>
    have hv' : v = .bl true := hv
    subst hv'
    obtain rfl : u = Value.bool true := rv
    refine ⟨rfl, OldK.of_keep fun b o e => ?_, g1, g2⟩
    cases q : scrH K a ob ns b with
    | none => exact un.keep b o e q (fun z => nomatch z) (fun z => nomatch z)
    | some u =>
      obtain ⟨rfl, _, rfl⟩ := scrH_some q
      have g3 := hok2 _ _ (un.frzs _ _ _ q)
      rw [ho] at e; cases e
      exact g3.1
/-- the law's row: its own def runs to True on every script -/
theorem row_of {l : PySem.W.OpenLaw} {n k : Nat} {q : Program} {loose : List Str} {XP : (Str → Option Value) → Heap → Prop} {YP : World → Heap → Prop} {d : DefRec} {K : Params → PySem.W.Frag} {C : Cfg} {ds : List DF} {i : Nat} {df : DF} {x : Str}
    (hn : l.most = some n) (hn2 : n ≤ sizeLine) (hdf : d.params.defaults = []) (hr : Room (k + 3) callerA) (hY : ∀ (w : World) (h : Heap), YP w h → (K w.params).In h)
    (hC : C.fs = ds.map (·.fi)) (hd : ds.all (dfB C) = true) (hi : ds[i]? = some df) (hps : df.fi.ps = [x]) (hnm : df.fi.nm = d.name)
    (facts : ∀ (w : World) (mg : Str → Option Value) (h : Heap), (K w.params).In h → h.Ns mainGlobals mg → (∀ z ∈ C.bl, mg z = none) ∧ ((∀ g ∈ C.gl, GlbOk (K w.params) mg g.1 g.2) ∧ ∀ g ∈ C.im, mg g.1 = some (.builtin g.2)) ∧ (∀ (c : Nat) (x : XI), C.xs[c]? = some x → ∃ Ca, XCls (K w.params) mg C.xn x Ca) ∧ ∀ g ∈ ds, ∃ f fd, Known (K w.params) mg g f fd)
    (hbd : ∀ (K : PySem.W.Frag) (f : Addr) (fd : FuncData), Fun K df.fi.nm df.fi.nm df.st f fd → ∀ (s : Shared) (u : Value), BindsTo s fd ⟨[u], []⟩ [(x, u)])
    (iso : isoP (ds.map (·.fd)) i = false) (run : ∀ ns : List Int, ns.length ≤ n → ∃ mh, runP (ds.map (·.fd)) k i [.scr (ns.map .int)] (some []) = .ok (.bl true) mh) :
    PySem.W.WalkO q loose XP YP l.row.toRowW d [] (fun f vs => PySem.call f vs) := by
  refine Att.attach_call hn hdf fun w s₀ t mg mb fa o pm cd doc a vs ns G Y ho hfd hcd hmg hobj hints hlen hg => ?_
  have hin := hY w _ Y
  obtain ⟨hbl, ⟨hgl, him⟩, hxc, hkn⟩ := facts w mg _ hin G.T.g
  obtain ⟨f, fd, kn⟩ := hkn df (List.mem_of_getElem? hi)
  have hf : f = fa := by
    have e := kn.mg
    rw [hnm, hmg] at e
    cases e; rfl
  subst hf
  have T : ∀ base : Heap, FnG l.prog w (K w.params) mg base (k + 3) f fd [x] (fun vs H Q => spF (K w.params) (xvOf C.xs mg) (fnsK (ds.map (·.fd)) k) 1 i vs H Q E0) := fun base => by
    have := tab_all (prog := l.prog) (w := w) (base := base) hC (fun d hd' => List.all_eq_true.mp hd d hd') hkn hbl hgl him hxc k i df hi f fd kn
    rw [hps] at this
    exact this.g
  refine law_end hin G.T.g G.T.b G.T.builtins G.T.nolimit hg hobj rfl hints (Nat.le_trans hlen hn2) hr (fun base _ _ => T base) (hbd _ f fd kn.fn) ?_
  obtain ⟨mh, e⟩ := run ns hlen
  have hr0 : HR ⟨K w.params, fun _ => False, true, [], []⟩ (scrH (K w.params) a { cls := .type "list", data := .seq vs.toArray } ns) (some []) := by
    refine ⟨rfl, fun l e => ?_, List.nodup_nil, fun l j b c e1 e2 _ => ?_, fun b hb => ?_, fun b hb => hb.elim, fun b hb => ?_⟩
    · cases e; rfl
    · cases e2
    · rcases hb with hb | hb | hb <;> cases hb
    · cases hb
  refine ⟨rfl, ⟨K w.params, fun _ => False, true, [], []⟩, [.scr (ns.map .int)], some [], rfl, hr0, rfl, ?_, fun z => ?_, ?_⟩
  · exact .one (scr_rv rfl hin hobj rfl (vals_ints hints) (Nat.le_trans hlen hn2))
  · have : isoP (ds.map (·.fd)) i = true := z
    rw [iso] at this; cases this
  · show match runP (ds.map (·.fd)) k i [.scr (ns.map .int)] (some []) with | .ok x mh' => _ | .ex c us mh' => _ | .no => _
    rw [e]
    intro v p' H' _ _ rv
    simpa only [RV] using rv
theorem glb_int {K : PySem.W.Frag} {mg : Str → Option Value} {x : Str} {n : Int} {t : Tok} (h : mg x = some (.int n t)) : GlbOk K mg x (.int n) := ⟨.int n, _, h, ⟨t, rfl⟩, fun p H _ => by simp [RV]⟩
theorem glb_str {K : PySem.W.Frag} {mg : Str → Option Value} {x : Str} {n : Str} {t : Tok} (h : mg x = some (.str n t)) : GlbOk K mg x (.str n) := ⟨.str n, _, h, ⟨t, rfl⟩, fun p H _ => by simp [RV]⟩
end Py

-- text PyZ
set_option Elab.async false
set_option linter.all false
set_option maxRecDepth 100000
set_option maxHeartbeats 4000000
namespace Py
open PySem
/-! ### running: what a comprehension makes -/
/-- the two states differ at the slots own alone -/
def SameX (own : List Nat) (s s' : S) : Prop := s'.mh = s.mh ∧ wipeE s'.env own = wipeE s.env own
theorem SameX.refl (own : List Nat) (s : S) : SameX own s s := ⟨rfl, rfl⟩
theorem SameX.trans {own : List Nat} {a b c : S} (h : SameX own a b) (k : SameX own b c) : SameX own a c := ⟨k.1.trans h.1, k.2.trans h.2⟩
theorem mapC_run {own : List Nat} {g : MV → M Unit} {c : M Bool} {e : M MV} {p : MV → Bool} {f : MV → MV} : ∀ (xs acc : List MV) {s : S}, acc.length + xs.length ≤ sizeLine →
    (∀ x ∈ xs, ∃ s3 s4 s5, g x { s with env := wipeE s.env own } = .ok () s3 ∧ c s3 = .ok (p x) s4 ∧ (p x = true → e s4 = .ok (f x) s5 ∧ SameX own s s5) ∧ (p x = false → SameX own s s4)) →
    ∃ s', mapC own g c e xs acc s = .ok (acc ++ (xs.filter p).map f) s' ∧ SameX own s s'
  | [], acc, s, _, _ => ⟨s, by unfold mapC; simp [ret_eq], SameX.refl _ _⟩
  | x :: xs, acc, s, hl, h => by
    obtain ⟨s3, s4, s5, h1, h2, h3, h4⟩ := h x List.mem_cons_self
    have next : ∀ {t : S} (bcc : List MV), SameX own s t → bcc.length + xs.length ≤ sizeLine → ∃ s', mapC own g c e xs bcc t = .ok (bcc ++ (xs.filter p).map f) s' ∧ SameX own s s' := by
      intro t bcc st hb
      obtain ⟨s', e1, e2⟩ := mapC_run xs bcc (s := t) hb fun y hy => by
        obtain ⟨t3, t4, t5, k1, k2, k3, k4⟩ := h y (List.mem_cons_of_mem _ hy)
        have hst : ({ t with env := wipeE t.env own } : S) = { s with env := wipeE s.env own } := by
          have := st.1; have := st.2
          cases t; cases s; simp_all
        exact ⟨t3, t4, t5, by rw [hst]; exact k1, k2, fun z => ⟨(k3 z).1, ⟨(k3 z).2.1.trans st.1.symm, (k3 z).2.2.trans st.2.symm⟩⟩, fun z => ⟨(k4 z).1.trans st.1.symm, (k4 z).2.trans st.2.symm⟩⟩
      exact ⟨s', e1, st.trans e2⟩
    simp only [List.length_cons] at hl
    cases hp : p x with
    | true =>
      obtain ⟨k1, k2⟩ := h3 hp
      obtain ⟨s', e1, e2⟩ := next (acc ++ [f x]) k2 (by simp; omega)
      refine ⟨s', ?_, e2⟩
      unfold mapC
      rw [bnd_eq]
      simp only [wipeS, bnd_eq, h1, h2, hp, if_true, k1]
      rw [if_pos (by omega), e1]
      simp [hp]
    | false =>
      obtain ⟨s', e1, e2⟩ := next acc (h4 hp) (by omega)
      refine ⟨s', ?_, e2⟩
      unfold mapC
      rw [bnd_eq]
      simp only [wipeS, bnd_eq, h1, h2, hp, Bool.false_eq_true, if_false]
      rw [e1]
      simp [hp]
/-- the own slots come back, if they were values or nothing -/
theorem back_eq {own : List Nat} {o e : List (Option Slot)} (h : wipeE e own = wipeE o own) (hv : ∀ i ∈ own, ∀ c, o[i]? ≠ some (some (.o c))) : backE o e own = o := by
  have hlen : e.length = o.length := by have := congrArg List.length h; rw [wipeE_len, wipeE_len] at this; exact this
  have key : ∀ (vs : List Nat) (i : Nat), (∀ i ∈ vs, ∀ c, o[i]? ≠ some (some (.o c))) → (backE o e vs)[i]? = if i ∈ vs then o[i]? else e[i]? := by
    intro vs
    induction vs with
    | nil => intro i _; simp [backE]
    | cons v vs ih =>
      intro i hn
      unfold backE
      by_cases q : v = i
      · subst q
        by_cases hi : v < o.length
        · rw [List.getElem?_set_self (by rw [backE_len, hlen]; exact hi), if_pos List.mem_cons_self]
          have hq := hn v List.mem_cons_self
          rw [List.getElem?_eq_getElem hi] at hq ⊢
          cases hx : o[v] with
          | none => simp [valSl, hx]
          | some y =>
            cases y with
            | v y => simp [valSl, hx]
            | o y => exact absurd (by rw [hx]) (hq y)
        · rw [List.getElem?_eq_none (by simp [backE_len, hlen]; omega), List.getElem?_eq_none (by omega)]; simp
      · rw [List.getElem?_set_ne q, ih i fun j hj => hn j (List.mem_cons_of_mem _ hj)]
        by_cases m : i ∈ vs
        · rw [if_pos m, if_pos (List.mem_cons_of_mem _ m)]
        · rw [if_neg m, if_neg]
          simp only [List.mem_cons, not_or]
          exact ⟨fun z => q z.symm, m⟩
  apply List.ext_getElem?
  intro i
  rw [key own i hv]
  split
  · rfl
  · rename_i m
    have := congrArg (·[i]?) h
    simp only [wipeE_out m] at this
    exact this
theorem lcM_run {own : List Nat} {g : MV → M Unit} {c : M Bool} {e : M MV} {p : MV → Bool} {f : MV → MV} {xs : List MV} {s : S} (hl : xs.length ≤ sizeLine) (hv : ∀ i ∈ own, ∀ c, s.env[i]? ≠ some (some (.o c)))
    (h : ∀ x ∈ xs, ∃ s3 s4 s5, g x { s with env := wipeE s.env own } = .ok () s3 ∧ c s3 = .ok (p x) s4 ∧ (p x = true → e s4 = .ok (f x) s5 ∧ SameX own s s5) ∧ (p x = false → SameX own s s4)) :
    lcM own g c e xs s = .ok (.l ((xs.filter p).map f)) s := by
  obtain ⟨s', e1, e2⟩ := mapC_run xs [] (by simpa using hl) h
  unfold lcM
  rw [e1]
  simp only [List.nil_append]
  rw [back_eq e2.2 hv]
  have := e2.1
  cases s'; cases s
  simp_all
/-- over the pictures h z of a row -/
theorem lcM_of {α : Type} {own : List Nat} {g : MV → M Unit} {c : M Bool} {e : M MV} (h : α → MV) (p : α → Bool) (f : α → MV) (zs : List α) {s : S} (hl : zs.length ≤ sizeLine) (hv : ∀ i ∈ own, ∀ c, s.env[i]? ≠ some (some (.o c)))
    (st : ∀ z ∈ zs, ∃ s3 s4 s5, g (h z) { s with env := wipeE s.env own } = .ok () s3 ∧ c s3 = .ok (p z) s4 ∧ (p z = true → e s4 = .ok (f z) s5 ∧ SameX own s s5) ∧ (p z = false → SameX own s s4)) :
    lcM own g c e (zs.map h) s = .ok (.l ((zs.filter p).map f)) s := by
  have key : ∀ (zs : List α) (acc : List MV) (t : S), SameX own s t → acc.length + zs.length ≤ sizeLine → (∀ z ∈ zs, ∃ s3 s4 s5, g (h z) { s with env := wipeE s.env own } = .ok () s3 ∧ c s3 = .ok (p z) s4 ∧ (p z = true → e s4 = .ok (f z) s5 ∧ SameX own s s5) ∧ (p z = false → SameX own s s4)) →
      ∃ s', mapC own g c e (zs.map h) acc t = .ok (acc ++ (zs.filter p).map f) s' ∧ SameX own s s' := by
    intro zs
    induction zs with
    | nil => intro acc t ht _ _; exact ⟨t, by simp [mapC, ret_eq], ht⟩
    | cons z zs ih =>
      intro acc t ht hl st
      obtain ⟨s3, s4, s5, h1, h2, h3, h4⟩ := st z List.mem_cons_self
      have hst : ({ t with env := wipeE t.env own } : S) = { s with env := wipeE s.env own } := by
        have := ht.1; have := ht.2
        cases t; cases s; simp_all
      simp only [List.length_cons] at hl
      cases hp : p z with
      | true =>
        obtain ⟨k1, k2⟩ := h3 hp
        obtain ⟨s', e1, e2⟩ := ih (acc ++ [f z]) s5 k2 (by simp; omega) fun y hy => st y (List.mem_cons_of_mem _ hy)
        refine ⟨s', ?_, e2⟩
        simp only [List.map_cons, mapC, bnd_eq, wipeS, hst, h1, h2, hp, if_true, k1]
        rw [if_pos (by omega), e1]
        simp [hp]
      | false =>
        obtain ⟨s', e1, e2⟩ := ih acc s4 (h4 hp) (by omega) fun y hy => st y (List.mem_cons_of_mem _ hy)
        refine ⟨s', ?_, e2⟩
        simp only [List.map_cons, mapC, bnd_eq, wipeS, hst, h1, h2, hp, Bool.false_eq_true, if_false]
        rw [e1]
        simp [hp]
  obtain ⟨s', e1, e2⟩ := key zs [] s (SameX.refl _ _) (by simpa using hl) st
  unfold lcM
  rw [e1]
  simp only [List.nil_append]
  rw [back_eq e2.2 hv]
  have := e2.1
  cases s'; cases s
  simp_all
theorem ints_map : ∀ xs : List Int, ints? (xs.map MV.int) = some xs
  | [] => rfl
  | x :: xs => by simp [ints?, ints_map xs]
/-! ### rows of ints: membership, equality -/
theorem toDs_ints : ∀ xs : List Int, toDs (xs.map MV.int) = some (xs.map PyData.int)
  | [] => rfl
  | x :: xs => by simp [toDs, MV.toD, toDs_ints xs]
theorem lay_ints : ∀ xs : List Int, PyData.canLayAll0 (xs.map PyData.int) = true ∧ PyData.depthAll (xs.map PyData.int) = 0
  | [] => ⟨rfl, rfl⟩
  | x :: xs => by
    obtain ⟨h1, h2⟩ := lay_ints xs
    exact ⟨by simp [PyData.canLayAll0, PyData.canLay0, h1], by simp [PyData.depthAll, PyData.depth, h2]⟩
theorem okD_int (i : Int) : okD (.int i) = true := rfl
theorem okD_ints (xs : List Int) : okD (.list (xs.map PyData.int)) = true := by
  obtain ⟨h1, h2⟩ := lay_ints xs
  simp [okD, SeqAt.shaped, PyData.canLay0, PyData.depth, h1, h2]
theorem okD_tints (xs : List Int) : okD (.tuple (xs.map PyData.int)) = true := by
  obtain ⟨h1, h2⟩ := lay_ints xs
  simp [okD, SeqAt.shaped, PyData.canLay0, PyData.depth, h1, h2]
theorem any_ints (i : Int) : ∀ xs : List Int, ((xs.map PyData.int).any fun e => PyData.eqv e (.int i)) = decide (i ∈ xs)
  | [] => rfl
  | x :: xs => by
    simp only [List.map_cons, List.any_cons, any_ints i xs, PyData.eqv]
    by_cases h : x = i
    · simp [h]
    · have h' : ¬ i = x := fun z => h z.symm
      simp [h, h']
theorem inS_ints (i : Int) (xs : List Int) : inS (.int i) (.tup (xs.map MV.int)) = some (decide (i ∈ xs)) := by
  simp only [inS, MV.toD, items?, toDs_ints]
  rw [okD_int, okD_ints]
  simp only [Bool.and_self, if_true, any_ints]
theorem inS_lints (i : Int) (xs : List Int) : inS (.int i) (.lst (xs.map MV.int)) = some (decide (i ∈ xs)) := by
  simp only [inS, MV.toD, items?, toDs_ints]
  rw [okD_int, okD_ints]
  simp only [Bool.and_self, if_true, any_ints]
theorem eqvAll_ints : ∀ xs ys : List Int, PyData.eqvAll (xs.map PyData.int) (ys.map PyData.int) = decide (xs = ys)
  | [], [] => rfl
  | [], y :: ys => rfl
  | x :: xs, [] => rfl
  | x :: xs, y :: ys => by
    simp only [List.map_cons, PyData.eqvAll, PyData.eqv, eqvAll_ints xs ys, List.cons.injEq, Bool.decide_and]
    rfl
theorem eqD_lints (xs ys : List Int) : eqD (.lst (xs.map MV.int)) (.lst (ys.map MV.int)) = some (decide (xs = ys)) := by
  simp only [eqD, MV.toD, toDs_ints, Option.map_some]
  rw [okD_ints, okD_ints]
  simp only [Bool.and_self, if_true, PyData.eqv, eqvAll_ints]
theorem eqD_int (i j : Int) : eqD (.int i) (.int j) = some (decide (i = j)) := by
  simp only [eqD, MV.toD, okD_int, Bool.and_self, if_true, PyData.eqv]
  rfl
/-! ### statement by statement -/
section
variable {D : Fns} {s s' : S}
theorem cons_nx {a b : SS} (h : denS D a s = .ok .nx s') : denS D (.cons a b) s = denS D b s' := by simp only [denS, bnd_eq, h]
theorem cons_rt {a b : SS} {x : MV} (h : denS D a s = .ok (.rt x) s') : denS D (.cons a b) s = .ok (.rt x) s' := by simp only [denS, bnd_eq, h, ret_eq]
theorem cons_bk {a b : SS} (h : denS D a s = .ok .bk s') : denS D (.cons a b) s = .ok .bk s' := by simp only [denS, bnd_eq, h, ret_eq]
theorem cons_ct {a b : SS} (h : denS D a s = .ok .ct s') : denS D (.cons a b) s = .ok .ct s' := by simp only [denS, bnd_eq, h, ret_eq]
theorem ife_t {c : E} {a b : SS} (h : tstE D c s = .ok true s') : denS D (.ife c a b) s = denS D a s' := by simp only [denS, bnd_eq, h, if_true]
theorem ife_f {c : E} {a b : SS} (h : tstE D c s = .ok false s') : denS D (.ife c a b) s = denS D b s' := by simp only [denS, bnd_eq, h, Bool.false_eq_true, if_false]
theorem nilS : denS D .nil s = .ok .nx s := by simp only [denS, ret_eq]
theorem retS {e : E} {x : MV} (h : denE D e s = .ok x s') : denS D (.ret e) s = .ok (.rt x) s' := by simp only [denS, bnd_eq, h, ret_eq]
theorem asgS {g : G} {e : E} {x : MV} {s2 : S} (h : denE D e s = .ok x s') (h2 : bindG g x s' = .ok () s2) : denS D (.asg g e) s = .ok .nx s2 := by simp only [denS, bnd_eq, h, h2, ret_eq]
theorem expS {e : E} {x : MV} (h : denE D e s = .ok x s') : denS D (.exp e) s = .ok .nx s' := by simp only [denS, bnd_eq, h, ret_eq]
theorem forS_nil {b : MV → M Fl} : forS b [] s = .ok .nx s := by simp only [forS, ret_eq]
theorem forS_nx {b : MV → M Fl} {x : MV} {r : List MV} (h : b x s = .ok .nx s') : forS b (x :: r) s = forS b r s' := by simp only [forS, bnd_eq, h]
theorem forS_rt {b : MV → M Fl} {x y : MV} {r : List MV} (h : b x s = .ok (.rt y) s') : forS b (x :: r) s = .ok (.rt y) s' := by simp only [forS, bnd_eq, h, ret_eq]
theorem whl_t {c : M Bool} {b : M Fl} {n : Nat} {s2 : S} (h : c s = .ok true s') (h2 : b s' = .ok .nx s2) : whlS c b (n + 1) s = whlS c b n s2 := by simp only [whlS, bnd_eq, h, if_true, h2]
theorem whl_f {c : M Bool} {b : M Fl} {n : Nat} (h : c s = .ok false s') : whlS c b (n + 1) s = .ok .nx s' := by simp only [whlS, bnd_eq, h, Bool.false_eq_true, if_false, ret_eq]
/-- a walk that keeps Z and never leaves -/
theorem forS_inv {b : MV → M Fl} (Z : Nat → S → Prop) (xs : List MV) (h0 : Z 0 s) (st : ∀ i x t, xs[i]? = some x → Z i t → ∃ t', b x t = .ok .nx t' ∧ Z (i + 1) t') : ∃ s', forS b xs s = .ok .nx s' ∧ Z xs.length s' := by
  have key : ∀ (r : List MV) (i : Nat) (t : S), (∀ j x, r[j]? = some x → xs[i + j]? = some x) → i + r.length = xs.length → Z i t → ∃ s', forS b r t = .ok .nx s' ∧ Z xs.length s' := by
    intro r
    induction r with
    | nil => intro i t _ hl hz; exact ⟨t, forS_nil, by simpa using hl ▸ hz⟩
    | cons x r ih =>
      intro i t hx hl hz
      obtain ⟨t', e, z⟩ := st i x t (by simpa using hx 0 x rfl) hz
      rw [forS_nx e]
      refine ih (i + 1) t' (fun j y hy => ?_) (by simp at hl; omega) z
      have := hx (j + 1) y (by simpa using hy)
      rw [show i + 1 + j = i + (j + 1) by omega]; exact this
  exact key xs 0 s (fun j x h => by simpa using h) (by simp) h0
/-- a loop that keeps Z while a measure falls -/
theorem whl_inv {c : M Bool} {b : M Fl} (Z : S → Prop) (μ : S → Nat) (st : ∀ t, Z t → (∃ t', c t = .ok false t') ∨ ∃ t1 t2, c t = .ok true t1 ∧ b t1 = .ok .nx t2 ∧ Z t2 ∧ μ t2 < μ t) :
    ∀ (n : Nat) (t : S), Z t → μ t < n → ∃ t1 t', Z t1 ∧ c t1 = .ok false t' ∧ whlS c b n t = .ok .nx t'
  | 0, t, _, h => by omega
  | n + 1, t, z, h => by
    rcases st t z with ⟨t', e⟩ | ⟨t1, t2, e1, e2, z2, hl⟩
    · exact ⟨t, t', z, e, whl_f e⟩
    · obtain ⟨u1, u', k1, k2, k3⟩ := whl_inv Z μ st n t2 z2 (by omega)
      exact ⟨u1, u', k1, k2, by rw [whl_t e1 e2]; exact k3⟩
end
end Py

-- text PyWp
set_option Elab.async false
set_option linter.all false
set_option maxRecDepth 100000
set_option maxHeartbeats 4000000
/-! ### what a run ends in: rules read backwards -/
namespace Py
open PySem
/-- a run ends well, in Q; nobody may unfold it into the run -/
inductive wp {α : Type} (m : M α) (s : S) (Q : α → S → Prop) : Prop
  | mk (a : α) (s' : S) (h : m s = .ok a s') (q : Q a s')
theorem wp_eq {α : Type} (m : M α) (s : S) (Q : α → S → Prop) : wp m s Q = (match m s with
  | .ok a s' => Q a s'
  | _ => False) := by
  apply propext
  constructor
  · rintro ⟨a, s', h, q⟩; rw [h]; exact q
  · intro q
    cases e : m s with
    | ok a s' => rw [e] at q; exact ⟨a, s', e, q⟩
    | ex c vs s' => rw [e] at q; exact q.elim
    | no => rw [e] at q; exact q.elim
/-- a def's run ends in Q -/
inductive Sp (P : List FD) (k f : Nat) (xs : List MV) (mh : Option (List Cn)) (Q : MV → Option (List Cn) → Prop) : Prop
  | mk (x : MV) (mh' : Option (List Cn)) (h : runP P k f xs mh = .ok x mh') (q : Q x mh')
theorem Sp_eq (P : List FD) (k f : Nat) (xs : List MV) (mh : Option (List Cn)) (Q : MV → Option (List Cn) → Prop) : Sp P k f xs mh Q = (match runP P k f xs mh with
  | .ok x mh' => Q x mh'
  | _ => False) := by
  apply propext
  constructor
  · rintro ⟨a, s', h, q⟩; rw [h]; exact q
  · intro q
    cases e : runP P k f xs mh with
    | ok a s' => rw [e] at q; exact ⟨a, s', e, q⟩
    | ex c vs s' => rw [e] at q; exact q.elim
    | no => rw [e] at q; exact q.elim
section
variable {α β : Type} {s : S}
theorem wp_of {m : M α} {Q : α → S → Prop} {a : α} {s' : S} (h : m s = .ok a s') (q : Q a s') : wp m s Q := by rw [wp_eq, h]; exact q
theorem wp_ok {m : M α} {Q : α → S → Prop} {a : α} {s' : S} (h : m s = .ok a s') : wp m s Q = Q a s' := by rw [wp_eq, h]
theorem wp_ex {m : M α} {Q : α → S → Prop} (h : wp m s Q) : ∃ a s', m s = .ok a s' ∧ Q a s' := by
  rw [wp_eq] at h
  cases e : m s with
  | ok a s' => rw [e] at h; exact ⟨a, s', rfl, h⟩
  | ex c vs s' => rw [e] at h; exact h.elim
  | no => rw [e] at h; exact h.elim
theorem wp_mono {m : M α} {Q Q' : α → S → Prop} (h : wp m s Q) (i : ∀ a t, Q a t → Q' a t) : wp m s Q' := by
  obtain ⟨a, t, e, q⟩ := wp_ex h
  exact wp_of e (i a t q)
theorem wp_bnd (m : M α) (f : α → M β) (Q : β → S → Prop) : wp (m >>= f) s Q = wp m s (fun a t => wp (f a) t Q) := by
  simp only [wp_eq]
  rw [bnd_eq]
  cases m s <;> rfl
theorem wp_pure (a : α) (Q : α → S → Prop) : wp (pure a : M α) s Q = Q a s := by rw [wp_eq]; rfl
theorem wp_lift (o : Option α) (Q : α → S → Prop) : wp (lift? o) s Q = ∃ a, o = some a ∧ Q a s := by
  cases o with
  | none => simp [lift?, wp_eq, fail]
  | some a => simp [lift?, wp_eq, ret_eq]
theorem wp_fail (Q : α → S → Prop) : wp (fail : M α) s Q = False := by rw [wp_eq]; rfl
theorem wp_ite {c : Prop} [Decidable c] (m n : M α) (Q : α → S → Prop) : wp (if c then m else n) s Q = ((c → wp m s Q) ∧ (¬ c → wp n s Q)) := by
  by_cases h : c <;> simp [h]
theorem wp_getV (i : Nat) (Q : MV → S → Prop) : wp (getV i) s Q = ∃ x, s.env[i]? = some (some (.v x)) ∧ Q x s := by
  simp only [wp_eq]; unfold getV
  rcases h : s.env[i]? with _ | _ | _ | _ <;> simp
theorem wp_getO (i : Nat) (Q : Cn → S → Prop) : wp (getO i) s Q = ∃ x, s.env[i]? = some (some (.o x)) ∧ Q x s := by
  simp only [wp_eq]; unfold getO
  rcases h : s.env[i]? with _ | _ | _ | _ <;> simp
theorem wp_setSl (i : Nat) (x : Option Slot) (Q : Unit → S → Prop) : wp (setSl i x) s Q = Q () ⟨s.env.set i x, s.mh⟩ := by rw [wp_eq]; rfl
theorem wp_getC (n : Nat) (Q : Cn → S → Prop) : wp (getC n) s Q = ∃ l c, s.mh = some l ∧ l[n]? = some c ∧ Q c s := by
  simp only [wp_eq]; unfold getC
  rcases h : s.mh with _ | l
  · simp
  · rcases h2 : l[n]? with _ | c <;> simp [h2]
theorem wp_setC (n : Nat) (c : Cn) (Q : Unit → S → Prop) : wp (setC n c) s Q = ∃ l, s.mh = some l ∧ Q () ⟨s.env, some (l.set n c)⟩ := by
  simp only [wp_eq]; unfold setC
  rcases h : s.mh with _ | l <;> simp
theorem wp_newC (c : Cn) (Q : MV → S → Prop) : wp (newC c) s Q = ∃ l, s.mh = some l ∧ Q (.ref l.length) ⟨s.env, some (l ++ [c])⟩ := by
  simp only [wp_eq]; unfold newC
  rcases h : s.mh with _ | l <;> simp
theorem wp_noEx (m : M α) (Q : α → S → Prop) : wp (noEx m) s Q = wp m s Q := by
  simp only [wp_eq]; unfold noEx
  cases m s <;> rfl
theorem wp_callF {P : List FD} {k : Nat} (f : Nat) (xs : List MV) (Q : MV → S → Prop) : wp (callF (fnsK P k) f xs) s Q = (if isoP P f = true then Sp P k f xs none (fun x _ => Q x s) else Sp P k f xs s.mh (fun x mh' => Q x ⟨s.env, mh'⟩)) := by
  simp only [wp_eq, Sp_eq]; unfold callF fnsK
  by_cases h : isoP P f = true
  · simp only [h, if_true]
    cases runP P k f xs none <;> rfl
  · simp only [h, if_false]
    cases runP P k f xs s.mh <;> rfl
theorem Sp.of {P : List FD} {k f : Nat} {xs : List MV} {mh mh' : Option (List Cn)} {x : MV} {Q : MV → Option (List Cn) → Prop} (h : runP P k f xs mh = .ok x mh') (q : Q x mh') : Sp P k f xs mh Q := by
  rw [Sp_eq]; rw [h]; exact q
theorem Sp.ex {P : List FD} {k f : Nat} {xs : List MV} {mh : Option (List Cn)} {Q : MV → Option (List Cn) → Prop} (h : Sp P k f xs mh Q) : ∃ x mh', runP P k f xs mh = .ok x mh' ∧ Q x mh' := by
  rw [Sp_eq] at h
  cases e : runP P k f xs mh with
  | ok x mh' => rw [e] at h; exact ⟨x, mh', rfl, h⟩
  | ex c vs mh' => rw [e] at h; exact h.elim
  | no => rw [e] at h; exact h.elim
theorem Sp.mono {P : List FD} {k f : Nat} {xs : List MV} {mh : Option (List Cn)} {Q Q' : MV → Option (List Cn) → Prop} (h : Sp P k f xs mh Q) (i : ∀ x mh', Q x mh' → Q' x mh') : Sp P k f xs mh Q' := by
  obtain ⟨x, mh', e, q⟩ := h.ex
  exact .of e (i x mh' q)
def flC : Fl → S → CR
  | .rt x, s => .ok x s.mh
  | .nx, s => .ok .non s.mh
  | _, _ => .no
theorem runP_body {P : List FD} {k f : Nat} {d : FD} {xs : List MV} {mh : Option (List Cn)} {fl : Fl} {s' : S} (h : P[f]? = some d) (hl : xs.length = d.np) (e : denS (fnsK P k) d.body ⟨startE d.ns xs, mh⟩ = .ok fl s') : runP P (k + 1) f xs mh = flC fl s' := by
  unfold runP; rw [h]; unfold runB
  dsimp only
  rw [if_pos hl]
  show (match denS (fnsK P k) d.body ⟨startE d.ns xs, mh⟩ with | .ok (.rt x) s => _ | .ok .nx s => _ | .ok _ _ => _ | .ex c vs s => _ | .no => _) = _
  rw [e]
  cases fl <;> rfl
/-- a def by its body -/
theorem Sp.def_ {P : List FD} {k f : Nat} {d : FD} {xs : List MV} {mh : Option (List Cn)} {Q : MV → Option (List Cn) → Prop} (h : P[f]? = some d) (hl : xs.length = d.np)
    (w : wp (denS (fnsK P k) d.body) ⟨startE d.ns xs, mh⟩ (fun fl s => match fl with | .rt x => Q x s.mh | .nx => Q .non s.mh | _ => False)) : Sp P (k + 1) f xs mh Q := by
  obtain ⟨fl, s', e, q⟩ := wp_ex w
  have hr := runP_body h hl e
  cases fl with
  | nx => exact .of hr q
  | rt x => exact .of hr q
  | bk => exact q.elim
  | ct => exact q.elim
/-- with room to spare -/
theorem Sp.def' {P : List FD} {k n f : Nat} {d : FD} {xs : List MV} {mh : Option (List Cn)} {Q : MV → Option (List Cn) → Prop} (h : P[f]? = some d) (hk : n + 1 ≤ k) (hl : xs.length = d.np)
    (w : ∀ k, n ≤ k → wp (denS (fnsK P k) d.body) ⟨startE d.ns xs, mh⟩ (fun fl s => match fl with | .rt x => Q x s.mh | .nx => Q .non s.mh | _ => False)) : Sp P k f xs mh Q := by
  obtain ⟨j, rfl⟩ : ∃ j, k = j + 1 := ⟨k - 1, by omega⟩
  exact .def_ h hl (w j (by omega))
/-- a statement, then the others -/
theorem wp_seq {D : Fns} (a b : SS) (Q : Fl → S → Prop) : wp (denS D (.cons a b)) s Q = wp (denS D a) s (fun fl t => match fl with | .nx => wp (denS D b) t Q | f => Q f t) := by
  rw [denS, wp_bnd]
  congr 1
  funext fl t
  cases fl <;> first | rfl | (simp only [wp_eq]; rfl)
theorem wp_mid {D : Fns} {a b : SS} {Q : Fl → S → Prop} (R : S → Prop) (h : wp (denS D a) s (fun fl t => match fl with | .nx => R t | f => Q f t)) (h2 : ∀ t, R t → wp (denS D b) t Q) : wp (denS D (.cons a b)) s Q := by
  rw [wp_seq]
  refine wp_mono h fun fl t q => ?_
  cases fl with
  | nx => exact h2 t q
  | _ => exact q
/-! ### loops -/
theorem wp_forS_nil {b : MV → M Fl} {Q : Fl → S → Prop} : wp (forS b []) s Q = Q .nx s := by rw [wp_eq]; rfl
theorem wp_forS_cons {b : MV → M Fl} {x : MV} {r : List MV} {Q : Fl → S → Prop} : wp (forS b (x :: r)) s Q = wp (b x) s (fun fl t => match fl with | .nx => wp (forS b r) t Q | .ct => wp (forS b r) t Q | .bk => Q .nx t | .rt v => Q (.rt v) t) := by
  rw [forS, wp_bnd]
  congr 1
  funext fl t
  cases fl <;> first | rfl | (simp only [wp_eq]; rfl)
/-- a walk over the pictures of a row: Z done rest -/
theorem wp_for {α : Type} {b : MV → M Fl} (h : α → MV) (Z : List α → List α → S → Prop) (zs : List α) {Q : Fl → S → Prop} (h0 : Z [] zs s)
    (st : ∀ done z rest t, done ++ z :: rest = zs → Z done (z :: rest) t → wp (b (h z)) t (fun fl t' => match fl with | .nx => Z (done ++ [z]) rest t' | .ct => Z (done ++ [z]) rest t' | .bk => Q .nx t' | .rt v => Q (.rt v) t'))
    (he : ∀ t, Z zs [] t → Q .nx t) : wp (forS b (zs.map h)) s Q := by
  have key : ∀ (rest done : List α) (t : S), done ++ rest = zs → Z done rest t → wp (forS b (rest.map h)) t Q := by
    intro rest
    induction rest with
    | nil => intro done t e z; simp at e; subst e; exact wp_of rfl (he t z)
    | cons z rest ih =>
      intro done t e zz
      rw [List.map_cons, wp_forS_cons]
      refine wp_mono (st done z rest t e zz) fun fl t' q => ?_
      cases fl with
      | nx => exact ih _ t' (by simp [← e]) q
      | ct => exact ih _ t' (by simp [← e]) q
      | bk => exact q
      | rt v => exact q
  exact key zs [] s rfl h0
theorem wp_while {c : M Bool} {b : M Fl} (Z : S → Prop) (μ : S → Nat) {Q : Fl → S → Prop}
    (st : ∀ t, Z t → wp c t (fun r t1 => (r = true → wp b t1 (fun fl t' => match fl with | .nx => Z t' ∧ μ t' < μ t | .ct => Z t' ∧ μ t' < μ t | .bk => Q .nx t' | .rt v => Q (.rt v) t')) ∧ (r = false → Q .nx t1))) :
    ∀ (n : Nat) (t : S), Z t → μ t < n → wp (whlS c b n) t Q
  | 0, t, _, h => by omega
  | n + 1, t, z, h => by
    rw [whlS, wp_bnd]
    refine wp_mono (st t z) fun r t1 q => ?_
    rw [wp_ite]
    refine ⟨fun e => ?_, fun e => ?_⟩
    · rw [wp_bnd]
      refine wp_mono (q.1 e) fun fl t' q2 => ?_
      cases fl with
      | nx => exact wp_while Z μ st n t' q2.1 (by omega)
      | ct => exact wp_while Z μ st n t' q2.1 (by omega)
      | bk => exact wp_of rfl q2
      | rt v => exact wp_of rfl q2
    · exact wp_of rfl (q.2 (by simpa using e))
/-! ### comprehensions -/
theorem wp_lcM {own : List Nat} {g : MV → M Unit} {c : M Bool} {e : M MV} (xs : List MV) (Q : Cn → S → Prop) : wp (lcM own g c e xs) s Q = wp (mapC own g c e xs []) s (fun ys t => Q (.l ys) ⟨backE s.env t.env own, t.mh⟩) := by
  simp only [wp_eq]; unfold lcM
  cases mapC own g c e xs [] s <;> rfl
theorem wp_wipeS {own : List Nat} (Q : Unit → S → Prop) : wp (wipeS own) s Q = Q () ⟨wipeE s.env own, s.mh⟩ := wp_ok rfl
theorem wp_mapC_nil {own : List Nat} {g : MV → M Unit} {c : M Bool} {e : M MV} (acc : List MV) (Q : List MV → S → Prop) : wp (mapC own g c e [] acc) s Q = Q acc s := wp_ok rfl
theorem wp_mapC_cons {own : List Nat} {g : MV → M Unit} {c : M Bool} {e : M MV} (x : MV) (r acc : List MV) (Q : List MV → S → Prop) : wp (mapC own g c e (x :: r) acc) s Q =
    wp (g x) ⟨wipeE s.env own, s.mh⟩ (fun _ t => wp c t (fun b t => (b = true → wp e t (fun y t => acc.length < sizeLine ∧ wp (mapC own g c e r (acc ++ [y])) t Q)) ∧ (b = false → wp (mapC own g c e r acc) t Q))) := by
  rw [mapC, wp_bnd, wp_wipeS, wp_bnd]
  congr 1
  funext _ t
  rw [wp_bnd]
  congr 1
  funext b t
  cases b with
  | true =>
    rw [if_pos rfl, wp_bnd]
    simp only [true_implies, Bool.true_eq_false, false_implies, and_true]
    congr 1
    funext y t
    by_cases h : acc.length < sizeLine
    · simp [h]
    · simp [h, wp_fail]
  | false => simp
/-- what a comprehension without changes makes -/
theorem wp_lc {α : Type} {own : List Nat} {g : MV → M Unit} {c : M Bool} {e : M MV} (h : α → MV) (p : α → Bool) (f : α → MV) (zs : List α) {Q : Cn → S → Prop} (hl : zs.length ≤ sizeLine)
    (hv : ∀ i ∈ own, ∀ c, s.env[i]? ≠ some (some (.o c)))
    (st : ∀ z ∈ zs, wp (g (h z)) ⟨wipeE s.env own, s.mh⟩ (fun _ t => wp c t (fun b t => b = p z ∧ (b = true → wp e t (fun y t => y = f z ∧ SameX own s t)) ∧ (b = false → SameX own s t))))
    (q : Q (.l ((zs.filter p).map f)) s) : wp (lcM own g c e (zs.map h)) s Q := by
  refine wp_of (lcM_of h p f zs hl hv fun z hz => ?_) q
  obtain ⟨_, s3, e1, h1⟩ := wp_ex (st z hz)
  obtain ⟨b, s4, e2, rfl, h2, h3⟩ := wp_ex h1
  cases hp : p z with
  | true =>
    obtain ⟨y, s5, e3, rfl, h4⟩ := wp_ex (h2 hp)
    exact ⟨s3, s4, s5, e1, by rw [e2, hp], fun _ => ⟨e3, h4⟩, fun z => by cases z⟩
  | false => exact ⟨s3, s4, s4, e1, by rw [e2, hp], fun z => (by cases z), fun _ => h3 hp⟩
theorem SameX_iff {own : List Nat} {s t : S} : SameX own s t = (t.mh = s.mh ∧ wipeE t.env own = wipeE s.env own) := rfl
/-- a comprehension that changes cells: J done made cells -/
theorem wp_lcC {α : Type} {own : List Nat} {g : MV → M Unit} {c : M Bool} {e : M MV} (h : α → MV) (J : List α → List MV → Option (List Cn) → Prop) (zs : List α) {Q : Cn → S → Prop} (hl : zs.length ≤ sizeLine)
    (hv : ∀ i ∈ own, ∀ c, s.env[i]? ≠ some (some (.o c))) (h0 : J [] [] s.mh)
    (st : ∀ done z rest acc mh, done ++ z :: rest = zs → J done acc mh → wp (g (h z)) ⟨wipeE s.env own, mh⟩ (fun _ t => wp c t (fun b t => (b = true → wp e t (fun y t => J (done ++ [z]) (acc ++ [y]) t.mh ∧ wipeE t.env own = wipeE s.env own)) ∧ (b = false → J (done ++ [z]) acc t.mh ∧ wipeE t.env own = wipeE s.env own))))
    (q : ∀ ys mh, J zs ys mh → Q (.l ys) ⟨s.env, mh⟩) : wp (lcM own g c e (zs.map h)) s Q := by
  rw [wp_lcM]
  have key : ∀ (rest done : List α) (acc : List MV) (t : S), done ++ rest = zs → acc.length ≤ done.length → wipeE t.env own = wipeE s.env own → J done acc t.mh → wp (mapC own g c e (rest.map h) acc) t (fun ys t => Q (.l ys) ⟨backE s.env t.env own, t.mh⟩) := by
    intro rest
    induction rest with
    | nil =>
      intro done acc t e _ hw j
      simp at e; subst e
      rw [List.map_nil, wp_mapC_nil, back_eq hw hv]
      exact q acc t.mh j
    | cons z rest ih =>
      intro done acc t e hla hw j
      rw [List.map_cons, wp_mapC_cons, hw]
      have hlen : done.length < zs.length := by rw [← e]; simp
      refine wp_mono (st done z rest acc t.mh e j) fun _ t1 q1 => wp_mono q1 fun b t2 q2 => ⟨fun hb => wp_mono (q2.1 hb) fun y t3 q3 => ⟨by omega, ?_⟩, fun hb => ?_⟩
      · exact ih (done ++ [z]) (acc ++ [y]) t3 (by simp [← e]) (by simp; omega) q3.2 q3.1
      · exact ih (done ++ [z]) acc t2 (by simp [← e]) (by simp; omega) (q2.2 hb).2 (q2.2 hb).1
  exact key zs [] [] s rfl (by simp) rfl h0
theorem wp_hidden {i : Nat} {f : List MV → M α} {Q : α → S → Prop} : wp (hidden i f) s Q = ∃ xs, s.env[i]? = some (some (.o (.l xs))) ∧ wp (f xs) ⟨s.env.set i none, s.mh⟩ (fun d t => Q d ⟨t.env.set i (some (.o (.l xs))), t.mh⟩) := by
  simp only [wp_eq]; unfold hidden
  rcases h : s.env[i]? with _ | _ | _ | c
  · simp
  · simp
  · simp
  · cases c with
    | l xs =>
      simp only [Option.some.injEq, Slot.o.injEq, Cn.l.injEq, exists_eq_left']
      cases f xs { s with env := s.env.set i none } <;> rfl
    | k kvs => simp
    | t kvs => simp
end
end Py

-- text PyRp
set_option Elab.async false
set_option linter.all false
set_option maxRecDepth 100000
set_option maxHeartbeats 4000000
/-! ### short data: repr, equality -/
namespace Py
open PySem
/-- every sign of a text is one of Unicode's -/
def OkT (x : Str) : Prop := ∀ c ∈ x.cps.toList, c < 0x110000
theorem okT_strOk {x : Str} (h : OkT x) : PyData.strOk x = true := by
  unfold PyData.strOk
  rw [Array.all_eq_true_iff_forall_mem]
  intro c hc
  simpa using h c (Array.mem_toList_iff.mpr hc)
theorem strOk_okT {x : Str} (h : PyData.strOk x = true) : OkT x := by
  unfold PyData.strOk at h
  rw [Array.all_eq_true_iff_forall_mem] at h
  intro c hc
  simpa using h c (Array.mem_toList_iff.mp hc)
theorem OkT.app {x y : Str} (h : OkT x) (k : OkT y) : OkT (x ++ y) := by
  intro c hc
  have e : (x ++ y).cps = x.cps ++ y.cps := rfl
  rw [e, Array.toList_append, List.mem_append] at hc
  exact hc.elim (h c) (k c)
theorem okT_of (s : String) : OkT s := by
  intro c hc
  rw [Str.ofString_eq_toList] at hc
  simp only [List.mem_map] at hc
  obtain ⟨d, _, rfl⟩ := hc
  have := d.valid
  rcases this with h | ⟨_, h⟩
  · exact Nat.lt_trans h (by decide)
  · exact h
theorem okT_join {sep : Str} (hs : OkT sep) : ∀ {ts : List Str}, (∀ t ∈ ts, OkT t) → OkT (Str.join sep ts)
  | [], _ => by intro c hc; exact absurd hc (by simp [Str.join, Str.empty])
  | [x], h => h x (by simp)
  | x :: y :: r, h => by
    show OkT (x ++ sep ++ Str.join sep (y :: r))
    exact ((h x (by simp)).app hs).app (okT_join hs fun t ht => h t (List.mem_cons_of_mem _ ht))
theorem okT_ite {p : Prop} [Decidable p] {x y : Str} (h : OkT x) (k : OkT y) : OkT (if p then x else y) := by split <;> assumption
theorem okT_from : ∀ {ts : List Str} (k : Nat) {acc : Str}, OkT acc → (∀ t ∈ ts, OkT t) → OkT (textFrom k acc ts)
  | [], k, acc, h, _ => h
  | t :: ts, k, acc, h, h2 => by
    unfold textFrom
    refine okT_from (k + 1) ((h.app ?_).app (h2 t (by simp))) fun u hu => h2 u (List.mem_cons_of_mem _ hu)
    exact okT_of _
mutual
/-- texts within and their reprs are of Unicode -/
def okX : PyData → Bool
  | .none | .bool _ | .int _ => true
  | .str x => PyData.strOk x && PyData.strOk (reprText x)
  | .list xs | .tuple xs => okXs xs
  | .dict _ => false
def okXs : List PyData → Bool
  | [] => true
  | x :: xs => okX x && okXs xs
end
mutual
theorem okX_canLay : ∀ d : PyData, okX d = true → d.canLay0 = true
  | .none, _ => rfl
  | .bool _, _ => rfl
  | .int _, _ => rfl
  | .str x, h => by
    simp only [okX, Bool.and_eq_true] at h
    simpa [PyData.canLay0] using h.1
  | .list xs, h => by
    simp only [okX] at h
    simpa [PyData.canLay0] using okXs_canLay xs h
  | .tuple xs, h => by
    simp only [okX] at h
    simpa [PyData.canLay0] using okXs_canLay xs h
  | .dict _, h => by simp [okX] at h
theorem okXs_canLay : ∀ xs : List PyData, okXs xs = true → PyData.canLayAll0 xs = true
  | [], _ => rfl
  | x :: xs, h => by
    simp only [okXs, Bool.and_eq_true] at h
    simp only [PyData.canLayAll0, okX_canLay x h.1, okXs_canLay xs h.2, Bool.and_self]
end
mutual
theorem okX_shown : ∀ d : PyData, okX d = true → OkT d.shown
  | .none, _ => by rw [PyData.shown]; exact okT_of _
  | .bool b, _ => by rw [PyData.shown]; cases b <;> exact okT_of _
  | .int i, _ => by rw [PyData.shown]; exact okT_of _
  | .str x, h => by
    rw [PyData.shown]
    simp only [okX, Bool.and_eq_true] at h
    exact strOk_okT h.2
  | .list xs, h => by
    rw [PyData.shown]
    simp only [okX] at h
    exact (okT_from 0 (okT_of _) (okXs_shown xs h)).app (okT_of _)
  | .tuple xs, h => by
    rw [PyData.shown]
    simp only [okX] at h
    exact ((okT_of _).app (okT_join (okT_of _) (okXs_shown xs h))).app (okT_of _)
  | .dict _, h => by simp [okX] at h
theorem okXs_shown : ∀ xs : List PyData, okXs xs = true → ∀ t ∈ PyData.shownAll xs, OkT t
  | [], _, t, ht => by simp [PyData.shownAll] at ht
  | x :: xs, h, t, ht => by
    simp only [okXs, Bool.and_eq_true] at h
    simp only [PyData.shownAll, List.mem_cons] at ht
    rcases ht with rfl | ht
    · exact okX_shown x h.1
    · exact okXs_shown xs h.2 t ht
end
/-- data of at most n items, d deep, its ints below 10 ^ 90 -/
structure NiceD (n d : Nat) (x : PyData) : Prop where
  ok : okX x = true
  sh : x.showable = true
  lv : x.leavesShort 100 = true
  bk : x.bulk ≤ n
  dp : x.depth ≤ d
def Nice (n d : Nat) (x : MV) : Prop := ∃ y, x.toD = some y ∧ NiceD n d y
def Nices (n d : Nat) (xs : List MV) : Prop := ∃ ys, toDs xs = some ys ∧ okXs ys = true ∧ PyData.showableAll ys = true ∧ PyData.leavesShortAll 100 ys = true ∧ PyData.bulkAll ys ≤ n ∧ PyData.depthAll ys ≤ d
theorem Nice.mono {n d m e : Nat} {x : MV} (h : Nice n d x) (hn : n ≤ m) (hd : d ≤ e) : Nice m e x := by
  obtain ⟨y, h1, h2⟩ := h
  exact ⟨y, h1, h2.ok, h2.sh, h2.lv, Nat.le_trans h2.bk hn, Nat.le_trans h2.dp hd⟩
theorem Nices.nil {n d : Nat} : Nices n d [] := ⟨[], rfl, rfl, rfl, rfl, Nat.zero_le _, Nat.zero_le _⟩
theorem Nices.cons {n m d : Nat} {x : MV} {xs : List MV} (h : Nice n d x) (k : Nices m d xs) : Nices (n + 1 + m) d (x :: xs) := by
  obtain ⟨y, h1, h2⟩ := h
  obtain ⟨ys, k1, k2, k3, k4, k5, k6⟩ := k
  have b1 := h2.bk
  have b2 := h2.dp
  refine ⟨y :: ys, by simp only [toDs, h1, k1], by simp only [okXs, h2.ok, k2, Bool.and_self], by simp only [PyData.showableAll, h2.sh, k3, Bool.and_self], by simp only [PyData.leavesShortAll, h2.lv, k4, Bool.and_self], ?_, ?_⟩
  · simp only [PyData.bulkAll]; omega
  · simp only [PyData.depthAll]; omega
theorem Nices.all {n d : Nat} : ∀ {xs : List MV}, (∀ x ∈ xs, Nice n d x) → Nices (xs.length * (n + 1)) d xs
  | [], _ => .nil
  | x :: xs, h => by
    have := Nices.cons (h x (by simp)) (Nices.all (n := n) (d := d) (xs := xs) fun y hy => h y (List.mem_cons_of_mem _ hy))
    have e : (x :: xs).length * (n + 1) = n + 1 + xs.length * (n + 1) := by rw [List.length_cons, Nat.add_mul]; omega
    rw [e]; exact this
theorem Nices.app {n m d : Nat} : ∀ {xs ys : List MV}, Nices n d xs → Nices m d ys → Nices (n + m) d (xs ++ ys)
  | [], ys, h, k => by
    obtain ⟨zs, k1, k2, k3, k4, k5, k6⟩ := k
    exact ⟨zs, k1, k2, k3, k4, by omega, k6⟩
  | x :: xs, ys, h, k => by
    obtain ⟨zs, h1, h2, h3, h4, h5, h6⟩ := h
    simp only [toDs] at h1
    cases e1 : x.toD with
    | none => simp [e1] at h1
    | some y =>
      cases e2 : toDs xs with
      | none => simp [e1, e2] at h1
      | some us =>
        simp only [e1, e2, Option.some.injEq] at h1
        subst h1
        simp only [okXs, Bool.and_eq_true] at h2
        simp only [PyData.showableAll, Bool.and_eq_true] at h3
        simp only [PyData.leavesShortAll, Bool.and_eq_true] at h4
        simp only [PyData.bulkAll] at h5
        simp only [PyData.depthAll] at h6
        have a := Nice.mono (n := y.bulk) (d := y.depth) (m := y.bulk) (e := d) ⟨y, e1, h2.1, h3.1, h4.1, Nat.le_refl _, Nat.le_refl _⟩ (Nat.le_refl _) (by omega)
        have b := Nices.app (n := PyData.bulkAll us) (m := m) (d := d) (xs := xs) (ys := ys) ⟨us, e2, h2.2, h3.2, h4.2, Nat.le_refl _, by omega⟩ k
        obtain ⟨vs, c1, c2, c3, c4, c5, c6⟩ := Nices.cons a b
        exact ⟨vs, c1, c2, c3, c4, by omega, c6⟩
theorem Nices.mono {n d m e : Nat} {x : List MV} (h : Nices n d x) (hn : n ≤ m) (hd : d ≤ e) : Nices m e x := by
  obtain ⟨ys, k1, k2, k3, k4, k5, k6⟩ := h
  exact ⟨ys, k1, k2, k3, k4, by omega, by omega⟩
theorem Nices.tup {n d : Nat} {xs : List MV} (h : Nices n d xs) : Nice n (d + 1) (.tup xs) := by
  obtain ⟨ys, k1, k2, k3, k4, k5, k6⟩ := h
  refine ⟨.tuple ys, by simp only [MV.toD, k1, Option.map_some], ⟨?_, ?_, ?_, ?_, ?_⟩⟩
  · simpa only [okX] using k2
  · simpa only [PyData.showable] using k3
  · simpa only [PyData.leavesShort] using k4
  · simpa only [PyData.bulk] using k5
  · simpa only [PyData.depth, Nat.add_le_add_iff_right] using k6
theorem Nices.lst {n d : Nat} {xs : List MV} (h : Nices n d xs) : Nice n (d + 1) (.lst xs) := by
  obtain ⟨ys, k1, k2, k3, k4, k5, k6⟩ := h
  refine ⟨.list ys, by simp only [MV.toD, k1, Option.map_some], ⟨?_, ?_, ?_, ?_, ?_⟩⟩
  · simpa only [okX] using k2
  · simpa only [PyData.showable] using k3
  · simpa only [PyData.leavesShort] using k4
  · simpa only [PyData.bulk] using k5
  · simpa only [PyData.depth, Nat.add_le_add_iff_right] using k6
theorem nice_non : Nice 0 0 .non := ⟨.none, rfl, rfl, rfl, rfl, Nat.le_refl _, Nat.le_refl _⟩
theorem nice_bl (b : Bool) : Nice 0 0 (.bl b) := ⟨.bool b, rfl, rfl, rfl, rfl, Nat.le_refl _, Nat.le_refl _⟩
theorem nat_repr_len {n k : Nat} (hk : 0 < k) (h : n < 10 ^ k) : (Str.ofString (toString (n : Int))).length ≤ k :=
  PyProof.Rows.toString_length_le (Int.natCast_nonneg n) hk (by exact_mod_cast h)
theorem int_repr_len {i : Int} (h : i.natAbs < 10 ^ 90) : (Str.ofString (toString i)).length ≤ 100 := by
  cases i with
  | ofNat n => exact Nat.le_trans (nat_repr_len (k := 90) (by decide) h) (by decide)
  | negSucc n =>
    have e : (toString (Int.negSucc n) : String) = "-" ++ toString ((n + 1 : Nat) : Int) := rfl
    have h2 : n + 1 < 10 ^ 90 := h
    have := nat_repr_len (k := 90) (by decide) h2
    rw [Str.ofString_eq_toList] at this ⊢
    rw [e, String.toList_append]
    simp only [Str.length, List.size_toArray, List.length_map, List.length_append] at this ⊢
    have e1 : ("-" : String).toList.length = 1 := rfl
    omega
theorem nice_int {i : Int} (h : i.natAbs < 10 ^ 90) : Nice 0 0 (.int i) := by
  refine ⟨.int i, rfl, rfl, ?_, ?_, Nat.le_refl _, Nat.le_refl _⟩
  · simp only [PyData.showable, decide_eq_true_eq]
    by_cases h0 : i.natAbs = 0
    · rw [h0]; decide
    · exact (Nat.log2_lt h0).mpr (Nat.lt_of_lt_of_le h (show 10 ^ 90 ≤ 2 ^ 1920 by decide +kernel))
  · unfold PyData.leavesShort
    rw [PyData.shown]
    exact decide_eq_true (int_repr_len h)
theorem nice_of {n d : Nat} {x : MV} {y : PyData} (e : x.toD = some y) (h : okX y = true) (h2 : y.showable = true) (h3 : y.leavesShort 100 = true) (h4 : y.bulk ≤ n) (h5 : y.depth ≤ d) : Nice n d x := ⟨y, e, h, h2, h3, h4, h5⟩
/-- its text -/
def shw (x : MV) : Str := (x.toD.getD .none).shown
def rn : Nat := 100000
theorem Nice.repr {x : MV} (h : Nice 100000 64 x) : reprV x = some (.str (shw x)) := by
  obtain ⟨y, h1, h2⟩ := h
  have hl := PyData.shown_le_bulk 100 (by decide) y h2.lv
  have hb := h2.bk
  have hs : y.shown.length ≤ sizeLine := by
    have : (100 + 2) * y.bulk + 100 ≤ sizeLine := by
      have e : sizeLine = 16777216 := by decide
      rw [e]; omega
    omega
  have hok : okR y = true := by
    unfold okR
    rw [h2.sh, decide_eq_true hs, decide_eq_true h2.dp]
    rfl
  unfold reprV shw
  simp only [h1, Option.getD_some, hok, if_true]
theorem eqD_shw {x y : MV} {n d m e : Nat} (h : Nice n d x) (k : Nice m e y) : eqD (.str (shw x)) (.str (shw y)) = some (decide (shw x = shw y)) := by
  obtain ⟨a, h1, h2⟩ := h
  obtain ⟨b, k1, k2⟩ := k
  have ha := okT_strOk (okX_shown a h2.ok)
  have hb := okT_strOk (okX_shown b k2.ok)
  have e1 : shw x = a.shown := by unfold shw; rw [h1]; rfl
  have e2 : shw y = b.shown := by unfold shw; rw [k1]; rfl
  rw [e1, e2]
  simp only [eqD, MV.toD, okD, SeqAt.shaped, PyData.canLay0, PyData.depth, ha, hb, Nat.zero_le, decide_true, Bool.and_self, if_true, PyData.eqv]
  congr 1
theorem eqD_shw_same {x : MV} {n d : Nat} (h : Nice n d x) : eqD (.str (shw x)) (.str (shw x)) = some true := by
  rw [eqD_shw h h]; simp
/-! equality of short data by their values -/
theorem eqD_bl (a b : Bool) : eqD (.bl a) (.bl b) = some (decide (a = b)) := by
  simp only [eqD, MV.toD, okD, SeqAt.shaped, PyData.canLay0, PyData.depth, Nat.zero_le, decide_true, Bool.and_self, if_true, PyData.eqv]
  cases a <;> cases b <;> rfl
theorem nice_okD {n d : Nat} {y : PyData} (h : NiceD n d y) (hd : d ≤ 64) : okD y = true := by
  have := h.dp
  simp only [okD, SeqAt.shaped, okX_canLay y h.ok, Bool.true_and, decide_eq_true_eq]
  omega
mutual
theorem eqv_refl : ∀ d : PyData, okX d = true → PyData.eqv d d = true
  | .none, _ => rfl
  | .bool b, _ => by simp [PyData.eqv]
  | .int b, _ => by simp [PyData.eqv]
  | .str b, _ => by simp [PyData.eqv]
  | .list xs, h => by
    simp only [okX] at h
    simpa only [PyData.eqv] using eqvs_refl xs h
  | .tuple xs, h => by
    simp only [okX] at h
    simpa only [PyData.eqv] using eqvs_refl xs h
  | .dict _, h => by simp [okX] at h
theorem eqvs_refl : ∀ xs : List PyData, okXs xs = true → PyData.eqvAll xs xs = true
  | [], _ => rfl
  | x :: xs, h => by
    simp only [okXs, Bool.and_eq_true] at h
    simp only [PyData.eqvAll, eqv_refl x h.1, eqvs_refl xs h.2, Bool.and_self]
end
theorem eqD_same {x : MV} {n d : Nat} (h : Nice n d x) (hd : d ≤ 64) : eqD x x = some true := by
  obtain ⟨y, h1, h2⟩ := h
  simp only [eqD, h1, nice_okD h2 hd, Bool.and_self, if_true, eqv_refl y h2.ok]
end Py

-- text PyWt
set_option Elab.async false
set_option linter.all false
set_option maxRecDepth 100000
set_option maxHeartbeats 4000000
/-! ### rules for simp, construct by construct; what comes behind is not looked at before its time (congr) -/
namespace Py
open PySem
open L2 (Key ixN)
/-- a slot's value, a slot's own thing, a row of slots in full, an outcome, a choice -/
def wpV (e : List (Option Slot)) (i : Nat) (K : MV → Prop) : Prop := ∃ x, e[i]? = some (some (.v x)) ∧ K x
def wpO (e : List (Option Slot)) (i : Nat) (K : Cn → Prop) : Prop := ∃ x, e[i]? = some (some (.o x)) ∧ K x
def wpN (e : List (Option Slot)) (K : List (Option Slot) → Prop) : Prop := K e
def wpL {α : Type} (o : Option α) (K : α → Prop) : Prop := ∃ a, o = some a ∧ K a
def wpI (b : Bool) (p q : Prop) : Prop := (b = true → p) ∧ (b = false → q)
/-- a value, worked out first -/
def wpX {α : Type} (x : α) (K : α → Prop) : Prop := K x
def wpSn (zs : List Src) (s : S) (K : List MV → Prop) : Prop := wp (snap zs) s (fun xs _ => K xs)
def wpVs (zs : List Src) (K : List MV → Prop) : Prop := wpL (vals? zs) K
def wpC (mh : Option (List Cn)) (n : Nat) (K : Cn → Prop) : Prop := ∃ l c, mh = some l ∧ l[n]? = some c ∧ K c
def wpM (mh : Option (List Cn)) (K : List Cn → Prop) : Prop := ∃ l, mh = some l ∧ K l
def wpZ (e : List (Option Slot)) (i : Nat) (x : Option Slot) (K : List (Option Slot) → Prop) : Prop := K (e.set i x)
section
variable {α β : Type} {s : S}
theorem wpV_00 {x : MV} {r : List (Option Slot)} {K : MV → Prop} : wpV (some (.v x) :: r) 0 K = K x := by simp [wpV]
theorem wpV_s0 {a : Option Slot} {r : List (Option Slot)} {i : Nat} {K : MV → Prop} : wpV (a :: r) (i + 1) K = wpV r i K := by simp [wpV]
theorem wpO_00 {x : Cn} {r : List (Option Slot)} {K : Cn → Prop} : wpO (some (.o x) :: r) 0 K = K x := by simp [wpO]
theorem wpO_s0 {a : Option Slot} {r : List (Option Slot)} {i : Nat} {K : Cn → Prop} : wpO (a :: r) (i + 1) K = wpO r i K := by simp [wpO]
theorem wpN_c0 {a : Option Slot} {r : List (Option Slot)} {K : List (Option Slot) → Prop} : wpN (a :: r) K = K (a :: r) := rfl
theorem wpM_c0 {l : List Cn} {K : List Cn → Prop} : wpM (some l) K = K l := by simp [wpM]
theorem wpZ_0 {a x : Option Slot} {r : List (Option Slot)} {K : List (Option Slot) → Prop} : wpZ (a :: r) 0 x K = K (x :: r) := rfl
theorem wpZ_s {a x : Option Slot} {r : List (Option Slot)} {i : Nat} {K : List (Option Slot) → Prop} : wpZ (a :: r) (i + 1) x K = wpZ r i x (fun r => K (a :: r)) := rfl
theorem wpL_some0 {a : α} {K : α → Prop} : wpL (some a) K = K a := by simp [wpL]
theorem wpL_none0 {K : α → Prop} : wpL (none : Option α) K = False := by simp [wpL]
theorem wpL_map0 {f : α → β} {o : Option α} {K : β → Prop} : wpL (o.map f) K = wpL o (fun a => K (f a)) := by cases o <;> simp [wpL]
theorem wpL_bind0 {f : α → Option β} {o : Option α} {K : β → Prop} : wpL (o.bind f) K = wpL o (fun a => wpL (f a) K) := by
  simp only [wpL, Option.bind_eq_some_iff]
  exact propext ⟨fun ⟨b, ⟨a, h1, h2⟩, k⟩ => ⟨a, h1, b, h2, k⟩, fun ⟨a, h1, b, h2, k⟩ => ⟨b, ⟨a, h1, h2⟩, k⟩⟩
theorem wpL_ite0 {c : Prop} [Decidable c] {x : Option α} {K : α → Prop} : wpL (if c then x else none) K = (c ∧ wpL x K) := by
  by_cases h : c <;> simp [wpL, h]
theorem wpI_t {p q : Prop} : wpI true p q = p := by simp [wpI]
theorem wpI_f {p q : Prop} : wpI false p q = q := by simp [wpI]
theorem wpI_n {b : Bool} {p q : Prop} : wpI (!b) p q = wpI b q p := by cases b <;> simp [wpI]
theorem wpI_d {c : Prop} [Decidable c] {p q : Prop} : wpI (decide c) p q = ((c → p) ∧ (¬ c → q)) := by by_cases h : c <;> simp [wpI, h]
theorem wpSn_nil0 {K : List MV → Prop} : wpSn [] s K = K [] := wp_ok rfl
theorem wpSn_ref0 {n : Nat} {r : List Src} {K : List MV → Prop} : wpSn (.inl (.ref n) :: r) s K = wpC s.mh n (fun c => wpSn r s (fun xs => K (c.mv :: xs))) := by
  unfold wpSn wpC
  rw [snap, wp_bnd, snap1, wp_bnd, wp_getC]
  simp only [wp_pure, wp_bnd]
theorem wpSn_val0 {x : MV} {r : List Src} {K : List MV → Prop} (h : isRef x = false) : wpSn (.inl x :: r) s K = wpSn r s (fun xs => K (x :: xs)) := by
  unfold wpSn
  rw [snap, wp_bnd]
  cases x <;> first | (simp only [snap1, wp_pure, wp_bnd]; done) | simp [isRef] at h
theorem wpSn_own0 {i : Nat} {r : List Src} {K : List MV → Prop} : wpSn (.inr i :: r) s K = wpO s.env i (fun c => wpSn r s (fun xs => K (c.mv :: xs))) := by
  unfold wpSn wpO
  rw [snap, wp_bnd, snap1, wp_bnd, wp_getO]
  simp only [wp_pure, wp_bnd]
theorem wpVs_nil0 {K : List MV → Prop} : wpVs [] K = K [] := by simp [wpVs, vals?, wpL]
theorem wpVs_cons0 {x : MV} {r : List Src} {K : List MV → Prop} : wpVs (.inl x :: r) K = wpVs r (fun xs => K (x :: xs)) := by simp [wpVs, vals?, wpL_map0]
theorem wpC_00 {c : Cn} {l : List Cn} {K : Cn → Prop} : wpC (some (c :: l)) 0 K = K c := by simp [wpC]
theorem wpC_s0 {c : Cn} {l : List Cn} {n : Nat} {K : Cn → Prop} : wpC (some (c :: l)) (n + 1) K = wpC (some l) n K := by simp [wpC]
/-! expressions -/
variable {D : Fns} {Q : MV → S → Prop} {QA : List Src → S → Prop} {QC : Cn → S → Prop} {QI : ItV → S → Prop} {QB : Bool → S → Prop} {QS : Fl → S → Prop} {QU : Unit → S → Prop}
theorem E_var0 {i : Nat} : wp (denE D (.var i)) s Q = wpV s.env i (fun x => Q x s) := by rw [denE, wp_getV]; rfl
theorem E_esc0 {i : Nat} : wp (denE D (.esc i)) s Q = wpO s.env i (fun c => wpX c.mv (fun x => wpZ s.env i (some (.v x)) (fun e => Q x ⟨e, s.mh⟩))) := by
  rw [denE, wp_bnd, wp_getO]; simp only [wp_bnd, wp_setSl, wp_pure]; rfl
theorem E_cst0 {c : MV} : wp (denE D (.cst c)) s Q = Q c s := wp_ok rfl
theorem wpL_eq {γ : Type} {o : Option γ} {R : γ → S → Prop} : wp (lift? o) s R = wpL o (fun a => R a s) := by rw [wp_lift]; rfl
theorem Sn_eq {zs : List Src} {R : List MV → S → Prop} : wp (snap zs) s R = wpSn zs s (fun xs => R xs s) := by
  have key : ∀ (zs : List Src) (R : List MV → S → Prop), wp (snap zs) s R = wp (snap zs) s (fun xs _ => R xs s) := by
    intro zs
    induction zs with
    | nil => intro R; simp only [snap, wp_pure]
    | cons z r ih =>
      intro R
      rw [snap, wp_bnd, wp_bnd]
      have h1 : ∀ (T : MV → S → Prop), wp (snap1 z) s T = wp (snap1 z) s (fun x _ => T x s) := by
        intro T
        cases z with
        | inr i => simp only [snap1, wp_bnd, wp_getO, wp_pure]
        | inl x => cases x <;> simp only [snap1, wp_bnd, wp_getC, wp_pure]
      rw [h1, h1 (fun x t => wp _ t _)]
      congr 1
      funext x _
      rw [wp_bnd, wp_bnd, ih]
      simp only [wp_pure]
  exact key zs R
theorem E_op0 {o : Op} {a : A} : wp (denE D (.op o a)) s Q = wp (denA D a) s (fun zs t => wpSn zs t (fun xs => wpL (opV o xs) (fun y => Q y t))) := by
  rw [denE, wp_bnd]; simp only [wp_bnd, Sn_eq, wpL_eq]
theorem E_tup0 {a : A} : wp (denE D (.tup a)) s Q = wp (denA D a) s (fun zs t => wpVs zs (fun xs => wpL (if xs.length ≤ sizeLine then some xs else none) (fun xs => Q (.tup xs) t))) := by
  rw [denE, wp_bnd]
  simp only [wp_bnd, wpL_eq, wp_ite, wp_pure, wp_fail, wpVs, wpL_ite0, wpL_some0]
  congr 1
  funext zs t
  congr 1
  funext xs
  by_cases h : xs.length ≤ sizeLine <;> simp [h]
theorem E_im0 {f : FE} : wp (denE D (.im f)) s Q = wp (denF D f) s (fun c t => wpX c.mv (fun x => Q x t)) := by rw [denE, wp_bnd]; simp only [wp_pure]; rfl
theorem E_ce0 {f : FE} : wp (denE D (.ce f)) s Q = wp (denF D f) s (fun c t => wpM t.mh (fun l => Q (.ref l.length) ⟨t.env, some (l ++ [c])⟩)) := by rw [denE, wp_bnd]; simp only [wp_newC]; rfl
/-- the call -/
def wpF (D : Fns) (f : Nat) (xs : List MV) (s : S) (Q : MV → S → Prop) : Prop := wp (callF D f xs) s Q
theorem wpF_iso0 {P : List FD} {k f : Nat} {xs : List MV} (h : isoP P f = true) : wpF (fnsK P k) f xs s Q = Sp P k f xs none (fun x _ => Q x s) := by unfold wpF; rw [wp_callF, if_pos h]
theorem wpF_liv0 {P : List FD} {k f : Nat} {xs : List MV} (h : isoP P f = false) : wpF (fnsK P k) f xs s Q = Sp P k f xs s.mh (fun x mh' => Q x ⟨s.env, mh'⟩) := by unfold wpF; rw [wp_callF, if_neg (by simp [h])]
theorem E_call0 {f : Nat} {a : A} : wp (denE D (.call f a)) s Q = wp (denA D a) s (fun zs t => wpVs zs (fun xs => wpF D f xs t Q)) := by
  rw [denE, wp_bnd]; simp only [wp_bnd, wpL_eq, wpVs, wpF]
theorem E_callK0 {f : Nat} {a : A} {pm : List Nat} : wp (denE D (.callK f a pm)) s Q = wp (denA D a) s (fun zs t => wpVs zs (fun xs => wpL (permA pm xs) (fun xs => wpF D f xs t Q))) := by
  rw [denE, wp_bnd]; simp only [wp_bnd, wpL_eq, wpVs, wpF]
theorem E_pop0 {i : Nat} : wp (denE D (.pop i)) s Q = wpO s.env i (fun c => wpL (popV c) (fun q => wpZ s.env i (some (.o q.2)) (fun e => Q q.1 ⟨e, s.mh⟩))) := by
  rw [denE, wp_bnd, wp_getO]
  simp only [wp_bnd, wpL_eq, wp_setSl, wp_pure]; rfl
theorem E_popi0 {i : Nat} {e : E} : wp (denE D (.popi i e)) s Q = wpO s.env i (fun c => wpL (lC c) (fun _ => wp (denE D e) s (fun k t => wpO t.env i (fun c => wpL (popiV c k) (fun q => wpZ t.env i (some (.o q.2)) (fun e => Q q.1 ⟨e, t.mh⟩)))))) := by
  rw [denE, wp_bnd, wp_getO]
  simp only [wp_bnd, wpL_eq, wp_setSl, wp_pure, wp_getO]; rfl
theorem E_popc0 {e : E} : wp (denE D (.popc e)) s Q = wp (denE D e) s (fun x t => wpL (refN x) (fun n => wpC t.mh n (fun c => wpL (popV c) (fun q => wpM t.mh (fun l => Q q.1 ⟨t.env, some (l.set n q.2)⟩))))) := by
  rw [denE, wp_bnd]
  simp only [wp_bnd, wpL_eq, wp_setC, wp_pure, wp_getC]; rfl
theorem E_app0 {i : Nat} {e : E} : wp (denE D (.app i e)) s Q = wpO s.env i (fun c => wpL (lC c) (fun _ => wp (denE D e) s (fun x t => wpO t.env i (fun c => wpL (appV c x) (fun d => wpZ t.env i (some (.o d)) (fun e => Q .non ⟨e, t.mh⟩)))))) := by
  rw [denE, wp_bnd, wp_getO]
  simp only [wp_bnd, wpL_eq, wp_setSl, wp_pure, wp_getO]; rfl
theorem E_ext0 {i : Nat} {e : E} : wp (denE D (.ext i e)) s Q = wpO s.env i (fun c => wpL (lC c) (fun _ => wp (denE D e) s (fun x t => wpO t.env i (fun c => wpL (extV c x) (fun d => wpZ t.env i (some (.o d)) (fun e => Q .non ⟨e, t.mh⟩)))))) := by
  rw [denE, wp_bnd, wp_getO]
  simp only [wp_bnd, wpL_eq, wp_setSl, wp_pure, wp_getO]; rfl
theorem E_appc0 {c e : E} : wp (denE D (.appc c e)) s Q = wp (denE D c) s (fun r t => wpL (refN r) (fun n => wpC t.mh n (fun c0 => wpL (lC c0) (fun _ => wp (denE D e) t (fun x t => wpC t.mh n (fun c => wpL (appV c x) (fun d => wpM t.mh (fun l => Q .non ⟨t.env, some (l.set n d)⟩)))))))) := by
  rw [denE, wp_bnd]
  simp only [wp_bnd, wpL_eq, wp_setC, wp_pure, wp_getC]; rfl
theorem wp_if {m n : M α} {b : Bool} {R : α → S → Prop} : wp (if b = true then m else n) s R = wpI b (wp m s R) (wp n s R) := by cases b <;> simp [wpI]
theorem E_ite0 {c a b : E} : wp (denE D (.ite c a b)) s Q = wp (tstE D c) s (fun r t => wpI r (wp (denE D a) t Q) (wp (denE D b) t Q)) := by
  rw [denE, wp_bnd]; simp only [wp_if]
def wpBl (x : MV) (K : Bool → Prop) : Prop := ∃ b, x = .bl b ∧ K b
theorem wpBl_bl0 {b : Bool} {K : Bool → Prop} : wpBl (.bl b) K = K b := by simp [wpBl]
theorem E_and20 {a b : E} : wp (denE D (.and2 a b)) s Q = wp (denE D a) s (fun x t => wpBl x (fun r => wpI r (wp (denE D b) t Q) (Q (.bl false) t))) := by
  rw [denE, wp_bnd]
  congr 1
  funext x t
  unfold wpBl
  cases x <;> try simp [wp_fail]
  rename_i b
  cases b <;> simp [wp_pure, wpI]
theorem E_or20 {a b : E} : wp (denE D (.or2 a b)) s Q = wp (denE D a) s (fun x t => wpBl x (fun r => wpI r (Q (.bl true) t) (wp (denE D b) t Q))) := by
  rw [denE, wp_bnd]
  congr 1
  funext x t
  unfold wpBl
  cases x <;> try simp [wp_fail]
  rename_i b
  cases b <;> simp [wp_pure, wpI]
theorem E_not0 {a : E} : wp (denE D (.not a)) s Q = wp (denE D a) s (fun x t => wpBl x (fun r => wpX (.bl (!r)) (fun y => Q y t))) := by
  rw [denE, wp_bnd]
  congr 1
  funext x t
  unfold wpBl
  cases x <;> simp [wp_fail, wp_pure, wpX]
theorem E_chain0 {c d : COp} {x y z : E} : wp (denE D (.chain c d x y z)) s Q = wp (denE D x) s (fun a t => wp (denE D y) t (fun b t => wpL (cmpB c a b) (fun r => wpI r (wp (denE D z) t (fun e t => wpL (cmpV d b e) (fun y => Q y t))) (Q (.bl false) t)))) := by
  rw [denE, wp_bnd]; simp only [wp_bnd, wpL_eq, wp_if, wp_pure]
theorem E_cut0 {a : A} {lo hi : E} : wp (denE D (.cut a lo hi)) s Q = wp (denA D a) s (fun zs t => wp (denE D lo) t (fun x t => wpL (intD? x) (fun i => wp (denE D hi) t (fun y t => wpL (intD? y) (fun j => wpSn zs t (fun xs => wpL (one (cutT i j) xs) (fun y => Q y t))))))) := by
  rw [denE, wp_bnd]; simp only [wp_bnd, wpL_eq, Sn_eq]
/-! tests -/
theorem T_not0 {a : E} : wp (tstE D (.not a)) s QB = wp (tstE D a) s (fun b t => wpX (!b) (fun b => QB b t)) := by rw [tstE, wp_bnd]; simp only [wp_pure]; rfl
theorem T_and20 {a b : E} : wp (tstE D (.and2 a b)) s QB = wp (tstE D a) s (fun r t => wpI r (wp (tstE D b) t QB) (QB false t)) := by rw [tstE, wp_bnd]; simp only [wp_if, wp_pure]
theorem T_or20 {a b : E} : wp (tstE D (.or2 a b)) s QB = wp (tstE D a) s (fun r t => wpI r (QB true t) (wp (tstE D b) t QB)) := by rw [tstE, wp_bnd]; simp only [wp_if, wp_pure]
theorem T_var0 {i : Nat} : wp (tstE D (.var i)) s QB = wpV s.env i (fun x => wpL (truthV x) (fun b => QB b s)) := by rw [tstE, wp_bnd, wp_getV]; simp only [wpL_eq]; rfl
theorem T_cst0 {c : MV} : wp (tstE D (.cst c)) s QB = wpL (truthV c) (fun b => QB b s) := by rw [tstE, wpL_eq]
theorem T_tt0 : wp (tstE D .tt) s QB = QB true s := wp_ok rfl
theorem T_op0 {o : Op} {a : A} : wp (tstE D (.op o a)) s QB = wp (denA D a) s (fun zs t => wpSn zs t (fun xs => wpL (opV o xs) (fun y => wpL (truthV y) (fun b => QB b t)))) := by
  rw [tstE, wp_bnd]; simp only [wp_bnd, Sn_eq, wpL_eq]
theorem T_call0 {f : Nat} {a : A} : wp (tstE D (.call f a)) s QB = wp (denA D a) s (fun zs t => wpVs zs (fun xs => wpF D f xs t (fun x t => wpL (truthV x) (fun b => QB b t)))) := by
  rw [tstE, wp_bnd]; simp only [wp_bnd, wpL_eq, wpVs, wpF]
theorem T_callK0 {f : Nat} {a : A} {pm : List Nat} : wp (tstE D (.callK f a pm)) s QB = wp (denA D a) s (fun zs t => wpVs zs (fun xs => wpL (permA pm xs) (fun xs => wpF D f xs t (fun x t => wpL (truthV x) (fun b => QB b t))))) := by
  rw [tstE, wp_bnd]; simp only [wp_bnd, wpL_eq, wpVs, wpF]
theorem T_chain0 {c d : COp} {x y z : E} : wp (tstE D (.chain c d x y z)) s QB = wp (denE D x) s (fun a t => wp (denE D y) t (fun b t => wpL (cmpB c a b) (fun r => wpI r (wp (denE D z) t (fun e t => wpL (cmpB d b e) (fun y => QB y t))) (QB false t)))) := by
  rw [tstE, wp_bnd]; simp only [wp_bnd, wpL_eq, wp_if, wp_pure]
/-! rows -/
theorem A_nil0 : wp (denA D .nil) s QA = QA [] s := wp_ok rfl
theorem A_cons0 {e : E} {r : A} : wp (denA D (.cons e r)) s QA = wp (denE D e) s (fun x t => wp (denA D r) t (fun xs t => QA (.inl x :: xs) t)) := by rw [denA, wp_bnd]; simp only [wp_bnd, wp_pure]
theorem A_own0 {i : Nat} {r : A} : wp (denA D (.own i r)) s QA = wpO s.env i (fun _ => wp (denA D r) s (fun xs t => QA (.inr i :: xs) t)) := by rw [denA, wp_bnd, wp_getO]; simp only [wp_bnd, wp_pure]; rfl
/-! new things -/
theorem F_disp0 {a : A} : wp (denF D (.disp a)) s QC = wp (denA D a) s (fun zs t => wpVs zs (fun xs => wpL (if xs.length ≤ sizeLine then some xs else none) (fun xs => QC (.l xs) t))) := by
  rw [denF, wp_bnd]
  simp only [wp_bnd, wpL_eq, wp_ite, wp_pure, wp_fail, wpVs, wpL_ite0, wpL_some0]
  congr 1
  funext zs t
  congr 1
  funext xs
  by_cases h : xs.length ≤ sizeLine <;> simp [h]
theorem F_fop0 {o : FOp} {a : A} : wp (denF D (.fop o a)) s QC = wp (denA D a) s (fun zs t => wpSn zs t (fun xs => wpL (opF o xs) (fun y => QC y t))) := by
  rw [denF, wp_bnd]; simp only [wp_bnd, Sn_eq, wpL_eq]
def dnkC (ks : List Key) (xs : List MV) : Option Cn := if ks.length = xs.length ∧ ks.length ≤ 15 then some (.k ((ks.zip xs).foldl (fun d p => putK p.1 p.2 d) [])) else none
theorem F_dnk0 {ks : List Key} {a : A} : wp (denF D (.dnk ks a)) s QC = wp (denA D a) s (fun zs t => wpVs zs (fun xs => wpL (dnkC ks xs) (fun c => QC c t))) := by
  rw [denF, wp_bnd, wp_noEx]
  simp only [wp_bnd, wpL_eq, wp_ite, wp_pure, wp_fail, wpVs, dnkC, wpL_ite0, wpL_some0]
  congr 1
  funext zs t
  congr 1
  funext xs
  exact propext ⟨fun q => (Classical.em (ks.length = xs.length ∧ ks.length ≤ 15)).elim (fun h => ⟨h, q.1 h⟩) (fun h => (q.2 h).elim), fun q => ⟨fun _ => q.2, fun n => absurd q.1 n⟩⟩
theorem F_cut0 {a : A} {lo hi : E} : wp (denF D (.cut a lo hi)) s QC = wp (denA D a) s (fun zs t => wp (denE D lo) t (fun x t => wpL (intD? x) (fun i => wp (denE D hi) t (fun y t => wpL (intD? y) (fun j => wpSn zs t (fun xs => wpL (oneF (cutL i j) xs) (fun y => QC y t))))))) := by
  rw [denF, wp_bnd]; simp only [wp_bnd, wpL_eq, Sn_eq]
def lX? : Cn → Option (List MV)
  | .l xs => some xs
  | _ => none
/-- a comprehension over a row -/
def wpW (D : Fns) (tg : G) (own : List Nat) (c e : E) (xs : List MV) (s : S) (QC : Cn → S → Prop) : Prop := wp (lcM own (bindG tg) (tstE D c) (denE D e) xs) s QC
theorem F_lc0 {tg : G} {own : List Nat} {it : I} {c e : E} : wp (denF D (.lc tg own it c e)) s QC = wp (denI D it) s (fun v t => wpW D tg own c e (itemsOf v) t QC) := by rw [denF, wp_bnd]; rfl
theorem F_lcO0 {tg : G} {own : List Nat} {i : Nat} {c e : E} : wp (denF D (.lcO tg own i c e)) s QC = wpO s.env i (fun x => wpL (lX? x) (fun xs => wpZ s.env i none (fun en => wpW D tg own c e xs ⟨en, s.mh⟩ (fun d t => wpZ t.env i (some (.o (.l xs))) (fun en => QC d ⟨en, t.mh⟩))))) := by
  rw [denF, wp_hidden]
  unfold wpO wpW wpZ wpL
  refine propext ⟨fun ⟨xs, h1, h2⟩ => ⟨.l xs, h1, xs, rfl, h2⟩, fun ⟨x, h1, xs, e, h2⟩ => ?_⟩
  cases x <;> simp only [lX?, reduceCtorEq, Option.some.injEq] at e
  subst e
  exact ⟨_, h1, h2⟩
/-! what is walked -/
theorem I_ex0 {e : E} : wp (denI D (.ex e)) s QI = wp (denE D e) s (fun x t => wpL (seqI x) (fun v => QI v t)) := by rw [denI, wp_bnd]; simp only [wpL_eq]
theorem I_rng10 {e : E} : wp (denI D (.rng1 e)) s QI = wp (denE D e) s (fun x t => wpL (rng1I x) (fun v => QI v t)) := by rw [denI, wp_bnd]; simp only [wpL_eq]
theorem I_rng20 {a b : E} : wp (denI D (.rng2 a b)) s QI = wp (denE D a) s (fun x t => wp (denE D b) t (fun y t => wpL (rng2I x y) (fun v => QI v t))) := by rw [denI, wp_bnd]; simp only [wp_bnd, wpL_eq]
theorem I_rng30 {a b c : E} : wp (denI D (.rng3 a b c)) s QI = wp (denE D a) s (fun x t => wp (denE D b) t (fun y t => wp (denE D c) t (fun z t => wpL (rng3I x y z) (fun v => QI v t)))) := by rw [denI, wp_bnd]; simp only [wp_bnd, wpL_eq]
theorem I_enum0 {e : E} : wp (denI D (.enum e)) s QI = wp (denE D e) s (fun x t => wpL (enumI x) (fun v => QI v t)) := by rw [denI, wp_bnd]; simp only [wpL_eq]
theorem I_rev0 {e : E} : wp (denI D (.rev e)) s QI = wp (denE D e) s (fun x t => wpL (revI x) (fun v => QI v t)) := by rw [denI, wp_bnd]; simp only [wpL_eq]
theorem I_zip0 {a b : E} : wp (denI D (.zip a b)) s QI = wp (denE D a) s (fun x t => wp (denE D b) t (fun y t => wpL (zipI x y) (fun v => QI v t))) := by rw [denI, wp_bnd]; simp only [wp_bnd, wpL_eq]
/-! targets -/
theorem G_nm0 {i : Nat} {x : MV} : wp (bindG (.nm i) x) s QU = wpZ s.env i (some (.v x)) (fun e => QU () ⟨e, s.mh⟩) := by rw [bindG, wp_setSl]; rfl
theorem G_row0 {g : G} {xs : List MV} : wp (bindG (.row g) (.tup xs)) s QU = wp (bindGs g xs) s QU := rfl
theorem Gs_nil0 : wp (bindGs .nil []) s QU = QU () s := wp_ok rfl
theorem Gs_cons0 {g r : G} {x : MV} {t : List MV} : wp (bindGs (.cons g r) (x :: t)) s QU = wp (bindG g x) s (fun _ u => wp (bindGs r t) u QU) := by rw [bindGs, wp_bnd]
/-! statements -/
theorem S_asg0 {g : G} {e : E} : wp (denS D (.asg g e)) s QS = wp (denE D e) s (fun x t => wp (bindG g x) t (fun _ t => QS .nx t)) := by rw [denS, wp_bnd]; simp only [wp_bnd, wp_pure]
theorem S_own0 {i : Nat} {f : FE} : wp (denS D (.own i f)) s QS = wp (denF D f) s (fun c t => wpZ t.env i (some (.o c)) (fun e => QS .nx ⟨e, t.mh⟩)) := by rw [denS, wp_bnd]; simp only [wp_bnd, wp_pure, wp_setSl]; rfl
theorem EF_nil0 {Q : List Slot → S → Prop} : wp (denEFs D []) s Q = Q [] s := wp_ok rfl
theorem EF_e0 {x : E} {r : List EF} {Q : List Slot → S → Prop} : wp (denEFs D (.e x :: r)) s Q = wp (denE D x) s (fun y t => wp (denEFs D r) t (fun ys t => Q (.v y :: ys) t)) := by rw [denEFs, wp_bnd]; simp only [wp_bnd, wp_pure]
theorem EF_f0 {x : FE} {r : List EF} {Q : List Slot → S → Prop} : wp (denEFs D (.f x :: r)) s Q = wp (denF D x) s (fun y t => wp (denEFs D r) t (fun ys t => Q (.o y :: ys) t)) := by rw [denEFs, wp_bnd]; simp only [wp_bnd, wp_pure]
theorem SL_nil0 {xs : List Slot} : wp (setSls [] xs) s QU = QU () s := wp_ok rfl
theorem SL_cons0 {i : Nat} {js : List Nat} {x : Slot} {xs : List Slot} : wp (setSls (i :: js) (x :: xs)) s QU = wpZ s.env i (some x) (fun e => wp (setSls js xs) ⟨e, s.mh⟩ QU) := by rw [setSls, wp_bnd, wp_setSl]; rfl
theorem S_par0 {js : List Nat} {vs : List EF} : wp (denS D (.par js vs)) s QS = wp (denEFs D vs) s (fun xs t => wp (setSls js xs) t (fun _ t => QS .nx t)) := by rw [denS, wp_bnd, wp_noEx]; simp only [wp_bnd, wp_pure]
theorem S_sti0 {i : Nat} {k v : E} : wp (denS D (.sti i k v)) s QS = wp (denE D v) s (fun x t => wpO t.env i (fun _ => wp (denE D k) t (fun k t => wpO t.env i (fun c => wpL (putV c k x) (fun d => wpZ t.env i (some (.o d)) (fun e => QS .nx ⟨e, t.mh⟩)))))) := by
  rw [denS, wp_bnd]; simp only [wp_bnd, wpL_eq, wp_setSl, wp_pure, wp_getO]; rfl
theorem S_stc0 {c k v : E} : wp (denS D (.stc c k v)) s QS = wp (denE D v) s (fun x t => wp (denE D c) t (fun r t => wp (denE D k) t (fun k t => wpL (refN r) (fun n => wpC t.mh n (fun c => wpL (putV c k x) (fun d => wpM t.mh (fun l => QS .nx ⟨t.env, some (l.set n d)⟩))))))) := by
  rw [denS, wp_bnd]; simp only [wp_bnd, wpL_eq, wp_setC, wp_pure, wp_getC]; rfl
theorem S_exp0 {e : E} : wp (denS D (.exp e)) s QS = wp (denE D e) s (fun _ t => QS .nx t) := by rw [denS, wp_bnd]; simp only [wp_pure]
theorem S_ret0 {e : E} : wp (denS D (.ret e)) s QS = wp (denE D e) s (fun x t => QS (.rt x) t) := by rw [denS, wp_bnd]; simp only [wp_pure]
theorem S_retN0 : wp (denS D .retN) s QS = QS (.rt .non) s := wp_ok rfl
theorem S_ife0 {c : E} {a b : SS} : wp (denS D (.ife c a b)) s QS = wp (tstE D c) s (fun r t => wpI r (wp (denS D a) t QS) (wp (denS D b) t QS)) := by rw [denS, wp_bnd]; simp only [wp_if]
/-- a walk over a row -/
def wpR (D : Fns) (g : G) (b : SS) (xs : List MV) (s : S) (QS : Fl → S → Prop) : Prop := wp (forS (fun x => do bindG g x; denS D b) xs) s QS
theorem S_fr0 {g : G} {it : I} {b : SS} : wp (denS D (.fr g it b)) s QS = wp (denI D it) s (fun v t => wpR D g b (itemsOf v) t QS) := by rw [denS, wp_bnd]; rfl
def wpU (D : Fns) (c : E) (b : SS) (s : S) (QS : Fl → S → Prop) : Prop := wp (whlS (tstE D c) (denS D b) fuelW) s QS
theorem S_whl0 {c : E} {b : SS} : wp (denS D (.whl c b)) s QS = wpU D c b s QS := rfl
theorem S_brk0 : wp (denS D .brk) s QS = QS .bk s := wp_ok rfl
theorem S_cont0 : wp (denS D .cont) s QS = QS .ct s := wp_ok rfl
theorem S_pass0 : wp (denS D .pass) s QS = QS .nx s := wp_ok rfl
theorem S_nil0 : wp (denS D .nil) s QS = QS .nx s := wp_ok rfl
/-- behind a statement: the others, or out -/
def andThen (D : Fns) (b : SS) (QS : Fl → S → Prop) (fl : Fl) (t : S) : Prop := match fl with
  | .nx => wp (denS D b) t QS
  | f => QS f t
theorem aT_nx0 {b : SS} : andThen D b QS .nx s = wp (denS D b) s QS := rfl
theorem aT_rt {b : SS} {x : MV} : andThen D b QS (.rt x) s = QS (.rt x) s := rfl
theorem aT_bk {b : SS} : andThen D b QS .bk s = QS .bk s := rfl
theorem aT_ct {b : SS} : andThen D b QS .ct s = QS .ct s := rfl
theorem S_cons0 {a b : SS} : wp (denS D (.cons a b)) s QS = wp (denS D a) s (andThen D b QS) := by
  rw [wp_seq]
  congr 1
/-- a def's end -/
def atEnd (Q : MV → Option (List Cn) → Prop) (fl : Fl) (s : S) : Prop := match fl with
  | .rt x => Q x s.mh
  | .nx => Q .non s.mh
  | _ => False
theorem aE_rt {Q : MV → Option (List Cn) → Prop} {x : MV} : atEnd Q (.rt x) s = Q x s.mh := rfl
theorem aE_nx {Q : MV → Option (List Cn) → Prop} : atEnd Q .nx s = Q .non s.mh := rfl
end
/-- a def, with room to spare: n levels of calls within -/
theorem Sp.go0 {P : List FD} {k : Nat} (n : Nat) {f : Nat} {np ns : Nat} {b : SS} {i : Bool} {xs : List MV} {mh : Option (List Cn)} {Q : MV → Option (List Cn) → Prop} (h : P[f]? = some ⟨np, ns, b, i⟩) (hk : n + 1 ≤ k) (hl : xs.length = np)
    (w : ∀ k, n ≤ k → wp (denS (fnsK P k) b) ⟨startE ns xs, mh⟩ (atEnd Q)) : Sp P k f xs mh Q := .def' h hk hl fun k hk => by
  refine wp_mono (w k hk) fun fl s q => ?_
  cases fl <;> exact q
/-! loops, over pictures -/
section
variable {D : Fns} {s : S}
theorem R_nil0 {g : G} {b : SS} {QS : Fl → S → Prop} : wpR D g b [] s QS = QS .nx s := wp_ok rfl
/-- behind a turn -/
def turnS (K : S → Prop) (Q : Fl → S → Prop) (fl : Fl) (t : S) : Prop := match fl with
  | .nx => K t
  | .ct => K t
  | .bk => Q .nx t
  | .rt v => Q (.rt v) t
theorem tS_nx {K : S → Prop} {Q : Fl → S → Prop} : turnS K Q .nx s = K s := rfl
theorem tS_ct {K : S → Prop} {Q : Fl → S → Prop} : turnS K Q .ct s = K s := rfl
theorem tS_bk {K : S → Prop} {Q : Fl → S → Prop} : turnS K Q .bk s = Q .nx s := rfl
theorem tS_rt {K : S → Prop} {Q : Fl → S → Prop} {v : MV} : turnS K Q (.rt v) s = Q (.rt v) s := rfl
theorem R_cons0 {g : G} {b : SS} {x : MV} {r : List MV} {QS : Fl → S → Prop} : wpR D g b (x :: r) s QS = wp (bindG g x) s (fun _ t => wp (denS D b) t (turnS (fun t => wpR D g b r t QS) QS)) := by
  unfold wpR
  rw [wp_forS_cons, wp_bnd]
  congr 1
/-- a walk over the pictures h z of a row: Z done rest state -/
theorem R_inv0 {α : Type} {g : G} {b : SS} {QS : Fl → S → Prop} (h : α → MV) (zs : List α) (Z : List α → List α → S → Prop) (h0 : Z [] zs s)
    (st : ∀ done z rest t, done ++ z :: rest = zs → Z done (z :: rest) t → wp (bindG g (h z)) t (fun _ t => wp (denS D b) t (turnS (Z (done ++ [z]) rest) QS)))
    (he : ∀ t, Z zs [] t → QS .nx t) : wpR D g b (zs.map h) s QS := by
  unfold wpR
  refine wp_for h Z zs h0 (fun done z rest t e hz => ?_) he
  rw [wp_bnd]
  refine wp_mono (st done z rest t e hz) fun _ t q => wp_mono q fun fl t q => ?_
  cases fl <;> exact q
theorem U_inv0 {c : E} {b : SS} {QS : Fl → S → Prop} (Z : S → Prop) (μ : S → Nat) (h0 : Z s) (hb : μ s < 1000000000000)
    (st : ∀ t, Z t → wp (tstE D c) t (fun r t1 => wpI r (wp (denS D b) t1 (turnS (fun t' => Z t' ∧ μ t' < μ t) QS)) (QS .nx t1))) : wpU D c b s QS := by
  refine wp_while Z μ (fun t z => ?_) fuelW s h0 hb
  refine wp_mono (st t z) fun r t1 q => ⟨fun e => ?_, fun e => ?_⟩
  · refine wp_mono (q.1 e) fun fl t' q => ?_
    cases fl <;> exact q
  · exact q.2 e
theorem W_nil0 {tg : G} {own : List Nat} {c e : E} {QC : Cn → S → Prop} (hv : ∀ i ∈ own, ∀ c, s.env[i]? ≠ some (some (.o c))) (q : QC (.l []) s) : wpW D tg own c e [] s QC := by
  unfold wpW
  rw [wp_lcM, wp_mapC_nil, back_eq rfl hv]; exact q
/-- a comprehension that changes no cells: p which stay, f what is made -/
theorem W_pure0 {α : Type} {tg : G} {own : List Nat} {c e : E} {QC : Cn → S → Prop} (h : α → MV) (p : α → Bool) (f : α → MV) (zs : List α) (hl : zs.length ≤ sizeLine)
    (hv : ∀ i ∈ own, ∀ c, s.env[i]? ≠ some (some (.o c)))
    (st : ∀ z ∈ zs, wpN (wipeE s.env own) (fun en => wp (bindG tg (h z)) ⟨en, s.mh⟩ (fun _ t => wp (tstE D c) t (fun b t => b = p z ∧ wpI b (wp (denE D e) t (fun y t => y = f z ∧ SameX own s t)) (SameX own s t)))))
    (q : QC (.l ((zs.filter p).map f)) s) : wpW D tg own c e (zs.map h) s QC := by
  unfold wpW
  refine wp_lc h p f zs hl hv (fun z hz => ?_) q
  exact wp_mono (st z hz) fun _ t q => wp_mono q fun b t q => ⟨q.1, q.2.1, q.2.2⟩
theorem W_map0 {α : Type} {tg : G} {own : List Nat} {e : E} {QC : Cn → S → Prop} (h : α → MV) (f : α → MV) (zs : List α) (hl : zs.length ≤ sizeLine)
    (hv : ∀ i ∈ own, ∀ c, s.env[i]? ≠ some (some (.o c)))
    (st : ∀ z ∈ zs, wpN (wipeE s.env own) (fun en => wp (bindG tg (h z)) ⟨en, s.mh⟩ (fun _ t => wp (denE D e) t (fun y t => y = f z ∧ SameX own s t))))
    (q : QC (.l (zs.map f)) s) : wpW D tg own .tt e (zs.map h) s QC := by
  refine W_pure0 h (fun _ => true) f zs hl hv (fun z hz => ?_) ?_
  · exact wp_mono (st z hz) fun _ t q => wp_of rfl ⟨rfl, fun _ => q, fun e => by cases e⟩
  · rw [List.filter_eq_self.mpr (by simp)]; exact q
/-- a comprehension that changes cells: J done made cells -/
theorem W_cells0 {α : Type} {tg : G} {own : List Nat} {c e : E} {QC : Cn → S → Prop} (h : α → MV) (J : List α → List MV → Option (List Cn) → Prop) (zs : List α) (hl : zs.length ≤ sizeLine)
    (hv : ∀ i ∈ own, ∀ c, s.env[i]? ≠ some (some (.o c))) (h0 : J [] [] s.mh)
    (st : ∀ done z rest acc mh, done ++ z :: rest = zs → J done acc mh → wpN (wipeE s.env own) (fun en => wp (bindG tg (h z)) ⟨en, mh⟩ (fun _ t => wp (tstE D c) t (fun b t => wpI b (wp (denE D e) t (fun y t => J (done ++ [z]) (acc ++ [y]) t.mh ∧ wipeE t.env own = wipeE s.env own)) (J (done ++ [z]) acc t.mh ∧ wipeE t.env own = wipeE s.env own)))))
    (q : ∀ ys mh, J zs ys mh → QC (.l ys) ⟨s.env, mh⟩) : wpW D tg own c e (zs.map h) s QC := by
  unfold wpW
  exact wp_lcC h J zs hl hv h0 st q
end
/-! items -/
theorem items_seq (x : MV) : itemsOf (.seq x) = (items? x).getD [] := rfl
theorem items_up (lo : Int) (n : Nat) : itemsOf (.up lo n) = (List.range n).map fun i : Nat => MV.int (lo + (i : Nat)) := rfl
theorem seqI_tup (xs : List MV) : seqI (.tup xs) = some (.seq (.tup xs)) := rfl
theorem seqI_lst (xs : List MV) : seqI (.lst xs) = some (.seq (.lst xs)) := rfl
theorem seqI_scr (xs : List MV) : seqI (.scr xs) = some (.seq (.scr xs)) := rfl
theorem atM_0 (a : MV) (r : List MV) : atM (a :: r) 0 = some a := by
  have : ixN (a :: r).length 0 = some 0 := by unfold ixN; simp <;> omega
  unfold atM; rw [this]; rfl
theorem atM_1 (a b : MV) (r : List MV) : atM (a :: b :: r) 1 = some b := by
  have : ixN (a :: b :: r).length 1 = some 1 := by unfold ixN; simp <;> omega
  unfold atM; rw [this]; rfl
theorem atM_2 (a b c : MV) (r : List MV) : atM (a :: b :: c :: r) 2 = some c := by
  have : ixN (a :: b :: c :: r).length 2 = some 2 := by unfold ixN; simp <;> omega
  unfold atM; rw [this]; rfl
theorem ixN_nat {n i : Nat} (h : i < n) : ixN n (i : Int) = some i := by unfold ixN; simp [h]
theorem atM_nat {xs : List MV} {i : Nat} (h : i < xs.length) : atM xs (i : Int) = some xs[i] := by
  unfold atM; rw [ixN_nat h]; simp [h]
theorem atM_in {xs : List MV} {r : Int} (h0 : 0 ≤ r) (h1 : r < xs.length) : ∃ x, atM xs r = some x ∧ x ∈ xs := by
  obtain ⟨n, rfl⟩ := Int.eq_ofNat_of_zero_le h0
  have hn : n < xs.length := by omega
  exact ⟨xs[n], atM_nat hn, List.getElem_mem hn⟩
theorem sz_le {n : Nat} (h : n ≤ 16777216) : n ≤ sizeLine := h
theorem sz_lt {n : Nat} (h : n < 16777216) : n < sizeLine := h
theorem sz_eq : sizeLine = 16777216 := by decide
theorem mulOk_of {i j : Int} (h : (-(2 ^ 64) < i ∧ i < 2 ^ 64) ∨ (-(2 ^ 64) < j ∧ j < 2 ^ 64)) : mulOk i j = true := by
  unfold mulOk
  rcases h with h | h
  · rw [decide_eq_true h]; rfl
  · rw [decide_eq_true h]; simp
theorem eqD_lnil (xs : List Int) : eqD (.lst (xs.map .int)) (.lst []) = some (decide (xs = [])) := eqD_lints xs []
/-! ### the same, what comes behind held by a token (simp does not look into it before its time) -/
structure Tk {β : Type} (x : β) : Type where
  mk ::
section
variable {α β : Type}
def wq (m : M α) (s : S) (Q : α → S → Prop) (t : Tk Q) : Prop := wp m s Q
def lV (e : List (Option Slot)) (i : Nat) (K : MV → Prop) (t : Tk K) : Prop := wpV e i K
def lO (e : List (Option Slot)) (i : Nat) (K : Cn → Prop) (t : Tk K) : Prop := wpO e i K
def lN (e : List (Option Slot)) (K : List (Option Slot) → Prop) (t : Tk K) : Prop := wpN e K
def lL (o : Option α) (K : α → Prop) (t : Tk K) : Prop := wpL o K
def lX (x : α) (K : α → Prop) (t : Tk K) : Prop := wpX x K
def lSn (zs : List Src) (s : S) (K : List MV → Prop) (t : Tk K) : Prop := wpSn zs s K
def lVs (zs : List Src) (K : List MV → Prop) (t : Tk K) : Prop := wpVs zs K
def lC1 (mh : Option (List Cn)) (n : Nat) (K : Cn → Prop) (t : Tk K) : Prop := wpC mh n K
def lM (mh : Option (List Cn)) (K : List Cn → Prop) (t : Tk K) : Prop := wpM mh K
def lZ (e : List (Option Slot)) (i : Nat) (x : Option Slot) (K : List (Option Slot) → Prop) (t : Tk K) : Prop := wpZ e i x K
def lF (D : Fns) (f : Nat) (xs : List MV) (s : S) (Q : MV → S → Prop) (t : Tk Q) : Prop := wpF D f xs s Q
def lW (D : Fns) (tg : G) (own : List Nat) (c e : E) (xs : List MV) (s : S) (QC : Cn → S → Prop) (t : Tk QC) : Prop := wpW D tg own c e xs s QC
def lR (D : Fns) (g : G) (b : SS) (xs : List MV) (s : S) (QS : Fl → S → Prop) (t : Tk QS) : Prop := wpR D g b xs s QS
def lU (D : Fns) (c : E) (b : SS) (s : S) (QS : Fl → S → Prop) (t : Tk QS) : Prop := wpU D c b s QS
def lBl (x : MV) (K : Bool → Prop) (t : Tk K) : Prop := wpBl x K
def lS (P : List FD) (k f : Nat) (xs : List MV) (mh : Option (List Cn)) (Q : MV → Option (List Cn) → Prop) (t : Tk Q) : Prop := Sp P k f xs mh Q
end
section
variable {α β : Type} {s : S} {D : Fns} {Q : MV → S → Prop} {QA : List Src → S → Prop} {QC : Cn → S → Prop} {QI : ItV → S → Prop} {QB : Bool → S → Prop} {QS : Fl → S → Prop} {QU : Unit → S → Prop}
theorem lV_0 {x : MV} {r : List (Option Slot)} {K : MV → Prop} : lV (some (.v x) :: r) 0 K .mk = K x := wpV_00
theorem lV_s {a : Option Slot} {r : List (Option Slot)} {i : Nat} {K : MV → Prop} : lV (a :: r) (i + 1) K .mk = lV r i K .mk := wpV_s0
theorem lO_0 {x : Cn} {r : List (Option Slot)} {K : Cn → Prop} : lO (some (.o x) :: r) 0 K .mk = K x := wpO_00
theorem lO_s {a : Option Slot} {r : List (Option Slot)} {i : Nat} {K : Cn → Prop} : lO (a :: r) (i + 1) K .mk = lO r i K .mk := wpO_s0
theorem lN_c {a : Option Slot} {r : List (Option Slot)} {K : List (Option Slot) → Prop} : lN (a :: r) K .mk = K (a :: r) := wpN_c0
theorem lM_c {l : List Cn} {K : List Cn → Prop} : lM (some l) K .mk = K l := wpM_c0
theorem lL_some {a : α} {K : α → Prop} : lL (some a) K .mk = K a := wpL_some0
theorem lL_none {K : α → Prop} : lL (none : Option α) K .mk = False := wpL_none0
theorem lL_map {f : α → β} {o : Option α} {K : β → Prop} : lL (o.map f) K .mk = lL o (fun a => K (f a)) .mk := wpL_map0
theorem lL_bind {f : α → Option β} {o : Option α} {K : β → Prop} : lL (o.bind f) K .mk = lL o (fun a => lL (f a) K .mk) .mk := wpL_bind0
theorem lL_ite {c : Prop} [Decidable c] {x : Option α} {K : α → Prop} : lL (if c then x else none) K .mk = (c ∧ lL x K .mk) := wpL_ite0
theorem lSn_nil {K : List MV → Prop} : lSn [] s K .mk = K [] := wpSn_nil0
theorem lSn_ref {n : Nat} {r : List Src} {K : List MV → Prop} : lSn (.inl (.ref n) :: r) s K .mk = lC1 s.mh n (fun c => lSn r s (fun xs => K (c.mv :: xs)) .mk) .mk := wpSn_ref0
theorem lSn_val {x : MV} {r : List Src} {K : List MV → Prop} (h : isRef x = false) : lSn (.inl x :: r) s K .mk = lSn r s (fun xs => K (x :: xs)) .mk := wpSn_val0 h
theorem lSn_own {i : Nat} {r : List Src} {K : List MV → Prop} : lSn (.inr i :: r) s K .mk = lO s.env i (fun c => lSn r s (fun xs => K (c.mv :: xs)) .mk) .mk := wpSn_own0
theorem lVs_nil {K : List MV → Prop} : lVs [] K .mk = K [] := wpVs_nil0
theorem lVs_cons {x : MV} {r : List Src} {K : List MV → Prop} : lVs (.inl x :: r) K .mk = lVs r (fun xs => K (x :: xs)) .mk := wpVs_cons0
theorem lC_0 {c : Cn} {l : List Cn} {K : Cn → Prop} : lC1 (some (c :: l)) 0 K .mk = K c := wpC_00
theorem lC_s {c : Cn} {l : List Cn} {n : Nat} {K : Cn → Prop} : lC1 (some (c :: l)) (n + 1) K .mk = lC1 (some l) n K .mk := wpC_s0
theorem E_var {i : Nat} : wq (denE D (.var i)) s Q .mk = lV s.env i (fun x => Q x s) .mk := E_var0
theorem E_esc {i : Nat} : wq (denE D (.esc i)) s Q .mk = lO s.env i (fun c => lX c.mv (fun x => lZ s.env i (some (.v x)) (fun e => Q x ⟨e, s.mh⟩) .mk) .mk) .mk := E_esc0
theorem E_cst {c : MV} : wq (denE D (.cst c)) s Q .mk = Q c s := E_cst0
theorem E_op {o : Op} {a : A} : wq (denE D (.op o a)) s Q .mk = wq (denA D a) s (fun zs t => lSn zs t (fun xs => lL (opV o xs) (fun y => Q y t) .mk) .mk) .mk := E_op0
theorem E_tup {a : A} : wq (denE D (.tup a)) s Q .mk = wq (denA D a) s (fun zs t => lVs zs (fun xs => lL (if xs.length ≤ sizeLine then some xs else none) (fun xs => Q (.tup xs) t) .mk) .mk) .mk := E_tup0
theorem E_im {f : FE} : wq (denE D (.im f)) s Q .mk = wq (denF D f) s (fun c t => lX c.mv (fun x => Q x t) .mk) .mk := E_im0
theorem E_ce {f : FE} : wq (denE D (.ce f)) s Q .mk = wq (denF D f) s (fun c t => lM t.mh (fun l => Q (.ref l.length) ⟨t.env, some (l ++ [c])⟩) .mk) .mk := E_ce0
theorem lF_iso {P : List FD} {k f : Nat} {xs : List MV} (h : isoP P f = true) : lF (fnsK P k) f xs s Q .mk = lS P k f xs none (fun x _ => Q x s) .mk := wpF_iso0 h
theorem lF_liv {P : List FD} {k f : Nat} {xs : List MV} (h : isoP P f = false) : lF (fnsK P k) f xs s Q .mk = lS P k f xs s.mh (fun x mh' => Q x ⟨s.env, mh'⟩) .mk := wpF_liv0 h
theorem E_call {f : Nat} {a : A} : wq (denE D (.call f a)) s Q .mk = wq (denA D a) s (fun zs t => lVs zs (fun xs => lF D f xs t Q .mk) .mk) .mk := E_call0
theorem E_callK {f : Nat} {a : A} {pm : List Nat} : wq (denE D (.callK f a pm)) s Q .mk = wq (denA D a) s (fun zs t => lVs zs (fun xs => lL (permA pm xs) (fun xs => lF D f xs t Q .mk) .mk) .mk) .mk := E_callK0
theorem E_pop {i : Nat} : wq (denE D (.pop i)) s Q .mk = lO s.env i (fun c => lL (popV c) (fun q => lZ s.env i (some (.o q.2)) (fun e => Q q.1 ⟨e, s.mh⟩) .mk) .mk) .mk := E_pop0
theorem E_popi {i : Nat} {e : E} : wq (denE D (.popi i e)) s Q .mk = lO s.env i (fun c => lL (lC c) (fun _ => wq (denE D e) s (fun k t => lO t.env i (fun c => lL (popiV c k) (fun q => lZ t.env i (some (.o q.2)) (fun e => Q q.1 ⟨e, t.mh⟩) .mk) .mk) .mk) .mk) .mk) .mk := E_popi0
theorem E_popc {e : E} : wq (denE D (.popc e)) s Q .mk = wq (denE D e) s (fun x t => lL (refN x) (fun n => lC1 t.mh n (fun c => lL (popV c) (fun q => lM t.mh (fun l => Q q.1 ⟨t.env, some (l.set n q.2)⟩) .mk) .mk) .mk) .mk) .mk := E_popc0
theorem E_app {i : Nat} {e : E} : wq (denE D (.app i e)) s Q .mk = lO s.env i (fun c => lL (lC c) (fun _ => wq (denE D e) s (fun x t => lO t.env i (fun c => lL (appV c x) (fun d => lZ t.env i (some (.o d)) (fun e => Q .non ⟨e, t.mh⟩) .mk) .mk) .mk) .mk) .mk) .mk := E_app0
theorem E_ext {i : Nat} {e : E} : wq (denE D (.ext i e)) s Q .mk = lO s.env i (fun c => lL (lC c) (fun _ => wq (denE D e) s (fun x t => lO t.env i (fun c => lL (extV c x) (fun d => lZ t.env i (some (.o d)) (fun e => Q .non ⟨e, t.mh⟩) .mk) .mk) .mk) .mk) .mk) .mk := E_ext0
theorem E_appc {c e : E} : wq (denE D (.appc c e)) s Q .mk = wq (denE D c) s (fun r t => lL (refN r) (fun n => lC1 t.mh n (fun c0 => lL (lC c0) (fun _ => wq (denE D e) t (fun x t => lC1 t.mh n (fun c => lL (appV c x) (fun d => lM t.mh (fun l => Q .non ⟨t.env, some (l.set n d)⟩) .mk) .mk) .mk) .mk) .mk) .mk) .mk) .mk := E_appc0
theorem E_ite {c a b : E} : wq (denE D (.ite c a b)) s Q .mk = wq (tstE D c) s (fun r t => wpI r (wq (denE D a) t Q .mk) (wq (denE D b) t Q .mk)) .mk := E_ite0
theorem lBl_bl {b : Bool} {K : Bool → Prop} : lBl (.bl b) K .mk = K b := wpBl_bl0
theorem E_and2 {a b : E} : wq (denE D (.and2 a b)) s Q .mk = wq (denE D a) s (fun x t => lBl x (fun r => wpI r (wq (denE D b) t Q .mk) (Q (.bl false) t)) .mk) .mk := E_and20
theorem E_or2 {a b : E} : wq (denE D (.or2 a b)) s Q .mk = wq (denE D a) s (fun x t => lBl x (fun r => wpI r (Q (.bl true) t) (wq (denE D b) t Q .mk)) .mk) .mk := E_or20
theorem E_not {a : E} : wq (denE D (.not a)) s Q .mk = wq (denE D a) s (fun x t => lBl x (fun r => lX (.bl (!r)) (fun y => Q y t) .mk) .mk) .mk := E_not0
theorem E_chain {c d : COp} {x y z : E} : wq (denE D (.chain c d x y z)) s Q .mk = wq (denE D x) s (fun a t => wq (denE D y) t (fun b t => lL (cmpB c a b) (fun r => wpI r (wq (denE D z) t (fun e t => lL (cmpV d b e) (fun y => Q y t) .mk) .mk) (Q (.bl false) t)) .mk) .mk) .mk := E_chain0
theorem E_cut {a : A} {lo hi : E} : wq (denE D (.cut a lo hi)) s Q .mk = wq (denA D a) s (fun zs t => wq (denE D lo) t (fun x t => lL (intD? x) (fun i => wq (denE D hi) t (fun y t => lL (intD? y) (fun j => lSn zs t (fun xs => lL (one (cutT i j) xs) (fun y => Q y t) .mk) .mk) .mk) .mk) .mk) .mk) .mk := E_cut0
theorem T_not {a : E} : wq (tstE D (.not a)) s QB .mk = wq (tstE D a) s (fun b t => lX (!b) (fun b => QB b t) .mk) .mk := T_not0
theorem T_and2 {a b : E} : wq (tstE D (.and2 a b)) s QB .mk = wq (tstE D a) s (fun r t => wpI r (wq (tstE D b) t QB .mk) (QB false t)) .mk := T_and20
theorem T_or2 {a b : E} : wq (tstE D (.or2 a b)) s QB .mk = wq (tstE D a) s (fun r t => wpI r (QB true t) (wq (tstE D b) t QB .mk)) .mk := T_or20
theorem T_var {i : Nat} : wq (tstE D (.var i)) s QB .mk = lV s.env i (fun x => lL (truthV x) (fun b => QB b s) .mk) .mk := T_var0
theorem T_cst {c : MV} : wq (tstE D (.cst c)) s QB .mk = lL (truthV c) (fun b => QB b s) .mk := T_cst0
theorem T_tt : wq (tstE D .tt) s QB .mk = QB true s := T_tt0
theorem T_op {o : Op} {a : A} : wq (tstE D (.op o a)) s QB .mk = wq (denA D a) s (fun zs t => lSn zs t (fun xs => lL (opV o xs) (fun y => lL (truthV y) (fun b => QB b t) .mk) .mk) .mk) .mk := T_op0
theorem T_call {f : Nat} {a : A} : wq (tstE D (.call f a)) s QB .mk = wq (denA D a) s (fun zs t => lVs zs (fun xs => lF D f xs t (fun x t => lL (truthV x) (fun b => QB b t) .mk) .mk) .mk) .mk := T_call0
theorem T_callK {f : Nat} {a : A} {pm : List Nat} : wq (tstE D (.callK f a pm)) s QB .mk = wq (denA D a) s (fun zs t => lVs zs (fun xs => lL (permA pm xs) (fun xs => lF D f xs t (fun x t => lL (truthV x) (fun b => QB b t) .mk) .mk) .mk) .mk) .mk := T_callK0
theorem T_chain {c d : COp} {x y z : E} : wq (tstE D (.chain c d x y z)) s QB .mk = wq (denE D x) s (fun a t => wq (denE D y) t (fun b t => lL (cmpB c a b) (fun r => wpI r (wq (denE D z) t (fun e t => lL (cmpB d b e) (fun y => QB y t) .mk) .mk) (QB false t)) .mk) .mk) .mk := T_chain0
theorem A_nil : wq (denA D .nil) s QA .mk = QA [] s := A_nil0
theorem A_cons {e : E} {r : A} : wq (denA D (.cons e r)) s QA .mk = wq (denE D e) s (fun x t => wq (denA D r) t (fun xs t => QA (.inl x :: xs) t) .mk) .mk := A_cons0
theorem A_own {i : Nat} {r : A} : wq (denA D (.own i r)) s QA .mk = lO s.env i (fun _ => wq (denA D r) s (fun xs t => QA (.inr i :: xs) t) .mk) .mk := A_own0
theorem F_disp {a : A} : wq (denF D (.disp a)) s QC .mk = wq (denA D a) s (fun zs t => lVs zs (fun xs => lL (if xs.length ≤ sizeLine then some xs else none) (fun xs => QC (.l xs) t) .mk) .mk) .mk := F_disp0
theorem F_fop {o : FOp} {a : A} : wq (denF D (.fop o a)) s QC .mk = wq (denA D a) s (fun zs t => lSn zs t (fun xs => lL (opF o xs) (fun y => QC y t) .mk) .mk) .mk := F_fop0
theorem F_dnk {ks : List Key} {a : A} : wq (denF D (.dnk ks a)) s QC .mk = wq (denA D a) s (fun zs t => lVs zs (fun xs => lL (dnkC ks xs) (fun c => QC c t) .mk) .mk) .mk := F_dnk0
theorem F_cut {a : A} {lo hi : E} : wq (denF D (.cut a lo hi)) s QC .mk = wq (denA D a) s (fun zs t => wq (denE D lo) t (fun x t => lL (intD? x) (fun i => wq (denE D hi) t (fun y t => lL (intD? y) (fun j => lSn zs t (fun xs => lL (oneF (cutL i j) xs) (fun y => QC y t) .mk) .mk) .mk) .mk) .mk) .mk) .mk := F_cut0
theorem F_lc {tg : G} {own : List Nat} {it : I} {c e : E} : wq (denF D (.lc tg own it c e)) s QC .mk = wq (denI D it) s (fun v t => lW D tg own c e (itemsOf v) t QC .mk) .mk := F_lc0
theorem F_lcO {tg : G} {own : List Nat} {i : Nat} {c e : E} : wq (denF D (.lcO tg own i c e)) s QC .mk = lO s.env i (fun x => lL (lX? x) (fun xs => lZ s.env i none (fun en => lW D tg own c e xs ⟨en, s.mh⟩ (fun d t => lZ t.env i (some (.o (.l xs))) (fun en => QC d ⟨en, t.mh⟩) .mk) .mk) .mk) .mk) .mk := F_lcO0
theorem I_ex {e : E} : wq (denI D (.ex e)) s QI .mk = wq (denE D e) s (fun x t => lL (seqI x) (fun v => QI v t) .mk) .mk := I_ex0
theorem I_rng1 {e : E} : wq (denI D (.rng1 e)) s QI .mk = wq (denE D e) s (fun x t => lL (rng1I x) (fun v => QI v t) .mk) .mk := I_rng10
theorem I_rng2 {a b : E} : wq (denI D (.rng2 a b)) s QI .mk = wq (denE D a) s (fun x t => wq (denE D b) t (fun y t => lL (rng2I x y) (fun v => QI v t) .mk) .mk) .mk := I_rng20
theorem I_rng3 {a b c : E} : wq (denI D (.rng3 a b c)) s QI .mk = wq (denE D a) s (fun x t => wq (denE D b) t (fun y t => wq (denE D c) t (fun z t => lL (rng3I x y z) (fun v => QI v t) .mk) .mk) .mk) .mk := I_rng30
theorem I_enum {e : E} : wq (denI D (.enum e)) s QI .mk = wq (denE D e) s (fun x t => lL (enumI x) (fun v => QI v t) .mk) .mk := I_enum0
theorem I_rev {e : E} : wq (denI D (.rev e)) s QI .mk = wq (denE D e) s (fun x t => lL (revI x) (fun v => QI v t) .mk) .mk := I_rev0
theorem I_zip {a b : E} : wq (denI D (.zip a b)) s QI .mk = wq (denE D a) s (fun x t => wq (denE D b) t (fun y t => lL (zipI x y) (fun v => QI v t) .mk) .mk) .mk := I_zip0
theorem G_nm {i : Nat} {x : MV} : wq (bindG (.nm i) x) s QU .mk = lZ s.env i (some (.v x)) (fun e => QU () ⟨e, s.mh⟩) .mk := G_nm0
theorem G_row {g : G} {xs : List MV} : wq (bindG (.row g) (.tup xs)) s QU .mk = wq (bindGs g xs) s QU .mk := G_row0
theorem Gs_nil : wq (bindGs .nil []) s QU .mk = QU () s := Gs_nil0
theorem Gs_cons {g r : G} {x : MV} {t : List MV} : wq (bindGs (.cons g r) (x :: t)) s QU .mk = wq (bindG g x) s (fun _ u => wq (bindGs r t) u QU .mk) .mk := Gs_cons0
theorem S_asg {g : G} {e : E} : wq (denS D (.asg g e)) s QS .mk = wq (denE D e) s (fun x t => wq (bindG g x) t (fun _ t => QS .nx t) .mk) .mk := S_asg0
theorem S_own {i : Nat} {f : FE} : wq (denS D (.own i f)) s QS .mk = wq (denF D f) s (fun c t => lZ t.env i (some (.o c)) (fun e => QS .nx ⟨e, t.mh⟩) .mk) .mk := S_own0
theorem EF_nil {Q : List Slot → S → Prop} : wq (denEFs D []) s Q .mk = Q [] s := EF_nil0
theorem EF_e {x : E} {r : List EF} {Q : List Slot → S → Prop} : wq (denEFs D (.e x :: r)) s Q .mk = wq (denE D x) s (fun y t => wq (denEFs D r) t (fun ys t => Q (.v y :: ys) t) .mk) .mk := EF_e0
theorem EF_f {x : FE} {r : List EF} {Q : List Slot → S → Prop} : wq (denEFs D (.f x :: r)) s Q .mk = wq (denF D x) s (fun y t => wq (denEFs D r) t (fun ys t => Q (.o y :: ys) t) .mk) .mk := EF_f0
theorem SL_nil {xs : List Slot} : wq (setSls [] xs) s QU .mk = QU () s := SL_nil0
theorem SL_cons {i : Nat} {js : List Nat} {x : Slot} {xs : List Slot} : wq (setSls (i :: js) (x :: xs)) s QU .mk = lZ s.env i (some x) (fun e => wq (setSls js xs) ⟨e, s.mh⟩ QU .mk) .mk := SL_cons0
theorem S_par {js : List Nat} {vs : List EF} : wq (denS D (.par js vs)) s QS .mk = wq (denEFs D vs) s (fun xs t => wq (setSls js xs) t (fun _ t => QS .nx t) .mk) .mk := S_par0
theorem S_sti {i : Nat} {k v : E} : wq (denS D (.sti i k v)) s QS .mk = wq (denE D v) s (fun x t => lO t.env i (fun _ => wq (denE D k) t (fun k t => lO t.env i (fun c => lL (putV c k x) (fun d => lZ t.env i (some (.o d)) (fun e => QS .nx ⟨e, t.mh⟩) .mk) .mk) .mk) .mk) .mk) .mk := S_sti0
theorem S_stc {c k v : E} : wq (denS D (.stc c k v)) s QS .mk = wq (denE D v) s (fun x t => wq (denE D c) t (fun r t => wq (denE D k) t (fun k t => lL (refN r) (fun n => lC1 t.mh n (fun c => lL (putV c k x) (fun d => lM t.mh (fun l => QS .nx ⟨t.env, some (l.set n d)⟩) .mk) .mk) .mk) .mk) .mk) .mk) .mk := S_stc0
theorem S_exp {e : E} : wq (denS D (.exp e)) s QS .mk = wq (denE D e) s (fun _ t => QS .nx t) .mk := S_exp0
theorem S_ret {e : E} : wq (denS D (.ret e)) s QS .mk = wq (denE D e) s (fun x t => QS (.rt x) t) .mk := S_ret0
theorem S_retN : wq (denS D .retN) s QS .mk = QS (.rt .non) s := S_retN0
theorem S_ife {c : E} {a b : SS} : wq (denS D (.ife c a b)) s QS .mk = wq (tstE D c) s (fun r t => wpI r (wq (denS D a) t QS .mk) (wq (denS D b) t QS .mk)) .mk := S_ife0
theorem S_fr {g : G} {it : I} {b : SS} : wq (denS D (.fr g it b)) s QS .mk = wq (denI D it) s (fun v t => lR D g b (itemsOf v) t QS .mk) .mk := S_fr0
theorem S_whl {c : E} {b : SS} : wq (denS D (.whl c b)) s QS .mk = lU D c b s QS .mk := S_whl0
theorem S_brk : wq (denS D .brk) s QS .mk = QS .bk s := S_brk0
theorem S_cont : wq (denS D .cont) s QS .mk = QS .ct s := S_cont0
theorem S_pass : wq (denS D .pass) s QS .mk = QS .nx s := S_pass0
theorem S_nil : wq (denS D .nil) s QS .mk = QS .nx s := S_nil0
theorem aT_nx {b : SS} : andThen D b QS .nx s = wq (denS D b) s QS .mk := aT_nx0
theorem S_cons {a b : SS} : wq (denS D (.cons a b)) s QS .mk = wq (denS D a) s (andThen D b QS) .mk := S_cons0
theorem Sp.go {P : List FD} {k : Nat} (n : Nat) {f : Nat} {np ns : Nat} {b : SS} {i : Bool} {xs : List MV} {mh : Option (List Cn)} {Q : MV → Option (List Cn) → Prop} (h : P[f]? = some ⟨np, ns, b, i⟩) (hk : n + 1 ≤ k) (hl : xs.length = np)
    (w : ∀ k, n ≤ k → wq (denS (fnsK P k) b) ⟨startE ns xs, mh⟩ (atEnd Q) .mk) : lS P k f xs mh Q .mk := Sp.go0 n h hk hl w
theorem R_nil {g : G} {b : SS} {QS : Fl → S → Prop} : lR D g b [] s QS .mk = QS .nx s := R_nil0
theorem R_cons {g : G} {b : SS} {x : MV} {r : List MV} {QS : Fl → S → Prop} : lR D g b (x :: r) s QS .mk = wq (bindG g x) s (fun _ t => wq (denS D b) t (turnS (fun t => lR D g b r t QS .mk) QS) .mk) .mk := R_cons0
theorem R_inv {α : Type} {g : G} {b : SS} {QS : Fl → S → Prop} (h : α → MV) (zs : List α) (Z : List α → List α → S → Prop) (h0 : Z [] zs s)
    (st : ∀ done z rest t, done ++ z :: rest = zs → Z done (z :: rest) t → wq (bindG g (h z)) t (fun _ t => wq (denS D b) t (turnS (Z (done ++ [z]) rest) QS) .mk) .mk)
    (he : ∀ t, Z zs [] t → QS .nx t) : lR D g b (zs.map h) s QS .mk := R_inv0 h zs Z h0 st he
theorem U_inv {c : E} {b : SS} {QS : Fl → S → Prop} (Z : S → Prop) (μ : S → Nat) (h0 : Z s) (hb : μ s < 1000000000000)
    (st : ∀ t, Z t → wq (tstE D c) t (fun r t1 => wpI r (wq (denS D b) t1 (turnS (fun t' => Z t' ∧ μ t' < μ t) QS) .mk) (QS .nx t1)) .mk) : lU D c b s QS .mk := U_inv0 Z μ h0 hb st
theorem W_nil {tg : G} {own : List Nat} {c e : E} {QC : Cn → S → Prop} (hv : ∀ i ∈ own, ∀ c, s.env[i]? ≠ some (some (.o c))) (q : QC (.l []) s) : lW D tg own c e [] s QC .mk := W_nil0 hv q
theorem W_pure {α : Type} {tg : G} {own : List Nat} {c e : E} {QC : Cn → S → Prop} (h : α → MV) (p : α → Bool) (f : α → MV) (zs : List α) (hl : zs.length ≤ sizeLine)
    (hv : ∀ i ∈ own, ∀ c, s.env[i]? ≠ some (some (.o c)))
    (st : ∀ z ∈ zs, lN (wipeE s.env own) (fun en => wq (bindG tg (h z)) ⟨en, s.mh⟩ (fun _ t => wq (tstE D c) t (fun b t => b = p z ∧ wpI b (wq (denE D e) t (fun y t => y = f z ∧ SameX own s t) .mk) (SameX own s t)) .mk) .mk) .mk)
    (q : QC (.l ((zs.filter p).map f)) s) : lW D tg own c e (zs.map h) s QC .mk := W_pure0 h p f zs hl hv st q
theorem W_map {α : Type} {tg : G} {own : List Nat} {e : E} {QC : Cn → S → Prop} (h : α → MV) (f : α → MV) (zs : List α) (hl : zs.length ≤ sizeLine)
    (hv : ∀ i ∈ own, ∀ c, s.env[i]? ≠ some (some (.o c)))
    (st : ∀ z ∈ zs, lN (wipeE s.env own) (fun en => wq (bindG tg (h z)) ⟨en, s.mh⟩ (fun _ t => wq (denE D e) t (fun y t => y = f z ∧ SameX own s t) .mk) .mk) .mk)
    (q : QC (.l (zs.map f)) s) : lW D tg own .tt e (zs.map h) s QC .mk := W_map0 h f zs hl hv st q
theorem W_cells {α : Type} {tg : G} {own : List Nat} {c e : E} {QC : Cn → S → Prop} (h : α → MV) (J : List α → List MV → Option (List Cn) → Prop) (zs : List α) (hl : zs.length ≤ sizeLine)
    (hv : ∀ i ∈ own, ∀ c, s.env[i]? ≠ some (some (.o c))) (h0 : J [] [] s.mh)
    (st : ∀ done z rest acc mh, done ++ z :: rest = zs → J done acc mh → lN (wipeE s.env own) (fun en => wq (bindG tg (h z)) ⟨en, mh⟩ (fun _ t => wq (tstE D c) t (fun b t => wpI b (wq (denE D e) t (fun y t => J (done ++ [z]) (acc ++ [y]) t.mh ∧ wipeE t.env own = wipeE s.env own) .mk) (J (done ++ [z]) acc t.mh ∧ wipeE t.env own = wipeE s.env own)) .mk) .mk) .mk)
    (q : ∀ ys mh, J zs ys mh → QC (.l ys) ⟨s.env, mh⟩) : lW D tg own c e (zs.map h) s QC .mk := W_cells0 h J zs hl hv h0 st q
theorem lZ_0 {a x : Option Slot} {r : List (Option Slot)} {K : List (Option Slot) → Prop} : lZ (a :: r) 0 x K .mk = K (x :: r) := rfl
theorem lZ_s {a x : Option Slot} {r : List (Option Slot)} {i : Nat} {K : List (Option Slot) → Prop} : lZ (a :: r) (i + 1) x K .mk = lZ r i x (fun r => K (a :: r)) .mk := rfl
theorem nR_non : isRef .non = false := rfl
theorem nR_bl (b : Bool) : isRef (.bl b) = false := rfl
theorem nR_int (b : Int) : isRef (.int b) = false := rfl
theorem nR_str (b : Str) : isRef (.str b) = false := rfl
theorem nR_tup (b : List MV) : isRef (.tup b) = false := rfl
theorem nR_lst (b : List MV) : isRef (.lst b) = false := rfl
theorem nR_scr (b : List MV) : isRef (.scr b) = false := rfl
theorem nR_dk (b : List (Key × MV)) : isRef (.dk b) = false := rfl
theorem nR_dt (b : List (List Key × MV)) : isRef (.dt b) = false := rfl
theorem lSn_non  {r : List Src} {K : List MV → Prop} : lSn (.inl .non :: r) s K .mk = lSn r s (fun xs => K (.non :: xs)) .mk := lSn_val rfl
theorem lSn_bl {b : Bool} {r : List Src} {K : List MV → Prop} : lSn (.inl (.bl b) :: r) s K .mk = lSn r s (fun xs => K ((.bl b) :: xs)) .mk := lSn_val rfl
theorem lSn_int {b : Int} {r : List Src} {K : List MV → Prop} : lSn (.inl (.int b) :: r) s K .mk = lSn r s (fun xs => K ((.int b) :: xs)) .mk := lSn_val rfl
theorem lSn_str {b : Str} {r : List Src} {K : List MV → Prop} : lSn (.inl (.str b) :: r) s K .mk = lSn r s (fun xs => K ((.str b) :: xs)) .mk := lSn_val rfl
theorem lSn_tup {b : List MV} {r : List Src} {K : List MV → Prop} : lSn (.inl (.tup b) :: r) s K .mk = lSn r s (fun xs => K ((.tup b) :: xs)) .mk := lSn_val rfl
theorem lSn_lst {b : List MV} {r : List Src} {K : List MV → Prop} : lSn (.inl (.lst b) :: r) s K .mk = lSn r s (fun xs => K ((.lst b) :: xs)) .mk := lSn_val rfl
theorem lSn_scr {b : List MV} {r : List Src} {K : List MV → Prop} : lSn (.inl (.scr b) :: r) s K .mk = lSn r s (fun xs => K ((.scr b) :: xs)) .mk := lSn_val rfl
theorem lSn_dk {b : List (Key × MV)} {r : List Src} {K : List MV → Prop} : lSn (.inl (.dk b) :: r) s K .mk = lSn r s (fun xs => K ((.dk b) :: xs)) .mk := lSn_val rfl
theorem lSn_dt {b : List (List Key × MV)} {r : List Src} {K : List MV → Prop} : lSn (.inl (.dt b) :: r) s K .mk = lSn r s (fun xs => K ((.dt b) :: xs)) .mk := lSn_val rfl
def notO : Option Slot → Bool
  | some (.o _) => false
  | _ => true
def noO : List (Option Slot) → Nat → Bool
  | [], _ => true
  | a :: _, 0 => notO a
  | _ :: r, i + 1 => noO r i
theorem noO_ok : ∀ {e : List (Option Slot)} {i : Nat}, noO e i = true → ∀ c, e[i]? ≠ some (some (.o c))
  | [], i, _, c => by simp
  | a :: r, 0, h, c => by
    rcases a with _ | x | x
    · simp
    · simp
    · cases h
  | a :: r, i + 1, h, c => by simpa using noO_ok (e := r) (i := i) h c
def noOs (e : List (Option Slot)) (own : List Nat) : Bool := own.all (noO e)
theorem noOs_ok {e : List (Option Slot)} {own : List Nat} (h : noOs e own = true) : ∀ i ∈ own, ∀ c, e[i]? ≠ some (some (.o c)) := fun i hi => noO_ok (List.all_eq_true.mp h i hi)
section
variable {D : Fns} {e : List (Option Slot)} {mh : Option (List Cn)}
/-- a comprehension that changes no cells -/
theorem W_pure' {α : Type} {tg : G} {own : List Nat} {c el : E} {QC : Cn → S → Prop} (h : α → MV) (p : α → Bool) (f : α → MV) (zs : List α) (hl : zs.length ≤ sizeLine) (hv : noOs e own = true)
    (st : ∀ z ∈ zs, lN (wipeE e own) (fun en => wq (bindG tg (h z)) ⟨en, mh⟩ (fun _ t => wq (tstE D c) t (fun b t => b = p z ∧ wpI b (wq (denE D el) t (fun y t => y = f z ∧ SameX own ⟨e, mh⟩ t) .mk) (SameX own ⟨e, mh⟩ t)) .mk) .mk) .mk)
    (q : QC (.l ((zs.filter p).map f)) ⟨e, mh⟩) : lW D tg own c el (zs.map h) ⟨e, mh⟩ QC .mk := W_pure h p f zs hl (noOs_ok hv) st q
theorem W_map' {α : Type} {tg : G} {own : List Nat} {el : E} {QC : Cn → S → Prop} (h : α → MV) (f : α → MV) (zs : List α) (hl : zs.length ≤ sizeLine) (hv : noOs e own = true)
    (st : ∀ z ∈ zs, lN (wipeE e own) (fun en => wq (bindG tg (h z)) ⟨en, mh⟩ (fun _ t => wq (denE D el) t (fun y t => y = f z ∧ SameX own ⟨e, mh⟩ t) .mk) .mk) .mk)
    (q : QC (.l (zs.map f)) ⟨e, mh⟩) : lW D tg own .tt el (zs.map h) ⟨e, mh⟩ QC .mk := W_map h f zs hl (noOs_ok hv) st q
theorem W_cells' {α : Type} {tg : G} {own : List Nat} {c el : E} {QC : Cn → S → Prop} (h : α → MV) (J : List α → List MV → Option (List Cn) → Prop) (zs : List α) (hl : zs.length ≤ sizeLine) (hv : noOs e own = true) (h0 : J [] [] mh)
    (st : ∀ done z rest acc mh, done ++ z :: rest = zs → J done acc mh → lN (wipeE e own) (fun en => wq (bindG tg (h z)) ⟨en, mh⟩ (fun _ t => wq (tstE D c) t (fun b t => wpI b (wq (denE D el) t (fun y t => J (done ++ [z]) (acc ++ [y]) t.mh ∧ wipeE t.env own = wipeE e own) .mk) (J (done ++ [z]) acc t.mh ∧ wipeE t.env own = wipeE e own)) .mk) .mk) .mk)
    (q : ∀ ys mh, J zs ys mh → QC (.l ys) ⟨e, mh⟩) : lW D tg own c el (zs.map h) ⟨e, mh⟩ QC .mk := W_cells h J zs hl (noOs_ok hv) h0 st q
theorem W_nil' {tg : G} {own : List Nat} {c el : E} {QC : Cn → S → Prop} (hv : noOs e own = true) (q : QC (.l []) ⟨e, mh⟩) : lW D tg own c el [] ⟨e, mh⟩ QC .mk := W_nil (noOs_ok hv) q
end
/-- a def, opened -/
theorem lS.go {P : List FD} {k : Nat} (n : Nat) {f : Nat} {np ns : Nat} {b : SS} {i : Bool} {xs : List MV} {mh : Option (List Cn)} {Q : MV → Option (List Cn) → Prop} (h : P[f]? = some ⟨np, ns, b, i⟩) (hk : n + 1 ≤ k) (hl : xs.length = np)
    (w : ∀ k, n ≤ k → lN (startE ns xs) (fun e => wq (denS (fnsK P k) b) ⟨e, mh⟩ (atEnd Q) .mk) .mk) : lS P k f xs mh Q .mk := Sp.go0 n h hk hl w
theorem lX_x {x : α} {K : α → Prop} : lX x K .mk = K x := rfl
theorem lF_iso' {P : List FD} {k f : Nat} {xs : List MV} (h : isoP P f = true) {mh : Option (List Cn)} {e : List (Option Slot)} : lF (fnsK P k) f xs ⟨e, mh⟩ Q .mk = lS P k f xs none (fun x _ => Q x ⟨e, mh⟩) .mk := lF_iso h
theorem lF_liv' {P : List FD} {k f : Nat} {xs : List MV} (h : isoP P f = false) {mh : Option (List Cn)} {e : List (Option Slot)} : lF (fnsK P k) f xs ⟨e, mh⟩ Q .mk = lS P k f xs mh (fun x mh' => Q x ⟨e, mh'⟩) .mk := lF_liv h
theorem lS_of {P : List FD} {k f : Nat} {xs : List MV} {mh mh' : Option (List Cn)} {x : MV} {Q : MV → Option (List Cn) → Prop} (h : runP P k f xs mh = .ok x mh') : lS P k f xs mh Q .mk = Q x mh' := by
  show Sp P k f xs mh Q = _
  rw [Sp_eq, h]
theorem lS.mono {P : List FD} {k f : Nat} {xs : List MV} {mh : Option (List Cn)} {Q Q' : MV → Option (List Cn) → Prop} (h : lS P k f xs mh Q .mk) (i : ∀ x mh', Q x mh' → Q' x mh') : lS P k f xs mh Q' .mk := Sp.mono h i
theorem lS.ex {P : List FD} {k f : Nat} {xs : List MV} {mh : Option (List Cn)} {Q : MV → Option (List Cn) → Prop} (h : lS P k f xs mh Q .mk) : ∃ x mh', runP P k f xs mh = .ok x mh' ∧ Q x mh' := Sp.ex h
/-- a promise that tells the answer in full is a rule -/
theorem lS_rule {P : List FD} {k f : Nat} {xs : List MV} {mh mh' : Option (List Cn)} {x : MV} (h : lS P k f xs mh (fun y m => y = x ∧ m = mh') .mk) (Q : MV → Option (List Cn) → Prop) : lS P k f xs mh Q .mk = Q x mh' := by
  obtain ⟨_, _, e, rfl, rfl⟩ := h.ex
  exact lS_of e
end
end Py

-- text PyLb
set_option Elab.async false
set_option linter.all false
set_option maxRecDepth 100000
set_option maxHeartbeats 4000000
/-! ### facts for walks -/
namespace Py
open PySem
open L2 (Key ixN)
theorem eqD_nn : eqD (.lst []) (.lst []) = some true := rfl
theorem popi_nat {xs : List MV} {j : Nat} (h : j < xs.length) (h2 : xs.length ≤ 1000000) : popiV (.l xs) (.int (j : Int)) = some (xs[j], .l (xs.eraseIdx j)) := by
  have e : (2 : Int) ^ 63 = 9223372036854775808 := by decide
  have c : -(2 : Int) ^ 63 ≤ (j : Int) ∧ (j : Int) < 2 ^ 63 := by rw [e]; omega
  simp only [popiV, ixN_nat h, Option.bind_some, if_pos c, List.getElem?_eq_getElem h, Option.map_some]
theorem perm_move {α : Type} : ∀ {rs : List α} {j : Nat} {x : α}, rs[j]? = some x → ∀ fs : List α, (rs.eraseIdx j ++ (fs ++ [x])).Perm (rs ++ fs)
  | [], j, x, h, fs => by simp at h
  | y :: rs, 0, x, h, fs => by
    simp at h; subst h
    simp only [List.eraseIdx_zero, List.tail_cons]
    rw [← List.append_assoc]
    exact List.perm_append_singleton y (rs ++ fs)
  | y :: rs, j + 1, x, h, fs => by
    simp only [List.eraseIdx_cons_succ, List.cons_append]
    exact (perm_move (by simpa using h) fs).cons y
theorem erase_map {α β : Type} {f : α → β} : ∀ {rs : List α} (j : Nat), (rs.map f).eraseIdx j = (rs.eraseIdx j).map f
  | [], j => by simp
  | y :: rs, 0 => by simp
  | y :: rs, j + 1 => by simp [erase_map (rs := rs) j]
theorem rng1_nat {n : Nat} (h : n < 2 ^ 62) : rng1I (.int (n : Int)) = some (.up 0 n) := by
  unfold rng1I
  simp only [Int.toNat_natCast]
  rw [if_pos ⟨by omega, by omega⟩]
theorem rng1_int {i : Int} (h0 : 0 ≤ i) (h : i < 2 ^ 62) : rng1I (.int i) = some (.up 0 i.toNat) := by
  unfold rng1I
  simp only
  rw [if_pos ⟨by omega, by omega⟩]
theorem rng2_int {i j : Int} (h0 : -(2 ^ 62) ≤ i) (h1 : i < 2 ^ 62) (h2 : -(2 ^ 62) ≤ j) (h : j < 2 ^ 62) : rng2I (.int i) (.int j) = some (.up i (j - i).toNat) := by
  unfold rng2I
  simp only
  rw [if_pos ⟨⟨by omega, by omega⟩, by omega, by omega⟩]
/-- item by number -/
def pickA (xs : List MV) (i : Int) : MV := xs.getD i.toNat .non
theorem atM_pick {xs : List MV} {i : Int} (h0 : 0 ≤ i) (h1 : i < xs.length) : atM xs i = some (pickA xs i) := by
  obtain ⟨n, rfl⟩ := Int.eq_ofNat_of_zero_le h0
  have hn : n < xs.length := by omega
  rw [atM_nat hn]
  simp [pickA, hn]
theorem pickA_mem {xs : List MV} {i : Int} (h0 : 0 ≤ i) (h1 : i < xs.length) : pickA xs i ∈ xs := by
  obtain ⟨n, rfl⟩ := Int.eq_ofNat_of_zero_le h0
  have hn : n < xs.length := by omega
  simp [pickA, hn]
theorem sum_map_ints (xs : List Int) : sumV (.lst (xs.map .int)) = some (.int xs.sum) := by simp [sumV, items?, ints_map]
theorem sumV_lst (xs : List Int) : opV .sum [.lst (xs.map .int)] = some (.int xs.sum) := sum_map_ints xs
/-- a walk over numbers from 0 -/
theorem up0 (n : Nat) : itemsOf (.up 0 n) = (List.range n).map fun i : Nat => MV.int (i : Nat) := by
  rw [items_up]; simp
theorem sortC_ints (ns : List Int) : sortC (.lst (ns.map .int)) = some (.l ((sortI ns).map .int)) := by simp [sortC, lstItems?, ints_map]
theorem inS_int (i : Int) (xs : List Int) : inS (.int i) (.tup (xs.map MV.int)) = some (decide (i ∈ xs)) := inS_ints i xs
def pickI (xs : List Int) (i : Int) : Int := xs.getD i.toNat 0
theorem pickA_ints {xs : List Int} {i : Int} (h0 : 0 ≤ i) (h1 : i < xs.length) : pickA (xs.map .int) i = .int (pickI xs i) := by
  obtain ⟨n, rfl⟩ := Int.eq_ofNat_of_zero_le h0
  have hn : n < xs.length := by omega
  simp [pickA, pickI, hn]
theorem pickI_mem {xs : List Int} {i : Int} (h0 : 0 ≤ i) (h1 : i < xs.length) : pickI xs i ∈ xs := by
  obtain ⟨n, rfl⟩ := Int.eq_ofNat_of_zero_le h0
  have hn : n < xs.length := by omega
  simp [pickI, hn]
theorem putV_0 {a x : MV} {r : List MV} : putV (.l (a :: r)) (.int 0) x = some (.l (x :: r)) := by
  have : ixN (a :: r).length 0 = some 0 := by unfold ixN; simp
  simp only [putV, this, Option.map_some, List.set_cons_zero]
theorem listO (x : MV) : opF .list [x] = (items? x).map .l := rfl
theorem nices_ints {xs : List Int} (h : ∀ x ∈ xs, x.natAbs < 10 ^ 90) : Nices xs.length 0 (xs.map .int) := by
  have := Nices.all (n := 0) (d := 0) (xs := xs.map MV.int) (by
    intro x hx
    obtain ⟨i, hi, rfl⟩ := List.mem_map.mp hx
    exact nice_int (h i hi))
  simpa using this
theorem cat_ints {a b : List Int} (h : a.length + b.length ≤ 16777216) : catC (.lst (a.map .int)) (.lst (b.map .int)) = some (.l ((a ++ b).map .int)) := by
  simp only [catC, List.length_map]
  rw [if_pos (by rw [sz_eq]; exact h)]; simp
theorem mem_sortI {a : List Int} {x : Int} : x ∈ sortI a ↔ x ∈ a := (sortI_perm a).mem_iff
theorem len_sortI {a : List Int} : (sortI a).length = a.length := (sortI_perm a).length_eq
/-- a statement that goes on, its end told by R -/
def onlyNx (R : S → Prop) (fl : Fl) (t : S) : Prop := match fl with
  | .nx => R t
  | _ => False
theorem oN_nx {R : S → Prop} {t : S} : onlyNx R .nx t = R t := rfl
theorem q_mid {D : Fns} {a b : SS} {s : S} {QS : Fl → S → Prop} (R : S → Prop) (h : wq (denS D a) s (onlyNx R) .mk) (h2 : ∀ t, R t → wq (denS D b) t QS .mk) : wq (denS D a) s (andThen D b QS) .mk := by
  refine wp_mono h fun fl t q => ?_
  cases fl with
  | nx => exact h2 t q
  | _ => exact q.elim
theorem cutM_hi (xs : List MV) (n : Nat) : cutM xs none (some (n : Int)) = xs.take n := by
  unfold cutM
  rw [HT.sIx_nat]
  show (xs.drop 0).take (min n xs.length - 0) = xs.take n
  simp
theorem cutM_lo (xs : List MV) (n : Nat) : cutM xs (some (n : Int)) none = xs.drop n := by
  unfold cutM
  rw [HT.sIx_nat]
  show (xs.drop (min n xs.length)).take (xs.length - min n xs.length) = xs.drop n
  rcases Nat.le_total n xs.length with h | h
  · rw [Nat.min_eq_left h, List.take_of_length_le (by simp)]
  · rw [Nat.min_eq_right h, List.drop_of_length_le (Nat.le_refl _), List.drop_of_length_le h]; simp
/-- a slot that holds a value, or nothing -/
def vS : Option MV → Option Slot
  | none => none
  | some x => some (.v x)
theorem both {p q : Prop} : ((p → q) ∧ (¬ p → q)) = q := propext ⟨fun h => (Classical.em p).elim h.1 h.2, fun h => ⟨fun _ => h, fun _ => h⟩⟩
/-- how long an own list is -/
def ownLen (i : Nat) (t : S) : Nat := match t.env[i]? with
  | some (some (Slot.o (Cn.l xs))) => xs.length
  | _ => 0
end Py

-- text PyWx
set_option Elab.async false
set_option linter.all false
set_option maxRecDepth 100000
set_option maxHeartbeats 4000000
/-! ### rules for simp of what came later; constants of the module -/
namespace Py
open PySem
open L2 (Key ixN V RelV SqT Vals)
section
variable {α β : Type} {s : S} {D : Fns} {Q : MV → S → Prop} {QC : Cn → S → Prop} {QS : Fl → S → Prop}
theorem E_glob {x : Str} {c : MV} : wq (denE D (.glob x c)) s Q .mk = Q c s := wp_ok rfl
theorem E_popci {e k : E} : wq (denE D (.popci e k)) s Q .mk = wq (denE D e) s (fun x t => lL (refN x) (fun n => lC1 t.mh n (fun c0 => lL (lC c0) (fun _ => wq (denE D k) t (fun j t => lC1 t.mh n (fun c => lL (popiV c j) (fun q => lM t.mh (fun l => Q q.1 ⟨t.env, some (l.set n q.2)⟩) .mk) .mk) .mk) .mk) .mk) .mk) .mk) .mk := by
  unfold wq
  rw [denE, wp_bnd]
  simp only [wp_bnd, wpL_eq, wp_setC, wp_pure, wp_getC]; rfl
theorem E_getd {o k d : E} : wq (denE D (.getd o k d)) s Q .mk = wq (denE D o) s (fun x t => lL (dk? x) (fun kvs => wq (denE D k) t (fun y t => lL (key? y) (fun kk => wq (denE D d) t (fun z t => lX ((findK kk kvs).getD z) (fun y => Q y t) .mk) .mk) .mk) .mk) .mk) .mk := by
  unfold wq
  rw [denE, wp_bnd]
  simp only [wp_bnd, wpL_eq, wp_pure]; rfl
theorem E_geto {i : Nat} {k d : E} : wq (denE D (.geto i k d)) s Q .mk = lO s.env i (fun c0 => lL (kC? c0) (fun _ => wq (denE D k) s (fun y t => lL (key? y) (fun kk => wq (denE D d) t (fun z t => lO t.env i (fun c => lL (kC? c) (fun kvs => lX ((findK kk kvs).getD z) (fun y => Q y t) .mk) .mk) .mk) .mk) .mk) .mk) .mk) .mk := by
  unfold wq
  rw [denE, wp_bnd, wp_getO]
  simp only [wp_bnd, wpL_eq, wp_pure, wp_getO]; rfl
theorem E_trg {e : E} : wq (denE D (.trg e)) s Q .mk = wq (denE D e) s (fun x t => lL (rng1I x) (fun v => lL (trgC v) (fun y => Q y t) .mk) .mk) .mk := by
  unfold wq
  rw [denE, wp_bnd]
  simp only [wp_bnd, wpL_eq]; rfl
theorem E_star {e : E} {a : A} : wq (denE D (.star e a)) s Q .mk = wq (denE D e) s (fun x t => lL (items? x) (fun xs => wq (denA D a) t (fun zs t => lVs zs (fun ys => lL (if xs.length + ys.length ≤ sizeLine then some (xs ++ ys) else none) (fun zs => Q (.tup zs) t) .mk) .mk) .mk) .mk) .mk := by
  unfold wq
  rw [denE, wp_bnd]
  simp only [wp_bnd, wpL_eq, wp_ite, wp_pure, wp_fail]
  congr 1
  funext x t
  refine congrArg (wpL (items? x)) ?_
  funext xs
  congr 1
  funext zs t
  refine congrArg (wpL (vals? zs)) ?_
  funext ys
  show _ = wpL _ _
  rw [wpL_ite0, wpL_some0]
  by_cases h : xs.length + ys.length ≤ sizeLine <;> simp [h]
theorem F_lrg {it : I} : wq (denF D (.lrg it)) s QC .mk = wq (denI D it) s (fun v t => lL (lrgC v) (fun c => QC c t) .mk) .mk := by
  unfold wq
  rw [denF, wp_bnd]
  simp only [wp_bnd, wpL_eq]; rfl
theorem F_dictP {a : A} : wq (denF D (.dictP a)) s QC .mk = wq (denA D a) s (fun zs t => lSn zs t (fun xs => lL (oneF dictC xs) (fun c => QC c t) .mk) .mk) .mk := by
  unfold wq
  rw [denF, wp_bnd]
  simp only [wp_bnd, wpL_eq, Sn_eq]; rfl
theorem F_sset {a : A} : wq (denF D (.sset a)) s QC .mk = wq (denA D a) s (fun zs t => lSn zs t (fun xs => lL (oneF dupC xs) (fun c => QC c t) .mk) .mk) .mk := by
  unfold wq
  rw [denF, wp_bnd]
  simp only [wp_bnd, wpL_eq, Sn_eq]; rfl
/-- the keys, one call after the other -/
def lKm (D : Fns) (f : Nat) (ys : List MV) (s : S) (Q : List MV → S → Prop) (t : Tk Q) : Prop := wp (keysM D f ys) s Q
theorem F_sortK {f : Nat} {a : A} : wq (denF D (.sortK f a)) s QC .mk = wq (denA D a) s (fun zs t => lSn zs t (fun xs => lL (lstOne xs) (fun ys => lKm D f ys t (fun ks t => lL (sortK ys ks) (fun zs => QC (.l zs) t) .mk) .mk) .mk) .mk) .mk := by
  unfold wq
  rw [denF, wp_bnd]
  simp only [wp_bnd, wpL_eq, Sn_eq, wp_pure, wp_noEx]; rfl
theorem keys_iso {α : Type} {P : List FD} {k f : Nat} (hi : isoP P f = true) (h g : α → MV) (zs : List α) (H : ∀ z ∈ zs, ∃ m, runP P k f [h z] none = .ok (g z) m) {e : List (Option Slot)} {mh : Option (List Cn)} {K : List MV → S → Prop} :
    lKm (fnsK P k) f (zs.map h) ⟨e, mh⟩ K .mk = K (zs.map g) ⟨e, mh⟩ := by
  show wp _ _ _ = _
  refine wp_ok ?_
  have key : ∀ zs : List α, (∀ z ∈ zs, ∃ m, runP P k f [h z] none = .ok (g z) m) → keysM (fnsK P k) f (zs.map h) ⟨e, mh⟩ = .ok (zs.map g) ⟨e, mh⟩ := by
    intro zs
    induction zs with
    | nil => intro _; rfl
    | cons z zs ih =>
      intro H
      obtain ⟨m, hm⟩ := H z List.mem_cons_self
      have e1 : callF (fnsK P k) f [h z] ⟨e, mh⟩ = .ok (g z) ⟨e, mh⟩ := by
        unfold callF fnsK
        simp only [hi, if_true, hm]
      rw [List.map_cons, keysM, bnd_eq, e1]
      dsimp only
      rw [bnd_eq, ih fun y hy => H y (List.mem_cons_of_mem _ hy)]
      rfl
  exact key zs H
theorem S_rse : wq (denS D .rse) s QS .mk = False := eq_false (by unfold wq; rw [denS, wp_fail]; exact id)
theorem rev_t0 (xs : List MV) : revTV 0 (.tup xs) = some (.tup xs.reverse) := by simp [revTV]
theorem rev_t1 (xs : List MV) : revTV 1 (.tup xs) = some (.tup xs.dropLast.reverse) := by rw [List.dropLast_eq_take]; rfl
theorem cutLast (xs : List MV) (x : MV) : cutM (xs ++ [x]) none (some (-1)) = xs := by
  unfold cutM
  have e1 : HT.sIx (xs ++ [x]).length (xs ++ [x]).length (some (-1)) = xs.length := by
    show (if (-1 : Int) < 0 then ((-1 : Int) + ((xs ++ [x]).length : Nat)).toNat else min ((-1 : Int)).toNat (xs ++ [x]).length) = _
    rw [if_pos (by decide)]
    simp
    omega
  rw [e1]
  show ((xs ++ [x]).drop 0).take (xs.length - 0) = xs
  simp
theorem atLast (xs : List MV) (x : MV) : atM (xs ++ [x]) (-1) = some x := by
  have : ixN (xs ++ [x]).length (-1) = some xs.length := by
    unfold ixN
    simp
    omega
  unfold atM; rw [this]; simp
theorem slcT_hi (xs : List MV) (j : Int) : slcTV false true [.tup xs, .int j] = some (.tup (cutM xs none (some j))) := rfl
theorem slcT_lo (xs : List MV) (j : Int) : slcTV true false [.tup xs, .int j] = some (.tup (cutM xs (some j) none)) := rfl
theorem tupL (xs : List MV) : opV .tuple [.lst xs] = some (.tup xs) := rfl
theorem tupT (xs : List MV) : opV .tuple [.tup xs] = some (.tup xs) := rfl
end
/-! constants -/
def VC (K : PySem.W.Frag) (c : MV) (u : Value) : Prop := ∃ v : V, RelV v u ∧ ∀ (p : Pl) (H : L2.Hp), p.K = K → RV p H c v
def VCs (K : PySem.W.Frag) (xs : List MV) (us : List Value) : Prop := ∃ vs : List V, Vals vs us ∧ ∀ (p : Pl) (H : L2.Hp), p.K = K → RVs p H xs vs
variable {K : PySem.W.Frag}
theorem vc_int {n : Int} {t : Tok} : VC K (.int n) (.int n t) := ⟨.int n, ⟨t, rfl⟩, fun p H _ => by simp [RV]⟩
theorem vc_str {n : Str} {t : Tok} : VC K (.str n) (.str n t) := ⟨.str n, ⟨t, rfl⟩, fun p H _ => by simp [RV]⟩
theorem vcs_nil : VCs K [] [] := ⟨[], .nil, fun p H _ => RVs.nil⟩
theorem vcs_cons {x : MV} {u : Value} {xs : List MV} {us : List Value} (h : VC K x u) (t : VCs K xs us) : VCs K (x :: xs) (u :: us) := by
  obtain ⟨v, r, q⟩ := h
  obtain ⟨vs, rs, qs⟩ := t
  exact ⟨v :: vs, .cons r rs, fun p H e => .cons (q p H e) (qs p H e)⟩
theorem glb_of {mg : Str → Option Value} {h : Heap} {x : Str} {u : Value} {c : MV} (X : K.In h) (G : h.Ns mainGlobals mg) (a : PySem.W.nsIn K mainGlobals x = some (some u)) (q : VC K c u) : GlbOk K mg x c := by
  obtain ⟨v, r, q⟩ := q
  exact ⟨v, u, PySem.W.mg_of X G a, r, q⟩

/-! rows of pairs of numbers -/
def prV (r : Int × Int) : MV := .tup [.int r.1, .int r.2]
def prD (r : Int × Int) : PyData := .tuple [.int r.1, .int r.2]
theorem toDs_prs : ∀ xs : List (Int × Int), toDs (xs.map prV) = some (xs.map prD)
  | [] => rfl
  | x :: xs => by simp [toDs, MV.toD, toDs_prs xs, prV, prD]
theorem lay_prs : ∀ xs : List (Int × Int), PyData.canLayAll0 (xs.map prD) = true ∧ PyData.depthAll (xs.map prD) ≤ 1
  | [] => ⟨rfl, by decide⟩
  | x :: xs => by
    obtain ⟨h1, h2⟩ := lay_prs xs
    refine ⟨?_, ?_⟩
    · simp [PyData.canLayAll0, PyData.canLay0, prD, h1]
    · simp only [List.map_cons, PyData.depthAll, PyData.depth, prD] at h2 ⊢
      omega
theorem okD_prs (xs : List (Int × Int)) : okD (.list (xs.map prD)) = true := by
  obtain ⟨h1, h2⟩ := lay_prs xs
  simp only [okD, SeqAt.shaped, PyData.canLay0, PyData.depth, h1, Bool.true_and, Bool.and_true, decide_eq_true_eq]
  have h3 : PyData.depthAll (xs.map prD) + 1 ≤ 64 := by omega
  simpa [h1] using h3
theorem okD_pr (a b : Int) : okD (.tuple [.int a, .int b]) = true := rfl
theorem any_prs (a b : Int) : ∀ xs : List (Int × Int), ((xs.map prD).any fun e => PyData.eqv e (.tuple [.int a, .int b])) = decide ((a, b) ∈ xs)
  | [] => rfl
  | x :: xs => by
    simp only [List.map_cons, List.any_cons, any_prs a b xs, prD, PyData.eqv, PyData.eqvAll, Bool.and_true]
    obtain ⟨x1, x2⟩ := x
    by_cases h1 : x1 = a
    · by_cases h2 : x2 = b
      · simp [h1, h2]
      · have h2' : ¬ b = x2 := fun z => h2 z.symm
        simp [h1, h2, h2']
    · have h1' : ¬ a = x1 := fun z => h1 z.symm
      simp [h1, h1']
theorem inS_prs (a b : Int) (xs : List (Int × Int)) : inS (.tup [.int a, .int b]) (.tup (xs.map prV)) = some (decide ((a, b) ∈ xs)) := by
  simp only [inS, MV.toD, toDs, items?, toDs_prs, Option.map_some]
  rw [okD_pr, okD_prs]
  simp only [Bool.and_self, if_true, any_prs]
theorem eqD_pr (a b c d : Int) : eqD (.tup [.int a, .int b]) (.tup [.int c, .int d]) = some (decide (a = c ∧ b = d)) := by
  simp only [eqD, MV.toD, toDs, Option.map_some, okD_pr, Bool.and_self, if_true, PyData.eqv, PyData.eqvAll, Bool.and_true, Bool.decide_and]
  rfl
theorem eqD_prsn (xs : List (Int × Int)) : eqD (.lst (xs.map prV)) (.lst []) = some (decide (xs = [])) := by
  simp only [eqD, MV.toD, toDs_prs, toDs, Option.map_some]
  rw [okD_prs]
  cases xs <;> rfl
theorem nices_prs {xs : List (Int × Int)} (h : ∀ x ∈ xs, x.1.natAbs < 10 ^ 90 ∧ x.2.natAbs < 10 ^ 90) : Nices (xs.length * 3) 1 (xs.map prV) := by
  have := Nices.all (n := 2) (d := 1) (xs := xs.map prV) (by
    intro x hx
    obtain ⟨i, hi, rfl⟩ := List.mem_map.mp hx
    have := ((Nices.cons (nice_int (h i hi).1) (.cons (nice_int (h i hi).2) (.nil (n := 0) (d := 0)))).tup)
    exact this.mono (by omega) (by omega))
  simpa using this
/-! later facts -/
theorem eqD_lnN {n d : Nat} {xs : List MV} (h : Nices n d xs) (hd : d ≤ 62) : eqD (.lst xs) (.lst []) = some (decide (xs = [])) := by
  obtain ⟨ys, h1, h2, h3, h4, h5, h6⟩ := h
  have hl := okXs_canLay ys h2
  have ok : okD (.list ys) = true := by
    simp only [okD, SeqAt.shaped, PyData.canLay0, PyData.depth, hl, Bool.true_and, Bool.and_true, decide_eq_true_eq]
    have h3 : PyData.depthAll ys + 1 ≤ 64 := by omega
    simpa [hl] using h3
  simp only [eqD, MV.toD, h1, toDs, Option.map_some]
  rw [ok]
  cases xs with
  | nil => simp only [toDs, Option.some.injEq] at h1; subst h1; rfl
  | cons x xs =>
    cases ys with
    | nil =>
      exfalso
      simp only [toDs] at h1
      split at h1 <;> simp at h1
    | cons y ys => rfl
theorem zipT (a b : List MV) : zipI (.tup a) (.tup b) = some (.zip (.tup a) (.tup b)) := rfl
theorem zipL (a b : List MV) : zipI (.lst a) (.lst b) = some (.zip (.lst a) (.lst b)) := rfl
theorem zipIt (a b : List MV) : itemsOf (.zip (.tup a) (.tup b)) = a.zipWith pair b := rfl
theorem zipIl (a b : List MV) : itemsOf (.zip (.lst a) (.lst b)) = a.zipWith pair b := rfl
theorem putLast (xs : List MV) (x y : MV) : putV (.l (xs ++ [x])) (.int (-1)) y = some (.l (xs ++ [y])) := by
  have : L2.ixN (xs ++ [x]).length (-1) = some xs.length := by
    unfold L2.ixN
    simp
    omega
  simp only [putV, this, Option.map_some]
  simp
theorem mem_pick {α : Type} {f : α → MV} {xs : List α} {i : Int} (h0 : 0 ≤ i) (h1 : i < xs.length) : ∃ x ∈ xs, pickA (xs.map f) i = f x := by
  have := pickA_mem (xs := xs.map f) h0 (by simpa using h1)
  obtain ⟨x, hx, e⟩ := List.mem_map.mp this
  exact ⟨x, hx, e.symm⟩
end Py

-- text PyTr
set_option Elab.async false
set_option linter.all false
set_option maxRecDepth 100000
set_option maxHeartbeats 4000000
/-! ### trees -/
namespace Py
open PySem
/-- on, or out of the def -/
def orOut (R : S → Prop) (QS : Fl → S → Prop) (fl : Fl) (t : S) : Prop := match fl with
  | .nx => R t
  | f => QS f t
theorem oR_nx {R : S → Prop} {QS : Fl → S → Prop} {t : S} : orOut R QS .nx t = R t := rfl
theorem oR_rt {R : S → Prop} {QS : Fl → S → Prop} {t : S} {x : MV} : orOut R QS (.rt x) t = QS (.rt x) t := rfl
theorem oR_bk {R : S → Prop} {QS : Fl → S → Prop} {t : S} : orOut R QS .bk t = QS .bk t := rfl
theorem oR_ct {R : S → Prop} {QS : Fl → S → Prop} {t : S} : orOut R QS .ct t = QS .ct t := rfl
theorem q_or {D : Fns} {a b : SS} {s : S} {QS : Fl → S → Prop} (R : S → Prop) (h : wq (denS D a) s (orOut R QS) .mk) (h2 : ∀ t, R t → wq (denS D b) t QS .mk) : wq (denS D a) s (andThen D b QS) .mk := by
  refine wp_mono h fun fl t q => ?_
  cases fl with
  | nx => exact h2 t q
  | rt x => exact q
  | bk => exact q
  | ct => exact q
def vLen (i : Nat) (t : S) : Nat := match t.env[i]? with
  | some (some (.v (.lst xs))) => xs.length
  | _ => 0
theorem enumT (xs : List MV) : enumI (.tup xs) = some (.enum (.tup xs)) := rfl
theorem revL (xs : List MV) : revI (.lst xs) = some (.rev (.lst xs)) := rfl
theorem revItL (xs : List MV) : itemsOf (.rev (.lst xs)) = xs.reverse := rfl
theorem enumL (xs : List MV) : enumI (.lst xs) = some (.enum (.lst xs)) := rfl
/-- things with their places -/
def ixd {α : Type} (xs : List α) : List (Nat × α) := (List.range xs.length).zip xs
theorem ixd_len {α : Type} (xs : List α) : (ixd xs).length = xs.length := by simp [ixd]
theorem enumItT {α : Type} (f : α → MV) (xs : List α) : itemsOf (.enum (.tup (xs.map f))) = (ixd xs).map fun z => .tup [.int (z.1 : Nat), f z.2] := by
  simp only [itemsOf, items?, Option.getD_some, List.length_map, ixd]
  rw [List.zip, List.zipWith_map, List.map_zipWith]; rfl
theorem enumItL {α : Type} (f : α → MV) (xs : List α) : itemsOf (.enum (.lst (xs.map f))) = (ixd xs).map fun z => .tup [.int (z.1 : Nat), f z.2] := by
  simp only [itemsOf, items?, Option.getD_some, List.length_map, ixd]
  rw [List.zip, List.zipWith_map, List.map_zipWith]; rfl
theorem mem_ixd {α : Type} {xs : List α} {z : Nat × α} (h : z ∈ ixd xs) : xs[z.1]? = some z.2 := by
  obtain ⟨i, hi⟩ := List.mem_iff_getElem?.mp h
  unfold ixd at hi
  rw [List.getElem?_zip_eq_some] at hi
  obtain ⟨h1, h2⟩ := hi
  have h3 := (List.getElem?_eq_some_iff.mp h1)
  obtain ⟨h3, h4⟩ := h3
  simp at h4
  rw [← h4]; exact h2
theorem ixd_cons {α : Type} (x : α) (xs : List α) : ixd (x :: xs) = (0, x) :: (ixd xs).map fun z => (z.1 + 1, z.2) := by
  unfold ixd
  rw [List.length_cons, List.range_succ_eq_map, List.zip_cons_cons, List.zip_map_left]
  congr 1
inductive Tr where
  | b (n : Int) | t (k : Int) (ps : List Tr)
mutual
def Tr.fold {α : Type} (fb : Int → α) (ft : Int → List Tr → List α → α) : Tr → α
  | .b n => fb n
  | .t k ps => ft k ps (Tr.folds fb ft ps)
def Tr.folds {α : Type} (fb : Int → α) (ft : Int → List Tr → List α → α) : List Tr → List α
  | [] => []
  | p :: r => Tr.fold fb ft p :: Tr.folds fb ft r
end
theorem Tr.folds_map {α : Type} (fb : Int → α) (ft : Int → List Tr → List α → α) : ∀ ps : List Tr, Tr.folds fb ft ps = ps.map (Tr.fold fb ft)
  | [] => by rw [Tr.folds]; rfl
  | p :: r => by rw [Tr.folds, Tr.folds_map fb ft r]; rfl
theorem Tr.fold_b {α : Type} (fb : Int → α) (ft : Int → List Tr → List α → α) (n : Int) : Tr.fold fb ft (.b n) = fb n := by rw [Tr.fold]
theorem Tr.fold_t {α : Type} (fb : Int → α) (ft : Int → List Tr → List α → α) (k : Int) (ps : List Tr) : Tr.fold fb ft (.t k ps) = ft k ps (ps.map (Tr.fold fb ft)) := by rw [Tr.fold, Tr.folds_map]
theorem Tr.ind {P : Tr → Prop} (hb : ∀ n, P (.b n)) (ht : ∀ k ps, (∀ p ∈ ps, P p) → P (.t k ps)) (t : Tr) : P t :=
  Tr.rec (motive_1 := P) (motive_2 := fun ps => ∀ p ∈ ps, P p) hb (fun k ps h => ht k ps h) (fun p hp => by cases hp) (fun p ps h1 h2 q hq => by
    rcases List.mem_cons.mp hq with rfl | hq
    · exact h1
    · exact h2 q hq) t
def tV : Tr → MV := Tr.fold MV.int (fun k _ xs => .tup [.int k, .tup xs])
theorem tV_b (n : Int) : tV (.b n) = .int n := Tr.fold_b ..
theorem tV_t (k : Int) (ps : List Tr) : tV (.t k ps) = .tup [.int k, .tup (ps.map tV)] := Tr.fold_t ..
def Tr.btn : Tr → List Int := Tr.fold (fun n => [n]) (fun _ _ xs => xs.flatten)
theorem Tr.btn_b (n : Int) : (Tr.b n).btn = [n] := Tr.fold_b ..
theorem Tr.btn_t (k : Int) (ps : List Tr) : (Tr.t k ps).btn = ps.flatMap Tr.btn := by
  unfold Tr.btn
  rw [Tr.fold_t]
  exact (List.flatMap_def ..).symm
def Tr.dep : Tr → Nat := Tr.fold (fun _ => 0) (fun _ _ ds => ds.foldr max 0 + 1)
theorem Tr.dep_b (n : Int) : (Tr.b n).dep = 0 := Tr.fold_b ..
theorem Tr.dep_t (k : Int) (ps : List Tr) : (Tr.t k ps).dep = (ps.map Tr.dep).foldr max 0 + 1 := Tr.fold_t ..
theorem foldr_max_le {n : Nat} : ∀ {l : List Nat}, n ∈ l → n ≤ l.foldr max 0
  | a :: l, h => by
    rcases List.mem_cons.mp h with rfl | h
    · exact Nat.le_max_left ..
    · exact Nat.le_trans (foldr_max_le h) (Nat.le_max_right ..)
theorem foldr_max_of {n : Nat} : ∀ {l : List Nat}, (∀ x ∈ l, x ≤ n) → l.foldr max 0 ≤ n
  | [], _ => Nat.zero_le _
  | a :: l, h => Nat.max_le.mpr ⟨h a List.mem_cons_self, foldr_max_of fun x hx => h x (List.mem_cons_of_mem _ hx)⟩
theorem Tr.dep_lt {k : Int} {ps : List Tr} {p : Tr} (h : p ∈ ps) : p.dep < (Tr.t k ps).dep := by
  rw [Tr.dep_t]
  have := foldr_max_le (List.mem_map.mpr ⟨p, h, rfl⟩ : p.dep ∈ ps.map Tr.dep)
  omega
theorem Tr.dep_of {k : Int} {ps : List Tr} {n : Nat} (h : ∀ p ∈ ps, p.dep ≤ n) : (Tr.t k ps).dep ≤ n + 1 := by
  rw [Tr.dep_t]
  have : (ps.map Tr.dep).foldr max 0 ≤ n := foldr_max_of fun x hx => by
    obtain ⟨p, hp, rfl⟩ := List.mem_map.mp hx
    exact h p hp
  omega
def Tr.siz : Tr → Nat := Tr.fold (fun _ => 1) (fun _ _ ns => ns.sum + 1)
theorem Tr.siz_b (n : Int) : (Tr.b n).siz = 1 := Tr.fold_b ..
theorem Tr.siz_t (k : Int) (ps : List Tr) : (Tr.t k ps).siz = (ps.map Tr.siz).sum + 1 := Tr.fold_t ..
theorem Tr.siz_pos (t : Tr) : 1 ≤ t.siz := by
  cases t with
  | b n => rw [Tr.siz_b]; exact Nat.le_refl _
  | t k ps => rw [Tr.siz_t]; omega
/-- bounds within their parts, buttons short -/
def Tr.wf : Tr → Prop := Tr.fold (fun n => n.natAbs < 1000000) (fun k ps qs => 1 ≤ k ∧ k ≤ ps.length ∧ ∀ q ∈ qs, q)
theorem Tr.wf_b (n : Int) : (Tr.b n).wf = (n.natAbs < 1000000) := Tr.fold_b ..
theorem Tr.wf_t (k : Int) (ps : List Tr) : (Tr.t k ps).wf = (1 ≤ k ∧ k ≤ ps.length ∧ ∀ p ∈ ps, p.wf) := by
  unfold Tr.wf
  rw [Tr.fold_t]
  simp only [List.mem_map, forall_exists_index, and_imp, forall_apply_eq_imp_iff₂]
def Tr.goes (lot : List Int) : Tr → Bool := Tr.fold (fun n => decide (n ∈ lot)) (fun k _ bs => decide (k ≤ (bs.countP id : Nat)))
theorem Tr.goes_b (lot : List Int) (n : Int) : (Tr.b n).goes lot = decide (n ∈ lot) := Tr.fold_b ..
theorem Tr.goes_t (lot : List Int) (k : Int) (ps : List Tr) : (Tr.t k ps).goes lot = decide (k ≤ (ps.countP (Tr.goes lot) : Nat)) := by
  unfold Tr.goes
  rw [Tr.fold_t, List.countP_map]
  rfl
theorem Tr.siz_le {t : Tr} (h : t.wf) : t.siz ≤ t.btn.length * (t.dep + 1) ∧ 1 ≤ t.btn.length := by
  induction t using Tr.ind with
  | hb n => rw [Tr.siz_b, Tr.btn_b, Tr.dep_b]; exact ⟨Nat.le_refl _, Nat.le_refl _⟩
  | ht k ps ih =>
    rw [Tr.wf_t] at h
    obtain ⟨h1, h2, h3⟩ := h
    have hne : 1 ≤ ps.length := by omega
    have key : ∀ (D : Nat) (qs : List Tr), (∀ p ∈ qs, p.siz ≤ p.btn.length * D ∧ 1 ≤ p.btn.length) → (qs.map Tr.siz).sum ≤ (qs.flatMap Tr.btn).length * D ∧ qs.length ≤ (qs.flatMap Tr.btn).length := by
      intro D qs
      induction qs with
      | nil => intro _; simp
      | cons q qs ihq =>
        intro hq
        have a := hq q List.mem_cons_self
        have b := ihq fun p hp => hq p (List.mem_cons_of_mem _ hp)
        simp only [List.map_cons, List.sum_cons, List.flatMap_cons, List.length_append, List.length_cons, Nat.add_mul]
        omega
    have k := key (Tr.t k ps).dep ps fun p hp => by
      have a := ih p hp (h3 p hp)
      have b := Tr.dep_lt (k := k) hp
      refine ⟨Nat.le_trans a.1 (Nat.mul_le_mul_left _ b), a.2⟩
    rw [Tr.siz_t, Tr.btn_t, Nat.mul_add]
    omega
theorem Nices.list {α : Type} {f : α → Nat} {d : Nat} {h : α → MV} : ∀ {ps : List α}, (∀ p ∈ ps, Nice (f p) d (h p)) → Nices ((ps.map fun p => f p + 1).sum) d (ps.map h)
  | [], _ => .nil
  | p :: ps, hp => (Nices.cons (hp p List.mem_cons_self) (Nices.list fun q hq => hp q (List.mem_cons_of_mem _ hq))).mono (by simp) (Nat.le_refl _)
theorem nice_tV {t : Tr} (h : t.wf) (hk : t.btn.length ≤ 1000000) : Nice (4 * t.siz - 2) (2 * t.dep) (tV t) := by
  induction t using Tr.ind with
  | hb n =>
    rw [Tr.wf_b] at h
    rw [tV_b]
    exact (nice_int (Nat.lt_of_lt_of_le h (by decide))).mono (Nat.zero_le _) (Nat.zero_le _)
  | ht k ps ih =>
    rw [tV_t]
    have hsz := Tr.siz_le h
    rw [Tr.wf_t] at h
    obtain ⟨h1, h2, h3⟩ := h
    rw [Tr.btn_t] at hk hsz
    have hlen : ps.length ≤ (ps.flatMap Tr.btn).length := by
      have : ∀ qs : List Tr, (∀ q ∈ qs, q.wf) → qs.length ≤ (qs.flatMap Tr.btn).length := by
        intro qs
        induction qs with
        | nil => intro _; simp
        | cons q qs ihq =>
          intro hq
          have a := (Tr.siz_le (hq q List.mem_cons_self)).2
          have b := ihq fun p hp => hq p (List.mem_cons_of_mem _ hp)
          simp only [List.flatMap_cons, List.length_append, List.length_cons]
          omega
      exact this ps h3
    have hp : ∀ p ∈ ps, Nice (4 * p.siz - 2) (2 * ((Tr.t k ps).dep - 1)) (tV p) := fun p hm => by
      have hb : p.btn.length ≤ (ps.flatMap Tr.btn).length := by
        obtain ⟨a, b, rfl⟩ := List.append_of_mem hm
        simp only [List.flatMap_append, List.flatMap_cons, List.length_append]
        omega
      have b := Tr.dep_lt (k := k) hm
      exact (ih p hm (h3 p hm) (by omega)).mono (Nat.le_refl _) (by omega)
    have hd : 1 ≤ (Tr.t k ps).dep := by rw [Tr.dep_t]; omega
    have hs : (ps.map fun p => 4 * p.siz - 2 + 1).sum + ps.length ≤ 4 * (ps.map Tr.siz).sum := by
      clear hp ih hsz hk hlen h1 h2 h3 hd
      induction ps with
      | nil => simp
      | cons q qs ihq =>
        have := Tr.siz_pos q
        simp only [List.map_cons, List.sum_cons, List.length_cons]
        omega
    have := (Nices.cons ((nice_int (i := k) (Nat.lt_of_lt_of_le (show k.natAbs < 10000000 by omega) (by decide))).mono (Nat.le_refl _) (Nat.zero_le _)) (.cons (Nices.list hp).tup (.nil (n := 0)))) |>.tup
    refine this.mono ?_ (by omega)
    rw [Tr.siz_t]
    omega
/-- data's lists of trees -/
theorem nice_tV' {t : Tr} (h : t.wf) (hb : t.btn.length ≤ 30) (hd : t.dep ≤ 15) : Nice 2000 30 (tV t) := by
  have a := (Tr.siz_le h).1
  have b : t.btn.length * (t.dep + 1) ≤ 30 * 16 := Nat.mul_le_mul hb (by omega)
  exact (nice_tV h (by omega)).mono (by omega) (by omega)
/-- more pressed, more goes -/
theorem Tr.goes_mono {lot lot' : List Int} (h : ∀ n ∈ lot, n ∈ lot') (t : Tr) : t.goes lot = true → t.goes lot' = true := by
  induction t using Tr.ind with
  | hb n =>
    rw [Tr.goes_b, Tr.goes_b]
    simpa using h n
  | ht k ps ih =>
    rw [Tr.goes_t, Tr.goes_t]
    have : ps.countP (Tr.goes lot) ≤ ps.countP (Tr.goes lot') := by
      clear h
      induction ps with
      | nil => simp
      | cons p ps ihp =>
        have a := ih p List.mem_cons_self
        have b := ihp fun q hq => ih q (List.mem_cons_of_mem _ hq)
        rw [List.countP_cons, List.countP_cons]
        by_cases hp : p.goes lot = true
        · simp only [hp, a hp, if_true]; omega
        · simp only [hp, if_false, Bool.false_eq_true]; split <;> omega
    simp only [decide_eq_true_eq]
    omega
theorem Tr.goes_all {lot : List Int} {t : Tr} (hw : t.wf) (h : ∀ n ∈ t.btn, n ∈ lot) : t.goes lot = true := by
  induction t using Tr.ind with
  | hb n => rw [Tr.goes_b]; simpa using h n (by rw [Tr.btn_b]; simp)
  | ht k ps ih =>
    rw [Tr.wf_t] at hw
    obtain ⟨h1, h2, h3⟩ := hw
    rw [Tr.goes_t, List.countP_eq_length.mpr fun p hp => ih p hp (h3 p hp) fun n hn => h n (by rw [Tr.btn_t]; exact List.mem_flatMap.mpr ⟨p, hp, hn⟩)]
    simpa using h2
theorem Tr.goes_none {lot : List Int} {t : Tr} (hw : t.wf) (h : ∀ n ∈ t.btn, n ∉ lot) : t.goes lot = false := by
  induction t using Tr.ind with
  | hb n => rw [Tr.goes_b]; simpa using h n (by rw [Tr.btn_b]; simp)
  | ht k ps ih =>
    rw [Tr.wf_t] at hw
    obtain ⟨h1, h2, h3⟩ := hw
    have e : ps.countP (Tr.goes lot) = 0 := List.countP_eq_zero.mpr fun p hp => by
      rw [ih p hp (h3 p hp) fun n hn => h n (by rw [Tr.btn_t]; exact List.mem_flatMap.mpr ⟨p, hp, hn⟩)]
      simp
    rw [Tr.goes_t, e]
    simp only [decide_eq_false_iff_not]
    omega
/-- what is pressed beyond the tree's buttons makes no difference -/
theorem Tr.goes_congr {lot lot' : List Int} {t : Tr} (h : ∀ n ∈ t.btn, n ∈ lot ↔ n ∈ lot') : t.goes lot = t.goes lot' := by
  induction t using Tr.ind with
  | hb n =>
    rw [Tr.goes_b, Tr.goes_b]
    have := h n (by rw [Tr.btn_b]; simp)
    simp [this]
  | ht k ps ih =>
    rw [Tr.goes_t, Tr.goes_t]
    have : ps.countP (Tr.goes lot) = ps.countP (Tr.goes lot') := List.countP_congr fun p hp => by
      rw [ih p hp fun n hn => h n (by rw [Tr.btn_t]; exact List.mem_flatMap.mpr ⟨p, hp, hn⟩)]
    rw [this]
/-- at a trip: the parts -/
theorem isi_int_b (n : Int) : isiV "int" (tV (.b n)) = some (.bl true) := by rw [tV_b]; rfl
theorem isi_int_t (k : Int) (ps : List Tr) : isiV "int" (tV (.t k ps)) = some (.bl false) := by rw [tV_t]; rfl
theorem isi_tup_b (n : Int) : isiV "tuple" (tV (.b n)) = some (.bl false) := by rw [tV_b]; rfl
theorem isi_tup_t (k : Int) (ps : List Tr) : isiV "tuple" (tV (.t k ps)) = some (.bl true) := by rw [tV_t]; rfl
/-! ### ways -/
theorem ixd_map {α β : Type} (f : α → β) (xs : List α) : ixd (xs.map f) = (ixd xs).map fun z => (z.1, f z.2) := by
  unfold ixd
  rw [List.length_map, List.zip_map_right]; rfl
theorem ixd_snd {α : Type} (xs : List α) : (ixd xs).map Prod.snd = xs := by
  unfold ixd
  exact List.map_snd_zip (by simp)
theorem ixd_lt {α : Type} {xs : List α} {z : Nat × α} (h : z ∈ ixd xs) : z.1 < xs.length ∧ z.2 ∈ xs := by
  have := mem_ixd h
  exact ⟨(List.getElem?_eq_some_iff.mp this).1, List.mem_of_getElem? this⟩
def Tr.wlk (t : Tr) : List Nat → List (List Nat × Tr) := Tr.fold (α := List Nat → List (List Nat × Tr)) (fun n w => [(w, .b n)]) (fun k ps fs w => (w, .t k ps) :: (ixd fs).flatMap fun z => z.2 (w ++ [z.1])) t
theorem Tr.wlk_b (n : Int) (w : List Nat) : (Tr.b n).wlk w = [(w, .b n)] := by unfold Tr.wlk; rw [Tr.fold_b]
theorem Tr.wlk_t (k : Int) (ps : List Tr) (w : List Nat) : (Tr.t k ps).wlk w = (w, .t k ps) :: (ixd ps).flatMap fun z => z.2.wlk (w ++ [z.1]) := by
  unfold Tr.wlk
  rw [Tr.fold_t, ixd_map, List.flatMap_map]
/-- a subtree's place -/
structure Sub (t : Tr) (w v : List Nat) (x : List Nat × Tr) : Prop where
  eq : x.1 = w ++ v
  dep : v.length + x.2.dep ≤ t.dep
  wf : t.wf → x.2.wf
  siz : x.2.siz ≤ t.siz
  len : x.2.btn.length ≤ t.btn.length
  sub : ∀ n ∈ x.2.btn, n ∈ t.btn
  ix : ∀ i ∈ v, i < t.siz
theorem Tr.siz_mem {k : Int} {ps : List Tr} {p : Tr} (h : p ∈ ps) : p.siz < (Tr.t k ps).siz := by
  rw [Tr.siz_t]
  have : ∀ qs : List Tr, p ∈ qs → p.siz ≤ (qs.map Tr.siz).sum := by
    intro qs
    induction qs with
    | nil => intro h; cases h
    | cons q qs ih =>
      intro h
      simp only [List.map_cons, List.sum_cons]
      rcases List.mem_cons.mp h with rfl | h
      · omega
      · have := ih h; omega
  have := this ps h
  omega
theorem Tr.len_mem {k : Int} {ps : List Tr} {p : Tr} (h : p ∈ ps) : p.btn.length ≤ (Tr.t k ps).btn.length := by
  rw [Tr.btn_t]
  obtain ⟨a, b, rfl⟩ := List.append_of_mem h
  simp only [List.flatMap_append, List.flatMap_cons, List.length_append]
  omega
theorem Tr.many {k : Int} {ps : List Tr} : ps.length < (Tr.t k ps).siz := by
  rw [Tr.siz_t]
  have : ∀ qs : List Tr, qs.length ≤ (qs.map Tr.siz).sum := by
    intro qs
    induction qs with
    | nil => simp
    | cons q qs ih =>
      have := Tr.siz_pos q
      simp only [List.map_cons, List.sum_cons, List.length_cons]
      omega
  have := this ps
  omega
theorem Tr.wlk_sub (t : Tr) : ∀ (w : List Nat), ∀ x ∈ t.wlk w, ∃ v, Sub t w v x := by
  induction t using Tr.ind with
  | hb n =>
    intro w x hx
    rw [Tr.wlk_b] at hx
    simp only [List.mem_singleton] at hx
    subst hx
    exact ⟨[], by simp, by simp, fun h => h, Nat.le_refl _, Nat.le_refl _, fun n h => h, fun i h => by cases h⟩
  | ht k ps ih =>
    intro w x hx
    rw [Tr.wlk_t] at hx
    rcases List.mem_cons.mp hx with rfl | hx
    · exact ⟨[], by simp, by simp, fun h => h, Nat.le_refl _, Nat.le_refl _, fun n h => h, fun i h => by cases h⟩
    · obtain ⟨z, hz, hx⟩ := List.mem_flatMap.mp hx
      obtain ⟨hz1, hz2⟩ := ixd_lt hz
      obtain ⟨v, s⟩ := ih z.2 hz2 _ x hx
      have d := Tr.dep_lt (k := k) hz2
      have m := Tr.many (k := k) (ps := ps)
      refine ⟨z.1 :: v, by rw [s.eq]; simp, by have := s.dep; simp only [List.length_cons]; omega, fun h => ?_, Nat.le_trans s.siz (Nat.le_of_lt (Tr.siz_mem hz2)), Nat.le_trans s.len (Tr.len_mem hz2), fun n h => ?_, fun i hi => ?_⟩
      · rw [Tr.wf_t] at h; exact s.wf (h.2.2 _ hz2)
      · rw [Tr.btn_t]; exact List.mem_flatMap.mpr ⟨z.2, hz2, s.sub n h⟩
      · rcases List.mem_cons.mp hi with rfl | hi
        · omega
        · exact Nat.lt_trans (s.ix i hi) (Tr.siz_mem hz2)
theorem Tr.wlk_len (t : Tr) : ∀ (w : List Nat), (t.wlk w).length = t.siz := by
  induction t using Tr.ind with
  | hb n => intro w; rw [Tr.wlk_b, Tr.siz_b]; rfl
  | ht k ps ih =>
    intro w
    rw [Tr.wlk_t, Tr.siz_t, List.length_cons, List.length_flatMap]
    congr 2
    have : (ixd ps).map (fun z => (z.2.wlk (w ++ [z.1])).length) = (ixd ps).map (Tr.siz ∘ Prod.snd) := List.map_congr_left fun z hz => ih z.2 (ixd_lt hz).2 _
    rw [this, ← List.map_map, ixd_snd]
def Tr.b? : Tr → Option Int
  | .b n => some n
  | .t _ _ => none
def Tr.isB : Tr → Bool
  | .b _ => true
  | .t _ _ => false
theorem Tr.wlk_btn (t : Tr) : ∀ (w : List Nat), (t.wlk w).filterMap (fun x => x.2.b?) = t.btn := by
  induction t using Tr.ind with
  | hb n => intro w; rw [Tr.wlk_b, Tr.btn_b]; rfl
  | ht k ps ih =>
    intro w
    rw [Tr.wlk_t, Tr.btn_t]
    show ((ixd ps).flatMap _).filterMap _ = _
    rw [List.filterMap_flatMap]
    have : (ixd ps).flatMap (fun z => (z.2.wlk (w ++ [z.1])).filterMap fun x => x.2.b?) = (ixd ps).flatMap (fun z => z.2.btn) := by
      rw [List.flatMap_def, List.flatMap_def]
      congr 1
      exact List.map_congr_left fun z hz => ih z.2 (ixd_lt hz).2 _
    rw [this]
    have e : ps.flatMap Tr.btn = ((ixd ps).map Prod.snd).flatMap Tr.btn := by rw [ixd_snd]
    rw [e, List.flatMap_map]
theorem wlk_bV (xs : List (List Nat × Tr)) : (xs.filter fun x => x.2.isB).map (fun x => tV x.2) = (xs.filterMap fun x => x.2.b?).map .int := by
  induction xs with
  | nil => rfl
  | cons x xs ih =>
    obtain ⟨w, t⟩ := x
    cases t with
    | b n =>
      rw [List.filter_cons_of_pos (by rfl), List.filterMap_cons_some (f := fun x : List Nat × Tr => x.2.b?) (a := (w, Tr.b n)) (b := n) rfl, List.map_cons, List.map_cons, ih, tV_b]
    | t k ps =>
      rw [List.filter_cons_of_neg (by simp [Tr.isB]), List.filterMap_cons_none rfl, ih]
def wyV (w : List Nat) : MV := .tup (w.map fun i => MV.int (i : Nat))
def wtV (x : List Nat × Tr) : MV := .tup [wyV x.1, tV x.2]
/-- a tree of the size that is drawn -/
structure Bd (t : Tr) : Prop where
  wf : t.wf
  len : t.btn.length ≤ 30
  dep : t.dep ≤ 15
theorem Bd.siz {t : Tr} (h : Bd t) : t.siz ≤ 480 := by
  have a := (Tr.siz_le h.wf).1
  have b : t.btn.length * (t.dep + 1) ≤ 30 * 16 := Nat.mul_le_mul h.len (by have := h.dep; omega)
  omega
theorem Bd.nice {t : Tr} (h : Bd t) : Nice 2000 30 (tV t) := nice_tV' h.wf h.len h.dep
theorem Bd.sub {t : Tr} (h : Bd t) {w v : List Nat} {x : List Nat × Tr} (s : Sub t w v x) : Bd x.2 := ⟨s.wf h.wf, Nat.le_trans s.len h.len, by have := s.dep; have := h.dep; omega⟩
theorem Bd.part {k : Int} {ps : List Tr} (h : Bd (.t k ps)) {p : Tr} (hp : p ∈ ps) : Bd p := by
  have w := h.wf
  rw [Tr.wf_t] at w
  exact ⟨w.2.2 p hp, Nat.le_trans (Tr.len_mem (k := k) hp) h.len, by have := Tr.dep_lt (k := k) hp; have := h.dep; omega⟩
theorem nice_wy {w : List Nat} (h : ∀ i ∈ w, i < 1000000) : Nice w.length 1 (wyV w) := by
  have := (nices_ints (xs := w.map fun i : Nat => ((i : Nat) : Int)) (fun x hx => by
    obtain ⟨i, hi, rfl⟩ := List.mem_map.mp hx
    exact Nat.lt_of_lt_of_le (show ((i : Nat) : Int).natAbs < 1000000 by have := h i hi; omega) (by decide))).tup
  simpa [wyV, List.map_map, Function.comp_def] using this
theorem nice_wt {t : Tr} (h : Bd t) {v : List Nat} {x : List Nat × Tr} (s : Sub t [] v x) : Nice 4000 40 (wtV x) := by
  have e : x.1 = v := by rw [s.eq]; rfl
  have h1 : Nice 1000 30 (wyV x.1) := by
    rw [e]
    refine (nice_wy fun i hi => Nat.lt_of_lt_of_le (s.ix i hi) (by have := h.siz; omega)).mono ?_ (by decide)
    have := s.dep; have := h.dep; omega
  exact ((Nices.cons h1 (.cons (h.sub s).nice (.nil (n := 0) (d := 30)))).tup).mono (by decide) (by decide)
theorem popV_last (xs : List MV) (x : MV) : popV (.l (xs ++ [x])) = some (x, .l xs) := by simp [popV]
theorem tV_nref (t : Tr) : isRef (tV t) = false := by
  cases t with
  | b n => rw [tV_b]; rfl
  | t k ps => rw [tV_t]; rfl
theorem lSn_tV {t : Tr} {r : List Src} {s : S} {K : List MV → Prop} : lSn (.inl (tV t) :: r) s K .mk = lSn r s (fun xs => K (tV t :: xs)) .mk := lSn_val (tV_nref t)
theorem lSn_wyV {w : List Nat} {r : List Src} {s : S} {K : List MV → Prop} : lSn (.inl (wyV w) :: r) s K .mk = lSn r s (fun xs => K (wyV w :: xs)) .mk := lSn_val rfl
theorem idx_tV0 (k : Int) (ps : List Tr) : idxV (tV (.t k ps)) (.int 0) = some (.int k) := by rw [tV_t]; exact atM_0 _ _
theorem idx_tV1 (k : Int) (ps : List Tr) : idxV (tV (.t k ps)) (.int 1) = some (.tup (ps.map tV)) := by rw [tV_t]; exact atM_1 _ _ _
theorem wpI_TT (b : Bool) : wpI b True True = True := by cases b <;> simp [wpI]
theorem wpI_same (b : Bool) (p : Prop) : wpI b p p = p := by cases b <;> simp [wpI]
/-! the small wrappers, by theorems (a name alone would let the kernel unfold what is within) -/
theorem one_c (f : MV → Option MV) (x : MV) : one f [x] = f x := by unfold one; rfl
theorem two_c (f : MV → MV → Option MV) (x y : MV) : two f [x, y] = f x y := by unfold two; rfl
theorem three_c (f : MV → MV → MV → Option MV) (x y z : MV) : three f [x, y, z] = f x y z := by unfold three; rfl
theorem oneF_c (f : MV → Option Cn) (x : MV) : oneF f [x] = f x := by unfold oneF; rfl
theorem twoF_c (f : MV → MV → Option Cn) (x y : MV) : twoF f [x, y] = f x y := by unfold twoF; rfl
end Py

-- text PyXr
set_option Elab.async false
set_option linter.all false
set_option maxRecDepth 100000
set_option maxHeartbeats 4000000
/-! ### runs that raise: rules read backwards -/
namespace Py
open PySem
open L2 (Key ixN)
/-- m raises, in K -/
inductive wx {α : Type} (m : M α) (s : S) (K : Nat → List MV → S → Prop) : Prop
  | mk (c : Nat) (vs : List MV) (s' : S) (h : m s = .ex c vs s') (q : K c vs s')
/-- a def raises -/
inductive Sx (P : List FD) (k f : Nat) (xs : List MV) (mh : Option (List Cn)) (K : Nat → List MV → Option (List Cn) → Prop) : Prop
  | mk (c : Nat) (vs : List MV) (mh' : Option (List Cn)) (h : runP P k f xs mh = .ex c vs mh') (q : K c vs mh')
def xq {α : Type} (m : M α) (s : S) (K : Nat → List MV → S → Prop) (t : Tk K) : Prop := wx m s K
def xS (P : List FD) (k f : Nat) (xs : List MV) (mh : Option (List Cn)) (K : Nat → List MV → Option (List Cn) → Prop) (t : Tk K) : Prop := Sx P k f xs mh K
section
variable {α β : Type} {s : S} {D : Fns} {K : Nat → List MV → S → Prop}
theorem wx_l {m : M α} {f : α → M β} (h : wx m s K) : wx (m >>= f) s K := by
  obtain ⟨c, vs, s', e, q⟩ := h
  exact ⟨c, vs, s', by rw [bnd_eq, e], q⟩
theorem wx_r {m : M α} {f : α → M β} (h : wp m s (fun a t => wx (f a) t K)) : wx (m >>= f) s K := by
  obtain ⟨a, t, e, h⟩ := wp_ex h
  obtain ⟨c, vs, s', e2, q⟩ := h
  exact ⟨c, vs, s', by rw [bnd_eq, e]; exact e2, q⟩
theorem wx_raise {c : Nat} {xs : List MV} (h : K c xs s) : wx (fun s => (.ex c xs s : R Fl)) s K := ⟨c, xs, s, rfl, h⟩
theorem wx_lift {o : Option α} {f : α → M β} (h : wpL o (fun a => wx (f a) s K)) : wx (lift? o >>= f) s K := by
  obtain ⟨a, rfl, h⟩ := h
  exact wx_r (wp_of rfl h)
theorem wx_ite {m n : M α} {b : Bool} (h : wpI b (wx m s K) (wx n s K)) : wx (if b = true then m else n) s K := by
  cases b
  · exact h.2 rfl
  · exact h.1 rfl
/-! statements -/
theorem X_rsc {c : Nat} {a : A} (h : wq (denA D a) s (fun zs t => lVs zs (fun xs => K c xs t) .mk) .mk) : xq (denS D (.rsc c a)) s K .mk := by
  show wx _ _ _
  rw [denS]
  refine wx_r (wp_mono h fun zs t h => ?_)
  obtain ⟨xs, e, q⟩ := h
  rw [e]
  exact ⟨c, xs, t, rfl, q⟩
theorem X_hd {a b : SS} (h : xq (denS D a) s K .mk) : xq (denS D (.cons a b)) s K .mk := by
  show wx _ _ _
  rw [denS]
  exact wx_l h
/-- behind a statement, the rest raises -/
def thenX (D : Fns) (b : SS) (K : Nat → List MV → S → Prop) (fl : Fl) (t : S) : Prop := match fl with
  | .nx => xq (denS D b) t K .mk
  | _ => False
theorem tX_nx {b : SS} : thenX D b K .nx s = xq (denS D b) s K .mk := rfl
theorem tX_rt {b : SS} {x : MV} : thenX D b K (.rt x) s = False := rfl
theorem tX_bk {b : SS} : thenX D b K .bk s = False := rfl
theorem tX_ct {b : SS} : thenX D b K .ct s = False := rfl
theorem X_tl {a b : SS} (h : wq (denS D a) s (thenX D b K) .mk) : xq (denS D (.cons a b)) s K .mk := by
  show wx _ _ _
  rw [denS]
  refine wx_r (wp_mono h fun fl t h => ?_)
  cases fl with
  | nx => exact h
  | _ => exact h.elim
theorem X_ife {c : E} {a b : SS} (h : wq (tstE D c) s (fun r t => wpI r (xq (denS D a) t K .mk) (xq (denS D b) t K .mk)) .mk) : xq (denS D (.ife c a b)) s K .mk := by
  show wx _ _ _
  rw [denS]
  exact wx_r (wp_mono h fun r t h => wx_ite h)
theorem X_ifeT {c : E} {a b : SS} (h : xq (tstE D c) s K .mk) : xq (denS D (.ife c a b)) s K .mk := by
  show wx _ _ _
  rw [denS]
  exact wx_l h
theorem X_exp {e : E} (h : xq (denE D e) s K .mk) : xq (denS D (.exp e)) s K .mk := by
  show wx _ _ _
  rw [denS]
  exact wx_l h
theorem X_ret {e : E} (h : xq (denE D e) s K .mk) : xq (denS D (.ret e)) s K .mk := by
  show wx _ _ _
  rw [denS]
  exact wx_l h
theorem X_asg {g : G} {e : E} (h : xq (denE D e) s K .mk) : xq (denS D (.asg g e)) s K .mk := by
  show wx _ _ _
  rw [denS]
  exact wx_l h
theorem X_own {i : Nat} {f : FE} (h : xq (denF D f) s K .mk) : xq (denS D (.own i f)) s K .mk := by
  show wx _ _ _
  rw [denS]
  exact wx_l h
/-- a walk that raises at an item: ahead of it Z -/
theorem X_fr {γ : Type} {g : G} {it : I} {b : SS} (h : γ → MV) (pre : List γ) (y : γ) (post : List γ) (Z : List γ → List γ → S → Prop)
    (hi : wq (denI D it) s (fun v t => itemsOf v = (pre ++ y :: post).map h ∧ Z [] pre t) .mk)
    (st : ∀ done z rest t, done ++ z :: rest = pre → Z done (z :: rest) t → wq (bindG g (h z)) t (fun _ t => wq (denS D b) t (turnS (Z (done ++ [z]) rest) (fun _ _ => False)) .mk) .mk)
    (he : ∀ t, Z pre [] t → wq (bindG g (h y)) t (fun _ t => xq (denS D b) t K .mk) .mk) : xq (denS D (.fr g it b)) s K .mk := by
  show wx _ _ _
  rw [denS]
  refine wx_r (wp_mono hi fun v t ⟨e, z0⟩ => ?_)
  rw [e]
  have key : ∀ (rest done : List γ) (t : S), done ++ rest = pre → Z done rest t → wx (forS (fun x => do bindG g x; denS D b) ((rest ++ y :: post).map h)) t K := by
    intro rest
    induction rest with
    | nil =>
      intro done t e z
      simp only [List.append_nil] at e
      subst e
      rw [List.nil_append, List.map_cons, forS]
      refine wx_l (wx_r (wp_mono (he t z) fun _ t h => h))
    | cons x rest ih =>
      intro done t e z
      rw [List.cons_append, List.map_cons, forS]
      refine wx_r ?_
      rw [wp_bnd]
      refine wp_mono (st done x rest t e z) fun _ t h => wp_mono h fun fl t h => ?_
      cases fl with
      | nx => exact ih _ t (by simp [← e]) h
      | ct => exact ih _ t (by simp [← e]) h
      | bk => exact h.elim
      | rt v => exact h.elim
  exact key pre [] t rfl z0
/-! expressions -/
theorem X_im {f : FE} (h : xq (denF D f) s K .mk) : xq (denE D (.im f)) s K .mk := by
  show wx _ _ _
  rw [denE]
  exact wx_l h
theorem X_lc {tg : G} {own : List Nat} {it : I} {c e : E} (h : xq (denI D it) s K .mk) : xq (denF D (.lc tg own it c e)) s K .mk := by
  show wx _ _ _
  rw [denF]
  exact wx_l h
theorem X_Iex {e : E} (h : xq (denE D e) s K .mk) : xq (denI D (.ex e)) s K .mk := by
  show wx _ _ _
  rw [denI]
  exact wx_l h
theorem X_disp {a : A} (h : xq (denA D a) s K .mk) : xq (denF D (.disp a)) s K .mk := by
  show wx _ _ _
  rw [denF]
  exact wx_l h
theorem X_tup {a : A} (h : xq (denA D a) s K .mk) : xq (denE D (.tup a)) s K .mk := by
  show wx _ _ _
  rw [denE]
  exact wx_l h
theorem X_op {o : Op} {a : A} (h : xq (denA D a) s K .mk) : xq (denE D (.op o a)) s K .mk := by
  show wx _ _ _
  rw [denE]
  exact wx_l h
theorem X_opT {o : Op} {a : A} (h : xq (denA D a) s K .mk) : xq (tstE D (.op o a)) s K .mk := by
  show wx _ _ _
  rw [tstE]
  exact wx_l h
theorem X_notT {a : E} (h : xq (tstE D a) s K .mk) : xq (tstE D (.not a)) s K .mk := by
  show wx _ _ _
  rw [tstE]
  exact wx_l h
theorem X_and2T {a b : E} (h : xq (tstE D a) s K .mk) : xq (tstE D (.and2 a b)) s K .mk := by
  show wx _ _ _
  rw [tstE]
  exact wx_l h
theorem X_and2T' {a b : E} (h : wq (tstE D a) s (fun r t => wpI r (xq (tstE D b) t K .mk) False) .mk) : xq (tstE D (.and2 a b)) s K .mk := by
  show wx _ _ _
  rw [tstE]
  exact wx_r (wp_mono h fun r t h => wx_ite ⟨h.1, fun e => (h.2 e).elim⟩)
theorem X_a1 {e : E} {r : A} (h : xq (denE D e) s K .mk) : xq (denA D (.cons e r)) s K .mk := by
  show wx _ _ _
  rw [denA]
  exact wx_l h
theorem X_a2 {e : E} {r : A} (h : wq (denE D e) s (fun _ t => xq (denA D r) t K .mk) .mk) : xq (denA D (.cons e r)) s K .mk := by
  show wx _ _ _
  rw [denA]
  exact wx_r (wp_mono h fun x t h => wx_l h)
theorem X_ite {c a b : E} (h : wq (tstE D c) s (fun r t => wpI r (xq (denE D a) t K .mk) (xq (denE D b) t K .mk)) .mk) : xq (denE D (.ite c a b)) s K .mk := by
  show wx _ _ _
  rw [denE]
  exact wx_r (wp_mono h fun r t h => wx_ite h)
theorem X_callA {f : Nat} {a : A} (h : xq (denA D a) s K .mk) : xq (denE D (.call f a)) s K .mk := by
  show wx _ _ _
  rw [denE]
  exact wx_l h
/-- the call itself raises -/
def xF (D : Fns) (f : Nat) (xs : List MV) (s : S) (K : Nat → List MV → S → Prop) (t : Tk K) : Prop := wx (callF D f xs) s K
theorem xF_iso {P : List FD} {k f : Nat} {xs : List MV} (h : isoP P f = true) {mh : Option (List Cn)} {e : List (Option Slot)} : xF (fnsK P k) f xs ⟨e, mh⟩ K .mk = xS P k f xs none (fun c vs _ => K c vs ⟨e, mh⟩) .mk := by
  apply propext
  constructor
  · rintro ⟨c, vs, s', e1, q⟩
    unfold callF fnsK at e1
    simp only [h, if_true] at e1
    cases er : runP P k f xs none <;> rw [er] at e1 <;> simp only [R.ex.injEq, reduceCtorEq] at e1
    obtain ⟨rfl, rfl, rfl⟩ := e1
    exact ⟨_, _, _, er, q⟩
  · rintro ⟨c, vs, mh', e1, q⟩
    exact ⟨c, vs, _, by unfold callF fnsK; simp only [h, if_true, e1], q⟩
theorem xF_liv {P : List FD} {k f : Nat} {xs : List MV} (h : isoP P f = false) {mh : Option (List Cn)} {e : List (Option Slot)} : xF (fnsK P k) f xs ⟨e, mh⟩ K .mk = xS P k f xs mh (fun c vs mh' => K c vs ⟨e, mh'⟩) .mk := by
  apply propext
  constructor
  · rintro ⟨c, vs, s', e1, q⟩
    unfold callF fnsK at e1
    simp only [h, Bool.false_eq_true, if_false] at e1
    cases er : runP P k f xs mh <;> rw [er] at e1 <;> simp only [R.ex.injEq, reduceCtorEq] at e1
    obtain ⟨rfl, rfl, rfl⟩ := e1
    exact ⟨_, _, _, er, q⟩
  · rintro ⟨c, vs, mh', e1, q⟩
    exact ⟨c, vs, _, by unfold callF fnsK; simp only [h, Bool.false_eq_true, if_false, e1], q⟩
theorem X_call {f : Nat} {a : A} (h : wq (denA D a) s (fun zs t => lVs zs (fun xs => xF D f xs t K .mk) .mk) .mk) : xq (denE D (.call f a)) s K .mk := by
  show wx _ _ _
  rw [denE]
  refine wx_r (wp_mono h fun zs t h => ?_)
  obtain ⟨xs, e, q⟩ := h
  exact wx_lift ⟨xs, e, q⟩
theorem X_callT {f : Nat} {a : A} (h : wq (denA D a) s (fun zs t => lVs zs (fun xs => xF D f xs t K .mk) .mk) .mk) : xq (tstE D (.call f a)) s K .mk := by
  show wx _ _ _
  rw [tstE]
  refine wx_r (wp_mono h fun zs t h => ?_)
  obtain ⟨xs, e, q⟩ := h
  exact wx_lift ⟨xs, e, wx_l q⟩
theorem X_callK {f : Nat} {a : A} {pm : List Nat} (h : wq (denA D a) s (fun zs t => lVs zs (fun xs => lL (permA pm xs) (fun xs => xF D f xs t K .mk) .mk) .mk) .mk) : xq (denE D (.callK f a pm)) s K .mk := by
  show wx _ _ _
  rw [denE]
  refine wx_r (wp_mono h fun zs t h => ?_)
  obtain ⟨xs, e, ys, e2, q⟩ := h
  exact wx_lift ⟨xs, e, wx_lift ⟨ys, e2, q⟩⟩
/-! try -/
/-- what the clauses make of it -/
def hndQ (r : R Fl) (Q : Fl → S → Prop) : Prop := match r with
  | .ok f s => Q f s
  | _ => False
def hndX (hs : List Hd) (Q : Fl → S → Prop) (c : Nat) (vs : List MV) (s : S) : Prop := hndQ (denHs c vs s hs) Q
theorem T_ok {b : SS} {hs : List Hd} {Q : Fl → S → Prop} (h : wq (denS D b) s Q .mk) : wq (denS D (.tr b hs)) s Q .mk := by
  obtain ⟨f, s', e, q⟩ := wp_ex h
  refine wp_of ?_ q
  show (match denS D b s with | .ex c vs s' => denHs c vs s' hs | .ok f s' => .ok f s' | .no => .no) = _
  rw [e]
theorem T_ex {b : SS} {hs : List Hd} {Q : Fl → S → Prop} (h : xq (denS D b) s (hndX hs Q) .mk) : wq (denS D (.tr b hs)) s Q .mk := by
  obtain ⟨c, vs, s', e, q⟩ := h
  unfold hndX at q
  cases er : denHs c vs s' hs with
  | ok f s2 =>
    rw [er] at q
    refine wp_of ?_ q
    show (match denS D b s with | .ex c vs s' => denHs c vs s' hs | .ok f s' => .ok f s' | .no => .no) = _
    rw [e]; exact er
  | ex _ _ _ => rw [er] at q; exact q.elim
  | no => rw [er] at q; exact q.elim
/-! a def that raises -/
theorem xS.go {P : List FD} {k : Nat} (n : Nat) {f : Nat} {np ns : Nat} {b : SS} {i : Bool} {xs : List MV} {mh : Option (List Cn)} {K : Nat → List MV → Option (List Cn) → Prop} (h : P[f]? = some ⟨np, ns, b, i⟩) (hk : n + 1 ≤ k) (hl : xs.length = np)
    (w : ∀ k, n ≤ k → lN (startE ns xs) (fun e => xq (denS (fnsK P k) b) ⟨e, mh⟩ (fun c vs s => K c vs s.mh) .mk) .mk) : xS P k f xs mh K .mk := by
  obtain ⟨j, rfl⟩ : ∃ j, k = j + 1 := ⟨k - 1, by omega⟩
  obtain ⟨c, vs, s', e, q⟩ := w j (by omega)
  refine ⟨c, vs, s'.mh, ?_, q⟩
  unfold runP
  rw [h]
  unfold runB
  dsimp only
  rw [if_pos hl]
  show (match denS (fnsK P j) b ⟨startE ns xs, mh⟩ with | .ok (.rt x) s => _ | .ok .nx s => _ | .ok _ _ => _ | .ex c vs s => _ | .no => _) = _
  rw [e]
theorem xS.ex {P : List FD} {k f : Nat} {xs : List MV} {mh : Option (List Cn)} {K : Nat → List MV → Option (List Cn) → Prop} (h : xS P k f xs mh K .mk) : ∃ c vs mh', runP P k f xs mh = .ex c vs mh' ∧ K c vs mh' := by
  obtain ⟨c, vs, mh', e, q⟩ := h
  exact ⟨c, vs, mh', e, q⟩
theorem xS_of {P : List FD} {k f : Nat} {xs : List MV} {mh mh' : Option (List Cn)} {c : Nat} {vs : List MV} {K : Nat → List MV → Option (List Cn) → Prop} (h : runP P k f xs mh = .ex c vs mh') : xS P k f xs mh K .mk = K c vs mh' := by
  apply propext
  constructor
  · rintro ⟨c', vs', m, e, q⟩
    rw [h] at e; cases e; exact q
  · exact fun q => ⟨c, vs, mh', h, q⟩
/-- a promise that tells in full what is raised is a rule -/
theorem xS_rule {P : List FD} {k f : Nat} {xs : List MV} {mh mh' : Option (List Cn)} {c : Nat} {vs : List MV} (h : xS P k f xs mh (fun c' vs' m => c' = c ∧ vs' = vs ∧ m = mh') .mk) (K : Nat → List MV → Option (List Cn) → Prop) : xS P k f xs mh K .mk = K c vs mh' := by
  obtain ⟨_, _, _, e, rfl, rfl, rfl⟩ := h.ex
  exact xS_of e
end
section
variable {s : S} {D : Fns} {QC : Cn → S → Prop}
/-- a comprehension that changes the def's own things as well: J done made state -/
theorem W_any {α : Type} {tg : G} {own : List Nat} {c e : E} (h : α → MV) (J : List α → List MV → S → Prop) (zs : List α) (hl : zs.length ≤ sizeLine) (h0 : J [] [] s)
    (st : ∀ done z rest acc e0 mh, done ++ z :: rest = zs → J done acc ⟨e0, mh⟩ → lN (wipeE e0 own) (fun en => wq (bindG tg (h z)) ⟨en, mh⟩ (fun _ t => wq (tstE D c) t (fun b t => wpI b (wq (denE D e) t (fun y t => J (done ++ [z]) (acc ++ [y]) t) .mk) (J (done ++ [z]) acc t)) .mk) .mk) .mk)
    (q : ∀ ys e1 mh, J zs ys ⟨e1, mh⟩ → lN (backE s.env e1 own) (fun en => QC (.l ys) ⟨en, mh⟩) .mk) : lW D tg own c e (zs.map h) s QC .mk := by
  show wp (lcM own (bindG tg) (tstE D c) (denE D e) (zs.map h)) s QC
  rw [wp_lcM]
  have key : ∀ (rest done : List α) (acc : List MV) (t : S), done ++ rest = zs → acc.length ≤ done.length → J done acc t → wp (mapC own (bindG tg) (tstE D c) (denE D e) (rest.map h) acc) t (fun ys t => QC (.l ys) ⟨backE s.env t.env own, t.mh⟩) := by
    intro rest
    induction rest with
    | nil =>
      intro done acc t e _ j
      simp at e; subst e
      rw [List.map_nil, wp_mapC_nil]
      exact q acc t.env t.mh j
    | cons z rest ih =>
      intro done acc t e hla j
      rw [List.map_cons, wp_mapC_cons]
      have hlen : done.length < zs.length := by rw [← e]; simp
      refine wp_mono (st done z rest acc t.env t.mh e j) fun _ t1 q1 => wp_mono q1 fun b t2 q2 => ⟨fun hb => wp_mono (q2.1 hb) fun y t3 q3 => ⟨by omega, ?_⟩, fun hb => ?_⟩
      · exact ih (done ++ [z]) (acc ++ [y]) t3 (by simp [← e]) (by simp; omega) q3
      · exact ih (done ++ [z]) acc t2 (by simp [← e]) (by simp; omega) (q2.2 hb)
  exact key zs [] [] s rfl (by simp) h0
end
end Py

-- text PyRr
set_option Elab.async false
set_option linter.all false
set_option maxRecDepth 100000
set_option maxHeartbeats 4000000
/-! ### short data in which empty dicts stand: repr -/
namespace Py
open PySem
mutual
def okE : PyData → Bool
  | .none | .bool _ | .int _ => true
  | .str x => PyData.strOk x && PyData.strOk (reprText x)
  | .list xs | .tuple xs => okEs xs
  | .dict kvs => match kvs with
    | [] => true
    | [(.int _, .int _)] => true
    | _ => false
def okEs : List PyData → Bool
  | [] => true
  | x :: xs => okE x && okEs xs
end
mutual
theorem okE_shown : ∀ d : PyData, okE d = true → OkT d.shown
  | .none, _ => by rw [PyData.shown]; exact okT_of _
  | .bool b, _ => by rw [PyData.shown]; cases b <;> exact okT_of _
  | .int i, _ => by rw [PyData.shown]; exact okT_of _
  | .str x, h => by
    rw [PyData.shown]
    simp only [okE, Bool.and_eq_true] at h
    exact strOk_okT h.2
  | .list xs, h => by
    rw [PyData.shown]
    simp only [okE] at h
    exact (okT_from 0 (okT_of _) (okEs_shown xs h)).app (okT_of _)
  | .tuple xs, h => by
    rw [PyData.shown]
    simp only [okE] at h
    exact ((okT_of _).app (okT_join (okT_of _) (okEs_shown xs h))).app (okT_of _)
  | .dict kvs, h => by
    simp only [okE] at h
    split at h
    · have : PyData.shown (.dict []) = Str.ofString "{}" := by decide +kernel
      rw [this]; exact okT_of _
    · rw [PyData.shown, PyData.shownKv_eq]
      simp only [List.map_cons, List.map_nil, PyData.shownAll, PyData.shown, List.zipWith_cons_cons, List.zipWith_nil_left]
      exact ((okT_of _).app (okT_join (okT_of _) fun t ht => by
        simp only [List.mem_singleton] at ht
        subst ht
        exact ((okT_of _).app (okT_of _)).app (okT_of _))).app (okT_of _)
    · cases h
theorem okEs_shown : ∀ xs : List PyData, okEs xs = true → ∀ t ∈ PyData.shownAll xs, OkT t
  | [], _, t, ht => by simp [PyData.shownAll] at ht
  | x :: xs, h, t, ht => by
    simp only [okEs, Bool.and_eq_true] at h
    simp only [PyData.shownAll, List.mem_cons] at ht
    rcases ht with rfl | ht
    · exact okE_shown x h.1
    · exact okEs_shown xs h.2 t ht
end
mutual
theorem okX_okE : ∀ d : PyData, okX d = true → okE d = true
  | .none, _ => rfl
  | .bool _, _ => rfl
  | .int _, _ => rfl
  | .str x, h => by simpa only [okX, okE] using h
  | .list xs, h => by simp only [okX] at h; simpa only [okE] using okXs_okEs xs h
  | .tuple xs, h => by simp only [okX] at h; simpa only [okE] using okXs_okEs xs h
  | .dict _, h => by simp [okX] at h
theorem okXs_okEs : ∀ xs : List PyData, okXs xs = true → okEs xs = true
  | [], _ => rfl
  | x :: xs, h => by
    simp only [okXs, Bool.and_eq_true] at h
    simp only [okEs, okX_okE x h.1, okXs_okEs xs h.2, Bool.and_self]
end
mutual
theorem toR_of : ∀ (x : MV) (d : PyData), x.toD = some d → x.toR = some d
  | .non, d, h => h
  | .bl _, d, h => h
  | .int _, d, h => h
  | .str _, d, h => h
  | .tup xs, d, h => by
    simp only [MV.toD, Option.map_eq_some_iff] at h
    obtain ⟨ds, h1, rfl⟩ := h
    simp only [MV.toR, toRs_of xs ds h1, Option.map_some]
  | .lst xs, d, h => by
    simp only [MV.toD, Option.map_eq_some_iff] at h
    obtain ⟨ds, h1, rfl⟩ := h
    simp only [MV.toR, toRs_of xs ds h1, Option.map_some]
  | .scr xs, d, h => by
    simp only [MV.toD, Option.map_eq_some_iff] at h
    obtain ⟨ds, h1, rfl⟩ := h
    simp only [MV.toR, toRs_of xs ds h1, Option.map_some]
  | .dk _, d, h => by simp [MV.toD] at h
  | .dt _, d, h => by simp [MV.toD] at h
  | .ref _, d, h => by simp [MV.toD] at h
theorem toRs_of : ∀ (xs : List MV) (ds : List PyData), toDs xs = some ds → toRs xs = some ds
  | [], ds, h => h
  | x :: xs, ds, h => by
    simp only [toDs] at h
    split at h
    · rename_i a b h1 h2
      simp only [Option.some.injEq] at h; subst h
      simp only [toRs, toR_of x a h1, toRs_of xs b h2]
    · cases h
end
/-- data of at most n items, d deep, its ints below 10 ^ 90, empty dicts among it -/
structure NiceF (n d : Nat) (x : PyData) : Prop where
  ok : okE x = true
  sh : x.showable = true
  lv : x.leavesShort 100 = true
  bk : x.bulk ≤ n
  dp : x.depth ≤ d
def NiceR (n d : Nat) (x : MV) : Prop := ∃ y, x.toR = some y ∧ NiceF n d y
def NicesR (n d : Nat) (xs : List MV) : Prop := ∃ ys, toRs xs = some ys ∧ okEs ys = true ∧ PyData.showableAll ys = true ∧ PyData.leavesShortAll 100 ys = true ∧ PyData.bulkAll ys ≤ n ∧ PyData.depthAll ys ≤ d
theorem Nice.toR {n d : Nat} {x : MV} (h : Nice n d x) : NiceR n d x := by
  obtain ⟨y, h1, h2⟩ := h
  exact ⟨y, toR_of x y h1, okX_okE y h2.ok, h2.sh, h2.lv, h2.bk, h2.dp⟩
theorem NiceR.mono {n d m e : Nat} {x : MV} (h : NiceR n d x) (hn : n ≤ m) (hd : d ≤ e) : NiceR m e x := by
  obtain ⟨y, h1, h2⟩ := h
  exact ⟨y, h1, h2.ok, h2.sh, h2.lv, Nat.le_trans h2.bk hn, Nat.le_trans h2.dp hd⟩
theorem NicesR.nil {n d : Nat} : NicesR n d [] := ⟨[], rfl, rfl, rfl, rfl, Nat.zero_le _, Nat.zero_le _⟩
theorem NicesR.cons {n m d : Nat} {x : MV} {xs : List MV} (h : NiceR n d x) (k : NicesR m d xs) : NicesR (n + 1 + m) d (x :: xs) := by
  obtain ⟨y, h1, h2⟩ := h
  obtain ⟨ys, k1, k2, k3, k4, k5, k6⟩ := k
  have b1 := h2.bk
  have b2 := h2.dp
  refine ⟨y :: ys, by simp only [toRs, h1, k1], by simp only [okEs, h2.ok, k2, Bool.and_self], by simp only [PyData.showableAll, h2.sh, k3, Bool.and_self], by simp only [PyData.leavesShortAll, h2.lv, k4, Bool.and_self], ?_, ?_⟩
  · simp only [PyData.bulkAll]; omega
  · simp only [PyData.depthAll]; omega
theorem NicesR.mono {n d m e : Nat} {x : List MV} (h : NicesR n d x) (hn : n ≤ m) (hd : d ≤ e) : NicesR m e x := by
  obtain ⟨ys, k1, k2, k3, k4, k5, k6⟩ := h
  exact ⟨ys, k1, k2, k3, k4, by omega, by omega⟩
theorem NicesR.tup {n d : Nat} {xs : List MV} (h : NicesR n d xs) : NiceR n (d + 1) (.tup xs) := by
  obtain ⟨ys, k1, k2, k3, k4, k5, k6⟩ := h
  refine ⟨.tuple ys, by simp only [MV.toR, k1, Option.map_some], ⟨?_, ?_, ?_, ?_, ?_⟩⟩
  · simpa only [okE] using k2
  · simpa only [PyData.showable] using k3
  · simpa only [PyData.leavesShort] using k4
  · simpa only [PyData.bulk] using k5
  · simpa only [PyData.depth, Nat.add_le_add_iff_right] using k6
theorem NicesR.lst {n d : Nat} {xs : List MV} (h : NicesR n d xs) : NiceR n (d + 1) (.lst xs) := by
  obtain ⟨ys, k1, k2, k3, k4, k5, k6⟩ := h
  refine ⟨.list ys, by simp only [MV.toR, k1, Option.map_some], ⟨?_, ?_, ?_, ?_, ?_⟩⟩
  · simpa only [okE] using k2
  · simpa only [PyData.showable] using k3
  · simpa only [PyData.leavesShort] using k4
  · simpa only [PyData.bulk] using k5
  · simpa only [PyData.depth, Nat.add_le_add_iff_right] using k6
theorem NicesR.all {n d : Nat} : ∀ {xs : List MV}, (∀ x ∈ xs, NiceR n d x) → NicesR (xs.length * (n + 1)) d xs
  | [], _ => .nil
  | x :: xs, h => by
    have := NicesR.cons (h x (by simp)) (NicesR.all (n := n) (d := d) (xs := xs) fun y hy => h y (List.mem_cons_of_mem _ hy))
    have e : (x :: xs).length * (n + 1) = n + 1 + xs.length * (n + 1) := by rw [List.length_cons, Nat.add_mul]; omega
    rw [e]; exact this
theorem niceR_dk : NiceR 0 1 (.dk []) := ⟨.dict [], rfl, by decide +kernel, by decide +kernel, by decide +kernel, by decide +kernel, by decide +kernel⟩
theorem niceR_dk1 {i j : Int} (hi : i.natAbs < 1000) (hj : j.natAbs < 1000) : NiceR 10 1 (.dk [(.inl i, .int j)]) := by
  have ni := (nice_int (Nat.lt_of_lt_of_le hi (show 1000 ≤ 10 ^ 90 by decide)))
  have nj := (nice_int (Nat.lt_of_lt_of_le hj (show 1000 ≤ 10 ^ 90 by decide)))
  obtain ⟨y, e1, n1⟩ := ni
  obtain ⟨z, e2, n2⟩ := nj
  cases e1
  cases e2
  have b1 := n1.bk
  have b2 := n2.bk
  refine ⟨.dict [(.int i, .int j)], rfl, rfl, ?_, ?_, ?_, ?_⟩
  · have a := n1.sh
    have b := n2.sh
    simp only [PyData.showable, PyData.showableKv] at a b ⊢
    simp [a, b]
  · have a := n1.lv
    have b := n2.lv
    simp only [PyData.leavesShort, PyData.leavesShortKv] at a b ⊢
    simp [a, b]
  · simp only [PyData.bulk, PyData.bulkKv] at *
    omega
  · simp [PyData.depth, PyData.depthKv]
/-- its text -/
def shwR (x : MV) : Str := (x.toR.getD .none).shown
theorem NiceR.repr {x : MV} (h : NiceR 100000 64 x) : reprV x = some (.str (shwR x)) := by
  obtain ⟨y, h1, h2⟩ := h
  have hl := PyData.shown_le_bulk 100 (by decide) y h2.lv
  have hb := h2.bk
  have hs : y.shown.length ≤ sizeLine := by
    have : (100 + 2) * y.bulk + 100 ≤ sizeLine := by
      have e : sizeLine = 16777216 := by decide
      rw [e]; omega
    omega
  have hok : okR y = true := by
    unfold okR
    rw [h2.sh, decide_eq_true hs, decide_eq_true h2.dp]
    rfl
  unfold reprV shwR
  cases e : x.toD with
  | none => simp only [h1, Option.bind_some, Option.getD_some, hok, if_true]
  | some d =>
    have := toR_of x d e
    rw [h1] at this
    cases this
    simp only [h1, Option.getD_some, hok, if_true]
theorem shwR_ok {x : MV} {n d : Nat} (h : NiceR n d x) : PyData.strOk (shwR x) = true := by
  obtain ⟨y, h1, h2⟩ := h
  unfold shwR
  rw [h1]
  exact okT_strOk (okE_shown y h2.ok)
theorem eqD_shwR {x y : MV} {n d m e : Nat} (h : NiceR n d x) (k : NiceR m e y) : eqD (.str (shwR x)) (.str (shwR y)) = some (decide (shwR x = shwR y)) := by
  simp only [eqD, MV.toD, okD, SeqAt.shaped, PyData.canLay0, PyData.depth, shwR_ok h, shwR_ok k, Nat.zero_le, decide_true, Bool.and_self, if_true, PyData.eqv]
  congr 1
theorem eqD_shwR_same {x : MV} {n d : Nat} (h : NiceR n d x) : eqD (.str (shwR x)) (.str (shwR x)) = some true := by
  rw [eqD_shwR h h]; simp
end Py

-- text Lw81
set_option Elab.async false
set_option linter.all false
set_option maxRecDepth 1000000
set_option maxHeartbeats 4000000
/-! ### the program in the small language -/
namespace Lw
open PySem Py L2
/-- _law_stock -/
def d0 : FD := ⟨1, 3,
  (.cons (.asg (.nm 1) (.im (.lc (.nm 2) [2] (.ex (.im (.fop (.slcL false true) (.cons (.var 0) (.cons (.cst (.int 63)) .nil))))) .tt (.ite (.op (.cmp .ge) (.cons (.var 2) (.cons (.cst (.int 0)) .nil))) (.op .mul (.cons (.cst (.int 2)) (.cons (.var 2) .nil))) (.op .sub (.cons (.op .mul (.cons (.op .neg (.cons (.cst (.int 2)) .nil)) (.cons (.var 2) .nil))) (.cons (.cst (.int 1)) .nil)))))))
  (.cons (.ret (.ce (.disp (.cons (.ce (.lc (.nm 2) [2] (.ex (.var 1)) (.op (.cmp .ge) (.cons (.var 2) (.cons (.op .pow (.cons (.cst (.int 10)) (.cons (.cst (.int 15)) .nil))) .nil))) (.var 2))) (.cons (.im (.fop .cat (.cons (.var 1) (.cons (.im (.disp (.cons (.op .add (.cons (.op .len (.cons (.var 1) .nil)) (.cons (.cst (.int 693)) .nil))) .nil))) .nil)))) (.cons (.op .sum (.cons (.var 1) .nil)) (.cons (.cst (.int 0)) .nil)))))))
  .nil)),
  false⟩
/-- is_integer -/
def d1 : FD := ⟨1, 1,
  (.cons (.ret (.and2 (.op (.isi "int") (.cons (.var 0) .nil)) (.not (.op (.isi "bool") (.cons (.var 0) .nil)))))
  .nil),
  true⟩
/-- is_button -/
def d2 : FD := ⟨1, 1,
  (.cons (.ret (.and2 (.call 1 (.cons (.var 0) .nil)) (.chain .le .le (.cst (.int 0)) (.var 0) (.glob "MAX_BUTTON" (.int 99)))))
  .nil),
  true⟩
/-- lot_error -/
def d3 : FD := ⟨1, 3,
  (.cons (.ife (.or2 (.not (.op (.isi "tuple") (.cons (.var 0) .nil))) (.op (.cmp .gt) (.cons (.op .len (.cons (.var 0) .nil)) (.cons (.glob "MAX_LOT" (.int 100)) .nil)))) (.cons (.ret (.cst (.str "form")))
  .nil) .nil)
  (.cons (.fr (.row (.cons (.nm 1) (.cons (.nm 2) .nil))) (.enum (.var 0)) (.cons (.ife (.not (.call 2 (.cons (.var 2) .nil))) (.cons (.ret (.tup (.cons (.cst (.str "button")) (.cons (.var 1) .nil))))
  .nil) .nil)
  .nil))
  (.cons (.fr (.nm 1) (.rng2 (.cst (.int 1)) (.op .len (.cons (.var 0) .nil))) (.cons (.ife (.op (.cmp .le) (.cons (.op .idx (.cons (.var 0) (.cons (.var 1) .nil))) (.cons (.op .idx (.cons (.var 0) (.cons (.op .sub (.cons (.var 1) (.cons (.cst (.int 1)) .nil))) .nil))) .nil))) (.cons (.ret (.tup (.cons (.cst (.str "order")) (.cons (.var 1) .nil))))
  .nil) .nil)
  .nil))
  (.cons (.ret (.cst .non))
  .nil)))),
  true⟩
/-- is_line -/
def d4 : FD := ⟨1, 1,
  (.cons (.ife (.or2 (.not (.op (.isi "tuple") (.cons (.var 0) .nil))) (.op (.cmp .ne) (.cons (.op .len (.cons (.var 0) .nil)) (.cons (.cst (.int 2)) .nil)))) (.cons (.ret (.cst (.bl false)))
  .nil) .nil)
  (.cons (.ret (.and2 (.op .isN (.cons (.call 3 (.cons (.op .idx (.cons (.var 0) (.cons (.cst (.int 0)) .nil))) .nil)) .nil)) (.op (.isi "bool") (.cons (.op .idx (.cons (.var 0) (.cons (.cst (.int 1)) .nil))) .nil))))
  .nil)),
  true⟩
/-- book_error -/
def d5 : FD := ⟨1, 3,
  (.cons (.ife (.or2 (.not (.op (.isi "tuple") (.cons (.var 0) .nil))) (.op (.cmp .gt) (.cons (.op .len (.cons (.var 0) .nil)) (.cons (.glob "MAX_LINES" (.int 12)) .nil)))) (.cons (.ret (.cst (.str "form")))
  .nil) .nil)
  (.cons (.fr (.row (.cons (.nm 1) (.cons (.nm 2) .nil))) (.enum (.var 0)) (.cons (.ife (.not (.call 4 (.cons (.var 2) .nil))) (.cons (.ret (.tup (.cons (.cst (.str "line")) (.cons (.var 1) .nil))))
  .nil) .nil)
  .nil))
  (.cons (.ret (.cst .non))
  .nil))),
  true⟩
/-- _law_draw -/
def d6 : FD := ⟨2, 6,
  (.cons (.ife (.op (.cmp .ne) (.cons (.op .idx (.cons (.var 0) (.cons (.cst (.int 0)) .nil))) (.cons (.im (.disp .nil)) .nil))) (.cons (.asg (.nm 5) (.popc (.op .idx (.cons (.var 0) (.cons (.cst (.int 0)) .nil)))))
  (.cons (.ife (.op (.cmp .ge) (.cons (.var 5) (.cons (.var 1) .nil))) (.cons (.exp (.appc (.op .idx (.cons (.var 0) (.cons (.cst (.int 0)) .nil))) (.op .fdiv (.cons (.var 5) (.cons (.var 1) .nil)))))
  .nil) .nil)
  (.cons (.ret (.op .mod (.cons (.op .int1 (.cons (.var 5) .nil)) (.cons (.var 1) .nil))))
  .nil))) .nil)
  (.cons (.stc (.var 0) (.cst (.int 3)) (.op .add (.cons (.op .idx (.cons (.var 0) (.cons (.cst (.int 3)) .nil))) (.cons (.cst (.int 1)) .nil))))
  (.cons (.asg (.nm 2) (.op .idx (.cons (.var 0) (.cons (.cst (.int 3)) .nil))))
  (.cons (.asg (.nm 3) (.op .mod (.cons (.op .int1 (.cons (.op .idx (.cons (.op .idx (.cons (.var 0) (.cons (.cst (.int 1)) .nil))) (.cons (.op .mod (.cons (.op .int1 (.cons (.var 2) .nil)) (.cons (.op .len (.cons (.op .idx (.cons (.var 0) (.cons (.cst (.int 1)) .nil))) .nil)) .nil))) .nil))) .nil)) (.cons (.cst (.int 1000000007)) .nil))))
  (.cons (.asg (.nm 4) (.op .mod (.cons (.op .int1 (.cons (.op .add (.cons (.op .add (.cons (.op .mul (.cons (.var 3) (.cons (.cst (.int 48271)) .nil))) (.cons (.op .mul (.cons (.op .mod (.cons (.op .int1 (.cons (.op .idx (.cons (.var 0) (.cons (.cst (.int 2)) .nil))) .nil)) (.cons (.cst (.int 998244353)) .nil))) (.cons (.cst (.int 69621)) .nil))) .nil))) (.cons (.op .mul (.cons (.var 2) (.cons (.cst (.int 2654435761)) .nil))) .nil))) .nil)) (.cons (.cst (.int 4294967291)) .nil))))
  (.cons (.asg (.nm 4) (.op .mod (.cons (.op .int1 (.cons (.op .add (.cons (.op .add (.cons (.op .mul (.cons (.var 4) (.cons (.var 4) .nil))) (.cons (.op .mul (.cons (.var 2) (.cons (.cst (.int 362437)) .nil))) .nil))) (.cons (.var 3) .nil))) .nil)) (.cons (.cst (.int 4294967279)) .nil))))
  (.cons (.ret (.op .mod (.cons (.op .fdiv (.cons (.op .mod (.cons (.op .int1 (.cons (.op .add (.cons (.op .mul (.cons (.var 4) (.cons (.cst (.int 40692)) .nil))) (.cons (.op .mul (.cons (.var 2) (.cons (.cst (.int 65537)) .nil))) .nil))) .nil)) (.cons (.cst (.int 4294967231)) .nil))) (.cons (.cst (.int 4096)) .nil))) (.cons (.var 1) .nil))))
  .nil))))))),
  false⟩
/-- _law_pick -/
def d7 : FD := ⟨2, 2,
  (.cons (.ret (.op .idx (.cons (.var 1) (.cons (.call 6 (.cons (.var 0) (.cons (.op .len (.cons (.var 1) .nil)) .nil))) .nil))))
  .nil),
  false⟩
/-- _law_line -/
def d8 : FD := ⟨1, 4,
  (.cons (.asg (.nm 1) (.call 7 (.cons (.var 0) (.cons (.im (.disp (.cons (.cst (.int 0)) (.cons (.cst (.int 1)) (.cons (.cst (.int 2)) (.cons (.cst (.int 3)) (.cons (.cst (.int 5)) (.cons (.cst (.int 8)) (.cons (.cst (.int 100)) .nil))))))))) .nil))))
  (.cons (.asg (.nm 2) (.ite (.op (.cmp .lt) (.cons (.var 1) (.cons (.cst (.int 100)) .nil))) (.im (.sset (.cons (.im (.lc (.nm 3) [3] (.rng1 (.var 1)) .tt (.call 6 (.cons (.var 0) (.cons (.cst (.int 100)) .nil))))) .nil))) (.im (.lrg (.rng1 (.cst (.int 100)))))))
  (.cons (.ret (.tup (.cons (.op .tuple (.cons (.var 2) .nil)) (.cons (.op (.cmp .eq) (.cons (.call 6 (.cons (.var 0) (.cons (.cst (.int 2)) .nil))) (.cons (.cst (.int 0)) .nil))) .nil))))
  .nil))),
  false⟩
/-- _law_is_integer -/
def d9 : FD := ⟨1, 1,
  (.cons (.ret (.and2 (.op (.isi "int") (.cons (.var 0) .nil)) (.not (.op (.isi "bool") (.cons (.var 0) .nil)))))
  .nil),
  true⟩
/-- _law_is_lot -/
def d10 : FD := ⟨1, 3,
  (.cons (.ife (.or2 (.not (.op (.isi "tuple") (.cons (.var 0) .nil))) (.op (.cmp .gt) (.cons (.op .len (.cons (.var 0) .nil)) (.cons (.cst (.int 100)) .nil)))) (.cons (.ret (.cst (.bl false)))
  .nil) .nil)
  (.cons (.fr (.row (.cons (.nm 1) (.cons (.nm 2) .nil))) (.enum (.var 0)) (.cons (.ife (.or2 (.not (.call 9 (.cons (.var 2) .nil))) (.or2 (.not (.chain .le .le (.cst (.int 0)) (.var 2) (.cst (.int 99)))) (.and2 (.op (.cmp .gt) (.cons (.var 1) (.cons (.cst (.int 0)) .nil))) (.op (.cmp .le) (.cons (.var 2) (.cons (.op .idx (.cons (.var 0) (.cons (.op .sub (.cons (.var 1) (.cons (.cst (.int 1)) .nil))) .nil))) .nil)))))) (.cons (.ret (.cst (.bl false)))
  .nil) .nil)
  .nil))
  (.cons (.ret (.cst (.bl true)))
  .nil))),
  true⟩
/-- _law_due -/
def d11 : FD := ⟨1, 3,
  (.cons (.ife (.or2 (.not (.op (.isi "tuple") (.cons (.var 0) .nil))) (.op (.cmp .gt) (.cons (.op .len (.cons (.var 0) .nil)) (.cons (.cst (.int 12)) .nil)))) (.cons (.ret (.cst (.str "form")))
  .nil) .nil)
  (.cons (.fr (.row (.cons (.nm 1) (.cons (.nm 2) .nil))) (.enum (.var 0)) (.cons (.ife (.or2 (.not (.op (.isi "tuple") (.cons (.var 2) .nil))) (.or2 (.op (.cmp .ne) (.cons (.op .len (.cons (.var 2) .nil)) (.cons (.cst (.int 2)) .nil))) (.or2 (.not (.call 10 (.cons (.op .idx (.cons (.var 2) (.cons (.cst (.int 0)) .nil))) .nil))) (.not (.op (.isi "bool") (.cons (.op .idx (.cons (.var 2) (.cons (.cst (.int 1)) .nil))) .nil)))))) (.cons (.ret (.tup (.cons (.cst (.str "line")) (.cons (.var 1) .nil))))
  .nil) .nil)
  .nil))
  (.cons (.ret (.cst .non))
  .nil))),
  true⟩
/-- _law_odd -/
def d12 : FD := ⟨2, 10,
  (.cons (.asg (.row (.cons (.nm 2) (.cons (.nm 6) .nil))) (.var 1))
  (.cons (.asg (.nm 2) (.ite (.op (.cmp .gt) (.cons (.op .len (.cons (.var 2) .nil)) (.cons (.cst (.int 1)) .nil))) (.var 2) (.tup (.cons (.cst (.int 3)) (.cons (.cst (.int 40)) .nil)))))
  (.cons (.par [7, 8] [.e (.call 6 (.cons (.var 0) (.cons (.op .len (.cons (.var 2) .nil)) .nil))), .e (.call 7 (.cons (.var 0) (.cons (.im (.disp (.cons (.cst (.bl true)) (.cons (.cst (.bl false)) (.cons (.cst .non) (.cons (.op .neg (.cons (.cst (.int 1)) .nil)) (.cons (.cst (.int 100)) (.cons (.cst (.str "3")) (.cons (.tup (.cons (.cst (.int 3)) .nil)) (.cons (.im (.disp (.cons (.cst (.int 3)) .nil))) (.cons (.op .pow (.cons (.cst (.int 10)) (.cons (.cst (.int 30)) .nil))) (.cons (.cst (.int 0)) .nil)))))))))))) .nil)))])
  (.cons (.asg (.nm 3) (.im (.disp (.cons (.op (.revT 0) (.cons (.var 2) .nil)) (.cons (.op .add (.cons (.var 2) (.cons (.op (.slcT true false) (.cons (.var 2) (.cons (.op .neg (.cons (.cst (.int 1)) .nil)) .nil))) .nil))) (.cons (.op .add (.cons (.op (.slcT false true) (.cons (.var 2) (.cons (.cst (.int 1)) .nil))) (.cons (.var 2) .nil))) (.cons (.im (.fop .list (.cons (.var 2) .nil))) (.cons (.op .add (.cons (.op .add (.cons (.op (.slcT false true) (.cons (.var 2) (.cons (.var 7) .nil))) (.cons (.tup (.cons (.var 8) .nil)) .nil))) (.cons (.op (.slcT true false) (.cons (.var 2) (.cons (.op .add (.cons (.var 7) (.cons (.cst (.int 1)) .nil))) .nil))) .nil))) (.cons (.cst .non) (.cons (.cst (.str "")) (.cons (.im (.dnk [] .nil)) (.cons (.cst (.int 3)) .nil))))))))))))
  (.cons (.asg (.nm 3) (.im (.fop .cat (.cons (.var 3) (.cons (.im (.disp (.cons (.tup (.cons (.var 2) .nil)) (.cons (.op .add (.cons (.var 2) (.cons (.tup (.cons (.cst (.int 100)) .nil)) .nil))) (.cons (.tup (.cons (.var 8) .nil)) (.cons (.im (.disp (.cons (.var 8) .nil))) (.cons (.im (.dnk [.inl 3] (.cons (.cst (.int 3)) .nil))) (.cons (.op .add (.cons (.op (.slcT false true) (.cons (.var 2) (.cons (.var 7) .nil))) (.cons (.tup (.cons (.var 8) .nil)) .nil))) .nil)))))))) .nil)))))
  (.cons (.asg (.nm 4) (.im (.disp (.cons (.cst (.int 0)) (.cons (.cst (.int 1)) (.cons (.cst .non) (.cons (.cst (.str "True")) (.cons (.tup (.cons (.cst (.bl true)) .nil)) (.cons (.im (.disp (.cons (.var 6) .nil))) (.cons (.op .neg (.cons (.cst (.int 1)) .nil)) (.cons (.im (.dnk [] .nil)) (.cons (.cst (.int 2)) (.cons (.var 6) .nil)))))))))))))
  (.cons (.asg (.nm 5) (.im (.fop .cat (.cons (.im (.lc (.nm 9) [9] (.ex (.var 3)) .tt (.tup (.cons (.var 9) (.cons (.var 6) .nil))))) (.cons (.im (.lc (.nm 9) [9] (.ex (.var 4)) .tt (.tup (.cons (.var 2) (.cons (.var 9) .nil))))) .nil)))))
  (.cons (.asg (.nm 5) (.im (.fop .cat (.cons (.var 5) (.cons (.im (.disp (.cons (.tup (.cons (.var 2) .nil)) (.cons (.tup (.cons (.var 2) (.cons (.var 6) (.cons (.var 6) .nil)))) (.cons (.tup (.cons (.var 6) (.cons (.var 2) .nil))) (.cons (.im (.disp (.cons (.var 2) (.cons (.var 6) .nil)))) (.cons (.cst .non) (.cons (.tup .nil) (.cons (.var 2) (.cons (.var 6) (.cons (.cst (.str "line")) (.cons (.im (.dnk [] .nil)) (.cons (.tup (.cons (.var 2) (.cons (.var 2) .nil))) .nil))))))))))))) .nil)))))
  (.cons (.ret (.call 7 (.cons (.var 0) (.cons (.im (.fop .cat (.cons (.var 5) (.cons (.im (.disp (.cons (.tup (.cons (.tup .nil) (.cons (.var 6) .nil))) (.cons (.tup (.cons (.tup (.cons (.cst (.bl true)) .nil)) (.cons (.var 6) .nil))) (.cons (.tup (.cons (.tup (.cons (.cst (.int 0)) (.cons (.cst (.bl true)) .nil))) (.cons (.var 6) .nil))) .nil))))) .nil)))) .nil))))
  .nil))))))))),
  false⟩
/-- law -/
def d13 : FD := ⟨1, 14,
  (.cons (.asg (.nm 1) (.call 0 (.cons (.var 0) .nil)))
  (.cons (.fr (.nm 2) (.rng1 (.cst (.int 6))) (.cons (.asg (.nm 3) (.op .tuple (.cons (.im (.lc (.nm 6) [6] (.rng1 (.call 7 (.cons (.var 1) (.cons (.im (.disp (.cons (.cst (.int 0)) (.cons (.cst (.int 1)) (.cons (.cst (.int 2)) (.cons (.cst (.int 3)) (.cons (.cst (.int 12)) .nil))))))) .nil)))) .tt (.call 8 (.cons (.var 1) .nil)))) .nil)))
  (.cons (.asg (.nm 4) (.op .add (.cons (.var 3) (.cons (.tup (.cons (.call 8 (.cons (.var 1) .nil)) .nil)) .nil))))
  (.cons (.own 5 (.disp (.cons (.var 3) (.cons (.im (.fop .list (.cons (.var 3) .nil))) (.cons (.op (.slcT false true) (.cons (.op .mul (.cons (.var 4) (.cons (.cst (.int 13)) .nil))) (.cons (.cst (.int 12)) .nil))) (.cons (.op (.slcT false true) (.cons (.op .mul (.cons (.var 4) (.cons (.cst (.int 13)) .nil))) (.cons (.cst (.int 13)) .nil))) (.cons (.op (.slcT false true) (.cons (.op .mul (.cons (.var 4) (.cons (.cst (.int 20)) .nil))) (.cons (.cst (.int 14)) .nil))) (.cons (.cst .non) (.cons (.tup (.cons (.var 3) .nil)) (.cons (.tup .nil) (.cons (.op .idx (.cons (.var 4) (.cons (.cst (.int 0)) .nil))) .nil)))))))))))
  (.cons (.fr (.nm 6) (.rng1 (.cst (.int 9))) (.cons (.par [10, 11] [.e (.call 6 (.cons (.var 1) (.cons (.op .len (.cons (.var 4) .nil)) .nil))), .e (.call 6 (.cons (.var 1) (.cons (.op .len (.cons (.var 4) .nil)) .nil)))])
  (.cons (.asg (.nm 7) (.op .add (.cons (.op .add (.cons (.op (.slcT false true) (.cons (.var 4) (.cons (.var 10) .nil))) (.cons (.tup (.cons (.call 12 (.cons (.var 1) (.cons (.op .idx (.cons (.var 4) (.cons (.var 10) .nil))) .nil))) .nil)) .nil))) (.cons (.op (.slcT true false) (.cons (.var 4) (.cons (.op .add (.cons (.var 10) (.cons (.cst (.int 1)) .nil))) .nil))) .nil))))
  (.cons (.exp (.app 5 (.var 7)))
  (.cons (.exp (.app 5 (.op .add (.cons (.op .add (.cons (.op (.slcT false true) (.cons (.var 7) (.cons (.var 11) .nil))) (.cons (.tup (.cons (.call 12 (.cons (.var 1) (.cons (.op .idx (.cons (.var 4) (.cons (.var 11) .nil))) .nil))) .nil)) .nil))) (.cons (.op (.slcT true false) (.cons (.var 7) (.cons (.op .add (.cons (.var 11) (.cons (.cst (.int 1)) .nil))) .nil))) .nil)))))
  .nil)))))
  (.cons (.fr (.row (.cons (.nm 6) (.cons (.nm 8) .nil))) (.enum (.esc 5)) (.cons (.par [12, 13] [.e (.op .repr (.cons (.var 8) .nil)), .e (.op .repr (.cons (.call 11 (.cons (.var 8) .nil)) .nil))])
  (.cons (.asg (.nm 9) (.ite (.op (.cmp .eq) (.cons (.var 6) (.cons (.cst (.int 3)) .nil))) (.callK 5 (.cons (.var 8) .nil) [0]) (.call 5 (.cons (.var 8) .nil))))
  (.cons (.ife (.or2 (.op (.cmp .ne) (.cons (.op .repr (.cons (.var 9) .nil)) (.cons (.var 13) .nil))) (.or2 (.op (.cmp .ne) (.cons (.op .repr (.cons (.call 5 (.cons (.var 8) .nil)) .nil)) (.cons (.var 13) .nil))) (.op (.cmp .ne) (.cons (.op .repr (.cons (.var 8) .nil)) (.cons (.var 12) .nil))))) (.cons (.ret (.cst (.bl false)))
  .nil) .nil)
  .nil))))
  .nil))))))
  (.cons (.ret (.op (.cmp .eq) (.cons (.op .repr (.cons (.call 5 (.cons (.tup (.cons (.tup (.cons (.tup (.cons (.cst (.int 0)) .nil)) (.cons (.cst (.bl true)) .nil))) (.cons (.tup (.cons (.tup (.cons (.cst (.int 0)) .nil)) (.cons (.cst (.int 1)) .nil))) .nil))) .nil)) .nil)) (.cons (.op .repr (.cons (.tup (.cons (.cst (.str "line")) (.cons (.cst (.int 1)) .nil))) .nil)) .nil))))
  .nil))),
  false⟩
def topL (i : Nat) : Stmt := (PySem.Challenge.pw_onescale_k81_what_is_a_book).main.body.getD i (.Pass ⟨0, 0, 0, 0⟩)
def fd0 : DF := ⟨⟨"_law_stock", ["_law_script"], []⟩, topL 12, ["_law_script", "_law_flat", "_law_cell"], d0⟩
def fd1 : DF := ⟨⟨"is_integer", ["value"], []⟩, topL 4, ["value"], d1⟩
def fd2 : DF := ⟨⟨"is_button", ["value"], []⟩, topL 5, ["value"], d2⟩
def fd3 : DF := ⟨⟨"lot_error", ["value"], []⟩, topL 7, ["value", "place", "item"], d3⟩
def fd4 : DF := ⟨⟨"is_line", ["value"], []⟩, topL 9, ["value"], d4⟩
def fd5 : DF := ⟨⟨"book_error", ["value"], [(0, ["value"], [0])]⟩, topL 10, ["value", "place", "line"], d5⟩
def fd6 : DF := ⟨⟨"_law_draw", ["_law_stock_here", "_law_size"], []⟩, topL 13, ["_law_stock_here", "_law_size", "_law_turn", "_law_cell", "_law_blend", "_law_great"], d6⟩
def fd7 : DF := ⟨⟨"_law_pick", ["_law_stock_here", "_law_row"], []⟩, topL 14, ["_law_stock_here", "_law_row"], d7⟩
def fd8 : DF := ⟨⟨"_law_line", ["_law_stock_here"], []⟩, topL 18, ["_law_stock_here", "_law_size", "_law_lot", "_law_turn"], d8⟩
def fd9 : DF := ⟨⟨"_law_is_integer", ["_law_thing"], []⟩, topL 15, ["_law_thing"], d9⟩
def fd10 : DF := ⟨⟨"_law_is_lot", ["_law_thing"], []⟩, topL 16, ["_law_thing", "_law_nth", "_law_own"], d10⟩
def fd11 : DF := ⟨⟨"_law_due", ["_law_thing"], []⟩, topL 17, ["_law_thing", "_law_at", "_law_line_here"], d11⟩
def fd12 : DF := ⟨⟨"_law_odd", ["_law_stock_here", "_law_line_here"], []⟩, topL 19, ["_law_stock_here", "_law_line_here", "_law_lot", "_law_lots", "_law_wents", "_law_found", "_law_went", "_law_at", "_law_odd_here", "_law_own"], d12⟩
def fd13 : DF := ⟨⟨"law", ["_law_script"], []⟩, topL 20, ["_law_script", "_law_stock_here", "_law_turn", "_law_book", "_law_more", "_law_things", "_law_nth", "_law_once", "_law_thing", "_law_told_of", "_law_at", "_law_to", "_law_known", "_law_due_here"], d13⟩
def prg : List DF := [fd0, fd1, fd2, fd3, fd4, fd5, fd6, fd7, fd8, fd9, fd10, fd11, fd12, fd13]
def cfg : Cfg := ⟨prg.map (·.fi), ["len", "sum", "isinstance", "int", "bool", "tuple", "enumerate", "range", "sorted", "set", "list", "repr"], [("MAX_BUTTON", (.int 99)), ("MAX_LOT", (.int 100)), ("MAX_LINES", (.int 12))], [], [], []⟩
def PP : List FD := prg.map (·.fd)
theorem prg_ok : prg.all (dfB cfg) = true := by decide +kernel
/-! ### each def opened, each call -/
theorem gD0 : (prg.map (·.fd))[0]? = some d0 := rfl
theorem cD0 {k : Nat} {xs : List MV} {mh : Option (List Cn)} {e : List (Option Slot)} {Q : MV → S → Prop} : lF (fnsK (prg.map (·.fd)) k) 0 xs ⟨e, mh⟩ Q .mk = lS (prg.map (·.fd)) k 0 xs mh (fun x mh' => Q x ⟨e, mh'⟩) .mk := lF_liv' rfl
theorem xD0 {k : Nat} {xs : List MV} {mh : Option (List Cn)} {e : List (Option Slot)} {K : Nat → List MV → S → Prop} : xF (fnsK (prg.map (·.fd)) k) 0 xs ⟨e, mh⟩ K .mk = xS (prg.map (·.fd)) k 0 xs mh (fun c vs mh' => K c vs ⟨e, mh'⟩) .mk := xF_liv rfl
theorem sD0 : isoP (prg.map (·.fd)) 0 = false := rfl
theorem gD1 : (prg.map (·.fd))[1]? = some d1 := rfl
theorem cD1 {k : Nat} {xs : List MV} {mh : Option (List Cn)} {e : List (Option Slot)} {Q : MV → S → Prop} : lF (fnsK (prg.map (·.fd)) k) 1 xs ⟨e, mh⟩ Q .mk = lS (prg.map (·.fd)) k 1 xs none (fun x _ => Q x ⟨e, mh⟩) .mk := lF_iso' rfl
theorem xD1 {k : Nat} {xs : List MV} {mh : Option (List Cn)} {e : List (Option Slot)} {K : Nat → List MV → S → Prop} : xF (fnsK (prg.map (·.fd)) k) 1 xs ⟨e, mh⟩ K .mk = xS (prg.map (·.fd)) k 1 xs none (fun c vs _ => K c vs ⟨e, mh⟩) .mk := xF_iso rfl
theorem sD1 : isoP (prg.map (·.fd)) 1 = true := rfl
theorem gD2 : (prg.map (·.fd))[2]? = some d2 := rfl
theorem cD2 {k : Nat} {xs : List MV} {mh : Option (List Cn)} {e : List (Option Slot)} {Q : MV → S → Prop} : lF (fnsK (prg.map (·.fd)) k) 2 xs ⟨e, mh⟩ Q .mk = lS (prg.map (·.fd)) k 2 xs none (fun x _ => Q x ⟨e, mh⟩) .mk := lF_iso' rfl
theorem xD2 {k : Nat} {xs : List MV} {mh : Option (List Cn)} {e : List (Option Slot)} {K : Nat → List MV → S → Prop} : xF (fnsK (prg.map (·.fd)) k) 2 xs ⟨e, mh⟩ K .mk = xS (prg.map (·.fd)) k 2 xs none (fun c vs _ => K c vs ⟨e, mh⟩) .mk := xF_iso rfl
theorem sD2 : isoP (prg.map (·.fd)) 2 = true := rfl
theorem gD3 : (prg.map (·.fd))[3]? = some d3 := rfl
theorem cD3 {k : Nat} {xs : List MV} {mh : Option (List Cn)} {e : List (Option Slot)} {Q : MV → S → Prop} : lF (fnsK (prg.map (·.fd)) k) 3 xs ⟨e, mh⟩ Q .mk = lS (prg.map (·.fd)) k 3 xs none (fun x _ => Q x ⟨e, mh⟩) .mk := lF_iso' rfl
theorem xD3 {k : Nat} {xs : List MV} {mh : Option (List Cn)} {e : List (Option Slot)} {K : Nat → List MV → S → Prop} : xF (fnsK (prg.map (·.fd)) k) 3 xs ⟨e, mh⟩ K .mk = xS (prg.map (·.fd)) k 3 xs none (fun c vs _ => K c vs ⟨e, mh⟩) .mk := xF_iso rfl
theorem sD3 : isoP (prg.map (·.fd)) 3 = true := rfl
theorem gD4 : (prg.map (·.fd))[4]? = some d4 := rfl
theorem cD4 {k : Nat} {xs : List MV} {mh : Option (List Cn)} {e : List (Option Slot)} {Q : MV → S → Prop} : lF (fnsK (prg.map (·.fd)) k) 4 xs ⟨e, mh⟩ Q .mk = lS (prg.map (·.fd)) k 4 xs none (fun x _ => Q x ⟨e, mh⟩) .mk := lF_iso' rfl
theorem xD4 {k : Nat} {xs : List MV} {mh : Option (List Cn)} {e : List (Option Slot)} {K : Nat → List MV → S → Prop} : xF (fnsK (prg.map (·.fd)) k) 4 xs ⟨e, mh⟩ K .mk = xS (prg.map (·.fd)) k 4 xs none (fun c vs _ => K c vs ⟨e, mh⟩) .mk := xF_iso rfl
theorem sD4 : isoP (prg.map (·.fd)) 4 = true := rfl
theorem gD5 : (prg.map (·.fd))[5]? = some d5 := rfl
theorem cD5 {k : Nat} {xs : List MV} {mh : Option (List Cn)} {e : List (Option Slot)} {Q : MV → S → Prop} : lF (fnsK (prg.map (·.fd)) k) 5 xs ⟨e, mh⟩ Q .mk = lS (prg.map (·.fd)) k 5 xs none (fun x _ => Q x ⟨e, mh⟩) .mk := lF_iso' rfl
theorem xD5 {k : Nat} {xs : List MV} {mh : Option (List Cn)} {e : List (Option Slot)} {K : Nat → List MV → S → Prop} : xF (fnsK (prg.map (·.fd)) k) 5 xs ⟨e, mh⟩ K .mk = xS (prg.map (·.fd)) k 5 xs none (fun c vs _ => K c vs ⟨e, mh⟩) .mk := xF_iso rfl
theorem sD5 : isoP (prg.map (·.fd)) 5 = true := rfl
theorem gD6 : (prg.map (·.fd))[6]? = some d6 := rfl
theorem cD6 {k : Nat} {xs : List MV} {mh : Option (List Cn)} {e : List (Option Slot)} {Q : MV → S → Prop} : lF (fnsK (prg.map (·.fd)) k) 6 xs ⟨e, mh⟩ Q .mk = lS (prg.map (·.fd)) k 6 xs mh (fun x mh' => Q x ⟨e, mh'⟩) .mk := lF_liv' rfl
theorem xD6 {k : Nat} {xs : List MV} {mh : Option (List Cn)} {e : List (Option Slot)} {K : Nat → List MV → S → Prop} : xF (fnsK (prg.map (·.fd)) k) 6 xs ⟨e, mh⟩ K .mk = xS (prg.map (·.fd)) k 6 xs mh (fun c vs mh' => K c vs ⟨e, mh'⟩) .mk := xF_liv rfl
theorem sD6 : isoP (prg.map (·.fd)) 6 = false := rfl
theorem gD7 : (prg.map (·.fd))[7]? = some d7 := rfl
theorem cD7 {k : Nat} {xs : List MV} {mh : Option (List Cn)} {e : List (Option Slot)} {Q : MV → S → Prop} : lF (fnsK (prg.map (·.fd)) k) 7 xs ⟨e, mh⟩ Q .mk = lS (prg.map (·.fd)) k 7 xs mh (fun x mh' => Q x ⟨e, mh'⟩) .mk := lF_liv' rfl
theorem xD7 {k : Nat} {xs : List MV} {mh : Option (List Cn)} {e : List (Option Slot)} {K : Nat → List MV → S → Prop} : xF (fnsK (prg.map (·.fd)) k) 7 xs ⟨e, mh⟩ K .mk = xS (prg.map (·.fd)) k 7 xs mh (fun c vs mh' => K c vs ⟨e, mh'⟩) .mk := xF_liv rfl
theorem sD7 : isoP (prg.map (·.fd)) 7 = false := rfl
theorem gD8 : (prg.map (·.fd))[8]? = some d8 := rfl
theorem cD8 {k : Nat} {xs : List MV} {mh : Option (List Cn)} {e : List (Option Slot)} {Q : MV → S → Prop} : lF (fnsK (prg.map (·.fd)) k) 8 xs ⟨e, mh⟩ Q .mk = lS (prg.map (·.fd)) k 8 xs mh (fun x mh' => Q x ⟨e, mh'⟩) .mk := lF_liv' rfl
theorem xD8 {k : Nat} {xs : List MV} {mh : Option (List Cn)} {e : List (Option Slot)} {K : Nat → List MV → S → Prop} : xF (fnsK (prg.map (·.fd)) k) 8 xs ⟨e, mh⟩ K .mk = xS (prg.map (·.fd)) k 8 xs mh (fun c vs mh' => K c vs ⟨e, mh'⟩) .mk := xF_liv rfl
theorem sD8 : isoP (prg.map (·.fd)) 8 = false := rfl
theorem gD9 : (prg.map (·.fd))[9]? = some d9 := rfl
theorem cD9 {k : Nat} {xs : List MV} {mh : Option (List Cn)} {e : List (Option Slot)} {Q : MV → S → Prop} : lF (fnsK (prg.map (·.fd)) k) 9 xs ⟨e, mh⟩ Q .mk = lS (prg.map (·.fd)) k 9 xs none (fun x _ => Q x ⟨e, mh⟩) .mk := lF_iso' rfl
theorem xD9 {k : Nat} {xs : List MV} {mh : Option (List Cn)} {e : List (Option Slot)} {K : Nat → List MV → S → Prop} : xF (fnsK (prg.map (·.fd)) k) 9 xs ⟨e, mh⟩ K .mk = xS (prg.map (·.fd)) k 9 xs none (fun c vs _ => K c vs ⟨e, mh⟩) .mk := xF_iso rfl
theorem sD9 : isoP (prg.map (·.fd)) 9 = true := rfl
theorem gD10 : (prg.map (·.fd))[10]? = some d10 := rfl
theorem cD10 {k : Nat} {xs : List MV} {mh : Option (List Cn)} {e : List (Option Slot)} {Q : MV → S → Prop} : lF (fnsK (prg.map (·.fd)) k) 10 xs ⟨e, mh⟩ Q .mk = lS (prg.map (·.fd)) k 10 xs none (fun x _ => Q x ⟨e, mh⟩) .mk := lF_iso' rfl
theorem xD10 {k : Nat} {xs : List MV} {mh : Option (List Cn)} {e : List (Option Slot)} {K : Nat → List MV → S → Prop} : xF (fnsK (prg.map (·.fd)) k) 10 xs ⟨e, mh⟩ K .mk = xS (prg.map (·.fd)) k 10 xs none (fun c vs _ => K c vs ⟨e, mh⟩) .mk := xF_iso rfl
theorem sD10 : isoP (prg.map (·.fd)) 10 = true := rfl
theorem gD11 : (prg.map (·.fd))[11]? = some d11 := rfl
theorem cD11 {k : Nat} {xs : List MV} {mh : Option (List Cn)} {e : List (Option Slot)} {Q : MV → S → Prop} : lF (fnsK (prg.map (·.fd)) k) 11 xs ⟨e, mh⟩ Q .mk = lS (prg.map (·.fd)) k 11 xs none (fun x _ => Q x ⟨e, mh⟩) .mk := lF_iso' rfl
theorem xD11 {k : Nat} {xs : List MV} {mh : Option (List Cn)} {e : List (Option Slot)} {K : Nat → List MV → S → Prop} : xF (fnsK (prg.map (·.fd)) k) 11 xs ⟨e, mh⟩ K .mk = xS (prg.map (·.fd)) k 11 xs none (fun c vs _ => K c vs ⟨e, mh⟩) .mk := xF_iso rfl
theorem sD11 : isoP (prg.map (·.fd)) 11 = true := rfl
theorem gD12 : (prg.map (·.fd))[12]? = some d12 := rfl
theorem cD12 {k : Nat} {xs : List MV} {mh : Option (List Cn)} {e : List (Option Slot)} {Q : MV → S → Prop} : lF (fnsK (prg.map (·.fd)) k) 12 xs ⟨e, mh⟩ Q .mk = lS (prg.map (·.fd)) k 12 xs mh (fun x mh' => Q x ⟨e, mh'⟩) .mk := lF_liv' rfl
theorem xD12 {k : Nat} {xs : List MV} {mh : Option (List Cn)} {e : List (Option Slot)} {K : Nat → List MV → S → Prop} : xF (fnsK (prg.map (·.fd)) k) 12 xs ⟨e, mh⟩ K .mk = xS (prg.map (·.fd)) k 12 xs mh (fun c vs mh' => K c vs ⟨e, mh'⟩) .mk := xF_liv rfl
theorem sD12 : isoP (prg.map (·.fd)) 12 = false := rfl
theorem gD13 : (prg.map (·.fd))[13]? = some d13 := rfl
theorem cD13 {k : Nat} {xs : List MV} {mh : Option (List Cn)} {e : List (Option Slot)} {Q : MV → S → Prop} : lF (fnsK (prg.map (·.fd)) k) 13 xs ⟨e, mh⟩ Q .mk = lS (prg.map (·.fd)) k 13 xs mh (fun x mh' => Q x ⟨e, mh'⟩) .mk := lF_liv' rfl
theorem xD13 {k : Nat} {xs : List MV} {mh : Option (List Cn)} {e : List (Option Slot)} {K : Nat → List MV → S → Prop} : xF (fnsK (prg.map (·.fd)) k) 13 xs ⟨e, mh⟩ K .mk = xS (prg.map (·.fd)) k 13 xs mh (fun c vs mh' => K c vs ⟨e, mh'⟩) .mk := xF_liv rfl
theorem sD13 : isoP (prg.map (·.fd)) 13 = false := rfl
/-! ### what the top has laid -/
section
open PyProof.Rows
theorem kn0 {K : PySem.W.Frag} {h : Heap} {mg : Str → Option Value} {f : Addr} {od an : Option Addr} {sl : Array (Option Value)} {oc kV dc pm cd ct : Value} (X : K.In h) (G : h.Ns mainGlobals mg)
    (a : PySem.W.nsIn K mainGlobals "_law_stock" = some (some (.ref f))) (l : K.lookup f = some ⟨oc, od, .func (PySem.W.fnOf "_law_stock" "_law_stock" (defArgs (topL 12)) (defBody (topL 12)) (defScope (topL 12)) .none kV dc pm an cd ct), sl⟩)
    (c : PySem.W.codeIn K cd "_law_stock" = true) (k : PySem.W.keepIn K (.ref f) = true) : ∃ f fd, Known K mg fd0 f fd := by
  refine ⟨f, _, fun_mk (st := topL 12) l c k, PySem.W.mg_of X G a, fun s us ws _ h1 h2 => ?_, fun t ht => ?_⟩
  · match us, ws, h1, h2 with
    | [_], [], _, _ => exact .of_eq rfl
  · exact absurd ht (by simp [fd0])
theorem kn1 {K : PySem.W.Frag} {h : Heap} {mg : Str → Option Value} {f : Addr} {od an : Option Addr} {sl : Array (Option Value)} {oc kV dc pm cd ct : Value} (X : K.In h) (G : h.Ns mainGlobals mg)
    (a : PySem.W.nsIn K mainGlobals "is_integer" = some (some (.ref f))) (l : K.lookup f = some ⟨oc, od, .func (PySem.W.fnOf "is_integer" "is_integer" (defArgs (topL 4)) (defBody (topL 4)) (defScope (topL 4)) .none kV dc pm an cd ct), sl⟩)
    (c : PySem.W.codeIn K cd "is_integer" = true) (k : PySem.W.keepIn K (.ref f) = true) : ∃ f fd, Known K mg fd1 f fd := by
  refine ⟨f, _, fun_mk (st := topL 4) l c k, PySem.W.mg_of X G a, fun s us ws _ h1 h2 => ?_, fun t ht => ?_⟩
  · match us, ws, h1, h2 with
    | [_], [], _, _ => exact .of_eq rfl
  · exact absurd ht (by simp [fd1])
theorem kn2 {K : PySem.W.Frag} {h : Heap} {mg : Str → Option Value} {f : Addr} {od an : Option Addr} {sl : Array (Option Value)} {oc kV dc pm cd ct : Value} (X : K.In h) (G : h.Ns mainGlobals mg)
    (a : PySem.W.nsIn K mainGlobals "is_button" = some (some (.ref f))) (l : K.lookup f = some ⟨oc, od, .func (PySem.W.fnOf "is_button" "is_button" (defArgs (topL 5)) (defBody (topL 5)) (defScope (topL 5)) .none kV dc pm an cd ct), sl⟩)
    (c : PySem.W.codeIn K cd "is_button" = true) (k : PySem.W.keepIn K (.ref f) = true) : ∃ f fd, Known K mg fd2 f fd := by
  refine ⟨f, _, fun_mk (st := topL 5) l c k, PySem.W.mg_of X G a, fun s us ws _ h1 h2 => ?_, fun t ht => ?_⟩
  · match us, ws, h1, h2 with
    | [_], [], _, _ => exact .of_eq rfl
  · exact absurd ht (by simp [fd2])
theorem kn3 {K : PySem.W.Frag} {h : Heap} {mg : Str → Option Value} {f : Addr} {od an : Option Addr} {sl : Array (Option Value)} {oc kV dc pm cd ct : Value} (X : K.In h) (G : h.Ns mainGlobals mg)
    (a : PySem.W.nsIn K mainGlobals "lot_error" = some (some (.ref f))) (l : K.lookup f = some ⟨oc, od, .func (PySem.W.fnOf "lot_error" "lot_error" (defArgs (topL 7)) (defBody (topL 7)) (defScope (topL 7)) .none kV dc pm an cd ct), sl⟩)
    (c : PySem.W.codeIn K cd "lot_error" = true) (k : PySem.W.keepIn K (.ref f) = true) : ∃ f fd, Known K mg fd3 f fd := by
  refine ⟨f, _, fun_mk (st := topL 7) l c k, PySem.W.mg_of X G a, fun s us ws _ h1 h2 => ?_, fun t ht => ?_⟩
  · match us, ws, h1, h2 with
    | [_], [], _, _ => exact .of_eq rfl
  · exact absurd ht (by simp [fd3])
theorem kn4 {K : PySem.W.Frag} {h : Heap} {mg : Str → Option Value} {f : Addr} {od an : Option Addr} {sl : Array (Option Value)} {oc kV dc pm cd ct : Value} (X : K.In h) (G : h.Ns mainGlobals mg)
    (a : PySem.W.nsIn K mainGlobals "is_line" = some (some (.ref f))) (l : K.lookup f = some ⟨oc, od, .func (PySem.W.fnOf "is_line" "is_line" (defArgs (topL 9)) (defBody (topL 9)) (defScope (topL 9)) .none kV dc pm an cd ct), sl⟩)
    (c : PySem.W.codeIn K cd "is_line" = true) (k : PySem.W.keepIn K (.ref f) = true) : ∃ f fd, Known K mg fd4 f fd := by
  refine ⟨f, _, fun_mk (st := topL 9) l c k, PySem.W.mg_of X G a, fun s us ws _ h1 h2 => ?_, fun t ht => ?_⟩
  · match us, ws, h1, h2 with
    | [_], [], _, _ => exact .of_eq rfl
  · exact absurd ht (by simp [fd4])
theorem kn5 {K : PySem.W.Frag} {h : Heap} {mg : Str → Option Value} {f : Addr} {od an : Option Addr} {sl : Array (Option Value)} {oc kV dc pm cd ct : Value} (X : K.In h) (G : h.Ns mainGlobals mg)
    (a : PySem.W.nsIn K mainGlobals "book_error" = some (some (.ref f))) (l : K.lookup f = some ⟨oc, od, .func (PySem.W.fnOf "book_error" "book_error" (defArgs (topL 10)) (defBody (topL 10)) (defScope (topL 10)) .none kV dc pm an cd ct), sl⟩)
    (c : PySem.W.codeIn K cd "book_error" = true) (k : PySem.W.keepIn K (.ref f) = true) : ∃ f fd, Known K mg fd5 f fd := by
  refine ⟨f, _, fun_mk (st := topL 10) l c k, PySem.W.mg_of X G a, fun s us ws _ h1 h2 => ?_, fun t ht => ?_⟩
  · match us, ws, h1, h2 with
    | [_], [], _, _ => exact .of_eq rfl
  · simp only [fd5, List.mem_cons, List.not_mem_nil, or_false] at ht
    rcases ht with rfl
    · exact fun s us ws _ h1 h2 => match us, ws, h1, h2 with | [], [_], _, _ => .of_eq rfl
theorem kn6 {K : PySem.W.Frag} {h : Heap} {mg : Str → Option Value} {f : Addr} {od an : Option Addr} {sl : Array (Option Value)} {oc kV dc pm cd ct : Value} (X : K.In h) (G : h.Ns mainGlobals mg)
    (a : PySem.W.nsIn K mainGlobals "_law_draw" = some (some (.ref f))) (l : K.lookup f = some ⟨oc, od, .func (PySem.W.fnOf "_law_draw" "_law_draw" (defArgs (topL 13)) (defBody (topL 13)) (defScope (topL 13)) .none kV dc pm an cd ct), sl⟩)
    (c : PySem.W.codeIn K cd "_law_draw" = true) (k : PySem.W.keepIn K (.ref f) = true) : ∃ f fd, Known K mg fd6 f fd := by
  refine ⟨f, _, fun_mk (st := topL 13) l c k, PySem.W.mg_of X G a, fun s us ws _ h1 h2 => ?_, fun t ht => ?_⟩
  · match us, ws, h1, h2 with
    | [_, _], [], _, _ => exact .of_eq rfl
  · exact absurd ht (by simp [fd6])
theorem kn7 {K : PySem.W.Frag} {h : Heap} {mg : Str → Option Value} {f : Addr} {od an : Option Addr} {sl : Array (Option Value)} {oc kV dc pm cd ct : Value} (X : K.In h) (G : h.Ns mainGlobals mg)
    (a : PySem.W.nsIn K mainGlobals "_law_pick" = some (some (.ref f))) (l : K.lookup f = some ⟨oc, od, .func (PySem.W.fnOf "_law_pick" "_law_pick" (defArgs (topL 14)) (defBody (topL 14)) (defScope (topL 14)) .none kV dc pm an cd ct), sl⟩)
    (c : PySem.W.codeIn K cd "_law_pick" = true) (k : PySem.W.keepIn K (.ref f) = true) : ∃ f fd, Known K mg fd7 f fd := by
  refine ⟨f, _, fun_mk (st := topL 14) l c k, PySem.W.mg_of X G a, fun s us ws _ h1 h2 => ?_, fun t ht => ?_⟩
  · match us, ws, h1, h2 with
    | [_, _], [], _, _ => exact .of_eq rfl
  · exact absurd ht (by simp [fd7])
theorem kn8 {K : PySem.W.Frag} {h : Heap} {mg : Str → Option Value} {f : Addr} {od an : Option Addr} {sl : Array (Option Value)} {oc kV dc pm cd ct : Value} (X : K.In h) (G : h.Ns mainGlobals mg)
    (a : PySem.W.nsIn K mainGlobals "_law_line" = some (some (.ref f))) (l : K.lookup f = some ⟨oc, od, .func (PySem.W.fnOf "_law_line" "_law_line" (defArgs (topL 18)) (defBody (topL 18)) (defScope (topL 18)) .none kV dc pm an cd ct), sl⟩)
    (c : PySem.W.codeIn K cd "_law_line" = true) (k : PySem.W.keepIn K (.ref f) = true) : ∃ f fd, Known K mg fd8 f fd := by
  refine ⟨f, _, fun_mk (st := topL 18) l c k, PySem.W.mg_of X G a, fun s us ws _ h1 h2 => ?_, fun t ht => ?_⟩
  · match us, ws, h1, h2 with
    | [_], [], _, _ => exact .of_eq rfl
  · exact absurd ht (by simp [fd8])
theorem kn9 {K : PySem.W.Frag} {h : Heap} {mg : Str → Option Value} {f : Addr} {od an : Option Addr} {sl : Array (Option Value)} {oc kV dc pm cd ct : Value} (X : K.In h) (G : h.Ns mainGlobals mg)
    (a : PySem.W.nsIn K mainGlobals "_law_is_integer" = some (some (.ref f))) (l : K.lookup f = some ⟨oc, od, .func (PySem.W.fnOf "_law_is_integer" "_law_is_integer" (defArgs (topL 15)) (defBody (topL 15)) (defScope (topL 15)) .none kV dc pm an cd ct), sl⟩)
    (c : PySem.W.codeIn K cd "_law_is_integer" = true) (k : PySem.W.keepIn K (.ref f) = true) : ∃ f fd, Known K mg fd9 f fd := by
  refine ⟨f, _, fun_mk (st := topL 15) l c k, PySem.W.mg_of X G a, fun s us ws _ h1 h2 => ?_, fun t ht => ?_⟩
  · match us, ws, h1, h2 with
    | [_], [], _, _ => exact .of_eq rfl
  · exact absurd ht (by simp [fd9])
theorem kn10 {K : PySem.W.Frag} {h : Heap} {mg : Str → Option Value} {f : Addr} {od an : Option Addr} {sl : Array (Option Value)} {oc kV dc pm cd ct : Value} (X : K.In h) (G : h.Ns mainGlobals mg)
    (a : PySem.W.nsIn K mainGlobals "_law_is_lot" = some (some (.ref f))) (l : K.lookup f = some ⟨oc, od, .func (PySem.W.fnOf "_law_is_lot" "_law_is_lot" (defArgs (topL 16)) (defBody (topL 16)) (defScope (topL 16)) .none kV dc pm an cd ct), sl⟩)
    (c : PySem.W.codeIn K cd "_law_is_lot" = true) (k : PySem.W.keepIn K (.ref f) = true) : ∃ f fd, Known K mg fd10 f fd := by
  refine ⟨f, _, fun_mk (st := topL 16) l c k, PySem.W.mg_of X G a, fun s us ws _ h1 h2 => ?_, fun t ht => ?_⟩
  · match us, ws, h1, h2 with
    | [_], [], _, _ => exact .of_eq rfl
  · exact absurd ht (by simp [fd10])
theorem kn11 {K : PySem.W.Frag} {h : Heap} {mg : Str → Option Value} {f : Addr} {od an : Option Addr} {sl : Array (Option Value)} {oc kV dc pm cd ct : Value} (X : K.In h) (G : h.Ns mainGlobals mg)
    (a : PySem.W.nsIn K mainGlobals "_law_due" = some (some (.ref f))) (l : K.lookup f = some ⟨oc, od, .func (PySem.W.fnOf "_law_due" "_law_due" (defArgs (topL 17)) (defBody (topL 17)) (defScope (topL 17)) .none kV dc pm an cd ct), sl⟩)
    (c : PySem.W.codeIn K cd "_law_due" = true) (k : PySem.W.keepIn K (.ref f) = true) : ∃ f fd, Known K mg fd11 f fd := by
  refine ⟨f, _, fun_mk (st := topL 17) l c k, PySem.W.mg_of X G a, fun s us ws _ h1 h2 => ?_, fun t ht => ?_⟩
  · match us, ws, h1, h2 with
    | [_], [], _, _ => exact .of_eq rfl
  · exact absurd ht (by simp [fd11])
theorem kn12 {K : PySem.W.Frag} {h : Heap} {mg : Str → Option Value} {f : Addr} {od an : Option Addr} {sl : Array (Option Value)} {oc kV dc pm cd ct : Value} (X : K.In h) (G : h.Ns mainGlobals mg)
    (a : PySem.W.nsIn K mainGlobals "_law_odd" = some (some (.ref f))) (l : K.lookup f = some ⟨oc, od, .func (PySem.W.fnOf "_law_odd" "_law_odd" (defArgs (topL 19)) (defBody (topL 19)) (defScope (topL 19)) .none kV dc pm an cd ct), sl⟩)
    (c : PySem.W.codeIn K cd "_law_odd" = true) (k : PySem.W.keepIn K (.ref f) = true) : ∃ f fd, Known K mg fd12 f fd := by
  refine ⟨f, _, fun_mk (st := topL 19) l c k, PySem.W.mg_of X G a, fun s us ws _ h1 h2 => ?_, fun t ht => ?_⟩
  · match us, ws, h1, h2 with
    | [_, _], [], _, _ => exact .of_eq rfl
  · exact absurd ht (by simp [fd12])
theorem kn13 {K : PySem.W.Frag} {h : Heap} {mg : Str → Option Value} {f : Addr} {od an : Option Addr} {sl : Array (Option Value)} {oc kV dc pm cd ct : Value} (X : K.In h) (G : h.Ns mainGlobals mg)
    (a : PySem.W.nsIn K mainGlobals "law" = some (some (.ref f))) (l : K.lookup f = some ⟨oc, od, .func (PySem.W.fnOf "law" "law" (defArgs (topL 20)) (defBody (topL 20)) (defScope (topL 20)) .none kV dc pm an cd ct), sl⟩)
    (c : PySem.W.codeIn K cd "law" = true) (k : PySem.W.keepIn K (.ref f) = true) : ∃ f fd, Known K mg fd13 f fd := by
  refine ⟨f, _, fun_mk (st := topL 20) l c k, PySem.W.mg_of X G a, fun s us ws _ h1 h2 => ?_, fun t ht => ?_⟩
  · match us, ws, h1, h2 with
    | [_], [], _, _ => exact .of_eq rfl
  · exact absurd ht (by simp [fd13])
theorem all_known {K : PySem.W.Frag} {h : Heap} {mg : Str → Option Value} (X : K.In h) (G : h.Ns mainGlobals mg)
    (k0 : ∃ f fd, Known K mg fd0 f fd)
    (k1 : ∃ f fd, Known K mg fd1 f fd)
    (k2 : ∃ f fd, Known K mg fd2 f fd)
    (k3 : ∃ f fd, Known K mg fd3 f fd)
    (k4 : ∃ f fd, Known K mg fd4 f fd)
    (k5 : ∃ f fd, Known K mg fd5 f fd)
    (k6 : ∃ f fd, Known K mg fd6 f fd)
    (k7 : ∃ f fd, Known K mg fd7 f fd)
    (k8 : ∃ f fd, Known K mg fd8 f fd)
    (k9 : ∃ f fd, Known K mg fd9 f fd)
    (k10 : ∃ f fd, Known K mg fd10 f fd)
    (k11 : ∃ f fd, Known K mg fd11 f fd)
    (k12 : ∃ f fd, Known K mg fd12 f fd)
    (k13 : ∃ f fd, Known K mg fd13 f fd)
    (z0 : PySem.W.nsIn K mainGlobals "len" = some none)
    (z1 : PySem.W.nsIn K mainGlobals "sum" = some none)
    (z2 : PySem.W.nsIn K mainGlobals "isinstance" = some none)
    (z3 : PySem.W.nsIn K mainGlobals "int" = some none)
    (z4 : PySem.W.nsIn K mainGlobals "bool" = some none)
    (z5 : PySem.W.nsIn K mainGlobals "tuple" = some none)
    (z6 : PySem.W.nsIn K mainGlobals "enumerate" = some none)
    (z7 : PySem.W.nsIn K mainGlobals "range" = some none)
    (z8 : PySem.W.nsIn K mainGlobals "sorted" = some none)
    (z9 : PySem.W.nsIn K mainGlobals "set" = some none)
    (z10 : PySem.W.nsIn K mainGlobals "list" = some none)
    (z11 : PySem.W.nsIn K mainGlobals "repr" = some none)
    (q0 : GlbOk K mg "MAX_BUTTON" (.int 99))
    (q1 : GlbOk K mg "MAX_LOT" (.int 100))
    (q2 : GlbOk K mg "MAX_LINES" (.int 12))
    : (∀ z ∈ cfg.bl, mg z = none) ∧ ((∀ g ∈ cfg.gl, GlbOk K mg g.1 g.2) ∧ ∀ g ∈ cfg.im, mg g.1 = some (.builtin g.2)) ∧ (∀ (c : Nat) (x : XI), cfg.xs[c]? = some x → ∃ Ca, XCls K mg cfg.xn x Ca) ∧ ∀ g ∈ prg, ∃ f fd, Known K mg g f fd := by
  refine ⟨fun z hz => ?_, ⟨fun g hg => ?_, fun g hg => ?_⟩, fun c x hx => ?_, fun g hg => ?_⟩
  · simp only [cfg, List.mem_cons, List.not_mem_nil, or_false] at hz
    rcases hz with rfl | rfl | rfl | rfl | rfl | rfl | rfl | rfl | rfl | rfl | rfl | rfl
    · exact PySem.W.mg_none_of X G z0
    · exact PySem.W.mg_none_of X G z1
    · exact PySem.W.mg_none_of X G z2
    · exact PySem.W.mg_none_of X G z3
    · exact PySem.W.mg_none_of X G z4
    · exact PySem.W.mg_none_of X G z5
    · exact PySem.W.mg_none_of X G z6
    · exact PySem.W.mg_none_of X G z7
    · exact PySem.W.mg_none_of X G z8
    · exact PySem.W.mg_none_of X G z9
    · exact PySem.W.mg_none_of X G z10
    · exact PySem.W.mg_none_of X G z11
  · simp only [cfg, List.mem_cons, List.not_mem_nil, or_false] at hg
    rcases hg with rfl | rfl | rfl
    · exact q0
    · exact q1
    · exact q2
  · simp only [cfg, List.mem_cons, List.not_mem_nil, or_false] at hg
  · simp only [cfg] at hx
    match c, hx with
    | c, hx => simp at hx
  · simp only [prg, List.mem_cons, List.not_mem_nil, or_false] at hg
    rcases hg with rfl | rfl | rfl | rfl | rfl | rfl | rfl | rfl | rfl | rfl | rfl | rfl | rfl | rfl
    · exact k0
    · exact k1
    · exact k2
    · exact k3
    · exact k4
    · exact k5
    · exact k6
    · exact k7
    · exact k8
    · exact k9
    · exact k10
    · exact k11
    · exact k12
    · exact k13
end
end Lw

-- text UrnS
set_option Elab.async false
set_option linter.all false
set_option maxRecDepth 1000000
set_option maxHeartbeats 4000000
namespace Lw
open PySem Py
local macro_rules | `(tactic| simp_wf) => `(tactic| simp (config := { dsimp := false, implicitDefEqProofs := false, maxSteps := 1000000 }) only [↓cD0, ↓xD0, ↓cD1, ↓xD1, ↓cD2, ↓xD2, ↓cD3, ↓xD3, ↓cD4, ↓xD4, ↓cD5, ↓xD5, ↓cD6, ↓xD6, ↓cD7, ↓xD7, ↓cD8, ↓xD8, ↓cD9, ↓xD9, ↓cD10, ↓xD10, ↓cD11, ↓xD11, ↓cD12, ↓xD12, ↓cD13, ↓xD13, ↓E_var, ↓E_esc, ↓E_cst, ↓E_op, ↓E_tup, ↓E_im, ↓E_ce, ↓E_call, ↓E_callK, ↓E_pop, ↓E_popi, ↓E_popc, ↓E_app, ↓E_ext, ↓E_appc, ↓E_ite, ↓E_and2, ↓E_or2, ↓E_not, ↓E_chain, ↓E_cut, ↓E_glob, ↓E_popci, ↓E_getd, ↓E_geto, ↓E_star, ↓E_trg, ↓F_lrg, ↓F_dictP, ↓F_sset, ↓F_sortK, ↓S_rse,
  ↓T_not, ↓T_and2, ↓T_or2, ↓T_var, ↓T_cst, ↓T_tt, ↓T_op, ↓T_call, ↓T_callK, ↓T_chain, ↓A_nil, ↓A_cons, ↓A_own, ↓F_disp, ↓F_fop, ↓F_dnk, ↓F_cut, ↓F_lc, ↓F_lcO, ↓I_ex, ↓I_rng1, ↓I_rng2, ↓I_rng3, ↓I_enum, ↓I_zip, ↓I_rev, ↓G_nm, ↓G_row, ↓Gs_nil, ↓Gs_cons,
  ↓S_asg, ↓S_own, ↓EF_nil, ↓EF_e, ↓EF_f, ↓SL_nil, ↓SL_cons, ↓S_par, ↓S_sti, ↓S_stc, ↓S_exp, ↓S_ret, ↓S_retN, ↓S_ife, ↓S_fr, ↓S_whl, ↓S_brk, ↓S_cont, ↓S_pass, ↓S_nil, ↓S_cons, ↓aT_nx, ↓aT_rt, ↓aT_bk, ↓aT_ct, ↓oN_nx, ↓oR_nx, ↓oR_rt, ↓oR_bk, ↓oR_ct, ↓aE_rt, ↓aE_nx, ↓tS_nx, ↓tS_ct, ↓tS_bk, ↓tS_rt,
  ↓lV_0, ↓lV_s, ↓lO_0, ↓lO_s, ↓lZ_0, ↓lZ_s, ↓lM_c, ↓lC_0, ↓lC_s, ↓lSn_nil, ↓lSn_ref, ↓lSn_non, ↓lSn_bl, ↓lSn_int, ↓lSn_str, ↓lSn_tup, ↓lSn_lst, ↓lSn_scr, ↓lSn_dk, ↓lSn_dt, ↓lSn_own, ↓lSn_tV, ↓lSn_wyV, ↓idx_tV0, ↓idx_tV1, ↓lVs_nil, ↓lVs_cons, ↓lBl_bl, ↓wpI_t, ↓wpI_f, ↓wpI_n, ↓wpI_d, wpI_same, tX_nx, tX_rt, tX_bk, tX_ct, 
  both, lL_some, lL_none, lL_map, lL_bind, lL_ite, lX_x, lN_c,
  startE, wipeE, SameX_iff, List.map_cons, List.map_nil, List.cons_append, List.nil_append, List.length_cons, List.length_nil, List.replicate_succ, List.replicate_zero, List.getElem?_cons_zero, List.getElem?_cons_succ, List.getElem?_nil, List.set_cons_zero, List.set_cons_succ, Nat.reduceAdd, Nat.reduceSub, Nat.reduceLeDiff, Nat.reduceLT, Int.reduceLT, Int.reduceLE, sz_eq,
  Option.map_some, Option.map_none, Option.bind_some, Option.bind_none, Option.getD_some, rev_t0, rev_t1, slcT_hi, slcT_lo, cutLast, atLast, tupL, tupT, opV, opF, one_c, two_c, three_c, oneF_c, twoF_c, arI, mulV_i, mulV_t, addV, intV, unI, lenV, items?, lstItems?, idxV, atM_0, atM_1, atM_2, lstOne, enumT, enumL, revL, revItL, idxDV, key?, cmpV, cmpB, truthV, Cn.mv, refN, lC, lX?, intD?, permA, seqI_tup, seqI_lst, seqI_scr, items_seq, eqD_int, eqD_bl, eqD_lnil, eqD_nn,
  decide_eq_true_eq, decide_true, decide_false, Bool.not_true, Bool.not_false, true_and, and_true, false_and, and_false, true_implies, false_implies, implies_true, not_true_eq_false, not_false_eq_true, and_self])
local macro_rules | `(tactic| exists $ts:term,*) => `(tactic| simp (config := { dsimp := false, implicitDefEqProofs := false, maxSteps := 1000000 }) only [$[$ts:term],*, ↓cD0, ↓xD0, ↓cD1, ↓xD1, ↓cD2, ↓xD2, ↓cD3, ↓xD3, ↓cD4, ↓xD4, ↓cD5, ↓xD5, ↓cD6, ↓xD6, ↓cD7, ↓xD7, ↓cD8, ↓xD8, ↓cD9, ↓xD9, ↓cD10, ↓xD10, ↓cD11, ↓xD11, ↓cD12, ↓xD12, ↓cD13, ↓xD13, ↓E_var, ↓E_esc, ↓E_cst, ↓E_op, ↓E_tup, ↓E_im, ↓E_ce, ↓E_call, ↓E_callK, ↓E_pop, ↓E_popi, ↓E_popc, ↓E_app, ↓E_ext, ↓E_appc, ↓E_ite, ↓E_and2, ↓E_or2, ↓E_not, ↓E_chain, ↓E_cut, ↓E_glob, ↓E_popci, ↓E_getd, ↓E_geto, ↓E_star, ↓E_trg, ↓F_lrg, ↓F_dictP, ↓F_sset, ↓F_sortK, ↓S_rse,
  ↓T_not, ↓T_and2, ↓T_or2, ↓T_var, ↓T_cst, ↓T_tt, ↓T_op, ↓T_call, ↓T_callK, ↓T_chain, ↓A_nil, ↓A_cons, ↓A_own, ↓F_disp, ↓F_fop, ↓F_dnk, ↓F_cut, ↓F_lc, ↓F_lcO, ↓I_ex, ↓I_rng1, ↓I_rng2, ↓I_rng3, ↓I_enum, ↓I_zip, ↓I_rev, ↓G_nm, ↓G_row, ↓Gs_nil, ↓Gs_cons,
  ↓S_asg, ↓S_own, ↓EF_nil, ↓EF_e, ↓EF_f, ↓SL_nil, ↓SL_cons, ↓S_par, ↓S_sti, ↓S_stc, ↓S_exp, ↓S_ret, ↓S_retN, ↓S_ife, ↓S_fr, ↓S_whl, ↓S_brk, ↓S_cont, ↓S_pass, ↓S_nil, ↓S_cons, ↓aT_nx, ↓aT_rt, ↓aT_bk, ↓aT_ct, ↓oN_nx, ↓oR_nx, ↓oR_rt, ↓oR_bk, ↓oR_ct, ↓aE_rt, ↓aE_nx, ↓tS_nx, ↓tS_ct, ↓tS_bk, ↓tS_rt,
  ↓lV_0, ↓lV_s, ↓lO_0, ↓lO_s, ↓lZ_0, ↓lZ_s, ↓lM_c, ↓lC_0, ↓lC_s, ↓lSn_nil, ↓lSn_ref, ↓lSn_non, ↓lSn_bl, ↓lSn_int, ↓lSn_str, ↓lSn_tup, ↓lSn_lst, ↓lSn_scr, ↓lSn_dk, ↓lSn_dt, ↓lSn_own, ↓lSn_tV, ↓lSn_wyV, ↓idx_tV0, ↓idx_tV1, ↓lVs_nil, ↓lVs_cons, ↓lBl_bl, ↓wpI_t, ↓wpI_f, ↓wpI_n, ↓wpI_d, wpI_same, tX_nx, tX_rt, tX_bk, tX_ct, 
  both, lL_some, lL_none, lL_map, lL_bind, lL_ite, lX_x, lN_c,
  startE, wipeE, SameX_iff, List.map_cons, List.map_nil, List.cons_append, List.nil_append, List.length_cons, List.length_nil, List.replicate_succ, List.replicate_zero, List.getElem?_cons_zero, List.getElem?_cons_succ, List.getElem?_nil, List.set_cons_zero, List.set_cons_succ, Nat.reduceAdd, Nat.reduceSub, Nat.reduceLeDiff, Nat.reduceLT, Int.reduceLT, Int.reduceLE, sz_eq,
  Option.map_some, Option.map_none, Option.bind_some, Option.bind_none, Option.getD_some, rev_t0, rev_t1, slcT_hi, slcT_lo, cutLast, atLast, tupL, tupT, opV, opF, one_c, two_c, three_c, oneF_c, twoF_c, arI, mulV_i, mulV_t, addV, intV, unI, lenV, items?, lstItems?, idxV, atM_0, atM_1, atM_2, lstOne, enumT, enumL, revL, revItL, idxDV, key?, cmpV, cmpB, truthV, Cn.mv, refN, lC, lX?, intD?, permA, seqI_tup, seqI_lst, seqI_scr, items_seq, eqD_int, eqD_bl, eqD_lnil, eqD_nn,
  decide_eq_true_eq, decide_true, decide_false, Bool.not_true, Bool.not_false, true_and, and_true, false_and, and_false, true_implies, false_implies, implies_true, not_true_eq_false, not_false_eq_true, and_self])
local macro_rules | `(tactic| bv_omega) => `(tactic| simp (config := { dsimp := false, implicitDefEqProofs := false, maxSteps := 1000000 }) only [↓cD0, ↓xD0, ↓cD1, ↓xD1, ↓cD2, ↓xD2, ↓cD3, ↓xD3, ↓cD4, ↓xD4, ↓cD5, ↓xD5, ↓cD6, ↓xD6, ↓cD7, ↓xD7, ↓cD8, ↓xD8, ↓cD9, ↓xD9, ↓cD10, ↓xD10, ↓cD11, ↓xD11, ↓cD12, ↓xD12, ↓cD13, ↓xD13, ↓E_var, ↓E_esc, ↓E_cst, ↓E_op, ↓E_tup, ↓E_im, ↓E_ce, ↓E_call, ↓E_callK, ↓E_pop, ↓E_popi, ↓E_popc, ↓E_app, ↓E_ext, ↓E_appc, ↓E_ite, ↓E_and2, ↓E_or2, ↓E_not, ↓E_chain, ↓E_cut, ↓E_glob, ↓E_popci, ↓E_getd, ↓E_geto, ↓E_star, ↓E_trg, ↓F_lrg, ↓F_dictP, ↓F_sset, ↓F_sortK, ↓S_rse,
  ↓T_not, ↓T_and2, ↓T_or2, ↓T_var, ↓T_cst, ↓T_tt, ↓T_op, ↓T_call, ↓T_callK, ↓T_chain, ↓A_nil, ↓A_cons, ↓A_own, ↓F_disp, ↓F_fop, ↓F_dnk, ↓F_cut, ↓F_lc, ↓F_lcO, ↓I_ex, ↓I_rng1, ↓I_rng2, ↓I_rng3, ↓I_enum, ↓I_zip, ↓I_rev, ↓G_nm, ↓G_row, ↓Gs_nil, ↓Gs_cons,
  ↓S_asg, ↓S_own, ↓EF_nil, ↓EF_e, ↓EF_f, ↓SL_nil, ↓SL_cons, ↓S_par, ↓S_sti, ↓S_stc, ↓S_exp, ↓S_ret, ↓S_retN, ↓S_fr, ↓S_whl, ↓S_brk, ↓S_cont, ↓S_pass, ↓S_nil, ↓S_cons, ↓aT_nx, ↓aT_rt, ↓aT_bk, ↓aT_ct, ↓oN_nx, ↓oR_nx, ↓oR_rt, ↓oR_bk, ↓oR_ct, ↓aE_rt, ↓aE_nx, ↓tS_nx, ↓tS_ct, ↓tS_bk, ↓tS_rt,
  ↓lV_0, ↓lV_s, ↓lO_0, ↓lO_s, ↓lZ_0, ↓lZ_s, ↓lM_c, ↓lC_0, ↓lC_s, ↓lSn_nil, ↓lSn_ref, ↓lSn_non, ↓lSn_bl, ↓lSn_int, ↓lSn_str, ↓lSn_tup, ↓lSn_lst, ↓lSn_scr, ↓lSn_dk, ↓lSn_dt, ↓lSn_own, ↓lSn_tV, ↓lSn_wyV, ↓idx_tV0, ↓idx_tV1, ↓lVs_nil, ↓lVs_cons, ↓lBl_bl, ↓wpI_t, ↓wpI_f, ↓wpI_n, ↓wpI_d, wpI_same, tX_nx, tX_rt, tX_bk, tX_ct, 
  both, lL_some, lL_none, lL_map, lL_bind, lL_ite, lX_x, lN_c,
  startE, wipeE, SameX_iff, List.map_cons, List.map_nil, List.cons_append, List.nil_append, List.length_cons, List.length_nil, List.replicate_succ, List.replicate_zero, List.getElem?_cons_zero, List.getElem?_cons_succ, List.getElem?_nil, List.set_cons_zero, List.set_cons_succ, Nat.reduceAdd, Nat.reduceSub, Nat.reduceLeDiff, Nat.reduceLT, Int.reduceLT, Int.reduceLE, sz_eq,
  Option.map_some, Option.map_none, Option.bind_some, Option.bind_none, Option.getD_some, rev_t0, rev_t1, slcT_hi, slcT_lo, cutLast, atLast, tupL, tupT, opV, opF, one_c, two_c, three_c, oneF_c, twoF_c, arI, mulV_i, mulV_t, addV, intV, unI, lenV, items?, lstItems?, idxV, atM_0, atM_1, atM_2, lstOne, enumT, enumL, revL, revItL, idxDV, key?, cmpV, cmpB, truthV, Cn.mv, refN, lC, lX?, intD?, permA, seqI_tup, seqI_lst, seqI_scr, items_seq, eqD_int, eqD_bl, eqD_lnil, eqD_nn,
  decide_eq_true_eq, decide_true, decide_false, Bool.not_true, Bool.not_false, true_and, and_true, false_and, and_false, true_implies, false_implies, implies_true, not_true_eq_false, not_false_eq_true, and_self])
local macro_rules | `(tactic| array_get_dec) => `(tactic| simp (config := { dsimp := false, implicitDefEqProofs := false, maxSteps := 1000000 }) only [↓cD0, ↓xD0, ↓cD1, ↓xD1, ↓cD2, ↓xD2, ↓cD3, ↓xD3, ↓cD4, ↓xD4, ↓cD5, ↓xD5, ↓cD6, ↓xD6, ↓cD7, ↓xD7, ↓cD8, ↓xD8, ↓cD9, ↓xD9, ↓cD10, ↓xD10, ↓cD11, ↓xD11, ↓cD12, ↓xD12, ↓cD13, ↓xD13, ↓E_var, ↓E_esc, ↓E_cst, ↓E_op, ↓E_tup, ↓E_im, ↓E_ce, ↓E_call, ↓E_callK, ↓E_pop, ↓E_popi, ↓E_popc, ↓E_app, ↓E_ext, ↓E_appc, ↓E_ite, ↓E_and2, ↓E_or2, ↓E_not, ↓E_chain, ↓E_cut, ↓E_glob, ↓E_popci, ↓E_getd, ↓E_geto, ↓E_star, ↓E_trg, ↓F_lrg, ↓F_dictP, ↓F_sset, ↓F_sortK, ↓S_rse,
  ↓T_not, ↓T_and2, ↓T_or2, ↓T_var, ↓T_cst, ↓T_tt, ↓T_op, ↓T_call, ↓T_callK, ↓T_chain, ↓A_nil, ↓A_cons, ↓A_own, ↓F_disp, ↓F_fop, ↓F_dnk, ↓F_cut, ↓F_lc, ↓F_lcO, ↓I_ex, ↓I_rng1, ↓I_rng2, ↓I_rng3, ↓I_enum, ↓I_zip, ↓I_rev, ↓G_nm, ↓G_row, ↓Gs_nil, ↓Gs_cons,
  ↓S_asg, ↓S_own, ↓EF_nil, ↓EF_e, ↓EF_f, ↓SL_nil, ↓SL_cons, ↓S_par, ↓S_sti, ↓S_stc, ↓S_exp, ↓S_ret, ↓S_retN, ↓S_ife, ↓S_fr, ↓S_whl, ↓S_brk, ↓S_cont, ↓S_pass, ↓S_nil, ↓aT_nx, ↓aT_rt, ↓aT_bk, ↓aT_ct, ↓oN_nx, ↓oR_nx, ↓oR_rt, ↓oR_bk, ↓oR_ct, ↓aE_rt, ↓aE_nx, ↓tS_nx, ↓tS_ct, ↓tS_bk, ↓tS_rt,
  ↓lV_0, ↓lV_s, ↓lO_0, ↓lO_s, ↓lZ_0, ↓lZ_s, ↓lM_c, ↓lC_0, ↓lC_s, ↓lSn_nil, ↓lSn_ref, ↓lSn_non, ↓lSn_bl, ↓lSn_int, ↓lSn_str, ↓lSn_tup, ↓lSn_lst, ↓lSn_scr, ↓lSn_dk, ↓lSn_dt, ↓lSn_own, ↓lSn_tV, ↓lSn_wyV, ↓idx_tV0, ↓idx_tV1, ↓lVs_nil, ↓lVs_cons, ↓lBl_bl, ↓wpI_t, ↓wpI_f, ↓wpI_n, ↓wpI_d, wpI_same, tX_nx, tX_rt, tX_bk, tX_ct, 
  both, lL_some, lL_none, lL_map, lL_bind, lL_ite, lX_x, lN_c,
  startE, wipeE, SameX_iff, List.map_cons, List.map_nil, List.cons_append, List.nil_append, List.length_cons, List.length_nil, List.replicate_succ, List.replicate_zero, List.getElem?_cons_zero, List.getElem?_cons_succ, List.getElem?_nil, List.set_cons_zero, List.set_cons_succ, Nat.reduceAdd, Nat.reduceSub, Nat.reduceLeDiff, Nat.reduceLT, Int.reduceLT, Int.reduceLE, sz_eq,
  Option.map_some, Option.map_none, Option.bind_some, Option.bind_none, Option.getD_some, rev_t0, rev_t1, slcT_hi, slcT_lo, cutLast, atLast, tupL, tupT, opV, opF, one_c, two_c, three_c, oneF_c, twoF_c, arI, mulV_i, mulV_t, addV, intV, unI, lenV, items?, lstItems?, idxV, atM_0, atM_1, atM_2, lstOne, enumT, enumL, revL, revItL, idxDV, key?, cmpV, cmpB, truthV, Cn.mv, refN, lC, lX?, intD?, permA, seqI_tup, seqI_lst, seqI_scr, items_seq, eqD_int, eqD_bl, eqD_lnil, eqD_nn,
  decide_eq_true_eq, decide_true, decide_false, Bool.not_true, Bool.not_false, true_and, and_true, false_and, and_false, true_implies, false_implies, implies_true, not_true_eq_false, not_false_eq_true, and_self])


structure Dk where
  gr : List Int
  fl : List Int
  sm : Int
  tn : Int
  ok : gr.length ≤ 63
  nf : 0 < fl.length
  lf : fl.length ≤ 1000
def Dk.mh (δ : Dk) : Option (List Cn) := some [.l (δ.gr.map .int), .l [.ref 0, .lst (δ.fl.map .int), .int δ.sm, .int δ.tn]]
theorem mulL {i : Int} (h : -(2 ^ 64) < i ∧ i < 2 ^ 64) (j : Int) : mulOk i j = true := mulOk_of (.inl h)
theorem mulR {j : Int} (h : -(2 ^ 64) < j ∧ j < 2 ^ 64) (i : Int) : mulOk i j = true := mulOk_of (.inr h)
theorem log_of {m : Int} (h : 0 ≤ m) (h2 : m < 2147483648) : (m.natAbs.log2 < 9000) = True := by
  simp only [eq_iff_iff, iff_true]
  by_cases h0 : m = 0
  · subst h0; decide
  have : m.natAbs.log2 < 31 := (Nat.log2_lt (by omega)).mpr (by omega)
  omega
theorem put3 (x y z w v : MV) : putV (.l [x, y, z, w]) (.int 3) v = some (.l [x, y, z, v]) := rfl
theorem at3 (x y z w : MV) : atM [x, y, z, w] 3 = some w := rfl
theorem drawX {k : Nat} (hk : 1 ≤ k) (δ : Dk) {m : Int} (hm1 : 1 ≤ m) (hm : m < 2147483648) : lS (prg.map (·.fd)) k 6 [.ref 1, .int m] δ.mh (fun x mh => ∃ (r : Int) (ε : Dk), x = .int r ∧ mh = ε.mh ∧ 0 ≤ r ∧ r < m) .mk := by
  refine lS.go 0 gD6 hk rfl fun k _ => ?_
  obtain ⟨g, fl, sm, tn, hg, hf, hfl⟩ := δ
  simp only [Dk.mh]
  have h0m : (0 : Int) < m := by omega
  have hlog := log_of (m := m) (by omega) hm
  cases hd : g.getLast? with
  | some x =>
    have gne : (g = []) = False := by simp; rintro rfl; cases hd
    have pp : popV (.l (g.map .int)) = some (.int x, .l (g.dropLast.map .int)) := by
      simp [popV, List.getLast?_map, hd, List.map_dropLast]
    have hdl : ((g.dropLast.map MV.int).length < 16777216) = True := eq_true (by rw [List.length_map, List.length_dropLast]; omega)
    have hmap : g.dropLast.map MV.int ++ [MV.int (x / m)] = (g.dropLast ++ [x / m]).map MV.int := by simp
    have gl : 1 ≤ g.length := List.length_pos_iff.mpr (by rintro rfl; cases hd)
    by_cases hx : m ≤ x
    · exists gne, pp, hx, h0m, hlog, hdl, appV, hmap
      exact ⟨_, ⟨g.dropLast ++ [x / m], fl, sm, tn, by simp; omega, hf, hfl⟩, rfl, rfl, Int.emod_nonneg _ (by omega), Int.emod_lt_of_pos _ h0m⟩
    · exists gne, pp, hx, h0m, hlog, hdl, appV, hmap
      exact ⟨_, ⟨g.dropLast, fl, sm, tn, by simp; omega, hf, hfl⟩, rfl, rfl, Int.emod_nonneg _ (by omega), Int.emod_lt_of_pos _ h0m⟩
  | none =>
    have hd' : g = [] := List.getLast?_eq_none_iff.mp hd
    subst hd'
    have c1 := mulR (j := 48271) (by decide)
    have c2 := mulR (j := 69621) (by decide)
    have c3 := mulR (j := 2654435761) (by decide)
    have c4 := mulR (j := 362437) (by decide)
    have c5 := mulR (j := 40692) (by decide)
    have c6 := mulR (j := 65537) (by decide)
    have c7 : ∀ y : Int, mulOk (y % 4294967291) (y % 4294967291) = true := fun y => mulOk_of (.inl ⟨by have := Int.emod_nonneg y (show (4294967291 : Int) ≠ 0 by decide); omega, by have := Int.emod_lt_of_pos y (show (0 : Int) < 4294967291 by decide); omega⟩)
    have c8 : ((4096 : Int).natAbs.log2 < 9000) = True := log_of (by decide) (by decide)
    have hfp : (0 : Int) < (fl.length : Int) := by omega
    have c9 : (((fl.length : Int)).natAbs.log2 < 9000) = True := log_of (by omega) (by omega)
    have hat : atM (fl.map MV.int) ((tn + 1) % (fl.length : Int)) = some (.int (pickI fl ((tn + 1) % (fl.length : Int)))) := by
      have e0 := Int.emod_nonneg (tn + 1) (show (fl.length : Int) ≠ 0 by omega)
      have e1 := Int.emod_lt_of_pos (tn + 1) hfp
      rw [atM_pick e0 (by simpa using e1), pickA_ints e0 e1]
    exists List.map_nil, eqD_nn, put3, at3, List.length_map, hat, hfp, c1, c2, c3, c4, c5, c6, c7, c8, c9, h0m, hlog
    exact ⟨_, ⟨[], fl, sm, tn + 1, by simp, hf, hfl⟩, rfl, rfl, Int.emod_nonneg _ (by omega), Int.emod_lt_of_pos _ h0m⟩
theorem draw {k : Nat} (hk : 1 ≤ k) (δ : Dk) {m : Int} (hm1 : 1 ≤ m) (hm : m < 2147483648) : ∃ (r : Nat) (ε : Dk), runP (prg.map (·.fd)) k 6 [.ref 1, .int m] δ.mh = .ok (.int r) ε.mh ∧ (r : Int) < m := by
  obtain ⟨x, mh, e, r, ε, rfl, rfl, h0, h⟩ := (drawX hk δ hm1 hm).ex
  obtain ⟨n, rfl⟩ := Int.eq_ofNat_of_zero_le h0
  exact ⟨n, ε, e, h⟩
theorem drawN {k : Nat} (hk : 1 ≤ k) (δ : Dk) {m : Nat} (h1 : 1 ≤ m) (hm : m < 2147483648) : ∃ (r : Nat) (ε : Dk), runP (prg.map (·.fd)) k 6 [.ref 1, .int m] δ.mh = .ok (.int r) ε.mh ∧ r < m := by
  obtain ⟨r, ε, e, h2⟩ := draw hk δ (m := m) (by omega) (by omega)
  exact ⟨r, ε, e, by omega⟩
theorem pick {k : Nat} (hk : 2 ≤ k) (δ : Dk) {α : Type} {f : α → MV} {xs : List α} (h0 : xs ≠ []) (hx : xs.length < 1000000) : ∃ x ∈ xs, ∃ ε : Dk, runP (prg.map (·.fd)) k 7 [.ref 1, .lst (xs.map f)] δ.mh = .ok (f x) ε.mh := by
  have key : lS (prg.map (·.fd)) k 7 [.ref 1, .lst (xs.map f)] δ.mh (fun x mh => ∃ y ∈ xs, ∃ ε : Dk, x = f y ∧ mh = ε.mh) .mk := by
    refine lS.go 1 gD7 hk rfl fun k hk => ?_
    have hl := List.length_pos_iff.mpr h0
    obtain ⟨r, ε, e, hr⟩ := drawN hk δ (m := xs.length) hl (by omega)
    have ha : atM (xs.map f) (r : Int) = some (f xs[r]) := by
      rw [atM_nat (by simpa using hr)]; simp
    exists List.length_map, lS_of e, ha
    exact ⟨xs[r], List.getElem_mem hr, ε, rfl, rfl⟩
  obtain ⟨x, mh, e, y, hy, ε, rfl, rfl⟩ := key.ex
  exact ⟨y, hy, ε, e⟩
theorem stock {k : Nat} (hk : 1 ≤ k) {ns : List Int} (hn : ns.length ≤ 63) : ∃ ε : Dk, runP (prg.map (·.fd)) k 0 [.scr (ns.map .int)] (some []) = .ok (.ref 1) ε.mh := by
  have key : lS (prg.map (·.fd)) k 0 [.scr (ns.map .int)] (some []) (fun x mh => x = .ref 1 ∧ ∃ ε : Dk, mh = ε.mh) .mk := by
    refine lS.go 0 gD0 hk rfl fun k hk => ?_
    have hcut : cutM (ns.map .int) none (some 63) = (ns.take 63).map .int := by
      have := cutM_hi (ns.map .int) 63
      rw [List.map_take]; exact this
    have hp : powOk 10 15 = true := by decide
    have c1 := mulL (i := 2) (by decide)
    have c2 := mulL (i := -2) (by decide)
    have h63 : (ns.take 63).length ≤ 63 := by rw [List.length_take]; omega
    array_get_dec
    rw [S_cons]
    refine q_mid (fun t => ∃ xs : List Int, xs.length ≤ 63 ∧ t = ⟨[some (.v (.scr (ns.map .int))), some (.v (.lst (xs.map .int))), none], some []⟩) ?_ ?_
    · exists slcC, hiC, hcut
      refine W_cells' MV.int (fun done acc mh => mh = some [] ∧ ∃ xs : List Int, acc = xs.map .int ∧ xs.length = done.length) (ns.take 63) (by rw [sz_eq]; omega) (by rfl) ⟨rfl, [], rfl, rfl⟩ ?_ ?_
      · rintro done z rest acc mh hd ⟨rfl, xs, rfl, hl⟩
        exists c1, c2
        exact ⟨fun _ => ⟨xs ++ [_], by rw [List.map_append]; rfl, by simp [hl]⟩, fun _ => ⟨xs ++ [_], by rw [List.map_append]; rfl, by simp [hl]⟩⟩
      · rintro ys mh ⟨rfl, xs, rfl, hl⟩
        exists oN_nx
        exact ⟨xs, by omega, rfl⟩
    rintro t ⟨xs, hx, rfl⟩
    simp_wf
    refine W_pure' MV.int (fun x => decide (10 ^ Int.toNat 15 ≤ x)) (fun x => .int x) xs (by rw [sz_eq]; omega) (by rfl) ?_ ?_
    · intro z hz
      exists hp
    · have hcat : ∀ N : Int, catC (.lst (xs.map .int)) (.lst [.int N]) = some (.l ((xs ++ [N]).map .int)) := fun N => cat_ints (a := xs) (b := [N]) (by simp; omega)
      exists hp, List.length_map, hcat, sum_map_ints
      exact ⟨⟨xs.filter fun x => decide (10 ^ Int.toNat 15 ≤ x), xs ++ [_], xs.sum, 0, Nat.le_trans (List.length_filter_le ..) hx, by simp, by simp; omega⟩, rfl⟩
  obtain ⟨x, mh, e, rfl, ε, rfl⟩ := key.ex
  exact ⟨ε, e⟩
end Lw

-- text PutS
set_option Elab.async false
set_option linter.all false
set_option maxRecDepth 1000000
set_option maxHeartbeats 4000000
/-! ### a thing put at a way of a tree -/
namespace Py
open PySem
theorem toDs_of {α : Type} {f : α → MV} {g : α → PyData} : ∀ {xs : List α}, (∀ x ∈ xs, (f x).toD = some (g x)) → toDs (xs.map f) = some (xs.map g)
  | [], _ => rfl
  | x :: xs, h => by
    have h1 := h x List.mem_cons_self
    have h2 := toDs_of (xs := xs) fun y hy => h y (List.mem_cons_of_mem _ hy)
    simp [toDs, h1, h2]
inductive At' : Tr → List Nat → Tr → Prop where
  | nil (t : Tr) : At' t [] t
  | cons (k : Int) (a b : List Tr) (p : Tr) (v : List Nat) (u : Tr) : At' p v u → At' (.t k (a ++ p :: b)) (a.length :: v) u
theorem wlk_at (t : Tr) : ∀ w : List Nat, ∀ x ∈ t.wlk w, ∃ v, x.1 = w ++ v ∧ At' t v x.2 := by
  induction t using Tr.ind with
  | hb n =>
    intro w x hx
    rw [Tr.wlk_b] at hx
    simp only [List.mem_singleton] at hx
    subst hx
    exact ⟨[], by simp, .nil _⟩
  | ht k ps ih =>
    intro w x hx
    rw [Tr.wlk_t] at hx
    rcases List.mem_cons.mp hx with rfl | hx
    · exact ⟨[], by simp, .nil _⟩
    · obtain ⟨z, hz, hx⟩ := List.mem_flatMap.mp hx
      obtain ⟨v, e, h⟩ := ih z.2 (ixd_lt hz).2 _ x hx
      have hg := mem_ixd hz
      obtain ⟨hl, hg⟩ := List.getElem?_eq_some_iff.mp hg
      have hsp : ps = ps.take z.1 ++ z.2 :: ps.drop (z.1 + 1) := by
        rw [← hg, ← List.drop_eq_getElem_cons hl, List.take_append_drop]
      refine ⟨z.1 :: v, by rw [e]; simp, ?_⟩
      have := At'.cons k (ps.take z.1) (ps.drop (z.1 + 1)) z.2 v x.2 h
      rw [← hsp, List.length_take, show min z.1 ps.length = z.1 by omega] at this
      exact this
def Tr.put (X : Tr) : List Nat → Tr → Tr
  | [], _ => X
  | _ :: _, .b n => .b n
  | i :: v, .t k ps => .t k (ps.take i ++ (ps[i]?.map (Tr.put X v)).toList ++ ps.drop (i + 1))
theorem put_nil (X t : Tr) : Tr.put X [] t = X := by
  cases t <;> rw [Tr.put]
theorem put_cons (X : Tr) (k : Int) (a b : List Tr) (p : Tr) (v : List Nat) : Tr.put X (a.length :: v) (.t k (a ++ p :: b)) = .t k (a ++ Tr.put X v p :: b) := by
  rw [Tr.put]
  have h1 : (a ++ p :: b).take a.length = a := List.take_left
  have h2 : (a ++ p :: b)[a.length]? = some p := by rw [List.getElem?_append_right (Nat.le_refl _), Nat.sub_self]; rfl
  have h3 : (a ++ p :: b).drop (a.length + 1) = b := by
    rw [show a ++ p :: b = (a ++ [p]) ++ b by simp, show a.length + 1 = (a ++ [p]).length by simp, List.drop_left]
  rw [h1, h2, h3]
  simp
theorem At'.facts {t : Tr} {v : List Nat} {u : Tr} (h : At' t v u) {X : Tr} : (t.wf → u.wf) ∧ (t.wf → X.wf → (Tr.put X v t).wf) ∧ (Tr.put X v t).btn.length + u.btn.length = t.btn.length + X.btn.length ∧ (Tr.put X v t).dep ≤ max t.dep (v.length + X.dep) ∧ v.length + u.dep ≤ t.dep := by
  induction h with
  | nil t => rw [put_nil]; exact ⟨id, fun _ h => h, by omega, by simp; omega, by simp⟩
  | cons k a b p v u h ih =>
    obtain ⟨i1, i2, i3, i4, i5⟩ := ih
    rw [put_cons]
    refine ⟨fun hw => ?_, fun hw hx => ?_, ?_, ?_, ?_⟩
    · rw [Tr.wf_t] at hw
      exact i1 (hw.2.2 p (by simp))
    · rw [Tr.wf_t] at hw ⊢
      simp only [List.length_append, List.length_cons] at hw ⊢
      refine ⟨hw.1, hw.2.1, fun q hq => ?_⟩
      rcases List.mem_append.mp hq with hq | hq
      · exact hw.2.2 q (List.mem_append_left _ hq)
      · rcases List.mem_cons.mp hq with rfl | hq
        · exact i2 (hw.2.2 p (by simp)) hx
        · exact hw.2.2 q (List.mem_append_right _ (List.mem_cons_of_mem _ hq))
    · rw [Tr.btn_t, Tr.btn_t]
      simp only [List.flatMap_append, List.flatMap_cons, List.length_append]
      omega
    · have hD : ∀ q ∈ a ++ Tr.put X v p :: b, q.dep ≤ max (Tr.t k (a ++ p :: b)).dep ((v.length + 1) + X.dep) - 1 := fun q hq => by
        have hin : ∀ q ∈ a ++ p :: b, q.dep + 1 ≤ (Tr.t k (a ++ p :: b)).dep := fun q hq => Tr.dep_lt hq
        have hp := hin p (by simp)
        rcases List.mem_append.mp hq with hq | hq
        · have := hin q (List.mem_append_left _ hq); omega
        · rcases List.mem_cons.mp hq with rfl | hq
          · omega
          · have := hin q (List.mem_append_right _ (List.mem_cons_of_mem _ hq)); omega
      have := Tr.dep_of (k := k) hD
      have h1 : 1 ≤ (Tr.t k (a ++ p :: b)).dep := by rw [Tr.dep_t]; omega
      simp only [List.length_cons]
      omega
    · have := Tr.dep_lt (k := k) (ps := a ++ p :: b) (p := p) (by simp)
      simp only [List.length_cons]
      omega
theorem eqD_wy (v : List Nat) : eqD (wyV v) (.tup []) = some (decide (v = [])) := by
  have hd : toDs (v.map fun i => MV.int (i : Nat)) = some ((v.map fun i : Nat => ((i : Nat) : Int)).map PyData.int) := by
    rw [toDs_of (g := fun i : Nat => PyData.int (i : Nat)) fun x _ => rfl, List.map_map]; rfl
  have h0 : okD (.tuple []) = true := okD_tints []
  simp only [eqD, wyV, MV.toD, hd, toDs, Option.map_some, okD_tints, h0]
  cases v <;> rfl
/-- the part at a way, told by the law -/
def isI : MV → Bool
  | .int _ => true
  | _ => false
def isB : MV → Bool
  | .bl _ => true
  | _ => false
def okV (x : MV) : Bool := (tyN x).isSome
theorem okV_isi {x : MV} (h : okV x = true) : isiV "int" x = some (.bl (isI x || isB x)) ∧ isiV "bool" x = some (.bl (isB x)) ∧ isRef x = false := by
  cases x <;> first | exact ⟨rfl, rfl, rfl⟩ | (simp [okV, tyN] at h)
def isTp : MV → Bool
  | .tup _ => true
  | _ => false
theorem okV_tup {x : MV} (h : okV x = true) : isiV "tuple" x = some (.bl (isTp x)) := by
  cases x <;> first | rfl | (simp [okV, tyN] at h)
def stepT : Tr → MV → Option Tr
  | .t _ ps, .int i => if 0 ≤ i ∧ i < (ps.length : Int) then ps[i.toNat]? else none
  | _, _ => none
def partL : List MV → Tr → Option Tr
  | [], t => some t
  | x :: ws, t => (stepT t x).bind (partL ws)
theorem partL_app : ∀ (a b : List MV) (t : Tr), partL (a ++ b) t = (partL a t).bind (partL b)
  | [], b, t => rfl
  | x :: a, b, t => by
    rw [List.cons_append, partL, partL]
    cases stepT t x with
    | none => rfl
    | some p => exact partL_app a b p
def partT (t : Tr) (w : MV) : Option Tr := match w with
  | .tup ws => partL ws t
  | _ => none
theorem step_some {t p : Tr} {x : MV} (h : stepT t x = some p) : ∃ (k : Int) (a b : List Tr), t = .t k (a ++ p :: b) ∧ x = .int (a.length : Nat) := by
  unfold stepT at h
  split at h
  · rename_i k ps i
    split at h
    · rename_i hi
      obtain ⟨hl, hg⟩ := List.getElem?_eq_some_iff.mp h
      refine ⟨k, ps.take i.toNat, ps.drop (i.toNat + 1), ?_, ?_⟩
      · rw [← hg, ← List.drop_eq_getElem_cons hl, List.take_append_drop]
      · rw [List.length_take]
        congr 1
        omega
    · cases h
  · cases h
theorem partL_some : ∀ {ws : List MV} {t u : Tr}, partL ws t = some u → ∃ v : List Nat, ws = v.map (fun i => MV.int (i : Nat)) ∧ At' t v u
  | [], t, u, h => by
    rw [partL] at h
    cases h
    exact ⟨[], rfl, .nil t⟩
  | x :: ws, t, u, h => by
    rw [partL] at h
    obtain ⟨p, h1, h2⟩ := Option.bind_eq_some_iff.mp h
    obtain ⟨k, a, b, rfl, rfl⟩ := step_some h1
    obtain ⟨v, rfl, h3⟩ := partL_some h2
    exact ⟨a.length :: v, rfl, .cons k a b p v u h3⟩
theorem part_some {t u : Tr} {w : MV} (h : partT t w = some u) : ∃ v : List Nat, w = wyV v ∧ At' t v u := by
  unfold partT at h
  split at h
  · obtain ⟨v, rfl, h2⟩ := partL_some h
    exact ⟨v, rfl, h2⟩
  · cases h
theorem step_at {k : Int} {a b : List Tr} {p : Tr} : stepT (.t k (a ++ p :: b)) (.int (a.length : Nat)) = some p := by
  unfold stepT
  simp
  omega
theorem at_partL {t u : Tr} {v : List Nat} (h : At' t v u) : partL (v.map fun i => MV.int (i : Nat)) t = some u := by
  induction h with
  | nil t => rfl
  | cons k a b p v u h ih =>
    rw [List.map_cons, partL, step_at]
    exact ih
theorem at_part {t u : Tr} {v : List Nat} (h : At' t v u) : partT t (wyV v) = some u := at_partL h
theorem at_fun {t u u' : Tr} {v : List Nat} (h : At' t v u) (h' : At' t v u') : u = u' := by
  have h1 := at_part h
  rw [at_part h'] at h1
  cases h1; rfl
/-- the thing that is put in has the buttons of what was there, and is no deeper -/
theorem put_same {t u X : Tr} {v : List Nat} (h : At' t v u) (hb : X.btn = u.btn) (hd : X.dep ≤ u.dep) (hx : X.wf) : (t.wf → (Tr.put X v t).wf) ∧ (Tr.put X v t).btn = t.btn ∧ (Tr.put X v t).dep ≤ t.dep := by
  induction h with
  | nil t => rw [put_nil]; exact ⟨fun _ => hx, hb, hd⟩
  | cons k a b p v u h ih =>
    obtain ⟨i1, i2, i3⟩ := ih hb hd
    rw [put_cons]
    refine ⟨fun hw => ?_, ?_, ?_⟩
    · rw [Tr.wf_t] at hw ⊢
      simp only [List.length_append, List.length_cons] at hw ⊢
      refine ⟨hw.1, hw.2.1, fun q hq => ?_⟩
      rcases List.mem_append.mp hq with hq | hq
      · exact hw.2.2 q (List.mem_append_left _ hq)
      · rcases List.mem_cons.mp hq with rfl | hq
        · exact i1 (hw.2.2 p (by simp))
        · exact hw.2.2 q (List.mem_append_right _ (List.mem_cons_of_mem _ hq))
    · rw [Tr.btn_t, Tr.btn_t]
      simp only [List.flatMap_append, List.flatMap_cons, i2]
    · have h1 : 1 ≤ (Tr.t k (a ++ p :: b)).dep := by rw [Tr.dep_t]; omega
      have hD : ∀ q ∈ a ++ Tr.put X v p :: b, q.dep ≤ (Tr.t k (a ++ p :: b)).dep - 1 := fun q hq => by
        have hin : ∀ q ∈ a ++ p :: b, q.dep + 1 ≤ (Tr.t k (a ++ p :: b)).dep := fun q hq => Tr.dep_lt hq
        have hp := hin p (by simp)
        rcases List.mem_append.mp hq with hq | hq
        · have := hin q (List.mem_append_left _ hq); omega
        · rcases List.mem_cons.mp hq with rfl | hq
          · omega
          · have := hin q (List.mem_append_right _ (List.mem_cons_of_mem _ hq)); omega
      have := Tr.dep_of (k := k) hD
      omega
theorem flatMap_same {α β : Type} {f g : α → List β} : ∀ {l : List α}, (∀ x ∈ l, f x = g x) → l.flatMap f = l.flatMap g
  | [], _ => rfl
  | x :: l, h => by rw [List.flatMap_cons, List.flatMap_cons, h x List.mem_cons_self, flatMap_same fun y hy => h y (List.mem_cons_of_mem _ hy)]
/-- ways, seen from above -/
theorem wlk_pre (t : Tr) : ∀ u w : List Nat, t.wlk (u ++ w) = (t.wlk w).map fun x => (u ++ x.1, x.2) := by
  induction t using Tr.ind with
  | hb n => intro u w; rw [Tr.wlk_b, Tr.wlk_b]; rfl
  | ht k ps ih =>
    intro u w
    rw [Tr.wlk_t, Tr.wlk_t, List.map_cons, List.map_flatMap]
    congr 1
    refine flatMap_same fun z hz => ?_
    rw [List.append_assoc, ih z.2 (ixd_lt hz).2]
end Py

-- text BookM
set_option Elab.async false
set_option linter.all false
set_option maxRecDepth 100000
set_option maxHeartbeats 4000000
/-! values through and through known; lots, lines and books -/
namespace Py
open PySem
mutual
def okH : MV → Bool
  | .non | .bl _ | .int _ | .str _ => true
  | .tup xs => decide (xs.length ≤ 5000) && okHs xs
  | .lst _ | .dk _ => true
  | _ => false
def okHs : List MV → Bool
  | [] => true
  | x :: xs => okH x && okHs xs
end
theorem okHs_all : ∀ {xs : List MV}, okHs xs = true ↔ ∀ x ∈ xs, okH x = true
  | [] => by simp [okHs]
  | x :: xs => by simp [okHs, okHs_all (xs := xs)]
theorem okH_tup {xs : List MV} : okH (.tup xs) = true ↔ xs.length ≤ 5000 ∧ ∀ x ∈ xs, okH x = true := by
  simp [okH, okHs_all]
theorem okH_okV {x : MV} (h : okH x = true) : okV x = true := by
  cases x <;> first | rfl | (simp [okH] at h)
/-- a value that is known, and short -/
def OkB (n d : Nat) (x : MV) : Prop := okH x = true ∧ NiceR n d x
theorem OkB.mono {n d m e : Nat} {x : MV} (h : OkB n d x) (hn : n ≤ m) (hd : d ≤ e) : OkB m e x := ⟨h.1, h.2.mono hn hd⟩
theorem okB_tup {n d m : Nat} {xs : List MV} (h : ∀ x ∈ xs, OkB n d x) (hl : xs.length ≤ m) (hm : m ≤ 5000) : OkB (m * (n + 1)) (d + 1) (.tup xs) := by
  refine ⟨okH_tup.mpr ⟨by omega, fun x hx => (h x hx).1⟩, ?_⟩
  refine (NicesR.all fun x hx => (h x hx).2).tup.mono ?_ (Nat.le_refl _)
  exact Nat.mul_le_mul_right _ hl
theorem okB_lst {n d m : Nat} {xs : List MV} (h : ∀ x ∈ xs, OkB n d x) (hl : xs.length ≤ m) : OkB (m * (n + 1)) (d + 1) (.lst xs) := by
  refine ⟨rfl, ?_⟩
  refine (NicesR.all fun x hx => (h x hx).2).lst.mono ?_ (Nat.le_refl _)
  exact Nat.mul_le_mul_right _ hl
theorem okB_int {i : Int} (h : i.natAbs < 10 ^ 90) : OkB 0 0 (.int i) := ⟨rfl, (nice_int h).toR⟩
theorem okB_bl (b : Bool) : OkB 0 0 (.bl b) := ⟨rfl, (nice_bl b).toR⟩
theorem okB_non : OkB 0 0 .non := ⟨rfl, nice_non.toR⟩
theorem okB_dk : OkB 0 1 (.dk []) := ⟨rfl, niceR_dk⟩
theorem cutM_sub {xs : List MV} {a b : Option Int} : (∀ x ∈ cutM xs a b, x ∈ xs) ∧ (cutM xs a b).length ≤ xs.length := by
  unfold cutM
  refine ⟨fun x hx => List.mem_of_mem_drop (List.mem_of_mem_take hx), ?_⟩
  rw [List.length_take, List.length_drop]
  omega
/-! lots -/
structure IsLot (x : MV) (ns : List Int) : Prop where
  e : x = .tup (ns.map .int)
  l : ns.length ≤ 100
  b : ∀ n ∈ ns, 0 ≤ n ∧ n ≤ 99
  o : ∀ j, (h : j + 1 < ns.length) → ns[j] < ns[j + 1]
noncomputable def lotB (x : MV) : Bool := @decide (∃ ns, IsLot x ns) (Classical.propDecidable _)
theorem lotB_t {x : MV} : lotB x = true ↔ ∃ ns, IsLot x ns := by unfold lotB; simp
theorem lotB_f {x : MV} : lotB x = false ↔ ¬ ∃ ns, IsLot x ns := by unfold lotB; simp
def btnV : MV → Bool
  | .int i => decide (0 ≤ i) && decide (i ≤ 99)
  | _ => false
theorem btnV_t {x : MV} (h : btnV x = true) : ∃ i, x = .int i ∧ 0 ≤ i ∧ i ≤ 99 := by
  cases x <;> simp [btnV] at h
  exact ⟨_, rfl, h⟩
theorem btn_ints : ∀ {xs : List MV}, (∀ x ∈ xs, btnV x = true) → ∃ ns : List Int, xs = ns.map .int ∧ ∀ n ∈ ns, 0 ≤ n ∧ n ≤ 99
  | [], _ => ⟨[], rfl, by simp⟩
  | x :: xs, h => by
    obtain ⟨i, rfl, hi⟩ := btnV_t (h x List.mem_cons_self)
    obtain ⟨ns, rfl, hn⟩ := btn_ints fun y hy => h y (List.mem_cons_of_mem _ hy)
    exact ⟨i :: ns, rfl, fun n hn' => by
      rcases List.mem_cons.mp hn' with rfl | h
      · exact hi
      · exact hn n h⟩
theorem lot_bad {xs : List MV} {x : MV} (hx : x ∈ xs) (h : btnV x = false) : lotB (.tup xs) = false := by
  rw [lotB_f]
  rintro ⟨ns, e, _, b, _⟩
  cases e
  obtain ⟨n, hn, rfl⟩ := List.mem_map.mp hx
  have := b n hn
  simp [btnV] at h
  omega
theorem ints_inj : ∀ {a b : List Int}, a.map MV.int = b.map MV.int → a = b
  | [], [], _ => rfl
  | [], _ :: _, h => by simp at h
  | _ :: _, [], h => by simp at h
  | i :: a, j :: b, h => by
    simp only [List.map_cons, List.cons.injEq, MV.int.injEq] at h
    rw [h.1, ints_inj h.2]
theorem lot_ord {ns : List Int} {j : Nat} (h : j + 1 < ns.length) (hl : ¬ ns[j] < ns[j + 1]) : lotB (.tup (ns.map .int)) = false := by
  rw [lotB_f]
  rintro ⟨ms, e, _, _, o⟩
  have : ns = ms := ints_inj (by injection e)
  subst this
  exact hl (o j h)
theorem lot_len {xs : List MV} (h : 100 < xs.length) : lotB (.tup xs) = false := by
  rw [lotB_f]
  rintro ⟨ns, e, l, _, _⟩
  cases e
  rw [List.length_map] at h
  omega
theorem lot_not {x : MV} (h : isTp x = false) : lotB x = false := by
  rw [lotB_f]
  rintro ⟨ns, e, _, _, _⟩
  subst e
  simp [isTp] at h
/-! lines -/
noncomputable def lineB : MV → Bool
  | .tup [a, .bl _] => lotB a
  | _ => false
noncomputable def badL (xs : List MV) : Option (Nat × MV) := (ixd xs).find? fun z => !lineB z.2
noncomputable def bookE (x : MV) : MV := match x with
  | .tup xs => if xs.length > 12 then .str "form" else match badL xs with
    | some z => .tup [.str "line", .int (z.1 : Nat)]
    | none => .non
  | _ => .str "form"
theorem badL_at {xs : List MV} {done rest : List (Nat × MV)} {z : Nat × MV} (h : done ++ z :: rest = ixd xs) (hd : ∀ y ∈ done, lineB y.2 = true) (hz : lineB z.2 = false) : badL xs = some z := by
  unfold badL
  rw [← h, List.find?_append]
  have : done.find? (fun z => !lineB z.2) = none := List.find?_eq_none.mpr fun y hy => by simp [hd y hy]
  rw [this, Option.none_or, List.find?_cons]
  simp [hz]
theorem badL_no {xs : List MV} (h : ∀ y ∈ ixd xs, lineB y.2 = true) : badL xs = none := List.find?_eq_none.mpr fun y hy => by simp [h y hy]
theorem nice_txt {x : Str} {n d : Nat} {y : PyData} (e : (MV.str x).toD = some y) (h : okX y = true) (h2 : y.showable = true) (h3 : y.leavesShort 100 = true) (h4 : y.bulk ≤ n) (h5 : y.depth ≤ d) : NiceR n d (.str x) := (nice_of e h h2 h3 h4 h5).toR
theorem okB_line : OkB 4 0 (.str "line") := ⟨rfl, nice_txt rfl (by decide +kernel) (by decide +kernel) (by decide +kernel) (by decide +kernel) (by decide +kernel)⟩
theorem okB_form : OkB 4 0 (.str "form") := ⟨rfl, nice_txt rfl (by decide +kernel) (by decide +kernel) (by decide +kernel) (by decide +kernel) (by decide +kernel)⟩
theorem bookE_ok (x : MV) : OkB 100 2 (bookE x) := by
  unfold bookE
  split
  · split
    · exact okB_form.mono (by omega) (by omega)
    · rename_i xs hl
      split
      · rename_i z hz
        have hm : z ∈ ixd xs := List.mem_of_find?_eq_some hz
        have hi := (ixd_lt hm).1
        refine (okB_tup (n := 4) (d := 0) (m := 2) (fun y hy => ?_) (by simp) (by omega)).mono (by omega) (by omega)
        simp only [List.mem_cons, List.not_mem_nil, or_false] at hy
        rcases hy with rfl | rfl
        · exact okB_line
        · exact (okB_int (Nat.lt_of_lt_of_le (show ((z.1 : Nat) : Int).natAbs < 100 by omega) (by decide))).mono (by omega) (by omega)
      · exact okB_non.mono (by omega) (by omega)
  · exact okB_form.mono (by omega) (by omega)
end Py

-- text K81a
set_option Elab.async false
set_option linter.all false
set_option maxRecDepth 1000000
set_option maxHeartbeats 4000000
namespace Lw
open PySem Py
local macro_rules | `(tactic| simp_wf) => `(tactic| simp (config := { dsimp := false, implicitDefEqProofs := false, maxSteps := 1000000 }) only [↓cD0, ↓xD0, ↓cD1, ↓xD1, ↓cD2, ↓xD2, ↓cD3, ↓xD3, ↓cD4, ↓xD4, ↓cD5, ↓xD5, ↓cD6, ↓xD6, ↓cD7, ↓xD7, ↓cD8, ↓xD8, ↓cD9, ↓xD9, ↓cD10, ↓xD10, ↓cD11, ↓xD11, ↓cD12, ↓xD12, ↓cD13, ↓xD13, ↓E_var, ↓E_esc, ↓E_cst, ↓E_op, ↓E_tup, ↓E_im, ↓E_ce, ↓E_call, ↓E_callK, ↓E_pop, ↓E_popi, ↓E_popc, ↓E_app, ↓E_ext, ↓E_appc, ↓E_ite, ↓E_and2, ↓E_or2, ↓E_not, ↓E_chain, ↓E_cut, ↓E_glob, ↓E_popci, ↓E_getd, ↓E_geto, ↓E_star, ↓E_trg, ↓F_lrg, ↓F_dictP, ↓F_sset, ↓F_sortK, ↓S_rse,
  ↓T_not, ↓T_and2, ↓T_or2, ↓T_var, ↓T_cst, ↓T_tt, ↓T_op, ↓T_call, ↓T_callK, ↓T_chain, ↓A_nil, ↓A_cons, ↓A_own, ↓F_disp, ↓F_fop, ↓F_dnk, ↓F_cut, ↓F_lc, ↓F_lcO, ↓I_ex, ↓I_rng1, ↓I_rng2, ↓I_rng3, ↓I_enum, ↓I_zip, ↓I_rev, ↓G_nm, ↓G_row, ↓Gs_nil, ↓Gs_cons,
  ↓S_asg, ↓S_own, ↓EF_nil, ↓EF_e, ↓EF_f, ↓SL_nil, ↓SL_cons, ↓S_par, ↓S_sti, ↓S_stc, ↓S_exp, ↓S_ret, ↓S_retN, ↓S_ife, ↓S_fr, ↓S_whl, ↓S_brk, ↓S_cont, ↓S_pass, ↓S_nil, ↓S_cons, ↓aT_nx, ↓aT_rt, ↓aT_bk, ↓aT_ct, ↓oN_nx, ↓oR_nx, ↓oR_rt, ↓oR_bk, ↓oR_ct, ↓aE_rt, ↓aE_nx, ↓tS_nx, ↓tS_ct, ↓tS_bk, ↓tS_rt,
  ↓lV_0, ↓lV_s, ↓lO_0, ↓lO_s, ↓lZ_0, ↓lZ_s, ↓lM_c, ↓lC_0, ↓lC_s, ↓lSn_nil, ↓lSn_ref, ↓lSn_non, ↓lSn_bl, ↓lSn_int, ↓lSn_str, ↓lSn_tup, ↓lSn_lst, ↓lSn_scr, ↓lSn_dk, ↓lSn_dt, ↓lSn_own, ↓lSn_tV, ↓lSn_wyV, ↓idx_tV0, ↓idx_tV1, ↓lVs_nil, ↓lVs_cons, ↓lBl_bl, ↓wpI_t, ↓wpI_f, ↓wpI_n, ↓wpI_d, wpI_same, tX_nx, tX_rt, tX_bk, tX_ct, 
  both, lL_some, lL_none, lL_map, lL_bind, lL_ite, lX_x, lN_c,
  startE, wipeE, SameX_iff, List.map_cons, List.map_nil, List.cons_append, List.nil_append, List.length_cons, List.length_nil, List.replicate_succ, List.replicate_zero, List.getElem?_cons_zero, List.getElem?_cons_succ, List.getElem?_nil, List.set_cons_zero, List.set_cons_succ, Nat.reduceAdd, Nat.reduceSub, Nat.reduceLeDiff, Nat.reduceLT, Int.reduceLT, Int.reduceLE, sz_eq,
  Option.map_some, Option.map_none, Option.bind_some, Option.bind_none, Option.getD_some, rev_t0, rev_t1, slcT_hi, slcT_lo, cutLast, atLast, tupL, tupT, opV, opF, one_c, two_c, three_c, oneF_c, twoF_c, arI, mulV_i, mulV_t, addV, intV, unI, lenV, items?, lstItems?, idxV, atM_0, atM_1, atM_2, lstOne, enumT, enumL, revL, revItL, idxDV, key?, cmpV, cmpB, truthV, Cn.mv, refN, lC, lX?, intD?, permA, seqI_tup, seqI_lst, seqI_scr, items_seq, eqD_int, eqD_bl, eqD_lnil, eqD_nn,
  decide_eq_true_eq, decide_true, decide_false, Bool.not_true, Bool.not_false, true_and, and_true, false_and, and_false, true_implies, false_implies, implies_true, not_true_eq_false, not_false_eq_true, and_self])
local macro_rules | `(tactic| exists $ts:term,*) => `(tactic| simp (config := { dsimp := false, implicitDefEqProofs := false, maxSteps := 1000000 }) only [$[$ts:term],*, ↓cD0, ↓xD0, ↓cD1, ↓xD1, ↓cD2, ↓xD2, ↓cD3, ↓xD3, ↓cD4, ↓xD4, ↓cD5, ↓xD5, ↓cD6, ↓xD6, ↓cD7, ↓xD7, ↓cD8, ↓xD8, ↓cD9, ↓xD9, ↓cD10, ↓xD10, ↓cD11, ↓xD11, ↓cD12, ↓xD12, ↓cD13, ↓xD13, ↓E_var, ↓E_esc, ↓E_cst, ↓E_op, ↓E_tup, ↓E_im, ↓E_ce, ↓E_call, ↓E_callK, ↓E_pop, ↓E_popi, ↓E_popc, ↓E_app, ↓E_ext, ↓E_appc, ↓E_ite, ↓E_and2, ↓E_or2, ↓E_not, ↓E_chain, ↓E_cut, ↓E_glob, ↓E_popci, ↓E_getd, ↓E_geto, ↓E_star, ↓E_trg, ↓F_lrg, ↓F_dictP, ↓F_sset, ↓F_sortK, ↓S_rse,
  ↓T_not, ↓T_and2, ↓T_or2, ↓T_var, ↓T_cst, ↓T_tt, ↓T_op, ↓T_call, ↓T_callK, ↓T_chain, ↓A_nil, ↓A_cons, ↓A_own, ↓F_disp, ↓F_fop, ↓F_dnk, ↓F_cut, ↓F_lc, ↓F_lcO, ↓I_ex, ↓I_rng1, ↓I_rng2, ↓I_rng3, ↓I_enum, ↓I_zip, ↓I_rev, ↓G_nm, ↓G_row, ↓Gs_nil, ↓Gs_cons,
  ↓S_asg, ↓S_own, ↓EF_nil, ↓EF_e, ↓EF_f, ↓SL_nil, ↓SL_cons, ↓S_par, ↓S_sti, ↓S_stc, ↓S_exp, ↓S_ret, ↓S_retN, ↓S_ife, ↓S_fr, ↓S_whl, ↓S_brk, ↓S_cont, ↓S_pass, ↓S_nil, ↓S_cons, ↓aT_nx, ↓aT_rt, ↓aT_bk, ↓aT_ct, ↓oN_nx, ↓oR_nx, ↓oR_rt, ↓oR_bk, ↓oR_ct, ↓aE_rt, ↓aE_nx, ↓tS_nx, ↓tS_ct, ↓tS_bk, ↓tS_rt,
  ↓lV_0, ↓lV_s, ↓lO_0, ↓lO_s, ↓lZ_0, ↓lZ_s, ↓lM_c, ↓lC_0, ↓lC_s, ↓lSn_nil, ↓lSn_ref, ↓lSn_non, ↓lSn_bl, ↓lSn_int, ↓lSn_str, ↓lSn_tup, ↓lSn_lst, ↓lSn_scr, ↓lSn_dk, ↓lSn_dt, ↓lSn_own, ↓lSn_tV, ↓lSn_wyV, ↓idx_tV0, ↓idx_tV1, ↓lVs_nil, ↓lVs_cons, ↓lBl_bl, ↓wpI_t, ↓wpI_f, ↓wpI_n, ↓wpI_d, wpI_same, tX_nx, tX_rt, tX_bk, tX_ct, 
  both, lL_some, lL_none, lL_map, lL_bind, lL_ite, lX_x, lN_c,
  startE, wipeE, SameX_iff, List.map_cons, List.map_nil, List.cons_append, List.nil_append, List.length_cons, List.length_nil, List.replicate_succ, List.replicate_zero, List.getElem?_cons_zero, List.getElem?_cons_succ, List.getElem?_nil, List.set_cons_zero, List.set_cons_succ, Nat.reduceAdd, Nat.reduceSub, Nat.reduceLeDiff, Nat.reduceLT, Int.reduceLT, Int.reduceLE, sz_eq,
  Option.map_some, Option.map_none, Option.bind_some, Option.bind_none, Option.getD_some, rev_t0, rev_t1, slcT_hi, slcT_lo, cutLast, atLast, tupL, tupT, opV, opF, one_c, two_c, three_c, oneF_c, twoF_c, arI, mulV_i, mulV_t, addV, intV, unI, lenV, items?, lstItems?, idxV, atM_0, atM_1, atM_2, lstOne, enumT, enumL, revL, revItL, idxDV, key?, cmpV, cmpB, truthV, Cn.mv, refN, lC, lX?, intD?, permA, seqI_tup, seqI_lst, seqI_scr, items_seq, eqD_int, eqD_bl, eqD_lnil, eqD_nn,
  decide_eq_true_eq, decide_true, decide_false, Bool.not_true, Bool.not_false, true_and, and_true, false_and, and_false, true_implies, false_implies, implies_true, not_true_eq_false, not_false_eq_true, and_self])
local macro_rules | `(tactic| bv_omega) => `(tactic| simp (config := { dsimp := false, implicitDefEqProofs := false, maxSteps := 1000000 }) only [↓cD0, ↓xD0, ↓cD1, ↓xD1, ↓cD2, ↓xD2, ↓cD3, ↓xD3, ↓cD4, ↓xD4, ↓cD5, ↓xD5, ↓cD6, ↓xD6, ↓cD7, ↓xD7, ↓cD8, ↓xD8, ↓cD9, ↓xD9, ↓cD10, ↓xD10, ↓cD11, ↓xD11, ↓cD12, ↓xD12, ↓cD13, ↓xD13, ↓E_var, ↓E_esc, ↓E_cst, ↓E_op, ↓E_tup, ↓E_im, ↓E_ce, ↓E_call, ↓E_callK, ↓E_pop, ↓E_popi, ↓E_popc, ↓E_app, ↓E_ext, ↓E_appc, ↓E_ite, ↓E_and2, ↓E_or2, ↓E_not, ↓E_chain, ↓E_cut, ↓E_glob, ↓E_popci, ↓E_getd, ↓E_geto, ↓E_star, ↓E_trg, ↓F_lrg, ↓F_dictP, ↓F_sset, ↓F_sortK, ↓S_rse,
  ↓T_not, ↓T_and2, ↓T_or2, ↓T_var, ↓T_cst, ↓T_tt, ↓T_op, ↓T_call, ↓T_callK, ↓T_chain, ↓A_nil, ↓A_cons, ↓A_own, ↓F_disp, ↓F_fop, ↓F_dnk, ↓F_cut, ↓F_lc, ↓F_lcO, ↓I_ex, ↓I_rng1, ↓I_rng2, ↓I_rng3, ↓I_enum, ↓I_zip, ↓I_rev, ↓G_nm, ↓G_row, ↓Gs_nil, ↓Gs_cons,
  ↓S_asg, ↓S_own, ↓EF_nil, ↓EF_e, ↓EF_f, ↓SL_nil, ↓SL_cons, ↓S_par, ↓S_sti, ↓S_stc, ↓S_exp, ↓S_ret, ↓S_retN, ↓S_fr, ↓S_whl, ↓S_brk, ↓S_cont, ↓S_pass, ↓S_nil, ↓S_cons, ↓aT_nx, ↓aT_rt, ↓aT_bk, ↓aT_ct, ↓oN_nx, ↓oR_nx, ↓oR_rt, ↓oR_bk, ↓oR_ct, ↓aE_rt, ↓aE_nx, ↓tS_nx, ↓tS_ct, ↓tS_bk, ↓tS_rt,
  ↓lV_0, ↓lV_s, ↓lO_0, ↓lO_s, ↓lZ_0, ↓lZ_s, ↓lM_c, ↓lC_0, ↓lC_s, ↓lSn_nil, ↓lSn_ref, ↓lSn_non, ↓lSn_bl, ↓lSn_int, ↓lSn_str, ↓lSn_tup, ↓lSn_lst, ↓lSn_scr, ↓lSn_dk, ↓lSn_dt, ↓lSn_own, ↓lSn_tV, ↓lSn_wyV, ↓idx_tV0, ↓idx_tV1, ↓lVs_nil, ↓lVs_cons, ↓lBl_bl, ↓wpI_t, ↓wpI_f, ↓wpI_n, ↓wpI_d, wpI_same, tX_nx, tX_rt, tX_bk, tX_ct, 
  both, lL_some, lL_none, lL_map, lL_bind, lL_ite, lX_x, lN_c,
  startE, wipeE, SameX_iff, List.map_cons, List.map_nil, List.cons_append, List.nil_append, List.length_cons, List.length_nil, List.replicate_succ, List.replicate_zero, List.getElem?_cons_zero, List.getElem?_cons_succ, List.getElem?_nil, List.set_cons_zero, List.set_cons_succ, Nat.reduceAdd, Nat.reduceSub, Nat.reduceLeDiff, Nat.reduceLT, Int.reduceLT, Int.reduceLE, sz_eq,
  Option.map_some, Option.map_none, Option.bind_some, Option.bind_none, Option.getD_some, rev_t0, rev_t1, slcT_hi, slcT_lo, cutLast, atLast, tupL, tupT, opV, opF, one_c, two_c, three_c, oneF_c, twoF_c, arI, mulV_i, mulV_t, addV, intV, unI, lenV, items?, lstItems?, idxV, atM_0, atM_1, atM_2, lstOne, enumT, enumL, revL, revItL, idxDV, key?, cmpV, cmpB, truthV, Cn.mv, refN, lC, lX?, intD?, permA, seqI_tup, seqI_lst, seqI_scr, items_seq, eqD_int, eqD_bl, eqD_lnil, eqD_nn,
  decide_eq_true_eq, decide_true, decide_false, Bool.not_true, Bool.not_false, true_and, and_true, false_and, and_false, true_implies, false_implies, implies_true, not_true_eq_false, not_false_eq_true, and_self])
local macro_rules | `(tactic| array_get_dec) => `(tactic| simp (config := { dsimp := false, implicitDefEqProofs := false, maxSteps := 1000000 }) only [↓cD0, ↓xD0, ↓cD1, ↓xD1, ↓cD2, ↓xD2, ↓cD3, ↓xD3, ↓cD4, ↓xD4, ↓cD5, ↓xD5, ↓cD6, ↓xD6, ↓cD7, ↓xD7, ↓cD8, ↓xD8, ↓cD9, ↓xD9, ↓cD10, ↓xD10, ↓cD11, ↓xD11, ↓cD12, ↓xD12, ↓cD13, ↓xD13, ↓E_var, ↓E_esc, ↓E_cst, ↓E_op, ↓E_tup, ↓E_im, ↓E_ce, ↓E_call, ↓E_callK, ↓E_pop, ↓E_popi, ↓E_popc, ↓E_app, ↓E_ext, ↓E_appc, ↓E_ite, ↓E_and2, ↓E_or2, ↓E_not, ↓E_chain, ↓E_cut, ↓E_glob, ↓E_popci, ↓E_getd, ↓E_geto, ↓E_star, ↓E_trg, ↓F_lrg, ↓F_dictP, ↓F_sset, ↓F_sortK, ↓S_rse,
  ↓T_not, ↓T_and2, ↓T_or2, ↓T_var, ↓T_cst, ↓T_tt, ↓T_op, ↓T_call, ↓T_callK, ↓T_chain, ↓A_nil, ↓A_cons, ↓A_own, ↓F_disp, ↓F_fop, ↓F_dnk, ↓F_cut, ↓F_lc, ↓F_lcO, ↓I_ex, ↓I_rng1, ↓I_rng2, ↓I_rng3, ↓I_enum, ↓I_zip, ↓I_rev, ↓G_nm, ↓G_row, ↓Gs_nil, ↓Gs_cons,
  ↓S_asg, ↓S_own, ↓EF_nil, ↓EF_e, ↓EF_f, ↓SL_nil, ↓SL_cons, ↓S_par, ↓S_sti, ↓S_stc, ↓S_exp, ↓S_ret, ↓S_retN, ↓S_ife, ↓S_fr, ↓S_whl, ↓S_brk, ↓S_cont, ↓S_pass, ↓S_nil, ↓aT_nx, ↓aT_rt, ↓aT_bk, ↓aT_ct, ↓oN_nx, ↓oR_nx, ↓oR_rt, ↓oR_bk, ↓oR_ct, ↓aE_rt, ↓aE_nx, ↓tS_nx, ↓tS_ct, ↓tS_bk, ↓tS_rt,
  ↓lV_0, ↓lV_s, ↓lO_0, ↓lO_s, ↓lZ_0, ↓lZ_s, ↓lM_c, ↓lC_0, ↓lC_s, ↓lSn_nil, ↓lSn_ref, ↓lSn_non, ↓lSn_bl, ↓lSn_int, ↓lSn_str, ↓lSn_tup, ↓lSn_lst, ↓lSn_scr, ↓lSn_dk, ↓lSn_dt, ↓lSn_own, ↓lSn_tV, ↓lSn_wyV, ↓idx_tV0, ↓idx_tV1, ↓lVs_nil, ↓lVs_cons, ↓lBl_bl, ↓wpI_t, ↓wpI_f, ↓wpI_n, ↓wpI_d, wpI_same, tX_nx, tX_rt, tX_bk, tX_ct, 
  both, lL_some, lL_none, lL_map, lL_bind, lL_ite, lX_x, lN_c,
  startE, wipeE, SameX_iff, List.map_cons, List.map_nil, List.cons_append, List.nil_append, List.length_cons, List.length_nil, List.replicate_succ, List.replicate_zero, List.getElem?_cons_zero, List.getElem?_cons_succ, List.getElem?_nil, List.set_cons_zero, List.set_cons_succ, Nat.reduceAdd, Nat.reduceSub, Nat.reduceLeDiff, Nat.reduceLT, Int.reduceLT, Int.reduceLE, sz_eq,
  Option.map_some, Option.map_none, Option.bind_some, Option.bind_none, Option.getD_some, rev_t0, rev_t1, slcT_hi, slcT_lo, cutLast, atLast, tupL, tupT, opV, opF, one_c, two_c, three_c, oneF_c, twoF_c, arI, mulV_i, mulV_t, addV, intV, unI, lenV, items?, lstItems?, idxV, atM_0, atM_1, atM_2, lstOne, enumT, enumL, revL, revItL, idxDV, key?, cmpV, cmpB, truthV, Cn.mv, refN, lC, lX?, intD?, permA, seqI_tup, seqI_lst, seqI_scr, items_seq, eqD_int, eqD_bl, eqD_lnil, eqD_nn,
  decide_eq_true_eq, decide_true, decide_false, Bool.not_true, Bool.not_false, true_and, and_true, false_and, and_false, true_implies, false_implies, implies_true, not_true_eq_false, not_false_eq_true, and_self])

theorem enumIt0 (ws : List MV) : itemsOf (.enum (.tup ws)) = (ixd ws).map fun z => .tup [.int (z.1 : Nat), z.2] := by
  have := enumItT (fun x => x) ws
  rwa [List.map_id'] at this
theorem tup_of {x : MV} (h : isTp x = true) : ∃ ws, x = .tup ws := by
  cases x <;> simp [isTp] at h
  exact ⟨_, rfl⟩
theorem okH_ref {x : MV} (h : okH x = true) : isRef x = false := (okV_isi (okH_okV h)).2.2
theorem gI1 {k : Nat} (hk : 1 ≤ k) {x : MV} (hx : okV x = true) (Q : MV → Option (List Cn) → Prop) : lS (prg.map (·.fd)) k 1 [x] none Q .mk = Q (.bl (isI x)) none := by
  refine lS_rule ?_ Q
  refine lS.go 0 gD1 hk rfl fun k hk => ?_
  obtain ⟨h1, h2, h3⟩ := okV_isi hx
  exists lSn_val h3, h1, h2
  cases x <;> simp [isI, isB, wpI]
theorem gI9 {k : Nat} (hk : 1 ≤ k) {x : MV} (hx : okV x = true) (Q : MV → Option (List Cn) → Prop) : lS (prg.map (·.fd)) k 9 [x] none Q .mk = Q (.bl (isI x)) none := by
  refine lS_rule ?_ Q
  refine lS.go 0 gD9 hk rfl fun k hk => ?_
  obtain ⟨h1, h2, h3⟩ := okV_isi hx
  exists lSn_val h3, h1, h2
  cases x <;> simp [isI, isB, wpI]
theorem w2 {k : Nat} (hk : 2 ≤ k) {x : MV} (hx : okV x = true) (Q : MV → Option (List Cn) → Prop) : lS (prg.map (·.fd)) k 2 [x] none Q .mk = Q (.bl (btnV x)) none := by
  refine lS_rule ?_ Q
  refine lS.go 1 gD2 hk rfl fun k hk => ?_
  have gi := fun Q => gI1 (k := k) hk hx Q
  obtain ⟨-, -, h3⟩ := okV_isi hx
  cases hI : isI x with
  | true =>
    obtain ⟨i, rfl⟩ : ∃ i, x = .int i := by
      cases x <;> simp [isI] at hI
      exact ⟨_, rfl⟩
    rw [hI] at gi
    by_cases h0 : 0 ≤ i
    · exists gi, h0
      simp [btnV, h0]
    · have h0' : (0 ≤ i) = False := by simp [h0]
      exists gi, h0'
      simp [btnV, h0]
  | false =>
    have hb : btnV x = false := by cases x <;> simp [isI] at hI <;> rfl
    rw [hI] at gi
    exists lSn_val h3, gi, hb
theorem hd_ne {done rest : List (Nat × MV)} {z : Nat × MV} {ws : List MV} (h : done ++ z :: rest = ixd ws) : z.1 = done.length ∧ z.2 ∈ ws ∧ ws[done.length]? = some z.2 := by
  have hm : z ∈ ixd ws := by rw [← h]; simp
  have h1 := congrArg (List.map Prod.fst) h
  have e : (ixd ws).map Prod.fst = List.range ws.length := by unfold ixd; rw [List.map_fst_zip (by simp)]
  rw [e, List.map_append, List.map_cons] at h1
  have hl := congrArg List.length h1
  simp only [List.length_append, List.length_cons, List.length_range, List.length_map] at hl
  have hz := congrArg (fun l => l[done.length]?) h1
  simp only [List.getElem?_append_right (show (done.map Prod.fst).length ≤ done.length by simp), List.length_map, Nat.sub_self, List.getElem?_cons_zero] at hz
  rw [List.getElem?_range (by omega)] at hz
  have hz' : z.1 = done.length := Option.some.inj hz
  exact ⟨hz', (ixd_lt hm).2, by rw [← hz']; exact mem_ixd hm⟩
theorem lot_error {x : MV} (hx : okH x = true) {k : Nat} (hk : 3 ≤ k) : ∃ y, runP (prg.map (·.fd)) k 3 [x] none = .ok y none ∧ isNV y = lotB x ∧ isRef y = false := by
  have key : lS (prg.map (·.fd)) k 3 [x] none (fun y mh => mh = none ∧ isNV y = lotB x ∧ isRef y = false) .mk := by
    refine lS.go 2 gD3 hk rfl fun k hk => ?_
    have h4 := okV_tup (okH_okV hx)
    have h3 := okH_ref hx
    cases hT : isTp x with
    | false =>
      rw [hT] at h4
      exists lSn_val h3, h4
      exact ⟨(lot_not hT).symm, rfl⟩
    | true =>
      obtain ⟨ws, rfl⟩ := tup_of hT
      rw [hT] at h4
      obtain ⟨hl5, hit⟩ := okH_tup.mp hx
      by_cases hl : 100 < ws.length
      · have hc : ((100 : Int) < (ws.length : Nat)) = True := eq_true (by omega)
        exists h4, hc
        exact ⟨(lot_len hl).symm, rfl⟩
      have hc : ((100 : Int) < (ws.length : Nat)) = False := eq_false (by omega)
      exists h4, hc, enumT, enumIt0
      refine R_inv (fun z : Nat × MV => MV.tup [.int (z.1 : Nat), z.2]) (ixd ws) (fun done _ s => ∃ e1 e2 : Option MV, (∀ y ∈ done, btnV y.2 = true) ∧ s = ⟨[some (.v (.tup ws)), vS e1, vS e2], none⟩) ⟨none, none, by simp, rfl⟩ ?_ ?_
      · rintro done ⟨i, y⟩ rest s hdn ⟨e1, e2, hd, rfl⟩
        obtain ⟨-, hy, -⟩ := hd_ne hdn
        simp only at hy
        have hyv := okH_okV (hit y hy)
        have hyr := okH_ref (hit y hy)
        have gb := fun Q => w2 (k := k) hk hyv Q
        cases hb : btnV y with
        | true =>
          rw [hb] at gb
          exists lSn_val hyr, gb
          refine ⟨some _, some _, fun z hz => ?_, rfl⟩
          rcases List.mem_append.mp hz with hz | hz
          · exact hd z hz
          · simp only [List.mem_singleton] at hz
            subst hz; exact hb
        | false =>
          rw [hb] at gb
          exists lSn_val hyr, gb
          exact ⟨(lot_bad hy hb).symm, rfl⟩
      · rintro s ⟨e1, e2, hd, rfl⟩
        have hall : ∀ y ∈ ws, btnV y = true := fun y hy => by
          have : y ∈ (ixd ws).map Prod.snd := by rw [ixd_snd]; exact hy
          obtain ⟨z, hz, rfl⟩ := List.mem_map.mp this
          exact hd z hz
        obtain ⟨ns, rfl, hns⟩ := btn_ints hall
        rw [List.length_map] at hl
        have hr : rng2I (.int 1) (.int ((ns.length : Nat) : Int)) = some (.up 1 (ns.length - 1)) := by
          rw [rng2_int (by omega) (by omega) (by omega) (by omega), show (((ns.length : Nat) : Int) - 1).toNat = ns.length - 1 by omega]
        exists List.length_map, hr, items_up
        refine R_inv (fun i : Nat => MV.int (1 + (i : Int))) (List.range (ns.length - 1)) (fun done _ s => ∃ e1 e2 : Option MV, (∀ j, (h : j + 1 < ns.length) → j < done.length → ns[j] < ns[j + 1]) ∧ s = ⟨[some (.v (.tup (ns.map .int))), vS e1, vS e2], none⟩) ⟨e1, e2, by simp, rfl⟩ ?_ ?_
        · clear e1 e2
          rintro done i rest s hdn ⟨e1, e2, hd2, rfl⟩
          have hlen := congrArg List.length hdn
          simp only [List.length_append, List.length_cons, List.length_range] at hlen
          have hi : i = done.length := by
            have hz := congrArg (fun l => l[done.length]?) hdn
            simp only [List.getElem?_append_right (Nat.le_refl _), Nat.sub_self, List.getElem?_cons_zero] at hz
            rw [List.getElem?_range (by omega)] at hz
            exact Option.some.inj hz
          subst hi
          have hj : done.length + 1 < ns.length := by omega
          have a1 : atM (ns.map MV.int) (1 + (done.length : Int)) = some (.int ns[done.length + 1]) := by
            rw [show (1 : Int) + (done.length : Nat) = ((done.length + 1 : Nat) : Int) by omega, atM_nat (by rw [List.length_map]; exact hj)]
            simp
          have a2 : atM (ns.map MV.int) (1 + (done.length : Int) - 1) = some (.int ns[done.length]) := by
            rw [show (1 : Int) + (done.length : Nat) - 1 = ((done.length : Nat) : Int) by omega, atM_nat (by rw [List.length_map]; omega)]
            simp
          by_cases ho : ns[done.length] < ns[done.length + 1]
          · have hc : (ns[done.length + 1] ≤ ns[done.length]) = False := eq_false (by omega)
            exists a1, a2, hc
            refine ⟨some _, e2, fun j h hj' => ?_, rfl⟩
            rw [List.length_append, List.length_singleton] at hj'
            by_cases hjj : j = done.length
            · subst hjj; exact ho
            · exact hd2 j h (by omega)
          · have hc : (ns[done.length + 1] ≤ ns[done.length]) = True := eq_true (by omega)
            exists a1, a2, hc
            exact ⟨(lot_ord hj ho).symm, rfl⟩
        · clear e1 e2
          rintro s ⟨e1, e2, hd2, rfl⟩
          simp_wf
          exact ⟨(lotB_t.mpr ⟨ns, rfl, by omega, hns, fun j h => hd2 j h (by rw [List.length_range]; omega)⟩).symm, rfl⟩
  obtain ⟨y, mh, e, rfl, h1, h2⟩ := key.ex
  exact ⟨y, e, h1, h2⟩
theorem w10 {x : MV} (hx : okH x = true) {k : Nat} (hk : 2 ≤ k) (Q : MV → Option (List Cn) → Prop) : lS (prg.map (·.fd)) k 10 [x] none Q .mk = Q (.bl (lotB x)) none := by
  refine lS_rule ?_ Q
  refine lS.go 1 gD10 hk rfl fun k hk => ?_
  have h4 := okV_tup (okH_okV hx)
  have h3 := okH_ref hx
  cases hT : isTp x with
  | false =>
    rw [hT] at h4
    rw [lot_not hT]
    exists lSn_val h3, h4
  | true =>
    obtain ⟨ws, rfl⟩ := tup_of hT
    rw [hT] at h4
    obtain ⟨hl5, hit⟩ := okH_tup.mp hx
    by_cases hl : 100 < ws.length
    · have hc : ((100 : Int) < (ws.length : Nat)) = True := eq_true (by omega)
      rw [lot_len hl]
      exists h4, hc
    have hc : ((100 : Int) < (ws.length : Nat)) = False := eq_false (by omega)
    exists h4, hc, enumT, enumIt0
    refine R_inv (fun z : Nat × MV => MV.tup [.int (z.1 : Nat), z.2]) (ixd ws) (fun done _ s => ∃ e1 e2 : Option MV, (∃ ns : List Int, done.map Prod.snd = ns.map .int ∧ (∀ n ∈ ns, 0 ≤ n ∧ n ≤ 99) ∧ ∀ j, (h : j + 1 < ns.length) → ns[j] < ns[j + 1]) ∧ s = ⟨[some (.v (.tup ws)), vS e1, vS e2], none⟩) ⟨none, none, ⟨[], rfl, by simp, by simp⟩, rfl⟩ ?_ ?_
    · rintro done ⟨i, y⟩ rest s hdn ⟨e1, e2, ⟨ns, hns, hnb, hno⟩, rfl⟩
      obtain ⟨hi, hy, hat⟩ := hd_ne hdn
      simp only at hi hy hat
      have hdl : done.length = ns.length := by have := congrArg List.length hns; simpa using this
      have hyv := okH_okV (hit y hy)
      have hyr := okH_ref (hit y hy)
      have gi := fun Q => gI9 (k := k) hk hyv Q
      cases hI : isI y with
      | false =>
        have hb : btnV y = false := by cases y <;> simp [isI] at hI <;> rfl
        rw [hI] at gi
        rw [lot_bad hy hb]
        exists lSn_val hyr, gi
      | true =>
        obtain ⟨n, rfl⟩ : ∃ i, y = .int i := by
          cases y <;> simp [isI] at hI
          exact ⟨_, rfl⟩
        rw [hI] at gi
        by_cases hr : 0 ≤ n ∧ n ≤ 99
        · have hr1 : (0 ≤ n) = True := eq_true hr.1
          have hr2 : (n ≤ 99) = True := eq_true hr.2
          have step : (∀ h : 0 < ns.length, ns[ns.length - 1] < n) → ∃ ms : List Int, (done ++ [(i, MV.int n)]).map Prod.snd = ms.map .int ∧ (∀ n ∈ ms, 0 ≤ n ∧ n ≤ 99) ∧ ∀ j, (h : j + 1 < ms.length) → ms[j] < ms[j + 1] := fun hgt => by
            refine ⟨ns ++ [n], by rw [List.map_append, hns]; simp, fun m hm => ?_, fun j h => ?_⟩
            · rcases List.mem_append.mp hm with hm | hm
              · exact hnb m hm
              · simp only [List.mem_singleton] at hm
                subst hm; exact hr
            · rw [List.length_append, List.length_singleton] at h
              by_cases hj : j + 1 < ns.length
              · rw [List.getElem_append_left (by omega), List.getElem_append_left hj]
                exact hno j hj
              · have hj2 : j = ns.length - 1 := by omega
                subst hj2
                rw [List.getElem_append_left (by omega), List.getElem_append_right (by omega)]
                have := hgt (by omega)
                simpa using this
          by_cases h0 : 0 < ns.length
          · have hp : ((0 : Int) < (i : Nat)) = True := eq_true (by omega)
            have a1 : atM ws ((i : Int) - 1) = some (.int ns[ns.length - 1]) := by
              have hg := congrArg (fun l => l[ns.length - 1]?) hns
              have hw : ws[ns.length - 1]? = some (.int ns[ns.length - 1]) := by
                have e1 : (ixd ws).map Prod.snd = ws := ixd_snd ws
                rw [← hdn, List.map_append, hns] at e1
                rw [← e1, List.getElem?_append_left (by rw [List.length_map]; omega)]
                simp [h0]
              obtain ⟨hw1, hw2⟩ := List.getElem?_eq_some_iff.mp hw
              rw [show (i : Int) - 1 = ((ns.length - 1 : Nat) : Int) by omega, atM_nat hw1, hw2]
            by_cases hgt : ns[ns.length - 1] < n
            · have hc2 : (n ≤ ns[ns.length - 1]) = False := eq_false (by omega)
              exists gi, hr1, hr2, hp, a1, hc2
              exact ⟨some _, some _, step fun _ => hgt, rfl⟩
            · have hc2 : (n ≤ ns[ns.length - 1]) = True := eq_true (by omega)
              have hbad : lotB (.tup ws) = false := by
                rw [lotB_f]
                rintro ⟨ms, e, _, _, o⟩
                cases e
                have e1 : (ixd (ms.map MV.int)).map Prod.snd = ms.map MV.int := ixd_snd _
                rw [← hdn, List.map_append, List.map_cons, hns] at e1
                have e2 : ms = ns ++ n :: (rest.map Prod.snd).filterMap (fun v => match v with | .int i => some i | _ => none) := by
                  have := congrArg (List.filterMap fun v => match v with | MV.int i => some i | _ => none) e1
                  rw [List.filterMap_append, List.filterMap_cons] at this
                  have f : ∀ l : List Int, (l.map MV.int).filterMap (fun v => match v with | MV.int i => some i | _ => none) = l := fun l => by
                    induction l with
                    | nil => rfl
                    | cons a l ih => simp [ih]
                  rw [f, f] at this
                  exact this.symm
                have hlen : ns.length - 1 + 1 < ms.length := by rw [e2]; simp; omega
                have hlt := o (ns.length - 1) hlen
                simp only [e2] at hlt
                rw [List.getElem_append_left (by omega), List.getElem_append_right (by omega)] at hlt
                simp only [show ns.length - 1 + 1 - ns.length = 0 by omega, List.getElem_cons_zero] at hlt
                exact hgt hlt
              rw [hbad]
              exists gi, hr1, hr2, hp, a1, hc2
          · have hp : ((0 : Int) < (i : Nat)) = False := eq_false (by omega)
            exists gi, hr1, hr2, hp
            exact ⟨some _, some _, step fun h => absurd h h0, rfl⟩
        · have hb : btnV (.int n) = false := by
            simp only [btnV, Bool.and_eq_false_iff, decide_eq_false_iff_not]
            omega
          rw [lot_bad hy hb]
          by_cases hr1 : 0 ≤ n
          · have hr2 : (n ≤ 99) = False := eq_false fun h => hr ⟨hr1, h⟩
            exists gi, eq_true hr1, hr2
          · exists gi, eq_false hr1
    · rintro s ⟨e1, e2, ⟨ns, hns, hnb, hno⟩, rfl⟩
      rw [ixd_snd] at hns
      subst hns
      rw [List.length_map] at hl
      have : lotB (.tup (ns.map .int)) = true := lotB_t.mpr ⟨ns, rfl, by omega, hnb, hno⟩
      rw [this]
      simp_wf
end Lw

-- text K81b
set_option Elab.async false
set_option linter.all false
set_option maxRecDepth 1000000
set_option maxHeartbeats 4000000
namespace Lw
open PySem Py
local macro_rules | `(tactic| simp_wf) => `(tactic| simp (config := { dsimp := false, implicitDefEqProofs := false, maxSteps := 1000000 }) only [↓cD0, ↓xD0, ↓cD1, ↓xD1, ↓cD2, ↓xD2, ↓cD3, ↓xD3, ↓cD4, ↓xD4, ↓cD5, ↓xD5, ↓cD6, ↓xD6, ↓cD7, ↓xD7, ↓cD8, ↓xD8, ↓cD9, ↓xD9, ↓cD10, ↓xD10, ↓cD11, ↓xD11, ↓cD12, ↓xD12, ↓cD13, ↓xD13, ↓E_var, ↓E_esc, ↓E_cst, ↓E_op, ↓E_tup, ↓E_im, ↓E_ce, ↓E_call, ↓E_callK, ↓E_pop, ↓E_popi, ↓E_popc, ↓E_app, ↓E_ext, ↓E_appc, ↓E_ite, ↓E_and2, ↓E_or2, ↓E_not, ↓E_chain, ↓E_cut, ↓E_glob, ↓E_popci, ↓E_getd, ↓E_geto, ↓E_star, ↓E_trg, ↓F_lrg, ↓F_dictP, ↓F_sset, ↓F_sortK, ↓S_rse,
  ↓T_not, ↓T_and2, ↓T_or2, ↓T_var, ↓T_cst, ↓T_tt, ↓T_op, ↓T_call, ↓T_callK, ↓T_chain, ↓A_nil, ↓A_cons, ↓A_own, ↓F_disp, ↓F_fop, ↓F_dnk, ↓F_cut, ↓F_lc, ↓F_lcO, ↓I_ex, ↓I_rng1, ↓I_rng2, ↓I_rng3, ↓I_enum, ↓I_zip, ↓I_rev, ↓G_nm, ↓G_row, ↓Gs_nil, ↓Gs_cons,
  ↓S_asg, ↓S_own, ↓EF_nil, ↓EF_e, ↓EF_f, ↓SL_nil, ↓SL_cons, ↓S_par, ↓S_sti, ↓S_stc, ↓S_exp, ↓S_ret, ↓S_retN, ↓S_ife, ↓S_fr, ↓S_whl, ↓S_brk, ↓S_cont, ↓S_pass, ↓S_nil, ↓S_cons, ↓aT_nx, ↓aT_rt, ↓aT_bk, ↓aT_ct, ↓oN_nx, ↓oR_nx, ↓oR_rt, ↓oR_bk, ↓oR_ct, ↓aE_rt, ↓aE_nx, ↓tS_nx, ↓tS_ct, ↓tS_bk, ↓tS_rt,
  ↓lV_0, ↓lV_s, ↓lO_0, ↓lO_s, ↓lZ_0, ↓lZ_s, ↓lM_c, ↓lC_0, ↓lC_s, ↓lSn_nil, ↓lSn_ref, ↓lSn_non, ↓lSn_bl, ↓lSn_int, ↓lSn_str, ↓lSn_tup, ↓lSn_lst, ↓lSn_scr, ↓lSn_dk, ↓lSn_dt, ↓lSn_own, ↓lSn_tV, ↓lSn_wyV, ↓idx_tV0, ↓idx_tV1, ↓lVs_nil, ↓lVs_cons, ↓lBl_bl, ↓wpI_t, ↓wpI_f, ↓wpI_n, ↓wpI_d, wpI_same, tX_nx, tX_rt, tX_bk, tX_ct, 
  both, lL_some, lL_none, lL_map, lL_bind, lL_ite, lX_x, lN_c,
  startE, wipeE, SameX_iff, List.map_cons, List.map_nil, List.cons_append, List.nil_append, List.length_cons, List.length_nil, List.replicate_succ, List.replicate_zero, List.getElem?_cons_zero, List.getElem?_cons_succ, List.getElem?_nil, List.set_cons_zero, List.set_cons_succ, Nat.reduceAdd, Nat.reduceSub, Nat.reduceLeDiff, Nat.reduceLT, Int.reduceLT, Int.reduceLE, sz_eq,
  Option.map_some, Option.map_none, Option.bind_some, Option.bind_none, Option.getD_some, rev_t0, rev_t1, slcT_hi, slcT_lo, cutLast, atLast, tupL, tupT, opV, opF, one_c, two_c, three_c, oneF_c, twoF_c, arI, mulV_i, mulV_t, addV, intV, unI, lenV, items?, lstItems?, idxV, atM_0, atM_1, atM_2, lstOne, enumT, enumL, revL, revItL, idxDV, key?, cmpV, cmpB, truthV, Cn.mv, refN, lC, lX?, intD?, permA, seqI_tup, seqI_lst, seqI_scr, items_seq, eqD_int, eqD_bl, eqD_lnil, eqD_nn,
  decide_eq_true_eq, decide_true, decide_false, Bool.not_true, Bool.not_false, true_and, and_true, false_and, and_false, true_implies, false_implies, implies_true, not_true_eq_false, not_false_eq_true, and_self])
local macro_rules | `(tactic| exists $ts:term,*) => `(tactic| simp (config := { dsimp := false, implicitDefEqProofs := false, maxSteps := 1000000 }) only [$[$ts:term],*, ↓cD0, ↓xD0, ↓cD1, ↓xD1, ↓cD2, ↓xD2, ↓cD3, ↓xD3, ↓cD4, ↓xD4, ↓cD5, ↓xD5, ↓cD6, ↓xD6, ↓cD7, ↓xD7, ↓cD8, ↓xD8, ↓cD9, ↓xD9, ↓cD10, ↓xD10, ↓cD11, ↓xD11, ↓cD12, ↓xD12, ↓cD13, ↓xD13, ↓E_var, ↓E_esc, ↓E_cst, ↓E_op, ↓E_tup, ↓E_im, ↓E_ce, ↓E_call, ↓E_callK, ↓E_pop, ↓E_popi, ↓E_popc, ↓E_app, ↓E_ext, ↓E_appc, ↓E_ite, ↓E_and2, ↓E_or2, ↓E_not, ↓E_chain, ↓E_cut, ↓E_glob, ↓E_popci, ↓E_getd, ↓E_geto, ↓E_star, ↓E_trg, ↓F_lrg, ↓F_dictP, ↓F_sset, ↓F_sortK, ↓S_rse,
  ↓T_not, ↓T_and2, ↓T_or2, ↓T_var, ↓T_cst, ↓T_tt, ↓T_op, ↓T_call, ↓T_callK, ↓T_chain, ↓A_nil, ↓A_cons, ↓A_own, ↓F_disp, ↓F_fop, ↓F_dnk, ↓F_cut, ↓F_lc, ↓F_lcO, ↓I_ex, ↓I_rng1, ↓I_rng2, ↓I_rng3, ↓I_enum, ↓I_zip, ↓I_rev, ↓G_nm, ↓G_row, ↓Gs_nil, ↓Gs_cons,
  ↓S_asg, ↓S_own, ↓EF_nil, ↓EF_e, ↓EF_f, ↓SL_nil, ↓SL_cons, ↓S_par, ↓S_sti, ↓S_stc, ↓S_exp, ↓S_ret, ↓S_retN, ↓S_ife, ↓S_fr, ↓S_whl, ↓S_brk, ↓S_cont, ↓S_pass, ↓S_nil, ↓S_cons, ↓aT_nx, ↓aT_rt, ↓aT_bk, ↓aT_ct, ↓oN_nx, ↓oR_nx, ↓oR_rt, ↓oR_bk, ↓oR_ct, ↓aE_rt, ↓aE_nx, ↓tS_nx, ↓tS_ct, ↓tS_bk, ↓tS_rt,
  ↓lV_0, ↓lV_s, ↓lO_0, ↓lO_s, ↓lZ_0, ↓lZ_s, ↓lM_c, ↓lC_0, ↓lC_s, ↓lSn_nil, ↓lSn_ref, ↓lSn_non, ↓lSn_bl, ↓lSn_int, ↓lSn_str, ↓lSn_tup, ↓lSn_lst, ↓lSn_scr, ↓lSn_dk, ↓lSn_dt, ↓lSn_own, ↓lSn_tV, ↓lSn_wyV, ↓idx_tV0, ↓idx_tV1, ↓lVs_nil, ↓lVs_cons, ↓lBl_bl, ↓wpI_t, ↓wpI_f, ↓wpI_n, ↓wpI_d, wpI_same, tX_nx, tX_rt, tX_bk, tX_ct, 
  both, lL_some, lL_none, lL_map, lL_bind, lL_ite, lX_x, lN_c,
  startE, wipeE, SameX_iff, List.map_cons, List.map_nil, List.cons_append, List.nil_append, List.length_cons, List.length_nil, List.replicate_succ, List.replicate_zero, List.getElem?_cons_zero, List.getElem?_cons_succ, List.getElem?_nil, List.set_cons_zero, List.set_cons_succ, Nat.reduceAdd, Nat.reduceSub, Nat.reduceLeDiff, Nat.reduceLT, Int.reduceLT, Int.reduceLE, sz_eq,
  Option.map_some, Option.map_none, Option.bind_some, Option.bind_none, Option.getD_some, rev_t0, rev_t1, slcT_hi, slcT_lo, cutLast, atLast, tupL, tupT, opV, opF, one_c, two_c, three_c, oneF_c, twoF_c, arI, mulV_i, mulV_t, addV, intV, unI, lenV, items?, lstItems?, idxV, atM_0, atM_1, atM_2, lstOne, enumT, enumL, revL, revItL, idxDV, key?, cmpV, cmpB, truthV, Cn.mv, refN, lC, lX?, intD?, permA, seqI_tup, seqI_lst, seqI_scr, items_seq, eqD_int, eqD_bl, eqD_lnil, eqD_nn,
  decide_eq_true_eq, decide_true, decide_false, Bool.not_true, Bool.not_false, true_and, and_true, false_and, and_false, true_implies, false_implies, implies_true, not_true_eq_false, not_false_eq_true, and_self])
local macro_rules | `(tactic| bv_omega) => `(tactic| simp (config := { dsimp := false, implicitDefEqProofs := false, maxSteps := 1000000 }) only [↓cD0, ↓xD0, ↓cD1, ↓xD1, ↓cD2, ↓xD2, ↓cD3, ↓xD3, ↓cD4, ↓xD4, ↓cD5, ↓xD5, ↓cD6, ↓xD6, ↓cD7, ↓xD7, ↓cD8, ↓xD8, ↓cD9, ↓xD9, ↓cD10, ↓xD10, ↓cD11, ↓xD11, ↓cD12, ↓xD12, ↓cD13, ↓xD13, ↓E_var, ↓E_esc, ↓E_cst, ↓E_op, ↓E_tup, ↓E_im, ↓E_ce, ↓E_call, ↓E_callK, ↓E_pop, ↓E_popi, ↓E_popc, ↓E_app, ↓E_ext, ↓E_appc, ↓E_ite, ↓E_and2, ↓E_or2, ↓E_not, ↓E_chain, ↓E_cut, ↓E_glob, ↓E_popci, ↓E_getd, ↓E_geto, ↓E_star, ↓E_trg, ↓F_lrg, ↓F_dictP, ↓F_sset, ↓F_sortK, ↓S_rse,
  ↓T_not, ↓T_and2, ↓T_or2, ↓T_var, ↓T_cst, ↓T_tt, ↓T_op, ↓T_call, ↓T_callK, ↓T_chain, ↓A_nil, ↓A_cons, ↓A_own, ↓F_disp, ↓F_fop, ↓F_dnk, ↓F_cut, ↓F_lc, ↓F_lcO, ↓I_ex, ↓I_rng1, ↓I_rng2, ↓I_rng3, ↓I_enum, ↓I_zip, ↓I_rev, ↓G_nm, ↓G_row, ↓Gs_nil, ↓Gs_cons,
  ↓S_asg, ↓S_own, ↓EF_nil, ↓EF_e, ↓EF_f, ↓SL_nil, ↓SL_cons, ↓S_par, ↓S_sti, ↓S_stc, ↓S_exp, ↓S_ret, ↓S_retN, ↓S_fr, ↓S_whl, ↓S_brk, ↓S_cont, ↓S_pass, ↓S_nil, ↓S_cons, ↓aT_nx, ↓aT_rt, ↓aT_bk, ↓aT_ct, ↓oN_nx, ↓oR_nx, ↓oR_rt, ↓oR_bk, ↓oR_ct, ↓aE_rt, ↓aE_nx, ↓tS_nx, ↓tS_ct, ↓tS_bk, ↓tS_rt,
  ↓lV_0, ↓lV_s, ↓lO_0, ↓lO_s, ↓lZ_0, ↓lZ_s, ↓lM_c, ↓lC_0, ↓lC_s, ↓lSn_nil, ↓lSn_ref, ↓lSn_non, ↓lSn_bl, ↓lSn_int, ↓lSn_str, ↓lSn_tup, ↓lSn_lst, ↓lSn_scr, ↓lSn_dk, ↓lSn_dt, ↓lSn_own, ↓lSn_tV, ↓lSn_wyV, ↓idx_tV0, ↓idx_tV1, ↓lVs_nil, ↓lVs_cons, ↓lBl_bl, ↓wpI_t, ↓wpI_f, ↓wpI_n, ↓wpI_d, wpI_same, tX_nx, tX_rt, tX_bk, tX_ct, 
  both, lL_some, lL_none, lL_map, lL_bind, lL_ite, lX_x, lN_c,
  startE, wipeE, SameX_iff, List.map_cons, List.map_nil, List.cons_append, List.nil_append, List.length_cons, List.length_nil, List.replicate_succ, List.replicate_zero, List.getElem?_cons_zero, List.getElem?_cons_succ, List.getElem?_nil, List.set_cons_zero, List.set_cons_succ, Nat.reduceAdd, Nat.reduceSub, Nat.reduceLeDiff, Nat.reduceLT, Int.reduceLT, Int.reduceLE, sz_eq,
  Option.map_some, Option.map_none, Option.bind_some, Option.bind_none, Option.getD_some, rev_t0, rev_t1, slcT_hi, slcT_lo, cutLast, atLast, tupL, tupT, opV, opF, one_c, two_c, three_c, oneF_c, twoF_c, arI, mulV_i, mulV_t, addV, intV, unI, lenV, items?, lstItems?, idxV, atM_0, atM_1, atM_2, lstOne, enumT, enumL, revL, revItL, idxDV, key?, cmpV, cmpB, truthV, Cn.mv, refN, lC, lX?, intD?, permA, seqI_tup, seqI_lst, seqI_scr, items_seq, eqD_int, eqD_bl, eqD_lnil, eqD_nn,
  decide_eq_true_eq, decide_true, decide_false, Bool.not_true, Bool.not_false, true_and, and_true, false_and, and_false, true_implies, false_implies, implies_true, not_true_eq_false, not_false_eq_true, and_self])
local macro_rules | `(tactic| array_get_dec) => `(tactic| simp (config := { dsimp := false, implicitDefEqProofs := false, maxSteps := 1000000 }) only [↓cD0, ↓xD0, ↓cD1, ↓xD1, ↓cD2, ↓xD2, ↓cD3, ↓xD3, ↓cD4, ↓xD4, ↓cD5, ↓xD5, ↓cD6, ↓xD6, ↓cD7, ↓xD7, ↓cD8, ↓xD8, ↓cD9, ↓xD9, ↓cD10, ↓xD10, ↓cD11, ↓xD11, ↓cD12, ↓xD12, ↓cD13, ↓xD13, ↓E_var, ↓E_esc, ↓E_cst, ↓E_op, ↓E_tup, ↓E_im, ↓E_ce, ↓E_call, ↓E_callK, ↓E_pop, ↓E_popi, ↓E_popc, ↓E_app, ↓E_ext, ↓E_appc, ↓E_ite, ↓E_and2, ↓E_or2, ↓E_not, ↓E_chain, ↓E_cut, ↓E_glob, ↓E_popci, ↓E_getd, ↓E_geto, ↓E_star, ↓E_trg, ↓F_lrg, ↓F_dictP, ↓F_sset, ↓F_sortK, ↓S_rse,
  ↓T_not, ↓T_and2, ↓T_or2, ↓T_var, ↓T_cst, ↓T_tt, ↓T_op, ↓T_call, ↓T_callK, ↓T_chain, ↓A_nil, ↓A_cons, ↓A_own, ↓F_disp, ↓F_fop, ↓F_dnk, ↓F_cut, ↓F_lc, ↓F_lcO, ↓I_ex, ↓I_rng1, ↓I_rng2, ↓I_rng3, ↓I_enum, ↓I_zip, ↓I_rev, ↓G_nm, ↓G_row, ↓Gs_nil, ↓Gs_cons,
  ↓S_asg, ↓S_own, ↓EF_nil, ↓EF_e, ↓EF_f, ↓SL_nil, ↓SL_cons, ↓S_par, ↓S_sti, ↓S_stc, ↓S_exp, ↓S_ret, ↓S_retN, ↓S_ife, ↓S_fr, ↓S_whl, ↓S_brk, ↓S_cont, ↓S_pass, ↓S_nil, ↓aT_nx, ↓aT_rt, ↓aT_bk, ↓aT_ct, ↓oN_nx, ↓oR_nx, ↓oR_rt, ↓oR_bk, ↓oR_ct, ↓aE_rt, ↓aE_nx, ↓tS_nx, ↓tS_ct, ↓tS_bk, ↓tS_rt,
  ↓lV_0, ↓lV_s, ↓lO_0, ↓lO_s, ↓lZ_0, ↓lZ_s, ↓lM_c, ↓lC_0, ↓lC_s, ↓lSn_nil, ↓lSn_ref, ↓lSn_non, ↓lSn_bl, ↓lSn_int, ↓lSn_str, ↓lSn_tup, ↓lSn_lst, ↓lSn_scr, ↓lSn_dk, ↓lSn_dt, ↓lSn_own, ↓lSn_tV, ↓lSn_wyV, ↓idx_tV0, ↓idx_tV1, ↓lVs_nil, ↓lVs_cons, ↓lBl_bl, ↓wpI_t, ↓wpI_f, ↓wpI_n, ↓wpI_d, wpI_same, tX_nx, tX_rt, tX_bk, tX_ct, 
  both, lL_some, lL_none, lL_map, lL_bind, lL_ite, lX_x, lN_c,
  startE, wipeE, SameX_iff, List.map_cons, List.map_nil, List.cons_append, List.nil_append, List.length_cons, List.length_nil, List.replicate_succ, List.replicate_zero, List.getElem?_cons_zero, List.getElem?_cons_succ, List.getElem?_nil, List.set_cons_zero, List.set_cons_succ, Nat.reduceAdd, Nat.reduceSub, Nat.reduceLeDiff, Nat.reduceLT, Int.reduceLT, Int.reduceLE, sz_eq,
  Option.map_some, Option.map_none, Option.bind_some, Option.bind_none, Option.getD_some, rev_t0, rev_t1, slcT_hi, slcT_lo, cutLast, atLast, tupL, tupT, opV, opF, one_c, two_c, three_c, oneF_c, twoF_c, arI, mulV_i, mulV_t, addV, intV, unI, lenV, items?, lstItems?, idxV, atM_0, atM_1, atM_2, lstOne, enumT, enumL, revL, revItL, idxDV, key?, cmpV, cmpB, truthV, Cn.mv, refN, lC, lX?, intD?, permA, seqI_tup, seqI_lst, seqI_scr, items_seq, eqD_int, eqD_bl, eqD_lnil, eqD_nn,
  decide_eq_true_eq, decide_true, decide_false, Bool.not_true, Bool.not_false, true_and, and_true, false_and, and_false, true_implies, false_implies, implies_true, not_true_eq_false, not_false_eq_true, and_self])

theorem line_not {x : MV} (h : isTp x = false) : lineB x = false := by
  cases x <;> first | rfl | (simp [isTp] at h)
theorem line_two (a b : MV) : lineB (.tup [a, b]) = (lotB a && isB b) := by
  cases b <;> simp [lineB, isB]
theorem line_len {ws : List MV} (h : ws.length ≠ 2) : lineB (.tup ws) = false := by
  match ws, h with
  | [], _ => rfl
  | [_], _ => rfl
  | [_, _], h => exact absurd rfl h
  | _ :: _ :: _ :: _, _ => simp [lineB]
theorem w4 {x : MV} (hx : okH x = true) {k : Nat} (hk : 4 ≤ k) (Q : MV → Option (List Cn) → Prop) : lS (prg.map (·.fd)) k 4 [x] none Q .mk = Q (.bl (lineB x)) none := by
  refine lS_rule ?_ Q
  refine lS.go 3 gD4 hk rfl fun k hk => ?_
  have h4 := okV_tup (okH_okV hx)
  have h3 := okH_ref hx
  cases hT : isTp x with
  | false =>
    rw [hT] at h4
    rw [line_not hT]
    exists lSn_val h3, h4
  | true =>
    obtain ⟨ws, rfl⟩ := tup_of hT
    rw [hT] at h4
    obtain ⟨hl5, hit⟩ := okH_tup.mp hx
    by_cases hl : ws.length = 2
    · obtain ⟨a, b, rfl⟩ : ∃ a b, ws = [a, b] := by
        match ws, hl with
        | [a, b], _ => exact ⟨a, b, rfl⟩
      obtain ⟨y, e, hy, hyr⟩ := lot_error (hit a (by simp)) (k := k) (by omega)
      have har := okH_ref (hit a (by simp))
      obtain ⟨-, hb2, -⟩ := okV_isi (okH_okV (hit b (by simp)))
      have hbr := okH_ref (hit b (by simp))
      have hc : (((2 : Nat) : Int) = 2) = True := eq_true rfl
      rw [line_two, ← hy]
      cases hn : isNV y with
      | true =>
        exists h4, hc, lSn_val har, lS_of e, lSn_val hyr, hn, lSn_val hbr, hb2, Bool.true_and
      | false =>
        exists h4, hc, lSn_val har, lS_of e, lSn_val hyr, hn, Bool.false_and
    · have hc : (((ws.length : Nat) : Int) = 2) = False := eq_false (by omega)
      rw [line_len hl]
      exists h4, hc
theorem book_form {x : MV} (h : isTp x = false) : bookE x = .str "form" := by
  cases x <;> first | rfl | (simp [isTp] at h)
theorem book_len {ws : List MV} (h : 12 < ws.length) : bookE (.tup ws) = .str "form" := by
  unfold bookE
  simp only
  rw [if_pos h]
theorem book_bad {ws : List MV} (h : ¬ 12 < ws.length) {z : Nat × MV} (hb : badL ws = some z) : bookE (.tup ws) = .tup [.str "line", .int (z.1 : Nat)] := by
  unfold bookE
  simp only
  rw [if_neg h, hb]
theorem book_ok {ws : List MV} (h : ¬ 12 < ws.length) (hb : badL ws = none) : bookE (.tup ws) = .non := by
  unfold bookE
  simp only
  rw [if_neg h, hb]
theorem w5 {x : MV} (hx : okH x = true) {k : Nat} (hk : 5 ≤ k) (Q : MV → Option (List Cn) → Prop) : lS (prg.map (·.fd)) k 5 [x] none Q .mk = Q (bookE x) none := by
  refine lS_rule ?_ Q
  refine lS.go 4 gD5 hk rfl fun k hk => ?_
  have h4 := okV_tup (okH_okV hx)
  have h3 := okH_ref hx
  cases hT : isTp x with
  | false =>
    rw [hT] at h4
    rw [book_form hT]
    exists lSn_val h3, h4
  | true =>
    obtain ⟨ws, rfl⟩ := tup_of hT
    rw [hT] at h4
    obtain ⟨hl5, hit⟩ := okH_tup.mp hx
    by_cases hl : 12 < ws.length
    · have hc : ((12 : Int) < (ws.length : Nat)) = True := eq_true (by omega)
      rw [book_len hl]
      exists h4, hc
    have hc : ((12 : Int) < (ws.length : Nat)) = False := eq_false (by omega)
    exists h4, hc, enumT, enumIt0
    refine R_inv (fun z : Nat × MV => MV.tup [.int (z.1 : Nat), z.2]) (ixd ws) (fun done _ s => ∃ e1 e2 : Option MV, (∀ y ∈ done, lineB y.2 = true) ∧ s = ⟨[some (.v (.tup ws)), vS e1, vS e2], none⟩) ⟨none, none, by simp, rfl⟩ ?_ ?_
    · rintro done ⟨i, y⟩ rest s hdn ⟨e1, e2, hd, rfl⟩
      obtain ⟨-, hy, -⟩ := hd_ne hdn
      simp only at hy
      have hyr := okH_ref (hit y hy)
      have gb := fun Q => w4 (hit y hy) (k := k) hk Q
      cases hb : lineB y with
      | true =>
        rw [hb] at gb
        exists lSn_val hyr, gb
        refine ⟨some _, some _, fun z hz => ?_, rfl⟩
        rcases List.mem_append.mp hz with hz | hz
        · exact hd z hz
        · simp only [List.mem_singleton] at hz
          subst hz; exact hb
      | false =>
        rw [hb] at gb
        rw [book_bad hl (badL_at hdn hd hb)]
        exists lSn_val hyr, gb
    · rintro s ⟨e1, e2, hd, rfl⟩
      rw [book_ok hl (badL_no hd)]
      simp_wf
theorem w11 {x : MV} (hx : okH x = true) {k : Nat} (hk : 3 ≤ k) (Q : MV → Option (List Cn) → Prop) : lS (prg.map (·.fd)) k 11 [x] none Q .mk = Q (bookE x) none := by
  refine lS_rule ?_ Q
  refine lS.go 2 gD11 hk rfl fun k hk => ?_
  have h4 := okV_tup (okH_okV hx)
  have h3 := okH_ref hx
  cases hT : isTp x with
  | false =>
    rw [hT] at h4
    rw [book_form hT]
    exists lSn_val h3, h4
  | true =>
    obtain ⟨ws, rfl⟩ := tup_of hT
    rw [hT] at h4
    obtain ⟨hl5, hit⟩ := okH_tup.mp hx
    by_cases hl : 12 < ws.length
    · have hc : ((12 : Int) < (ws.length : Nat)) = True := eq_true (by omega)
      rw [book_len hl]
      exists h4, hc
    have hc : ((12 : Int) < (ws.length : Nat)) = False := eq_false (by omega)
    exists h4, hc, enumT, enumIt0
    refine R_inv (fun z : Nat × MV => MV.tup [.int (z.1 : Nat), z.2]) (ixd ws) (fun done _ s => ∃ e1 e2 : Option MV, (∀ y ∈ done, lineB y.2 = true) ∧ s = ⟨[some (.v (.tup ws)), vS e1, vS e2], none⟩) ⟨none, none, by simp, rfl⟩ ?_ ?_
    · rintro done ⟨i, y⟩ rest s hdn ⟨e1, e2, hd, rfl⟩
      obtain ⟨-, hy, -⟩ := hd_ne hdn
      simp only at hy
      have hyo := hit y hy
      have hyr := okH_ref hyo
      have hyt := okV_tup (okH_okV hyo)
      have bad : lineB y = false → bookE (.tup ws) = .tup [.str "line", .int (i : Nat)] := fun hb => book_bad hl (badL_at hdn hd hb)
      cases hT2 : isTp y with
      | false =>
        rw [hT2] at hyt
        rw [bad (line_not hT2)]
        exists lSn_val hyr, hyt
      | true =>
        obtain ⟨vs, rfl⟩ := tup_of hT2
        rw [hT2] at hyt
        obtain ⟨-, hvs⟩ := okH_tup.mp hyo
        by_cases hl2 : vs.length = 2
        · obtain ⟨a, b, rfl⟩ : ∃ a b, vs = [a, b] := by
            match vs, hl2 with
            | [a, b], _ => exact ⟨a, b, rfl⟩
          have har := okH_ref (hvs a (by simp))
          have hbr := okH_ref (hvs b (by simp))
          obtain ⟨-, hb2, -⟩ := okV_isi (okH_okV (hvs b (by simp)))
          have hc2 : (((2 : Nat) : Int) = 2) = True := eq_true rfl
          have gl := fun Q => w10 (hvs a (by simp)) (k := k) hk Q
          cases hlb : lotB a with
          | false =>
            rw [hlb] at gl
            rw [bad (by rw [line_two, hlb]; rfl)]
            exists hyt, hc2, lSn_val har, gl
          | true =>
            rw [hlb] at gl
            cases hbb : isB b with
            | false =>
              rw [hbb] at hb2
              rw [bad (by rw [line_two, hlb, hbb]; rfl)]
              exists hyt, hc2, lSn_val har, gl, lSn_val hbr, hb2
            | true =>
              rw [hbb] at hb2
              exists hyt, hc2, lSn_val har, gl, lSn_val hbr, hb2
              refine ⟨some _, some _, fun z hz => ?_, rfl⟩
              rcases List.mem_append.mp hz with hz | hz
              · exact hd z hz
              · simp only [List.mem_singleton] at hz
                subst hz
                show lineB (.tup [a, b]) = true
                rw [line_two, hlb, hbb]; rfl
        · have hc2 : (((vs.length : Nat) : Int) = 2) = False := eq_false (by omega)
          rw [bad (line_len hl2)]
          exists hyt, hc2
    · rintro s ⟨e1, e2, hd, rfl⟩
      rw [book_ok hl (badL_no hd)]
      simp_wf
theorem asc_len : ∀ {l : List Int} {a b : Int}, l.Pairwise (· < ·) → (∀ x ∈ l, a ≤ x ∧ x < b) → a ≤ b → (l.length : Int) ≤ b - a
  | [], a, b, _, _, h => by simp; omega
  | x :: l, a, b, hp, hx, h => by
    rw [List.pairwise_cons] at hp
    have h1 := hx x List.mem_cons_self
    have := asc_len (l := l) (a := x + 1) (b := b) hp.2 (fun y hy => ⟨by have := hp.1 y hy; omega, (hx y (List.mem_cons_of_mem _ hy)).2⟩) (by omega)
    rw [List.length_cons]
    omega
structure LotI (ns : List Int) : Prop where
  l : ns.length ≤ 100
  b : ∀ n ∈ ns, 0 ≤ n ∧ n < 100
def liV (ns : List Int) (b : Bool) : MV := .tup [.tup (ns.map .int), .bl b]
theorem line_ {k : Nat} (hk : 3 ≤ k) (δ : Dk) : ∃ (ns : List Int) (b : Bool) (ε : Dk), runP (prg.map (·.fd)) k 8 [.ref 1] δ.mh = .ok (liV ns b) ε.mh ∧ LotI ns := by
  have key : lS (prg.map (·.fd)) k 8 [.ref 1] δ.mh (fun x mh => ∃ (ns : List Int) (b : Bool) (ε : Dk), x = liV ns b ∧ mh = ε.mh ∧ LotI ns) .mk := by
    refine lS.go 2 gD8 hk rfl fun k hk => ?_
    obtain ⟨m, hm, δ1, q1⟩ := pick (show 2 ≤ k by omega) δ (f := fun i : Nat => MV.int (i : Nat)) (xs := [0, 1, 2, 3, 5, 8, 100]) (by simp) (by simp)
    have q1' : runP (prg.map (·.fd)) k 7 [.ref 1, .lst [.int 0, .int 1, .int 2, .int 3, .int 5, .int 8, .int 100]] δ.mh = .ok (.int (m : Nat)) δ1.mh := q1
    have hm' : m ≤ 8 ∨ m = 100 := by simp only [List.mem_cons, List.not_mem_nil, or_false] at hm; omega
    rcases hm' with hm' | rfl
    · have hc : (((m : Nat) : Int) < 100) = True := eq_true (by omega)
      have hr := rng1_nat (n := m) (by omega)
      exists lS_of q1', hc, hr, up0
      refine W_cells' (fun i : Nat => MV.int (i : Nat)) (fun done acc mh => ∃ (ms : List Int) (ε : Dk), acc = ms.map .int ∧ mh = ε.mh ∧ ms.length = done.length ∧ ∀ x ∈ ms, 0 ≤ x ∧ x < 100) (List.range m) (by rw [sz_eq]; simp; omega) (by rfl) ⟨[], δ1, rfl, rfl, rfl, by simp⟩ ?_ ?_
      · rintro done z rest acc mh hd ⟨ms, ε, rfl, rfl, h1, h2⟩
        obtain ⟨r, ε', e, hr2⟩ := draw (show 1 ≤ k by omega) ε (m := 100) (by omega) (by omega)
        exists lS_of e
        refine ⟨ms ++ [(r : Int)], ε', by simp, rfl, by simp [h1], fun x hx => ?_⟩
        rcases List.mem_append.mp hx with hx | hx
        · exact h2 x hx
        · simp only [List.mem_singleton] at hx
          subst hx; omega
      · rintro ys mh ⟨ms, ε, rfl, rfl, h1, h2⟩
        rw [List.length_range] at h1
        have hdup : dupC (.lst (ms.map .int)) = some (.l ((dupI ms).map .int)) := by
          unfold dupC
          simp only [items?, Option.bind_some, ints_map]
          rw [if_pos (by omega)]
        obtain ⟨r, ε', e, hr2⟩ := draw (show 1 ≤ k by omega) ε (m := 2) (by omega) (by omega)
        exists hdup, tupL, lS_of e
        have hb : ∀ n ∈ dupI ms, 0 ≤ n ∧ n < 100 := fun n hn => h2 n (dupI_mem.mp hn)
        refine ⟨dupI ms, _, ε', rfl, rfl, ?_, hb⟩
        have := asc_len (dupI_asc ms) hb (by omega)
        omega
    · have hc : (((100 : Nat) : Int) < 100) = False := by simp
      have hr : rng1I (.int 100) = some (.up 0 100) := rng1_nat (n := 100) (by decide)
      have hlr : lrgC (.up 0 100) = some (.l (((List.range 100).map fun i : Nat => (i : Int)).map .int)) := by
        unfold lrgC
        simp only
        rw [if_pos (by rw [sz_eq]; omega), up0, List.map_map]
        rfl
      obtain ⟨r, ε', e, hr2⟩ := draw (show 1 ≤ k by omega) δ1 (m := 2) (by omega) (by omega)
      exists lS_of q1', hc, hr, hlr, tupL, lS_of e
      refine ⟨(List.range 100).map fun i : Nat => (i : Int), _, ε', rfl, rfl, by simp, fun n hn => ?_⟩
      obtain ⟨i, hi, rfl⟩ := List.mem_map.mp hn
      have := List.mem_range.mp hi
      omega
  obtain ⟨x, mh, e, ns, b, ε, rfl, rfl, h⟩ := key.ex
  exact ⟨ns, b, ε, e, h⟩
end Lw

-- text K81c
set_option Elab.async false
set_option linter.all false
set_option maxRecDepth 1000000
set_option maxHeartbeats 4000000
namespace Lw
open PySem Py
local macro_rules | `(tactic| simp_wf) => `(tactic| simp (config := { dsimp := false, implicitDefEqProofs := false, maxSteps := 1000000 }) only [↓cD0, ↓xD0, ↓cD1, ↓xD1, ↓cD2, ↓xD2, ↓cD3, ↓xD3, ↓cD4, ↓xD4, ↓cD5, ↓xD5, ↓cD6, ↓xD6, ↓cD7, ↓xD7, ↓cD8, ↓xD8, ↓cD9, ↓xD9, ↓cD10, ↓xD10, ↓cD11, ↓xD11, ↓cD12, ↓xD12, ↓cD13, ↓xD13, ↓E_var, ↓E_esc, ↓E_cst, ↓E_op, ↓E_tup, ↓E_im, ↓E_ce, ↓E_call, ↓E_callK, ↓E_pop, ↓E_popi, ↓E_popc, ↓E_app, ↓E_ext, ↓E_appc, ↓E_ite, ↓E_and2, ↓E_or2, ↓E_not, ↓E_chain, ↓E_cut, ↓E_glob, ↓E_popci, ↓E_getd, ↓E_geto, ↓E_star, ↓E_trg, ↓F_lrg, ↓F_dictP, ↓F_sset, ↓F_sortK, ↓S_rse,
  ↓T_not, ↓T_and2, ↓T_or2, ↓T_var, ↓T_cst, ↓T_tt, ↓T_op, ↓T_call, ↓T_callK, ↓T_chain, ↓A_nil, ↓A_cons, ↓A_own, ↓F_disp, ↓F_fop, ↓F_dnk, ↓F_cut, ↓F_lc, ↓F_lcO, ↓I_ex, ↓I_rng1, ↓I_rng2, ↓I_rng3, ↓I_enum, ↓I_zip, ↓I_rev, ↓G_nm, ↓G_row, ↓Gs_nil, ↓Gs_cons,
  ↓S_asg, ↓S_own, ↓EF_nil, ↓EF_e, ↓EF_f, ↓SL_nil, ↓SL_cons, ↓S_par, ↓S_sti, ↓S_stc, ↓S_exp, ↓S_ret, ↓S_retN, ↓S_ife, ↓S_fr, ↓S_whl, ↓S_brk, ↓S_cont, ↓S_pass, ↓S_nil, ↓S_cons, ↓aT_nx, ↓aT_rt, ↓aT_bk, ↓aT_ct, ↓oN_nx, ↓oR_nx, ↓oR_rt, ↓oR_bk, ↓oR_ct, ↓aE_rt, ↓aE_nx, ↓tS_nx, ↓tS_ct, ↓tS_bk, ↓tS_rt,
  ↓lV_0, ↓lV_s, ↓lO_0, ↓lO_s, ↓lZ_0, ↓lZ_s, ↓lM_c, ↓lC_0, ↓lC_s, ↓lSn_nil, ↓lSn_ref, ↓lSn_non, ↓lSn_bl, ↓lSn_int, ↓lSn_str, ↓lSn_tup, ↓lSn_lst, ↓lSn_scr, ↓lSn_dk, ↓lSn_dt, ↓lSn_own, ↓lSn_tV, ↓lSn_wyV, ↓idx_tV0, ↓idx_tV1, ↓lVs_nil, ↓lVs_cons, ↓lBl_bl, ↓wpI_t, ↓wpI_f, ↓wpI_n, ↓wpI_d, wpI_same, tX_nx, tX_rt, tX_bk, tX_ct, 
  both, lL_some, lL_none, lL_map, lL_bind, lL_ite, lX_x, lN_c,
  startE, wipeE, SameX_iff, List.map_cons, List.map_nil, List.cons_append, List.nil_append, List.length_cons, List.length_nil, List.replicate_succ, List.replicate_zero, List.getElem?_cons_zero, List.getElem?_cons_succ, List.getElem?_nil, List.set_cons_zero, List.set_cons_succ, Nat.reduceAdd, Nat.reduceSub, Nat.reduceLeDiff, Nat.reduceLT, Int.reduceLT, Int.reduceLE, sz_eq,
  Option.map_some, Option.map_none, Option.bind_some, Option.bind_none, Option.getD_some, rev_t0, rev_t1, slcT_hi, slcT_lo, cutLast, atLast, tupL, tupT, opV, opF, one_c, two_c, three_c, oneF_c, twoF_c, arI, mulV_i, mulV_t, addV, intV, unI, lenV, items?, lstItems?, idxV, atM_0, atM_1, atM_2, lstOne, enumT, enumL, revL, revItL, idxDV, key?, cmpV, cmpB, truthV, Cn.mv, refN, lC, lX?, intD?, permA, seqI_tup, seqI_lst, seqI_scr, items_seq, eqD_int, eqD_bl, eqD_lnil, eqD_nn,
  decide_eq_true_eq, decide_true, decide_false, Bool.not_true, Bool.not_false, true_and, and_true, false_and, and_false, true_implies, false_implies, implies_true, not_true_eq_false, not_false_eq_true, and_self])
local macro_rules | `(tactic| exists $ts:term,*) => `(tactic| simp (config := { dsimp := false, implicitDefEqProofs := false, maxSteps := 1000000 }) only [$[$ts:term],*, ↓cD0, ↓xD0, ↓cD1, ↓xD1, ↓cD2, ↓xD2, ↓cD3, ↓xD3, ↓cD4, ↓xD4, ↓cD5, ↓xD5, ↓cD6, ↓xD6, ↓cD7, ↓xD7, ↓cD8, ↓xD8, ↓cD9, ↓xD9, ↓cD10, ↓xD10, ↓cD11, ↓xD11, ↓cD12, ↓xD12, ↓cD13, ↓xD13, ↓E_var, ↓E_esc, ↓E_cst, ↓E_op, ↓E_tup, ↓E_im, ↓E_ce, ↓E_call, ↓E_callK, ↓E_pop, ↓E_popi, ↓E_popc, ↓E_app, ↓E_ext, ↓E_appc, ↓E_ite, ↓E_and2, ↓E_or2, ↓E_not, ↓E_chain, ↓E_cut, ↓E_glob, ↓E_popci, ↓E_getd, ↓E_geto, ↓E_star, ↓E_trg, ↓F_lrg, ↓F_dictP, ↓F_sset, ↓F_sortK, ↓S_rse,
  ↓T_not, ↓T_and2, ↓T_or2, ↓T_var, ↓T_cst, ↓T_tt, ↓T_op, ↓T_call, ↓T_callK, ↓T_chain, ↓A_nil, ↓A_cons, ↓A_own, ↓F_disp, ↓F_fop, ↓F_dnk, ↓F_cut, ↓F_lc, ↓F_lcO, ↓I_ex, ↓I_rng1, ↓I_rng2, ↓I_rng3, ↓I_enum, ↓I_zip, ↓I_rev, ↓G_nm, ↓G_row, ↓Gs_nil, ↓Gs_cons,
  ↓S_asg, ↓S_own, ↓EF_nil, ↓EF_e, ↓EF_f, ↓SL_nil, ↓SL_cons, ↓S_par, ↓S_sti, ↓S_stc, ↓S_exp, ↓S_ret, ↓S_retN, ↓S_ife, ↓S_fr, ↓S_whl, ↓S_brk, ↓S_cont, ↓S_pass, ↓S_nil, ↓S_cons, ↓aT_nx, ↓aT_rt, ↓aT_bk, ↓aT_ct, ↓oN_nx, ↓oR_nx, ↓oR_rt, ↓oR_bk, ↓oR_ct, ↓aE_rt, ↓aE_nx, ↓tS_nx, ↓tS_ct, ↓tS_bk, ↓tS_rt,
  ↓lV_0, ↓lV_s, ↓lO_0, ↓lO_s, ↓lZ_0, ↓lZ_s, ↓lM_c, ↓lC_0, ↓lC_s, ↓lSn_nil, ↓lSn_ref, ↓lSn_non, ↓lSn_bl, ↓lSn_int, ↓lSn_str, ↓lSn_tup, ↓lSn_lst, ↓lSn_scr, ↓lSn_dk, ↓lSn_dt, ↓lSn_own, ↓lSn_tV, ↓lSn_wyV, ↓idx_tV0, ↓idx_tV1, ↓lVs_nil, ↓lVs_cons, ↓lBl_bl, ↓wpI_t, ↓wpI_f, ↓wpI_n, ↓wpI_d, wpI_same, tX_nx, tX_rt, tX_bk, tX_ct, 
  both, lL_some, lL_none, lL_map, lL_bind, lL_ite, lX_x, lN_c,
  startE, wipeE, SameX_iff, List.map_cons, List.map_nil, List.cons_append, List.nil_append, List.length_cons, List.length_nil, List.replicate_succ, List.replicate_zero, List.getElem?_cons_zero, List.getElem?_cons_succ, List.getElem?_nil, List.set_cons_zero, List.set_cons_succ, Nat.reduceAdd, Nat.reduceSub, Nat.reduceLeDiff, Nat.reduceLT, Int.reduceLT, Int.reduceLE, sz_eq,
  Option.map_some, Option.map_none, Option.bind_some, Option.bind_none, Option.getD_some, rev_t0, rev_t1, slcT_hi, slcT_lo, cutLast, atLast, tupL, tupT, opV, opF, one_c, two_c, three_c, oneF_c, twoF_c, arI, mulV_i, mulV_t, addV, intV, unI, lenV, items?, lstItems?, idxV, atM_0, atM_1, atM_2, lstOne, enumT, enumL, revL, revItL, idxDV, key?, cmpV, cmpB, truthV, Cn.mv, refN, lC, lX?, intD?, permA, seqI_tup, seqI_lst, seqI_scr, items_seq, eqD_int, eqD_bl, eqD_lnil, eqD_nn,
  decide_eq_true_eq, decide_true, decide_false, Bool.not_true, Bool.not_false, true_and, and_true, false_and, and_false, true_implies, false_implies, implies_true, not_true_eq_false, not_false_eq_true, and_self])
local macro_rules | `(tactic| bv_omega) => `(tactic| simp (config := { dsimp := false, implicitDefEqProofs := false, maxSteps := 1000000 }) only [↓cD0, ↓xD0, ↓cD1, ↓xD1, ↓cD2, ↓xD2, ↓cD3, ↓xD3, ↓cD4, ↓xD4, ↓cD5, ↓xD5, ↓cD6, ↓xD6, ↓cD7, ↓xD7, ↓cD8, ↓xD8, ↓cD9, ↓xD9, ↓cD10, ↓xD10, ↓cD11, ↓xD11, ↓cD12, ↓xD12, ↓cD13, ↓xD13, ↓E_var, ↓E_esc, ↓E_cst, ↓E_op, ↓E_tup, ↓E_im, ↓E_ce, ↓E_call, ↓E_callK, ↓E_pop, ↓E_popi, ↓E_popc, ↓E_app, ↓E_ext, ↓E_appc, ↓E_ite, ↓E_and2, ↓E_or2, ↓E_not, ↓E_chain, ↓E_cut, ↓E_glob, ↓E_popci, ↓E_getd, ↓E_geto, ↓E_star, ↓E_trg, ↓F_lrg, ↓F_dictP, ↓F_sset, ↓F_sortK, ↓S_rse,
  ↓T_not, ↓T_and2, ↓T_or2, ↓T_var, ↓T_cst, ↓T_tt, ↓T_op, ↓T_call, ↓T_callK, ↓T_chain, ↓A_nil, ↓A_cons, ↓A_own, ↓F_disp, ↓F_fop, ↓F_dnk, ↓F_cut, ↓F_lc, ↓F_lcO, ↓I_ex, ↓I_rng1, ↓I_rng2, ↓I_rng3, ↓I_enum, ↓I_zip, ↓I_rev, ↓G_nm, ↓G_row, ↓Gs_nil, ↓Gs_cons,
  ↓S_asg, ↓S_own, ↓EF_nil, ↓EF_e, ↓EF_f, ↓SL_nil, ↓SL_cons, ↓S_par, ↓S_sti, ↓S_stc, ↓S_exp, ↓S_ret, ↓S_retN, ↓S_fr, ↓S_whl, ↓S_brk, ↓S_cont, ↓S_pass, ↓S_nil, ↓S_cons, ↓aT_nx, ↓aT_rt, ↓aT_bk, ↓aT_ct, ↓oN_nx, ↓oR_nx, ↓oR_rt, ↓oR_bk, ↓oR_ct, ↓aE_rt, ↓aE_nx, ↓tS_nx, ↓tS_ct, ↓tS_bk, ↓tS_rt,
  ↓lV_0, ↓lV_s, ↓lO_0, ↓lO_s, ↓lZ_0, ↓lZ_s, ↓lM_c, ↓lC_0, ↓lC_s, ↓lSn_nil, ↓lSn_ref, ↓lSn_non, ↓lSn_bl, ↓lSn_int, ↓lSn_str, ↓lSn_tup, ↓lSn_lst, ↓lSn_scr, ↓lSn_dk, ↓lSn_dt, ↓lSn_own, ↓lSn_tV, ↓lSn_wyV, ↓idx_tV0, ↓idx_tV1, ↓lVs_nil, ↓lVs_cons, ↓lBl_bl, ↓wpI_t, ↓wpI_f, ↓wpI_n, ↓wpI_d, wpI_same, tX_nx, tX_rt, tX_bk, tX_ct, 
  both, lL_some, lL_none, lL_map, lL_bind, lL_ite, lX_x, lN_c,
  startE, wipeE, SameX_iff, List.map_cons, List.map_nil, List.cons_append, List.nil_append, List.length_cons, List.length_nil, List.replicate_succ, List.replicate_zero, List.getElem?_cons_zero, List.getElem?_cons_succ, List.getElem?_nil, List.set_cons_zero, List.set_cons_succ, Nat.reduceAdd, Nat.reduceSub, Nat.reduceLeDiff, Nat.reduceLT, Int.reduceLT, Int.reduceLE, sz_eq,
  Option.map_some, Option.map_none, Option.bind_some, Option.bind_none, Option.getD_some, rev_t0, rev_t1, slcT_hi, slcT_lo, cutLast, atLast, tupL, tupT, opV, opF, one_c, two_c, three_c, oneF_c, twoF_c, arI, mulV_i, mulV_t, addV, intV, unI, lenV, items?, lstItems?, idxV, atM_0, atM_1, atM_2, lstOne, enumT, enumL, revL, revItL, idxDV, key?, cmpV, cmpB, truthV, Cn.mv, refN, lC, lX?, intD?, permA, seqI_tup, seqI_lst, seqI_scr, items_seq, eqD_int, eqD_bl, eqD_lnil, eqD_nn,
  decide_eq_true_eq, decide_true, decide_false, Bool.not_true, Bool.not_false, true_and, and_true, false_and, and_false, true_implies, false_implies, implies_true, not_true_eq_false, not_false_eq_true, and_self])
local macro_rules | `(tactic| array_get_dec) => `(tactic| simp (config := { dsimp := false, implicitDefEqProofs := false, maxSteps := 1000000 }) only [↓cD0, ↓xD0, ↓cD1, ↓xD1, ↓cD2, ↓xD2, ↓cD3, ↓xD3, ↓cD4, ↓xD4, ↓cD5, ↓xD5, ↓cD6, ↓xD6, ↓cD7, ↓xD7, ↓cD8, ↓xD8, ↓cD9, ↓xD9, ↓cD10, ↓xD10, ↓cD11, ↓xD11, ↓cD12, ↓xD12, ↓cD13, ↓xD13, ↓E_var, ↓E_esc, ↓E_cst, ↓E_op, ↓E_tup, ↓E_im, ↓E_ce, ↓E_call, ↓E_callK, ↓E_pop, ↓E_popi, ↓E_popc, ↓E_app, ↓E_ext, ↓E_appc, ↓E_ite, ↓E_and2, ↓E_or2, ↓E_not, ↓E_chain, ↓E_cut, ↓E_glob, ↓E_popci, ↓E_getd, ↓E_geto, ↓E_star, ↓E_trg, ↓F_lrg, ↓F_dictP, ↓F_sset, ↓F_sortK, ↓S_rse,
  ↓T_not, ↓T_and2, ↓T_or2, ↓T_var, ↓T_cst, ↓T_tt, ↓T_op, ↓T_call, ↓T_callK, ↓T_chain, ↓A_nil, ↓A_cons, ↓A_own, ↓F_disp, ↓F_fop, ↓F_dnk, ↓F_cut, ↓F_lc, ↓F_lcO, ↓I_ex, ↓I_rng1, ↓I_rng2, ↓I_rng3, ↓I_enum, ↓I_zip, ↓I_rev, ↓G_nm, ↓G_row, ↓Gs_nil, ↓Gs_cons,
  ↓S_asg, ↓S_own, ↓EF_nil, ↓EF_e, ↓EF_f, ↓SL_nil, ↓SL_cons, ↓S_par, ↓S_sti, ↓S_stc, ↓S_exp, ↓S_ret, ↓S_retN, ↓S_ife, ↓S_fr, ↓S_whl, ↓S_brk, ↓S_cont, ↓S_pass, ↓S_nil, ↓aT_nx, ↓aT_rt, ↓aT_bk, ↓aT_ct, ↓oN_nx, ↓oR_nx, ↓oR_rt, ↓oR_bk, ↓oR_ct, ↓aE_rt, ↓aE_nx, ↓tS_nx, ↓tS_ct, ↓tS_bk, ↓tS_rt,
  ↓lV_0, ↓lV_s, ↓lO_0, ↓lO_s, ↓lZ_0, ↓lZ_s, ↓lM_c, ↓lC_0, ↓lC_s, ↓lSn_nil, ↓lSn_ref, ↓lSn_non, ↓lSn_bl, ↓lSn_int, ↓lSn_str, ↓lSn_tup, ↓lSn_lst, ↓lSn_scr, ↓lSn_dk, ↓lSn_dt, ↓lSn_own, ↓lSn_tV, ↓lSn_wyV, ↓idx_tV0, ↓idx_tV1, ↓lVs_nil, ↓lVs_cons, ↓lBl_bl, ↓wpI_t, ↓wpI_f, ↓wpI_n, ↓wpI_d, wpI_same, tX_nx, tX_rt, tX_bk, tX_ct, 
  both, lL_some, lL_none, lL_map, lL_bind, lL_ite, lX_x, lN_c,
  startE, wipeE, SameX_iff, List.map_cons, List.map_nil, List.cons_append, List.nil_append, List.length_cons, List.length_nil, List.replicate_succ, List.replicate_zero, List.getElem?_cons_zero, List.getElem?_cons_succ, List.getElem?_nil, List.set_cons_zero, List.set_cons_succ, Nat.reduceAdd, Nat.reduceSub, Nat.reduceLeDiff, Nat.reduceLT, Int.reduceLT, Int.reduceLE, sz_eq,
  Option.map_some, Option.map_none, Option.bind_some, Option.bind_none, Option.getD_some, rev_t0, rev_t1, slcT_hi, slcT_lo, cutLast, atLast, tupL, tupT, opV, opF, one_c, two_c, three_c, oneF_c, twoF_c, arI, mulV_i, mulV_t, addV, intV, unI, lenV, items?, lstItems?, idxV, atM_0, atM_1, atM_2, lstOne, enumT, enumL, revL, revItL, idxDV, key?, cmpV, cmpB, truthV, Cn.mv, refN, lC, lX?, intD?, permA, seqI_tup, seqI_lst, seqI_scr, items_seq, eqD_int, eqD_bl, eqD_lnil, eqD_nn,
  decide_eq_true_eq, decide_true, decide_false, Bool.not_true, Bool.not_false, true_and, and_true, false_and, and_false, true_implies, false_implies, implies_true, not_true_eq_false, not_false_eq_true, and_self])

theorem pickX {k : Nat} (hk : 2 ≤ k) (δ : Dk) {L : List MV} (h0 : L ≠ []) (hx : L.length < 1000000) : lS (prg.map (·.fd)) k 7 [.ref 1, .lst L] δ.mh (fun x mh => x ∈ L ∧ ∃ ε : Dk, mh = ε.mh) .mk := by
  obtain ⟨y, hy, ε, e⟩ := pick hk δ (f := fun x => x) (xs := L) h0 hx
  rw [List.map_id'] at e
  rw [lS_of e]
  exact ⟨hy, ε, rfl⟩
theorem W_mapI {D : Fns} {e : List (Option Slot)} {mh : Option (List Cn)} {tg : G} {own : List Nat} {el : E} {QC : Cn → S → Prop} (f : MV → MV) (zs : List MV) (hl : zs.length ≤ sizeLine) (hv : noOs e own = true)
    (st : ∀ z ∈ zs, lN (wipeE e own) (fun en => wq (bindG tg z) ⟨en, mh⟩ (fun _ t => wq (denE D el) t (fun y t => y = f z ∧ SameX own ⟨e, mh⟩ t) .mk) .mk) .mk)
    (q : QC (.l (zs.map f)) ⟨e, mh⟩) : lW D tg own .tt el zs ⟨e, mh⟩ QC .mk := by
  have := W_map' (D := D) (e := e) (mh := mh) (tg := tg) (own := own) (el := el) (QC := QC) (fun x => x) f zs hl hv st q
  rwa [List.map_id'] at this
theorem okB_s (x : Str) (n : Nat) (h : okX (.str x) = true) (h2 : (PyData.str x).showable = true) (h3 : (PyData.str x).leavesShort 100 = true) (h4 : (PyData.str x).bulk ≤ n) (h5 : (PyData.str x).depth ≤ 0) : OkB n 0 (.str x) := ⟨rfl, nice_txt rfl h h2 h3 h4 h5⟩
theorem okB_i (i : Int) (h : i.natAbs < 10 ^ 90) : OkB 1 1 (.int i) := (okB_int h).mono (by omega) (by omega)
theorem ms_ok {ls : List Int} (h : LotI ls) : ∀ x ∈ ls.map MV.int, OkB 0 0 x := fun x hx => by
  obtain ⟨n, hn, rfl⟩ := List.mem_map.mp hx
  have := h.b n hn
  exact okB_int (Nat.lt_of_lt_of_le (show n.natAbs < 1000 by omega) (by decide))
theorem okB_li {ns : List Int} (h : LotI ns) (b : Bool) : OkB 202 2 (liV ns b) := by
  have h1 := okB_tup (m := 100) (ms_ok h) (by rw [List.length_map]; exact h.l) (by omega)
  refine (okB_tup (n := 100) (d := 1) (m := 2) (fun x hx => ?_) (by simp) (by omega)).mono (by omega) (by omega)
  simp only [List.mem_cons, List.not_mem_nil, or_false] at hx
  rcases hx with rfl | rfl
  · exact h1.mono (by omega) (by omega)
  · exact (okB_bl b).mono (by omega) (by omega)
/-- a row of short things as a lot -/
def Rw (xs : List MV) (m : Nat) : Prop := xs.length ≤ m ∧ ∀ x ∈ xs, OkB 1 1 x
theorem Rw.app {xs ys : List MV} {m n : Nat} (h : Rw xs m) (k : Rw ys n) : Rw (xs ++ ys) (m + n) := ⟨by have := h.1; have := k.1; rw [List.length_append]; omega, fun x hx => (List.mem_append.mp hx).elim (h.2 x) (k.2 x)⟩
theorem Rw.one {x : MV} (h : OkB 1 1 x) : Rw [x] 1 := ⟨by simp, fun y hy => by rw [List.mem_singleton.mp hy]; exact h⟩
theorem Rw.rev {xs : List MV} {m : Nat} (h : Rw xs m) : Rw xs.reverse m := ⟨by rw [List.length_reverse]; exact h.1, fun x hx => h.2 x (List.mem_reverse.mp hx)⟩
theorem Rw.cut {xs : List MV} {m : Nat} (h : Rw xs m) (a b : Option Int) : Rw (cutM xs a b) m := ⟨Nat.le_trans cutM_sub.2 h.1, fun x hx => h.2 x (cutM_sub.1 x hx)⟩
theorem Rw.tup {xs : List MV} {m : Nat} (h : Rw xs m) (hm : m ≤ 210) : OkB 450 4 (.tup xs) := (okB_tup h.2 h.1 (by omega)).mono (by omega) (by omega)
theorem Rw.lst {xs : List MV} {m : Nat} (h : Rw xs m) (hm : m ≤ 210) : OkB 450 4 (.lst xs) := (okB_lst h.2 h.1).mono (by omega) (by omega)
theorem pair_ok {x y : MV} {n d : Nat} (h : OkB n d x) (k : OkB n d y) : OkB (2 * (n + 1)) (d + 1) (.tup [x, y]) := okB_tup (fun z hz => by
  simp only [List.mem_cons, List.not_mem_nil, or_false] at hz
  rcases hz with rfl | rfl
  · exact h
  · exact k) (by simp) (by omega)
theorem cat_anyL {a b : List MV} (h : a.length + b.length ≤ 16777216) : catC (.lst a) (.lst b) = some (.l (a ++ b)) := by
  simp only [catC]
  rw [if_pos (by rw [sz_eq]; exact h)]
theorem odd_ {k : Nat} (hk : 4 ≤ k) (δ : Dk) {ns : List Int} (hn : LotI ns) (b : Bool) : ∃ (x : MV) (ε : Dk), runP (prg.map (·.fd)) k 12 [.ref 1, liV ns b] δ.mh = .ok x ε.mh ∧ OkB 1400 7 x := by
  have key : lS (prg.map (·.fd)) k 12 [.ref 1, liV ns b] δ.mh (fun x mh => ∃ ε : Dk, mh = ε.mh ∧ OkB 1400 7 x) .mk := by
    refine lS.go 3 gD12 hk rfl fun k hk => ?_
    have hk1 : 1 ≤ k := by omega
    array_get_dec
    rw [S_cons]
    refine q_mid (fun s => s = ⟨[some (.v (.ref 1)), some (.v (liV ns b)), some (.v (.tup (ns.map .int))), none, none, none, some (.v (.bl b)), none, none, none], δ.mh⟩) (by exists liV, oN_nx) ?_
    rintro s rfl
    rw [S_cons]
    refine q_mid (fun s => ∃ ls : List Int, (LotI ls ∧ 2 ≤ ls.length) ∧ s = ⟨[some (.v (.ref 1)), some (.v (liV ns b)), some (.v (.tup (ls.map .int))), none, none, none, some (.v (.bl b)), none, none, none], δ.mh⟩) ?_ ?_
    · by_cases hl : 1 < ns.length
      · have hc : ((1 : Int) < (ns.length : Nat)) = True := eq_true (by omega)
        exists List.length_map, hc, oN_nx
        exact ⟨ns, ⟨hn, hl⟩, rfl⟩
      · have hc : ((1 : Int) < (ns.length : Nat)) = False := eq_false (by omega)
        exists List.length_map, hc, oN_nx
        exact ⟨[3, 40], ⟨⟨by simp, by simp⟩, by simp⟩, rfl⟩
    rintro s ⟨ls, ⟨hls, hl2⟩, rfl⟩
    have hM1 : (ls.map MV.int).length = ls.length := List.length_map ..
    have hM2 := ms_ok hls
    have hl100 := hls.l
    obtain ⟨M, hM⟩ : ∃ M, ls.map MV.int = M := ⟨_, rfl⟩
    rw [hM] at hM1 hM2 ⊢
    have hMr : Rw M 100 := ⟨by omega, fun x hx => (hM2 x hx).mono (by omega) (by omega)⟩
    obtain ⟨i, δ1, q1, hi⟩ := drawN hk1 δ (m := M.length) (by omega) (by omega)
    rw [S_cons]
    refine q_mid (fun s => ∃ (o : MV) (ε : Dk), OkB 1 1 o ∧ s = ⟨[some (.v (.ref 1)), some (.v (liV ns b)), some (.v (.tup M)), none, none, none, some (.v (.bl b)), some (.v (.int (i : Nat))), some (.v o), none], ε.mh⟩) ?_ ?_
    · have hp : powOk 10 30 = true := by decide
      exists lS_of q1, hp
      refine (pickX (show 2 ≤ k by omega) δ1 (by simp) (by simp)).mono ?_
      rintro o mh ⟨ho, ε, rfl⟩
      have hoK : OkB 1 1 o := by
        simp only [List.mem_cons, List.not_mem_nil, or_false] at ho
        rcases ho with rfl | rfl | rfl | rfl | rfl | rfl | rfl | rfl | rfl | rfl
        · exact (okB_bl _).mono (by omega) (by omega)
        · exact (okB_bl _).mono (by omega) (by omega)
        · exact okB_non.mono (by omega) (by omega)
        · exact okB_i _ (by decide)
        · exact okB_i _ (by decide)
        · exact (okB_s "3" 1 (by decide +kernel) (by decide +kernel) (by decide +kernel) (by decide +kernel) (by decide +kernel)).mono (by omega) (by omega)
        · exact (okB_tup (n := 0) (d := 0) (m := 1) (fun x hx => by rw [List.mem_singleton.mp hx]; exact okB_int (by decide)) (by simp) (by omega)).mono (by omega) (by omega)
        · exact (okB_lst (n := 0) (d := 0) (m := 1) (fun x hx => by rw [List.mem_singleton.mp hx]; exact okB_int (by decide)) (by simp)).mono (by omega) (by omega)
        · exact okB_i _ (by decide)
        · exact okB_i _ (by decide)
      exists oN_nx
      exact ⟨o, ε, hoK, rfl⟩
    rintro s ⟨o, ε, hoK, rfl⟩
    have hor := okH_ref hoK.1
    obtain ⟨A, hA⟩ : ∃ A, cutM M none (some ((i : Nat) : Int)) = A := ⟨_, rfl⟩
    obtain ⟨B, hB⟩ : ∃ B, cutM M (some (((i : Nat) : Int) + 1)) none = B := ⟨_, rfl⟩
    obtain ⟨C, hC⟩ : ∃ C, cutM M (some (-1)) none = C := ⟨_, rfl⟩
    obtain ⟨D, hD⟩ : ∃ D, cutM M none (some 1) = D := ⟨_, rfl⟩
    have rA : Rw A 100 := by rw [← hA]; exact hMr.cut _ _
    have rB : Rw B 100 := by rw [← hB]; exact hMr.cut _ _
    have rC : Rw C 100 := by rw [← hC]; exact hMr.cut _ _
    have rD : Rw D 100 := by rw [← hD]; exact hMr.cut _ _
    have lM := hMr.1
    have lA := rA.1
    have lB := rB.1
    have lC := rC.1
    have lD := rD.1
    have s1 : (M.length + C.length ≤ 16777216) = True := eq_true (by omega)
    have s2 : (D.length + M.length ≤ 16777216) = True := eq_true (by omega)
    have s3 : (A.length + 1 ≤ 16777216) = True := eq_true (by omega)
    have s4 : ((A ++ [o]).length + B.length ≤ 16777216) = True := eq_true (by simp; omega)
    have s4' : (A.length + 1 + B.length ≤ 16777216) = True := eq_true (by omega)
    have s5 : (M.length + 1 ≤ 16777216) = True := eq_true (by omega)
    have dk0 : dnkC [] [] = some (.k []) := rfl
    have dk1 : dnkC [.inl 3] [.int 3] = some (.k [(.inl 3, .int 3)]) := rfl
    have k0 : OkB 450 4 (.dk []) := okB_dk.mono (by omega) (by omega)
    have kN : OkB 450 4 .non := okB_non.mono (by omega) (by omega)
    have kE : OkB 450 4 (.str "") := (okB_s "" 0 (by decide +kernel) (by decide +kernel) (by decide +kernel) (by decide +kernel) (by decide +kernel)).mono (by omega) (by omega)
    have kT : OkB 450 4 (.str "True") := (okB_s "True" 4 (by decide +kernel) (by decide +kernel) (by decide +kernel) (by decide +kernel) (by decide +kernel)).mono (by omega) (by omega)
    have kI : ∀ i : Int, i.natAbs < 10 ^ 90 → OkB 450 4 (.int i) := fun i h => (okB_int h).mono (by omega) (by omega)
    have kB : ∀ b : Bool, OkB 450 4 (.bl b) := fun b => (okB_bl b).mono (by omega) (by omega)
    have kM : OkB 450 4 (.tup M) := hMr.tup (by omega)
    rw [S_cons]
    refine q_mid (fun s => ∃ L : List MV, ((∀ x ∈ L, OkB 450 5 x) ∧ L.length ≤ 50) ∧ s = ⟨[some (.v (.ref 1)), some (.v (liV ns b)), some (.v (.tup M)), some (.v (.lst L)), none, none, some (.v (.bl b)), some (.v (.int (i : Nat))), some (.v o), none], ε.mh⟩) ?_ ?_
    · exists slcT_hi, slcT_lo, hA, hB, hC, hD, s1, s2, s3, s4, s4', lSn_val hor, listO, dk0, oN_nx
      refine ⟨_, ⟨?_, ?_⟩, rfl⟩
      · intro x hx
        simp only [List.mem_cons, List.not_mem_nil, or_false] at hx
        refine OkB.mono (n := 450) (d := 4) ?_ (by omega) (by omega)
        rcases hx with rfl | rfl | rfl | rfl | rfl | rfl | rfl | rfl | rfl
        · exact hMr.rev.tup (by omega)
        · exact (hMr.app rC).tup (by omega)
        · exact (rD.app hMr).tup (by omega)
        · exact hMr.lst (by omega)
        · exact ((rA.app (Rw.one hoK)).app rB).tup (by omega)
        · exact kN
        · exact kE
        · exact k0
        · exact kI _ (by decide)
      · simp
    rintro s ⟨L1, ⟨hL1, hL1l⟩, rfl⟩
    rw [S_cons]
    refine q_mid (fun s => ∃ L : List MV, ((∀ x ∈ L, OkB 451 5 x) ∧ L.length ≤ 100) ∧ s = ⟨[some (.v (.ref 1)), some (.v (liV ns b)), some (.v (.tup M)), some (.v (.lst L)), none, none, some (.v (.bl b)), some (.v (.int (i : Nat))), some (.v o), none], ε.mh⟩) ?_ ?_
    · have hcat : ∀ b : List MV, b.length ≤ 20 → catC (.lst L1) (.lst b) = some (.l (L1 ++ b)) := fun b h => cat_anyL (by omega)
      exists slcT_hi, slcT_lo, hA, s3, s5, lSn_val hor, dk1, hcat, if_true, oN_nx
      refine ⟨_, ⟨?_, ?_⟩, rfl⟩
      · intro x hx
        rcases List.mem_append.mp hx with hx | hx
        · exact (hL1 x hx).mono (by omega) (by omega)
        simp only [List.mem_cons, List.not_mem_nil, or_false] at hx
        rcases hx with rfl | rfl | rfl | rfl | rfl | rfl
        · exact okB_tup (n := 450) (d := 4) (m := 1) (fun x hx => by rw [List.mem_singleton.mp hx]; exact kM) (by simp) (by omega)
        · exact ((hMr.app (Rw.one (okB_i 100 (by decide)))).tup (by omega)).mono (by omega) (by omega)
        · exact ((Rw.one hoK).tup (by omega)).mono (by omega) (by omega)
        · exact ((Rw.one hoK).lst (by omega)).mono (by omega) (by omega)
        · exact ⟨rfl, (niceR_dk1 (by decide) (by decide)).mono (by omega) (by omega)⟩
        · exact ((rA.app (Rw.one hoK)).tup (by omega)).mono (by omega) (by omega)
      · simp; omega
    rintro s ⟨L2, ⟨hL2, hL2l⟩, rfl⟩
    rw [S_cons]
    refine q_mid (fun s => ∃ W : List MV, ((∀ x ∈ W, OkB 450 4 x) ∧ W.length ≤ 50) ∧ s = ⟨[some (.v (.ref 1)), some (.v (liV ns b)), some (.v (.tup M)), some (.v (.lst L2)), some (.v (.lst W)), none, some (.v (.bl b)), some (.v (.int (i : Nat))), some (.v o), none], ε.mh⟩) ?_ ?_
    · exists dk0, oN_nx
      refine ⟨_, ⟨?_, ?_⟩, rfl⟩
      · intro x hx
        simp only [List.mem_cons, List.not_mem_nil, or_false] at hx
        have hb1 : OkB 1 1 (.bl b) := (okB_bl b).mono (by omega) (by omega)
        rcases hx with rfl | rfl | rfl | rfl | rfl | rfl | rfl | rfl | rfl | rfl
        · exact kI _ (by decide)
        · exact kI _ (by decide)
        · exact kN
        · exact kT
        · exact (Rw.one ((okB_bl true).mono (by omega) (by omega))).tup (by omega)
        · exact (Rw.one hb1).lst (by omega)
        · exact kI _ (by decide)
        · exact k0
        · exact kI _ (by decide)
        · exact kB _
      · simp
    rintro s ⟨W, ⟨hW, hWl⟩, rfl⟩
    rw [S_cons]
    refine q_mid (fun s => ∃ F : List MV, ((∀ x ∈ F, OkB 1400 7 x) ∧ F.length ≤ 300) ∧ s = ⟨[some (.v (.ref 1)), some (.v (liV ns b)), some (.v (.tup M)), some (.v (.lst L2)), some (.v (.lst W)), some (.v (.lst F)), some (.v (.bl b)), some (.v (.int (i : Nat))), some (.v o), none], ε.mh⟩) ?_ ?_
    · have hcat : ∀ a b : List MV, a.length ≤ 200 → b.length ≤ 200 → catC (.lst a) (.lst b) = some (.l (a ++ b)) := fun a b h1 h2 => cat_anyL (by omega)
      simp_wf
      refine W_mapI (fun x => MV.tup [x, .bl b]) L2 (by rw [sz_eq]; omega) (by rfl) ?_ ?_
      · rintro x hx
        have hxr := okH_ref (hL2 x hx).1
        exists lSn_val hxr
      simp_wf
      refine W_mapI (fun x => MV.tup [.tup M, x]) W (by rw [sz_eq]; omega) (by rfl) ?_ ?_
      · rintro x hx
        have hxr := okH_ref (hW x hx).1
        exists lSn_val hxr
      have hcat' := hcat (L2.map fun x => MV.tup [x, .bl b]) (W.map fun x => MV.tup [.tup M, x]) (by rw [List.length_map]; omega) (by rw [List.length_map]; omega)
      exists hcat', oN_nx
      refine ⟨_, ⟨?_, ?_⟩, rfl⟩
      · intro x hx
        rcases List.mem_append.mp hx with hx | hx
        · obtain ⟨y, hy, rfl⟩ := List.mem_map.mp hx
          exact (pair_ok (hL2 y hy) ((kB b).mono (by omega) (by omega))).mono (by omega) (by omega)
        · obtain ⟨y, hy, rfl⟩ := List.mem_map.mp hx
          exact (pair_ok kM (hW y hy)).mono (by omega) (by omega)
      · simp; omega
    rintro s ⟨F1, ⟨hF1, hF1l⟩, rfl⟩
    have kb : OkB 450 4 (.bl b) := kB b
    rw [S_cons]
    refine q_mid (fun s => ∃ F : List MV, ((∀ x ∈ F, OkB 1400 7 x) ∧ F.length ≤ 400) ∧ s = ⟨[some (.v (.ref 1)), some (.v (liV ns b)), some (.v (.tup M)), some (.v (.lst L2)), some (.v (.lst W)), some (.v (.lst F)), some (.v (.bl b)), some (.v (.int (i : Nat))), some (.v o), none], ε.mh⟩) ?_ ?_
    · have hcat : ∀ b : List MV, b.length ≤ 20 → catC (.lst F1) (.lst b) = some (.l (F1 ++ b)) := fun b h => cat_anyL (by omega)
      exists dk0, hcat, if_true, oN_nx
      refine ⟨_, ⟨?_, ?_⟩, rfl⟩
      · intro x hx
        rcases List.mem_append.mp hx with hx | hx
        · exact hF1 x hx
        simp only [List.mem_cons, List.not_mem_nil, or_false] at hx
        have lift : ∀ {x : MV} {n d : Nat}, OkB n d x → n ≤ 1400 → d ≤ 7 → OkB 1400 7 x := fun h h1 h2 => h.mono h1 h2
        rcases hx with rfl | rfl | rfl | rfl | rfl | rfl | rfl | rfl | rfl | rfl | rfl
        · exact lift (okB_tup (n := 450) (d := 4) (m := 1) (fun x hx => by rw [List.mem_singleton.mp hx]; exact kM) (by simp) (by omega)) (by omega) (by omega)
        · exact lift (okB_tup (n := 450) (d := 4) (m := 3) (fun x hx => by
            simp only [List.mem_cons, List.not_mem_nil, or_false] at hx
            rcases hx with rfl | rfl | rfl
            · exact kM
            · exact kb
            · exact kb) (by simp) (by omega)) (by omega) (by omega)
        · exact lift (pair_ok kb kM) (by omega) (by omega)
        · exact lift (okB_lst (n := 450) (d := 4) (m := 2) (fun x hx => by
            simp only [List.mem_cons, List.not_mem_nil, or_false] at hx
            rcases hx with rfl | rfl
            · exact kM
            · exact kb) (by simp)) (by omega) (by omega)
        · exact lift kN (by omega) (by omega)
        · exact lift (okB_tup (n := 0) (d := 0) (m := 0) (by simp) (by simp) (by omega)) (by omega) (by omega)
        · exact lift kM (by omega) (by omega)
        · exact lift kb (by omega) (by omega)
        · exact lift okB_line (by omega) (by omega)
        · exact lift k0 (by omega) (by omega)
        · exact lift (pair_ok kM kM) (by omega) (by omega)
      · simp; omega
    rintro s ⟨F2, ⟨hF2, hF2l⟩, rfl⟩
    have hcat : ∀ b : List MV, b.length ≤ 20 → catC (.lst F2) (.lst b) = some (.l (F2 ++ b)) := fun b h => cat_anyL (by omega)
    exists hcat, if_true
    refine (pickX (show 2 ≤ k by omega) ε (by simp) (by simp; omega)).mono ?_
    rintro x mh ⟨hx, ε', rfl⟩
    refine ⟨ε', rfl, ?_⟩
    rcases List.mem_append.mp hx with hx | hx
    · exact hF2 x hx
    simp only [List.mem_cons, List.not_mem_nil, or_false] at hx
    have t1 : ∀ L : List MV, (∀ x ∈ L, OkB 0 0 x) → L.length ≤ 3 → OkB 450 4 (.tup L) := fun L h h2 => (okB_tup h h2 (by omega)).mono (by omega) (by omega)
    rcases hx with rfl | rfl | rfl
    · exact (pair_ok (t1 [] (by simp) (by simp)) kb).mono (by omega) (by omega)
    · exact (pair_ok (t1 [.bl true] (fun x hx => by rw [List.mem_singleton.mp hx]; exact okB_bl _) (by simp)) kb).mono (by omega) (by omega)
    · exact (pair_ok (t1 [.int 0, .bl true] (fun x hx => by
        simp only [List.mem_cons, List.not_mem_nil, or_false] at hx
        rcases hx with rfl | rfl
        · exact okB_int (by decide)
        · exact okB_bl _) (by simp)) kb).mono (by omega) (by omega)
  obtain ⟨x, mh, e, ε, rfl, h⟩ := key.ex
  exact ⟨x, ε, e, h⟩
end Lw

-- text K81d
set_option Elab.async false
set_option linter.all false
set_option maxRecDepth 1000000
set_option maxHeartbeats 4000000
namespace Lw
open PySem Py
local macro_rules | `(tactic| simp_wf) => `(tactic| simp (config := { dsimp := false, implicitDefEqProofs := false, maxSteps := 1000000 }) only [↓cD0, ↓xD0, ↓cD1, ↓xD1, ↓cD2, ↓xD2, ↓cD3, ↓xD3, ↓cD4, ↓xD4, ↓cD5, ↓xD5, ↓cD6, ↓xD6, ↓cD7, ↓xD7, ↓cD8, ↓xD8, ↓cD9, ↓xD9, ↓cD10, ↓xD10, ↓cD11, ↓xD11, ↓cD12, ↓xD12, ↓cD13, ↓xD13, ↓E_var, ↓E_esc, ↓E_cst, ↓E_op, ↓E_tup, ↓E_im, ↓E_ce, ↓E_call, ↓E_callK, ↓E_pop, ↓E_popi, ↓E_popc, ↓E_app, ↓E_ext, ↓E_appc, ↓E_ite, ↓E_and2, ↓E_or2, ↓E_not, ↓E_chain, ↓E_cut, ↓E_glob, ↓E_popci, ↓E_getd, ↓E_geto, ↓E_star, ↓E_trg, ↓F_lrg, ↓F_dictP, ↓F_sset, ↓F_sortK, ↓S_rse,
  ↓T_not, ↓T_and2, ↓T_or2, ↓T_var, ↓T_cst, ↓T_tt, ↓T_op, ↓T_call, ↓T_callK, ↓T_chain, ↓A_nil, ↓A_cons, ↓A_own, ↓F_disp, ↓F_fop, ↓F_dnk, ↓F_cut, ↓F_lc, ↓F_lcO, ↓I_ex, ↓I_rng1, ↓I_rng2, ↓I_rng3, ↓I_enum, ↓I_zip, ↓I_rev, ↓G_nm, ↓G_row, ↓Gs_nil, ↓Gs_cons,
  ↓S_asg, ↓S_own, ↓EF_nil, ↓EF_e, ↓EF_f, ↓SL_nil, ↓SL_cons, ↓S_par, ↓S_sti, ↓S_stc, ↓S_exp, ↓S_ret, ↓S_retN, ↓S_ife, ↓S_fr, ↓S_whl, ↓S_brk, ↓S_cont, ↓S_pass, ↓S_nil, ↓S_cons, ↓aT_nx, ↓aT_rt, ↓aT_bk, ↓aT_ct, ↓oN_nx, ↓oR_nx, ↓oR_rt, ↓oR_bk, ↓oR_ct, ↓aE_rt, ↓aE_nx, ↓tS_nx, ↓tS_ct, ↓tS_bk, ↓tS_rt,
  ↓lV_0, ↓lV_s, ↓lO_0, ↓lO_s, ↓lZ_0, ↓lZ_s, ↓lM_c, ↓lC_0, ↓lC_s, ↓lSn_nil, ↓lSn_ref, ↓lSn_non, ↓lSn_bl, ↓lSn_int, ↓lSn_str, ↓lSn_tup, ↓lSn_lst, ↓lSn_scr, ↓lSn_dk, ↓lSn_dt, ↓lSn_own, ↓lSn_tV, ↓lSn_wyV, ↓idx_tV0, ↓idx_tV1, ↓lVs_nil, ↓lVs_cons, ↓lBl_bl, ↓wpI_t, ↓wpI_f, ↓wpI_n, ↓wpI_d, wpI_same, tX_nx, tX_rt, tX_bk, tX_ct, 
  both, lL_some, lL_none, lL_map, lL_bind, lL_ite, lX_x, lN_c,
  startE, wipeE, SameX_iff, List.map_cons, List.map_nil, List.cons_append, List.nil_append, List.length_cons, List.length_nil, List.replicate_succ, List.replicate_zero, List.getElem?_cons_zero, List.getElem?_cons_succ, List.getElem?_nil, List.set_cons_zero, List.set_cons_succ, Nat.reduceAdd, Nat.reduceSub, Nat.reduceLeDiff, Nat.reduceLT, Int.reduceLT, Int.reduceLE, sz_eq,
  Option.map_some, Option.map_none, Option.bind_some, Option.bind_none, Option.getD_some, rev_t0, rev_t1, slcT_hi, slcT_lo, cutLast, atLast, tupL, tupT, opV, opF, one_c, two_c, three_c, oneF_c, twoF_c, arI, mulV_i, mulV_t, addV, intV, unI, lenV, items?, lstItems?, idxV, atM_0, atM_1, atM_2, lstOne, enumT, enumL, revL, revItL, idxDV, key?, cmpV, cmpB, truthV, Cn.mv, refN, lC, lX?, intD?, permA, seqI_tup, seqI_lst, seqI_scr, items_seq, eqD_int, eqD_bl, eqD_lnil, eqD_nn,
  decide_eq_true_eq, decide_true, decide_false, Bool.not_true, Bool.not_false, true_and, and_true, false_and, and_false, true_implies, false_implies, implies_true, not_true_eq_false, not_false_eq_true, and_self])
local macro_rules | `(tactic| exists $ts:term,*) => `(tactic| simp (config := { dsimp := false, implicitDefEqProofs := false, maxSteps := 1000000 }) only [$[$ts:term],*, ↓cD0, ↓xD0, ↓cD1, ↓xD1, ↓cD2, ↓xD2, ↓cD3, ↓xD3, ↓cD4, ↓xD4, ↓cD5, ↓xD5, ↓cD6, ↓xD6, ↓cD7, ↓xD7, ↓cD8, ↓xD8, ↓cD9, ↓xD9, ↓cD10, ↓xD10, ↓cD11, ↓xD11, ↓cD12, ↓xD12, ↓cD13, ↓xD13, ↓E_var, ↓E_esc, ↓E_cst, ↓E_op, ↓E_tup, ↓E_im, ↓E_ce, ↓E_call, ↓E_callK, ↓E_pop, ↓E_popi, ↓E_popc, ↓E_app, ↓E_ext, ↓E_appc, ↓E_ite, ↓E_and2, ↓E_or2, ↓E_not, ↓E_chain, ↓E_cut, ↓E_glob, ↓E_popci, ↓E_getd, ↓E_geto, ↓E_star, ↓E_trg, ↓F_lrg, ↓F_dictP, ↓F_sset, ↓F_sortK, ↓S_rse,
  ↓T_not, ↓T_and2, ↓T_or2, ↓T_var, ↓T_cst, ↓T_tt, ↓T_op, ↓T_call, ↓T_callK, ↓T_chain, ↓A_nil, ↓A_cons, ↓A_own, ↓F_disp, ↓F_fop, ↓F_dnk, ↓F_cut, ↓F_lc, ↓F_lcO, ↓I_ex, ↓I_rng1, ↓I_rng2, ↓I_rng3, ↓I_enum, ↓I_zip, ↓I_rev, ↓G_nm, ↓G_row, ↓Gs_nil, ↓Gs_cons,
  ↓S_asg, ↓S_own, ↓EF_nil, ↓EF_e, ↓EF_f, ↓SL_nil, ↓SL_cons, ↓S_par, ↓S_sti, ↓S_stc, ↓S_exp, ↓S_ret, ↓S_retN, ↓S_ife, ↓S_fr, ↓S_whl, ↓S_brk, ↓S_cont, ↓S_pass, ↓S_nil, ↓S_cons, ↓aT_nx, ↓aT_rt, ↓aT_bk, ↓aT_ct, ↓oN_nx, ↓oR_nx, ↓oR_rt, ↓oR_bk, ↓oR_ct, ↓aE_rt, ↓aE_nx, ↓tS_nx, ↓tS_ct, ↓tS_bk, ↓tS_rt,
  ↓lV_0, ↓lV_s, ↓lO_0, ↓lO_s, ↓lZ_0, ↓lZ_s, ↓lM_c, ↓lC_0, ↓lC_s, ↓lSn_nil, ↓lSn_ref, ↓lSn_non, ↓lSn_bl, ↓lSn_int, ↓lSn_str, ↓lSn_tup, ↓lSn_lst, ↓lSn_scr, ↓lSn_dk, ↓lSn_dt, ↓lSn_own, ↓lSn_tV, ↓lSn_wyV, ↓idx_tV0, ↓idx_tV1, ↓lVs_nil, ↓lVs_cons, ↓lBl_bl, ↓wpI_t, ↓wpI_f, ↓wpI_n, ↓wpI_d, wpI_same, tX_nx, tX_rt, tX_bk, tX_ct, 
  both, lL_some, lL_none, lL_map, lL_bind, lL_ite, lX_x, lN_c,
  startE, wipeE, SameX_iff, List.map_cons, List.map_nil, List.cons_append, List.nil_append, List.length_cons, List.length_nil, List.replicate_succ, List.replicate_zero, List.getElem?_cons_zero, List.getElem?_cons_succ, List.getElem?_nil, List.set_cons_zero, List.set_cons_succ, Nat.reduceAdd, Nat.reduceSub, Nat.reduceLeDiff, Nat.reduceLT, Int.reduceLT, Int.reduceLE, sz_eq,
  Option.map_some, Option.map_none, Option.bind_some, Option.bind_none, Option.getD_some, rev_t0, rev_t1, slcT_hi, slcT_lo, cutLast, atLast, tupL, tupT, opV, opF, one_c, two_c, three_c, oneF_c, twoF_c, arI, mulV_i, mulV_t, addV, intV, unI, lenV, items?, lstItems?, idxV, atM_0, atM_1, atM_2, lstOne, enumT, enumL, revL, revItL, idxDV, key?, cmpV, cmpB, truthV, Cn.mv, refN, lC, lX?, intD?, permA, seqI_tup, seqI_lst, seqI_scr, items_seq, eqD_int, eqD_bl, eqD_lnil, eqD_nn,
  decide_eq_true_eq, decide_true, decide_false, Bool.not_true, Bool.not_false, true_and, and_true, false_and, and_false, true_implies, false_implies, implies_true, not_true_eq_false, not_false_eq_true, and_self])
local macro_rules | `(tactic| bv_omega) => `(tactic| simp (config := { dsimp := false, implicitDefEqProofs := false, maxSteps := 1000000 }) only [↓cD0, ↓xD0, ↓cD1, ↓xD1, ↓cD2, ↓xD2, ↓cD3, ↓xD3, ↓cD4, ↓xD4, ↓cD5, ↓xD5, ↓cD6, ↓xD6, ↓cD7, ↓xD7, ↓cD8, ↓xD8, ↓cD9, ↓xD9, ↓cD10, ↓xD10, ↓cD11, ↓xD11, ↓cD12, ↓xD12, ↓cD13, ↓xD13, ↓E_var, ↓E_esc, ↓E_cst, ↓E_op, ↓E_tup, ↓E_im, ↓E_ce, ↓E_call, ↓E_callK, ↓E_pop, ↓E_popi, ↓E_popc, ↓E_app, ↓E_ext, ↓E_appc, ↓E_ite, ↓E_and2, ↓E_or2, ↓E_not, ↓E_chain, ↓E_cut, ↓E_glob, ↓E_popci, ↓E_getd, ↓E_geto, ↓E_star, ↓E_trg, ↓F_lrg, ↓F_dictP, ↓F_sset, ↓F_sortK, ↓S_rse,
  ↓T_not, ↓T_and2, ↓T_or2, ↓T_var, ↓T_cst, ↓T_tt, ↓T_op, ↓T_call, ↓T_callK, ↓T_chain, ↓A_nil, ↓A_cons, ↓A_own, ↓F_disp, ↓F_fop, ↓F_dnk, ↓F_cut, ↓F_lc, ↓F_lcO, ↓I_ex, ↓I_rng1, ↓I_rng2, ↓I_rng3, ↓I_enum, ↓I_zip, ↓I_rev, ↓G_nm, ↓G_row, ↓Gs_nil, ↓Gs_cons,
  ↓S_asg, ↓S_own, ↓EF_nil, ↓EF_e, ↓EF_f, ↓SL_nil, ↓SL_cons, ↓S_par, ↓S_sti, ↓S_stc, ↓S_exp, ↓S_ret, ↓S_retN, ↓S_fr, ↓S_whl, ↓S_brk, ↓S_cont, ↓S_pass, ↓S_nil, ↓S_cons, ↓aT_nx, ↓aT_rt, ↓aT_bk, ↓aT_ct, ↓oN_nx, ↓oR_nx, ↓oR_rt, ↓oR_bk, ↓oR_ct, ↓aE_rt, ↓aE_nx, ↓tS_nx, ↓tS_ct, ↓tS_bk, ↓tS_rt,
  ↓lV_0, ↓lV_s, ↓lO_0, ↓lO_s, ↓lZ_0, ↓lZ_s, ↓lM_c, ↓lC_0, ↓lC_s, ↓lSn_nil, ↓lSn_ref, ↓lSn_non, ↓lSn_bl, ↓lSn_int, ↓lSn_str, ↓lSn_tup, ↓lSn_lst, ↓lSn_scr, ↓lSn_dk, ↓lSn_dt, ↓lSn_own, ↓lSn_tV, ↓lSn_wyV, ↓idx_tV0, ↓idx_tV1, ↓lVs_nil, ↓lVs_cons, ↓lBl_bl, ↓wpI_t, ↓wpI_f, ↓wpI_n, ↓wpI_d, wpI_same, tX_nx, tX_rt, tX_bk, tX_ct, 
  both, lL_some, lL_none, lL_map, lL_bind, lL_ite, lX_x, lN_c,
  startE, wipeE, SameX_iff, List.map_cons, List.map_nil, List.cons_append, List.nil_append, List.length_cons, List.length_nil, List.replicate_succ, List.replicate_zero, List.getElem?_cons_zero, List.getElem?_cons_succ, List.getElem?_nil, List.set_cons_zero, List.set_cons_succ, Nat.reduceAdd, Nat.reduceSub, Nat.reduceLeDiff, Nat.reduceLT, Int.reduceLT, Int.reduceLE, sz_eq,
  Option.map_some, Option.map_none, Option.bind_some, Option.bind_none, Option.getD_some, rev_t0, rev_t1, slcT_hi, slcT_lo, cutLast, atLast, tupL, tupT, opV, opF, one_c, two_c, three_c, oneF_c, twoF_c, arI, mulV_i, mulV_t, addV, intV, unI, lenV, items?, lstItems?, idxV, atM_0, atM_1, atM_2, lstOne, enumT, enumL, revL, revItL, idxDV, key?, cmpV, cmpB, truthV, Cn.mv, refN, lC, lX?, intD?, permA, seqI_tup, seqI_lst, seqI_scr, items_seq, eqD_int, eqD_bl, eqD_lnil, eqD_nn,
  decide_eq_true_eq, decide_true, decide_false, Bool.not_true, Bool.not_false, true_and, and_true, false_and, and_false, true_implies, false_implies, implies_true, not_true_eq_false, not_false_eq_true, and_self])
local macro_rules | `(tactic| array_get_dec) => `(tactic| simp (config := { dsimp := false, implicitDefEqProofs := false, maxSteps := 1000000 }) only [↓cD0, ↓xD0, ↓cD1, ↓xD1, ↓cD2, ↓xD2, ↓cD3, ↓xD3, ↓cD4, ↓xD4, ↓cD5, ↓xD5, ↓cD6, ↓xD6, ↓cD7, ↓xD7, ↓cD8, ↓xD8, ↓cD9, ↓xD9, ↓cD10, ↓xD10, ↓cD11, ↓xD11, ↓cD12, ↓xD12, ↓cD13, ↓xD13, ↓E_var, ↓E_esc, ↓E_cst, ↓E_op, ↓E_tup, ↓E_im, ↓E_ce, ↓E_call, ↓E_callK, ↓E_pop, ↓E_popi, ↓E_popc, ↓E_app, ↓E_ext, ↓E_appc, ↓E_ite, ↓E_and2, ↓E_or2, ↓E_not, ↓E_chain, ↓E_cut, ↓E_glob, ↓E_popci, ↓E_getd, ↓E_geto, ↓E_star, ↓E_trg, ↓F_lrg, ↓F_dictP, ↓F_sset, ↓F_sortK, ↓S_rse,
  ↓T_not, ↓T_and2, ↓T_or2, ↓T_var, ↓T_cst, ↓T_tt, ↓T_op, ↓T_call, ↓T_callK, ↓T_chain, ↓A_nil, ↓A_cons, ↓A_own, ↓F_disp, ↓F_fop, ↓F_dnk, ↓F_cut, ↓F_lc, ↓F_lcO, ↓I_ex, ↓I_rng1, ↓I_rng2, ↓I_rng3, ↓I_enum, ↓I_zip, ↓I_rev, ↓G_nm, ↓G_row, ↓Gs_nil, ↓Gs_cons,
  ↓S_asg, ↓S_own, ↓EF_nil, ↓EF_e, ↓EF_f, ↓SL_nil, ↓SL_cons, ↓S_par, ↓S_sti, ↓S_stc, ↓S_exp, ↓S_ret, ↓S_retN, ↓S_ife, ↓S_fr, ↓S_whl, ↓S_brk, ↓S_cont, ↓S_pass, ↓S_nil, ↓aT_nx, ↓aT_rt, ↓aT_bk, ↓aT_ct, ↓oN_nx, ↓oR_nx, ↓oR_rt, ↓oR_bk, ↓oR_ct, ↓aE_rt, ↓aE_nx, ↓tS_nx, ↓tS_ct, ↓tS_bk, ↓tS_rt,
  ↓lV_0, ↓lV_s, ↓lO_0, ↓lO_s, ↓lZ_0, ↓lZ_s, ↓lM_c, ↓lC_0, ↓lC_s, ↓lSn_nil, ↓lSn_ref, ↓lSn_non, ↓lSn_bl, ↓lSn_int, ↓lSn_str, ↓lSn_tup, ↓lSn_lst, ↓lSn_scr, ↓lSn_dk, ↓lSn_dt, ↓lSn_own, ↓lSn_tV, ↓lSn_wyV, ↓idx_tV0, ↓idx_tV1, ↓lVs_nil, ↓lVs_cons, ↓lBl_bl, ↓wpI_t, ↓wpI_f, ↓wpI_n, ↓wpI_d, wpI_same, tX_nx, tX_rt, tX_bk, tX_ct, 
  both, lL_some, lL_none, lL_map, lL_bind, lL_ite, lX_x, lN_c,
  startE, wipeE, SameX_iff, List.map_cons, List.map_nil, List.cons_append, List.nil_append, List.length_cons, List.length_nil, List.replicate_succ, List.replicate_zero, List.getElem?_cons_zero, List.getElem?_cons_succ, List.getElem?_nil, List.set_cons_zero, List.set_cons_succ, Nat.reduceAdd, Nat.reduceSub, Nat.reduceLeDiff, Nat.reduceLT, Int.reduceLT, Int.reduceLE, sz_eq,
  Option.map_some, Option.map_none, Option.bind_some, Option.bind_none, Option.getD_some, rev_t0, rev_t1, slcT_hi, slcT_lo, cutLast, atLast, tupL, tupT, opV, opF, one_c, two_c, three_c, oneF_c, twoF_c, arI, mulV_i, mulV_t, addV, intV, unI, lenV, items?, lstItems?, idxV, atM_0, atM_1, atM_2, lstOne, enumT, enumL, revL, revItL, idxDV, key?, cmpV, cmpB, truthV, Cn.mv, refN, lC, lX?, intD?, permA, seqI_tup, seqI_lst, seqI_scr, items_seq, eqD_int, eqD_bl, eqD_lnil, eqD_nn,
  decide_eq_true_eq, decide_true, decide_false, Bool.not_true, Bool.not_false, true_and, and_true, false_and, and_false, true_implies, false_implies, implies_true, not_true_eq_false, not_false_eq_true, and_self])

abbrev Ln := List Int × Bool
def lv (p : Ln) : MV := liV p.1 p.2
def Rl (xs : List MV) (m : Nat) : Prop := xs.length ≤ m ∧ ∀ x ∈ xs, OkB 1400 7 x
theorem Rl.app {xs ys : List MV} {m n : Nat} (h : Rl xs m) (k : Rl ys n) : Rl (xs ++ ys) (m + n) := ⟨by have := h.1; have := k.1; rw [List.length_append]; omega, fun x hx => (List.mem_append.mp hx).elim (h.2 x) (k.2 x)⟩
theorem Rl.one {x : MV} (h : OkB 1400 7 x) : Rl [x] 1 := ⟨by simp, fun y hy => by rw [List.mem_singleton.mp hy]; exact h⟩
theorem Rl.cut {xs : List MV} {m : Nat} (h : Rl xs m) (a b : Option Int) : Rl (cutM xs a b) m := ⟨Nat.le_trans cutM_sub.2 h.1, fun x hx => h.2 x (cutM_sub.1 x hx)⟩
theorem Rl.tup {xs : List MV} {m : Nat} (h : Rl xs m) (hm : m ≤ 55) : OkB 80000 10 (.tup xs) := (okB_tup h.2 h.1 (by omega)).mono (by omega) (by omega)
theorem Rl.lst {xs : List MV} {m : Nat} (h : Rl xs m) (hm : m ≤ 55) : OkB 80000 10 (.lst xs) := (okB_lst h.2 h.1).mono (by omega) (by omega)
theorem rep_ok {xs : List MV} {m : Nat} (h : Rl xs m) (n c : Nat) (hc : c ≤ 55) : OkB 80000 10 (.tup (cutM (List.replicate n xs).flatten none (some (c : Int)))) := by
  refine Rl.tup (m := c) ⟨?_, fun x hx => ?_⟩ hc
  · rw [cutM_hi, List.length_take]; omega
  · have := cutM_sub.1 x hx
    obtain ⟨l, hl, hx⟩ := List.mem_flatten.mp this
    rw [(List.mem_replicate.mp hl).2] at hx
    exact h.2 x hx
theorem enumIt1 (ws : List MV) : itemsOf (.enum (.lst ws)) = (ixd ws).map fun z => .tup [.int (z.1 : Nat), z.2] := by
  have := enumItL (fun x => x) ws
  rwa [List.map_id'] at this
def lastB : MV := .tup [.tup [.tup [.int 0], .bl true], .tup [.tup [.int 0], .int 1]]
theorem last_ok : okH lastB = true := by decide +kernel
theorem last_book : bookE lastB = .tup [.str "line", .int 1] := by
  have h1 : lineB (.tup [.tup [.int 0], .bl true]) = true := by
    rw [line_two]
    have : lotB (.tup [.int 0]) = true := lotB_t.mpr ⟨[0], rfl, by simp, by simp, by simp⟩
    rw [this]; rfl
  have h2 : lineB (.tup [.tup [.int 0], .int 1]) = false := rfl
  have hb : badL [.tup [.tup [.int 0], .bl true], .tup [.tup [.int 0], .int 1]] = some (1, .tup [.tup [.int 0], .int 1]) :=
    badL_at (done := [(0, .tup [.tup [.int 0], .bl true])]) (rest := []) rfl (fun y hy => by rw [List.mem_singleton.mp hy]; exact h1) h2
  exact book_bad (by simp) hb
theorem law {k : Nat} (hk : 20 ≤ k) {ns : List Int} (hn : ns.length ≤ 63) : lS (prg.map (·.fd)) k 13 [.scr (ns.map .int)] (some []) (fun x mh => x = .bl true) .mk := by
  refine lS.go 19 gD13 hk rfl fun k hk => ?_
  have hk1 : 1 ≤ k := by omega
  obtain ⟨δ, e0⟩ := stock hk1 hn
  have r6 : rng1I (.int 6) = some (.up 0 6) := rng1_nat (n := 6) (by decide)
  exists lS_of e0, r6, up0
  refine R_inv (fun i : Nat => MV.int (i : Nat)) (List.range 6) (fun _ _ s => ∃ (e2 e3 e4 e5 e6 e7 e8 e9 e10 e11 e12 e13 : Option MV) (δ : Dk), s = ⟨[some (.v (.scr (ns.map .int))), some (.v (.ref 1)), vS e2, vS e3, vS e4, vS e5, vS e6, vS e7, vS e8, vS e9, vS e10, vS e11, vS e12, vS e13], δ.mh⟩) ⟨none, none, none, none, none, none, none, none, none, none, none, none, δ, rfl⟩ ?_ ?_
  · rintro done t rest s hdn ⟨e2, e3, e4, e5, e6, e7, e8, e9, e10, e11, e12, e13, δ, rfl⟩
    obtain ⟨m, hm, δ1, q1⟩ := pick (show 2 ≤ k by omega) δ (f := fun i : Nat => MV.int (i : Nat)) (xs := [0, 1, 2, 3, 12]) (by simp) (by simp)
    have q1' : runP (prg.map (·.fd)) k 7 [.ref 1, .lst [.int 0, .int 1, .int 2, .int 3, .int 12]] δ.mh = .ok (.int (m : Nat)) δ1.mh := q1
    have hm' : m ≤ 12 := by simp only [List.mem_cons, List.not_mem_nil, or_false] at hm; omega
    have hr := rng1_nat (n := m) (by omega)
    array_get_dec
    rw [S_cons]
    refine q_mid (fun s => ∃ (P : List Ln) (ε : Dk), (P.length ≤ 12 ∧ ∀ p ∈ P, LotI p.1) ∧ s = ⟨[some (.v (.scr (ns.map .int))), some (.v (.ref 1)), some (.v (.int (t : Nat))), some (.v (.tup (P.map lv))), vS e4, vS e5, vS e6, vS e7, vS e8, vS e9, vS e10, vS e11, vS e12, vS e13], ε.mh⟩) ?_ ?_
    · exists lS_of q1', hr, up0
      refine W_cells' (fun i : Nat => MV.int (i : Nat)) (fun done acc mh => ∃ (P : List Ln) (ε : Dk), acc = P.map lv ∧ mh = ε.mh ∧ P.length = done.length ∧ ∀ p ∈ P, LotI p.1) (List.range m) (by rw [sz_eq]; simp; omega) (by cases e6 <;> rfl) ⟨[], δ1, rfl, rfl, rfl, by simp⟩ ?_ ?_
      · rintro done z rest acc mh hd ⟨P, ε, rfl, rfl, h1, h2⟩
        obtain ⟨ls, b, ε', e, hl⟩ := line_ (k := k) (by omega) ε
        exists lS_of e
        refine ⟨P ++ [(ls, b)], ε', by simp [lv], rfl, by simp [h1], fun x hx => ?_⟩
        rcases List.mem_append.mp hx with hx | hx
        · exact h2 x hx
        · rw [List.mem_singleton.mp hx]; exact hl
      rintro ys mh ⟨P, ε, rfl, rfl, h1, h2⟩
      rw [List.length_range] at h1
      exists tupL, oN_nx
      exact ⟨P, ε, ⟨by omega, h2⟩, rfl⟩
    rintro s ⟨P, ε, ⟨h1, h2⟩, rfl⟩
    obtain ⟨ls, b, δ2, q2, hl⟩ := line_ (k := k) (by omega) ε
    obtain ⟨P', hP'⟩ : ∃ P', P ++ [(ls, b)] = P' := ⟨_, rfl⟩
    have hX : P.map lv ++ [liV ls b] = P'.map lv := by rw [← hP']; simp [lv]
    have hPl : 1 ≤ P'.length ∧ P'.length ≤ 13 := by rw [← hP']; simp; omega
    have hPL : ∀ p ∈ P', LotI p.1 := fun p hp => by
      rw [← hP'] at hp
      rcases List.mem_append.mp hp with hp | hp
      · exact h2 p hp
      · rw [List.mem_singleton.mp hp]; exact hl
    have rB : Rl (P.map lv) 12 := ⟨by rw [List.length_map]; omega, fun x hx => by
      obtain ⟨p, hp, rfl⟩ := List.mem_map.mp hx
      exact (okB_li (h2 p hp) p.2).mono (by omega) (by omega)⟩
    have rX : Rl (P'.map lv) 13 := ⟨by rw [List.length_map]; omega, fun x hx => by
      obtain ⟨p, hp, rfl⟩ := List.mem_map.mp hx
      exact (okB_li (hPL p hp) p.2).mono (by omega) (by omega)⟩
    have hs1 : (P.length + 1 ≤ 16777216) = True := eq_true (by omega)
    have hat : ∀ j, (h : j < P'.length) → atM (P'.map lv) ((j : Nat) : Int) = some (liV P'[j].1 P'[j].2) := fun j h => by
      rw [atM_nat (by rw [List.length_map]; exact h)]
      simp [lv]
    have hat0 : atM (P'.map lv) 0 = some (liV P'[0].1 P'[0].2) := hat 0 (by omega)
    have hXl : (P'.map lv).length = P'.length := List.length_map ..
    have hXe : (P'.map lv).isEmpty = false := by
      cases hq : P'.map lv with
      | nil => rw [hq] at hXl; simp at hXl; omega
      | cons a b => rfl
    have oX : OkB 1400 7 (liV P'[0].1 P'[0].2) := (okB_li (hPL _ (List.getElem_mem _)) _).mono (by omega) (by omega)
    obtain ⟨X, hXX⟩ : ∃ X, P'.map lv = X := ⟨_, rfl⟩
    obtain ⟨B, hBB⟩ : ∃ B, P.map lv = B := ⟨_, rfl⟩
    have hBl : B.length = P.length := by rw [← hBB, List.length_map]
    rw [hXX] at hX rX hat hat0 hXl hXe
    rw [hBB] at hX rB
    rw [hBB]
    have hXl' : (X.length ≤ 1000) = True := eq_true (by omega)
    have hs1' : (B.length + 1 ≤ 16777216) = True := eq_true (by omega)
    rw [S_cons]
    refine q_mid (fun s => s = ⟨[some (.v (.scr (ns.map .int))), some (.v (.ref 1)), some (.v (.int (t : Nat))), some (.v (.tup B)), some (.v (.tup X)), vS e5, vS e6, vS e7, vS e8, vS e9, vS e10, vS e11, vS e12, vS e13], δ2.mh⟩) (by exists lS_of q2, hs1', hX, oN_nx) ?_
    rintro s rfl
    rw [S_cons]
    refine q_mid (fun s => ∃ O : List MV, ((∀ x ∈ O, OkB 80000 10 x) ∧ O.length ≤ 50) ∧ s = ⟨[some (.v (.scr (ns.map .int))), some (.v (.ref 1)), some (.v (.int (t : Nat))), some (.v (.tup B)), some (.v (.tup X)), some (.o (.l O)), vS e6, vS e7, vS e8, vS e9, vS e10, vS e11, vS e12, vS e13], δ2.mh⟩) ?_ ?_
    · exists listO, hXe, hXl', true_and, and_true, if_true, slcT_hi, hat0, oN_nx
      refine ⟨_, ⟨?_, ?_⟩, rfl⟩
      · intro x hx
        simp only [List.mem_cons, List.not_mem_nil, or_false] at hx
        rcases hx with rfl | rfl | rfl | rfl | rfl | rfl | rfl | rfl | rfl
        · exact rB.tup (by omega)
        · exact rB.lst (by omega)
        · exact rep_ok rX 13 12 (by omega)
        · exact rep_ok rX 13 13 (by omega)
        · exact rep_ok rX 20 14 (by omega)
        · exact okB_non.mono (by omega) (by omega)
        · have h12 := okB_tup rB.2 rB.1 (by omega)
          exact (okB_tup (m := 1) (fun x hx => by rw [List.mem_singleton.mp hx]; exact h12) (by simp) (by omega)).mono (by omega) (by omega)
        · exact (okB_tup (n := 0) (d := 0) (m := 0) (xs := []) (by simp) (by simp) (by omega)).mono (by omega) (by omega)
        · exact oX.mono (by omega) (by omega)
      · simp
    rintro s ⟨O, ⟨hO, hOl⟩, rfl⟩
    have r9 : rng1I (.int 9) = some (.up 0 9) := rng1_nat (n := 9) (by decide)
    rw [S_cons]
    refine q_mid (fun s => ∃ (O : List MV) (e6 e7 e10 e11 : Option MV) (ε : Dk), ((∀ x ∈ O, OkB 80000 10 x) ∧ O.length ≤ 100) ∧ s = ⟨[some (.v (.scr (ns.map .int))), some (.v (.ref 1)), some (.v (.int (t : Nat))), some (.v (.tup B)), some (.v (.tup X)), some (.o (.l O)), vS e6, vS e7, vS e8, vS e9, vS e10, vS e11, vS e12, vS e13], ε.mh⟩) ?_ ?_
    · exists r9, up0
      refine R_inv (fun i : Nat => MV.int (i : Nat)) (List.range 9) (fun done _ s => ∃ (O : List MV) (e6 e7 e10 e11 : Option MV) (ε : Dk), ((∀ x ∈ O, OkB 80000 10 x) ∧ O.length ≤ 50 + 2 * done.length) ∧ s = ⟨[some (.v (.scr (ns.map .int))), some (.v (.ref 1)), some (.v (.int (t : Nat))), some (.v (.tup B)), some (.v (.tup X)), some (.o (.l O)), vS e6, vS e7, vS e8, vS e9, vS e10, vS e11, vS e12, vS e13], ε.mh⟩) ⟨O, e6, e7, e10, e11, δ2, ⟨hO, by simpa using hOl⟩, rfl⟩ ?_ ?_
      · clear hO hOl O e6 e7 e10 e11
        rintro done z rest s hd9 ⟨O, e6, e7, e10, e11, ε, ⟨hO, hOl⟩, rfl⟩
        have hd10 : done.length ≤ 9 := by
          have := congrArg List.length hd9
          simp only [List.length_append, List.length_cons, List.length_range] at this
          omega
        obtain ⟨a, ε1, p1, ha⟩ := drawN hk1 ε (m := X.length) (by omega) (by omega)
        obtain ⟨c, ε2, p2, hc⟩ := drawN hk1 ε1 (m := X.length) (by omega) (by omega)
        obtain ⟨y1, ε3, p3, hy1⟩ := odd_ (k := k) (by omega) ε2 (hPL P'[a] (List.getElem_mem (by omega))) P'[a].2
        obtain ⟨y2, ε4, p4, hy2⟩ := odd_ (k := k) (by omega) ε3 (hPL P'[c] (List.getElem_mem (by omega))) P'[c].2
        have hya := okH_ref hy1.1
        have hyb := okH_ref hy2.1
        obtain ⟨A1, hA1⟩ : ∃ A, cutM X none (some ((a : Nat) : Int)) = A := ⟨_, rfl⟩
        obtain ⟨B1, hB1⟩ : ∃ A, cutM X (some (((a : Nat) : Int) + 1)) none = A := ⟨_, rfl⟩
        have rA1 : Rl A1 13 := by rw [← hA1]; exact rX.cut _ _
        have rB1 : Rl B1 13 := by rw [← hB1]; exact rX.cut _ _
        have l1 := rA1.1
        have l2 := rB1.1
        have u1 : (A1.length + 1 ≤ 16777216) = True := eq_true (by omega)
        have u2 : ((A1 ++ [y1]).length + B1.length ≤ 16777216) = True := eq_true (by simp; omega)
        obtain ⟨Y, hY⟩ : ∃ Y, A1 ++ [y1] ++ B1 = Y := ⟨_, rfl⟩
        have rY : Rl Y 27 := by rw [← hY]; exact (rA1.app (Rl.one hy1)).app rB1
        obtain ⟨A2, hA2⟩ : ∃ A, cutM Y none (some ((c : Nat) : Int)) = A := ⟨_, rfl⟩
        obtain ⟨B2, hB2⟩ : ∃ A, cutM Y (some (((c : Nat) : Int) + 1)) none = A := ⟨_, rfl⟩
        have rA2 : Rl A2 27 := by rw [← hA2]; exact rY.cut _ _
        have rB2 : Rl B2 27 := by rw [← hB2]; exact rY.cut _ _
        have l3 := rA2.1
        have l4 := rB2.1
        have u3 : (A2.length + 1 ≤ 16777216) = True := eq_true (by omega)
        have u4 : ((A2 ++ [y2]).length + B2.length ≤ 16777216) = True := eq_true (by simp; omega)
        have app1 : appV (.l O) (.tup Y) = some (.l (O ++ [.tup Y])) := by
          have hl : O.length < sizeLine := by rw [sz_eq]; omega
          simp [appV, hl]
        have app2 : appV (.l (O ++ [.tup Y])) (.tup (A2 ++ [y2] ++ B2)) = some (.l (O ++ [.tup Y] ++ [.tup (A2 ++ [y2] ++ B2)])) := by
          have hl : O.length + 1 < sizeLine := by rw [sz_eq]; omega
          simp [appV, hl]
        exists lS_of p1, lS_of p2, slcT_hi, slcT_lo, hA1, hB1, hat a (by omega), hat c (by omega), lS_of p3, lS_of p4, lSn_val hya, lSn_val hyb, u1, u2, hY, hA2, hB2, u3, u4, app1, app2
        refine ⟨_, some _, some _, some _, some _, ε4, ⟨fun x hx => ?_, ?_⟩, rfl⟩
        · rcases List.mem_append.mp hx with hx | hx
          · rcases List.mem_append.mp hx with hx | hx
            · exact hO x hx
            · rw [List.mem_singleton.mp hx]; exact rY.tup (by omega)
          · rw [List.mem_singleton.mp hx]; exact ((rA2.app (Rl.one hy2)).app rB2).tup (by omega)
        · simp only [List.length_append, List.length_singleton]; omega
      · clear hO hOl O e6 e7 e10 e11
        rintro s ⟨O, e6, e7, e10, e11, ε, ⟨hO, hOl⟩, rfl⟩
        exists oN_nx
        exact ⟨O, e6, e7, e10, e11, ε, ⟨hO, by simp at hOl; omega⟩, rfl⟩
    clear hO hOl O e6 e7 e10 e11
    rintro s ⟨O, e6, e7, e10, e11, ε, ⟨hO, hOl⟩, rfl⟩
    exists enumL, enumIt1
    refine R_inv (fun z : Nat × MV => MV.tup [.int (z.1 : Nat), z.2]) (ixd O) (fun done _ s => ∃ (e6 e8 e9 e12 e13 : Option MV), s = ⟨[some (.v (.scr (ns.map .int))), some (.v (.ref 1)), some (.v (.int (t : Nat))), some (.v (.tup B)), some (.v (.tup X)), some (.v (.lst O)), vS e6, vS e7, vS e8, vS e9, vS e10, vS e11, vS e12, vS e13], ε.mh⟩) ⟨e6, e8, e9, e12, e13, rfl⟩ ?_ ?_
    · clear e6 e8 e9 e12 e13
      rintro done ⟨i, x⟩ rest s hdn2 ⟨e6, e8, e9, e12, e13, rfl⟩
      obtain ⟨-, hx, -⟩ := hd_ne hdn2
      simp only at hx
      have hxo := hO x hx
      have hxr := okH_ref hxo.1
      have nx := hxo.2.mono (m := 100000) (e := 64) (by omega) (by omega)
      have hbo := bookE_ok x
      have hbr := okH_ref hbo.1
      have nb := hbo.2.mono (m := 100000) (e := 64) (by omega) (by omega)
      have gb := fun Q => w5 hxo.1 (k := k) (by omega) Q
      have gd := fun Q => w11 hxo.1 (k := k) (by omega) Q
      by_cases hi : ((i : Nat) : Int) = 3
      · exists lSn_val hxr, nx.repr, gd, lSn_val hbr, nb.repr, hi, gb, eqD_shwR_same nx, eqD_shwR_same nb
        exact ⟨some _, some _, some _, some _, some _, rfl⟩
      · have hi' : (((i : Nat) : Int) = 3) = False := eq_false hi
        exists lSn_val hxr, nx.repr, gd, lSn_val hbr, nb.repr, hi', gb, eqD_shwR_same nx, eqD_shwR_same nb
        exact ⟨some _, some _, some _, some _, some _, rfl⟩
    · clear e6 e8 e9 e12 e13
      rintro s ⟨e6, e8, e9, e12, e13, rfl⟩
      simp_wf
      exact ⟨some _, some _, some _, some _, e6, e7, e8, e9, e10, e11, e12, e13, ε, rfl⟩
  · rintro s ⟨e2, e3, e4, e5, e6, e7, e8, e9, e10, e11, e12, e13, δ, rfl⟩
    have gb : ∀ Q, lS (prg.map (·.fd)) k 5 [.tup [.tup [.tup [.int 0], .bl true], .tup [.tup [.int 0], .int 1]]] none Q .mk = Q (.tup [.str "line", .int 1]) none := fun Q => by
      have := w5 last_ok (k := k) (by omega) Q
      rw [last_book] at this
      exact this
    have nb : NiceR 100000 64 (.tup [.str "line", .int 1]) := by
      have := bookE_ok lastB
      rw [last_book] at this
      exact this.2.mono (by omega) (by omega)
    exists gb, nb.repr, eqD_shwR_same nb
theorem run (ns : List Int) (h : ns.length ≤ 63) : ∃ mh, runP (prg.map (·.fd)) 30 13 [.scr (ns.map .int)] (some []) = .ok (.bl true) mh := by
  obtain ⟨x, mh, e, rfl⟩ := (law (k := 30) (by decide) h).ex
  exact ⟨mh, e⟩
end Lw

-- the end
open PySem PySem.W PyProof.Rows
set_option maxHeartbeats 0 in
theorem PySem.Challenge.cw_onescale_k81_what_is_a_book_holds : PySem.Challenge.rw_onescale_k81_what_is_a_book.Holds := by
  w_on; o_law; k_head; (case hw => w_witness2)
  k_fill
  refine Py.row_of (l := PySem.Challenge.rw_onescale_k81_what_is_a_book) (n := 63) (k := 30) (x := "_law_script") (C := Lw.cfg) (ds := Lw.prg) (i := 13) (df := Lw.fd13) rfl (by decide) rfl ⟨rfl, by decide, by decide⟩ (fun w h Y => PySem.W.kIn_of Y) rfl Lw.prg_ok rfl rfl rfl ?facts ?bd rfl Lw.run
  case bd =>
    intro K f fd F s u
    obtain ⟨oc, od, kV, doc, pm, an, cdv, ct, osl, rfl, lk, hcd⟩ := F.ex
    exact .of_eq rfl
  case facts =>
    intro w mg h KX G
    refine' Lw.all_known KX G (Lw.kn0 KX G ?a0 ?l0 ?c0 ?p0) (Lw.kn1 KX G ?a1 ?l1 ?c1 ?p1) (Lw.kn2 KX G ?a2 ?l2 ?c2 ?p2) (Lw.kn3 KX G ?a3 ?l3 ?c3 ?p3) (Lw.kn4 KX G ?a4 ?l4 ?c4 ?p4) (Lw.kn5 KX G ?a5 ?l5 ?c5 ?p5) (Lw.kn6 KX G ?a6 ?l6 ?c6 ?p6) (Lw.kn7 KX G ?a7 ?l7 ?c7 ?p7) (Lw.kn8 KX G ?a8 ?l8 ?c8 ?p8) (Lw.kn9 KX G ?a9 ?l9 ?c9 ?p9) (Lw.kn10 KX G ?a10 ?l10 ?c10 ?p10) (Lw.kn11 KX G ?a11 ?l11 ?c11 ?p11) (Lw.kn12 KX G ?a12 ?l12 ?c12 ?p12) (Lw.kn13 KX G ?a13 ?l13 ?c13 ?p13)  ?z0 ?z1 ?z2 ?z3 ?z4 ?z5 ?z6 ?z7 ?z8 ?z9 ?z10 ?z11 (Py.glb_of KX G ?q0 ?v0) (Py.glb_of KX G ?q1 ?v1) (Py.glb_of KX G ?q2 ?v2) 
    (case a0 => k_is); (case l0 => k_is); (case c0 => k_is); (case p0 => k_is)
    (case a1 => k_is); (case l1 => k_is); (case c1 => k_is); (case p1 => k_is)
    (case a2 => k_is); (case l2 => k_is); (case c2 => k_is); (case p2 => k_is)
    (case a3 => k_is); (case l3 => k_is); (case c3 => k_is); (case p3 => k_is)
    (case a4 => k_is); (case l4 => k_is); (case c4 => k_is); (case p4 => k_is)
    (case a5 => k_is); (case l5 => k_is); (case c5 => k_is); (case p5 => k_is)
    (case a6 => k_is); (case l6 => k_is); (case c6 => k_is); (case p6 => k_is)
    (case a7 => k_is); (case l7 => k_is); (case c7 => k_is); (case p7 => k_is)
    (case a8 => k_is); (case l8 => k_is); (case c8 => k_is); (case p8 => k_is)
    (case a9 => k_is); (case l9 => k_is); (case c9 => k_is); (case p9 => k_is)
    (case a10 => k_is); (case l10 => k_is); (case c10 => k_is); (case p10 => k_is)
    (case a11 => k_is); (case l11 => k_is); (case c11 => k_is); (case p11 => k_is)
    (case a12 => k_is); (case l12 => k_is); (case c12 => k_is); (case p12 => k_is)
    (case a13 => k_is); (case l13 => k_is); (case c13 => k_is); (case p13 => k_is)
    (case z0 => k_is)
    (case z1 => k_is)
    (case z2 => k_is)
    (case z3 => k_is)
    (case z4 => k_is)
    (case z5 => k_is)
    (case z6 => k_is)
    (case z7 => k_is)
    (case z8 => k_is)
    (case z9 => k_is)
    (case z10 => k_is)
    (case z11 => k_is)
    (case q0 => k_is)
    (case v0 => exact Py.vc_int)
    (case q1 => k_is)
    (case v1 => exact Py.vc_int)
    (case q2 => k_is)
    (case v2 => exact Py.vc_int)

