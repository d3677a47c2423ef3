import PyProof.Rows.All
import HandS.ForMost
import HandS.Deep
import HandS.Flow
import HandS.DictComp
import HandS.DictTup
import HandS.Conv
import KE.DataCmp
import KE.SortData
import KE.KDictList
import KE.KDictSum
import HandS.TupSets
import HandS.SetFor
import HandS.Strs
import KE.KDictDisplayH
import KE.KDictPairs
import KE.DataMinMax
import HandS.SetKeys
import PySem.Challenge.RW_longletters_k63_lassos
set_option Elab.async false
set_option linter.all false
set_option maxRecDepth 100000
set_option maxHeartbeats 0
/-! DL0: data that stand in the heap, slots that own lists and dicts, what an expression or a statement is worth as a plain function. -/
namespace DL
open PySem PySem.Spec PyProof.Rows L2

/-- plain data: a dict by its kind of keys -/
inductive D where
  | non | bl (b : Bool) | int (i : Int) | str (x : Str) | tup (ds : List D) | lst (ds : List D) | dk (kvs : List (Key × D)) | dt (kvs : List (List Key × D)) | scr (ns : List Int)
  deriving Inhabited
def kD : Key → D
  | .inl i => .int i
  | .inr x => .str x
def tD (ks : List Key) : D := .tup (ks.map kD)

/-! ### what a value stands for -/
mutual
inductive Rp (K : PySem.W.Frag) (G : Hp) : V → D → Prop
  | non : Rp K G .non .non
  | bl (b : Bool) : Rp K G (.bl b) (.bl b)
  | int (i : Int) : Rp K G (.int i) (.int i)
  | str (x : Str) : Rp K G (.str x) (.str x)
  | lst {a : Addr} {xs : List V} {ds : List D} : G a = some (.lst xs) → Rps K G xs ds → Rp K G (.ref a) (.lst ds)
  | scr {a : Addr} {ns : List Int} : SqL K G a (ns.map V.int) → Rp K G (.ref a) (.scr ns)
  | tup {a : Addr} {xs : List V} {ds : List D} : G a = some (.tup xs) → Rps K G xs ds → Rp K G (.ref a) (.tup ds)
  | dK {a : Addr} {o : Obj} {es : List (Key × V)} {kvs : List (Key × D)} : G a = some (.frz o (.dK es)) → RpK K G es kvs → Rp K G (.ref a) (.dk kvs)
  | dT {a : Addr} {o : Obj} {es : List (List Key × V)} {kvs : List (List Key × D)} : G a = some (.frz o (.dT es)) → RpK K G es kvs → Rp K G (.ref a) (.dt kvs)
inductive Rps (K : PySem.W.Frag) (G : Hp) : List V → List D → Prop
  | nil : Rps K G [] []
  | cons {v : V} {vs : List V} {d : D} {ds : List D} : Rp K G v d → Rps K G vs ds → Rps K G (v :: vs) (d :: ds)
inductive RpK (K : PySem.W.Frag) (G : Hp) : {κ : Type} → List (κ × V) → List (κ × D) → Prop
  | nil {κ : Type} : RpK K G ([] : List (κ × V)) []
  | cons {κ : Type} {k : κ} {v : V} {es : List (κ × V)} {d : D} {kvs : List (κ × D)} : Rp K G v d → RpK K G es kvs → RpK K G ((k, v) :: es) ((k, d) :: kvs)
end

section
variable {K : PySem.W.Frag} {G G' H H' : Hp}
theorem Sm.rd {a : Addr} {u : HO} (e : Same G H) (h : Rd G a u) : Rd H a u := by
  rcases h with h | ⟨o, h⟩
  · exact .inl (e _ _ h)
  · exact .inr ⟨o, e _ _ h⟩
theorem Sm.sqL {a : Addr} {xs : List V} (e : Same G H) (h : SqL K G a xs) : SqL K H a xs := by
  rcases h with h | h
  · exact .inl (Sm.rd e h)
  · exact .inr h
theorem Sm.sqT {a : Addr} {xs : List V} (e : Same G H) (h : SqT K G a xs) : SqT K H a xs := by
  rcases h with h | h
  · exact .inl (Sm.rd e h)
  · exact .inr h
mutual
theorem Rp.mono (e : Same G H) : ∀ {v : V} {d : D}, Rp K G v d → Rp K H v d
  | _, _, .non => .non
  | _, _, .bl b => .bl b
  | _, _, .int i => .int i
  | _, _, .str x => .str x
  | _, _, .lst h r => .lst (e _ _ h) (Rps.mono e r)
  | _, _, .scr h => .scr (Sm.sqL e h)
  | _, _, .tup h r => .tup (e _ _ h) (Rps.mono e r)
  | _, _, .dK h r => .dK (e _ _ h) (RpK.mono e r)
  | _, _, .dT h r => .dT (e _ _ h) (RpK.mono e r)
theorem Rps.mono (e : Same G H) : ∀ {vs : List V} {ds : List D}, Rps K G vs ds → Rps K H vs ds
  | _, _, .nil => .nil
  | _, _, .cons h r => .cons (Rp.mono e h) (Rps.mono e r)
theorem RpK.mono (e : Same G H) : ∀ {κ : Type} {es : List (κ × V)} {kvs : List (κ × D)}, RpK K G es kvs → RpK K H es kvs
  | _, _, _, .nil => .nil
  | _, _, _, .cons h r => .cons (Rp.mono e h) (RpK.mono e r)
end
theorem Rps.len : ∀ {vs : List V} {ds : List D}, Rps K G vs ds → vs.length = ds.length
  | _, _, .nil => rfl
  | _, _, .cons _ r => by rw [List.length_cons, List.length_cons, Rps.len r]
theorem Rps.app : ∀ {vs ws : List V} {ds es : List D}, Rps K G vs ds → Rps K G ws es → Rps K G (vs ++ ws) (ds ++ es)
  | _, _, _, _, .nil, r => r
  | _, _, _, _, .cons h t, r => .cons h (Rps.app t r)
theorem Rps.get : ∀ {vs : List V} {ds : List D} {i : Nat} {d : D}, Rps K G vs ds → ds[i]? = some d → ∃ v, vs[i]? = some v ∧ Rp K G v d
  | _, _, _, _, .nil, h => by simp at h
  | _, _, 0, _, .cons h _, e => by
    simp at e
    subst e
    exact ⟨_, rfl, h⟩
  | _, _, i + 1, d, .cons _ t, e => by
    obtain ⟨v, h1, h2⟩ := Rps.get (i := i) (d := d) t (by simpa using e)
    exact ⟨v, by simpa using h1, h2⟩
theorem Rps.getV : ∀ {vs : List V} {ds : List D} {i : Nat} {v : V}, Rps K G vs ds → vs[i]? = some v → ∃ d, ds[i]? = some d ∧ Rp K G v d
  | _, _, _, _, .nil, h => by simp at h
  | _, _, 0, _, .cons h _, e => by
    simp at e
    subst e
    exact ⟨_, rfl, h⟩
  | _, _, i + 1, d, .cons _ t, e => by
    obtain ⟨v, h1, h2⟩ := Rps.getV (i := i) t (by simpa using e)
    exact ⟨v, by simpa using h1, h2⟩
theorem Rps.set : ∀ {vs : List V} {ds : List D} {v : V} {d : D} (i : Nat), Rps K G vs ds → Rp K G v d → Rps K G (vs.set i v) (ds.set i d)
  | _, _, _, _, _, .nil, _ => .nil
  | _, _, _, _, 0, .cons _ t, h => .cons h t
  | _, _, _, _, i + 1, .cons q t, h => .cons q (Rps.set i t h)
theorem Rps.take : ∀ {vs : List V} {ds : List D} (n : Nat), Rps K G vs ds → Rps K G (vs.take n) (ds.take n)
  | _, _, 0, _ => .nil
  | _, _, _ + 1, .nil => .nil
  | _, _, n + 1, .cons h t => .cons h (Rps.take n t)
theorem Rps.drop : ∀ {vs : List V} {ds : List D} (n : Nat), Rps K G vs ds → Rps K G (vs.drop n) (ds.drop n)
  | _, _, 0, r => r
  | _, _, _ + 1, .nil => .nil
  | _, _, n + 1, .cons _ t => Rps.drop n t
theorem Rps.ints : ∀ {vs : List V} {ns : List Int}, Rps K G vs (ns.map .int) → vs = ns.map V.int
  | _, [], h => by
    have h' : Rps K G _ [] := h
    cases h'
    rfl
  | _, n :: ns, h => by
    have h' : Rps K G _ (.int n :: ns.map .int) := h
    cases h' with
    | cons a b =>
      cases a
      rw [Rps.ints b]
      rfl
theorem Rps.bls : ∀ {vs : List V} {ns : List Bool}, Rps K G vs (ns.map .bl) → vs = ns.map V.bl
  | _, [], h => by
    have h' : Rps K G _ [] := h
    cases h'
    rfl
  | _, n :: ns, h => by
    have h' : Rps K G _ (.bl n :: ns.map .bl) := h
    cases h' with
    | cons a b =>
      cases a
      rw [Rps.bls b]
      rfl
theorem Rps.strs : ∀ {vs : List V} {ns : List Str}, Rps K G vs (ns.map .str) → vs = ns.map V.str
  | _, [], h => by
    have h' : Rps K G _ [] := h
    cases h'
    rfl
  | _, n :: ns, h => by
    have h' : Rps K G _ (.str n :: ns.map .str) := h
    cases h' with
    | cons a b =>
      cases a
      rw [Rps.strs b]
      rfl
theorem Rps.of_ints : ∀ ns : List Int, Rps K G (ns.map V.int) (ns.map .int)
  | [] => .nil
  | n :: ns => .cons (.int n) (Rps.of_ints ns)
end

/-! ### slots -/
inductive Sl where
  | no
  | d (x : D)
  /-- a list of one's own; the one that was handed in, to be changed -/
  | ml (xs : List D) | io (xs : List D)
  | mK (kvs : List (Key × D)) | mT (kvs : List (List Key × D))
abbrev Sls := List Sl
def Sl.own : Sl → Bool
  | .no => false
  | .d _ => false
  | _ => true
/-- what is read of a slot -/
def Sl.view : Sl → Option D
  | .no => none
  | .d x => some x
  | .ml xs => some (.lst xs)
  | .io xs => some (.lst xs)
  | .mK kvs => some (.dk kvs)
  | .mT kvs => some (.dt kvs)
section
variable (K : PySem.W.Frag) (G H : Hp)
def OwnL (a : Addr) (xs : List D) : Prop := ∃ vs, H a = some (.lst vs) ∧ Rps K G vs xs
def OwnK (a : Addr) (kvs : List (Key × D)) : Prop := ∃ es, H a = some (.dK es) ∧ RpK K G es kvs
def OwnT (a : Addr) (kvs : List (List Key × D)) : Prop := ∃ es, H a = some (.dT es) ∧ RpK K G es kvs
def OwnAt (a : Addr) : Sl → Prop
  | .ml xs => OwnL K G H a xs
  | .io xs => OwnL K G H a xs
  | .mK kvs => OwnK K G H a kvs
  | .mT kvs => OwnT K G H a kvs
  | _ => False
def SlR : Option V → Sl → Prop
  | x, .no => True
  | x, .d y => ∃ v, x = some v ∧ Rp K G v y
  | x, s => ∃ a, x = some (.ref a) ∧ OwnAt K G H a s
end
/-- the heap at the entry; what of it may be leant on; the list that was handed in to be changed -/
structure Bk where
  B : Hp
  G0 : Hp
  pa : Option Addr
structure SR (K : PySem.W.Frag) (F : Bk) (G H : Hp) (σ : L2.St) (ρ : Sls) : Prop where
  gh : Same G H
  bh : Same F.B H
  g0 : Same F.G0 G
  gb : ∀ a o, G a = some o → F.G0 a ≠ none ∨ F.B a = none ∨ ∃ xs, o = .tup xs
  len : σ.length = ρ.length
  sl : ∀ (i : Nat) s, ρ[i]? = some s → ∃ x, σ[i]? = some x ∧ SlR K G H x s
  own : ∀ (i : Nat) s a, ρ[i]? = some s → s.own = true → σ[i]? = some (some (.ref a)) → G a = none ∧ F.B a = none
  apart : ∀ (i j : Nat) s t a, i ≠ j → ρ[i]? = some s → ρ[j]? = some t → s.own = true → t.own = true → σ[i]? = some (some (.ref a)) → σ[j]? ≠ some (some (.ref a))
  io : ∀ (i : Nat) xs, ρ[i]? = some (.io xs) → ∃ a, F.pa = some a ∧ σ[i]? = some (some (.ref a))

section
variable {K : PySem.W.Frag} {F : Bk} {G G' H H' : Hp} {σ : L2.St} {ρ : Sls}
theorem Sl.own_iff {s : Sl} {a : Addr} (h : OwnAt K G H a s) : s.own = true := by
  cases s with
  | no => exact h.elim
  | d x => exact h.elim
  | _ => rfl
theorem SlR.own_of {s : Sl} {x : Option V} (h : SlR K G H x s) (o : s.own = true) : ∃ a, x = some (.ref a) ∧ OwnAt K G H a s := by
  cases s with
  | no => cases o
  | d x => cases o
  | _ => exact h
theorem SlR.of_own {s : Sl} {x : Option V} {a : Addr} (e : x = some (.ref a)) (h : OwnAt K G H a s) : SlR K G H x s := by
  cases s with
  | no => trivial
  | d x => exact h.elim
  | _ => exact ⟨a, e, h⟩
theorem OwnAt.mono {a : Addr} {s : Sl} (e : Same G G') (k : H' a = H a) (h : OwnAt K G H a s) : OwnAt K G' H' a s := by
  cases s with
  | no => exact h
  | d x => exact h
  | ml xs => obtain ⟨vs, h1, h2⟩ := h; exact ⟨vs, k.trans h1, h2.mono e⟩
  | io xs => obtain ⟨vs, h1, h2⟩ := h; exact ⟨vs, k.trans h1, h2.mono e⟩
  | mK xs => obtain ⟨vs, h1, h2⟩ := h; exact ⟨vs, k.trans h1, h2.mono e⟩
  | mT xs => obtain ⟨vs, h1, h2⟩ := h; exact ⟨vs, k.trans h1, h2.mono e⟩
theorem OwnAt.some {a : Addr} {s : Sl} (h : OwnAt K G H a s) : ∃ o, H a = some o := by
  cases s with
  | no => exact h.elim
  | d x => exact h.elim
  | ml xs => obtain ⟨vs, h1, h2⟩ := h; exact ⟨_, h1⟩
  | io xs => obtain ⟨vs, h1, h2⟩ := h; exact ⟨_, h1⟩
  | mK xs => obtain ⟨vs, h1, h2⟩ := h; exact ⟨_, h1⟩
  | mT xs => obtain ⟨vs, h1, h2⟩ := h; exact ⟨_, h1⟩

theorem OwnAt.notup {a : Addr} {s : Sl} (h : OwnAt K G H a s) (xs : List V) : H a ≠ Option.some (HO.tup xs) := by
  intro e
  cases s with
  | no => exact h.elim
  | d x => exact h.elim
  | ml xs => obtain ⟨vs, h1, h2⟩ := h; rw [h1] at e; cases e
  | io xs => obtain ⟨vs, h1, h2⟩ := h; rw [h1] at e; cases e
  | mK xs => obtain ⟨vs, h1, h2⟩ := h; rw [h1] at e; cases e
  | mT xs => obtain ⟨vs, h1, h2⟩ := h; rw [h1] at e; cases e
/-- the frozen part grows, the slots' own objects stay -/
theorem SR.grow (R : SR K F G H σ ρ) (gg : Same G G') (gh : Same G' H') (bh : Same F.B H') (gb : ∀ a o, G' a = some o → G a = none → H a = none ∨ ∃ xs, o = .tup xs)
    (k : ∀ (i : Nat) s a, ρ[i]? = some s → s.own = true → σ[i]? = some (some (.ref a)) → H' a = H a) : SR K F G' H' σ ρ where
  gh := gh
  bh := bh
  g0 := R.g0.trans gg
  gb := fun a o e => by
    cases q : G a with
    | some u => 
      have e2 := gg a u q
      rw [e] at e2
      cases e2
      exact R.gb a o q
    | none =>
      rcases gb a o e q with n | n
      · refine .inr (.inl ?_)
        cases z : F.B a with
        | none => rfl
        | some u =>
          rw [R.bh _ _ z] at n
          cases n
      · exact .inr (.inr n)
  len := R.len
  sl := fun i s e => by
    obtain ⟨x, h1, h2⟩ := R.sl i s e
    refine ⟨x, h1, ?_⟩
    cases o : s.own with
    | true =>
      obtain ⟨a, rfl, h3⟩ := h2.own_of o
      exact .of_own rfl (h3.mono gg (k i s a e o h1))
    | false =>
      cases s with
      | no => trivial
      | d y =>
        obtain ⟨v, rfl, h⟩ := h2
        exact ⟨v, rfl, h.mono gg⟩
      | _ => cases o
  own := fun i s a e o h => by
    obtain ⟨n1, n2⟩ := R.own i s a e o h
    refine ⟨?_, n2⟩
    cases q : G' a with
    | none => rfl
    | some u =>
      obtain ⟨x, h1, h2⟩ := R.sl i s e
      rw [h] at h1
      cases h1
      obtain ⟨b, e1, h3⟩ := h2.own_of o
      cases e1
      rcases gb a u q n1 with z | ⟨xs, rfl⟩
      · obtain ⟨w, hw⟩ := h3.some
        rw [z] at hw
        cases hw
      · exact absurd ((k i s a e o h).symm.trans (gh _ _ q)) (OwnAt.notup h3 xs)
  apart := R.apart
  io := R.io

/-- a new frozen object -/
theorem Same.new {p : Addr} {o : HO} (h : H p = none) : Same H (upd H p o) := fun b u e => by
  rw [upd_ne (ne_of_none e h)]
  exact e
theorem SR.none_of (R : SR K F G H σ ρ) {p : Addr} (h : H p = none) : G p = none := R.gh.free h
theorem SR.noB (R : SR K F G H σ ρ) {p : Addr} (h : H p = none) : F.B p = none := R.bh.free h
theorem SR.own_ne (R : SR K F G H σ ρ) {p : Addr} (h : H p = none) {i : Nat} {s : Sl} {a : Addr} (e : ρ[i]? = some s) (o : s.own = true) (q : σ[i]? = some (some (.ref a))) : a ≠ p := by
  obtain ⟨x, h1, h2⟩ := R.sl i s e
  rw [q] at h1
  cases h1
  obtain ⟨b, e1, h3⟩ := h2.own_of o
  cases e1
  obtain ⟨w, hw⟩ := h3.some
  exact ne_of_none hw h
theorem SR.newF (R : SR K F G H σ ρ) {p : Addr} {o : HO} (h : H p = none) : SR K F (upd G p o) (upd H p o) σ ρ := by
  have gn := R.none_of h
  refine R.grow (Same.new gn) (fun b u e => ?_) (R.bh.trans (Same.new h)) (fun a u e n => ?_) (fun i s a e ow q => upd_ne (R.own_ne h e ow q))
  · by_cases hb : b = p
    · subst hb
      rw [upd_same] at e ⊢
      exact e
    · rw [upd_ne hb] at e ⊢
      exact R.gh _ _ e
  · by_cases hb : a = p
    · subst hb
      exact .inl h
    · rw [upd_ne hb, n] at e
      cases e
/-- a new object that is nobody's yet -/
theorem SR.newU (R : SR K F G H σ ρ) {p : Addr} {o : HO} (h : H p = none) : SR K F G (upd H p o) σ ρ :=
  R.grow (Same.refl G) (R.gh.trans (Same.new h)) (R.bh.trans (Same.new h)) (fun a u e n => by rw [n] at e; cases e) (fun i s a e ow q => upd_ne (R.own_ne h e ow q))
/-- nobody's object is frozen -/
def Free (F : Bk) (G H : Hp) (σ : L2.St) (ρ : Sls) (p : Addr) : Prop := G p = none ∧ F.B p = none ∧ ∀ (i : Nat) s a, ρ[i]? = some s → s.own = true → σ[i]? = some (some (.ref a)) → a ≠ p
theorem SR.free (R : SR K F G H σ ρ) {p : Addr} (h : H p = none) : Free F G H σ ρ p := ⟨R.none_of h, R.noB h, fun i s a e o q => R.own_ne h e o q⟩
theorem SR.freeze (R : SR K F G H σ ρ) {p : Addr} {o : HO} (f : Free F G H σ ρ p) (h : H p = some o) : SR K F (upd G p o) H σ ρ where
  gh := fun b u e => by
    by_cases hb : b = p
    · subst hb
      rw [upd_same] at e
      rw [h]
      exact e
    · rw [upd_ne hb] at e
      exact R.gh _ _ e
  bh := R.bh
  g0 := R.g0.trans (Same.new f.1)
  gb := fun a u e => by
    by_cases hb : a = p
    · subst hb
      exact .inr (.inl f.2.1)
    · rw [upd_ne hb] at e
      exact R.gb a u e
  len := R.len
  sl := fun i s e => by
    obtain ⟨x, h1, h2⟩ := R.sl i s e
    refine ⟨x, h1, ?_⟩
    cases o : s.own with
    | true =>
      obtain ⟨a, rfl, h3⟩ := h2.own_of o
      exact .of_own rfl (h3.mono (Same.new f.1) rfl)
    | false =>
      cases s with
      | no => trivial
      | d y =>
        obtain ⟨v, rfl, h⟩ := h2
        exact ⟨v, rfl, h.mono (Same.new f.1)⟩
      | _ => cases o
  own := fun i s a e o q => by
    obtain ⟨n1, n2⟩ := R.own i s a e o q
    exact ⟨by rw [upd_ne (f.2.2 i s a e o q)]; exact n1, n2⟩
  apart := R.apart
  io := R.io
/-- a tuple that stands is frozen, too -/
theorem SR.tupG (R : SR K F G H σ ρ) {q : Addr} {xs : List V} (h : H q = some (.tup xs)) : Same G (upd G q (.tup xs)) ∧ SR K F (upd G q (.tup xs)) H σ ρ := by
  have s : Same G (upd G q (.tup xs)) := fun b u e => by
    by_cases hb : b = q
    · subst hb
      have := R.gh _ _ e
      rw [h] at this
      rw [upd_same, this]
    · rw [upd_ne hb]
      exact e
  refine ⟨s, R.grow s (fun b u e => ?_) R.bh (fun a u e n => ?_) (fun _ _ _ _ _ _ => rfl)⟩
  · by_cases hb : b = q
    · subst hb
      rw [upd_same] at e
      rw [h, e]
    · rw [upd_ne hb] at e
      exact R.gh _ _ e
  · by_cases hb : a = q
    · subst hb
      rw [upd_same] at e
      cases e
      exact .inr ⟨xs, rfl⟩
    · rw [upd_ne hb, n] at e
      cases e
/-- another heap at the entry -/
theorem SR.base {F' : Bk} (R : SR K F G H σ ρ) (bh : Same F'.B H) (g0 : Same F'.G0 G) (gb : ∀ a o, G a = some o → F'.G0 a ≠ none ∨ F'.B a = none ∨ ∃ xs, o = .tup xs)
    (ow : ∀ (i : Nat) s a, ρ[i]? = some s → s.own = true → σ[i]? = some (some (.ref a)) → F'.B a = none) (io : F'.pa = F.pa) : SR K F' G H σ ρ :=
  ⟨R.gh, bh, g0, gb, R.len, R.sl, fun i s a e o q => ⟨(R.own i s a e o q).1, ow i s a e o q⟩, R.apart, fun i xs e => by rw [io]; exact R.io i xs e⟩
/-- σ's own place -/
theorem SR.at (R : SR K F G H σ ρ) {i : Nat} {s : Sl} (e : ρ[i]? = some s) : ∃ x, σ[i]? = some x ∧ SlR K G H x s := R.sl i s e
/-- a slot is forgotten or becomes frozen: the others keep -/
theorem set_get {α : Type} {l : List α} {i j : Nat} {x y : α} (h : (l.set i x)[j]? = some y) : (j = i ∧ y = x ∧ i < l.length) ∨ (j ≠ i ∧ l[j]? = some y) := by
  by_cases e : j = i
  · subst e
    by_cases hl : j < l.length
    · rw [List.getElem?_set_self hl] at h
      exact .inl ⟨rfl, (Option.some.inj h).symm, hl⟩
    · rw [List.getElem?_eq_none (by simpa using hl)] at h
      cases h
  · rw [List.getElem?_set_ne (Ne.symm e)] at h
    exact .inr ⟨e, h⟩
end
end DL

/-! DL1: what an expression, a test, a target, an iterable, a statement is worth as a plain function; names, constants, loops. -/
namespace DL
open PySem PySem.Spec PyProof.Rows L2

def Rv (K : PySem.W.Frag) (G H : Hp) (v : V) (d : D) : Prop :=
  Rp K G v d ∨ (∃ a ds, v = .ref a ∧ d = .lst ds ∧ OwnL K G H a ds) ∨ (∃ a kvs, v = .ref a ∧ d = .dk kvs ∧ OwnK K G H a kvs) ∨ ∃ a kvs, v = .ref a ∧ d = .dt kvs ∧ OwnT K G H a kvs
abbrev FE := Sls → Option (D × Sls)
abbrev FL := Sls → Option (List D × Sls)
abbrev FT := Sls → Option (Bool × Sls)
abbrev FK := Sls → Option (List (Key × D) × Sls)
abbrev FKT := Sls → Option (List (List Key × D) × Sls)
/-- a value that is frozen; a view, looked at at once; a new list, a new dict that are nobody's yet; a test; arguments; a part of a slice -/
def CE (X : Cx) (e : Expr) (f : FE) : Prop :=
  ∃ te : TE, PE X e te ∧ ∀ F G H σ ρ d ρ', SR X.K F G H σ ρ → f ρ = some (d, ρ') → ∀ Q : VK, (∀ G' H' v, Same G G' → SR X.K F G' H' σ ρ' → Rp X.K G' v d → Q v H') → te σ H Q
def CV (X : Cx) (e : Expr) (f : FE) : Prop :=
  ∃ te : TE, PE X e te ∧ ∀ F G H σ ρ d ρ', SR X.K F G H σ ρ → f ρ = some (d, ρ') → ∀ Q : VK, (∀ G' H' v, Same G G' → SR X.K F G' H' σ ρ' → Rv X.K G' H' v d → Q v H') → te σ H Q
def CL (X : Cx) (e : Expr) (f : FL) : Prop :=
  ∃ te : TE, PE X e te ∧ ∀ F G H σ ρ ds ρ', SR X.K F G H σ ρ → f ρ = some (ds, ρ') → ∀ Q : VK, (∀ G' H' a, Same G G' → SR X.K F G' H' σ ρ' → Free F G' H' σ ρ' a → OwnL X.K G' H' a ds → Q (.ref a) H') → te σ H Q
def CDK (X : Cx) (e : Expr) (f : FK) : Prop :=
  ∃ te : TE, PE X e te ∧ ∀ F G H σ ρ ds ρ', SR X.K F G H σ ρ → f ρ = some (ds, ρ') → ∀ Q : VK, (∀ G' H' a, Same G G' → SR X.K F G' H' σ ρ' → Free F G' H' σ ρ' a → OwnK X.K G' H' a ds → Q (.ref a) H') → te σ H Q
def CDT (X : Cx) (e : Expr) (f : FKT) : Prop :=
  ∃ te : TE, PE X e te ∧ ∀ F G H σ ρ ds ρ', SR X.K F G H σ ρ → f ρ = some (ds, ρ') → ∀ Q : VK, (∀ G' H' a, Same G G' → SR X.K F G' H' σ ρ' → Free F G' H' σ ρ' a → OwnT X.K G' H' a ds → Q (.ref a) H') → te σ H Q
def CT (X : Cx) (e : Expr) (f : FT) : Prop :=
  ∃ tt : TT, PT X e tt ∧ ∀ F G H σ ρ b ρ', SR X.K F G H σ ρ → f ρ = some (b, ρ') → ∀ Q : Bool → Hp → Prop, (∀ G' H', Same G G' → SR X.K F G' H' σ ρ' → Q b H') → tt σ H Q
def CW (X : Cx) (e : Expr) (f : FT) : Prop :=
  ∃ tt : TT, PW X e tt ∧ ∀ F G H σ ρ b ρ', SR X.K F G H σ ρ → f ρ = some (b, ρ') → ∀ Q : Bool → Hp → Prop, (∀ G' H', Same G G' → SR X.K F G' H' σ ρ' → Q b H') → tt σ H Q
def CA (X : Cx) (es : List Expr) (f : FL) : Prop :=
  ∃ ta : TA, PA X es ta ∧ ∀ F G H σ ρ ds ρ', SR X.K F G H σ ρ → f ρ = some (ds, ρ') → ∀ Q : List V → Hp → Prop, (∀ G' H' vs, Same G G' → SR X.K F G' H' σ ρ' → Rps X.K G' vs ds → Q vs H') → ta σ H Q
def CO (X : Cx) (e : Option Expr) (f : Sls → Option (Option Int × Sls)) : Prop :=
  ∃ to : TO, PO X e to ∧ ∀ F G H σ ρ o ρ', SR X.K F G H σ ρ → f ρ = some (o, ρ') → ∀ Q : Option Int → Hp → Prop, (∀ G' H', Same G G' → SR X.K F G' H' σ ρ' → Q o H') → to σ H Q
/-- a target: the places that it stores at -/
def CG (X : Cx) (tg : Expr) (is : List Nat) (f : D → Sls → Option Sls) : Prop :=
  ∃ g : TG, PG X tg g ∧ ∀ F G H σ ρ v d ρ', SR X.K F G H σ ρ → Rp X.K G v d → f d ρ = some ρ' → ∀ Q : L2.St → Hp → Prop, (∀ σ', (∀ vs : List Nat, (∀ i ∈ is, i ∈ vs) → wipe σ' vs = wipe σ vs) → SR X.K F G H σ' ρ' → Q σ' H) → g v σ H Q
def CGs (X : Cx) (tgs : List Expr) (is : List Nat) (f : List D → Sls → Option Sls) : Prop :=
  ∃ g : TGs, PGs X tgs g ∧ ∀ F G H σ ρ vs ds ρ', SR X.K F G H σ ρ → Rps X.K G vs ds → f ds ρ = some ρ' → ∀ Q : L2.St → Hp → Prop, (∀ σ', (∀ vs : List Nat, (∀ i ∈ is, i ∈ vs) → wipe σ' vs = wipe σ vs) → SR X.K F G H σ' ρ' → Q σ' H) → g vs σ H Q
/-- what an operation may leave: nothing new, one new frozen object, a tuple that stood is frozen -/
def Gr (G H G' H' : Hp) : Prop := (G' = G ∧ H' = H) ∨ (∃ p o, H p = none ∧ G' = upd G p o ∧ H' = upd H p o) ∨ (H' = H ∧ ∃ q xs, H q = some (.tup xs) ∧ G' = upd G q (.tup xs))
theorem SR.gr {K : PySem.W.Frag} {F : Bk} {G H G' H' : Hp} {σ : L2.St} {ρ : Sls} (R : SR K F G H σ ρ) (g : Gr G H G' H') : Same G G' ∧ SR K F G' H' σ ρ := by
  rcases g with ⟨rfl, rfl⟩ | ⟨p, o, n, rfl, rfl⟩ | ⟨rfl, q, xs, h, rfl⟩
  · exact ⟨Same.refl _, R⟩
  · exact ⟨Same.new (R.none_of n), R.newF n⟩
  · exact R.tupG h
theorem Gr.same {G H : Hp} : Gr G H G H := .inl ⟨rfl, rfl⟩
/-- what is walked: its items as data -/
def ItOk (K : PySem.W.Frag) (G : Hp) (J : It) (ds : List D) : Prop := ∀ G2 H2, Same G G2 → Same G2 H2 →
  (∀ i, i < ds.length → J.go i H2) ∧ J.stop ds.length H2 ∧
    ∀ (i : Nat) d x H3, ds[i]? = some d → J.yld i H2 x H3 → ∃ G3, Gr G2 H2 G3 H3 ∧ Rp K G3 x d
def CI (X : Cx) (tg iter : Expr) (f : FL) : Prop :=
  ∃ wi : TI, PI X tg iter wi ∧ ∀ F G H σ ρ ds ρ', SR X.K F G H σ ρ → f ρ = some (ds, ρ') → ∀ R : It → Hp → Prop, (∀ G' H' J, Same G G' → SR X.K F G' H' σ ρ' → ItOk X.K G' J ds → R J H') → wi σ H R
inductive Out where
  | nx (ρ : Sls) | rt (d : D) (ρ : Sls) | rl (ds : List D) (ρ : Sls) | bk (ρ : Sls) | ct (ρ : Sls)
abbrev FS := Sls → Option Out
def Fits (K : PySem.W.Frag) (D : Ends) (F : Bk) (G : Hp) : Out → Prop
  | .nx ρ => ∀ G' H' σ', Same G G' → SR K F G' H' σ' ρ → D.nx σ' H'
  | .bk ρ => ∀ G' H' σ', Same G G' → SR K F G' H' σ' ρ → D.bk σ' H'
  | .ct ρ => ∀ G' H' σ', Same G G' → SR K F G' H' σ' ρ → D.ct σ' H'
  | .rt d ρ => ∀ G' H' σ' v, Same G G' → SR K F G' H' σ' ρ → Rp K G' v d → D.rt v H'
  | .rl ds ρ => ∀ G' H' σ' a, Same G G' → SR K F G' H' σ' ρ → Free F G' H' σ' ρ a → OwnL K G' H' a ds → D.rt (.ref a) H'
def CS (X : Cx) (st : Stmt) (f : FS) : Prop :=
  ∃ t : TS, PS X st t ∧ ∀ F G H σ ρ o, SR X.K F G H σ ρ → f ρ = some o → ∀ D : Ends, Fits X.K D F G o → t D σ H
def CSs (X : Cx) (st : List Stmt) (f : FS) : Prop :=
  ∃ t : TS, PSs X st t ∧ ∀ F G H σ ρ o, SR X.K F G H σ ρ → f ρ = some o → ∀ D : Ends, Fits X.K D F G o → t D σ H

theorem Fits.mono {K : PySem.W.Frag} {D : Ends} {F : Bk} {G G1 : Hp} {o : Out} (e : Same G G1) (h : Fits K D F G o) : Fits K D F G1 o := by
  cases o with
  | nx ρ => exact fun G' H' σ' k r => h G' H' σ' (e.trans k) r
  | bk ρ => exact fun G' H' σ' k r => h G' H' σ' (e.trans k) r
  | ct ρ => exact fun G' H' σ' k r => h G' H' σ' (e.trans k) r
  | rt d ρ => exact fun G' H' σ' v k r q => h G' H' σ' v (e.trans k) r q
  | rl d ρ => exact fun G' H' σ' v k r q => h G' H' σ' v (e.trans k) r q

section
variable {X : Cx} {e a b : Expr} {pos : Pos} {f g : FE}
theorem bindE {α β : Type} {x : Option α} {k : α → Option β} {y : β} (h : x.bind k = some y) : ∃ z, x = some z ∧ k z = some y := Option.bind_eq_some_iff.mp h
theorem Rv.of {K : PySem.W.Frag} {G H : Hp} {v : V} {d : D} (h : Rp K G v d) : Rv K G H v d := .inl h
theorem CE.v (h : CE X e f) : CV X e f := by
  obtain ⟨te, p, q⟩ := h
  exact ⟨te, p, fun F G H σ ρ d ρ' R e Q k => q F G H σ ρ d ρ' R e Q fun G' H' v s r m => k G' H' v s r (.inl m)⟩
/-- two readings of one expression -/
theorem pe_either {t u : TE} (h1 : PE X e t) (h2 : PE X e u) : PE X e (fun σ H Q => t σ H Q ∨ u σ H Q) := ⟨fun pins s σ H Q I h => by
  rcases h with h | h
  · exact h1.run pins s σ H Q I h
  · exact h2.run pins s σ H Q I h⟩
theorem pi_either {tg : Expr} {t u : TI} (h1 : PI X tg e t) (h2 : PI X tg e u) : PI X tg e (fun σ H Q => t σ H Q ∨ u σ H Q) := ⟨fun pins s σ H Q I h => by
  rcases h with h | h
  · exact h1.run pins s σ H Q I h
  · exact h2.run pins s σ H Q I h⟩
/-- a dict may be locked behind the value -/
def tPl (te : TE) : TE := fun σ H Q => te σ H fun v H' => Q v H' ∨ ∃ d u, H' d = some u ∧ Mut (some u) ∧ ∀ od, Q v (upd H' d (.frz od u))
theorem pe_pl {te : TE} (h : PE X e te) : PE X e (tPl te) := ⟨fun pins s σ H Q I hw => thn (h.run pins s σ H _ I hw) fun u s1 ⟨v, H1, I1, r, q⟩ => by
  rcases q with q | ⟨d, ob, hd, mu, q⟩
  · exact ⟨v, H1, I1, r, q⟩
  · obtain ⟨od, I2⟩ := I1.lock hd mu
    exact ⟨v, _, I2, r, q od⟩⟩

/-! ### a slot's object becomes frozen -/
variable {K : PySem.W.Frag} {F : Bk} {G H : Hp} {σ : L2.St} {ρ : Sls}
theorem SR.fix (R : SR K F G H σ ρ) {i : Nat} {s : Sl} {a : Addr} {u : HO} {y : D} (e : ρ[i]? = some s) (o : s.own = true) (q : σ[i]? = some (some (.ref a)))
    (hy : Rp K (upd G a u) (.ref a) y) : SR K F (upd G a u) (upd H a u) σ (ρ.set i (.d y)) := by
  obtain ⟨n1, n2⟩ := R.own i s a e o q
  have ne : ∀ (j : Nat) t b, j ≠ i → ρ[j]? = some t → t.own = true → σ[j]? = some (some (.ref b)) → b ≠ a := fun j t b hj e1 o1 q1 z => by
    subst z
    exact R.apart j i t s b hj e1 e o1 o q1 q
  refine ⟨fun b w h => ?_, fun b w h => ?_, R.g0.trans (Same.new n1), fun b w h => ?_, by rw [List.length_set]; exact R.len, fun j t h => ?_, fun j t b h o1 q1 => ?_, fun j k t t' b hjk h1 h2 o1 o2 q1 => ?_, fun j xs h => ?_⟩
  · by_cases hb : b = a
    · subst hb
      rw [upd_same] at h ⊢
      exact h
    · rw [upd_ne hb] at h ⊢
      exact R.gh _ _ h
  · by_cases hb : b = a
    · subst hb
      rw [n2] at h
      cases h
    · rw [upd_ne hb]
      exact R.bh _ _ h
  · by_cases hb : b = a
    · subst hb
      exact .inr (.inl n2)
    · rw [upd_ne hb] at h
      exact R.gb _ _ h
  · rcases set_get h with ⟨rfl, rfl, hl⟩ | ⟨hj, h⟩
    · exact ⟨_, q, _, rfl, hy⟩
    · obtain ⟨x, h1, h2⟩ := R.sl j t h
      refine ⟨x, h1, ?_⟩
      cases o1 : t.own with
      | true =>
        obtain ⟨b, rfl, h3⟩ := h2.own_of o1
        exact .of_own rfl (h3.mono (Same.new n1) (upd_ne (ne j t b hj h o1 h1)))
      | false =>
        cases t with
        | no => trivial
        | d y =>
          obtain ⟨v, rfl, h⟩ := h2
          exact ⟨v, rfl, h.mono (Same.new n1)⟩
        | _ => cases o1
  · rcases set_get h with ⟨rfl, rfl, hl⟩ | ⟨hj, h⟩
    · cases o1
    · obtain ⟨m1, m2⟩ := R.own j t b h o1 q1
      exact ⟨by rw [upd_ne (ne j t b hj h o1 q1)]; exact m1, m2⟩
  · rcases set_get h1 with ⟨rfl, rfl, hl⟩ | ⟨hj, h1⟩
    · cases o1
    · rcases set_get h2 with ⟨rfl, rfl, hl⟩ | ⟨hk, h2⟩
      · cases o2
      · exact R.apart j k t t' b hjk h1 h2 o1 o2 q1
  · rcases set_get h with ⟨rfl, e2, hl⟩ | ⟨hj, h⟩
    · cases e2
    · exact R.io j xs h
theorem upd_self {a : Addr} {u : HO} (h : H a = some u) : upd H a u = H := by
  funext b
  unfold upd
  split
  · rename_i e
    rw [e, h]
  · rfl
/-- a name: what it owns is frozen from here on -/
def fVar (i : Nat) : FE := fun ρ => match ρ[i]? with
  | some (.d x) => some (x, ρ)
  | some (.ml xs) => some (.lst xs, ρ.set i (.d (.lst xs)))
  | some (.mK kvs) => some (.dk kvs, ρ.set i (.d (.dk kvs)))
  | some (.mT kvs) => some (.dt kvs, ρ.set i (.d (.dt kvs)))
  | _ => none
theorem ce_var {i : Nat} (h : PE X e (tVar i)) : CE X e (fVar i) := by
  refine ⟨_, pe_pl h, fun F G H σ ρ d ρ' R hf Q k => ?_⟩
  unfold fVar at hf
  split at hf
  · rename_i x e1
    cases hf
    obtain ⟨w, h1, v, rfl, h2⟩ := R.sl i _ e1
    exact ⟨v, h1, .inl (k G H v (Same.refl _) R h2)⟩
  · rename_i xs e1
    cases hf
    obtain ⟨w, h1, a, rfl, vs, h2, h3⟩ := R.sl i _ e1
    have n1 := (R.own i _ a e1 rfl h1).1
    have R' := R.fix (u := .lst vs) (y := .lst xs) e1 rfl h1 (.lst upd_same (h3.mono (Same.new n1)))
    rw [upd_self h2] at R'
    exact ⟨_, h1, .inl (k _ H _ (Same.new n1) R' (.lst upd_same (h3.mono (Same.new n1))))⟩
  · rename_i xs e1
    cases hf
    obtain ⟨w, h1, a, rfl, es, h2, h3⟩ := R.sl i _ e1
    have n1 := (R.own i _ a e1 rfl h1).1
    refine ⟨_, h1, .inr ⟨a, _, h2, trivial, fun od => ?_⟩⟩
    have m : Rp X.K (upd G a (.frz od (.dK es))) (.ref a) (.dk xs) := .dK upd_same (h3.mono (Same.new n1))
    exact k _ _ _ (Same.new n1) (R.fix e1 rfl h1 m) m
  · rename_i xs e1
    cases hf
    obtain ⟨w, h1, a, rfl, es, h2, h3⟩ := R.sl i _ e1
    have n1 := (R.own i _ a e1 rfl h1).1
    refine ⟨_, h1, .inr ⟨a, _, h2, trivial, fun od => ?_⟩⟩
    have m : Rp X.K (upd G a (.frz od (.dT es))) (.ref a) (.dt xs) := .dT upd_same (h3.mono (Same.new n1))
    exact k _ _ _ (Same.new n1) (R.fix e1 rfl h1 m) m
  · cases hf
/-- a name looked at -/
def fLook (i : Nat) : FE := fun ρ => (ρ[i]?.bind Sl.view).map fun x => (x, ρ)
theorem SR.view (R : SR K F G H σ ρ) {i : Nat} {s : Sl} {x : D} (e : ρ[i]? = some s) (h : s.view = some x) : ∃ v, σ[i]? = some (some v) ∧ Rv K G H v x := by
  obtain ⟨w, h1, h2⟩ := R.sl i s e
  cases s with
  | no => cases h
  | d y =>
    cases h
    obtain ⟨v, rfl, h2⟩ := h2
    exact ⟨v, h1, .inl h2⟩
  | ml xs =>
    cases h
    obtain ⟨a, rfl, h2⟩ := h2
    exact ⟨_, h1, .inr (.inl ⟨a, xs, rfl, rfl, h2⟩)⟩
  | io xs =>
    cases h
    obtain ⟨a, rfl, h2⟩ := h2
    exact ⟨_, h1, .inr (.inl ⟨a, xs, rfl, rfl, h2⟩)⟩
  | mK xs =>
    cases h
    obtain ⟨a, rfl, h2⟩ := h2
    exact ⟨_, h1, .inr (.inr (.inl ⟨a, xs, rfl, rfl, h2⟩))⟩
  | mT xs =>
    cases h
    obtain ⟨a, rfl, h2⟩ := h2
    exact ⟨_, h1, .inr (.inr (.inr ⟨a, xs, rfl, rfl, h2⟩))⟩
theorem look_some {i : Nat} {x : D} {ρ ρ' : Sls} (h : fLook i ρ = some (x, ρ')) : ρ' = ρ ∧ ∃ s, ρ[i]? = some s ∧ s.view = some x := by
  unfold fLook at h
  cases e : ρ[i]? with
  | none =>
    rw [e] at h
    cases h
  | some s =>
    rw [e] at h
    cases e2 : s.view with
    | none =>
      simp [e2] at h
    | some y =>
      simp [e2] at h
      exact ⟨h.2.symm, s, rfl, by rw [e2, h.1]⟩
theorem cv_var {i : Nat} (h : PE X e (tVar i)) : CV X e (fLook i) := by
  refine ⟨_, h, fun F G H σ ρ d ρ' R hf Q k => ?_⟩
  obtain ⟨rfl, s, e1, e2⟩ := look_some hf
  obtain ⟨v, h1, h2⟩ := R.view e1 e2
  exact ⟨v, h1, k G H v (Same.refl _) R h2⟩

/-! ### constants -/
def fC (d : D) : FE := fun ρ => some (d, ρ)
theorem ce_const {d : D} {v : V} (h : PE X e (tC v)) (r : ∀ G, Rp X.K G v d) : CE X e (fC d) :=
  ⟨_, h, fun F G H σ ρ d ρ' R hf Q k => by cases hf; exact k G H v (Same.refl _) R (r G)⟩
theorem ce_int {i : Int} {j : Nat} : CE X (.Constant (.int i) j pos) (fC (.int i)) := ce_const pe_int fun _ => .int i
theorem ce_str {x : Str} {j : Nat} : CE X (.Constant (.str x) j pos) (fC (.str x)) := ce_const pe_str fun _ => .str x
theorem ce_bl {x : Bool} {j : Nat} : CE X (.Constant (.bool x) j pos) (fC (.bl x)) := ce_const pe_bl fun _ => .bl x
theorem ce_non {j : Nat} : CE X (.Constant .none j pos) (fC .non) := ce_const pe_non fun _ => .non

/-! ### from new things -/
def fOfL (f : FL) : FE := fun ρ => (f ρ).bind fun r => some (.lst r.1, r.2)
theorem CL.fz {f : FL} (h : CL X e f) : CE X e (fOfL f) := by
  obtain ⟨te, p, q⟩ := h
  refine ⟨te, p, fun F G H σ ρ d ρ' R hf Q k => ?_⟩
  obtain ⟨⟨ds, ρ1⟩, h1, h2⟩ := bindE hf
  cases h2
  refine q F G H σ ρ ds ρ1 R h1 Q fun G' H' a s r fr ow => ?_
  obtain ⟨vs, e1, e2⟩ := ow
  exact k _ H' _ (s.trans (Same.new fr.1)) (r.freeze fr e1) (.lst upd_same (e2.mono (Same.new fr.1)))
/-- a list that is looked at at once -/
theorem CL.v {f : FL} (h : CL X e f) : CV X e (fOfL f) := by
  obtain ⟨te, p, q⟩ := h
  refine ⟨te, p, fun F G H σ ρ d ρ' R hf Q k => ?_⟩
  obtain ⟨⟨ds, ρ1⟩, h1, h2⟩ := bindE hf
  cases h2
  exact q F G H σ ρ ds ρ1 R h1 Q fun G' H' a s r fr ow => k _ H' _ s r (.inr (.inl ⟨a, ds, rfl, rfl, ow⟩))
/-- nobody's object is locked and frozen -/
theorem SR.fixU (R : SR K F G H σ ρ) {p : Addr} {u : HO} (f : Free F G H σ ρ p) : SR K F (upd G p u) (upd H p u) σ ρ := by
  have n1 := f.1
  refine ⟨fun b w h => ?_, fun b w h => ?_, R.g0.trans (Same.new n1), fun b w h => ?_, R.len, fun j t h => ?_, fun j t b h o1 q1 => ?_, R.apart, R.io⟩
  · by_cases hb : b = p
    · subst hb
      rw [upd_same] at h ⊢
      exact h
    · rw [upd_ne hb] at h ⊢
      exact R.gh _ _ h
  · by_cases hb : b = p
    · subst hb
      rw [f.2.1] at h
      cases h
    · rw [upd_ne hb]
      exact R.bh _ _ h
  · by_cases hb : b = p
    · subst hb
      exact .inr (.inl f.2.1)
    · rw [upd_ne hb] at h
      exact R.gb _ _ h
  · obtain ⟨x, h1, h2⟩ := R.sl j t h
    refine ⟨x, h1, ?_⟩
    cases o1 : t.own with
    | true =>
      obtain ⟨b, rfl, h3⟩ := h2.own_of o1
      exact .of_own rfl (h3.mono (Same.new n1) (upd_ne (f.2.2 j t b h o1 h1)))
    | false =>
      cases t with
      | no => trivial
      | d y =>
        obtain ⟨v, rfl, h⟩ := h2
        exact ⟨v, rfl, h.mono (Same.new n1)⟩
      | _ => cases o1
  · obtain ⟨m1, m2⟩ := R.own j t b h o1 q1
    exact ⟨by rw [upd_ne (f.2.2 j t b h o1 q1)]; exact m1, m2⟩
def fOfD (f : FK) : FE := fun ρ => (f ρ).bind fun r => some (.dk r.1, r.2)
def fOfT (f : FKT) : FE := fun ρ => (f ρ).bind fun r => some (.dt r.1, r.2)
theorem CDK.fz {f : FK} (h : CDK X e f) : CE X e (fOfD f) := by
  obtain ⟨te, p, q⟩ := h
  refine ⟨_, pe_pl p, fun F G H σ ρ d ρ' R hf Q k => ?_⟩
  obtain ⟨⟨ds, ρ1⟩, h1, h2⟩ := bindE hf
  cases h2
  refine q F G H σ ρ ds ρ1 R h1 _ fun G' H' a s r fr ow => ?_
  obtain ⟨es, e1, e2⟩ := ow
  refine .inr ⟨a, _, e1, trivial, fun od => ?_⟩
  exact k _ _ _ (s.trans (Same.new fr.1)) (r.fixU fr) (.dK upd_same (e2.mono (Same.new fr.1)))
theorem CDT.fz {f : FKT} (h : CDT X e f) : CE X e (fOfT f) := by
  obtain ⟨te, p, q⟩ := h
  refine ⟨_, pe_pl p, fun F G H σ ρ d ρ' R hf Q k => ?_⟩
  obtain ⟨⟨ds, ρ1⟩, h1, h2⟩ := bindE hf
  cases h2
  refine q F G H σ ρ ds ρ1 R h1 _ fun G' H' a s r fr ow => ?_
  obtain ⟨es, e1, e2⟩ := ow
  refine .inr ⟨a, _, e1, trivial, fun od => ?_⟩
  exact k _ _ _ (s.trans (Same.new fr.1)) (r.fixU fr) (.dT upd_same (e2.mono (Same.new fr.1)))
theorem CDK.v {f : FK} (h : CDK X e f) : CV X e (fOfD f) := by
  obtain ⟨te, p, q⟩ := h
  refine ⟨te, p, fun F G H σ ρ d ρ' R hf Q k => ?_⟩
  obtain ⟨⟨ds, ρ1⟩, h1, h2⟩ := bindE hf
  cases h2
  exact q F G H σ ρ ds ρ1 R h1 Q fun G' H' a s r fr ow => k _ H' _ s r (.inr (.inr (.inl ⟨a, ds, rfl, rfl, ow⟩)))
theorem CDT.v {f : FKT} (h : CDT X e f) : CV X e (fOfT f) := by
  obtain ⟨te, p, q⟩ := h
  refine ⟨te, p, fun F G H σ ρ d ρ' R hf Q k => ?_⟩
  obtain ⟨⟨ds, ρ1⟩, h1, h2⟩ := bindE hf
  cases h2
  exact q F G H σ ρ ds ρ1 R h1 Q fun G' H' a s r fr ow => k _ H' _ s r (.inr (.inr (.inr ⟨a, ds, rfl, rfl, ow⟩)))

/-! ### arguments, displays -/
def fNil : FL := fun ρ => some ([], ρ)
def fCons (f : FE) (g : FL) : FL := fun ρ => (f ρ).bind fun r => (g r.2).bind fun q => some (r.1 :: q.1, q.2)
theorem ca_nil : CA X [] fNil := ⟨_, pa_nil, fun F G H σ ρ d ρ' R hf Q k => by cases hf; exact k G H [] (Same.refl _) R .nil⟩
theorem ca_cons {es : List Expr} {g : FL} (h : CE X e f) (t : CA X es g) (hs : starEach (e :: es) X.env = (false, eval e X.env) :: starEach es X.env := by rfl) : CA X (e :: es) (fCons f g) := by
  obtain ⟨te, p, q⟩ := h
  obtain ⟨ta, p2, q2⟩ := t
  refine ⟨_, pa_cons p p2 hs, fun F G H σ ρ d ρ' R hf Q k => ?_⟩
  obtain ⟨⟨d1, ρ1⟩, h1, h2⟩ := bindE hf
  obtain ⟨⟨ds, ρ2⟩, h3, h4⟩ := bindE h2
  cases h4
  refine q F G H σ ρ d1 ρ1 R h1 _ fun G' H' v s r m => ?_
  exact q2 F G' H' σ ρ1 ds ρ2 r h3 _ fun G2 H2 vs s2 r2 m2 => k G2 H2 _ (s.trans s2) r2 (.cons (m.mono s2) m2)
def fTup (g : FL) : FE := fun ρ => (g ρ).bind fun q => if q.1.length ≤ 1000 then some (.tup q.1, q.2) else none
theorem le_line {n : Nat} (h : n ≤ 1000000) : n ≤ sizeLine := by rw [sizeLine_eq]; omega
theorem ce_tup {es : List Expr} {g : FL} {k : Nat} (t : CA X es g) : CE X (.Tuple es k pos) (fTup g) := by
  obtain ⟨ta, p, q⟩ := t
  refine ⟨_, pe_tup p, fun F G H σ ρ d ρ' R hf Q k => ?_⟩
  obtain ⟨⟨ds, ρ1⟩, h1, h2⟩ := bindE hf
  split at h2
  · rename_i hl
    cases h2
    refine q F G H σ ρ ds ρ1 R h1 _ fun G' H' vs s r m => ⟨by rw [m.len]; exact le_line (Nat.le_trans hl (by decide)), fun a ha => ?_⟩
    have n1 := r.none_of ha
    exact k _ _ _ (s.trans (Same.new n1)) (r.newF ha) (.tup upd_same (m.mono (Same.new n1)))
  · cases h2
def fLst (g : FL) : FL := fun ρ => (g ρ).bind fun q => if q.1.length ≤ 1000 then some q else none
theorem cl_lst {es : List Expr} {g : FL} (t : CA X es g) : CL X (.List es pos) (fLst g) := by
  obtain ⟨ta, p, q⟩ := t
  refine ⟨_, pe_lst p, fun F G H σ ρ d ρ' R hf Q k => ?_⟩
  obtain ⟨⟨ds, ρ1⟩, h1, h2⟩ := bindE hf
  split at h2
  · rename_i hl
    cases h2
    refine q F G H σ ρ _ _ R h1 _ fun G' H' vs s r m => ⟨by rw [m.len]; exact le_line (Nat.le_trans hl (by decide)), fun a ha => ?_⟩
    exact k _ _ _ s (r.newU ha) ⟨r.none_of ha, r.noB ha, fun i t b e o q => r.own_ne ha e o q⟩ ⟨vs, upd_same, m⟩
  · cases h2
theorem cdk_new : CDK X (.Dict [] [] pos) (fun ρ => some ([], ρ)) :=
  ⟨_, pe_dnewK, fun F G H σ ρ d ρ' R hf Q k => by
    cases hf
    exact fun a ha => k _ _ _ (Same.refl _) (R.newU ha) ⟨R.none_of ha, R.noB ha, fun i t b e o q => R.own_ne ha e o q⟩ ⟨[], upd_same, .nil⟩⟩
theorem cdt_new : CDT X (.Dict [] [] pos) (fun ρ => some ([], ρ)) :=
  ⟨_, pe_dnewT, fun F G H σ ρ d ρ' R hf Q k => by
    cases hf
    exact fun a ha => k _ _ _ (Same.refl _) (R.newU ha) ⟨R.none_of ha, R.noB ha, fun i t b e o q => R.own_ne ha e o q⟩ ⟨[], upd_same, .nil⟩⟩
end
end DL

/-! DL2: the operators on data. -/
namespace DL
open PySem PySem.Spec PyProof.Rows L2

mutual
def D.py : D → PyData
  | .non => .none
  | .bl b => .bool b
  | .int i => .int i
  | .str x => .str x
  | .tup ds => .tuple (D.pys ds)
  | .lst ds => .list (D.pys ds)
  | .dk _ => .dict []
  | .dt _ => .dict []
  | .scr _ => .dict []
def D.pys : List D → List PyData
  | [] => []
  | d :: ds => d.py :: D.pys ds
end
section
variable {K : PySem.W.Frag} {G H : Hp}
mutual
theorem Rp.dp (e : Same G H) : ∀ {v : V} {d : D}, Rp K G v d → d.py.canLay0 = true → Dp K H v d.py
  | _, _, .non, _ => .non
  | _, _, .bl b, _ => .bl b
  | _, _, .int i, _ => .int i
  | _, _, .str x, _ => .str x
  | _, _, .lst h r, c => .lst (SqL.of (e _ _ h)) (Rps.dp e r (by simpa [D.py, PyData.canLay0] using c))
  | _, _, .tup h r, c => .tup (SqT.of (e _ _ h)) (Rps.dp e r (by simpa [D.py, PyData.canLay0] using c))
  | _, _, .dK _ _, c => by simp [D.py, PyData.canLay0] at c
  | _, _, .dT _ _, c => by simp [D.py, PyData.canLay0] at c
  | _, _, .scr _, c => by simp [D.py, PyData.canLay0] at c
theorem Rps.dp (e : Same G H) : ∀ {vs : List V} {ds : List D}, Rps K G vs ds → PyData.canLayAll0 (D.pys ds) = true → DpAll K H vs (D.pys ds)
  | _, _, .nil, _ => .nil
  | _, _, .cons h r, c => by
    have c' := c
    simp only [D.pys, PyData.canLayAll0, Bool.and_eq_true] at c'
    exact .cons (Rp.dp e h c'.1) (Rps.dp e r c'.2)
end
theorem Rv.dp (e : Same G H) {v : V} {d : D} (h : Rv K G H v d) (c : d.py.canLay0 = true) : Dp K H v d.py := by
  rcases h with h | ⟨a, ds, rfl, rfl, vs, h1, h2⟩ | ⟨a, kvs, rfl, rfl, _⟩ | ⟨a, kvs, rfl, rfl, _⟩
  · exact h.dp e c
  · exact .lst (SqL.of h1) (h2.dp e (by simpa [D.py, PyData.canLay0] using c))
  · simp [D.py, PyData.canLay0] at c
  · simp [D.py, PyData.canLay0] at c
theorem Rv.int {v : V} {i : Int} (h : Rv K G H v (.int i)) : v = .int i := by
  rcases h with h | ⟨a, ds, rfl, e, _⟩ | ⟨a, kvs, rfl, e, _⟩ | ⟨a, kvs, rfl, e, _⟩
  · cases h
    rfl
  all_goals cases e
theorem Rv.str {v : V} {i : Str} (h : Rv K G H v (.str i)) : v = .str i := by
  rcases h with h | ⟨a, ds, rfl, e, _⟩ | ⟨a, kvs, rfl, e, _⟩ | ⟨a, kvs, rfl, e, _⟩
  · cases h
    rfl
  all_goals cases e
theorem Rv.bl {v : V} {i : Bool} (h : Rv K G H v (.bl i)) : v = .bl i := by
  rcases h with h | ⟨a, ds, rfl, e, _⟩ | ⟨a, kvs, rfl, e, _⟩ | ⟨a, kvs, rfl, e, _⟩
  · cases h
    rfl
  all_goals cases e
theorem Rv.non {v : V} (h : Rv K G H v .non) : v = .non := by
  rcases h with h | ⟨a, ds, rfl, e, _⟩ | ⟨a, kvs, rfl, e, _⟩ | ⟨a, kvs, rfl, e, _⟩
  · cases h
    rfl
  all_goals cases e
theorem Rv.tup {v : V} {ds : List D} (h : Rv K G H v (.tup ds)) : ∃ a vs, v = .ref a ∧ G a = some (.tup vs) ∧ Rps K G vs ds := by
  rcases h with h | ⟨a, ds, rfl, e, _⟩ | ⟨a, kvs, rfl, e, _⟩ | ⟨a, kvs, rfl, e, _⟩
  · cases h with
    | tup h r => exact ⟨_, _, rfl, h, r⟩
  all_goals cases e
theorem Rv.lst (s : Same G H) {v : V} {ds : List D} (h : Rv K G H v (.lst ds)) : ∃ a vs, v = .ref a ∧ H a = some (.lst vs) ∧ Rps K G vs ds := by
  rcases h with h | ⟨a, ds, rfl, e, vs, h1, h2⟩ | ⟨a, kvs, rfl, e, _⟩ | ⟨a, kvs, rfl, e, _⟩
  · cases h with
    | lst h r => exact ⟨_, _, rfl, s _ _ h, r⟩
  · cases e
    exact ⟨a, vs, rfl, h1, h2⟩
  all_goals cases e
theorem Rv.dk (s : Same G H) {v : V} {ds : List (Key × D)} (h : Rv K G H v (.dk ds)) : ∃ a es, v = .ref a ∧ Rd H a (.dK es) ∧ RpK K G es ds := by
  rcases h with h | ⟨a, ds, rfl, e, _⟩ | ⟨a, kvs, rfl, e, es, h1, h2⟩ | ⟨a, kvs, rfl, e, _⟩
  · cases h with
    | dK h r => exact ⟨_, _, rfl, .inr ⟨_, s _ _ h⟩, r⟩
  · cases e
  · cases e
    exact ⟨a, es, rfl, .inl h1, h2⟩
  · cases e
theorem Rv.dt (s : Same G H) {v : V} {ds : List (List Key × D)} (h : Rv K G H v (.dt ds)) : ∃ a es, v = .ref a ∧ Rd H a (.dT es) ∧ RpK K G es ds := by
  rcases h with h | ⟨a, ds, rfl, e, _⟩ | ⟨a, kvs, rfl, e, _⟩ | ⟨a, kvs, rfl, e, es, h1, h2⟩
  · cases h with
    | dT h r => exact ⟨_, _, rfl, .inr ⟨_, s _ _ h⟩, r⟩
  · cases e
  · cases e
  · cases e
    exact ⟨a, es, rfl, .inl h1, h2⟩
end

/-- a two-place operation on data -/
def OpD (X : Cx) (f : Value → Value → Sem Value) (g : D → D → Option D) : Prop :=
  ∃ r : R2, OpR X f r ∧ ∀ G H x y d e z, Same G H → Rv X.K G H x d → Rv X.K G H y e → g d e = some z → ∀ Q : VK, (∀ G' H' v, Gr G H G' H' → Rp X.K G' v z → Q v H') → r x y H Q

section
variable {X : Cx}
def addD : D → D → Option D
  | .int i, .int j => some (.int (i + j))
  | .str x, .str y => if x.length + y.length ≤ 1000000 then some (.str (x ++ y)) else none
  | .tup xs, .tup ys => if xs.length + ys.length ≤ 1000000 ∧ xs ≠ [] then some (.tup (xs ++ ys)) else none
  | _, _ => none
theorem op_addD : OpD X (binaryOp .Add) addD := by
  refine ⟨_, (op_add.or op_add_str).or op_catT, fun G H x y d e z s hx hy hg Q k => ?_⟩
  unfold addD at hg
  split at hg
  · rename_i i j
    cases hg
    exact .inl (.inl ⟨i, j, hx.int, hy.int, k _ _ _ Gr.same (.int _)⟩)
  · rename_i i j
    split at hg
    · rename_i hl
      cases hg
      exact .inl (.inr ⟨i, j, hx.str, hy.str, le_line hl, k _ _ _ Gr.same (.str _)⟩)
    · cases hg
  · rename_i xs ys
    split at hg
    · rename_i hl
      cases hg
      obtain ⟨a, vs, rfl, h1, r1⟩ := hx.tup
      obtain ⟨b, ws, rfl, h2, r2⟩ := hy.tup
      refine .inr ⟨a, b, vs, ws, rfl, rfl, SqT.of (s _ _ h1), SqT.of (s _ _ h2), fun z => hl.2 ?_, by rw [r1.len, r2.len]; exact le_line hl.1, fun z => ?_, fun z p hp => ?_⟩
      · subst z
        cases r1
        rfl
      · subst z
        cases r2
        exact k _ _ _ Gr.same (.tup h1 (by rw [List.append_nil]; exact r1))
      · have n := s.free hp
        exact k _ _ _ (.inr (.inl ⟨p, _, hp, rfl, rfl⟩)) (.tup upd_same ((r1.mono (Same.new n)).app (r2.mono (Same.new n))))
    · cases hg
  · cases hg
def subD : D → D → Option D
  | .int i, .int j => some (.int (i - j))
  | _, _ => none
theorem op_subD : OpD X (binaryOp .Sub) subD := by
  refine ⟨_, op_sub, fun G H x y d e z s hx hy hg Q k => ?_⟩
  unfold subD at hg
  split at hg
  · cases hg
    exact ⟨_, _, hx.int, hy.int, k _ _ _ Gr.same (.int _)⟩
  · cases hg
/-- a text again and again -/
theorem op_mul_str : OpR X (binaryOp .Mult) (fun x y H Q => ∃ z n, x = .str z ∧ y = .int n ∧ MulOk z n ∧ Q (.str (Txt.mul z n)) H) := by
  intro pins s σ H x y v u Q I rx ry h
  obtain ⟨z, n, rfl, rfl, ok, q⟩ := h
  obtain ⟨t, rfl⟩ := rx
  obtain ⟨t', rfl⟩ := ry
  exact SB.mul ok fun t' k => ⟨.str _, H, I.tok _, ⟨_, rfl⟩, q⟩
theorem mulOkS {z : Str} {n : Int} (h : n ≤ 10000) (h0 : -10000 ≤ n) (hz : z.length ≤ 100) : MulOk z n := PyProof.Rows.mulOk_of 100 10000 hz (by omega) (by omega) (by decide) (by decide)
def mulD : D → D → Option D
  | .int i, .int j => if j.natAbs < 18446744073709551616 ∨ i.natAbs < 18446744073709551616 then some (.int (i * j)) else none
  | .str x, .int j => if j.natAbs ≤ 10000 ∧ x.length ≤ 100 then some (.str (Txt.mul x j)) else none
  | _, _ => none
theorem p64 : (2 : Int) ^ 64 = 18446744073709551616 := by decide
theorem cmul_of {i j : Int} (h : j.natAbs < 18446744073709551616 ∨ i.natAbs < 18446744073709551616) : CMul i j := by
  unfold CMul
  rw [p64]
  rcases h with h | h
  · exact .inr ⟨by omega, by omega⟩
  · exact .inl ⟨by omega, by omega⟩
theorem op_mulD : OpD X (binaryOp .Mult) mulD := by
  refine ⟨_, op_mul.or op_mul_str, fun G H x y d e z s hx hy hg Q k => ?_⟩
  unfold mulD at hg
  split at hg
  · split at hg
    · rename_i hl
      cases hg
      exact .inl ⟨_, _, hx.int, hy.int, cmul_of hl, k _ _ _ Gr.same (.int _)⟩
    · cases hg
  · split at hg
    · rename_i hl
      cases hg
      exact .inr ⟨_, _, hx.str, hy.int, mulOkS (by omega) (by omega) hl.2, k _ _ _ Gr.same (.str _)⟩
    · cases hg
  · cases hg
def fdivD : D → D → Option D
  | .int i, .int j => if 0 < j ∧ j.natAbs < 1073741824 then some (.int (i / j)) else none
  | _, _ => none
theorem op_fdivD : OpD X (binaryOp .FloorDiv) fdivD := by
  refine ⟨_, op_fdiv, fun G H x y d e z s hx hy hg Q k => ?_⟩
  unfold fdivD at hg
  split at hg
  · split at hg
    · rename_i hl
      cases hg
      exact ⟨_, _, hx.int, hy.int, ⟨hl.1, by omega⟩, k _ _ _ Gr.same (.int _)⟩
    · cases hg
  · cases hg
def modD : D → D → Option D
  | .int i, .int j => if 0 < j then some (.int (i % j)) else none
  | _, _ => none
theorem op_modD : OpD X (binaryOp .Mod) modD := by
  refine ⟨_, op_mod, fun G H x y d e z s hx hy hg Q k => ?_⟩
  unfold modD at hg
  split at hg
  · split at hg
    · rename_i hl
      cases hg
      exact ⟨_, _, hx.int, hy.int, hl, k _ _ _ Gr.same (.int _)⟩
    · cases hg
  · cases hg
def powD : D → D → Option D
  | .int i, .int j => if 0 ≤ j ∧ j ≤ 1000000 ∧ i.natAbs < 2 ^ 64 then some (.int (i ^ j.toNat)) else none
  | _, _ => none
theorem op_powD : OpD X (binaryOp .Pow) powD := by
  refine ⟨_, op_pow, fun G H x y d e z s hx hy hg Q k => ?_⟩
  unfold powD at hg
  split at hg
  · split at hg
    · rename_i hl
      cases hg
      exact ⟨_, _, hx.int, hy.int, hl, k _ _ _ Gr.same (.int _)⟩
    · cases hg
  · cases hg

/-! ### comparisons -/
/-- equal or not, as Python says it -/
def sameD : D → D → Option Bool
  | .int i, .int j => some (i == j)
  | .str i, .str j => some (i == j)
  | .bl i, .bl j => some (i == j)
  | .non, .non => some true
  | .non, .int _ => some false
  | .int _, .non => some false
  | .non, .str _ => some false
  | .str _, .non => some false
  | d, e => if SeqAt.shaped d.py && SeqAt.shaped e.py then some (PyData.eqv d.py e.py) else none
def eqD (d e : D) : Option D := (sameD d e).map .bl
def neD (d e : D) : Option D := (sameD d e).map fun b => .bl (!b)
theorem op_eqDD (hu : X.A.units + 64 < cLine) : OpD X (compareOp .Eq) eqD := by
  refine ⟨_, op_eq.or (op_eqD hu), fun G H x y d e z s hx hy hg Q k => ?_⟩
  unfold eqD at hg
  obtain ⟨b, h1, rfl⟩ := Option.map_eq_some_iff.mp hg
  unfold sameD at h1
  split at h1
  · cases h1
    rw [hx.int, hy.int]
    exact .inl ⟨rfl, by rw [dec_int]; exact k _ _ _ Gr.same (.bl _)⟩
  · cases h1
    rw [hx.str, hy.str]
    exact .inl ⟨rfl, by rw [dec_str]; exact k _ _ _ Gr.same (.bl _)⟩
  · cases h1
    rw [hx.bl, hy.bl]
    exact .inl ⟨rfl, by rw [dec_bl]; exact k _ _ _ Gr.same (.bl _)⟩
  · cases h1
    rw [hx.non, hy.non]
    exact .inl ⟨rfl, k _ _ _ Gr.same (.bl _)⟩
  · cases h1
    rw [hx.non, hy.int]
    exact .inl ⟨rfl, k _ _ _ Gr.same (.bl _)⟩
  · cases h1
    rw [hx.int, hy.non]
    exact .inl ⟨rfl, k _ _ _ Gr.same (.bl _)⟩
  · cases h1
    rw [hx.non, hy.str]
    exact .inl ⟨rfl, k _ _ _ Gr.same (.bl _)⟩
  · cases h1
    rw [hx.str, hy.non]
    exact .inl ⟨rfl, k _ _ _ Gr.same (.bl _)⟩
  · split at h1
    · rename_i hs
      cases h1
      rw [Bool.and_eq_true] at hs
      exact .inr ⟨_, _, hx.dp s (SeqAt.canLay_of_shaped hs.1), hy.dp s (SeqAt.canLay_of_shaped hs.2), hs.1, hs.2, k _ _ _ Gr.same (.bl _)⟩
    · cases h1
theorem op_neDD (hu : X.A.units + 64 < cLine) : OpD X (compareOp .NotEq) neD := by
  refine ⟨_, op_ne.or (op_neD hu), fun G H x y d e z s hx hy hg Q k => ?_⟩
  unfold neD at hg
  obtain ⟨b, h1, rfl⟩ := Option.map_eq_some_iff.mp hg
  unfold sameD at h1
  split at h1
  · cases h1
    rw [hx.int, hy.int]
    exact .inl ⟨rfl, by rw [dec_int]; exact k _ _ _ Gr.same (.bl _)⟩
  · cases h1
    rw [hx.str, hy.str]
    exact .inl ⟨rfl, by rw [dec_str]; exact k _ _ _ Gr.same (.bl _)⟩
  · cases h1
    rw [hx.bl, hy.bl]
    exact .inl ⟨rfl, by rw [dec_bl]; exact k _ _ _ Gr.same (.bl _)⟩
  · cases h1
    rw [hx.non, hy.non]
    exact .inl ⟨rfl, k _ _ _ Gr.same (.bl _)⟩
  · cases h1
    rw [hx.non, hy.int]
    exact .inl ⟨rfl, k _ _ _ Gr.same (.bl _)⟩
  · cases h1
    rw [hx.int, hy.non]
    exact .inl ⟨rfl, k _ _ _ Gr.same (.bl _)⟩
  · cases h1
    rw [hx.non, hy.str]
    exact .inl ⟨rfl, k _ _ _ Gr.same (.bl _)⟩
  · cases h1
    rw [hx.str, hy.non]
    exact .inl ⟨rfl, k _ _ _ Gr.same (.bl _)⟩
  · split at h1
    · rename_i hs
      cases h1
      rw [Bool.and_eq_true] at hs
      exact .inr ⟨_, _, hx.dp s (SeqAt.canLay_of_shaped hs.1), hy.dp s (SeqAt.canLay_of_shaped hs.2), hs.1, hs.2, k _ _ _ Gr.same (.bl _)⟩
    · cases h1
/-- less, by data -/
def lessD : D → D → Option Bool
  | .int i, .int j => some (decide (i < j))
  | .str i, .str j => some (decide (i.cps.toList < j.cps.toList))
  | .tup d, .tup e => if SeqAt.shaped (D.tup d).py && SeqAt.shaped (D.tup e).py && PySem.W.alike (D.tup d).py (D.tup e).py then some (PySem.W.dataLt (D.tup d).py (D.tup e).py) else none
  | _, _ => none
def rLtD (K : PySem.W.Frag) : R2 := fun x y H Q => ∃ d e, Dp K H x d ∧ Dp K H y e ∧ SeqAt.shaped d = true ∧ PySem.W.alike d e = true ∧ d ≠ .none ∧ Q (.bl (PySem.W.dataLt d e)) H
theorem op_ltDp (hu : X.A.units + 64 < cLine) : OpR X (compareOp .Lt) (rLtD X.K) := by
  intro pins s σ H x y v u Q I rx ry h
  obtain ⟨d, e, hd, he, sd, al, nn, q⟩ := h
  obtain ⟨as, r1⟩ := Dp.reads I d x v hd rx
  obtain ⟨bs, r2⟩ := Dp.reads I e y u he ry
  have dd : d.depth ≤ 64 := by
    unfold SeqAt.shaped at sd
    rw [Bool.and_eq_true] at sd
    exact of_decide_eq_true sd.2
  exact PySem.W.lt_data r1 r2 al nn (by omega) ⟨.bl _, H, I, rfl, q⟩
def ltD (d e : D) : Option D := (lessD d e).map .bl
theorem op_ltDD (hu : X.A.units + 64 < cLine) : OpD X (compareOp .Lt) ltD := by
  refine ⟨_, (op_lt.or op_lt_str).or (op_ltDp hu), fun G H x y d e z s hx hy hg Q k => ?_⟩
  unfold ltD at hg
  obtain ⟨b, h1, rfl⟩ := Option.map_eq_some_iff.mp hg
  unfold lessD at h1
  split at h1
  · cases h1
    exact .inl (.inl ⟨_, _, hx.int, hy.int, k _ _ _ Gr.same (.bl _)⟩)
  · cases h1
    exact .inl (.inr ⟨_, _, hx.str, hy.str, k _ _ _ Gr.same (.bl _)⟩)
  · split at h1
    · rename_i hs
      cases h1
      rw [Bool.and_eq_true, Bool.and_eq_true] at hs
      exact .inr ⟨_, _, hx.dp s (SeqAt.canLay_of_shaped hs.1.1), hy.dp s (SeqAt.canLay_of_shaped hs.1.2), hs.1.1, hs.2, by simp [D.py], k _ _ _ Gr.same (.bl _)⟩
    · cases h1
  · cases h1
def cmpI (p : Int → Int → Bool) : D → D → Option D
  | .int i, .int j => some (.bl (p i j))
  | _, _ => none
theorem op_cmpI {op : CmpOp} {p : Int → Int → Bool} (h : OpR X (compareOp op) (rI0 fun i j => .bl (p i j))) : OpD X (compareOp op) (cmpI p) := by
  refine ⟨_, h, fun G H x y d e z s hx hy hg Q k => ?_⟩
  unfold cmpI at hg
  split at hg
  · cases hg
    exact ⟨_, _, hx.int, hy.int, k _ _ _ Gr.same (.bl _)⟩
  · cases hg
def leD := cmpI fun i j => decide (i ≤ j)
def gtD := cmpI fun i j => decide (j < i)
def geD := cmpI fun i j => decide (j ≤ i)
theorem op_leD : OpD X (compareOp .LtE) leD := op_cmpI op_le
theorem op_gtD : OpD X (compareOp .Gt) gtD := op_cmpI op_gt
theorem op_geD : OpD X (compareOp .GtE) geD := op_cmpI op_ge
end
end DL

/-! DL3: operators, comparisons, tests, subscripts, slices as plain functions. -/
namespace DL
open PySem PySem.Spec PyProof.Rows L2

/-! ### keys -/
def keyOf : D → Option Key
  | .int i => some (.inl i)
  | .str x => some (.inr x)
  | _ => none
def keysOf : List D → Option (List Key)
  | [] => some []
  | d :: ds => (keyOf d).bind fun k => (keysOf ds).bind fun ks => some (k :: ks)
def getK {κ : Type} [DecidableEq κ] (kvs : List (κ × D)) (k : κ) : Option D := (kvs.find? fun kv => decide (kv.1 = k)).map (·.2)
def putD {κ : Type} [DecidableEq κ] (kvs : List (κ × D)) (k : κ) (v : D) : List (κ × D) :=
  if (kvs.any fun kv => decide (kv.1 = k)) = true then kvs.map fun kv => if kv.1 = k then (kv.1, v) else kv else kvs ++ [(k, v)]
section
variable {K : PySem.W.Frag} {G H : Hp}
theorem Rp.key {v : V} {d : D} {k : Key} (h : Rp K G v d) (e : keyOf d = some k) : v = kV k := by
  cases h with
  | int i =>
    cases e
    rfl
  | str x =>
    cases e
    rfl
  | _ => cases e
theorem Rps.keys : ∀ {vs : List V} {ds : List D} {ks : List Key}, Rps K G vs ds → keysOf ds = some ks → vs = ks.map kV
  | _, _, _, .nil, e => by
    cases e
    rfl
  | _, _, _, .cons h t, e => by
    obtain ⟨k, h1, h2⟩ := bindE e
    obtain ⟨ks, h3, h4⟩ := bindE h2
    cases h4
    rw [h.key h1, Rps.keys t h3]
    rfl
theorem RpK.val {κ : Type} [DecidableEq κ] (k : κ) : ∀ {es : List (κ × V)} {kvs : List (κ × D)}, RpK K G es kvs → (valV es k = none ∧ getK kvs k = none) ∨ ∃ v d, valV es k = some v ∧ getK kvs k = some d ∧ Rp K G v d
  | _, _, .nil => .inl ⟨rfl, rfl⟩
  | _, _, .cons (k := j) (v := v) (d := d) (es := es) (kvs := kvs) h t => by
    by_cases e : j = k
    · exact .inr ⟨v, d, valV_pos e, by simp [getK, List.find?_cons, e], h⟩
    · have e1 : valV ((j, v) :: es) k = valV es k := valV_neg e
      have e2 : getK ((j, d) :: kvs) k = getK kvs k := by simp [getK, List.find?_cons, e]
      rw [e1, e2]
      exact RpK.val k t
theorem RpK.len {κ : Type} : ∀ {es : List (κ × V)} {kvs : List (κ × D)}, RpK K G es kvs → es.length = kvs.length
  | _, _, .nil => rfl
  | _, _, .cons h t => by rw [List.length_cons, List.length_cons, RpK.len t]
theorem RpK.app {κ : Type} : ∀ {es fs : List (κ × V)} {kvs ls : List (κ × D)}, RpK K G es kvs → RpK K G fs ls → RpK K G (es ++ fs) (kvs ++ ls)
  | _, _, _, _, .nil, r => r
  | _, _, _, _, .cons h t, r => .cons h (RpK.app t r)
theorem RpK.any {κ : Type} [DecidableEq κ] (k : κ) : ∀ {es : List (κ × V)} {kvs : List (κ × D)}, RpK K G es kvs → (es.any fun kv => decide (kv.1 = k)) = kvs.any fun kv => decide (kv.1 = k)
  | _, _, .nil => rfl
  | _, _, .cons h t => by
    rw [List.any_cons, List.any_cons, RpK.any k t]
theorem RpK.repl {κ : Type} [DecidableEq κ] (k : κ) {v : V} {d : D} (h : Rp K G v d) : ∀ {es : List (κ × V)} {kvs : List (κ × D)}, RpK K G es kvs →
    RpK K G (es.map fun kv => if kv.1 = k then (kv.1, v) else kv) (kvs.map fun kv => if kv.1 = k then (kv.1, d) else kv)
  | _, _, .nil => .nil
  | _, _, .cons (k := j) h' t => by
    rw [List.map_cons, List.map_cons]
    by_cases e : j = k
    · rw [if_pos e, if_pos e]
      exact .cons h (RpK.repl k h t)
    · rw [if_neg e, if_neg e]
      exact .cons h' (RpK.repl k h t)
theorem RpK.put {κ : Type} [DecidableEq κ] (k : κ) {v : V} {d : D} {es : List (κ × V)} {kvs : List (κ × D)} (h : Rp K G v d) (r : RpK K G es kvs) : RpK K G (putK es k v) (putD kvs k d) := by
  unfold putD
  rw [← r.any k]
  unfold putK
  split
  · exact r.repl k h
  · exact r.app (.cons h .nil)
theorem dget_k (s : Same G H) {a : Addr} {es : List (Key × V)} {kvs : List (Key × D)} {k : Key} {kd : D} {y : V} (h : Rd H a (.dK es)) (r : RpK K G es kvs) (hy : Rp K G y kd) (ek : keyOf kd = some k) : DGet H a y (valV es k) :=
  .inl ⟨es, k, h, hy.key ek, rfl⟩
theorem dget_t (s : Same G H) {a : Addr} {es : List (List Key × V)} {kvs : List (List Key × D)} {ks : List Key} {kd : List D} {y : V} (h : Rd H a (.dT es)) (r : RpK K G es kvs) (hy : Rp K G y (.tup kd)) (ek : keysOf kd = some ks) : DGet H a y (valV es ks) := by
  cases hy with
  | tup h1 h2 =>
    refine .inr ⟨es, ks, _, h, rfl, ?_, rfl⟩
    rw [← h2.keys ek]
    exact s _ _ h1
end

/-! ### two-place operations -/
def fBin (g : D → D → Option D) (f1 f2 : FE) : FE := fun ρ => (f1 ρ).bind fun r => (f2 r.2).bind fun q => (g r.1 q.1).bind fun z => some (z, q.2)
/-- the first operand a name, looked at behind the second -/
def fBinN (g : D → D → Option D) (i : Nat) (f2 : FE) : FE := fun ρ => (ρ[i]?.bind Sl.view).bind fun _ => (f2 ρ).bind fun q => (q.2[i]?.bind Sl.view).bind fun x => (g x q.1).bind fun z => some (z, q.2)
section
variable {X : Cx} {e a b c : Expr} {pos : Pos} {fa fb fc : FE} {g : D → D → Option D}
theorem at_view {K : PySem.W.Frag} {F : Bk} {G H : Hp} {σ : L2.St} {ρ : Sls} (R : SR K F G H σ ρ) {i : Nat} {x : D} (h : ρ[i]?.bind Sl.view = some x) : ∃ v, σ[i]? = some (some v) ∧ Rv K G H v x := by
  obtain ⟨s, h1, h2⟩ := bindE h
  exact R.view h1 h2
theorem bin_run {r : R2} {ta tb : TE} (hr : ∀ G H x y d e z, Same G H → Rv X.K G H x d → Rv X.K G H y e → g d e = some z → ∀ Q : VK, (∀ G' H' v, Gr G H G' H' → Rp X.K G' v z → Q v H') → r x y H Q)
    (qa : ∀ F G H σ ρ d ρ', SR X.K F G H σ ρ → fa ρ = some (d, ρ') → ∀ Q : VK, (∀ G' H' v, Same G G' → SR X.K F G' H' σ ρ' → Rp X.K G' v d → Q v H') → ta σ H Q)
    (qb : ∀ F G H σ ρ d ρ', SR X.K F G H σ ρ → fb ρ = some (d, ρ') → ∀ Q : VK, (∀ G' H' v, Same G G' → SR X.K F G' H' σ ρ' → Rv X.K G' H' v d → Q v H') → tb σ H Q)
    (F : Bk) (G H : Hp) (σ : L2.St) (ρ : Sls) (d : D) (ρ' : Sls) (R : SR X.K F G H σ ρ) (hf : fBin g fa fb ρ = some (d, ρ')) (Q : VK) (k : ∀ G' H' v, Same G G' → SR X.K F G' H' σ ρ' → Rp X.K G' v d → Q v H') : tOp r ta tb σ H Q := by
  obtain ⟨⟨x, ρ1⟩, h1, h2⟩ := bindE hf
  obtain ⟨⟨y, ρ2⟩, h3, h4⟩ := bindE h2
  obtain ⟨z, h5, h6⟩ := bindE h4
  cases h6
  refine qa F G H σ ρ x ρ1 R h1 _ fun G1 H1 v s1 r1 m1 => ?_
  refine qb F G1 H1 σ ρ1 y ρ2 r1 h3 _ fun G2 H2 u s2 r2 m2 => ?_
  refine hr G2 H2 v u x y d r2.gh (.of (m1.mono s2)) m2 h5 Q fun G3 H3 w gr m3 => ?_
  obtain ⟨s3, r3⟩ := r2.gr gr
  exact k G3 H3 w ((s1.trans s2).trans s3) r3 m3
theorem binN_run {r : R2} {i : Nat} {tb : TE} (hr : ∀ G H x y d e z, Same G H → Rv X.K G H x d → Rv X.K G H y e → g d e = some z → ∀ Q : VK, (∀ G' H' v, Gr G H G' H' → Rp X.K G' v z → Q v H') → r x y H Q)
    (qb : ∀ F G H σ ρ d ρ', SR X.K F G H σ ρ → fb ρ = some (d, ρ') → ∀ Q : VK, (∀ G' H' v, Same G G' → SR X.K F G' H' σ ρ' → Rv X.K G' H' v d → Q v H') → tb σ H Q)
    (F : Bk) (G H : Hp) (σ : L2.St) (ρ : Sls) (d : D) (ρ' : Sls) (R : SR X.K F G H σ ρ) (hf : fBinN g i fb ρ = some (d, ρ')) (Q : VK) (k : ∀ G' H' v, Same G G' → SR X.K F G' H' σ ρ' → Rp X.K G' v d → Q v H') : tOp r (tVar i) tb σ H Q := by
  obtain ⟨x0, h0, h2⟩ := bindE hf
  obtain ⟨⟨y, ρ2⟩, h3, h4⟩ := bindE h2
  obtain ⟨x, h7, h8⟩ := bindE h4
  obtain ⟨z, h5, h6⟩ := bindE h8
  cases h6
  obtain ⟨v, e1, _⟩ := at_view R h0
  refine ⟨v, e1, qb F G H σ ρ y ρ2 R h3 _ fun G2 H2 u s2 r2 m2 => ?_⟩
  obtain ⟨v', e2, m1⟩ := at_view r2 h7
  rw [e1] at e2
  cases e2
  refine hr G2 H2 v u x y d r2.gh m1 m2 h5 Q fun G3 H3 w gr m3 => ?_
  obtain ⟨s3, r3⟩ := r2.gr gr
  exact k G3 H3 w (s2.trans s3) r3 m3
theorem ce_bin {op : Operator} (ho : OpD X (binaryOp op) g) (ha : CE X a fa) (hb : CV X b fb) : CE X (.BinOp a op b pos) (fBin g fa fb) := by
  obtain ⟨r, h1, hr⟩ := ho
  obtain ⟨ta, p1, q1⟩ := ha
  obtain ⟨tb, p2, q2⟩ := hb
  exact ⟨_, pe_op h1 p1 p2, bin_run hr q1 q2⟩
theorem ce_binN {op : Operator} {i : Nat} (ho : OpD X (binaryOp op) g) (ha : PE X a (tVar i)) (hb : CV X b fb) : CE X (.BinOp a op b pos) (fBinN g i fb) := by
  obtain ⟨r, h1, hr⟩ := ho
  obtain ⟨tb, p2, q2⟩ := hb
  exact ⟨_, pe_op h1 ha p2, binN_run hr q2⟩

/-! ### comparisons -/
def CC (X : Cx) (op : CmpOp) (a b : Expr) (f : FE) : Prop :=
  ∃ t : TE, PC X op a b t ∧ ∀ F G H σ ρ d ρ', SR X.K F G H σ ρ → f ρ = some (d, ρ') → ∀ Q : VK, (∀ G' H' v, Same G G' → SR X.K F G' H' σ ρ' → Rp X.K G' v d → Q v H') → t σ H Q
theorem pc_of {op : CmpOp} {r : R2} {ta tb : TE} (ho : OpR X (compareOp op) r) (ha : PE X a ta) (hb : PE X b tb) : PC X op a b (tOp r ta tb) :=
  ⟨fun pins s σ H Q I h => bin ha hb I h fun v u s2 x y H2 I2 rx ry q => ho pins s2 σ H2 x y v u Q I2 rx ry q⟩
theorem pc_either {op : CmpOp} {t u : TE} (h1 : PC X op a b t) (h2 : PC X op a b u) : PC X op a b (fun σ H Q => t σ H Q ∨ u σ H Q) := ⟨fun pins s σ H Q I h => by
  rcases h with h | h
  · exact h1.run pins s σ H Q I h
  · exact h2.run pins s σ H Q I h⟩
theorem cc_op {op : CmpOp} (ho : OpD X (compareOp op) g) (ha : CE X a fa) (hb : CV X b fb) : CC X op a b (fBin g fa fb) := by
  obtain ⟨r, h1, hr⟩ := ho
  obtain ⟨ta, p1, q1⟩ := ha
  obtain ⟨tb, p2, q2⟩ := hb
  exact ⟨_, pc_of h1 p1 p2, bin_run hr q1 q2⟩
theorem cc_opN {op : CmpOp} {i : Nat} (ho : OpD X (compareOp op) g) (ha : PE X a (tVar i)) (hb : CV X b fb) : CC X op a b (fBinN g i fb) := by
  obtain ⟨r, h1, hr⟩ := ho
  obtain ⟨tb, p2, q2⟩ := hb
  exact ⟨_, pc_of h1 ha p2, binN_run hr q2⟩
/-- is None -/
def fIsN (neg : Bool) (f : FE) : FE := fun ρ => (f ρ).bind fun r => some (.bl (match r.1 with | .non => !neg | _ => neg), r.2)
theorem Rp.non_iff {K : PySem.W.Frag} {G : Hp} {v : V} {d : D} (h : Rp K G v d) : decide (v = .non) = (match d with | .non => true | _ => false) := by
  cases h <;> rfl
theorem cc_isN {j : Nat} {p : Pos} (ha : CE X a fa) : CC X .Is a (.Constant .none j p) (fIsN false fa) := by
  obtain ⟨ta, p1, q1⟩ := ha
  refine ⟨_, pc_isN p1, fun F G H σ ρ d ρ' R hf Q k => ?_⟩
  obtain ⟨⟨x, ρ1⟩, h1, h2⟩ := bindE hf
  cases h2
  refine q1 F G H σ ρ x ρ1 R h1 _ fun G1 H1 v s1 r1 m1 => ?_
  rw [m1.non_iff]
  have := k G1 H1 (.bl (match x with | .non => true | _ => false)) s1 r1
  cases x <;> exact this (.bl _)
theorem cc_notN {j : Nat} {p : Pos} (ha : CE X a fa) : CC X .IsNot a (.Constant .none j p) (fIsN true fa) := by
  obtain ⟨ta, p1, q1⟩ := ha
  refine ⟨_, pc_notN p1, fun F G H σ ρ d ρ' R hf Q k => ?_⟩
  obtain ⟨⟨x, ρ1⟩, h1, h2⟩ := bindE hf
  cases h2
  refine q1 F G H σ ρ x ρ1 R h1 _ fun G1 H1 v s1 r1 m1 => ?_
  rw [m1.non_iff]
  have := k G1 H1 (.bl (!(match x with | .non => true | _ => false))) s1 r1
  cases x <;> exact this (.bl _)
/-- x in y -/
def memD : D → D → Option Bool
  | x, .lst ds => if SeqAt.shaped x.py && SeqAt.shaped (D.lst ds).py then some ((D.pys ds).any fun z => PyData.eqv z x.py) else none
  | x, .tup ds => if SeqAt.shaped x.py && SeqAt.shaped (D.lst ds).py then some ((D.pys ds).any fun z => PyData.eqv z x.py) else none
  | x, .dk kvs => (keyOf x).map fun k => (getK kvs k).isSome
  | .tup ks, .dt kvs => (keysOf ks).map fun k => (getK kvs k).isSome
  | .str x, .str z => match x.cps.toList with | [c] => some (decide (c ∈ z.cps.toList)) | _ => none
  | _, _ => none
def rInTD (K : PySem.W.Frag) : R2 := fun x y H Q => ∃ d ds, Dp K H x d ∧ Dp K H y (.tuple ds) ∧ SeqAt.shaped d = true ∧ SeqAt.shaped (.list ds) = true ∧ Q (.bl (ds.any fun z => PyData.eqv z d)) H
def rNotInTD (K : PySem.W.Frag) : R2 := fun x y H Q => ∃ d ds, Dp K H x d ∧ Dp K H y (.tuple ds) ∧ SeqAt.shaped d = true ∧ SeqAt.shaped (.list ds) = true ∧ Q (.bl (!ds.any fun z => PyData.eqv z d)) H
theorem op_inTD (hu : X.A.units + 65 < cLine) : OpR X (compareOp .In) (rInTD X.K) := by
  intro pins s σ H x y v u Q I rx ry h
  obtain ⟨d, ds, hd, he, sd, se, q⟩ := h
  obtain ⟨as, r1⟩ := Dp.reads I d x v hd rx
  obtain ⟨bs, r2⟩ := Dp.reads I (.tuple ds) y u he ry
  exact SeqAt.in_tuple_reads r2 r1 (SeqAt.canLay_of_shaped se) (SeqAt.canLay_of_shaped sd) (room_in_shaped sd hu) ⟨.bl _, H, I, rfl, q⟩
theorem op_notInTD (hu : X.A.units + 65 < cLine) : OpR X (compareOp .NotIn) (rNotInTD X.K) := by
  intro pins s σ H x y v u Q I rx ry h
  obtain ⟨d, ds, hd, he, sd, se, q⟩ := h
  obtain ⟨as, r1⟩ := Dp.reads I d x v hd rx
  obtain ⟨bs, r2⟩ := Dp.reads I (.tuple ds) y u he ry
  exact SeqAt.notIn_tuple_reads r2 r1 (SeqAt.canLay_of_shaped se) (SeqAt.canLay_of_shaped sd) (room_in_shaped sd hu) ⟨.bl _, H, I, rfl, q⟩
theorem shaped_lst {ds : List D} (h : SeqAt.shaped (D.lst ds).py = true) : PyData.canLayAll0 (D.pys ds) = true := by
  have := SeqAt.canLay_of_shaped h
  simpa [D.py, PyData.canLay0] using this
theorem Rv.key {K : PySem.W.Frag} {G H : Hp} {v : V} {d : D} {k : Key} (h : Rv K G H v d) (e : keyOf d = some k) : Rp K G v d := by
  rcases h with h | ⟨a, ds, rfl, rfl, _⟩ | ⟨a, kvs, rfl, rfl, _⟩ | ⟨a, kvs, rfl, rfl, _⟩
  · exact h
  all_goals cases e
def fIn (f1 f2 : FE) : FE := fBin (fun x y => (memD x y).map .bl) f1 f2
def fNotIn (f1 f2 : FE) : FE := fBin (fun x y => (memD x y).map fun b => .bl (!b)) f1 f2
theorem cc_in_run {ta tb : TE} {F : Bk} {G H : Hp} {σ : L2.St} {ρ' : Sls} {x y : D} {w : Bool} {Q : VK} (h7 : memD x y = some w)
    (go : ∀ {R2' : V → V → Hp → Prop}, (∀ G2 H2 v u, Same G G2 → SR X.K F G2 H2 σ ρ' → Rp X.K G2 v x → Rv X.K G2 H2 u y → R2' v u H2) → ta σ H fun v H1 => tb σ H1 fun u H2 => R2' v u H2)
    (k : ∀ G' H' v, Same G G' → SR X.K F G' H' σ ρ' → Rp X.K G' v (.bl (w)) → Q v H') :
    (tOp (fun x y H Q => (rInD X.K x y H Q ∨ rInTD X.K x y H Q) ∨ (fun x y H Q => ∃ (c : Nat) (z : Str), x = .str ⟨#[c]⟩ ∧ y = .str z ∧ Q (.bl (decide (c ∈ z.cps.toList))) H) x y H Q) ta tb σ H Q) ∨ tDIn ta tb σ H Q := by
  unfold memD at h7
  split at h7
  · split at h7
    · rename_i hs
      cases h7
      rw [Bool.and_eq_true] at hs
      exact .inl (go fun G2 H2 v u s2 r2 m1 m2 => .inl (.inl ⟨_, _, m1.dp r2.gh (SeqAt.canLay_of_shaped hs.1), m2.dp r2.gh (SeqAt.canLay_of_shaped hs.2), hs.1, hs.2, k G2 H2 _ s2 r2 (.bl _)⟩))
    · cases h7
  · split at h7
    · rename_i hs
      cases h7
      rw [Bool.and_eq_true] at hs
      exact .inl (go fun G2 H2 v u s2 r2 m1 m2 => .inl (.inr ⟨_, _, m1.dp r2.gh (SeqAt.canLay_of_shaped hs.1), m2.dp r2.gh (by simpa [D.py, PyData.canLay0] using shaped_lst hs.2), hs.1, hs.2, k G2 H2 _ s2 r2 (.bl _)⟩))
    · cases h7
  · obtain ⟨kk, h8, rfl⟩ := Option.map_eq_some_iff.mp h7
    refine .inr (go fun G2 H2 v u s2 r2 m1 m2 => ?_)
    obtain ⟨a, es, rfl, hd, rk⟩ := m2.dk r2.gh
    refine ⟨a, _, rfl, dget_k r2.gh hd rk m1 h8, ?_⟩
    rcases rk.val kk with ⟨e1, e2⟩ | ⟨v', d', e1, e2, _⟩
    · rw [e1]
      rw [e2] at k
      exact k G2 H2 _ s2 r2 (.bl _)
    · rw [e1]
      rw [e2] at k
      exact k G2 H2 _ s2 r2 (.bl _)
  · obtain ⟨kk, h8, rfl⟩ := Option.map_eq_some_iff.mp h7
    refine .inr (go fun G2 H2 v u s2 r2 m1 m2 => ?_)
    obtain ⟨a, es, rfl, hd, rk⟩ := m2.dt r2.gh
    refine ⟨a, _, rfl, dget_t r2.gh hd rk m1 h8, ?_⟩
    rcases rk.val kk with ⟨e1, e2⟩ | ⟨v', d', e1, e2, _⟩
    · rw [e1]
      rw [e2] at k
      exact k G2 H2 _ s2 r2 (.bl _)
    · rw [e1]
      rw [e2] at k
      exact k G2 H2 _ s2 r2 (.bl _)
  · rename_i xx zz
    split at h7
    · rename_i c hc
      cases h7
      have ex : xx = (⟨#[c]⟩ : Str) := by
        cases xx with
        | mk a =>
          have e2 : a = #[c] := Array.toList_inj.mp hc
          rw [e2]
      subst ex
      exact .inl (go fun G2 H2 v u s2 r2 m1 m2 => .inr ⟨_, _, (Rv.of (H := H2) m1).str, m2.str, k G2 H2 _ s2 r2 (.bl _)⟩)
    · cases h7
  · cases h7
theorem cc_in (hu : X.A.units + 65 < cLine) (ha : CE X a fa) (hb : CV X b fb) : CC X .In a b (fIn fa fb) := by
  obtain ⟨ta, p1, q1⟩ := ha
  obtain ⟨tb, p2, q2⟩ := hb
  refine ⟨_, pc_either (pc_of (((op_inD hu).or (op_inTD hu)).or op_in_sign) p1 p2) (pc_din (by omega) p1 p2), fun F G H σ ρ d ρ' R hf Q k => ?_⟩
  obtain ⟨⟨x, ρ1⟩, h1, h2⟩ := bindE hf
  obtain ⟨⟨y, ρ2⟩, h3, h4⟩ := bindE h2
  obtain ⟨z, h5, h6⟩ := bindE h4
  cases h6
  obtain ⟨w, h7, rfl⟩ := Option.map_eq_some_iff.mp h5
  refine cc_in_run (F := F) (G := G) (ρ' := ρ2) h7 (fun hr => ?_) k
  exact q1 F G H σ ρ x ρ1 R h1 _ fun G1 H1 v s1 r1 m1 => q2 F G1 H1 σ ρ1 y ρ2 r1 h3 _ fun G2 H2 u s2 r2 m2 => hr G2 H2 v u (s1.trans s2) r2 (m1.mono s2) m2
theorem cc_notIn_run {ta tb : TE} {F : Bk} {G H : Hp} {σ : L2.St} {ρ' : Sls} {x y : D} {w : Bool} {Q : VK} (h7 : memD x y = some w)
    (go : ∀ {R2' : V → V → Hp → Prop}, (∀ G2 H2 v u, Same G G2 → SR X.K F G2 H2 σ ρ' → Rp X.K G2 v x → Rv X.K G2 H2 u y → R2' v u H2) → ta σ H fun v H1 => tb σ H1 fun u H2 => R2' v u H2)
    (k : ∀ G' H' v, Same G G' → SR X.K F G' H' σ ρ' → Rp X.K G' v (.bl (!w)) → Q v H') :
    (tOp (fun x y H Q => (rNotInD X.K x y H Q ∨ rNotInTD X.K x y H Q) ∨ (fun x y H Q => ∃ (c : Nat) (z : Str), x = .str ⟨#[c]⟩ ∧ y = .str z ∧ Q (.bl (!decide (c ∈ z.cps.toList))) H) x y H Q) ta tb σ H Q) ∨ tDNotIn ta tb σ H Q := by
  unfold memD at h7
  split at h7
  · split at h7
    · rename_i hs
      cases h7
      rw [Bool.and_eq_true] at hs
      exact .inl (go fun G2 H2 v u s2 r2 m1 m2 => .inl (.inl ⟨_, _, m1.dp r2.gh (SeqAt.canLay_of_shaped hs.1), m2.dp r2.gh (SeqAt.canLay_of_shaped hs.2), hs.1, hs.2, k G2 H2 _ s2 r2 (.bl _)⟩))
    · cases h7
  · split at h7
    · rename_i hs
      cases h7
      rw [Bool.and_eq_true] at hs
      exact .inl (go fun G2 H2 v u s2 r2 m1 m2 => .inl (.inr ⟨_, _, m1.dp r2.gh (SeqAt.canLay_of_shaped hs.1), m2.dp r2.gh (by simpa [D.py, PyData.canLay0] using shaped_lst hs.2), hs.1, hs.2, k G2 H2 _ s2 r2 (.bl _)⟩))
    · cases h7
  · obtain ⟨kk, h8, rfl⟩ := Option.map_eq_some_iff.mp h7
    refine .inr (go fun G2 H2 v u s2 r2 m1 m2 => ?_)
    obtain ⟨a, es, rfl, hd, rk⟩ := m2.dk r2.gh
    refine ⟨a, _, rfl, dget_k r2.gh hd rk m1 h8, ?_⟩
    rcases rk.val kk with ⟨e1, e2⟩ | ⟨v', d', e1, e2, _⟩
    · rw [e1]
      rw [e2] at k
      exact k G2 H2 _ s2 r2 (.bl _)
    · rw [e1]
      rw [e2] at k
      exact k G2 H2 _ s2 r2 (.bl _)
  · obtain ⟨kk, h8, rfl⟩ := Option.map_eq_some_iff.mp h7
    refine .inr (go fun G2 H2 v u s2 r2 m1 m2 => ?_)
    obtain ⟨a, es, rfl, hd, rk⟩ := m2.dt r2.gh
    refine ⟨a, _, rfl, dget_t r2.gh hd rk m1 h8, ?_⟩
    rcases rk.val kk with ⟨e1, e2⟩ | ⟨v', d', e1, e2, _⟩
    · rw [e1]
      rw [e2] at k
      exact k G2 H2 _ s2 r2 (.bl _)
    · rw [e1]
      rw [e2] at k
      exact k G2 H2 _ s2 r2 (.bl _)
  · rename_i xx zz
    split at h7
    · rename_i c hc
      cases h7
      have ex : xx = (⟨#[c]⟩ : Str) := by
        cases xx with
        | mk a =>
          have e2 : a = #[c] := Array.toList_inj.mp hc
          rw [e2]
      subst ex
      exact .inl (go fun G2 H2 v u s2 r2 m1 m2 => .inr ⟨_, _, (Rv.of (H := H2) m1).str, m2.str, k G2 H2 _ s2 r2 (.bl _)⟩)
    · cases h7
  · cases h7
theorem cc_notIn (hu : X.A.units + 65 < cLine) (ha : CE X a fa) (hb : CV X b fb) : CC X .NotIn a b (fNotIn fa fb) := by
  obtain ⟨ta, p1, q1⟩ := ha
  obtain ⟨tb, p2, q2⟩ := hb
  refine ⟨_, pc_either (pc_of (((op_notInD hu).or (op_notInTD hu)).or op_notIn_sign) p1 p2) (pc_dnotin (by omega) p1 p2), fun F G H σ ρ d ρ' R hf Q k => ?_⟩
  obtain ⟨⟨x, ρ1⟩, h1, h2⟩ := bindE hf
  obtain ⟨⟨y, ρ2⟩, h3, h4⟩ := bindE h2
  obtain ⟨z, h5, h6⟩ := bindE h4
  cases h6
  obtain ⟨w, h7, rfl⟩ := Option.map_eq_some_iff.mp h5
  refine cc_notIn_run (F := F) (G := G) (ρ' := ρ2) h7 (fun hr => ?_) k
  exact q1 F G H σ ρ x ρ1 R h1 _ fun G1 H1 v s1 r1 m1 => q2 F G1 H1 σ ρ1 y ρ2 r1 h3 _ fun G2 H2 u s2 r2 m2 => hr G2 H2 v u (s1.trans s2) r2 (m1.mono s2) m2
theorem ce_cmp {op : CmpOp} {f : FE} (h : CC X op a b f) (hm : behindInMarks op b = false) : CE X (.Compare a [op] [b] pos) f := by
  obtain ⟨t, p, q⟩ := h
  exact ⟨t, pe_cmp p hm, q⟩
/-! ### tests -/
def fTest (f : FE) : FT := fun ρ => (f ρ).bind fun r => match r.1 with | .bl k => some (k, r.2) | _ => none
theorem fTest_some {f : FE} {ρ ρ' : Sls} {b : Bool} (h : fTest f ρ = some (b, ρ')) : f ρ = some (.bl b, ρ') := by
  obtain ⟨⟨x, ρ1⟩, h1, h2⟩ := bindE h
  cases x with
  | bl k =>
    cases h2
    exact h1
  | _ => cases h2
theorem ct_cmp {op : CmpOp} {f : FE} (h : CC X op a b f) (hm : behindInMarks op b = false) : CT X (.Compare a [op] [b] pos) (fTest f) := by
  obtain ⟨t, p, q⟩ := h
  refine ⟨_, pt_cmp p hm, fun F G H σ ρ d ρ' R hf Q k => ?_⟩
  refine q F G H σ ρ _ ρ' R (fTest_some hf) _ fun G1 H1 v s1 r1 m1 => ⟨d, (Rv.of (H := H1) m1).bl, k G1 H1 s1 r1⟩
/-- truth -/
def truD : D → Option Bool
  | .non => some false
  | .bl b => some b
  | .int i => some (i != 0)
  | .str y => if y.length ≤ 1000000 then some ((y.length : Int) != 0) else none
  | .lst xs => some (!xs.isEmpty)
  | .tup xs => some (!xs.isEmpty)
  | .dk _ => none
  | .dt _ => none
  | .scr _ => none
def fTru (f : FE) : FT := fun ρ => (f ρ).bind fun r => (truD r.1).bind fun k => some (k, r.2)
theorem Rps.empty {K : PySem.W.Frag} {G : Hp} {vs : List V} {ds : List D} (h : Rps K G vs ds) : vs.isEmpty = ds.isEmpty := by
  cases h <;> rfl
theorem truV_of {K : PySem.W.Frag} {G H : Hp} {v : V} {d : D} {k : Bool} (s : Same G H) (h : Rv K G H v d) (e : truD d = some k) : TruV K v H k := by
  unfold truD at e
  split at e
  · cases e
    rw [h.non]
    exact rfl
  · cases e
    rw [h.bl]
    exact rfl
  · cases e
    rw [h.int]
    exact rfl
  · split at e
    · rename_i hl
      cases e
      rw [h.str]
      exact ⟨le_line hl, rfl⟩
    · cases e
  · cases e
    obtain ⟨a, vs, rfl, h1, h2⟩ := h.lst s
    exact .inl ⟨vs, SqL.of h1, by rw [h2.empty]⟩
  · cases e
    obtain ⟨a, vs, rfl, h1, h2⟩ := h.tup
    exact .inr (.inl ⟨vs, SqT.of (s _ _ h1), by rw [h2.empty]⟩)
  all_goals cases e
theorem ct_tru {f : FE} (h : CV X a f) (he : ∀ whole, isTrue a X.env whole = (do let v ← whole; standAt a.pos; holding [v] (truthy v)) := by intro _; rfl) : CT X a (fTru f) := by
  obtain ⟨t, p, q⟩ := h
  refine ⟨_, pt_truth p he, fun F G H σ ρ d ρ' R hf Q k => ?_⟩
  obtain ⟨⟨x, ρ1⟩, h1, h2⟩ := bindE hf
  obtain ⟨b, h3, h4⟩ := bindE h2
  cases h4
  exact q F G H σ ρ x _ R h1 _ fun G1 H1 v s1 r1 m1 => ⟨d, truV_of r1.gh m1 h3, k G1 H1 s1 r1⟩
def fAndT (f g : FT) : FT := fun ρ => (f ρ).bind fun r => if r.1 = true then g r.2 else some (false, r.2)
def fOrT (f g : FT) : FT := fun ρ => (f ρ).bind fun r => if r.1 = true then some (true, r.2) else g r.2
def fNotT (f : FT) : FT := fun ρ => (f ρ).bind fun r => some (!r.1, r.2)
variable {f1 f2 : FT} {rest : List Expr}
theorem cw_and1 (h : CT X a f1) : CW X (.BoolOp .And [a] pos) f1 := let ⟨t, p, q⟩ := h; ⟨t, pw_and1 p, q⟩
theorem cw_or1 (h : CT X a f1) : CW X (.BoolOp .Or [a] pos) f1 := let ⟨t, p, q⟩ := h; ⟨t, pw_or1 p, q⟩
theorem cw_and (h1 : CT X a f1) (h2 : CW X (.BoolOp .And (b :: rest) pos) f2) : CW X (.BoolOp .And (a :: b :: rest) pos) (fAndT f1 f2) := by
  obtain ⟨t, p, q⟩ := h1
  obtain ⟨t2, p2, q2⟩ := h2
  refine ⟨_, pw_and p p2, fun F G H σ ρ d ρ' R hf Q k => ?_⟩
  obtain ⟨⟨x, ρ1⟩, h3, h4⟩ := bindE hf
  refine q F G H σ ρ x ρ1 R h3 _ fun G1 H1 s1 r1 => ?_
  cases x with
  | true => exact q2 F G1 H1 σ ρ1 d ρ' r1 h4 Q fun G2 H2 s2 r2 => k G2 H2 (s1.trans s2) r2
  | false =>
    cases h4
    exact k G1 H1 s1 r1
theorem cw_or (h1 : CT X a f1) (h2 : CW X (.BoolOp .Or (b :: rest) pos) f2) : CW X (.BoolOp .Or (a :: b :: rest) pos) (fOrT f1 f2) := by
  obtain ⟨t, p, q⟩ := h1
  obtain ⟨t2, p2, q2⟩ := h2
  refine ⟨_, pw_or p p2, fun F G H σ ρ d ρ' R hf Q k => ?_⟩
  obtain ⟨⟨x, ρ1⟩, h3, h4⟩ := bindE hf
  refine q F G H σ ρ x ρ1 R h3 _ fun G1 H1 s1 r1 => ?_
  cases x with
  | false => exact q2 F G1 H1 σ ρ1 d ρ' r1 h4 Q fun G2 H2 s2 r2 => k G2 H2 (s1.trans s2) r2
  | true =>
    cases h4
    exact k G1 H1 s1 r1
theorem CW.t (h : CW X a f1) : CT X a f1 := let ⟨t, p, q⟩ := h; ⟨t, p.pt, q⟩
theorem ct_not (h : CT X a f1) : CT X (.UnaryOp .Not a pos) (fNotT f1) := by
  obtain ⟨t, p, q⟩ := h
  refine ⟨_, pt_not p, fun F G H σ ρ d ρ' R hf Q k => ?_⟩
  obtain ⟨⟨x, ρ1⟩, h3, h4⟩ := bindE hf
  cases h4
  exact q F G H σ ρ x _ R h3 _ fun G1 H1 s1 r1 => k G1 H1 s1 r1
/-! ### and, or, not as values; if as a value -/
def fAnd (f g : FE) : FE := fun ρ => (f ρ).bind fun r => (truD r.1).bind fun k => if k = true then g r.2 else some r
def fOr (f g : FE) : FE := fun ρ => (f ρ).bind fun r => (truD r.1).bind fun k => if k = true then some r else g r.2
def fNot (f : FE) : FE := fun ρ => (f ρ).bind fun r => (truD r.1).bind fun k => some (.bl (!k), r.2)
theorem ce_one {op : BoolOp} (h : CE X a fa) : CE X (.BoolOp op [a] pos) fa := let ⟨t, p, q⟩ := h; ⟨t, pe_one p, q⟩
theorem ce_and (h1 : CE X a fa) (h2 : CE X (.BoolOp .And (b :: rest) pos) fb) : CE X (.BoolOp .And (a :: b :: rest) pos) (fAnd fa fb) := by
  obtain ⟨t, p, q⟩ := h1
  obtain ⟨t2, p2, q2⟩ := h2
  refine ⟨_, pe_andT p p2, fun F G H σ ρ d ρ' R hf Q k => ?_⟩
  obtain ⟨⟨x, ρ1⟩, h3, h4⟩ := bindE hf
  obtain ⟨b, h5, h6⟩ := bindE h4
  refine q F G H σ ρ x ρ1 R h3 _ fun G1 H1 v s1 r1 m1 => ⟨b, truV_of r1.gh (.of m1) h5, ?_⟩
  cases b with
  | true => exact q2 F G1 H1 σ ρ1 d ρ' r1 h6 Q fun G2 H2 v s2 r2 m2 => k G2 H2 v (s1.trans s2) r2 m2
  | false =>
    cases h6
    exact k G1 H1 v s1 r1 m1
theorem ce_or (h1 : CE X a fa) (h2 : CE X (.BoolOp .Or (b :: rest) pos) fb) : CE X (.BoolOp .Or (a :: b :: rest) pos) (fOr fa fb) := by
  obtain ⟨t, p, q⟩ := h1
  obtain ⟨t2, p2, q2⟩ := h2
  refine ⟨_, pe_orT p p2, fun F G H σ ρ d ρ' R hf Q k => ?_⟩
  obtain ⟨⟨x, ρ1⟩, h3, h4⟩ := bindE hf
  obtain ⟨b, h5, h6⟩ := bindE h4
  refine q F G H σ ρ x ρ1 R h3 _ fun G1 H1 v s1 r1 m1 => ⟨b, truV_of r1.gh (.of m1) h5, ?_⟩
  cases b with
  | false => exact q2 F G1 H1 σ ρ1 d ρ' r1 h6 Q fun G2 H2 v s2 r2 m2 => k G2 H2 v (s1.trans s2) r2 m2
  | true =>
    cases h6
    exact k G1 H1 v s1 r1 m1
theorem ce_not (h1 : CE X a fa) : CE X (.UnaryOp .Not a pos) (fNot fa) := by
  obtain ⟨t, p, q⟩ := h1
  refine ⟨_, pe_notT p, fun F G H σ ρ d ρ' R hf Q k => ?_⟩
  obtain ⟨⟨x, ρ1⟩, h3, h4⟩ := bindE hf
  obtain ⟨b, h5, h6⟩ := bindE h4
  cases h6
  exact q F G H σ ρ x _ R h3 _ fun G1 H1 v s1 r1 m1 => ⟨b, truV_of r1.gh (.of m1) h5, k G1 H1 _ s1 r1 (.bl _)⟩
def fIf (c : FT) (f g : FE) : FE := fun ρ => (c ρ).bind fun r => if r.1 = true then f r.2 else g r.2
theorem ce_if (h : CT X c f1) (h1 : CE X a fa) (h2 : CE X b fb) : CE X (.IfExp c a b pos) (fIf f1 fa fb) := by
  obtain ⟨t0, p0, q0⟩ := h
  obtain ⟨t, p, q⟩ := h1
  obtain ⟨t2, p2, q2⟩ := h2
  refine ⟨_, pe_ifExp p0 p p2, fun F G H σ ρ d ρ' R hf Q k => ?_⟩
  obtain ⟨⟨x, ρ1⟩, h3, h4⟩ := bindE hf
  refine q0 F G H σ ρ x ρ1 R h3 _ fun G1 H1 s1 r1 => ?_
  cases x with
  | true => exact q F G1 H1 σ ρ1 d ρ' r1 h4 Q fun G2 H2 v s2 r2 m2 => k G2 H2 v (s1.trans s2) r2 m2
  | false => exact q2 F G1 H1 σ ρ1 d ρ' r1 h4 Q fun G2 H2 v s2 r2 m2 => k G2 H2 v (s1.trans s2) r2 m2

/-! ### subscripts -/
def ixD : D → D → Option D
  | .lst ds, .int i => atI ds i
  | .tup ds, .int i => atI ds i
  | .str x, .int i => if x.length ≤ 1000000 then (atI x.cps.toList i).map fun c => .str ⟨#[c]⟩ else none
  | .dk kvs, x => (keyOf x).bind fun k => getK kvs k
  | .dt kvs, .tup ks => (keysOf ks).bind fun k => getK kvs k
  | _, _ => none
theorem Rps.atI {K : PySem.W.Frag} {G : Hp} {vs : List V} {ds : List D} {i : Int} {d : D} (h : Rps K G vs ds) (e : L2.atI ds i = some d) : ∃ v, L2.atI vs i = some v ∧ Rp K G v d := by
  unfold L2.atI at e ⊢
  rw [h.len]
  cases q : ixN ds.length i with
  | none =>
    rw [q] at e
    cases e
  | some j =>
    rw [q] at e
    exact h.get e
theorem ix_run {ta tb : TE} {F : Bk} {G H : Hp} {σ : L2.St} {ρ' : Sls} {d x y : D} {Q : VK} (hg : ixD x y = some d)
    (go : ∀ {R2' : V → V → Hp → Prop}, (∀ G2 H2 v u, Same G G2 → SR X.K F G2 H2 σ ρ' → Rv X.K G2 H2 v x → Rp X.K G2 u y → R2' v u H2) → ta σ H fun v H1 => tb σ H1 fun u H2 => R2' v u H2)
    (k : ∀ G' H' v, Same G G' → SR X.K F G' H' σ ρ' → Rp X.K G' v d → Q v H') :
    (tOp (fun x y H Q => (rIxL X.K x y H Q ∨ rIxT X.K x y H Q) ∨ rIxS x y H Q) ta tb σ H Q) ∨ tDGet ta tb σ H Q := by
  unfold ixD at hg
  split at hg
  · refine .inl (go fun G2 H2 v u s2 r2 m1 m2 => ?_)
    obtain ⟨a, vs, rfl, h1, h2⟩ := m1.lst r2.gh
    obtain ⟨w, h3, h4⟩ := h2.atI hg
    exact .inl (.inl ⟨a, vs, _, w, rfl, (Rv.of (H := H2) m2).int, SqL.of h1, h3, k G2 H2 w s2 r2 h4⟩)
  · refine .inl (go fun G2 H2 v u s2 r2 m1 m2 => ?_)
    obtain ⟨a, vs, rfl, h1, h2⟩ := m1.tup
    obtain ⟨w, h3, h4⟩ := h2.atI hg
    exact .inl (.inr ⟨a, vs, _, w, rfl, (Rv.of (H := H2) m2).int, SqT.of (r2.gh _ _ h1), h3, k G2 H2 w s2 r2 h4⟩)
  · split at hg
    · rename_i hl
      obtain ⟨c, h1, rfl⟩ := Option.map_eq_some_iff.mp hg
      refine .inl (go fun G2 H2 v u s2 r2 m1 m2 => ?_)
      exact .inr ⟨_, _, c, m1.str, (Rv.of (H := H2) m2).int, le_line hl, h1, k G2 H2 _ s2 r2 (.str _)⟩
    · cases hg
  · obtain ⟨kk, h1, h2⟩ := bindE hg
    refine .inr (go fun G2 H2 v u s2 r2 m1 m2 => ?_)
    obtain ⟨a, es, rfl, hd, rk⟩ := m1.dk r2.gh
    rcases rk.val kk with ⟨e1, e2⟩ | ⟨v', d', e1, e2, m3⟩
    · rw [e2] at h2
      cases h2
    · rw [h2] at e2
      cases e2
      have g := dget_k r2.gh hd rk m2 h1
      rw [e1] at g
      exact ⟨a, v', rfl, g, k G2 H2 _ s2 r2 m3⟩
  · obtain ⟨kk, h1, h2⟩ := bindE hg
    refine .inr (go fun G2 H2 v u s2 r2 m1 m2 => ?_)
    obtain ⟨a, es, rfl, hd, rk⟩ := m1.dt r2.gh
    rcases rk.val kk with ⟨e1, e2⟩ | ⟨v', d', e1, e2, m3⟩
    · rw [e2] at h2
      cases h2
    · rw [h2] at e2
      cases e2
      have g := dget_t r2.gh hd rk m2 h1
      rw [e1] at g
      exact ⟨a, v', rfl, g, k G2 H2 _ s2 r2 m3⟩
  · cases hg
theorem ce_ix (hu : X.A.units + 1 < cLine) (ha : CE X a fa) (hb : CE X b fb) (h1 : PlainIx b) (h2 : NoSl b) : CE X (.Subscript a b pos) (fBin ixD fa fb) := by
  obtain ⟨ta, p1, q1⟩ := ha
  obtain ⟨tb, p2, q2⟩ := hb
  refine ⟨_, pe_either (pe_ix ((ix_list.or ix_tup).or ix_str) p1 p2 h1) (pe_dget hu p1 p2 h2), fun F G H σ ρ d ρ' R hf Q k => ?_⟩
  obtain ⟨⟨x, ρ1⟩, h1, h2⟩ := bindE hf
  obtain ⟨⟨y, ρ2⟩, h3, h4⟩ := bindE h2
  obtain ⟨z, h5, h6⟩ := bindE h4
  cases h6
  refine ix_run (F := F) (G := G) (ρ' := ρ2) (x := x) (y := y) h5 (fun hr => ?_) k
  exact q1 F G H σ ρ x ρ1 R h1 _ fun G1 H1 v s1 r1 m1 => q2 F G1 H1 σ ρ1 y ρ2 r1 h3 _ fun G2 H2 u s2 r2 m2 => hr G2 H2 v u (s1.trans s2) r2 (.of (m1.mono s2)) m2
theorem ce_ixN {i : Nat} (hu : X.A.units + 1 < cLine) (ha : PE X a (tVar i)) (hb : CE X b fb) (h1 : PlainIx b) (h2 : NoSl b) : CE X (.Subscript a b pos) (fBinN ixD i fb) := by
  obtain ⟨tb, p2, q2⟩ := hb
  refine ⟨_, pe_either (pe_ix ((ix_list.or ix_tup).or ix_str) ha p2 h1) (pe_dget hu ha p2 h2), fun F G H σ ρ d ρ' R hf Q k => ?_⟩
  obtain ⟨x0, h0, h2⟩ := bindE hf
  obtain ⟨⟨y, ρ2⟩, h3, h4⟩ := bindE h2
  obtain ⟨x, h7, h8⟩ := bindE h4
  obtain ⟨z, h5, h6⟩ := bindE h8
  cases h6
  obtain ⟨v, e1, _⟩ := at_view R h0
  refine ix_run (F := F) (G := G) (ρ' := ρ2) (x := x) (y := y) h5 (fun hr => ?_) k
  refine ⟨v, e1, q2 F G H σ ρ y ρ2 R h3 _ fun G2 H2 u s2 r2 m2 => ?_⟩
  obtain ⟨v', e2, m1⟩ := at_view r2 h7
  rw [e1] at e2
  cases e2
  exact hr G2 H2 v u s2 r2 m1 m2
/-! ### slices of texts, of lists -/
def fOno : Sls → Option (Option Int × Sls) := fun ρ => some (none, ρ)
def fOso (f : FE) : Sls → Option (Option Int × Sls) := fun ρ => (f ρ).bind fun r => match r.1 with | .int i => some (some i, r.2) | _ => none
theorem co_no : CO X none fOno := ⟨_, po_none, fun F G H σ ρ d ρ' R hf Q k => by
  cases hf
  exact k G H (Same.refl _) R⟩
theorem co_so (h : CE X a fa) : CO X (some a) (fOso fa) := by
  obtain ⟨t, p, q⟩ := h
  refine ⟨_, po_some p, fun F G H σ ρ d ρ' R hf Q k => ?_⟩
  obtain ⟨⟨x, ρ1⟩, h1, h2⟩ := bindE hf
  cases x with
  | int i =>
    cases h2
    exact q F G H σ ρ _ _ R h1 _ fun G1 H1 v s1 r1 m1 => ⟨i, (Rv.of (H := H1) m1).int, k G1 H1 s1 r1⟩
  | _ => cases h2
def cutD {α : Type} (xs : List α) (lo hi : Option Int) : List α := (xs.drop (HT.sIx xs.length 0 lo)).take (HT.sIx xs.length xs.length hi - HT.sIx xs.length 0 lo)
def fSlS (f : FE) (g h : Sls → Option (Option Int × Sls)) : FE := fun ρ => (f ρ).bind fun r => (g r.2).bind fun p => (h p.2).bind fun q =>
  match r.1 with | .str z => if z.length ≤ 1000000 then some (.str (cutS z p.1 q.1), q.2) else none | _ => none
theorem ce_slS {lo hi : Option Expr} {p2 : Pos} {g1 g2 : Sls → Option (Option Int × Sls)} (ha : CE X a fa) (h1 : CO X lo g1) (h2 : CO X hi g2) : CE X (.Subscript a (.Slice lo hi none p2) pos) (fSlS fa g1 g2) := by
  obtain ⟨t, p, q⟩ := ha
  obtain ⟨t1, p1, q1⟩ := h1
  obtain ⟨t2, p2, q2⟩ := h2
  refine ⟨_, pe_slice sl_str p p1 p2, fun F G H σ ρ d ρ' R hf Q k => ?_⟩
  obtain ⟨⟨x, ρ1⟩, h1, h2⟩ := bindE hf
  obtain ⟨⟨l, ρ2⟩, h3, h4⟩ := bindE h2
  obtain ⟨⟨u, ρ3⟩, h5, h6⟩ := bindE h4
  refine q F G H σ ρ x ρ1 R h1 _ fun G1 H1 v s1 r1 m1 => q1 F G1 H1 σ ρ1 l ρ2 r1 h3 _ fun G2 H2 s2 r2 => q2 F G2 H2 σ ρ2 u ρ3 r2 h5 _ fun G3 H3 s3 r3 => ?_
  cases x with
  | str z =>
    dsimp only at h6
    split at h6
    · rename_i hl
      cases h6
      exact ⟨z, (Rv.of (H := H1) m1).str, le_line hl, k G3 H3 _ ((s1.trans s2).trans s3) r3 (.str _)⟩
    · cases h6
  | _ => cases h6
end
end DL

/-! DL4: targets, what is walked, statements, loops. -/
namespace DL
open PySem PySem.Spec PyProof.Rows L2

section
variable {K : PySem.W.Frag} {F : Bk} {G H : Hp} {σ : L2.St} {ρ : Sls}
/-- a slot is set to a frozen value -/
theorem SR.setD (R : SR K F G H σ ρ) (i : Nat) {v : V} {d : D} (m : Rp K G v d) : SR K F G H (σ.set i (some v)) (ρ.set i (.d d)) where
  gh := R.gh
  bh := R.bh
  g0 := R.g0
  gb := R.gb
  len := by rw [List.length_set, List.length_set]; exact R.len
  sl := fun j s e => by
    rcases set_get e with ⟨rfl, rfl, hl⟩ | ⟨hj, e⟩
    · exact ⟨some v, by rw [List.getElem?_set_self (by rw [R.len]; exact hl)], v, rfl, m⟩
    · obtain ⟨x, h1, h2⟩ := R.sl j s e
      exact ⟨x, by rw [List.getElem?_set_ne (Ne.symm hj)]; exact h1, h2⟩
  own := fun j s a e o q => by
    rcases set_get e with ⟨rfl, rfl, hl⟩ | ⟨hj, e⟩
    · cases o
    · rw [List.getElem?_set_ne (Ne.symm hj)] at q
      exact R.own j s a e o q
  apart := fun j k s t a hjk e1 e2 o1 o2 q => by
    rcases set_get e1 with ⟨rfl, rfl, hl⟩ | ⟨hj, e1⟩
    · cases o1
    · rcases set_get e2 with ⟨rfl, rfl, hl⟩ | ⟨hk, e2⟩
      · cases o2
      · rw [List.getElem?_set_ne (Ne.symm hj)] at q
        rw [List.getElem?_set_ne (Ne.symm hk)]
        exact R.apart j k s t a hjk e1 e2 o1 o2 q
  io := fun j xs e => by
    rcases set_get e with ⟨rfl, e2, hl⟩ | ⟨hj, e⟩
    · cases e2
    · rw [List.getElem?_set_ne (Ne.symm hj)]
      exact R.io j xs e
/-- a slot takes what was nobody's -/
theorem SR.setO (R : SR K F G H σ ρ) (i : Nat) {a : Addr} {s : Sl} (f : Free F G H σ ρ a) (m : OwnAt K G H a s) (hs : ∀ xs, s ≠ .io xs) : SR K F G H (σ.set i (some (.ref a))) (ρ.set i s) where
  gh := R.gh
  bh := R.bh
  g0 := R.g0
  gb := R.gb
  len := by rw [List.length_set, List.length_set]; exact R.len
  sl := fun j t e => by
    rcases set_get e with ⟨rfl, rfl, hl⟩ | ⟨hj, e⟩
    · exact ⟨some (.ref a), by rw [List.getElem?_set_self (by rw [R.len]; exact hl)], .of_own rfl m⟩
    · obtain ⟨x, h1, h2⟩ := R.sl j t e
      exact ⟨x, by rw [List.getElem?_set_ne (Ne.symm hj)]; exact h1, h2⟩
  own := fun j t b e o q => by
    rcases set_get e with ⟨rfl, rfl, hl⟩ | ⟨hj, e⟩
    · rw [List.getElem?_set_self (by rw [R.len]; exact hl)] at q
      cases q
      exact ⟨f.1, f.2.1⟩
    · rw [List.getElem?_set_ne (Ne.symm hj)] at q
      exact R.own j t b e o q
  apart := fun j k t t' b hjk e1 e2 o1 o2 q => by
    rcases set_get e1 with ⟨rfl, rfl, hl⟩ | ⟨hj, e1'⟩
    · rw [List.getElem?_set_self (by rw [R.len]; exact hl)] at q
      cases q
      rcases set_get e2 with ⟨rfl, rfl, hl⟩ | ⟨hk, e2⟩
      · exact absurd rfl hjk
      · rw [List.getElem?_set_ne (Ne.symm hk)]
        exact fun z => f.2.2 k t' _ e2 o2 z rfl
    · rw [List.getElem?_set_ne (Ne.symm hj)] at q
      have e3 := e1'
      rcases set_get e2 with ⟨rfl, rfl, hl⟩ | ⟨hk, e2⟩
      · rw [List.getElem?_set_self (by rw [R.len]; exact hl)]
        exact fun z => by
          cases z
          exact f.2.2 j t _ e3 o1 q rfl
      · rw [List.getElem?_set_ne (Ne.symm hk)]
        exact R.apart j k t t' b hjk e3 e2 o1 o2 q
  io := fun j xs e => by
    rcases set_get e with ⟨rfl, e2, hl⟩ | ⟨hj, e⟩
    · exact absurd e2.symm (hs xs)
    · rw [List.getElem?_set_ne (Ne.symm hj)]
      exact R.io j xs e
/-- a slot's own object is changed -/
theorem SR.chg (R : SR K F G H σ ρ) {i : Nat} {s t : Sl} {a : Addr} {u : HO} (e : ρ[i]? = some s) (o : s.own = true) (q : σ[i]? = some (some (.ref a)))
    (m : OwnAt K G (upd H a u) a t) (hio : ∀ xs, t = .io xs → ∃ ys, s = .io ys) : SR K F G (upd H a u) σ (ρ.set i t) := by
  obtain ⟨n1, n2⟩ := R.own i s a e o q
  have ne : ∀ (j : Nat) t b, j ≠ i → ρ[j]? = some t → t.own = true → σ[j]? = some (some (.ref b)) → b ≠ a := fun j t b hj e1 o1 q1 z => by
    subst z
    exact R.apart j i t s b hj e1 e o1 o q1 q
  refine ⟨fun b w h => ?_, fun b w h => ?_, R.g0, R.gb, by rw [List.length_set]; exact R.len, fun j t' h => ?_, fun j t' b h o1 q1 => ?_, fun j k t' t'' b hjk h1 h2 o1 o2 q1 => ?_, fun j xs h => ?_⟩
  · rw [upd_ne (fun z => by rw [z, n1] at h; cases h)]
    exact R.gh _ _ h
  · rw [upd_ne (fun z => by rw [z, n2] at h; cases h)]
    exact R.bh _ _ h
  · rcases set_get h with ⟨rfl, rfl, hl⟩ | ⟨hj, h⟩
    · exact ⟨_, q, .of_own rfl m⟩
    · obtain ⟨x, h1, h2⟩ := R.sl j t' h
      refine ⟨x, h1, ?_⟩
      cases o1 : t'.own with
      | true =>
        obtain ⟨b, rfl, h3⟩ := h2.own_of o1
        exact .of_own rfl (h3.mono (Same.refl _) (upd_ne (ne j t' b hj h o1 h1)))
      | false =>
        cases t' with
        | no => trivial
        | d y => exact h2
        | _ => cases o1
  · rcases set_get h with ⟨rfl, rfl, hl⟩ | ⟨hj, h⟩
    · rw [q] at q1
      cases q1
      exact ⟨n1, n2⟩
    · exact R.own j t' b h o1 q1
  · rcases set_get h1 with ⟨rfl, rfl, hl⟩ | ⟨hj, h1'⟩
    · rcases set_get h2 with ⟨rfl, rfl, hl⟩ | ⟨hk, h2'⟩
      · exact absurd rfl hjk
      · exact R.apart _ _ _ _ _ hjk e h2' o o2 q1
    · rcases set_get h2 with ⟨rfl, rfl, hl⟩ | ⟨hk, h2'⟩
      · exact R.apart _ _ _ _ _ hjk h1' e o1 o q1
      · exact R.apart j k t' t'' b hjk h1' h2' o1 o2 q1
  · rcases set_get h with ⟨rfl, e2, hl⟩ | ⟨hj, h⟩
    · obtain ⟨ys, rfl⟩ := hio xs e2.symm
      exact R.io _ ys e
    · exact R.io j xs h
/-- slots forgotten -/
theorem SR.forget (R : SR K F G H σ ρ) (i : Nat) (x : Option V) : SR K F G H (σ.set i x) (ρ.set i .no) where
  gh := R.gh
  bh := R.bh
  g0 := R.g0
  gb := R.gb
  len := by rw [List.length_set, List.length_set]; exact R.len
  sl := fun j s e => by
    rcases set_get e with ⟨rfl, rfl, hl⟩ | ⟨hj, e⟩
    · exact ⟨x, by rw [List.getElem?_set_self (by rw [R.len]; exact hl)], trivial⟩
    · obtain ⟨x, h1, h2⟩ := R.sl j s e
      exact ⟨x, by rw [List.getElem?_set_ne (Ne.symm hj)]; exact h1, h2⟩
  own := fun j s a e o q => by
    rcases set_get e with ⟨rfl, rfl, hl⟩ | ⟨hj, e⟩
    · cases o
    · rw [List.getElem?_set_ne (Ne.symm hj)] at q
      exact R.own j s a e o q
  apart := fun j k s t a hjk e1 e2 o1 o2 q => by
    rcases set_get e1 with ⟨rfl, rfl, hl⟩ | ⟨hj, e1⟩
    · cases o1
    · rcases set_get e2 with ⟨rfl, rfl, hl⟩ | ⟨hk, e2⟩
      · cases o2
      · rw [List.getElem?_set_ne (Ne.symm hj)] at q
        rw [List.getElem?_set_ne (Ne.symm hk)]
        exact R.apart j k s t a hjk e1 e2 o1 o2 q
  io := fun j xs e => by
    rcases set_get e with ⟨rfl, e2, hl⟩ | ⟨hj, e⟩
    · cases e2
    · rw [List.getElem?_set_ne (Ne.symm hj)]
      exact R.io j xs e
def wipeS (ρ : Sls) : List Nat → Sls
  | [] => ρ
  | v :: vs => (wipeS ρ vs).set v .no
theorem SR.wipe (R : SR K F G H σ ρ) : ∀ vs : List Nat, SR K F G H (wipe σ vs) (wipeS ρ vs)
  | [] => R
  | v :: vs => (R.wipe vs).forget v none
/-- .. σ as it is -/
theorem SR.forgetS (R : SR K F G H σ ρ) (i : Nat) : SR K F G H σ (ρ.set i .no) where
  gh := R.gh
  bh := R.bh
  g0 := R.g0
  gb := R.gb
  len := by rw [List.length_set]; exact R.len
  sl := fun j s e => by
    rcases set_get e with ⟨rfl, rfl, hl⟩ | ⟨hj, e⟩
    · cases q : σ[j]? with
      | none =>
        rw [List.getElem?_eq_none_iff, R.len] at q
        omega
      | some x => exact ⟨x, rfl, trivial⟩
    · exact R.sl j s e
  own := fun j s a e o q => by
    rcases set_get e with ⟨rfl, rfl, hl⟩ | ⟨hj, e⟩
    · cases o
    · exact R.own j s a e o q
  apart := fun j k s t a hjk e1 e2 o1 o2 q => by
    rcases set_get e1 with ⟨rfl, rfl, hl⟩ | ⟨hj, e1⟩
    · cases o1
    · rcases set_get e2 with ⟨rfl, rfl, hl⟩ | ⟨hk, e2⟩
      · cases o2
      · exact R.apart j k s t a hjk e1 e2 o1 o2 q
  io := fun j xs e => by
    rcases set_get e with ⟨rfl, e2, hl⟩ | ⟨hj, e⟩
    · cases e2
    · exact R.io j xs e
theorem wipe_set_out {i : Nat} {x : Option V} : ∀ {vs : List Nat}, i ∉ vs → wipe (σ.set i x) vs = (wipe σ vs).set i x
  | [], _ => rfl
  | v :: vs, h => by
    show (wipe (σ.set i x) vs).set v none = ((wipe σ vs).set v none).set i x
    rw [wipe_set_out (fun z => h (List.mem_cons_of_mem _ z)), List.set_comm _ _ (fun z => h (by rw [z]; exact List.mem_cons_self))]
theorem wipe_set_in {i : Nat} {x : Option V} : ∀ {vs : List Nat}, i ∈ vs → wipe (σ.set i x) vs = wipe σ vs
  | v :: vs, h => by
    show (wipe (σ.set i x) vs).set v none = (wipe σ vs).set v none
    by_cases hv : i ∈ vs
    · rw [wipe_set_in hv]
    · have e : i = v := (List.mem_cons.mp h).resolve_right hv
      subst e
      rw [wipe_set_out hv, List.set_set]
end

section
variable {X : Cx} {e a b c tg iter : Expr} {pos : Pos} {fa fb fc : FE}
/-! ### targets -/
def gSet (i : Nat) : D → Sls → Option Sls := fun d ρ => some (ρ.set i (.d d))
theorem cg_name {i : Nat} (h : PG X tg (gName i)) : CG X tg [i] (gSet i) :=
  ⟨_, h, fun F G H σ ρ v d ρ' R m hf Q k => by
    cases hf
    exact k _ (fun vs hv => wipe_set_in (hv i (by simp))) (R.setD i m)⟩
def gsNil : List D → Sls → Option Sls := fun ds ρ => match ds with | [] => some ρ | _ => none
def gsCons (f : D → Sls → Option Sls) (g : List D → Sls → Option Sls) : List D → Sls → Option Sls := fun ds ρ => match ds with | d :: ds => (f d ρ).bind fun ρ1 => g ds ρ1 | [] => none
theorem cgs_nil : CGs X [] [] gsNil := ⟨_, pgs_nil, fun F G H σ ρ vs ds ρ' R m hf Q k => by
  cases m with
  | nil =>
    cases hf
    exact ⟨rfl, k σ (fun _ _ => rfl) R⟩
  | cons _ _ => cases hf⟩
theorem cgs_cons {tgs : List Expr} {is js : List Nat} {f : D → Sls → Option Sls} {g : List D → Sls → Option Sls} (h1 : CG X tg is f) (h2 : CGs X tgs js g)
    (hs : (assignEach (tg :: tgs) X.env).map (·.2) = assign tg X.env :: (assignEach tgs X.env).map (·.2) := by rfl) : CGs X (tg :: tgs) (is ++ js) (gsCons f g) := by
  obtain ⟨t1, p1, q1⟩ := h1
  obtain ⟨t2, p2, q2⟩ := h2
  refine ⟨_, pgs_cons p1 p2 hs, fun F G H σ ρ vs ds ρ' R m hf Q k => ?_⟩
  cases m with
  | nil => cases hf
  | cons m1 m2 =>
    obtain ⟨ρ1, h3, h4⟩ := bindE hf
    refine ⟨_, _, rfl, q1 F G H σ ρ _ _ ρ1 R m1 h3 _ fun σ1 w1 r1 => q2 F G H σ1 ρ1 _ _ ρ' r1 m2 h4 _ fun σ2 w2 r2 => k σ2 (fun ws hw => ?_) r2⟩
    exact (w2 ws fun i hi => hw i (List.mem_append_right _ hi)).trans (w1 ws fun i hi => hw i (List.mem_append_left _ hi))
def gTupD (n : Nat) (g : List D → Sls → Option Sls) : D → Sls → Option Sls := fun d ρ => match d with | .tup ds => if ds.length = n then g ds ρ else none | _ => none
theorem cg_tup {tgs : List Expr} {js : List Nat} {k n : Nat} {g : List D → Sls → Option Sls} (hc : X.calm = true) (h2 : CGs X tgs js g) (hn : (assignEach tgs X.env).length = n := by rfl) (hst : (assignEach tgs X.env).findIdx? (·.1) = none := by rfl) :
    CG X (.Tuple tgs k pos) js (gTupD n g) := by
  obtain ⟨t2, p2, q2⟩ := h2
  refine ⟨_, pg_tup hc p2 hn hst, fun F G H σ ρ v d ρ' R m hf Q k => ?_⟩
  cases m with
  | tup h1 m1 =>
    dsimp only [gTupD] at hf
    split at hf
    · rename_i hl
      exact ⟨_, _, rfl, SqT.of (R.gh _ _ h1), by rw [m1.len]; exact hl, q2 F G H σ ρ _ _ ρ' R m1 hf _ k⟩
    · cases hf
  | _ => cases hf

/-! ### what is walked -/
def itemsD : D → Option (List D)
  | .lst ds => some ds
  | .tup ds => some ds
  | .str x => some (x.cps.toList.map fun c => .str ⟨#[c]⟩)
  | .dk kvs => some (kvs.map fun p => kD p.1)
  | .dt kvs => some (kvs.map fun p => tD p.1)
  | _ => none
def fItems (f : FE) : FL := fun ρ => (f ρ).bind fun r => (itemsD r.1).bind fun ds => some (ds, r.2)
theorem Rp.kV {K : PySem.W.Frag} {G : Hp} : ∀ k : Key, Rp K G (kV k) (kD k)
  | .inl i => .int i
  | .inr x => .str x
theorem Rps.kVs {K : PySem.W.Frag} {G : Hp} : ∀ ks : List Key, Rps K G (ks.map L2.kV) (ks.map kD)
  | [] => .nil
  | k :: ks => .cons (Rp.kV k) (Rps.kVs ks)
theorem RpK.key {K : PySem.W.Frag} {G : Hp} {κ : Type} : ∀ {es : List (κ × V)} {kvs : List (κ × D)} {i : Nat} {k : κ} {v : V}, RpK K G es kvs → es[i]? = some (k, v) → ∃ d, kvs[i]? = some (k, d) ∧ Rp K G v d
  | _, _, _, _, _, .nil, h => by simp at h
  | _, _, 0, _, _, .cons h _, e => by
    simp at e
    obtain ⟨rfl, rfl⟩ := e
    exact ⟨_, rfl, h⟩
  | _, _, i + 1, k, v, .cons _ t, e => by
    obtain ⟨d, h1, h2⟩ := RpK.key (i := i) t (by simpa using e)
    exact ⟨d, by simpa using h1, h2⟩
theorem itOk_list {K : PySem.W.Frag} {G : Hp} {a : Addr} {vs : List V} {ds : List D} (h : G a = some (.lst vs)) (r : Rps K G vs ds) : ItOk K G (Itl K a) ds := fun G2 H2 s1 s2 => by
  have h2 : SqL K H2 a vs := SqL.of (s2 _ _ (s1 _ _ h))
  refine ⟨fun i hi => ?_, ⟨vs, h2, by rw [r.len]; exact Nat.le_refl _⟩, fun i d x H3 e y => ?_⟩
  · obtain ⟨v, hv, _⟩ := r.get (i := i) (List.getElem?_eq_getElem hi)
    exact ⟨vs, v, h2, hv⟩
  · obtain ⟨rfl, y⟩ := y
    obtain ⟨v, hv, m⟩ := r.get e
    rw [y vs h2] at hv
    cases hv
    exact ⟨G2, Gr.same, m.mono s1⟩
theorem itOk_tup {K : PySem.W.Frag} {G : Hp} {a : Addr} {vs : List V} {ds : List D} (h : G a = some (.tup vs)) (r : Rps K G vs ds) : ItOk K G (Itt K a) ds := fun G2 H2 s1 s2 => by
  have h2 : SqT K H2 a vs := SqT.of (s2 _ _ (s1 _ _ h))
  refine ⟨fun i hi => ?_, ⟨vs, h2, by rw [r.len]; exact Nat.le_refl _⟩, fun i d x H3 e y => ?_⟩
  · obtain ⟨v, hv, _⟩ := r.get (i := i) (List.getElem?_eq_getElem hi)
    exact ⟨vs, v, h2, hv⟩
  · obtain ⟨rfl, y⟩ := y
    obtain ⟨v, hv, m⟩ := r.get e
    rw [y vs h2] at hv
    cases hv
    exact ⟨G2, Gr.same, m.mono s1⟩
theorem itOk_str {K : PySem.W.Frag} {G : Hp} {x : Str} : ItOk K G (Its x) (x.cps.toList.map fun c => .str ⟨#[c]⟩) := fun G2 H2 s1 s2 => by
  refine ⟨fun i hi => by show i < x.cps.size; simpa using hi, by show x.cps.size ≤ _; simp, fun i d y H3 e h => ?_⟩
  obtain ⟨rfl, c, hc, rfl⟩ := h
  rw [List.getElem?_map, Array.getElem?_toList, hc] at e
  cases e
  exact ⟨G2, Gr.same, .str _⟩
theorem itOk_keys {K : PySem.W.Frag} {G : Hp} {a : Addr} {o : Obj} {es : List (Key × V)} {kvs : List (Key × D)} (h : G a = some (.frz o (.dK es))) (r : RpK K G es kvs) : ItOk K G (Itk a o es) (kvs.map fun p => kD p.1) := fun G2 H2 s1 s2 => by
  have h2 := s2 _ _ (s1 _ _ h)
  refine ⟨fun i hi => ⟨h2, by rw [r.len]; simpa using hi⟩, ⟨h2, by rw [r.len]; simp⟩, fun i d y H3 e hy => ?_⟩
  obtain ⟨rfl, k, v, hk, rfl⟩ := hy
  obtain ⟨d', h3, _⟩ := r.key hk
  rw [List.getElem?_map, h3] at e
  cases e
  exact ⟨G2, Gr.same, Rp.kV k⟩
theorem itOk_keysT {K : PySem.W.Frag} {G : Hp} {a : Addr} {o : Obj} {es : List (List Key × V)} {kvs : List (List Key × D)} (h : G a = some (.frz o (.dT es))) (r : RpK K G es kvs) : ItOk K G (Itkt a o es) (kvs.map fun p => tD p.1) := fun G2 H2 s1 s2 => by
  have h2 := s2 _ _ (s1 _ _ h)
  refine ⟨fun i hi => ⟨h2, by rw [r.len]; simpa using hi⟩, ⟨h2, by rw [r.len]; simp⟩, fun i d y H3 e hy => ?_⟩
  obtain ⟨rfl, k, v, q, hk, rfl, hq⟩ := hy
  obtain ⟨d', h3, _⟩ := r.key hk
  rw [List.getElem?_map, h3] at e
  cases e
  exact ⟨_, .inr (.inr ⟨rfl, q, _, hq, rfl⟩), .tup upd_same (Rps.kVs k)⟩
theorem ci_any (h : CE X iter fa) : CI X tg iter (fItems fa) := by
  obtain ⟨te, p, q⟩ := h
  refine ⟨_, pi_either (pi_either (pi_list p) (pi_tup p)) (pi_either (pi_str p) (pi_keys p)), fun F G H σ ρ ds ρ' R hf S k => ?_⟩
  obtain ⟨⟨x, ρ1⟩, h1, h2⟩ := bindE hf
  obtain ⟨es, h3, h4⟩ := bindE h2
  cases h4
  cases x with
  | lst xs =>
    cases h3
    refine .inl (.inl (q F G H σ ρ _ _ R h1 _ fun G1 H1 v s1 r1 m1 => ?_))
    cases m1 with
    | lst h r => exact ⟨_, rfl, ⟨_, SqL.of (r1.gh _ _ h)⟩, k G1 H1 _ s1 r1 (itOk_list h r)⟩
  | tup xs =>
    cases h3
    refine .inl (.inr (q F G H σ ρ _ _ R h1 _ fun G1 H1 v s1 r1 m1 => ?_))
    cases m1 with
    | tup h r => exact ⟨_, rfl, ⟨_, SqT.of (r1.gh _ _ h)⟩, k G1 H1 _ s1 r1 (itOk_tup h r)⟩
  | str x =>
    cases h3
    refine .inr (.inl (q F G H σ ρ _ _ R h1 _ fun G1 H1 v s1 r1 m1 => ?_))
    exact ⟨x, (Rv.of (H := H1) m1).str, k G1 H1 _ s1 r1 itOk_str⟩
  | dk xs =>
    cases h3
    refine .inr (.inr (q F G H σ ρ _ _ R h1 _ fun G1 H1 v s1 r1 m1 => ?_))
    cases m1 with
    | dK h r => exact ⟨_, _, rfl, .inl ⟨_, r1.gh _ _ h, k G1 H1 _ s1 r1 (itOk_keys h r)⟩⟩
  | dt xs =>
    cases h3
    refine .inr (.inr (q F G H σ ρ _ _ R h1 _ fun G1 H1 v s1 r1 m1 => ?_))
    cases m1 with
    | dT h r => exact ⟨_, _, rfl, .inr ⟨_, r1.gh _ _ h, k G1 H1 _ s1 r1 (itOk_keysT h r)⟩⟩
  | _ => cases h3
/-- ranges -/
def rngD (lo hi : Int) : List D := (List.range (hi - lo).toNat).map fun i => .int (lo + (i : Nat))
theorem itOk_rng {K : PySem.W.Frag} {G : Hp} {lo : Int} {n : Nat} : ItOk K G (Itr lo n) ((List.range n).map fun i => .int (lo + (i : Nat))) := fun G2 H2 s1 s2 => by
  refine ⟨fun i hi => by show i < n; simpa using hi, by show n ≤ _; simp, fun i d y H3 e h => ?_⟩
  obtain ⟨rfl, rfl⟩ := h
  rw [List.getElem?_map] at e
  cases q : (List.range n)[i]? with
  | none =>
    rw [q] at e
    cases e
  | some j =>
    rw [q] at e
    cases e
    obtain ⟨hj, e2⟩ := List.getElem?_eq_some_iff.mp q
    rw [List.getElem_range] at e2
    rw [← e2]
    exact ⟨G2, Gr.same, .int _⟩
def rgOk (i : Int) : Bool := decide (i.natAbs ≤ 1000000)
theorem rgOk_le {i : Int} (h : rgOk i = true) : -1000000 ≤ i ∧ i ≤ 1000000 := by
  have := of_decide_eq_true h
  omega
def fRng1 (f : FL) : FL := fun ρ => (f ρ).bind fun r => match r.1 with | [.int n] => if rgOk n = true then some (rngD 0 n, r.2) else none | _ => none
def fRng2 (f : FL) : FL := fun ρ => (f ρ).bind fun r => match r.1 with | [.int m, .int n] => if rgOk m = true ∧ rgOk n = true then some (rngD m n, r.2) else none | _ => none
theorem ci_rng1 {f : FL} (hp : ∀ {ta : TA}, PA X [a] ta → PI X tg iter (iRng1 ta)) (h : CA X [a] f) : CI X tg iter (fRng1 f) := by
  obtain ⟨te, p, q⟩ := h
  refine ⟨_, hp p, fun F G H σ ρ ds ρ' R hf S k => ?_⟩
  obtain ⟨⟨xs, ρ1⟩, h1, h2⟩ := bindE hf
  dsimp only at h2
  split at h2
  · split at h2
    · rename_i n hn
      cases h2
      refine q F G H σ ρ _ _ R h1 _ fun G1 H1 vs s1 r1 m1 => ?_
      cases m1 with
      | cons m t =>
        cases t
        cases m
        have := rgOk_le hn
        refine ⟨n, rfl, by omega, by omega, ?_⟩
        have e : rngD 0 n = (List.range n.toNat).map fun i => D.int (0 + (i : Nat)) := by
          unfold rngD
          rw [Int.sub_zero]
        rw [e] at k
        exact k G1 H1 _ s1 r1 itOk_rng
    · cases h2
  · cases h2
theorem ci_rng2 {f : FL} (hp : ∀ {ta : TA}, PA X [a, b] ta → PI X tg iter (iRng2 ta)) (h : CA X [a, b] f) : CI X tg iter (fRng2 f) := by
  obtain ⟨te, p, q⟩ := h
  refine ⟨_, hp p, fun F G H σ ρ ds ρ' R hf S k => ?_⟩
  obtain ⟨⟨xs, ρ1⟩, h1, h2⟩ := bindE hf
  dsimp only at h2
  split at h2
  · split at h2
    · rename_i m n hn
      cases h2
      refine q F G H σ ρ _ _ R h1 _ fun G1 H1 vs s1 r1 m1 => ?_
      cases m1 with
      | cons m' t =>
        cases t with
        | cons m2 t =>
          cases t
          cases m'
          cases m2
          have h3 := rgOk_le hn.1
          have h4 := rgOk_le hn.2
          exact ⟨m, n, rfl, ⟨by omega, by omega, by omega, by omega⟩, k G1 H1 _ s1 r1 itOk_rng⟩
    · cases h2
  · cases h2
/-- enumerate of a list -/
def enumD (ds : List D) : List D := (List.range ds.length).map fun i => .tup [.int (i : Nat), ds.getD i .non]
def fEnum (f : FL) : FL := fun ρ => (f ρ).bind fun r => match r.1 with | [.lst ds] => some (enumD ds, r.2) | _ => none
theorem itOk_enum {K : PySem.W.Frag} {G : Hp} {a : Addr} {vs : List V} {ds : List D} (h : G a = some (.lst vs)) (r : Rps K G vs ds) : ItOk K G (Ite K a) (enumD ds) := fun G2 H2 s1 s2 => by
  have h2 : SqL K H2 a vs := SqL.of (s2 _ _ (s1 _ _ h))
  have hl : (enumD ds).length = ds.length := by unfold enumD; rw [List.length_map, List.length_range]
  rw [hl]
  refine ⟨fun i hi => ?_, ⟨vs, h2, by rw [r.len]; exact Nat.le_refl _⟩, fun i d x H3 e y => ?_⟩
  · obtain ⟨v, hv, _⟩ := r.get (i := i) (List.getElem?_eq_getElem hi)
    exact ⟨vs, v, h2, hv⟩
  · obtain ⟨T, x', rfl, hT, rfl, y⟩ := y
    unfold enumD at e
    rw [List.getElem?_map] at e
    cases q : (List.range ds.length)[i]? with
    | none =>
      rw [q] at e
      cases e
    | some j =>
      rw [q] at e
      cases e
      obtain ⟨hj, e2⟩ := List.getElem?_eq_some_iff.mp q
      rw [List.getElem_range] at e2
      subst e2
      have hi : i < ds.length := by simpa using hj
      obtain ⟨v, hv, m⟩ := r.get (i := i) (List.getElem?_eq_getElem hi)
      rw [y vs h2] at hv
      cases hv
      have e3 : ds.getD i .non = ds[i] := by simp [hi]
      show ∃ G3, Gr G2 H2 G3 (upd H2 T (HO.tup [V.int ↑i, x'])) ∧ Rp K G3 (V.ref T) (D.tup [D.int ↑i, ds.getD i D.non])
      rw [e3]
      have n := s2.free hT
      exact ⟨_, .inr (.inl ⟨T, _, hT, rfl, rfl⟩), .tup upd_same (.cons (.int _) (.cons (m.mono (s1.trans (Same.new n))) .nil))⟩
theorem ci_enum {f : FL} (hp : ∀ {ta : TA}, PA X [a] ta → PI X tg iter (iEnum X.K ta)) (h : CA X [a] f) : CI X tg iter (fEnum f) := by
  obtain ⟨te, p, q⟩ := h
  refine ⟨_, hp p, fun F G H σ ρ ds ρ' R hf S k => ?_⟩
  obtain ⟨⟨xs, ρ1⟩, h1, h2⟩ := bindE hf
  dsimp only at h2
  split at h2
  · cases h2
    refine q F G H σ ρ _ _ R h1 _ fun G1 H1 vs s1 r1 m1 => ?_
    cases m1 with
    | cons m t =>
      cases t
      cases m with
      | lst h r => exact ⟨_, _, rfl, SqL.of (r1.gh _ _ h), k G1 H1 _ s1 r1 (itOk_enum h r)⟩
  · cases h2

/-! ### statements -/
variable {st : Stmt} {sts body : List Stmt}
def fNx : FS := fun ρ => some (.nx ρ)
def fSeq (f g : FS) : FS := fun ρ => (f ρ).bind fun o => match o with | .nx ρ1 => g ρ1 | o => some o
theorem css_nil : CSs X [] fNx := ⟨_, pss_nil, fun F G H σ ρ o R hf D k => by
  cases hf
  exact k G H σ (Same.refl _) R⟩
theorem css_cons {f g : FS} (h1 : CS X st f) (h2 : CSs X sts g) : CSs X (st :: sts) (fSeq f g) := by
  obtain ⟨t1, p1, q1⟩ := h1
  obtain ⟨t2, p2, q2⟩ := h2
  refine ⟨_, pss_cons p1 p2, fun F G H σ ρ o R hf D k => ?_⟩
  obtain ⟨o1, h3, h4⟩ := bindE hf
  refine q1 F G H σ ρ o1 R h3 _ ?_
  cases o1 with
  | nx ρ1 => exact fun G1 H1 σ1 s1 r1 => q2 F G1 H1 σ1 ρ1 o r1 h4 D (k.mono s1)
  | rt d ρ1 =>
    cases h4
    exact k
  | rl d ρ1 =>
    cases h4
    exact k
  | bk ρ1 =>
    cases h4
    exact k
  | ct ρ1 =>
    cases h4
    exact k
theorem css_one {f : FS} (h1 : CS X st f) : CSs X [st] f := let ⟨t, p, q⟩ := h1; ⟨t, pss_one p, q⟩
theorem cs_pass : CS X (.Pass pos) fNx := ⟨_, ps_pass, fun F G H σ ρ o R hf D k => by
  cases hf
  exact k G H σ (Same.refl _) R⟩
theorem cs_break : CS X (.Break pos) (fun ρ => some (.bk ρ)) := ⟨_, ps_break, fun F G H σ ρ o R hf D k => by
  cases hf
  exact k G H σ (Same.refl _) R⟩
theorem cs_continue : CS X (.Continue pos) (fun ρ => some (.ct ρ)) := ⟨_, ps_continue, fun F G H σ ρ o R hf D k => by
  cases hf
  exact k G H σ (Same.refl _) R⟩
def fRet (f : FE) : FS := fun ρ => (f ρ).bind fun r => some (.rt r.1 r.2)
def fRetL (f : FL) : FS := fun ρ => (f ρ).bind fun r => some (.rl r.1 r.2)
theorem cs_ret (h : CE X e fa) : CS X (.Return (some e) pos) (fRet fa) := by
  obtain ⟨t, p, q⟩ := h
  refine ⟨_, ps_ret p, fun F G H σ ρ o R hf D k => ?_⟩
  obtain ⟨⟨x, ρ1⟩, h1, h2⟩ := bindE hf
  cases h2
  exact q F G H σ ρ x ρ1 R h1 _ fun G1 H1 v s1 r1 m1 => k G1 H1 σ v s1 r1 m1
theorem cs_retL {f : FL} (h : CL X e f) : CS X (.Return (some e) pos) (fRetL f) := by
  obtain ⟨t, p, q⟩ := h
  refine ⟨_, ps_ret p, fun F G H σ ρ o R hf D k => ?_⟩
  obtain ⟨⟨x, ρ1⟩, h1, h2⟩ := bindE hf
  cases h2
  exact q F G H σ ρ x ρ1 R h1 _ fun G1 H1 v s1 r1 m1 ow => k G1 H1 σ v s1 r1 m1 ow
theorem cs_retN : CS X (.Return none pos) (fun ρ => some (.rt .non ρ)) := ⟨_, ps_retN, fun F G H σ ρ o R hf D k => by
  cases hf
  exact k G H σ _ (Same.refl _) R .non⟩
def fDrop (f : FE) : FS := fun ρ => (f ρ).bind fun r => some (.nx r.2)
theorem cs_drop (hp : ∀ {te : TE}, PE X e te → PS X st (tDrop te)) (h : CE X e fa) : CS X st (fDrop fa) := by
  obtain ⟨t, p, q⟩ := h
  refine ⟨_, hp p, fun F G H σ ρ o R hf D k => ?_⟩
  obtain ⟨⟨x, ρ1⟩, h1, h2⟩ := bindE hf
  cases h2
  exact q F G H σ ρ x ρ1 R h1 _ fun G1 H1 v s1 r1 m1 => k G1 H1 σ s1 r1
def fIfS (c : FT) (f g : FS) : FS := fun ρ => (c ρ).bind fun r => if r.1 = true then f r.2 else g r.2
theorem cs_if {ft : FT} {f g : FS} {b1 b2 : List Stmt} (hc : CT X c ft) (h1 : CSs X b1 f) (h2 : CSs X b2 g) : CS X (.If c b1 b2 pos) (fIfS ft f g) := by
  obtain ⟨t0, p0, q0⟩ := hc
  obtain ⟨t1, p1, q1⟩ := h1
  obtain ⟨t2, p2, q2⟩ := h2
  refine ⟨_, ps_if p0 p1 p2, fun F G H σ ρ o R hf D k => ?_⟩
  obtain ⟨⟨x, ρ1⟩, h3, h4⟩ := bindE hf
  refine q0 F G H σ ρ x ρ1 R h3 _ fun G1 H1 s1 r1 => ?_
  cases x with
  | true => exact q1 F G1 H1 σ ρ1 o r1 h4 D (k.mono s1)
  | false => exact q2 F G1 H1 σ ρ1 o r1 h4 D (k.mono s1)
/-- target = e -/
def fAsg (f : FE) (g : D → Sls → Option Sls) : FS := fun ρ => (f ρ).bind fun r => (g r.1 r.2).bind fun ρ1 => some (.nx ρ1)
theorem cs_asg {is : List Nat} {g : D → Sls → Option Sls} (hp : ∀ {te : TE} {gt : TG}, PE X e te → PG X tg gt → PS X st (tAsg te gt)) (h : CE X e fa) (hg : CG X tg is g) : CS X st (fAsg fa g) := by
  obtain ⟨t, p, q⟩ := h
  obtain ⟨t2, p2, q2⟩ := hg
  refine ⟨_, hp p p2, fun F G H σ ρ o R hf D k => ?_⟩
  obtain ⟨⟨x, ρ1⟩, h1, h2⟩ := bindE hf
  obtain ⟨ρ2, h3, h4⟩ := bindE h2
  cases h4
  exact q F G H σ ρ x ρ1 R h1 _ fun G1 H1 v s1 r1 m1 => q2 F G1 H1 σ ρ1 v x ρ2 r1 m1 h3 _ fun σ2 w r2 => k G1 H1 σ2 s1 r2
/-- name = e -/
theorem cs_set {i : Nat} (hp : ∀ {te : TE}, PE X e te → PS X st (tAsg te (gName i))) (h : CE X e fa) : CS X st (fAsg fa (gSet i)) := by
  obtain ⟨t, p, q⟩ := h
  refine ⟨_, hp p, fun F G H σ ρ o R hf D k => ?_⟩
  obtain ⟨⟨x, ρ1⟩, h1, h2⟩ := bindE hf
  cases h2
  exact q F G H σ ρ x ρ1 R h1 _ fun G1 H1 v s1 r1 m1 => k G1 H1 _ s1 (r1.setD i m1)
/-- name = a new list, a new dict -/
def fSetL (f : FL) (i : Nat) : FS := fun ρ => (f ρ).bind fun r => some (.nx (r.2.set i (.ml r.1)))
def fSetK (f : FK) (i : Nat) : FS := fun ρ => (f ρ).bind fun r => some (.nx (r.2.set i (.mK r.1)))
def fSetT (f : FKT) (i : Nat) : FS := fun ρ => (f ρ).bind fun r => some (.nx (r.2.set i (.mT r.1)))
theorem cs_setL {f : FL} {i : Nat} (hp : ∀ {te : TE}, PE X e te → PS X st (tAsg te (gName i))) (h : CL X e f) : CS X st (fSetL f i) := by
  obtain ⟨t, p, q⟩ := h
  refine ⟨_, hp p, fun F G H σ ρ o R hf D k => ?_⟩
  obtain ⟨⟨x, ρ1⟩, h1, h2⟩ := bindE hf
  cases h2
  exact q F G H σ ρ x ρ1 R h1 _ fun G1 H1 v s1 r1 f1 m1 => k G1 H1 _ s1 (r1.setO i (s := .ml x) f1 m1 (fun _ z => nomatch z))
theorem cs_setK {f : FK} {i : Nat} (hp : ∀ {te : TE}, PE X e te → PS X st (tAsg te (gName i))) (h : CDK X e f) : CS X st (fSetK f i) := by
  obtain ⟨t, p, q⟩ := h
  refine ⟨_, hp p, fun F G H σ ρ o R hf D k => ?_⟩
  obtain ⟨⟨x, ρ1⟩, h1, h2⟩ := bindE hf
  cases h2
  exact q F G H σ ρ x ρ1 R h1 _ fun G1 H1 v s1 r1 f1 m1 => k G1 H1 _ s1 (r1.setO i (s := .mK x) f1 m1 (fun _ z => nomatch z))
theorem cs_setT {f : FKT} {i : Nat} (hp : ∀ {te : TE}, PE X e te → PS X st (tAsg te (gName i))) (h : CDT X e f) : CS X st (fSetT f i) := by
  obtain ⟨t, p, q⟩ := h
  refine ⟨_, hp p, fun F G H σ ρ o R hf D k => ?_⟩
  obtain ⟨⟨x, ρ1⟩, h1, h2⟩ := bindE hf
  cases h2
  exact q F G H σ ρ x ρ1 R h1 _ fun G1 H1 v s1 r1 f1 m1 => k G1 H1 _ s1 (r1.setO i (s := .mT x) f1 m1 (fun _ z => nomatch z))

/-! ### loops -/
/-- what follows from here on, for the items that are left -/
def forD (g : D → Sls → Option Sls) (f : FS) : List D → FS
  | [], ρ => some (.nx ρ)
  | d :: ds, ρ => (g d ρ).bind fun ρ1 => (f ρ1).bind fun o => match o with
    | .nx ρ2 => forD g f ds ρ2
    | .ct ρ2 => forD g f ds ρ2
    | .bk ρ2 => some (.nx ρ2)
    | o => some o
def fFor (fi : FL) (g : D → Sls → Option Sls) (f : FS) : FS := fun ρ => (fi ρ).bind fun r => forD g f r.1 r.2
theorem cs_for {is : List Nat} {fi : FL} {g : D → Sls → Option Sls} {f : FS} (hp : ∀ {wi : TI} {gt : TG} {tb : TS}, PI X tg iter wi → PG X tg gt → PSs X body tb → PS X st (tFor wi gt tb))
    (hi : CI X tg iter fi) (hg : CG X tg is g) (hb : CSs X body f) : CS X st (fFor fi g f) := by
  obtain ⟨t0, p0, q0⟩ := hi
  obtain ⟨t1, p1, q1⟩ := hg
  obtain ⟨t2, p2, q2⟩ := hb
  refine ⟨_, hp p0 p1 p2, fun F G H σ ρ o R hf D k => ?_⟩
  obtain ⟨⟨ds, ρ0⟩, h1, h2⟩ := bindE hf
  refine q0 F G H σ ρ ds ρ0 R h1 _ fun G1 H1 J s1 r1 ok => ?_
  refine ⟨fun i m σ' H' => m = ds.length - i ∧ i ≤ ds.length ∧ ∃ G2 ρ2, Same G1 G2 ∧ SR X.K F G2 H' σ' ρ2 ∧ forD g f (ds.drop i) ρ2 = some o, ⟨ds.length, rfl, Nat.zero_le _, G1, ρ0, Same.refl _, r1, h2⟩, ?_⟩
  rintro i m σ2 H2 ⟨rfl, hi, G2, ρ2, s2, r2, h3⟩
  obtain ⟨go, stop, yld⟩ := ok G2 H2 s2 r2.gh
  by_cases hlt : i < ds.length
  · have e1 : ds.drop i = ds[i] :: ds.drop (i + 1) := List.drop_eq_getElem_cons hlt
    rw [e1] at h3
    obtain ⟨ρ3, h4, h5⟩ := bindE h3
    obtain ⟨o1, h6, h7⟩ := bindE h5
    refine .inr ⟨go i hlt, fun σ' H' => ∃ G3 ρ4, Same G1 G3 ∧ SR X.K F G3 H' σ' ρ4 ∧ forD g f (ds.drop (i + 1)) ρ4 = some o, fun σ' H' hN => ⟨_, by omega, rfl, hlt, hN⟩, fun x H3 hy => ?_⟩
    obtain ⟨G3, gr, m3⟩ := yld i _ x H3 (List.getElem?_eq_getElem hlt) hy
    obtain ⟨s3, r3⟩ := r2.gr gr
    refine q1 F G3 H3 σ2 ρ2 x _ ρ3 r3 m3 h4 _ fun σ4 w r4 => ?_
    refine q2 F G3 H3 σ4 ρ3 o1 r4 h6 _ ?_
    have s13 := s2.trans s3
    cases o1 with
    | nx ρ4 => exact fun G4 H4 σ4 s4 r4 => ⟨G4, ρ4, s13.trans s4, r4, h7⟩
    | ct ρ4 => exact fun G4 H4 σ4 s4 r4 => ⟨G4, ρ4, s13.trans s4, r4, h7⟩
    | bk ρ4 =>
      cases h7
      exact fun G4 H4 σ4 s4 r4 => k G4 H4 σ4 ((s1.trans s13).trans s4) r4
    | rt d ρ4 =>
      cases h7
      exact fun G4 H4 σ4 v s4 r4 m4 => k G4 H4 σ4 v ((s1.trans s13).trans s4) r4 m4
    | rl d ρ4 =>
      cases h7
      exact fun G4 H4 σ4 v s4 r4 m4 => k G4 H4 σ4 v ((s1.trans s13).trans s4) r4 m4
  · have e : i = ds.length := by omega
    subst e
    rw [List.drop_length] at h3
    cases h3
    exact .inl ⟨stop, k G2 H2 σ2 (s1.trans s2) r2⟩
/-- while, with as many turns as are told -/
def whileD (c : FT) (f : FS) : Nat → FS
  | 0, _ => none
  | n + 1, ρ => (c ρ).bind fun r => if r.1 = true then (f r.2).bind fun o => match o with
      | .nx ρ2 => whileD c f n ρ2
      | .ct ρ2 => whileD c f n ρ2
      | .bk ρ2 => some (.nx ρ2)
      | o => some o
    else some (.nx r.2)
theorem cs_while {ft : FT} {f : FS} (n : Sls → Nat) (hp : ∀ {tt : TT} {tb : TS}, PT X c tt → PSs X body tb → PS X st (tWhile tt tb)) (hc : CT X c ft) (hb : CSs X body f) : CS X st (fun ρ => whileD ft f (n ρ) ρ) := by
  obtain ⟨t0, p0, q0⟩ := hc
  obtain ⟨t2, p2, q2⟩ := hb
  refine ⟨_, hp p0 p2, fun F G H σ ρ o R hf D k => ?_⟩
  refine ⟨fun m σ' H' => ∃ G2 ρ2, Same G G2 ∧ SR X.K F G2 H' σ' ρ2 ∧ whileD ft f m ρ2 = some o, ⟨n ρ, G, ρ, Same.refl _, R, hf⟩, ?_⟩
  rintro m σ2 H2 ⟨G2, ρ2, s2, r2, h3⟩
  cases m with
  | zero => cases h3
  | succ m =>
    obtain ⟨⟨b, ρ3⟩, h4, h5⟩ := bindE h3
    refine q0 F G2 H2 σ2 ρ2 b ρ3 r2 h4 _ fun G3 H3 s3 r3 => ?_
    have s13 := s2.trans s3
    cases b with
    | true =>
      obtain ⟨o1, h6, h7⟩ := bindE h5
      refine ⟨fun σ' H' => ∃ G3 ρ4, Same G G3 ∧ SR X.K F G3 H' σ' ρ4 ∧ whileD ft f m ρ4 = some o, fun σ' H' hN => ⟨m, by omega, hN⟩, ?_⟩
      refine q2 F G3 H3 σ2 ρ3 o1 r3 h6 _ ?_
      cases o1 with
      | nx ρ4 => exact fun G4 H4 σ4 s4 r4 => ⟨G4, ρ4, s13.trans s4, r4, h7⟩
      | ct ρ4 => exact fun G4 H4 σ4 s4 r4 => ⟨G4, ρ4, s13.trans s4, r4, h7⟩
      | bk ρ4 =>
        cases h7
        exact fun G4 H4 σ4 s4 r4 => k G4 H4 σ4 (s13.trans s4) r4
      | rt d ρ4 =>
        cases h7
        exact fun G4 H4 σ4 v s4 r4 m4 => k G4 H4 σ4 v (s13.trans s4) r4 m4
      | rl d ρ4 =>
        cases h7
        exact fun G4 H4 σ4 v s4 r4 m4 => k G4 H4 σ4 v (s13.trans s4) r4 m4
    | false =>
      cases h5
      exact k G3 H3 σ2 s13 r3
end
end DL

/-! DL5: list comprehensions. -/
namespace DL
open PySem PySem.Spec PyProof.Rows L2

/-! ### readings that are told by the plain function alone -/
def rdE (K : PySem.W.Frag) (f : FE) : TE := fun σ H Q => ∃ F G ρ d ρ', SR K F G H σ ρ ∧ f ρ = some (d, ρ') ∧ ∀ G' H' v, Same G G' → SR K F G' H' σ ρ' → Rp K G' v d → Q v H'
def rdT (K : PySem.W.Frag) (f : FT) : TT := fun σ H Q => ∃ F G ρ b ρ', SR K F G H σ ρ ∧ f ρ = some (b, ρ') ∧ ∀ G' H', Same G G' → SR K F G' H' σ ρ' → Q b H'
def rdG (K : PySem.W.Frag) (is : List Nat) (f : D → Sls → Option Sls) : TG := fun v σ H Q => ∃ F G ρ d ρ', SR K F G H σ ρ ∧ Rp K G v d ∧ f d ρ = some ρ' ∧
  ∀ σ', (∀ vs : List Nat, (∀ i ∈ is, i ∈ vs) → wipe σ' vs = wipe σ vs) → SR K F G H σ' ρ' → Q σ' H
def rdI (K : PySem.W.Frag) (f : FL) : TI := fun σ H S => ∃ F G ρ ds ρ', SR K F G H σ ρ ∧ f ρ = some (ds, ρ') ∧ ∀ G' H' J, Same G G' → SR K F G' H' σ ρ' → ItOk K G' J ds → S J H'
section
variable {X : Cx} {e tg iter : Expr} {ifs : List Expr}
theorem CE.pe {f : FE} (h : CE X e f) : PE X e (rdE X.K f) := by
  obtain ⟨t, p, q⟩ := h
  exact ⟨fun pins s σ H Q I ⟨F, G, ρ, d, ρ', R, hf, k⟩ => p.run pins s σ H Q I (q F G H σ ρ d ρ' R hf Q k)⟩
theorem CT.pt {f : FT} (h : CT X e f) : PT X e (rdT X.K f) := by
  obtain ⟨t, p, q⟩ := h
  exact ⟨fun pins s σ H Q I ⟨F, G, ρ, d, ρ', R, hf, k⟩ => p.run pins s σ H Q I (q F G H σ ρ d ρ' R hf Q k)⟩
theorem CG.pg {is : List Nat} {f : D → Sls → Option Sls} (h : CG X tg is f) : PG X tg (rdG X.K is f) := by
  obtain ⟨t, p, q⟩ := h
  exact ⟨fun pins s σ H v u Q I r ⟨F, G, ρ, d, ρ', R, m, hf, k⟩ => p.run pins s σ H v u Q I r (q F G H σ ρ v d ρ' R m hf Q k)⟩
theorem CI.pi {f : FL} (h : CI X tg iter f) : PI X tg iter (rdI X.K f) := by
  obtain ⟨t, p, q⟩ := h
  exact ⟨fun pins s σ H S I ⟨F, G, ρ, ds, ρ', R, hf, k⟩ => p.run pins s σ H S I (q F G H σ ρ ds ρ' R hf S k)⟩
/-- the ifs of a comprehension -/
def CTs (X : Cx) (ifs : List Expr) (f : FT) : Prop := PTs X ifs (rdT X.K f)
theorem cts_nil : CTs X [] (fun ρ => some (true, ρ)) := ⟨fun pins s σ H Q I ⟨F, G, ρ, b, ρ', R, hf, k⟩ => by
  cases hf
  exact pts_nil.run pins s σ H Q I (k G H (Same.refl _) R)⟩
theorem cts_one {f : FT} (h : CT X e f) : CTs X [e] f := pts_one h.pt
end

section
variable {K : PySem.W.Frag} {F : Bk} {G H : Hp} {σ : L2.St} {ρ : Sls}
theorem wipe_wipe (σ : L2.St) : ∀ vs : List Nat, wipe (wipe σ vs) vs = wipe σ vs
  | [] => rfl
  | v :: vs => by
    show (wipe ((wipe σ vs).set v none) vs).set v none = (wipe σ vs).set v none
    by_cases h : v ∈ vs
    · rw [wipe_set_in h, wipe_wipe σ vs]
    · rw [wipe_set_out h, wipe_wipe σ vs, List.set_set]
theorem wipeS_no : ∀ {vs : List Nat} {v : Nat} {s : Sl}, v ∈ vs → (wipeS ρ vs)[v]? = some s → s = .no
  | w :: vs, v, s, hv, e => by
    rcases set_get (show ((wipeS ρ vs).set w .no)[v]? = some s from e) with ⟨_, h, _⟩ | ⟨hn, h⟩
    · exact h
    · exact wipeS_no ((List.mem_cons.mp hv).resolve_left hn) h
theorem wipe_get {v : Nat} : ∀ {vs : List Nat}, v ∉ vs → (wipe σ vs)[v]? = σ[v]?
  | [], _ => rfl
  | w :: vs, h => by
    show ((wipe σ vs).set w none)[v]? = _
    rw [List.getElem?_set_ne (fun z => h (by rw [z]; exact List.mem_cons_self)), wipe_get (fun z => h (List.mem_cons_of_mem _ z))]
/-- the block is left: the def's own slots stand again, the block's are forgotten -/
theorem SR.unwipe {vs : List Nat} (R : SR K F G H (L2.wipe σ vs) ρ) (hn : ∀ v ∈ vs, ∀ s, ρ[v]? = some s → s = .no) : SR K F G H σ ρ where
  gh := R.gh
  bh := R.bh
  g0 := R.g0
  gb := R.gb
  len := by rw [← R.len, wipe_length]
  sl := fun j s e => by
    by_cases hv : j ∈ vs
    · rw [hn j hv s e]
      cases q : σ[j]? with
      | none =>
        obtain ⟨x, h1, _⟩ := R.sl j s e
        have := (List.getElem?_eq_some_iff.mp h1).1
        rw [wipe_length] at this
        rw [List.getElem?_eq_none_iff] at q
        omega
      | some x => exact ⟨x, rfl, trivial⟩
    · obtain ⟨x, h1, h2⟩ := R.sl j s e
      exact ⟨x, by rw [← wipe_get hv]; exact h1, h2⟩
  own := fun j s a e o q => by
    by_cases hv : j ∈ vs
    · rw [hn j hv s e] at o
      cases o
    · exact R.own j s a e o (by rw [wipe_get hv]; exact q)
  apart := fun j k s t a hjk e1 e2 o1 o2 q => by
    by_cases hv : j ∈ vs
    · rw [hn j hv s e1] at o1
      cases o1
    · by_cases hw : k ∈ vs
      · rw [hn k hw t e2] at o2
        cases o2
      · rw [← wipe_get hw]
        exact R.apart j k s t a hjk e1 e2 o1 o2 (by rw [wipe_get hv]; exact q)
  io := fun j xs e => by
    by_cases hv : j ∈ vs
    · exact absurd (hn j hv _ e) (by intro z; cases z)
    · rw [← wipe_get hv]
      exact R.io j xs e
/-- a new object that is watched: it stands in the heap at the entry -/
abbrev Bk.plus (F : Bk) (p : Addr) (o : HO) : Bk := { F with B := upd F.B p o }
theorem SR.watch (R : SR K F G H σ ρ) {p : Addr} {o : HO} (h : H p = none) : SR K (F.plus p o) G (upd H p o) σ ρ := by
  have gn := R.none_of h
  refine (R.newU h).base (F' := F.plus p o) (fun b u e => ?_) R.g0 (fun a u e => ?_) (fun i s a e ow q => ?_) rfl
  · by_cases hb : b = p
    · subst hb
      have e' : upd F.B b o b = some u := e
      rw [upd_same] at e' ⊢
      exact e'
    · have e' : upd F.B p o b = some u := e
      rw [upd_ne hb] at e' ⊢
      exact R.bh _ _ e'
  · rcases R.gb a u e with h1 | h1 | h1
    · exact .inl h1
    · refine .inr (.inl ?_)
      show upd F.B p o a = none
      rw [upd_ne (fun z => by rw [z, gn] at e; cases e)]
      exact h1
    · exact .inr (.inr h1)
  · show upd F.B p o a = none
    rw [upd_ne (R.own_ne h e ow q)]
    exact (R.own i s a e ow q).2
theorem SR.watched {p : Addr} {o : HO} (R : SR K (F.plus p o) G H σ ρ) : H p = some o := R.bh p o upd_same
theorem SR.own_watch {p : Addr} {o : HO} (R : SR K (F.plus p o) G H σ ρ) {i : Nat} {s : Sl} {a : Addr} (e : ρ[i]? = some s) (ow : s.own = true) (q : σ[i]? = some (some (.ref a))) : a ≠ p := by
  have h := (R.own i s a e ow q).2
  intro z
  subst z
  have h' : upd F.B a o a = none := h
  rw [upd_same] at h'
  cases h'
/-- .. it is changed -/
theorem SR.accum {p : Addr} {o o' : HO} (R : SR K (F.plus p o) G H σ ρ) (g : G p = none) : SR K (F.plus p o') G (upd H p o') σ ρ := by
  refine ⟨fun b u e => ?_, fun b u e => ?_, R.g0, fun a u e => ?_, R.len, fun i s e => ?_, fun i s a e ow q => ?_, R.apart, R.io⟩
  · rw [upd_ne (fun z => by rw [z, g] at e; cases e)]
    exact R.gh _ _ e
  · by_cases hb : b = p
    · subst hb
      have e' : upd F.B b o' b = some u := e
      rw [upd_same] at e' ⊢
      exact e'
    · have e' : upd F.B p o' b = some u := e
      rw [upd_ne hb] at e' ⊢
      exact R.bh b u (by show upd F.B p o b = some u; rw [upd_ne hb]; exact e')
  · rcases R.gb a u e with h1 | h1 | h1
    · exact .inl h1
    · have ne : a ≠ p := fun z => by rw [z, g] at e; cases e
      have h1' : upd F.B p o a = none := h1
      rw [upd_ne ne] at h1'
      refine .inr (.inl ?_)
      show upd F.B p o' a = none
      rw [upd_ne ne]
      exact h1'
    · exact .inr (.inr h1)
  · obtain ⟨x, h1, h2⟩ := R.sl i s e
    refine ⟨x, h1, ?_⟩
    cases ow : s.own with
    | true =>
      obtain ⟨a, rfl, h3⟩ := h2.own_of ow
      exact .of_own rfl (h3.mono (Same.refl _) (upd_ne (R.own_watch e ow h1)))
    | false =>
      cases s with
      | no => trivial
      | d y => exact h2
      | _ => cases ow
  · obtain ⟨m1, m2⟩ := R.own i s a e ow q
    have ne := R.own_watch e ow q
    refine ⟨m1, ?_⟩
    show upd F.B p o' a = none
    have m2' : upd F.B p o a = none := m2
    rw [upd_ne ne] at m2' ⊢
    exact m2'
/-- .. and let go -/
theorem SR.unwatch {p : Addr} {o : HO} (R : SR K (F.plus p o) G H σ ρ) (n : F.B p = none) : SR K F G H σ ρ := by
  refine R.base (fun b u e => R.bh b u ?_) R.g0 (fun a u e => ?_) (fun i s a e ow q => ?_) rfl
  · show upd F.B p o b = some u
    rw [upd_ne (fun z => by rw [z, n] at e; cases e)]
    exact e
  · rcases R.gb a u e with h1 | h1 | h1
    · exact .inl h1
    · refine .inr (.inl ?_)
      by_cases hb : a = p
      · subst hb
        exact n
      · have h1' : upd F.B p o a = none := h1
        rw [upd_ne hb] at h1'
        exact h1'
    · exact .inr (.inr h1)
  · have m2 : upd F.B p o a = none := (R.own i s a e ow q).2
    rw [upd_ne (R.own_watch e ow q)] at m2
    exact m2
theorem SR.gnone {p : Addr} {o : HO} (R : SR K (F.plus p o) G H σ ρ) (n : F.G0 p = none) (ho : ∀ xs, o ≠ .tup xs) : G p = none := by
  cases q : G p with
  | none => rfl
  | some u =>
    exfalso
    rcases R.gb p u q with h | h | ⟨xs, h⟩
    · exact h n
    · have h' : upd F.B p o p = none := h
      rw [upd_same] at h'
      cases h'
    · subst h
      have := (R.gh _ _ q).symm.trans R.watched
      cases this
      exact ho xs rfl
end

/-! ### [elt for target in iter if ..] -/
/-- the items that are left, what has been made so far -/
def lcD (g : D → Sls → Option Sls) (c : FT) (f : FE) (vs : List Nat) : List D → List D → Sls → Option (List D × Sls)
  | [], acc, ρ => some (acc, ρ)
  | d :: ds, acc, ρ => (g d ρ).bind fun ρ1 => (c ρ1).bind fun b => if b.1 = true then (f b.2).bind fun r => lcD g c f vs ds (acc ++ [r.1]) (wipeS r.2 vs) else lcD g c f vs ds acc (wipeS b.2 vs)
def fLc (fi : FL) (g : D → Sls → Option Sls) (c : FT) (f : FE) (vs : List Nat) : FL := fun ρ => (fi ρ).bind fun r => if r.1.length ≤ 1000000 then lcD g c f vs r.1 [] (wipeS r.2 vs) else none
theorem lt_line {n : Nat} (h : n < 1000001) : n < sizeLine := by rw [sizeLine_eq]; omega
theorem lc_read {K : PySem.W.Frag} {fi : FL} {g : D → Sls → Option Sls} {c : FT} {f : FE} {vs is : List Nat} (his : ∀ i ∈ is, i ∈ vs) {F : Bk} {G H : Hp} {σ : L2.St} {ρ ρ' : Sls} {out : List D} (R : SR K F G H σ ρ) (hf : fLc fi g c f vs ρ = some (out, ρ'))
    {Q : VK} (k : ∀ G' H' a, Same G G' → SR K F G' H' σ ρ' → Free F G' H' σ ρ' a → OwnL K G' H' a out → Q (.ref a) H') : tLc (rdI K fi) (rdG K is g) (rdT K c) (rdE K f) vs σ H Q := by
  obtain ⟨⟨ds, ρ1⟩, h1, h2⟩ := bindE hf
  dsimp only at h2
  split at h2
  · rename_i hl
    refine ⟨F, G, ρ, ds, ρ1, R, h1, fun G1 H1 J s1 r1 ok D hD => ?_⟩
    have g0 : F.G0 D = none := (r1.g0.trans r1.gh).free hD
    have b0 : F.B D = none := r1.bh.free hD
    refine ⟨fun i m H' => m = ds.length - i ∧ i ≤ ds.length ∧ ∃ G2 ρ2 acc accD, Same G1 G2 ∧ SR K (F.plus D (.lst acc)) G2 H' (wipe σ vs) ρ2 ∧ Rps K G2 acc accD ∧ accD.length ≤ i ∧ (∀ v ∈ vs, ∀ s, ρ2[v]? = some s → s = .no) ∧ lcD g c f vs (ds.drop i) accD ρ2 = some (out, ρ'),
      ⟨ds.length, rfl, Nat.zero_le _, G1, wipeS ρ1 vs, [], [], Same.refl _, (r1.watch hD).wipe vs, .nil, Nat.zero_le _, fun v hv s e => wipeS_no hv e, h2⟩, ?_⟩
    rintro i m H2 ⟨rfl, hi, G2, ρ2, acc, accD, s2, r2, ma, la, no, h3⟩
    obtain ⟨go, stop, yld⟩ := ok G2 H2 s2 r2.gh
    by_cases hlt : i < ds.length
    · have e1 : ds.drop i = ds[i] :: ds.drop (i + 1) := List.drop_eq_getElem_cons hlt
      rw [e1] at h3
      obtain ⟨ρ3, h4, h5⟩ := bindE h3
      obtain ⟨⟨b, ρ4⟩, h6, h7⟩ := bindE h5
      refine .inr ⟨go i hlt, fun H' => ∃ G2 ρ2 acc accD, Same G1 G2 ∧ SR K (F.plus D (.lst acc)) G2 H' (wipe σ vs) ρ2 ∧ Rps K G2 acc accD ∧ accD.length ≤ i + 1 ∧ (∀ v ∈ vs, ∀ s, ρ2[v]? = some s → s = .no) ∧ lcD g c f vs (ds.drop (i + 1)) accD ρ2 = some (out, ρ'),
        fun H' hN => ⟨_, by omega, rfl, hlt, hN⟩, fun x H3 hy => ?_⟩
      obtain ⟨G3, gr, m3⟩ := yld i _ x H3 (List.getElem?_eq_getElem hlt) hy
      obtain ⟨s3, r3⟩ := r2.gr gr
      refine ⟨_, G3, ρ2, _, ρ3, r3, m3, h4, fun σ4 w r4 => ⟨(w vs his).trans (wipe_wipe σ vs), _, G3, ρ3, b, ρ4, r4, h6, fun G5 H5 s5 r5 => ?_⟩⟩
      have w4 : wipe σ4 vs = wipe σ vs := (w vs his).trans (wipe_wipe σ vs)
      cases b with
      | false =>
        dsimp only
        rw [if_neg (by decide)]
        refine ⟨G5, wipeS ρ4 vs, acc, accD, (s2.trans s3).trans s5, ?_, ma.mono (s3.trans s5), by omega, fun v hv s e => wipeS_no hv e, h7⟩
        rw [← w4]
        exact r5.wipe vs
      | true =>
        dsimp only
        rw [if_pos rfl]
        obtain ⟨⟨y, ρ5⟩, h8, h9⟩ := bindE h7
        refine ⟨_, G5, ρ4, y, ρ5, r5, h8, fun G6 H6 v s6 r6 m6 => ⟨acc, r6.watched, ?_, G6, wipeS ρ5 vs, acc ++ [v], accD ++ [y], ((s2.trans s3).trans s5).trans s6, ?_, (ma.mono ((s3.trans s5).trans s6)).app (.cons m6 .nil), ?_, fun v hv s e => wipeS_no hv e, h9⟩⟩
        · rw [ma.len]
          exact lt_line (by omega)
        · rw [← w4]
          exact (r6.accum (o' := .lst (acc ++ [v])) (r6.gnone g0 (fun _ z => nomatch z))).wipe vs
        · rw [List.length_append]
          show accD.length + 1 ≤ i + 1
          omega
    · have e : i = ds.length := by omega
      subst e
      rw [List.drop_length] at h3
      cases h3
      have r3 := (r2.unwatch b0).unwipe no
      refine .inl ⟨stop, k G2 H2 D (s1.trans s2) r3 ⟨r2.gnone g0 (fun _ z => nomatch z), b0, fun i s a e ow q => ?_⟩ ⟨acc, r2.watched, ma⟩⟩
      by_cases hv : i ∈ vs
      · rw [no i hv s e] at ow
        cases ow
      · exact r2.own_watch e ow (by rw [wipe_get hv]; exact q)
  · cases h2
section
variable {X : Cx} {elt tg iter : Expr} {ifs : List Expr} {scope : Scope} {own : List (Str × Nat)} {pos : Pos} {fi : FL} {g : D → Sls → Option Sls} {c : FT} {f : FE} {is : List Nat}
theorem cl_lc (hc : X.calm = true) (hN : X.N.Nodup) (hi : CI X tg iter fi) (ok : BlkOk X.N X.env.scope scope own)
    (hg : ∀ (s : Shared) (H : Hp) (C : Addr) (cl : List (Str × Addr)) (fp : List Addr), CG (X.blk s H scope (compEnvC scope cl C X.env) fp) tg is g)
    (ht : ∀ (s : Shared) (H : Hp) (C : Addr) (cl : List (Str × Addr)) (fp : List Addr), CTs (X.blk s H scope (compEnvC scope cl C X.env) fp) ifs c)
    (he : ∀ (s : Shared) (H : Hp) (C : Addr) (cl : List (Str × Addr)) (fp : List Addr), CE (X.blk s H scope (compEnvC scope cl C X.env) fp) elt f)
    (his : ∀ i ∈ is, i ∈ own.map (·.2)) (hs : ∀ x, foldedSetIterable iter X.env x = pure x := by intro _; rfl) :
    CL X (.ListComp elt [⟨tg, iter, ifs, 0⟩] scope pos) (fLc fi g c f (own.map (·.2))) :=
  ⟨_, pe_lc (g := rdG X.K is g) (tt := rdT X.K c) (te := rdE X.K f) hc hN hi.pi ok (fun s H C cl fp => (hg s H C cl fp).pg) (fun s H C cl fp => ht s H C cl fp) (fun s H C cl fp => (he s H C cl fp).pe) hs, fun F G H σ ρ ds ρ' R hf Q k => lc_read his R hf k⟩
/-- name = [..] -/
theorem cs_lc {i : Nat} {y : Str} {py spos : Pos} (hc : X.calm = true) (hN : X.N.Nodup) (hy : X.N[i]? = some y) (hyl : X.env.scope.names.lookup y = some .local)
    (hsw : swapsWith (.ListComp elt [⟨tg, iter, ifs, 0⟩] scope pos) (some (.Name y py)) spos.line X.env = pure true) (hi : CI X tg iter fi) (ok : BlkOk X.N X.env.scope scope own)
    (hg : ∀ (s : Shared) (H : Hp) (C : Addr) (cl : List (Str × Addr)) (fp : List Addr), CG (X.blk s H scope (compEnvC scope cl C X.env) fp) tg is g)
    (ht : ∀ (s : Shared) (H : Hp) (C : Addr) (cl : List (Str × Addr)) (fp : List Addr), CTs (X.blk s H scope (compEnvC scope cl C X.env) fp) ifs c)
    (he : ∀ (s : Shared) (H : Hp) (C : Addr) (cl : List (Str × Addr)) (fp : List Addr), CE (X.blk s H scope (compEnvC scope cl C X.env) fp) elt f)
    (his : ∀ i ∈ is, i ∈ own.map (·.2)) (hs : ∀ x, foldedSetIterable iter X.env x = pure x := by intro _; rfl) :
    CS X (.Assign [.Name y py] (.ListComp elt [⟨tg, iter, ifs, 0⟩] scope pos) spos) (fSetL (fLc fi g c f (own.map (·.2))) i) := by
  refine ⟨_, ps_setLc (g := rdG X.K is g) (tt := rdT X.K c) (te := rdE X.K f) hc hN hy hyl hsw hi.pi ok (fun s H C cl fp => (hg s H C cl fp).pg) (fun s H C cl fp => ht s H C cl fp) (fun s H C cl fp => (he s H C cl fp).pe) hs, fun F G H σ ρ o R hf D k => ?_⟩
  obtain ⟨⟨x, ρ1⟩, h1, h2⟩ := bindE hf
  cases h2
  exact lc_read his R h1 fun G1 H1 v s1 r1 f1 m1 => k G1 H1 _ s1 (r1.setO i (s := .ml x) f1 m1 (fun _ z => nomatch z))
end
end DL

/-! DL6: dict comprehensions, with one clause or two, keys of either kind. -/
namespace DL
open PySem PySem.Spec PyProof.Rows L2

/-- a dict's entry is stored by the block -/
theorem put_entry {X : Cx} {pins : List (Addr × Obj)} {σ : L2.St} {H H' : Hp} {s : Shared} {E : Value → Shared → Prop} {a : Addr} {y v : V} {u r : Value} {Q : Unit → Shared → Prop} (hu : X.A.units + 2 < cLine) (I : L2.Inv X pins σ H s)
    (g : DPut H a y v H') (ry : RelV y u) (rv : RelV v r) (h : ∀ s', L2.Inv X pins σ H' s' → Q () s') : wpAny (model X.prog X.w) X.A (dictSet a u r) Q E s := by
  rcases g with ⟨kvs, k, e, rfl, l, rfl⟩ | ⟨kvs, k, b, e, rfl, eb, l, rfl⟩
  · exact d_dictSet I e l ry rv h
  · cases (show u = Value.ref b from ry)
    obtain ⟨z, nsys, xs, rel, dd⟩ := dt_of I.hok e
    have lx : xs.length ≤ sizeLine := by
      rw [← Paired.length rel]
      exact z
    have ll : (putK kvs k v).length ≤ sizeLine := by
      have := length_putK kvs k v
      omega
    refine wpAny_dictSet_heap (hsz := lx) (show (tupleKind (mixKind X.prog X.w)).room X.A from (by show X.A.units < cLine; omega)) (key_of I.hok eb) dd fun h' dd' same => h _ ?_
    obtain ⟨q, es, ep, hq, d1, d2, d3, _, d4⟩ := dd'
    refine d_write I (by rw [e]; trivial) same ⟨q, hq⟩ ⟨ll, nsys, _, (rel.put k eb rv).keeps fun c ys ec => ?_, q, es, ep, hq, d1, d2, d3, d4⟩
    exact (upd_ne (ne_of ec e (fun w => nomatch w))).trans ec

/-! ### the turn of a comprehension's loop, whatever it does with its item -/
/-- what is done with an item, by what is wanted behind it -/
abbrev Act := Model → Around → (Shared → Prop) → Shared → Prop
def TurnIs (C : Expr) (k : Nat) (t : Expr) (ifs : List Expr) (it acc : Value) (env : Env) (act : Act) : Prop :=
  ∀ (prog : Program) (w : World) (A : Around) (s : Shared) (dn ag : Shared → Prop),
    wpAny (model prog w) A (pyNext it) (fun r s1 => match r with
        | none => dn s1
        | some item => wpAny (model prog w) A (letOwnedTupleGo t it item) (fun _ s2 => wpAny (model prog w) A (assign t env item) (fun _ s3 =>
            wpAny (model prog w) A (forIn ifs true fun c r => if r = true then do let ok ← isTrue c env (eval c env); pure (ForInStep.yield ok) else pure (ForInStep.yield r)) (fun good s4 =>
              if good = true then act (model prog w) A ag s4 else ag s4) (fun _ _ => False) s3) (fun _ _ => False) s2) (fun _ _ => False) s1)
      (fun _ _ => False) s →
    wpAny (model prog w) A (compTurn C k it acc env) (fun f s' => match f with | .done r => r = .next ∧ dn s' | .again c' => c' = .compLoop C k it acc env ∧ ag s') (fun _ _ => False) s
theorem turns_go {prog : Program} {w : World} {A : Around} {R : Result → Shared → Prop} {s : Shared} {kx vx t : Expr} {gs : List Comprehension} {scope : Scope} {cp : Pos} {k : Nat} {ifs : List Expr} {it acc : Value} {env : Env} {act : Act}
    (eq : TurnIs (.DictComp kx vx gs scope cp) k t ifs it acc env act) (I : Nat → Shared → Prop)
    (turn : ∀ n s, I n s → wpAny (model prog w) A (pyNext it) (fun r s1 => match r with
        | none => R (.ok .next) s1
        | some item => wpAny (model prog w) A (letOwnedTupleGo t it item) (fun _ s2 => wpAny (model prog w) A (assign t env item) (fun _ s3 =>
            wpAny (model prog w) A (forIn ifs true fun c r => if r = true then do let ok ← isTrue c env (eval c env); pure (ForInStep.yield ok) else pure (ForInStep.yield r)) (fun good s4 =>
              if good = true then act (model prog w) A (fun s5 => ∃ m, m < n ∧ I m s5) s4 else ∃ m, m < n ∧ I m s4) (fun _ _ => False) s3) (fun _ _ => False) s2) (fun _ _ => False) s1)
      (fun _ _ => False) s)
    (n : Nat) (h : I n s) : codeAny (model prog w) A (.compLoop (.DictComp kx vx gs scope cp) k it acc env) R s := by
  refine codeAny_loop rfl I (fun n s hI => ?_) n h
  show wpAny (model prog w) A ((compTurn (.DictComp kx vx gs scope cp) k it acc env).onRaise (fun x => do noteFrame x env; theTreesLotGoes x)) _ _ s
  refine wpAny_noted (wpAny_mono (eq prog w A s (fun s1 => R (.ok .next) s1) (fun s5 => ∃ m, m < n ∧ I m s5) (turn n s hI)) (fun f s' q => ?_) fun _ _ z => z.elim)
  cases f with
  | done r =>
    obtain ⟨rfl, q⟩ := q
    exact q
  | again c' => exact q

/-! ### as plain functions -/
def itD {α : Type} (g : D → Sls → Option Sls) (c : FT) (body : α → Sls → Option (α × Sls)) (vs : List Nat) : List D → α → Sls → Option (α × Sls)
  | [], acc, ρ => some (acc, ρ)
  | d :: ds, acc, ρ => (g d ρ).bind fun ρ1 => (c ρ1).bind fun b => if b.1 = true then (body acc b.2).bind fun r => itD g c body vs ds r.1 (wipeS r.2 vs) else itD g c body vs ds acc (wipeS b.2 vs)
/-- what a clause's inside does: from acc to acc' -/
def Acts (Y : Cx) (T : Addr) {α : Type} (rel : α → HO → Hp → Prop) (body : α → Sls → Option (α × Sls)) (vs : List Nat) (act : Act) : Prop :=
  ∀ pins σ H s (F : Bk) G ρ acc o acc' ρ', L2.Inv Y pins σ H s → SR Y.K (F.plus T o) G H σ ρ → G T = none → F.G0 T = none → rel acc o G → body acc ρ = some (acc', ρ') →
    ∀ Kp : Shared → Prop, (∀ s' σ' G' H' o', L2.Inv Y pins σ' H' s' → wipe σ' vs = wipe σ vs → Same G G' → SR Y.K (F.plus T o') G' H' σ' ρ' → G' T = none → rel acc' o' G' → Kp s') → act (model Y.prog Y.w) Y.A Kp s
theorem wipe_sub (σ : L2.St) : ∀ {ws vs : List Nat}, (∀ i ∈ ws, i ∈ vs) → wipe (wipe σ ws) vs = wipe σ vs
  | [], _, _ => rfl
  | w :: ws, vs, h => by
    show wipe ((wipe σ ws).set w none) vs = _
    rw [wipe_set_in (h w List.mem_cons_self), wipe_sub σ fun i hi => h i (List.mem_cons_of_mem _ hi)]
section
variable {Y : Cx} {α : Type} {rel : α → HO → Hp → Prop} {body : α → Sls → Option (α × Sls)} {g : D → Sls → Option Sls} {c : FT} {is vs : List Nat}
theorem items_go {kx vx tg : Expr} {gs : List Comprehension} {scope : Scope} {cp : Pos} {k : Nat} {ifs : List Expr} {accv : Value} {act : Act} {it T : Addr} {fp : List Addr} {tn : Nat → Heap → Prop} {J : It} {R : Result → Shared → Prop} (eq : TurnIs (.DictComp kx vx gs scope cp) k tg ifs (.ref it) accv Y.env act)
    (hc : Y.calm = true) (hxe : Y.xe = fun _ _ => False) (Tn : Turn Y.prog Y.w Y.K tg J fp it tn) (hg : CG Y tg is g) (ht : CTs Y ifs c) (ha : Acts Y T rel body vs act) (his : ∀ i ∈ is, i ∈ vs)
    (mono : ∀ acc o G G', Same G G' → rel acc o G → rel acc o G') (nt : ∀ acc o G, rel acc o G → ∀ xs, o ≠ .tup xs)
    {pins : List (Addr × Obj)} {σ : L2.St} {H : Hp} {s : Shared} {F : Bk} {G : Hp} {ρ ρ' : Sls} {ds : List D} {acc acc' : α} {o : HO} (hw : wipe σ vs = σ) (I : L2.Inv Y pins σ H s) (R1 : SR Y.K (F.plus T o) G H σ ρ) (gn : F.G0 T = none) (r1 : rel acc o G)
    (ok : ItOk Y.K G J ds) (st : tn 0 s.heap) (ff : ∀ b ∈ fp, FpOk Y pins H b) (hf : itD g c body vs ds acc ρ = some (acc', ρ'))
    (fin : ∀ s' H' G' o', L2.Inv Y pins σ H' s' → Same G G' → SR Y.K (F.plus T o') G' H' σ ρ' → rel acc' o' G' → (∀ b ∈ fp, H' b = none) → R (.ok .next) s') :
    codeAny (model Y.prog Y.w) Y.A (.compLoop (.DictComp kx vx gs scope cp) k (.ref it) accv Y.env) R s := by
  have stat : ∀ {H' : Hp}, (∀ b ∈ fp, H' b = none) → ∀ b ∈ fp, FpOk Y pins H' b := fun z b hb => ⟨z b hb, (ff b hb).2⟩
  refine turns_go eq (fun n s' => ∃ i H' G' ρ2 acc2 o2, n = ds.length - i ∧ i ≤ ds.length ∧ L2.Inv Y pins σ H' s' ∧ tn i s'.heap ∧ (∀ b ∈ fp, H' b = none) ∧ Same G G' ∧ SR Y.K (F.plus T o2) G' H' σ ρ2 ∧ rel acc2 o2 G' ∧
    itD g c body vs (ds.drop i) acc2 ρ2 = some (acc', ρ')) ?_ ds.length ⟨0, H, G, ρ, acc, o, rfl, Nat.zero_le _, I, st, fun b hb => (ff b hb).1, Same.refl _, R1, r1, hf⟩
  rintro n s2 ⟨i, H2, G2, ρ2, acc2, o2, rfl, hi, I2, st2, n2, s12, R2, r2, h3⟩
  obtain ⟨go, stop, yld⟩ := ok G2 H2 s12 R2.gh
  by_cases hlt : i < ds.length
  · rw [List.drop_eq_getElem_cons hlt] at h3
    obtain ⟨ρ3, h4, h5⟩ := bindE h3
    obtain ⟨⟨b, ρ4⟩, h6, h7⟩ := bindE h5
    refine thnF (Tn.item Y rfl rfl rfl hc i pins s2 σ H2 (fun _ _ => False) I2 (stat n2) st2 (go i hlt)) fun r s3 ⟨u, hr, q3⟩ => ?_
    subst hr
    refine thnF q3 fun _ s4 ⟨x, H4, I4, rx, y4, st4, n4⟩ => ?_
    obtain ⟨G4, gr, m4⟩ := yld i _ x H4 (List.getElem?_eq_getElem hlt) y4
    obtain ⟨s24, R4⟩ := R2.gr gr
    have I4' := I4.pinned (stat n4) (Tn.obj _ _ st4)
    have pg := hg.pg
    have back : ∀ {s' : Shared} {σ' : L2.St} {H' : Hp}, L2.Inv Y (pins ++ pinsAt fp s4.heap) σ' H' s' → wipe σ' vs = wipe σ vs → L2.Inv Y pins σ H' s' ∧ tn (i + 1) s'.heap ∧ ∀ b ∈ fp, H' b = none := fun {s' σ' H'} I' w' => by
      have pin' : ∀ b ∈ fp, ∀ o, s4.heap.get? b = some o → s'.heap.get? b = some o ∧ H' b = none := fun b hb o e =>
        let z := I'.pin (b, o) (List.mem_append_right _ (List.mem_append_right _ (mem_pinsAt hb e)))
        ⟨z.1, z.2.1⟩
      refine ⟨I'.unpinned.weak (by rw [← hw, ← w', wipe_length]) fun j v e => ?_, Tn.keep _ _ _ st4 fun b hb o e => (pin' b hb o e).1, fun b hb => ?_⟩
      · rw [← hw, ← w'] at e
        exact (wipe_some e).1
      · obtain ⟨o, e, _⟩ := Tn.obj _ _ st4 b hb
        exact (pin' b hb o e).2
    have run1 := pg.run (pins ++ pinsAt fp s4.heap) s4 σ H4 x u (fun σ' H' => H4 = H' ∧ wipe σ' vs = wipe σ vs ∧ SR Y.K (F.plus T o2) G4 H' σ' ρ3) I4' rx ⟨_, G4, ρ2, _, ρ3, R4, m4, h4, fun σ' w' R' => ⟨rfl, w' vs his, R'⟩⟩
    rw [hxe] at run1
    refine thnF run1 fun _ s5 ⟨σ5, H5, I5, e5, w5, R5⟩ => ?_
    subst e5
    have run2 := ht.run (pins ++ pinsAt fp s4.heap) s5 σ5 H4 (fun b' H' => b' = b ∧ ∃ G', Same G4 G' ∧ SR Y.K (F.plus T o2) G' H' σ5 ρ4) I5 ⟨_, G4, ρ3, b, ρ4, R5, h6, fun G' H' s' R' => ⟨rfl, G', s', R'⟩⟩
    rw [hxe] at run2
    refine thnF run2 fun b' s6 ⟨H6, I6, eb, G6, s46, R6⟩ => ?_
    subst eb
    have s16 := (s12.trans s24).trans s46
    cases b' with
    | false =>
      obtain ⟨j1, j2, j3⟩ := back I6 w5
      refine ⟨_, by omega, i + 1, H6, G6, wipeS ρ4 vs, acc2, o2, rfl, hlt, j1, j2, j3, s16, ?_, mono _ _ _ _ (s24.trans s46) r2, h7⟩
      rw [← hw, ← w5]
      exact R6.wipe vs
    | true =>
      obtain ⟨⟨acc3, ρ5⟩, h8, h9⟩ := bindE h7
      refine ha _ σ5 H6 s6 F G6 ρ4 acc2 o2 acc3 ρ5 I6 R6 (R6.gnone gn (nt _ _ _ r2)) gn (mono _ _ _ _ (s24.trans s46) r2) h8 _ fun s7 σ7 G7 H7 o7 I7 w7 s67 R7 g7 r7 => ?_
      obtain ⟨j1, j2, j3⟩ := back I7 (w7.trans w5)
      refine ⟨_, by omega, i + 1, H7, G7, wipeS ρ5 vs, acc3, o7, rfl, hlt, j1, j2, j3, s16.trans s67, ?_, r7, h9⟩
      rw [← hw, ← w5, ← w7]
      exact R7.wipe vs
  · have e : i = ds.length := by omega
    subst e
    rw [List.drop_length] at h3
    cases h3
    refine thnF (Tn.done Y rfl rfl rfl hc _ pins s2 σ H2 (fun _ _ => False) I2 (stat n2) st2 stop) fun r s3 ⟨hr, I3⟩ => ?_
    subst hr
    exact fin s3 H2 G2 o2 I3 s12 R2 r2 n2
end
end DL

/-! DL7: dict comprehensions: the clauses' turns, the entry. -/
namespace DL
open PySem PySem.Spec PyProof.Rows L2

abbrev No : Value → Shared → Prop := fun _ _ => False
def leafAct (kx vx : Expr) (T : Addr) (env : Env) : Act := fun M A K s => wpAny M A (eval kx env) (fun a s1 => wpAny M A (eval vx env) (fun b s2 => wpAny M A (dictSet T a b) (fun _ s3 => K s3) No s2) No s1) No s
def innerAct (C iter1 : Expr) (T : Addr) (env : Env) : Act := fun M A K s => wpAny M A (eval iter1 env) (fun x s1 => wpAny M A (pyIter x) (fun it1 s2 =>
  codeAny M A (.compStart C 1 it1 (.ref T) env) (fun r s' => match r with | .ok _ => K s' | .error _ => False) s2) No s1) No s
section
variable {kx vx t iter t1 iter1 : Expr} {ifs ifs1 : List Expr} {scope : Scope} {pos : Pos} {it : Value} {T : Addr} {env : Env}
theorem turn_leaf : TurnIs (.DictComp kx vx [⟨t, iter, ifs, 0⟩] scope pos) 0 t ifs it (.ref T) env (leafAct kx vx T env) := by
  intro prog w A s dn ag h
  have e : compTurn (.DictComp kx vx [⟨t, iter, ifs, 0⟩] scope pos) 0 it (.ref T) env = (do
    standAt iter.pos
    match ← pyNext it with
    | none => pure (.done .next)
    | some item =>
      letOwnedTupleGo t it item
      assign t env item
      let mut good := true
      for c in ifs do
        if good then good ← isTrue c env (eval c env)
      if good then
        (do
          let a ← eval kx env
          let b ← holding [a] (eval vx env)
          standAt { kx.pos with endLine := vx.pos.endLine, endCol := vx.pos.endCol }
          holding [a, b] (dictSet T a b))
      again (.compLoop (.DictComp kx vx [⟨t, iter, ifs, 0⟩] scope pos) 0 it (.ref T) env)) := by rfl
  rw [e]
  refine wpAny_bind (wpAny_standAt (wpAny_bind (wpAny_mono h (fun r s1 q1 => ?_) fun _ _ z => z.elim)))
  cases r with
  | none => exact wpAny_pure ⟨rfl, q1⟩
  | some item =>
    refine wpAny_bind (wpAny_mono q1 (fun _ s2 q2 => wpAny_bind (wpAny_mono q2 (fun _ s3 q3 => wpAny_bind (wpAny_mono q3 (fun good s4 q4 => ?_) fun _ _ z => z.elim)) fun _ _ z => z.elim)) fun _ _ z => z.elim)
    cases good with
    | false => exact wpAny_pure ⟨rfl, q4⟩
    | true =>
      refine wpAny_bind (wpAny_bind (wpAny_mono q4 (fun a s5 q5 => wpAny_bind (wpAny_holding (wpAny_mono q5 (fun b s6 q6 => ?_) fun _ _ z => z.elim))) fun _ _ z => z.elim))
      exact wpAny_bind (wpAny_standAt (wpAny_holding (wpAny_mono q6 (fun _ s7 q7 => wpAny_pure ⟨rfl, q7⟩) fun _ _ z => z.elim)))
theorem turn_leaf1 : TurnIs (.DictComp kx vx [⟨t, iter, ifs, 0⟩, ⟨t1, iter1, ifs1, 0⟩] scope pos) 1 t1 ifs1 it (.ref T) env (leafAct kx vx T env) := by
  intro prog w A s dn ag h
  have e : compTurn (.DictComp kx vx [⟨t, iter, ifs, 0⟩, ⟨t1, iter1, ifs1, 0⟩] scope pos) 1 it (.ref T) env = (do
    standAt iter1.pos
    match ← pyNext it with
    | none => pure (.done .next)
    | some item =>
      letOwnedTupleGo t1 it item
      assign t1 env item
      let mut good := true
      for c in ifs1 do
        if good then good ← isTrue c env (eval c env)
      if good then
        (do
          let a ← eval kx env
          let b ← holding [a] (eval vx env)
          standAt { kx.pos with endLine := vx.pos.endLine, endCol := vx.pos.endCol }
          holding [a, b] (dictSet T a b))
      again (.compLoop (.DictComp kx vx [⟨t, iter, ifs, 0⟩, ⟨t1, iter1, ifs1, 0⟩] scope pos) 1 it (.ref T) env)) := by rfl
  rw [e]
  refine wpAny_bind (wpAny_standAt (wpAny_bind (wpAny_mono h (fun r s1 q1 => ?_) fun _ _ z => z.elim)))
  cases r with
  | none => exact wpAny_pure ⟨rfl, q1⟩
  | some item =>
    refine wpAny_bind (wpAny_mono q1 (fun _ s2 q2 => wpAny_bind (wpAny_mono q2 (fun _ s3 q3 => wpAny_bind (wpAny_mono q3 (fun good s4 q4 => ?_) fun _ _ z => z.elim)) fun _ _ z => z.elim)) fun _ _ z => z.elim)
    cases good with
    | false => exact wpAny_pure ⟨rfl, q4⟩
    | true =>
      refine wpAny_bind (wpAny_bind (wpAny_mono q4 (fun a s5 q5 => wpAny_bind (wpAny_holding (wpAny_mono q5 (fun b s6 q6 => ?_) fun _ _ z => z.elim))) fun _ _ z => z.elim))
      exact wpAny_bind (wpAny_standAt (wpAny_holding (wpAny_mono q6 (fun _ s7 q7 => wpAny_pure ⟨rfl, q7⟩) fun _ _ z => z.elim)))
theorem turn_outer (hs : ∀ x, foldedSetIterable iter1 env x = pure x) :
    TurnIs (.DictComp kx vx [⟨t, iter, ifs, 0⟩, ⟨t1, iter1, ifs1, 0⟩] scope pos) 0 t ifs it (.ref T) env (innerAct (.DictComp kx vx [⟨t, iter, ifs, 0⟩, ⟨t1, iter1, ifs1, 0⟩] scope pos) iter1 T env) := by
  intro prog w A s dn ag h
  have e : compTurn (.DictComp kx vx [⟨t, iter, ifs, 0⟩, ⟨t1, iter1, ifs1, 0⟩] scope pos) 0 it (.ref T) env = (do
    standAt iter.pos
    match ← pyNext it with
    | none => pure (.done .next)
    | some item =>
      letOwnedTupleGo t it item
      assign t env item
      let mut good := true
      for c in ifs do
        if good then good ← isTrue c env (eval c env)
      if good then
        let y ← eval iter1 env
        standAt iter1.pos
        let y ← foldedSetIterable iter1 env y
        let _ ← runOwn (.compStart (.DictComp kx vx [⟨t, iter, ifs, 0⟩, ⟨t1, iter1, ifs1, 0⟩] scope pos) 1 (← holding [y] (pyIter y)) (.ref T) env) env
      again (.compLoop (.DictComp kx vx [⟨t, iter, ifs, 0⟩, ⟨t1, iter1, ifs1, 0⟩] scope pos) 0 it (.ref T) env)) := by rfl
  rw [e]
  refine wpAny_bind (wpAny_standAt (wpAny_bind (wpAny_mono h (fun r s1 q1 => ?_) fun _ _ z => z.elim)))
  cases r with
  | none => exact wpAny_pure ⟨rfl, q1⟩
  | some item =>
    refine wpAny_bind (wpAny_mono q1 (fun _ s2 q2 => wpAny_bind (wpAny_mono q2 (fun _ s3 q3 => wpAny_bind (wpAny_mono q3 (fun good s4 q4 => ?_) fun _ _ z => z.elim)) fun _ _ z => z.elim)) fun _ _ z => z.elim)
    cases good with
    | false => exact wpAny_pure ⟨rfl, q4⟩
    | true =>
      refine wpAny_bind (wpAny_mono q4 (fun y s5 q5 => wpAny_bind (wpAny_standAt (wpAny_bind (wpAny_of_eq (hs y) ?_)))) fun _ _ z => z.elim)
      refine wpAny_bind (wpAny_holding (wpAny_mono q5 (fun it1 s6 q6 => ?_) fun _ _ z => z.elim))
      refine wpAny_bind (wpAny_runOwn ?_)
      rw [Around.mark_none]
      refine codeAny_mono q6 fun r s' hr => ?_
      cases r with
      | error e => exact hr.elim
      | ok f =>
        first
          | exact wpAny_pure ⟨rfl, hr⟩
          | exact wpAny_bind (wpAny_pure (wpAny_pure ⟨rfl, hr⟩))
theorem start1 {prog : Program} {w : World} {A : Around} {R : Result → Shared → Prop} {s : Shared} (h0 : codeAny (model prog w) A (.compLoop (.DictComp kx vx [⟨t, iter, ifs, 0⟩, ⟨t1, iter1, ifs1, 0⟩] scope pos) 1 it (.ref T) env) R s)
    (h : wpAny (model prog w) A (pyIter it) (fun it' s' => codeAny (model prog w) A (.compLoop (.DictComp kx vx [⟨t, iter, ifs, 0⟩, ⟨t1, iter1, ifs1, 0⟩] scope pos) 1 it' (.ref T) env) R s') (notedBy (model prog w) A env fun x s' => R (.error x) s') s) :
    codeAny (model prog w) A (.compStart (.DictComp kx vx [⟨t, iter, ifs, 0⟩, ⟨t1, iter1, ifs1, 0⟩] scope pos) 1 it (.ref T) env) R s := by
  refine codeAny_of_tree ?_
  show wpAny (model prog w) _ ((compStart (.DictComp kx vx [⟨t, iter, ifs, 0⟩, ⟨t1, iter1, ifs1, 0⟩] scope pos) 1 it (.ref T) env).onRaise (fun x => do noteFrame x env; standAt theWindowsPlace)) _ _ s
  refine wpAny_notedAt ?_
  unfold compStart
  show wpAny (model prog w) _ (ask >>= _) _ _ s
  refine wpAny_bind (wpAny_askSetting (wpAny_ite ?_))
  by_cases hc : s = s
  · split
    · first
        | exact wpAny_bind (wpAny_pure (wpAny_pure ⟨rfl, h0⟩))
        | exact wpAny_pure ⟨rfl, h0⟩
    · first
        | exact wpAny_bind (wpAny_rule (wpAny_bind (wpAny_standAt (wpAny_bind (wpAny_mono h (fun i2 s2 q2 => wpAny_pure ⟨rfl, q2⟩) fun _ _ z => z)))))
        | (refine wpAny_bind (wpAny_rule ?_); show wpAny (model prog w) _ (standAt iter1.pos >>= _) _ _ s; exact wpAny_bind (wpAny_standAt (wpAny_bind (wpAny_mono h (fun i2 s2 q2 => wpAny_pure ⟨rfl, q2⟩) fun _ _ z => z))))
  · exact absurd rfl hc
end

/-! ### what is stored -/
def relK (K : PySem.W.Frag) : List (Key × D) → HO → Hp → Prop := fun kvs o G => ∃ es, o = .dK es ∧ RpK K G es kvs
def relT (K : PySem.W.Frag) : List (List Key × D) → HO → Hp → Prop := fun kvs o G => ∃ es, o = .dT es ∧ RpK K G es kvs
def bodyK (fk fv : FE) : List (Key × D) → Sls → Option (List (Key × D) × Sls) := fun kvs ρ => (fk ρ).bind fun a => (fv a.2).bind fun b => (keyOf a.1).bind fun k => if kvs.length < 1000000 then some (putD kvs k b.1, b.2) else none
def bodyT (fk fv : FE) : List (List Key × D) → Sls → Option (List (List Key × D) × Sls) := fun kvs ρ => (fk ρ).bind fun a => (fv a.2).bind fun b => match a.1 with
  | .tup ks => (keysOf ks).bind fun k => if kvs.length < 1000000 then some (putD kvs k b.1, b.2) else none
  | _ => none
section
variable {Y : Cx} {T : Addr} {kx vx : Expr} {fk fv : FE} {vs : List Nat}
theorem acts_K (hu : Y.A.units + 2 < cLine) (hxe : Y.xe = No) (hk : CE Y kx fk) (hv : CE Y vx fv) : Acts Y T (relK Y.K) (bodyK fk fv) vs (leafAct kx vx T Y.env) := by
  intro pins σ H s F G ρ acc o acc' ρ' I R gn g0 r hf Kp hK
  obtain ⟨⟨a, ρ1⟩, h1, h2⟩ := bindE hf
  obtain ⟨⟨b, ρ2⟩, h3, h4⟩ := bindE h2
  obtain ⟨k, h5, h6⟩ := bindE h4
  split at h6
  · rename_i hl
    cases h6
    obtain ⟨es, rfl, r⟩ := r
    have run1 := hk.pe.run pins s σ H (fun v H' => ∃ G', Same G G' ∧ SR Y.K (F.plus T (.dK es)) G' H' σ ρ1 ∧ Rp Y.K G' v a) I ⟨_, G, ρ, a, ρ1, R, h1, fun G' H' v s' R' m => ⟨G', s', R', m⟩⟩
    rw [hxe] at run1
    refine wpAny_mono run1 (fun u s1 ⟨v, H1, I1, rv, G1, s01, R1, m1⟩ => ?_) fun _ _ z => z
    have run2 := hv.pe.run pins s1 σ H1 (fun v H' => ∃ G', Same G1 G' ∧ SR Y.K (F.plus T (.dK es)) G' H' σ ρ2 ∧ Rp Y.K G' v b) I1 ⟨_, G1, ρ1, b, ρ2, R1, h3, fun G' H' v s' R' m => ⟨G', s', R', m⟩⟩
    rw [hxe] at run2
    refine wpAny_mono run2 (fun u2 s2 ⟨v2, H2, I2, rv2, G2, s12, R2, m2⟩ => ?_) fun _ _ z => z
    have ek := (m1.mono s12).key h5
    subst ek
    have le : es.length < sizeLine := by rw [r.len]; exact lt_line (by omega)
    refine put_entry hu I2 (DPut.k R2.watched le) rv rv2 fun s3 I3 => ?_
    have g2 := R2.gnone g0 (fun _ z => nomatch z)
    exact hK s3 σ G2 _ _ I3 rfl (s01.trans s12) (R2.accum g2) g2 ⟨_, rfl, (r.mono (s01.trans s12)).put k m2⟩
  · cases h6
theorem acts_T (hu : Y.A.units + 2 < cLine) (hxe : Y.xe = No) (hk : CE Y kx fk) (hv : CE Y vx fv) : Acts Y T (relT Y.K) (bodyT fk fv) vs (leafAct kx vx T Y.env) := by
  intro pins σ H s F G ρ acc o acc' ρ' I R gn g0 r hf Kp hK
  obtain ⟨⟨a, ρ1⟩, h1, h2⟩ := bindE hf
  obtain ⟨⟨b, ρ2⟩, h3, h4⟩ := bindE h2
  dsimp only at h4
  cases a with
  | tup ks =>
    obtain ⟨k, h5, h6⟩ := bindE h4
    split at h6
    · rename_i hl
      cases h6
      obtain ⟨es, rfl, r⟩ := r
      have run1 := hk.pe.run pins s σ H (fun v H' => ∃ G', Same G G' ∧ SR Y.K (F.plus T (.dT es)) G' H' σ ρ1 ∧ Rp Y.K G' v (.tup ks)) I ⟨_, G, ρ, _, ρ1, R, h1, fun G' H' v s' R' m => ⟨G', s', R', m⟩⟩
      rw [hxe] at run1
      refine wpAny_mono run1 (fun u s1 ⟨v, H1, I1, rv, G1, s01, R1, m1⟩ => ?_) fun _ _ z => z
      have run2 := hv.pe.run pins s1 σ H1 (fun v H' => ∃ G', Same G1 G' ∧ SR Y.K (F.plus T (.dT es)) G' H' σ ρ' ∧ Rp Y.K G' v b) I1 ⟨_, G1, ρ1, b, ρ', R1, h3, fun G' H' v s' R' m => ⟨G', s', R', m⟩⟩
      rw [hxe] at run2
      refine wpAny_mono run2 (fun u2 s2 ⟨v2, H2, I2, rv2, G2, s12, R2, m2⟩ => ?_) fun _ _ z => z
      have le : es.length < sizeLine := by rw [r.len]; exact lt_line (by omega)
      have g2 := R2.gnone g0 (fun _ z => nomatch z)
      cases (m1.mono s12) with
      | tup hq rq =>
        rw [rq.keys h5] at hq
        refine put_entry hu I2 (DPut.t R2.watched (R2.gh _ _ hq) le) rv rv2 fun s3 I3 => ?_
        exact hK s3 σ G2 _ _ I3 rfl (s01.trans s12) (R2.accum g2) g2 ⟨_, rfl, (r.mono (s01.trans s12)).put k m2⟩
    · cases h6
  | _ => cases h4
end
theorem relK_mono {K : PySem.W.Frag} : ∀ acc o G G', Same G G' → relK K acc o G → relK K acc o G' := fun acc o G G' s ⟨es, e, r⟩ => ⟨es, e, r.mono s⟩
theorem relT_mono {K : PySem.W.Frag} : ∀ acc o G G', Same G G' → relT K acc o G → relT K acc o G' := fun acc o G G' s ⟨es, e, r⟩ => ⟨es, e, r.mono s⟩
theorem relK_nt {K : PySem.W.Frag} : ∀ acc o G, relK K acc o G → ∀ xs, o ≠ .tup xs := fun acc o G ⟨es, e, r⟩ xs z => by rw [e] at z; cases z
theorem relT_nt {K : PySem.W.Frag} : ∀ acc o G, relT K acc o G → ∀ xs, o ≠ .tup xs := fun acc o G ⟨es, e, r⟩ xs z => by rw [e] at z; cases z
/-- a clause within a clause -/
def bodyIn {α : Type} (f1 : FL) (g1 : D → Sls → Option Sls) (c1 : FT) (b1 : α → Sls → Option (α × Sls)) (vs1 : List Nat) : α → Sls → Option (α × Sls) := fun acc ρ => (f1 ρ).bind fun r => itD g1 c1 b1 vs1 r.1 acc (wipeS r.2 vs1)
theorem acts_in {Y : Cx} {T : Addr} {α : Type} {rel : α → HO → Hp → Prop} {b1 : α → Sls → Option (α × Sls)} {kx vx t iter t1 iter1 : Expr} {ifs ifs1 : List Expr} {scope : Scope} {pos : Pos} {f1 : FL} {g1 : D → Sls → Option Sls} {c1 : FT} {is1 vs1 vs : List Nat}
    (hc : Y.calm = true) (hxe : Y.xe = No) (hi : CI Y t1 iter1 f1) (hg : CG Y t1 is1 g1) (ht : CTs Y ifs1 c1) (ha : Acts Y T rel b1 vs1 (leafAct kx vx T Y.env)) (his : ∀ i ∈ is1, i ∈ vs1) (hsub : ∀ i ∈ vs1, i ∈ vs)
    (mono : ∀ acc o G G', Same G G' → rel acc o G → rel acc o G') (nt : ∀ acc o G, rel acc o G → ∀ xs, o ≠ .tup xs) :
    Acts Y T rel (bodyIn f1 g1 c1 b1 vs1) vs (innerAct (.DictComp kx vx [⟨t, iter, ifs, 0⟩, ⟨t1, iter1, ifs1, 0⟩] scope pos) iter1 T Y.env) := by
  intro pins σ H s F G ρ acc o acc' ρ' I R gn g0 r hf Kp hK
  obtain ⟨⟨ds, ρ1⟩, h1, h2⟩ := bindE hf
  have run1 := hi.pi.run pins s σ H (fun J H' => ∃ G', Same G G' ∧ SR Y.K (F.plus T o) G' H' σ ρ1 ∧ ItOk Y.K G' J ds) I ⟨_, G, ρ, ds, ρ1, R, h1, fun G' H' J s' R' ok => ⟨G', s', R', ok⟩⟩
  rw [hxe] at run1
  refine wpAny_mono run1 (fun x s1 q1 => wpAny_mono q1 (fun itv s2 ⟨it, fp, tn, J, H2, e, I2, Tn, st, ff, G2, s02, R2, ok⟩ => ?_) fun _ _ z => z) fun _ _ z => z
  subst e
  have I2' : L2.Inv Y pins (wipe σ vs1) H2 s2 := I2.weak (wipe_length _ _) fun j v e => (wipe_some e).1
  have go := items_go (F := F) (R := fun r s' => match r with | .ok _ => Kp s' | .error _ => False) (turn_leaf1 (kx := kx) (vx := vx) (t := t) (iter := iter) (t1 := t1) (iter1 := iter1) (ifs := ifs) (ifs1 := ifs1) (scope := scope) (pos := pos) (it := .ref it) (T := T) (env := Y.env))
    hc hxe Tn hg ht ha his mono nt (wipe_wipe σ vs1) I2' (R2.wipe vs1) g0 (mono _ _ _ _ s02 r) ok st ff h2
    (fun s' H' G' o' I' s' R' r' _ => hK _ (wipe σ vs1) G' H' o' I' (wipe_sub σ hsub) (s02.trans s') R' (R'.gnone g0 (nt _ _ _ r')) r')
  exact start1 go (Tn.self Y.A 0 _ _ _ st go)
end DL

/-! DL8: dict comprehensions: the entry, the rules. -/
namespace DL
open PySem PySem.Spec PyProof.Rows L2

def rdD {α : Type} (K : PySem.W.Frag) (rel : α → HO → Hp → Prop) (f : Sls → Option (α × Sls)) : TE := fun σ H Q => ∃ F G ρ acc ρ', SR K F G H σ ρ ∧ f ρ = some (acc, ρ') ∧
  ∀ G' H' a o, Same G G' → SR K F G' H' σ ρ' → Free F G' H' σ ρ' a → H' a = some o → rel acc o G' → Q (.ref a) H'
def fDc {α : Type} (fi : FL) (g : D → Sls → Option Sls) (c : FT) (body : α → Sls → Option (α × Sls)) (vs : List Nat) (z : α) : Sls → Option (α × Sls) := fun ρ => (fi ρ).bind fun r => itD g c body vs r.1 z (wipeS r.2 vs)
theorem itD_no {α : Type} {g : D → Sls → Option Sls} {c : FT} {body : α → Sls → Option (α × Sls)} {vs : List Nat} : ∀ {ds : List D} {acc acc' : α} {ρ ρ' : Sls}, itD g c body vs ds acc ρ = some (acc', ρ') →
    (∀ v ∈ vs, ∀ s, ρ[v]? = some s → s = .no) → ∀ v ∈ vs, ∀ s, ρ'[v]? = some s → s = .no
  | [], _, _, _, _, h, hn => by
    cases h
    exact hn
  | d :: ds, acc, acc', ρ, ρ', h, hn => by
    obtain ⟨ρ1, h1, h2⟩ := bindE h
    obtain ⟨⟨b, ρ2⟩, h3, h4⟩ := bindE h2
    dsimp only at h4
    split at h4
    · obtain ⟨⟨a, ρ3⟩, h5, h6⟩ := bindE h4
      exact itD_no h6 fun v hv s e => wipeS_no hv e
    · exact itD_no h4 fun v hv s e => wipeS_no hv e
section
variable {X : Cx} {α : Type} {rel : α → HO → Hp → Prop} {z : α} {o0 : HO}
theorem dc_core2 {kx vx tg iter : Expr} {ifs : List Expr} {rest : List Comprehension} {scope : Scope} {own : List (Str × Nat)} {pos pos' : Pos} {fi : FL} {g : D → Sls → Option Sls} {c : FT} {is : List Nat} {body : α → Sls → Option (α × Sls)} {act : Addr → Env → Act}
    {use : Option (Value → Sem Unit)} {Qf : Value → Shared → Prop} {pins : List (Addr × Obj)} {s : Shared} {σ : L2.St} {H G : Hp} {F : Bk} {ρ ρ' : Sls} {acc : α}
    (hc : X.calm = true) (hN : X.N.Nodup) (hi : CI X tg iter fi) (ok : BlkOk X.N X.env.scope scope own)
    (hg : ∀ (s : Shared) (H : Hp) (C : Addr) (cl : List (Str × Addr)) (fp : List Addr), CG (X.blk s H scope (compEnvC scope cl C X.env) fp) tg is g)
    (ht : ∀ (s : Shared) (H : Hp) (C : Addr) (cl : List (Str × Addr)) (fp : List Addr), CTs (X.blk s H scope (compEnvC scope cl C X.env) fp) ifs c)
    (ha : ∀ (s : Shared) (H : Hp) (C : Addr) (cl : List (Str × Addr)) (fp : List Addr) (T : Addr), Acts (X.blk s H scope (compEnvC scope cl C X.env) fp) T rel body (own.map (·.2)) (act T (compEnvC scope cl C X.env)))
    (eq : ∀ (it : Value) (T : Addr) (env : Env), TurnIs (.DictComp kx vx (⟨tg, iter, ifs, 0⟩ :: rest) scope pos) 0 tg ifs it (.ref T) env (act T env))
    (mono : ∀ acc o G G', Same G G' → rel acc o G → rel acc o G') (nt : ∀ acc o G, rel acc o G → ∀ xs, o ≠ .tup xs)
    (mu : Mut (some o0)) (r0 : ∀ G, rel z o0 G) (new : ∀ (H : Hp) (h : Heap), sysModules < h.objs.size → ObjOk X.prog X.w H (h.push { cls := .type "dict", data := .dict #[] }) h.objs.size o0)
    (his : ∀ i ∈ is, i ∈ own.map (·.2)) (hs : ∀ x, foldedSetIterable iter X.env x = pure x)
    (I : L2.Inv X pins σ H s) (R : SR X.K F G H σ ρ) (hf : fDc fi g c body (own.map (·.2)) z ρ = some (acc, ρ'))
    (fin : ∀ T C s' m G' H' o, L2.Inv X pins σ H' s' → Same G G' → SR X.K F G' H' σ ρ' → Free F G' H' σ ρ' T → H' T = some o → rel acc o G' → s'.heap.Ns C m → FpOk X pins H' C → compPost (model X.prog X.w) X.A X.xe use Qf (.ref T) C (.ok .next) s') :
    wpAny (model X.prog X.w) X.A (comprehension (.DictComp kx vx (⟨tg, iter, ifs, 0⟩ :: rest) scope pos) scope X.env pos' newDict false (eval iter X.env) use) Qf X.xe s := by
  obtain ⟨⟨ds, ρ1⟩, h1, h2⟩ := bindE hf
  have hfree : ∀ y ∈ scope.names, y.2 = .free → ∃ c, X.env.cells.lookup y.1 = some c := fun y hy e => (ok.free y hy e).elim (fun k => I.ok.has _ (.inl k)) fun k => I.ok.has _ (.inr k)
  have run1 := hi.pi.run pins s σ H (fun J H' => ∃ G', Same G G' ∧ SR X.K F G' H' σ ρ1 ∧ ItOk X.K G' J ds) I ⟨F, G, ρ, ds, ρ1, R, h1, fun G' H' J s' R' o => ⟨G', s', R', o⟩⟩
  refine wpAny_comprehension_free (use := use) rfl hs (closure_ok hfree) ok.kind (fun y hy e => by rw [ok.uniq y hy, e])
    (thn run1 fun xv s1 q1 => thn q1 fun itv s2 ⟨it, fp, tn, J, H2, e, I2, Tn, st2, f2, G2, s02, R2, iok⟩ => ?_)
  subst e
  refine wpAny_newObj_type (newEnv_comp ?_)
  obtain ⟨T, hT⟩ : ∃ T, s2.heap.objs.size = T := ⟨_, rfl⟩
  have tn0 : H2 T = none := I2.hok.fresh (Nat.le_of_eq hT)
  obtain ⟨s3, hs3⟩ : ∃ s3 : Shared, s3 = { s2 with heap := s2.heap.push { cls := .type "dict", data := .dict #[] } } := ⟨_, rfl⟩
  obtain ⟨H3, hH3⟩ : ∃ H3, H3 = upd H2 T o0 := ⟨_, rfl⟩
  have h3 : s3.heap = s2.heap.push { cls := .type "dict", data := .dict #[] } := by rw [hs3]
  have I3 : L2.Inv X pins σ H3 s3 := by
    rw [hs3, hH3]
    refine I2.laid (t' := s2.toks) (fun b o e => Heap.get?_push_of_some _ e) (Nat.le_of_eq hT) ?_
    rw [← hT]
    exact new _ _ I2.big
  have f3 : ∀ b ∈ fp, FpOk X pins H3 b ∧ b < s3.heap.objs.size := fun b hb => by
    obtain ⟨o, e, _⟩ := Tn.obj _ _ st2 b hb
    have lt := Heap.lt_size e
    refine ⟨⟨?_, (f2 b hb).2⟩, ?_⟩
    · rw [hH3, upd_ne (by rw [← hT]; exact Nat.ne_of_lt lt)]
      exact (f2 b hb).1
    · rw [h3, Heap.size_push]
      exact Nat.lt_succ_of_lt lt
  have st3 : tn 0 s3.heap := Tn.keep _ _ _ st2 fun b _ o e => by
    rw [h3]
    exact Heap.get?_push_of_some _ e
  have I4 := block_start I3 ok hN f3
  obtain ⟨cl, hcl⟩ : ∃ cl, cl = cellsFrom (s3.heap.objs.size + 1) scope.names (cloFrom X.env.cells scope.names []) := ⟨_, rfl⟩
  rw [← hcl] at I4
  obtain ⟨ce, hce⟩ : ∃ ce, ce = compEnvC scope cl s3.heap.objs.size X.env := ⟨_, rfl⟩
  have cL : ce.locals = s3.heap.objs.size := by rw [hce]; rfl
  have pg := hg s3 H3 s3.heap.objs.size cl fp
  have pt := ht s3 H3 s3.heap.objs.size cl fp
  have pa := ha s3 H3 s3.heap.objs.size cl fp T
  rw [← hce] at pg pt pa I4
  obtain ⟨s4, hs4⟩ : ∃ s4 : Shared, s4 = { s3 with heap := pushCells (s3.heap.push { cls := .type "dict", data := .dict #[] }) scope.names } := ⟨_, rfl⟩
  rw [← hs4] at I4
  have st4 : tn 0 s4.heap := Tn.keep _ _ _ st3 fun b _ o e => by
    rw [hs4]
    exact pushCells_keeps _ _ _ _ (Heap.get?_push_of_some _ e)
  have b0 : F.B T = none := R2.bh.free tn0
  have g0 : F.G0 T = none := (R2.g0.trans R2.gh).free tn0
  have R3 : SR X.K (F.plus T o0) G2 H3 (wipe σ (own.map (·.2))) (wipeS ρ1 (own.map (·.2))) := by
    rw [hH3]
    exact (R2.watch tn0).wipe _
  have f4 : ∀ b ∈ fp, FpOk (X.blk s3 H3 scope ce fp) [] H3 b := fun b hb =>
    ⟨(f3 b hb).1.1, (I4.ok.exf b hb).1, I4.ok.exfs b hb, .inl hb, fun x c e => (I4.ok.exf b hb).2 x c e, fun p hp => absurd (show p ∈ ([] : List (Addr × Obj)) ++ [] from hp) (by simp)⟩
  have go := items_go (Y := X.blk s3 H3 scope ce fp) (F := F) (R := compPost (model X.prog X.w) X.A X.xe use Qf (.ref T) s3.heap.objs.size) (eq (.ref it) T ce) hc rfl Tn pg pt pa his mono nt (wipe_wipe σ _) I4 R3 g0 (r0 G2) iok st4 f4 h2
    (fun s' H' G' o' I' s24 R' r' nf => by
      have I7 : L2.Inv X pins σ H' s' := I3.call' (ch := fp) I'.os I'.base I'.hok I'.bare fun b hb => ⟨(f3 b hb).1.2.2.2.1, (f3 b hb).1.2.1, (f3 b hb).1.2.2.2.2.1, (f3 b hb).1.2.2.2.2.2⟩
      have nC : H' s3.heap.objs.size = none := by
        have w : H' ce.locals = none := I'.free
        rw [cL] at w
        exact w
      obtain ⟨m, hn, _⟩ := I'.loc
      have hn : s'.heap.Ns ce.locals m := hn
      rw [cL] at hn
      have no := itD_no h2 fun v hv s e => wipeS_no hv e
      have R5 := (R'.unwatch b0).unwipe no
      refine fin T s3.heap.objs.size s' m G' H' o' I7 (s02.trans s24) R5 ⟨R'.gnone g0 (nt _ _ _ r'), b0, fun i s a e ow q => ?_⟩ R'.watched r' hn (I3.fpOk (Nat.le_refl _) nC)
      by_cases hv : i ∈ own.map (·.2)
      · rw [no i hv s e] at ow
        cases ow
      · exact R'.own_watch e ow (by rw [wipe_get hv]; exact q))
  rw [hce] at go
  rw [hs4] at go st4
  have fin := codeAny_compStart_dict go (Tn.self X.A 0 _ _ _ st4 go)
  rw [hcl, hs3] at fin
  rw [hT]
  rw [hs3] at *
  exact fin
/-- as a value -/
theorem dc_in {kx vx tg iter : Expr} {ifs : List Expr} {rest : List Comprehension} {scope : Scope} {own : List (Str × Nat)} {pos : Pos} {fi : FL} {g : D → Sls → Option Sls} {c : FT} {is : List Nat} {body : α → Sls → Option (α × Sls)} {act : Addr → Env → Act}
    (hc : X.calm = true) (hN : X.N.Nodup) (hi : CI X tg iter fi) (ok : BlkOk X.N X.env.scope scope own)
    (hg : ∀ (s : Shared) (H : Hp) (C : Addr) (cl : List (Str × Addr)) (fp : List Addr), CG (X.blk s H scope (compEnvC scope cl C X.env) fp) tg is g)
    (ht : ∀ (s : Shared) (H : Hp) (C : Addr) (cl : List (Str × Addr)) (fp : List Addr), CTs (X.blk s H scope (compEnvC scope cl C X.env) fp) ifs c)
    (ha : ∀ (s : Shared) (H : Hp) (C : Addr) (cl : List (Str × Addr)) (fp : List Addr) (T : Addr), Acts (X.blk s H scope (compEnvC scope cl C X.env) fp) T rel body (own.map (·.2)) (act T (compEnvC scope cl C X.env)))
    (eq : ∀ (it : Value) (T : Addr) (env : Env), TurnIs (.DictComp kx vx (⟨tg, iter, ifs, 0⟩ :: rest) scope pos) 0 tg ifs it (.ref T) env (act T env))
    (mono : ∀ acc o G G', Same G G' → rel acc o G → rel acc o G') (nt : ∀ acc o G, rel acc o G → ∀ xs, o ≠ .tup xs)
    (mu : Mut (some o0)) (r0 : ∀ G, rel z o0 G) (new : ∀ (H : Hp) (h : Heap), sysModules < h.objs.size → ObjOk X.prog X.w H (h.push { cls := .type "dict", data := .dict #[] }) h.objs.size o0)
    (his : ∀ i ∈ is, i ∈ own.map (·.2)) (hs : ∀ x, foldedSetIterable iter X.env x = pure x) :
    PE X (.DictComp kx vx (⟨tg, iter, ifs, 0⟩ :: rest) scope pos) (rdD X.K rel (fDc fi g c body (own.map (·.2)) z)) := by
  refine ⟨fun pins s σ H Q I ⟨F, G, ρ, acc, ρ', R, hf, k⟩ => ?_⟩
  rw [arm_eval_DictComp]
  refine dc_core2 hc hN hi ok hg ht ha eq mono nt mu r0 new his hs I R hf fun T C s' m G' H' o I' sm R' fr ho r hn ff => ⟨m, hn, fun h5 same => ?_⟩
  obtain ⟨q0, q1, q2, q3, q4, q5⟩ := ff
  exact ⟨.ref T, H', I'.turned (t' := s'.toks) (fun b o hb e => (same.2 b hb).trans e) q0 q1 q3 q4 q5, rfl, k G' H' T o sm R' fr ho r⟩
/-- name = {..} -/
theorem dc_set {i : Nat} {y : Str} {py spos : Pos} {kx vx tg iter : Expr} {ifs : List Expr} {rest : List Comprehension} {scope : Scope} {own : List (Str × Nat)} {pos : Pos} {fi : FL} {g : D → Sls → Option Sls} {c : FT} {is : List Nat} {body : α → Sls → Option (α × Sls)} {act : Addr → Env → Act}
    (hc : X.calm = true) (hN : X.N.Nodup) (hi : CI X tg iter fi) (ok : BlkOk X.N X.env.scope scope own)
    (hg : ∀ (s : Shared) (H : Hp) (C : Addr) (cl : List (Str × Addr)) (fp : List Addr), CG (X.blk s H scope (compEnvC scope cl C X.env) fp) tg is g)
    (ht : ∀ (s : Shared) (H : Hp) (C : Addr) (cl : List (Str × Addr)) (fp : List Addr), CTs (X.blk s H scope (compEnvC scope cl C X.env) fp) ifs c)
    (ha : ∀ (s : Shared) (H : Hp) (C : Addr) (cl : List (Str × Addr)) (fp : List Addr) (T : Addr), Acts (X.blk s H scope (compEnvC scope cl C X.env) fp) T rel body (own.map (·.2)) (act T (compEnvC scope cl C X.env)))
    (eq : ∀ (it : Value) (T : Addr) (env : Env), TurnIs (.DictComp kx vx (⟨tg, iter, ifs, 0⟩ :: rest) scope pos) 0 tg ifs it (.ref T) env (act T env))
    (mono : ∀ acc o G G', Same G G' → rel acc o G → rel acc o G') (nt : ∀ acc o G, rel acc o G → ∀ xs, o ≠ .tup xs)
    (mu : Mut (some o0)) (r0 : ∀ G, rel z o0 G) (new : ∀ (H : Hp) (h : Heap), sysModules < h.objs.size → ObjOk X.prog X.w H (h.push { cls := .type "dict", data := .dict #[] }) h.objs.size o0)
    (his : ∀ i ∈ is, i ∈ own.map (·.2)) (hs : ∀ x, foldedSetIterable iter X.env x = pure x)
    (hy : X.N[i]? = some y) (hyl : X.env.scope.names.lookup y = some .local) (hsw : swapsWith (.DictComp kx vx (⟨tg, iter, ifs, 0⟩ :: rest) scope pos) (some (.Name y py)) spos.line X.env = pure true) :
    PS X (.Assign [.Name y py] (.DictComp kx vx (⟨tg, iter, ifs, 0⟩ :: rest) scope pos) spos) (tAsg (rdD X.K rel (fDc fi g c body (own.map (·.2)) z)) (gName i)) := by
  refine ⟨fun pins s σ H D I ⟨F, G, ρ, acc, ρ', R, hf, k⟩ => ?_⟩
  rw [exec_Assign_Name_used _ _ _ _ hsw]
  refine wpAny_bind (wpAny_standAt (wpAny_bind ?_))
  show wpAny (model X.prog X.w) X.A (do let _ ← comprehension (.DictComp kx vx (⟨tg, iter, ifs, 0⟩ :: rest) scope pos) scope X.env (firstIterPos (⟨tg, iter, ifs, 0⟩ :: rest) pos) newDict false (eval iter X.env) (some (assign (.Name y py) X.env))) _ _ s
  refine wpAny_bind (thn (dc_core2 (Qf := fun _ s' => SP X pins D .next s') hc hN hi ok hg ht ha eq mono nt mu r0 new his hs I R hf fun T C s' m G' H' o I' sm R' fr ho r hn ff => ?_) fun _ s' hq => wpAny_pure (wpAny_pure hq))
  show wpAny (model X.prog X.w) X.A (assign (.Name y py) X.env (.ref T)) _ _ _
  refine wpAny_assign_Name (store_ok2 (v := V.ref T) I' hN hy (.inl hyl) rfl (fun s2 I2 ⟨a, sb, ha⟩ => ?_) (.inr hyl))
  obtain ⟨q0, q1, q2, q3, q4, q5⟩ := ff
  have neq : C ≠ a := ha.elim (fun w => by rw [w]; exact q1) fun w => fun e => q4 y a w e.symm
  exact ⟨m, hn.sameBut sb neq, fun h3 sb3 => ⟨_, H', I2.turned (t' := s2.toks) (fun b o hb e => (sb3.2 b hb).trans e) q0 q1 q3 q4 q5, k G' H' T o sm R' fr ho r⟩⟩
end
end DL

/-! DL9: the comprehensions' rules. -/
namespace DL
open PySem PySem.Spec PyProof.Rows L2

section
variable {X : Cx} {kx vx tg iter tg1 iter1 : Expr} {ifs ifs1 : List Expr} {scope : Scope} {own : List (Str × Nat)} {pos : Pos} {fi f1 : FL} {g g1 : D → Sls → Option Sls} {c c1 : FT} {is is1 vs1 : List Nat} {fk fv : FE}
theorem cdk_of {e : Expr} {f : FK} (h : PE X e (rdD X.K (relK X.K) f)) : CDK X e f :=
  ⟨_, h, fun F G H σ ρ ds ρ' R hf Q k => ⟨F, G, ρ, ds, ρ', R, hf, fun G' H' a o s R' fr ho ⟨es, e, r⟩ => k G' H' a s R' fr ⟨es, by rw [ho, e], r⟩⟩⟩
theorem cdt_of {e : Expr} {f : FKT} (h : PE X e (rdD X.K (relT X.K) f)) : CDT X e f :=
  ⟨_, h, fun F G H σ ρ ds ρ' R hf Q k => ⟨F, G, ρ, ds, ρ', R, hf, fun G' H' a o s R' fr ho ⟨es, e, r⟩ => k G' H' a s R' fr ⟨es, by rw [ho, e], r⟩⟩⟩
theorem cdk_dc (hu : X.A.units + 2 < cLine) (hc : X.calm = true) (hN : X.N.Nodup) (hi : CI X tg iter fi) (ok : BlkOk X.N X.env.scope scope own)
    (hg : ∀ (s : Shared) (H : Hp) (C : Addr) (cl : List (Str × Addr)) (fp : List Addr), CG (X.blk s H scope (compEnvC scope cl C X.env) fp) tg is g)
    (ht : ∀ (s : Shared) (H : Hp) (C : Addr) (cl : List (Str × Addr)) (fp : List Addr), CTs (X.blk s H scope (compEnvC scope cl C X.env) fp) ifs c)
    (hk : ∀ (s : Shared) (H : Hp) (C : Addr) (cl : List (Str × Addr)) (fp : List Addr), CE (X.blk s H scope (compEnvC scope cl C X.env) fp) kx fk)
    (hv : ∀ (s : Shared) (H : Hp) (C : Addr) (cl : List (Str × Addr)) (fp : List Addr), CE (X.blk s H scope (compEnvC scope cl C X.env) fp) vx fv)
    (his : ∀ i ∈ is, i ∈ own.map (·.2)) (hs : ∀ x, foldedSetIterable iter X.env x = pure x := by intro _; rfl) :
    CDK X (.DictComp kx vx [⟨tg, iter, ifs, 0⟩] scope pos) (fDc fi g c (bodyK fk fv) (own.map (·.2)) []) :=
  cdk_of (dc_in (act := fun T env => leafAct kx vx T env) (o0 := .dK []) hc hN hi ok hg ht (fun s H C cl fp T => acts_K (Y := X.blk s H scope (compEnvC scope cl C X.env) fp) hu rfl (hk s H C cl fp) (hv s H C cl fp)) (fun _ _ _ => turn_leaf) relK_mono relK_nt trivial
    (fun G => ⟨[], rfl, .nil⟩) (fun H h hb => dk_empty h hb) his hs)
theorem cdt_dc (hu : X.A.units + 2 < cLine) (hc : X.calm = true) (hN : X.N.Nodup) (hi : CI X tg iter fi) (ok : BlkOk X.N X.env.scope scope own)
    (hg : ∀ (s : Shared) (H : Hp) (C : Addr) (cl : List (Str × Addr)) (fp : List Addr), CG (X.blk s H scope (compEnvC scope cl C X.env) fp) tg is g)
    (ht : ∀ (s : Shared) (H : Hp) (C : Addr) (cl : List (Str × Addr)) (fp : List Addr), CTs (X.blk s H scope (compEnvC scope cl C X.env) fp) ifs c)
    (hk : ∀ (s : Shared) (H : Hp) (C : Addr) (cl : List (Str × Addr)) (fp : List Addr), CE (X.blk s H scope (compEnvC scope cl C X.env) fp) kx fk)
    (hv : ∀ (s : Shared) (H : Hp) (C : Addr) (cl : List (Str × Addr)) (fp : List Addr), CE (X.blk s H scope (compEnvC scope cl C X.env) fp) vx fv)
    (his : ∀ i ∈ is, i ∈ own.map (·.2)) (hs : ∀ x, foldedSetIterable iter X.env x = pure x := by intro _; rfl) :
    CDT X (.DictComp kx vx [⟨tg, iter, ifs, 0⟩] scope pos) (fDc fi g c (bodyT fk fv) (own.map (·.2)) []) :=
  cdt_of (dc_in (act := fun T env => leafAct kx vx T env) (o0 := .dT []) hc hN hi ok hg ht (fun s H C cl fp T => acts_T (Y := X.blk s H scope (compEnvC scope cl C X.env) fp) hu rfl (hk s H C cl fp) (hv s H C cl fp)) (fun _ _ _ => turn_leaf) relT_mono relT_nt trivial
    (fun G => ⟨[], rfl, .nil⟩) (fun H h hb => dt_empty h hb) his hs)
theorem cdk_dc2 (hu : X.A.units + 2 < cLine) (hc : X.calm = true) (hN : X.N.Nodup) (hi : CI X tg iter fi) (ok : BlkOk X.N X.env.scope scope own)
    (hg : ∀ (s : Shared) (H : Hp) (C : Addr) (cl : List (Str × Addr)) (fp : List Addr), CG (X.blk s H scope (compEnvC scope cl C X.env) fp) tg is g)
    (ht : ∀ (s : Shared) (H : Hp) (C : Addr) (cl : List (Str × Addr)) (fp : List Addr), CTs (X.blk s H scope (compEnvC scope cl C X.env) fp) ifs c)
    (hi1 : ∀ (s : Shared) (H : Hp) (C : Addr) (cl : List (Str × Addr)) (fp : List Addr), CI (X.blk s H scope (compEnvC scope cl C X.env) fp) tg1 iter1 f1)
    (hg1 : ∀ (s : Shared) (H : Hp) (C : Addr) (cl : List (Str × Addr)) (fp : List Addr), CG (X.blk s H scope (compEnvC scope cl C X.env) fp) tg1 is1 g1)
    (ht1 : ∀ (s : Shared) (H : Hp) (C : Addr) (cl : List (Str × Addr)) (fp : List Addr), CTs (X.blk s H scope (compEnvC scope cl C X.env) fp) ifs1 c1)
    (hk : ∀ (s : Shared) (H : Hp) (C : Addr) (cl : List (Str × Addr)) (fp : List Addr), CE (X.blk s H scope (compEnvC scope cl C X.env) fp) kx fk)
    (hv : ∀ (s : Shared) (H : Hp) (C : Addr) (cl : List (Str × Addr)) (fp : List Addr), CE (X.blk s H scope (compEnvC scope cl C X.env) fp) vx fv)
    (his : ∀ i ∈ is, i ∈ own.map (·.2)) (his1 : ∀ i ∈ is1, i ∈ vs1) (hsub : ∀ i ∈ vs1, i ∈ own.map (·.2)) (hs : ∀ x, foldedSetIterable iter X.env x = pure x := by intro _; rfl) (hs1 : ∀ env x, foldedSetIterable iter1 env x = pure x := by intro _ _; rfl) :
    CDK X (.DictComp kx vx [⟨tg, iter, ifs, 0⟩, ⟨tg1, iter1, ifs1, 0⟩] scope pos) (fDc fi g c (bodyIn f1 g1 c1 (bodyK fk fv) vs1) (own.map (·.2)) []) :=
  cdk_of (dc_in (act := fun T env => innerAct (.DictComp kx vx [⟨tg, iter, ifs, 0⟩, ⟨tg1, iter1, ifs1, 0⟩] scope pos) iter1 T env) (o0 := .dK []) hc hN hi ok hg ht
    (fun s H C cl fp T => acts_in (Y := X.blk s H scope (compEnvC scope cl C X.env) fp) hc rfl (hi1 s H C cl fp) (hg1 s H C cl fp) (ht1 s H C cl fp) (acts_K (Y := X.blk s H scope (compEnvC scope cl C X.env) fp) hu rfl (hk s H C cl fp) (hv s H C cl fp)) his1 hsub relK_mono relK_nt)
    (fun _ _ env => turn_outer (hs1 env)) relK_mono relK_nt trivial (fun G => ⟨[], rfl, .nil⟩) (fun H h hb => dk_empty h hb) his hs)
theorem cs_of_dK {st : Stmt} {i : Nat} {f : FK} (h : PS X st (tAsg (rdD X.K (relK X.K) f) (gName i))) : CS X st (fSetK f i) :=
  ⟨_, h, fun F G H σ ρ o R hf D k => by
    obtain ⟨⟨x, ρ1⟩, h1, h2⟩ := bindE hf
    cases h2
    exact ⟨F, G, ρ, x, ρ1, R, h1, fun G' H' a o s R' fr ho ⟨es, e, r⟩ => k G' H' _ s (R'.setO i (s := .mK x) fr ⟨es, by rw [ho, e], r⟩ (fun _ z => nomatch z))⟩⟩
theorem cs_of_dT {st : Stmt} {i : Nat} {f : FKT} (h : PS X st (tAsg (rdD X.K (relT X.K) f) (gName i))) : CS X st (fSetT f i) :=
  ⟨_, h, fun F G H σ ρ o R hf D k => by
    obtain ⟨⟨x, ρ1⟩, h1, h2⟩ := bindE hf
    cases h2
    exact ⟨F, G, ρ, x, ρ1, R, h1, fun G' H' a o s R' fr ho ⟨es, e, r⟩ => k G' H' _ s (R'.setO i (s := .mT x) fr ⟨es, by rw [ho, e], r⟩ (fun _ z => nomatch z))⟩⟩
theorem cs_dcK {i : Nat} {y : Str} {py spos : Pos} (hu : X.A.units + 2 < cLine) (hc : X.calm = true) (hN : X.N.Nodup) (hy : X.N[i]? = some y) (hyl : X.env.scope.names.lookup y = some .local) (hsw : swapsWith (.DictComp kx vx [⟨tg, iter, ifs, 0⟩] scope pos) (some (.Name y py)) spos.line X.env = pure true) (hi : CI X tg iter fi) (ok : BlkOk X.N X.env.scope scope own)
    (hg : ∀ (s : Shared) (H : Hp) (C : Addr) (cl : List (Str × Addr)) (fp : List Addr), CG (X.blk s H scope (compEnvC scope cl C X.env) fp) tg is g)
    (ht : ∀ (s : Shared) (H : Hp) (C : Addr) (cl : List (Str × Addr)) (fp : List Addr), CTs (X.blk s H scope (compEnvC scope cl C X.env) fp) ifs c)
    (hk : ∀ (s : Shared) (H : Hp) (C : Addr) (cl : List (Str × Addr)) (fp : List Addr), CE (X.blk s H scope (compEnvC scope cl C X.env) fp) kx fk)
    (hv : ∀ (s : Shared) (H : Hp) (C : Addr) (cl : List (Str × Addr)) (fp : List Addr), CE (X.blk s H scope (compEnvC scope cl C X.env) fp) vx fv)
    (his : ∀ i ∈ is, i ∈ own.map (·.2)) (hs : ∀ x, foldedSetIterable iter X.env x = pure x := by intro _; rfl) :
    CS X (.Assign [.Name y py] (.DictComp kx vx [⟨tg, iter, ifs, 0⟩] scope pos) spos) (fSetK (fDc fi g c (bodyK fk fv) (own.map (·.2)) []) i) :=
  cs_of_dK (dc_set (act := fun T env => leafAct kx vx T env) (o0 := .dK []) hc hN hi ok hg ht (fun s H C cl fp T => acts_K (Y := X.blk s H scope (compEnvC scope cl C X.env) fp) hu rfl (hk s H C cl fp) (hv s H C cl fp)) (fun _ _ _ => turn_leaf) relK_mono relK_nt trivial
    (fun G => ⟨[], rfl, .nil⟩) (fun H h hb => dk_empty h hb) his hs hy hyl hsw)
theorem cs_dcT {i : Nat} {y : Str} {py spos : Pos} (hu : X.A.units + 2 < cLine) (hc : X.calm = true) (hN : X.N.Nodup) (hy : X.N[i]? = some y) (hyl : X.env.scope.names.lookup y = some .local) (hsw : swapsWith (.DictComp kx vx [⟨tg, iter, ifs, 0⟩] scope pos) (some (.Name y py)) spos.line X.env = pure true) (hi : CI X tg iter fi) (ok : BlkOk X.N X.env.scope scope own)
    (hg : ∀ (s : Shared) (H : Hp) (C : Addr) (cl : List (Str × Addr)) (fp : List Addr), CG (X.blk s H scope (compEnvC scope cl C X.env) fp) tg is g)
    (ht : ∀ (s : Shared) (H : Hp) (C : Addr) (cl : List (Str × Addr)) (fp : List Addr), CTs (X.blk s H scope (compEnvC scope cl C X.env) fp) ifs c)
    (hk : ∀ (s : Shared) (H : Hp) (C : Addr) (cl : List (Str × Addr)) (fp : List Addr), CE (X.blk s H scope (compEnvC scope cl C X.env) fp) kx fk)
    (hv : ∀ (s : Shared) (H : Hp) (C : Addr) (cl : List (Str × Addr)) (fp : List Addr), CE (X.blk s H scope (compEnvC scope cl C X.env) fp) vx fv)
    (his : ∀ i ∈ is, i ∈ own.map (·.2)) (hs : ∀ x, foldedSetIterable iter X.env x = pure x := by intro _; rfl) :
    CS X (.Assign [.Name y py] (.DictComp kx vx [⟨tg, iter, ifs, 0⟩] scope pos) spos) (fSetT (fDc fi g c (bodyT fk fv) (own.map (·.2)) []) i) :=
  cs_of_dT (dc_set (act := fun T env => leafAct kx vx T env) (o0 := .dT []) hc hN hi ok hg ht (fun s H C cl fp T => acts_T (Y := X.blk s H scope (compEnvC scope cl C X.env) fp) hu rfl (hk s H C cl fp) (hv s H C cl fp)) (fun _ _ _ => turn_leaf) relT_mono relT_nt trivial
    (fun G => ⟨[], rfl, .nil⟩) (fun H h hb => dt_empty h hb) his hs hy hyl hsw)
theorem sw_trueD {kv vv : Expr} {gs : List Comprehension} {sc : Scope} {p py : Pos} {y : Str} {l : Nat} {env : Env} (hk : env.scope.kind = .function) (hy : env.scope.names.lookup y = some .local) (hl : (py.line == p.line) = true)
    (ha : (sc.names.any fun (n, k) => n == y && (k == .local || k == .cell)) = false) : swapsWith (.DictComp kv vv gs sc p) (some (.Name y py)) l env = pure true := by
  have e1 : env.kindOf y = some .local := hy
  have e2 : env.blockKind = .function := by
    unfold Env.blockKind
    rw [hk]
    all_goals rfl
  unfold swapsWith
  simp only [e2, e1, ha, Expr.pos, hl]
  rfl
end

/-! ### [e for .. for ..] -/
def bodyL (f : FE) : List D → Sls → Option (List D × Sls) := fun acc ρ => (f ρ).bind fun y => if acc.length < 1000000 then some (acc ++ [y.1], y.2) else none
theorem lc2_read {K : PySem.W.Frag} {fi f1 : FL} {g g1 : D → Sls → Option Sls} {c c1 : FT} {f : FE} {vs vs1 is is1 : List Nat} (his : ∀ i ∈ is, i ∈ vs) (his1 : ∀ i ∈ is1, i ∈ vs1) (hsub : ∀ i ∈ vs1, i ∈ vs) {F : Bk} {G H : Hp} {σ : L2.St} {ρ ρ' : Sls} {out : List D} (R : SR K F G H σ ρ)
    (hf : fDc fi g c (bodyIn f1 g1 c1 (bodyL f) vs1) vs [] ρ = some (out, ρ')) {Q : VK} (k : ∀ G' H' a, Same G G' → SR K F G' H' σ ρ' → Free F G' H' σ ρ' a → OwnL K G' H' a out → Q (.ref a) H') :
    tLc2 (rdI K fi) (rdG K is g) (rdT K c) (rdI K f1) (rdG K is1 g1) (rdT K c1) (rdE K f) vs vs1 σ H Q := by
  obtain ⟨⟨ds, ρ1⟩, h1, h2⟩ := bindE hf
  refine ⟨F, G, ρ, ds, ρ1, R, h1, fun G1 H1 J s1 r1 ok T hT => ?_⟩
  have g0 : F.G0 T = none := (r1.g0.trans r1.gh).free hT
  have b0 : F.B T = none := r1.bh.free hT
  have hfin := fun v hv s e => itD_no h2 (fun v hv s e => wipeS_no hv e) v hv s e
  refine ⟨fun i m H' => m = ds.length - i ∧ i ≤ ds.length ∧ ∃ G2 ρ2 acc accD, Same G1 G2 ∧ SR K (F.plus T (.lst acc)) G2 H' (wipe σ vs) ρ2 ∧ Rps K G2 acc accD ∧ itD g c (bodyIn f1 g1 c1 (bodyL f) vs1) vs (ds.drop i) accD ρ2 = some (out, ρ'),
    ⟨ds.length, rfl, Nat.zero_le _, G1, wipeS ρ1 vs, [], [], Same.refl _, (r1.watch hT).wipe vs, .nil, h2⟩, ?_⟩
  rintro i m H2 ⟨rfl, hi, G2, ρ2, acc, accD, s2, r2, ma, h3⟩
  obtain ⟨go, stop, yld⟩ := ok G2 H2 s2 r2.gh
  by_cases hlt : i < ds.length
  · rw [List.drop_eq_getElem_cons hlt] at h3
    obtain ⟨ρ3, h4, h5⟩ := bindE h3
    obtain ⟨⟨b, ρ4⟩, h6, h7⟩ := bindE h5
    refine .inr ⟨go i hlt, fun H' => ∃ G2 ρ2 acc accD, Same G1 G2 ∧ SR K (F.plus T (.lst acc)) G2 H' (wipe σ vs) ρ2 ∧ Rps K G2 acc accD ∧ itD g c (bodyIn f1 g1 c1 (bodyL f) vs1) vs (ds.drop (i + 1)) accD ρ2 = some (out, ρ'),
      fun H' hN => ⟨_, by omega, rfl, hlt, hN⟩, fun x H3 hy => ?_⟩
    obtain ⟨G3, gr, m3⟩ := yld i _ x H3 (List.getElem?_eq_getElem hlt) hy
    obtain ⟨s3, r3⟩ := r2.gr gr
    refine ⟨_, G3, ρ2, _, ρ3, r3, m3, h4, fun σ4 w r4 => ⟨(w vs his).trans (wipe_wipe σ vs), _, G3, ρ3, b, ρ4, r4, h6, fun G5 H5 s5 r5 => ?_⟩⟩
    have w4 : wipe σ4 vs = wipe σ vs := (w vs his).trans (wipe_wipe σ vs)
    have s25 := (s2.trans s3).trans s5
    cases b with
    | false =>
      dsimp only
      rw [if_neg (by decide)]
      refine ⟨G5, wipeS ρ4 vs, acc, accD, s25, ?_, ma.mono (s3.trans s5), h7⟩
      rw [← w4]
      exact r5.wipe vs
    | true =>
      dsimp only
      rw [if_pos rfl]
      obtain ⟨⟨accE, ρ5⟩, h8, h9⟩ := bindE h7
      obtain ⟨⟨es, ρ6⟩, h10, h11⟩ := bindE h8
      refine ⟨_, G5, ρ4, es, ρ6, r5, h10, fun G6 H6 J1 s6 r6 ok1 => ?_⟩
      refine ⟨fun j m H' => m = es.length - j ∧ j ≤ es.length ∧ ∃ G2 ρ2 acc accD, Same G6 G2 ∧ SR K (F.plus T (.lst acc)) G2 H' (wipe σ4 vs1) ρ2 ∧ Rps K G2 acc accD ∧ itD g1 c1 (bodyL f) vs1 (es.drop j) accD ρ2 = some (accE, ρ5),
        ⟨es.length, rfl, Nat.zero_le _, G6, wipeS ρ6 vs1, acc, accD, Same.refl _, r6.wipe vs1, ma.mono ((s3.trans s5).trans s6), h11⟩, ?_⟩
      rintro j m1 H7 ⟨rfl, hj, G7, ρ7, acc7, accD7, s7, r7, ma7, h12⟩
      obtain ⟨go1, stop1, yld1⟩ := ok1 G7 H7 s7 r7.gh
      by_cases hlt1 : j < es.length
      · rw [List.drop_eq_getElem_cons hlt1] at h12
        obtain ⟨ρ8, h13, h14⟩ := bindE h12
        obtain ⟨⟨b1, ρ9⟩, h15, h16⟩ := bindE h14
        refine .inr ⟨go1 j hlt1, fun H' => ∃ G2 ρ2 acc accD, Same G6 G2 ∧ SR K (F.plus T (.lst acc)) G2 H' (wipe σ4 vs1) ρ2 ∧ Rps K G2 acc accD ∧ itD g1 c1 (bodyL f) vs1 (es.drop (j + 1)) accD ρ2 = some (accE, ρ5),
          fun H' hN => ⟨_, by omega, rfl, hlt1, hN⟩, fun x1 H8 hy1 => ?_⟩
        obtain ⟨G8, gr1, m8⟩ := yld1 j _ x1 H8 (List.getElem?_eq_getElem hlt1) hy1
        obtain ⟨s8, r8⟩ := r7.gr gr1
        refine ⟨_, G8, ρ7, _, ρ8, r8, m8, h13, fun σ9 w9 r9 => ⟨(w9 vs1 his1).trans (wipe_wipe σ4 vs1), _, G8, ρ8, b1, ρ9, r9, h15, fun G9 H9 s9 r10 => ?_⟩⟩
        have w10 : wipe σ9 vs1 = wipe σ4 vs1 := (w9 vs1 his1).trans (wipe_wipe σ4 vs1)
        cases b1 with
        | false =>
          dsimp only
          rw [if_neg (by decide)]
          refine ⟨G9, wipeS ρ9 vs1, acc7, accD7, (s7.trans s8).trans s9, ?_, ma7.mono (s8.trans s9), h16⟩
          rw [← w10]
          exact r10.wipe vs1
        | true =>
          dsimp only
          rw [if_pos rfl]
          obtain ⟨⟨accF, ρ10⟩, h17, h18⟩ := bindE h16
          obtain ⟨⟨y, ρ11⟩, h19, h20⟩ := bindE h17
          split at h20
          · rename_i hl
            cases h20
            refine ⟨_, G9, ρ9, y, _, r10, h19, fun G11 H11 v s11 r11 m11 => ⟨acc7, r11.watched, ?_, G11, wipeS ρ11 vs1, acc7 ++ [v], accD7 ++ [y], ((s7.trans s8).trans s9).trans s11, ?_, (ma7.mono ((s8.trans s9).trans s11)).app (.cons m11 .nil), h18⟩⟩
            · rw [ma7.len]
              exact lt_line (Nat.lt_succ_of_lt hl)
            · rw [← w10]
              exact (r11.accum (o' := .lst (acc7 ++ [v])) (r11.gnone g0 (fun _ z => nomatch z))).wipe vs1
          · cases h20
      · have e : j = es.length := by omega
        subst e
        rw [List.drop_length] at h12
        cases h12
        refine .inl ⟨stop1, G7, wipeS _ vs, acc7, _, (s25.trans s6).trans s7, ?_, ma7, h9⟩
        have q := r7.wipe vs
        rw [wipe_sub σ4 hsub, w4] at q
        exact q
  · have e : i = ds.length := by omega
    subst e
    rw [List.drop_length] at h3
    cases h3
    have r3 := (r2.unwatch b0).unwipe hfin
    refine .inl ⟨stop, k G2 H2 T (s1.trans s2) r3 ⟨r2.gnone g0 (fun _ z => nomatch z), b0, fun i s a e ow q => ?_⟩ ⟨acc, r2.watched, ma⟩⟩
    by_cases hv : i ∈ vs
    · rw [hfin i hv s e] at ow
      cases ow
    · exact r2.own_watch e ow (by rw [wipe_get hv]; exact q)
theorem cl_lc2 {X : Cx} {elt tg iter tg1 iter1 : Expr} {ifs ifs1 : List Expr} {scope : Scope} {own : List (Str × Nat)} {pos : Pos} {fi f1 : FL} {g g1 : D → Sls → Option Sls} {c c1 : FT} {is is1 vs1 : List Nat} {f : FE}
    (hc : X.calm = true) (hN : X.N.Nodup) (hi : CI X tg iter fi) (ok : BlkOk X.N X.env.scope scope own)
    (hg : ∀ (s : Shared) (H : Hp) (C : Addr) (cl : List (Str × Addr)) (fp : List Addr), CG (X.blk s H scope (compEnvC scope cl C X.env) fp) tg is g)
    (ht : ∀ (s : Shared) (H : Hp) (C : Addr) (cl : List (Str × Addr)) (fp : List Addr), CTs (X.blk s H scope (compEnvC scope cl C X.env) fp) ifs c)
    (hi1 : ∀ (s : Shared) (H : Hp) (C : Addr) (cl : List (Str × Addr)) (fp : List Addr), CI (X.blk s H scope (compEnvC scope cl C X.env) fp) tg1 iter1 f1)
    (hg1 : ∀ (s : Shared) (H : Hp) (C : Addr) (cl : List (Str × Addr)) (fp : List Addr), CG (X.blk s H scope (compEnvC scope cl C X.env) fp) tg1 is1 g1)
    (ht1 : ∀ (s : Shared) (H : Hp) (C : Addr) (cl : List (Str × Addr)) (fp : List Addr), CTs (X.blk s H scope (compEnvC scope cl C X.env) fp) ifs1 c1)
    (he : ∀ (s : Shared) (H : Hp) (C : Addr) (cl : List (Str × Addr)) (fp : List Addr), CE (X.blk s H scope (compEnvC scope cl C X.env) fp) elt f)
    (his : ∀ i ∈ is, i ∈ own.map (·.2)) (his1 : ∀ i ∈ is1, i ∈ vs1) (hsub : ∀ i ∈ vs1, i ∈ own.map (·.2)) (hs : ∀ x, foldedSetIterable iter X.env x = pure x := by intro _; rfl) (hs1 : ∀ env x, foldedSetIterable iter1 env x = pure x := by intro _ _; rfl) :
    CL X (.ListComp elt [⟨tg, iter, ifs, 0⟩, ⟨tg1, iter1, ifs1, 0⟩] scope pos) (fDc fi g c (bodyIn f1 g1 c1 (bodyL f) vs1) (own.map (·.2)) []) :=
  ⟨_, pe_lc2 (g := rdG X.K is g) (tt := rdT X.K c) (wi1 := rdI X.K f1) (g1 := rdG X.K is1 g1) (tt1 := rdT X.K c1) (te := rdE X.K f) hc hN hi.pi ok hsub (fun s H C cl fp => (hg s H C cl fp).pg) (fun s H C cl fp => ht s H C cl fp)
    (fun s H C cl fp => (hi1 s H C cl fp).pi) (fun s H C cl fp => (hg1 s H C cl fp).pg) (fun s H C cl fp => ht1 s H C cl fp) (fun s H C cl fp => (he s H C cl fp).pe) hs hs1, fun F G H σ ρ ds ρ' R hf Q k => lc2_read his his1 hsub R hf k⟩
end DL

/-! DL10: defs: their promises, their calls. -/
namespace DL
open PySem PySem.Spec PyProof.Rows L2

/-- what is frozen behind a call was frozen ahead of it, or is new, or is a tuple -/
def Bnd (G H G' : Hp) : Prop := ∀ a o, G' a = some o → G a ≠ none ∨ H a = none ∨ ∃ xs, o = .tup xs
/-- a def that changes nothing -/
def Pure (K : PySem.W.Frag) (f : List D → Option D) : Sp := fun vs H Q _ => ∃ G ds d, Same G H ∧ Rps K G vs ds ∧ f ds = some d ∧
  ∀ G' H' v, Same G G' → Same G' H' → Same H H' → Bnd G H G' → Rp K G' v d → Q v H'
/-- .. and hands back a new list -/
def PureL (K : PySem.W.Frag) (f : List D → Option (List D)) : Sp := fun vs H Q _ => ∃ G ds out, Same G H ∧ Rps K G vs ds ∧ f ds = some out ∧
  ∀ G' H' p xs, Same G G' → Same G' H' → Same H H' → Bnd G H G' → H p = none → G' p = none → H' p = some (.lst xs) → Rps K G' xs out → Q (.ref p) H'
/-- a def that changes the list that it is handed first -/
def InOut (K : PySem.W.Frag) (f : List D → List D → Option (D × List D)) : Sp := fun vs H Q _ => ∃ G a xs cs vs' ds d cs', vs = .ref a :: vs' ∧ Same G H ∧ G a = none ∧ H a = some (.lst xs) ∧ Rps K G xs cs ∧ Rps K G vs' ds ∧ f cs ds = some (d, cs') ∧
  ∀ G' H' v xs', Same G G' → Same G' H' → (∀ b o, b ≠ a → H b = some o → H' b = some o) → Bnd G H G' → G' a = none → H' a = some (.lst xs') → Rps K G' xs' cs' → Rp K G' v d → Q v H'
def runF (np ex : Nat) (body : FS) : List D → Option D := fun ds => if ds.length = np then (body (ds.map .d ++ List.replicate ex .no)).bind fun o => match o with
  | .rt d _ => some d
  | .nx _ => some .non
  | _ => none
  else none
def runL (np ex : Nat) (body : FS) : List D → Option (List D) := fun ds => if ds.length = np then (body (ds.map .d ++ List.replicate ex .no)).bind fun o => match o with
  | .rl d _ => some d
  | _ => none
  else none
def ioAt (ρ : Sls) (d : D) : Option (D × List D) := match ρ[(0 : Nat)]? with | some (.io cs) => some (d, cs) | _ => none
def runIO (np ex : Nat) (body : FS) : List D → List D → Option (D × List D) := fun cs ds => if ds.length + 1 = np then (body (.io cs :: (ds.map .d ++ List.replicate ex .no))).bind fun o => match o with
  | .rt d ρ => ioAt ρ d
  | .nx ρ => ioAt ρ .non
  | _ => none
  else none
section
variable {K : PySem.W.Frag} {F : Bk} {G H : Hp} {vs : List V} {ds : List D}
theorem start_sl {N : Nat} {ex : Nat} (r : Rps K G vs ds) : ∀ (i : Nat) s, (ds.map Sl.d ++ List.replicate ex .no)[i]? = some s → ∃ x, (vs.map some ++ List.replicate ex none)[i]? = some x ∧ SlR K G H x s := fun i s e => by
  by_cases hi : i < ds.length
  · rw [List.getElem?_append_left (by simpa using hi), List.getElem?_map, List.getElem?_eq_getElem hi] at e
    cases e
    obtain ⟨v, hv, m⟩ := r.get (i := i) (List.getElem?_eq_getElem hi)
    refine ⟨some v, ?_, v, rfl, m⟩
    rw [List.getElem?_append_left (by rw [List.length_map, r.len]; exact hi), List.getElem?_map, hv]
    rfl
  · rw [List.getElem?_append_right (by simpa using hi), List.length_map] at e
    have e2 := List.getElem?_eq_some_iff.mp e
    obtain ⟨h1, h2⟩ := e2
    rw [List.getElem_replicate] at h2
    subst h2
    refine ⟨none, ?_, trivial⟩
    rw [List.getElem?_append_right (by rw [List.length_map, r.len]; omega), List.length_map, r.len]
    rw [List.length_replicate] at h1
    exact List.getElem?_replicate_of_lt h1
theorem noown {ex : Nat} {i : Nat} {s : Sl} (e : (ds.map Sl.d ++ List.replicate ex .no)[i]? = some s) : s.own = false := by
  have hm := List.mem_of_getElem? e
  rcases List.mem_append.mp hm with h | h
  · obtain ⟨d, _, rfl⟩ := List.mem_map.mp h
    rfl
  · rw [(List.mem_replicate.mp h).2]
    rfl
theorem start_SR {ex : Nat} (s : Same G H) (r : Rps K G vs ds) : SR K ⟨H, G, none⟩ G H (vs.map some ++ List.replicate ex none) (ds.map Sl.d ++ List.replicate ex .no) where
  gh := s
  bh := Same.refl _
  g0 := Same.refl _
  gb := fun a o e => .inl (by show G a ≠ none; rw [e]; intro z; cases z)
  len := by simp [r.len]
  sl := start_sl (N := 0) r
  own := fun i s a e o q => by rw [noown e] at o; cases o
  apart := fun i j s t a _ e _ o => by rw [noown e] at o; cases o
  io := fun i xs e => by have := noown e; cases this
theorem start_IO {ex : Nat} {a : Addr} {xs : List V} {cs : List D} (s : Same G H) (n : G a = none) (h : H a = some (.lst xs)) (rc : Rps K G xs cs) (r : Rps K G vs ds) :
    SR K ⟨fun b => if b = a then none else H b, G, some a⟩ G H (some (.ref a) :: (vs.map some ++ List.replicate ex none)) (.io cs :: (ds.map Sl.d ++ List.replicate ex .no)) where
  gh := s
  bh := fun b o e => by
    have e' : (if b = a then none else H b) = some o := e
    split at e'
    · cases e'
    · exact e'
  g0 := Same.refl _
  gb := fun a o e => .inl (by show G a ≠ none; rw [e]; intro z; cases z)
  len := by simp [r.len]
  sl := fun i s e => by
    cases i with
    | zero =>
      cases e
      exact ⟨_, rfl, a, rfl, xs, h, rc⟩
    | succ i => exact start_sl (N := 0) r i s e
  own := fun i s b e o q => by
    cases i with
    | zero =>
      cases e
      cases q
      exact ⟨n, if_pos rfl⟩
    | succ i => rw [noown (ds := ds) (ex := ex) (i := i) e] at o; cases o
  apart := fun i j s t b hij e1 e2 o1 o2 q1 q2 => by
    cases i with
    | succ i => rw [noown (ds := ds) (ex := ex) (i := i) e1] at o1; cases o1
    | zero =>
      cases j with
      | zero => exact hij rfl
      | succ j => rw [noown (ds := ds) (ex := ex) (i := j) e2] at o2; cases o2
  io := fun i ys e => by
    cases i with
    | zero => exact ⟨a, rfl, rfl⟩
    | succ i =>
      have := noown (ds := ds) (ex := ex) (i := i) e
      cases this
theorem start_eq {N : List Str} (h : vs.length ≤ N.length) : L2.start N vs = vs.map some ++ List.replicate (N.length - vs.length) none := by
  first
    | rfl
    | (unfold L2.start; rfl)
    | (unfold L2.start; simp)
end
section
variable {P : Program} {w : World} {K : PySem.W.Frag} {mg : Str → Option Value} {base : Heap} {x qual : Str} {st : Stmt} {f : Addr} {fd : FuncData} {N ps : List Str} {k : Nat} {body : FS}
theorem pure_ok (F : Fun K x qual st f fd) (S : FnScope N ps (defScope st)) (hn : ps.length ≤ N.length)
    (hb : ∀ (cdv : Value) (A : Around) (outer : List Env) (s : Shared) (H : Hp) (E : XK), Room k (A.deeper (envOfC qual (defScope st) s.heap.objs.size f cdv)) → CSs (cxOf CX0 P w K mg base N qual (defScope st) f cdv A outer s H E).nox (defBody st) body) :
    FnOk P w K mg base CX0 (k + 1) f fd ps (Pure K (runF ps.length (N.length - ps.length) body)) := by
  refine F.ok S (fun vs H Q E h => ?_) (fun cdv A outer s H vs Q E hr h => ?_)
  · obtain ⟨G, ds, d, s, r, hf, _⟩ := h
    unfold runF at hf
    split at hf
    · rename_i hl
      rw [r.len, hl]
    · cases hf
  · obtain ⟨G, ds, d, sm, r, hf, k⟩ := h
    unfold runF at hf
    split at hf
    · rename_i hl
      obtain ⟨o, h1, h2⟩ := bindE hf
      obtain ⟨t, p, q⟩ := hb cdv A outer s H E hr
      refine ⟨t, p, ?_⟩
      have hv : vs.length = ps.length := by rw [r.len, hl]
      rw [start_eq (by rw [hv]; exact hn), hv]
      refine q _ G H _ _ o (start_SR sm r) h1 _ ?_
      cases o with
      | rt d' ρ =>
        cases h2
        exact fun G' H' σ' v s' R' m => k G' H' v s' R'.gh R'.bh (fun a o e => R'.gb a o e) m
      | nx ρ =>
        cases h2
        exact fun G' H' σ' s' R' => k G' H' _ s' R'.gh R'.bh (fun a o e => R'.gb a o e) .non
      | _ => cases h2
    · cases hf
theorem pureL_ok (F : Fun K x qual st f fd) (S : FnScope N ps (defScope st)) (hn : ps.length ≤ N.length)
    (hb : ∀ (cdv : Value) (A : Around) (outer : List Env) (s : Shared) (H : Hp) (E : XK), Room k (A.deeper (envOfC qual (defScope st) s.heap.objs.size f cdv)) → CSs (cxOf CX0 P w K mg base N qual (defScope st) f cdv A outer s H E).nox (defBody st) body) :
    FnOk P w K mg base CX0 (k + 1) f fd ps (PureL K (runL ps.length (N.length - ps.length) body)) := by
  refine F.ok S (fun vs H Q E h => ?_) (fun cdv A outer s H vs Q E hr h => ?_)
  · obtain ⟨G, ds, d, s, r, hf, _⟩ := h
    unfold runL at hf
    split at hf
    · rename_i hl
      rw [r.len, hl]
    · cases hf
  · obtain ⟨G, ds, d, sm, r, hf, k⟩ := h
    unfold runL at hf
    split at hf
    · rename_i hl
      obtain ⟨o, h1, h2⟩ := bindE hf
      obtain ⟨t, p, q⟩ := hb cdv A outer s H E hr
      refine ⟨t, p, ?_⟩
      have hv : vs.length = ps.length := by rw [r.len, hl]
      rw [start_eq (by rw [hv]; exact hn), hv]
      refine q _ G H _ _ o (start_SR sm r) h1 _ ?_
      cases o with
      | rl d' ρ =>
        cases h2
        exact fun G' H' σ' v s' R' fr ⟨xs, e1, e2⟩ => k G' H' v xs s' R'.gh R'.bh (fun a o e => R'.gb a o e) fr.2.1 fr.1 e1 e2
      | _ => cases h2
    · cases hf
theorem io_ok (F : Fun K x qual st f fd) (S : FnScope N ps (defScope st)) (hn : ps.length ≤ N.length)
    (hb : ∀ (cdv : Value) (A : Around) (outer : List Env) (s : Shared) (H : Hp) (E : XK), Room k (A.deeper (envOfC qual (defScope st) s.heap.objs.size f cdv)) → CSs (cxOf CX0 P w K mg base N qual (defScope st) f cdv A outer s H E).nox (defBody st) body) :
    FnOk P w K mg base CX0 (k + 1) f fd ps (InOut K (runIO ps.length (N.length - ps.length) body)) := by
  refine F.ok S (fun vs H Q E h => ?_) (fun cdv A outer s H vs Q E hr h => ?_)
  · obtain ⟨G, a, xs, cs, vs', ds, d, cs', rfl, s, n, h1, h2, r, hf, _⟩ := h
    unfold runIO at hf
    split at hf
    · rename_i hl
      rw [List.length_cons, r.len, hl]
    · cases hf
  · obtain ⟨G, a, xs, cs, vs', ds, d, cs', rfl, sm, n, ha, hc, r, hf, k⟩ := h
    unfold runIO at hf
    split at hf
    · rename_i hl
      obtain ⟨o, h1, h2⟩ := bindE hf
      obtain ⟨t, p, q⟩ := hb cdv A outer s H E hr
      refine ⟨t, p, ?_⟩
      have hv : (V.ref a :: vs').length = ps.length := by rw [List.length_cons, r.len, hl]
      rw [start_eq (by rw [hv]; exact hn), hv]
      refine q _ G H _ _ o (start_IO sm n ha hc r) h1 _ ?_
      have fin : ∀ {ρ : Sls} {d1 : D}, ioAt ρ d1 = some (d, cs') → ∀ G' H' σ' v, Same G G' → SR K ⟨fun b => if b = a then none else H b, G, some a⟩ G' H' σ' ρ → Rp K G' v d1 → Q v H' := fun {ρ d1} hio G' H' σ' v s' R' m => by
        unfold ioAt at hio
        split at hio
        · rename_i cs2 e0
          cases hio
          obtain ⟨b, hb, hs⟩ := R'.io 0 _ e0
          cases hb
          obtain ⟨y, h3, b2, rfl, xs', h4, h5⟩ := R'.sl 0 _ e0
          rw [hs] at h3
          cases h3
          refine k G' H' v xs' s' R'.gh (fun b o hb e => R'.bh b o (by show (if b = a then none else H b) = some o; rw [if_neg hb]; exact e)) (fun b o e => ?_) (R'.own 0 _ a e0 rfl hs).1 h4 h5 m
          rcases R'.gb b o e with z | z | z
          · exact .inl z
          · have z' : (if b = a then none else H b) = none := z
            by_cases hb : b = a
            · subst hb
              have := (R'.own 0 _ b e0 rfl hs).1
              rw [this] at e
              cases e
            · rw [if_neg hb] at z'
              exact .inr (.inl z')
          · exact .inr (.inr z)
        · cases hio
      cases o with
      | rt d' ρ => exact fun G' H' σ' v s' R' m => fin h2 G' H' σ' v s' R' m
      | nx ρ => exact fun G' H' σ' s' R' => fin h2 G' H' σ' _ s' R' .non
      | _ => cases h2
    · cases hf
end

/-! ### calls -/
section
variable {X : Cx} {e : Expr} {es : List Expr} {fa : FL}
theorem SR.behind {K : PySem.W.Frag} {F : Bk} {G H G' H' : Hp} {σ : L2.St} {ρ : Sls} (R : SR K F G H σ ρ) (s1 : Same G G') (s2 : Same G' H') (s3 : Same H H') (b : Bnd G H G') : SR K F G' H' σ ρ :=
  R.grow s1 s2 (R.bh.trans s3) (fun a o e n => (b a o e).resolve_left fun z => z n) fun i s a e o q => by
    obtain ⟨x, h1, h2⟩ := R.sl i s e
    rw [q] at h1
    cases h1
    obtain ⟨b, e1, h3⟩ := h2.own_of o
    cases e1
    obtain ⟨u, hu⟩ := h3.some
    rw [hu]
    exact s3 _ _ hu
def fCall (f : List D → Option D) (fa : FL) : FE := fun ρ => (fa ρ).bind fun r => (f r.1).bind fun d => some (d, r.2)
theorem ce_call {f : List D → Option D} (hp : ∀ {ta : TA}, PA X es ta → PE X e (tCall (Pure X.K f) [] E0 ta)) (ha : CA X es fa) : CE X e (fCall f fa) := by
  obtain ⟨t, p, q⟩ := ha
  refine ⟨_, hp p, fun F G H σ ρ d ρ' R hf Q k => ?_⟩
  obtain ⟨⟨ds, ρ1⟩, h1, h2⟩ := bindE hf
  obtain ⟨z, h3, h4⟩ := bindE h2
  cases h4
  refine q F G H σ ρ ds _ R h1 _ fun G1 H1 vs s1 r1 m1 => ?_
  rw [List.append_nil]
  exact ⟨G1, ds, _, r1.gh, m1, h3, fun G' H' v a b c bd m => k G' H' v (s1.trans a) (r1.behind a b c bd) m⟩
def fCallL (f : List D → Option (List D)) (fa : FL) : FL := fun ρ => (fa ρ).bind fun r => (f r.1).bind fun d => some (d, r.2)
theorem cl_call {f : List D → Option (List D)} (hp : ∀ {ta : TA}, PA X es ta → PE X e (tCall (PureL X.K f) [] E0 ta)) (ha : CA X es fa) : CL X e (fCallL f fa) := by
  obtain ⟨t, p, q⟩ := ha
  refine ⟨_, hp p, fun F G H σ ρ d ρ' R hf Q k => ?_⟩
  obtain ⟨⟨ds, ρ1⟩, h1, h2⟩ := bindE hf
  obtain ⟨z, h3, h4⟩ := bindE h2
  cases h4
  refine q F G H σ ρ ds _ R h1 _ fun G1 H1 vs s1 r1 m1 => ?_
  rw [List.append_nil]
  refine ⟨G1, ds, _, r1.gh, m1, h3, fun G' H' p xs a b c bd n1 n2 hx m => ?_⟩
  exact k G' H' p (s1.trans a) (r1.behind a b c bd) ⟨n2, r1.noB n1, fun i s b e o q => r1.own_ne n1 e o q⟩ ⟨xs, hx, m⟩
/-- f(c, ..): the name c's own list is changed -/
def fCallIO (f : List D → List D → Option (D × List D)) (i : Nat) (fa : FL) : FE := fun ρ => match ρ[i]? with
  | some (.ml _) => (fa ρ).bind fun r => match r.2[i]? with
    | some (.ml cs) => (f cs r.1).bind fun q => some (q.1, r.2.set i (.ml q.2))
    | _ => none
  | some (.io _) => (fa ρ).bind fun r => match r.2[i]? with
    | some (.io cs) => (f cs r.1).bind fun q => some (q.1, r.2.set i (.io q.2))
    | _ => none
  | _ => none
theorem SR.changed {K : PySem.W.Frag} {F : Bk} {G H G' H' : Hp} {σ : L2.St} {ρ : Sls} {i : Nat} {s t : Sl} {a : Addr} {xs' : List V} (R : SR K F G H σ ρ) (e : ρ[i]? = some s) (o : s.own = true) (q : σ[i]? = some (some (.ref a))) (s1 : Same G G') (s2 : Same G' H')
    (s3 : ∀ b u, b ≠ a → H b = some u → H' b = some u) (bd : Bnd G H G') (n : G' a = none) (hx : H' a = some (.lst xs')) (m : OwnAt K G' H' a t) (hio : ∀ xs, t = .io xs → ∃ ys, s = .io ys) : SR K F G' H' σ (ρ.set i t) := by
  obtain ⟨x, h1, h2⟩ := R.sl i s e
  rw [q] at h1
  cases h1
  obtain ⟨a', e1, h3⟩ := h2.own_of o
  cases e1
  obtain ⟨u0, hu0⟩ := h3.some
  have R1 : SR K F G' (upd H' a u0) σ ρ := R.grow s1 (fun b u h => by
      rw [upd_ne (fun z => by rw [z, n] at h; cases h)]
      exact s2 _ _ h) (fun b u h => by
      rw [upd_ne (fun z => by rw [z, (R.own i s a e o q).2] at h; cases h)]
      exact s3 b u (fun z => by rw [z, (R.own i s a e o q).2] at h; cases h) (R.bh _ _ h)) (fun b u h k => (bd b u h).resolve_left fun z => z k) fun j t' b e' o' q' => by
      by_cases hb : b = a
      · subst hb
        rw [upd_same, hu0]
      · rw [upd_ne hb]
        obtain ⟨x, g1, g2⟩ := R.sl j t' e'
        rw [q'] at g1
        cases g1
        obtain ⟨b', e1, g3⟩ := g2.own_of o'
        cases e1
        obtain ⟨u, hu⟩ := g3.some
        rw [hu]
        exact s3 _ _ hb hu
  have eH : upd (upd H' a u0) a (.lst xs') = H' := by rw [upd_upd]; exact upd_self hx
  have R2 := R1.chg (t := t) (u := .lst xs') e o q (by rw [eH]; exact m) hio
  rw [eH] at R2
  exact R2
theorem ce_callIO {nm : Expr} {i : Nat} {f : List D → List D → Option (D × List D)} (hp : ∀ {ta : TA}, PA X (nm :: es) ta → PE X e (tCall (InOut X.K f) [] E0 ta)) (hn : PE X nm (tVar i)) (ha : CA X es fa)
    (hs : starEach (nm :: es) X.env = (false, eval nm X.env) :: starEach es X.env := by rfl) : CE X e (fCallIO f i fa) := by
  obtain ⟨t, p, q⟩ := ha
  refine ⟨_, hp (pa_cons hn p hs), fun F G H σ ρ d ρ' R hf Q k => ?_⟩
  unfold fCallIO at hf
  split at hf
  · rename_i xs0 e0
    obtain ⟨⟨ds, ρ1⟩, h1, h2⟩ := bindE hf
    dsimp only at h2
    split at h2
    · rename_i cs e1
      obtain ⟨⟨z, cs'⟩, h3, h4⟩ := bindE h2
      cases h4
      obtain ⟨y0, g1, a0, rfl, _⟩ := R.sl i _ e0
      refine ⟨_, g1, q F G H σ ρ ds ρ1 R h1 _ fun G1 H1 vs s1 r1 m1 => ?_⟩
      obtain ⟨y1, g2, a1, rfl, xs, hx, rx⟩ := r1.sl i _ e1
      rw [g1] at g2
      cases g2
      obtain ⟨n1, n2⟩ := r1.own i _ _ e1 rfl g1
      refine ⟨G1, a0, xs, cs, vs, ds, _, cs', by rw [List.append_nil], r1.gh, n1, hx, rx, m1, h3, fun G' H' v xs' a b c bd n hx' rx' m => ?_⟩
      exact k G' H' v (s1.trans a) (r1.changed e1 rfl g1 a b c bd n hx' (t := .ml cs') ⟨xs', hx', rx'⟩ (fun _ z => nomatch z)) m
    · cases h2
  · rename_i xs0 e0
    obtain ⟨⟨ds, ρ1⟩, h1, h2⟩ := bindE hf
    dsimp only at h2
    split at h2
    · rename_i cs e1
      obtain ⟨⟨z, cs'⟩, h3, h4⟩ := bindE h2
      cases h4
      obtain ⟨y0, g1, a0, rfl, _⟩ := R.sl i _ e0
      refine ⟨_, g1, q F G H σ ρ ds ρ1 R h1 _ fun G1 H1 vs s1 r1 m1 => ?_⟩
      obtain ⟨y1, g2, a1, rfl, xs, hx, rx⟩ := r1.sl i _ e1
      rw [g1] at g2
      cases g2
      obtain ⟨n1, n2⟩ := r1.own i _ _ e1 rfl g1
      refine ⟨G1, a0, xs, cs, vs, ds, _, cs', by rw [List.append_nil], r1.gh, n1, hx, rx, m1, h3, fun G' H' v xs' a b c bd n hx' rx' m => ?_⟩
      exact k G' H' v (s1.trans a) (r1.changed e1 rfl g1 a b c bd n hx' (t := .io cs') ⟨xs', hx', rx'⟩ (fun _ z => ⟨_, rfl⟩)) m
    · cases h2
  · cases hf
end
end DL

/-! DL11: built-ins, methods, stores. -/
namespace DL
open PySem PySem.Spec PyProof.Rows L2

section
variable {X : Cx} {e a b o : Expr} {st : Stmt} {pos : Pos} {fa fb fc : FE}
/-! ### built-ins of one argument that is looked at -/
def BltV (X : Cx) (f : Value) (g : D → Option D) : Prop :=
  ∃ r, CallR X f r ∧ ∀ G H x d z, Same G H → Rv X.K G H x d → g d = some z → ∀ Q : VK, (∀ G' H' v, Gr G H G' H' → Rp X.K G' v z → Q v H') → r [x] H Q
def fApp (g : D → Option D) (fa : FE) : FE := fun ρ => (fa ρ).bind fun r => (g r.1).bind fun z => some (z, r.2)
theorem ce_blt {f : Value} {g : D → Option D} (hb : BltV X f g) (hp : ∀ {r ta}, CallR X f r → PA X [a] ta → PE X e (tCB r ta)) (ha : CV X a fa) (hs : starEach [a] X.env = (false, eval a X.env) :: starEach [] X.env := by rfl) : CE X e (fApp g fa) := by
  obtain ⟨r, h1, hr⟩ := hb
  obtain ⟨t, p, q⟩ := ha
  refine ⟨_, hp h1 (pa_cons p pa_nil hs), fun F G H σ ρ d ρ' R hf Q k => ?_⟩
  obtain ⟨⟨x, ρ1⟩, h2, h3⟩ := bindE hf
  obtain ⟨z, h4, h5⟩ := bindE h3
  cases h5
  refine q F G H σ ρ x _ R h2 _ fun G1 H1 v s1 r1 m1 => ?_
  refine hr G1 H1 v x _ r1.gh m1 h4 Q fun G' H' w gr m => ?_
  obtain ⟨s2, r2⟩ := r1.gr gr
  exact k G' H' w (s1.trans s2) r2 m
def lenD : D → Option D
  | .str x => if x.length ≤ 1000000 then some (.int (x.length : Nat)) else none
  | .lst ds => some (.int (ds.length : Nat))
  | .tup ds => some (.int (ds.length : Nat))
  | _ => none
theorem blt_len : BltV X (.builtin "len") lenD := by
  refine ⟨_, call_len, fun G H x d z s hx hg Q k => ?_⟩
  unfold lenD at hg
  split at hg
  · split at hg
    · rename_i hl
      cases hg
      exact ⟨x, _, rfl, by rw [hx.str]; exact ⟨le_line hl, rfl⟩, k _ _ _ Gr.same (.int _)⟩
    · cases hg
  · cases hg
    obtain ⟨p, vs, rfl, h1, h2⟩ := hx.lst s
    exact ⟨_, vs.length, rfl, .inl ⟨vs, SqL.of h1, rfl⟩, by rw [h2.len]; exact k _ _ _ Gr.same (.int _)⟩
  · cases hg
    obtain ⟨p, vs, rfl, h1, h2⟩ := hx.tup
    exact ⟨_, vs.length, rfl, .inr ⟨vs, SqT.of (s _ _ h1), rfl⟩, by rw [h2.len]; exact k _ _ _ Gr.same (.int _)⟩
  · cases hg
def intD : D → Option D
  | .int i => some (.int i)
  | .bl b => some (.int (if b = true then 1 else 0))
  | _ => none
theorem blt_int : BltV X (.type "int") intD := by
  refine ⟨_, call_int1, fun G H x d z s hx hg Q k => ?_⟩
  unfold intD at hg
  split at hg
  · cases hg
    rw [hx.int]
    exact .inl ⟨_, rfl, k _ _ _ Gr.same (.int _)⟩
  · cases hg
    rw [hx.bl]
    exact .inr ⟨_, rfl, k _ _ _ Gr.same (.int _)⟩
  · cases hg
def blsD : List D → Option (List Bool)
  | [] => some []
  | .bl b :: ds => (blsD ds).bind fun bs => some (b :: bs)
  | _ => none
theorem bls_eq : ∀ {ds : List D} {bs : List Bool}, blsD ds = some bs → ds = bs.map .bl
  | [], bs, h => by
    cases h
    rfl
  | d :: ds, bs, h => by
    cases d with
    | bl b =>
      obtain ⟨cs, h1, h2⟩ := bindE h
      cases h2
      rw [bls_eq h1]
      rfl
    | _ => cases h
def anyD : D → Option D
  | .lst ds => (blsD ds).map fun bs => .bl (bs.any id)
  | _ => none
def allD : D → Option D
  | .lst ds => (blsD ds).map fun bs => .bl (bs.all id)
  | _ => none
theorem blt_any (hc : X.calm = true) : BltV X (.builtin "any") anyD := by
  refine ⟨_, cr_any hc, fun G H x d z s hx hg Q k => ?_⟩
  unfold anyD at hg
  split at hg
  · obtain ⟨bs, h1, rfl⟩ := Option.map_eq_some_iff.mp hg
    rw [bls_eq h1] at hx
    obtain ⟨p, vs, rfl, h2, h3⟩ := hx.lst s
    rw [h3.bls] at h2
    exact ⟨p, bs, rfl, SqL.of h2, k _ _ _ Gr.same (.bl _)⟩
  · cases hg
theorem blt_all (hc : X.calm = true) : BltV X (.builtin "all") allD := by
  refine ⟨_, cr_all hc, fun G H x d z s hx hg Q k => ?_⟩
  unfold allD at hg
  split at hg
  · obtain ⟨bs, h1, rfl⟩ := Option.map_eq_some_iff.mp hg
    rw [bls_eq h1] at hx
    obtain ⟨p, vs, rfl, h2, h3⟩ := hx.lst s
    rw [h3.bls] at h2
    exact ⟨p, bs, rfl, SqL.of h2, k _ _ _ Gr.same (.bl _)⟩
  · cases hg
def tupleD : D → Option D
  | .lst ds => some (.tup ds)
  | .tup ds => some (.tup ds)
  | _ => none
theorem blt_tuple : BltV X (.type "tuple") tupleD := by
  refine ⟨_, call_tuple_of, fun G H x d z s hx hg Q k => ?_⟩
  unfold tupleD at hg
  split at hg
  · cases hg
    obtain ⟨p, vs, rfl, h1, h2⟩ := hx.lst s
    refine ⟨p, vs, rfl, .inl ⟨SqL.of h1, fun l hl => ?_⟩⟩
    exact k _ _ _ (.inr (.inl ⟨l, _, hl, rfl, rfl⟩)) (.tup upd_same (h2.mono (Same.new (s.free hl))))
  · cases hg
    obtain ⟨p, vs, rfl, h1, h2⟩ := hx.tup
    exact ⟨p, vs, rfl, .inr ⟨SqT.of (s _ _ h1), k _ _ _ Gr.same (.tup h1 h2)⟩⟩
  · cases hg
/-! ### .. that hand back a new list -/
def BltL (X : Cx) (f : Value) (g : D → Option (List D)) : Prop :=
  ∃ r, CallR X f r ∧ ∀ G H x d out, Same G H → Rv X.K G H x d → g d = some out → ∀ Q : VK, (∀ G' p vs, Same G G' → (G' = G ∨ ∀ a o, G' a = some o → G a = none → ∃ xs, o = .tup xs) → Same G' H → H p = none → Rps X.K G' vs out → Q (.ref p) (upd H p (.lst vs))) → r [x] H Q
def fAppL (g : D → Option (List D)) (fa : FE) : FL := fun ρ => (fa ρ).bind fun r => (g r.1).bind fun z => some (z, r.2)
theorem cl_blt {f : Value} {g : D → Option (List D)} (hb : BltL X f g) (hp : ∀ {r ta}, CallR X f r → PA X [a] ta → PE X e (tCB r ta)) (ha : CV X a fa) (hs : starEach [a] X.env = (false, eval a X.env) :: starEach [] X.env := by rfl) : CL X e (fAppL g fa) := by
  obtain ⟨r, h1, hr⟩ := hb
  obtain ⟨t, p, q⟩ := ha
  refine ⟨_, hp h1 (pa_cons p pa_nil hs), fun F G H σ ρ d ρ' R hf Q k => ?_⟩
  obtain ⟨⟨x, ρ1⟩, h2, h3⟩ := bindE hf
  obtain ⟨z, h4, h5⟩ := bindE h3
  cases h5
  refine q F G H σ ρ x _ R h2 _ fun G1 H1 v s1 r1 m1 => ?_
  refine hr G1 H1 v x _ r1.gh m1 h4 Q fun G' l vs s2 hb s3 n m => ?_
  have r2 : SR X.K F G' H1 σ ρ1 := r1.grow s2 s3 r1.bh (fun a o e n => by
    rcases hb with rfl | hb
    · rw [n] at e
      cases e
    · exact .inr (hb a o e n)) (fun _ _ _ _ _ _ => rfl)
  exact k G' _ l (s1.trans s2) (r2.newU n) (r2.free n) ⟨vs, upd_same, m⟩
def listD : D → Option (List D)
  | .lst ds => some ds
  | .tup ds => some ds
  | .dk kvs => some (kvs.map fun p => kD p.1)
  | _ => none
theorem callR_or {f : Value} {r r' : List V → Hp → VK → Prop} (h : CallR X f r) (h' : CallR X f r') : CallR X f (fun xs H Q => r xs H Q ∨ r' xs H Q) := by
  intro pins s σ H xs us Q I rs q
  rcases q with q | q
  · exact h pins s σ H xs us Q I rs q
  · exact h' pins s σ H xs us Q I rs q
theorem RpK.keys {K : PySem.W.Frag} {G : Hp} : ∀ {es : List (Key × V)} {kvs : List (Key × D)}, RpK K G es kvs → Rps K G (es.map fun p => kV p.1) (kvs.map fun p => kD p.1)
  | _, _, .nil => .nil
  | _, _, .cons h t => .cons (Rp.kV _) (RpK.keys t)
/-- list(..) of a list, a tuple, a dict of one's own -/
theorem blt_list (hc : X.calm = true) :
    BltL X (.type "list") (fun d => match d with | .dk _ => none | d => listD d) := by
  refine ⟨_, call_list_of, fun G H x d z s hx hg Q k => ?_⟩
  cases d with
  | lst ds =>
    cases hg
    obtain ⟨p, vs, rfl, h1, h2⟩ := hx.lst s
    exact ⟨p, vs, rfl, .inl (SqL.of h1), fun l hl => k G l vs (Same.refl _) (.inl rfl) s hl h2⟩
  | tup ds =>
    cases hg
    obtain ⟨p, vs, rfl, h1, h2⟩ := hx.tup
    exact ⟨p, vs, rfl, .inr (SqT.of (s _ _ h1)), fun l hl => k G l vs (Same.refl _) (.inl rfl) s hl h2⟩
  | _ => cases hg
/-- list(d), d a name's own dict -/
def fListK (i : Nat) : FL := fun ρ => match ρ[i]? with | some (.mK kvs) => some (kvs.map fun p => kD p.1, ρ) | _ => none
theorem cl_listK {i : Nat} (hc : X.calm = true) (hp : ∀ {r ta}, CallR X (.type "list") r → PA X [a] ta → PE X e (tCB r ta)) (ha : PE X a (tVar i)) (hs : starEach [a] X.env = (false, eval a X.env) :: starEach [] X.env := by rfl) : CL X e (fListK i) := by
  refine ⟨_, hp (call_list_dK hc) (pa_cons ha pa_nil hs), fun F G H σ ρ d ρ' R hf Q k => ?_⟩
  unfold fListK at hf
  split at hf
  · rename_i kvs e0
    cases hf
    obtain ⟨y, g1, p, rfl, es, h1, h2⟩ := R.sl i _ e0
    exact ⟨_, g1, p, es, rfl, h1, fun l hl => k G _ l (Same.refl _) (R.newU hl) (R.free hl) ⟨_, upd_same, h2.keys⟩⟩
  · cases hf
/-! ### two ints -/
def max2D : List D → Option D
  | [.int i, .int j] => some (.int (if j > i then j else i))
  | _ => none
theorem ce_max2 {f : FL} (hc : X.calm = true) (hp : ∀ {r ta}, CallR X (.builtin "max") r → PA X [a, b] ta → PE X e (tCB r ta)) (ha : CA X [a, b] f) : CE X e (fCall max2D f) := by
  obtain ⟨t, p, q⟩ := ha
  refine ⟨_, hp (call_max2 hc) p, fun F G H σ ρ d ρ' R hf Q k => ?_⟩
  obtain ⟨⟨ds, ρ1⟩, h1, h2⟩ := bindE hf
  obtain ⟨z, h3, h4⟩ := bindE h2
  cases h4
  refine q F G H σ ρ ds _ R h1 _ fun G1 H1 vs s1 r1 m1 => ?_
  dsimp only at h3
  unfold max2D at h3
  split at h3
  · cases h3
    cases m1 with
    | cons m t =>
      cases t with
      | cons m2 t =>
        cases t
        cases m
        cases m2
        exact ⟨_, _, rfl, k G1 H1 _ s1 r1 (.int _)⟩
  · cases h3
/-! ### sep.join(list of texts) -/
def strsD : List D → Option (List Str)
  | [] => some []
  | .str x :: ds => (strsD ds).bind fun xs => some (x :: xs)
  | _ => none
theorem strs_eq : ∀ {ds : List D} {xs : List Str}, strsD ds = some xs → ds = xs.map .str
  | [], bs, h => by
    cases h
    rfl
  | d :: ds, bs, h => by
    cases d with
    | str b =>
      obtain ⟨cs, h1, h2⟩ := bindE h
      cases h2
      rw [strs_eq h1]
      rfl
    | _ => cases h
def joinD : D → D → Option D
  | .str x, .lst ds => (strsD ds).bind fun ys => if (ys.map (·.length)).sum + ys.length * x.length ≤ 1000000 then some (.str (Txt.join x ys)) else none
  | _, _ => none
theorem ce_join {apos : Pos} (ho : CE X o fa) (he : CV X a fb) (hs : starEach [a] X.env = [(false, eval a X.env)] := by rfl) (hbase : attributeBase o "join" X.env (eval o X.env) = eval o X.env := by rfl) (hline : (apos.endLine == pos.line) = true := by rfl) :
    CE X (.Call (.Attribute o "join" apos) [a] [] pos) (fBin joinD fa fb) := by
  obtain ⟨t, p, q⟩ := ho
  obtain ⟨t2, p2, q2⟩ := he
  refine ⟨_, pe_join p p2 hs hbase hline, fun F G H σ ρ d ρ' R hf Q k => ?_⟩
  obtain ⟨⟨x, ρ1⟩, h1, h2⟩ := bindE hf
  obtain ⟨⟨y, ρ2⟩, h3, h4⟩ := bindE h2
  obtain ⟨z, h5, h6⟩ := bindE h4
  cases h6
  dsimp only at h5
  unfold joinD at h5
  split at h5
  · obtain ⟨ys, h7, h8⟩ := bindE h5
    split at h8
    · rename_i hl
      cases h8
      refine q F G H σ ρ _ ρ1 R h1 _ fun G1 H1 v s1 r1 m1 => ⟨⟨_, (Rv.of (H := H1) m1).str⟩, q2 F G1 H1 σ ρ1 _ ρ2 r1 h3 _ fun G2 H2 u s2 r2 m2 => ?_⟩
      rw [strs_eq h7] at m2
      obtain ⟨l, vs, rfl, h9, h10⟩ := m2.lst r2.gh
      rw [h10.strs] at h9
      exact ⟨_, l, ys, (Rv.of (H := H1) m1).str, rfl, .inl (SqL.of h9), Nat.le_trans hl (by decide), k G2 H2 _ (s1.trans s2) r2 (.str _)⟩
    · cases h8
  · cases h5

/-! ### lists of one's own -/
def fApd (i : Nat) (fa : FE) : FS := fun ρ => (ρ[i]?.bind Sl.view).bind fun _ => (fa ρ).bind fun r => match r.2[i]? with
  | some (.ml xs) => if xs.length < 1000000 then some (.nx (r.2.set i (.ml (xs ++ [r.1])))) else none
  | some (.io xs) => if xs.length < 1000000 then some (.nx (r.2.set i (.io (xs ++ [r.1])))) else none
  | _ => none
theorem ownL_ty {K : PySem.W.Frag} {F : Bk} {G H : Hp} {σ : L2.St} {ρ : Sls} (R : SR K F G H σ ρ) {i : Nat} {s : Sl} (e : ρ[i]? = some s) (h : ∃ xs, s = .ml xs ∨ s = .io xs) : ∃ p vs, σ[i]? = some (some (.ref p)) ∧ H p = some (.lst vs) := by
  obtain ⟨y, g1, h2⟩ := R.sl i s e
  obtain ⟨xs, rfl | rfl⟩ := h
  · obtain ⟨p, rfl, vs, h3, _⟩ := h2
    exact ⟨p, vs, g1, h3⟩
  · obtain ⟨p, rfl, vs, h3, _⟩ := h2
    exact ⟨p, vs, g1, h3⟩
/-- a list at its name ahead of the argument: ml or io there, too -/
def isOwnL (ρ : Sls) (i : Nat) : Bool := match ρ[i]? with | some (.ml _) => true | some (.io _) => true | _ => false
theorem isOwnL_ex {ρ : Sls} {i : Nat} (h : isOwnL ρ i = true) : ∃ s, ρ[i]? = some s ∧ ∃ xs, s = .ml xs ∨ s = .io xs := by
  unfold isOwnL at h
  split at h
  · rename_i xs e
    exact ⟨_, e, xs, .inl rfl⟩
  · rename_i xs e
    exact ⟨_, e, xs, .inr rfl⟩
  · cases h
def fAppend (i : Nat) (fa : FE) : FS := fun ρ => if isOwnL ρ i = true then fApd i fa ρ else none
theorem cs_append {i : Nat} (hp : ∀ {te : TE}, PE X a te → PS X st (tDrop (tBM X.K "list" rAppend (tVar i) (tCons te tNil)))) (ha : CE X a fa) : CS X st (fAppend i fa) := by
  obtain ⟨t, p, q⟩ := ha
  refine ⟨_, hp p, fun F G H σ ρ o R hf D k => ?_⟩
  unfold fAppend at hf
  split at hf
  · rename_i how
    obtain ⟨s0, e0, hs0⟩ := isOwnL_ex how
    obtain ⟨p0, vs0, g0, h0⟩ := ownL_ty R e0 hs0
    obtain ⟨_, _, h2⟩ := bindE hf
    obtain ⟨⟨x, ρ1⟩, h1, h3⟩ := bindE h2
    refine ⟨_, g0, .inl ⟨rfl, vs0, SqL.of h0⟩, q F G H σ ρ x ρ1 R h1 _ fun G1 H1 v s1 r1 m1 => ?_⟩
    dsimp only at h3
    split at h3
    · rename_i xs e1
      split at h3
      · rename_i hl
        cases h3
        obtain ⟨y, g1, p1, rfl, vs, h4, h5⟩ := r1.sl i _ e1
        rw [g0] at g1
        cases g1
        refine ⟨p0, vs, v, rfl, rfl, h4, by rw [h5.len]; exact lt_line (Nat.lt_succ_of_lt hl), ?_⟩
        exact k G1 _ σ s1 (r1.chg (t := .ml (xs ++ [x])) e1 rfl g0 ⟨_, upd_same, h5.app (.cons m1 .nil)⟩ (fun _ z => nomatch z))
      · cases h3
    · rename_i xs e1
      split at h3
      · rename_i hl
        cases h3
        obtain ⟨y, g1, p1, rfl, vs, h4, h5⟩ := r1.sl i _ e1
        rw [g0] at g1
        cases g1
        refine ⟨p0, vs, v, rfl, rfl, h4, by rw [h5.len]; exact lt_line (Nat.lt_succ_of_lt hl), ?_⟩
        exact k G1 _ σ s1 (r1.chg (t := .io (xs ++ [x])) e1 rfl g0 ⟨_, upd_same, h5.app (.cons m1 .nil)⟩ (fun _ _ => ⟨_, rfl⟩))
      · cases h3
    · cases h3
  · cases hf
/-- xs.pop() -/
def fPop (i : Nat) : FE := fun ρ => match ρ[i]? with
  | some (.ml xs) => (xs[xs.length - 1]?).bind fun d => some (d, ρ.set i (.ml xs.dropLast))
  | _ => none
theorem Rps.dropLast {K : PySem.W.Frag} {G : Hp} {vs : List V} {ds : List D} (h : Rps K G vs ds) : Rps K G vs.dropLast ds.dropLast := by
  rw [List.dropLast_eq_take, List.dropLast_eq_take, h.len]
  exact h.take _
theorem ce_pop {i : Nat} (hp : PE X e (tBM0 X.K "list" rPop (tVar i))) : CE X e (fPop i) := by
  refine ⟨_, hp, fun F G H σ ρ d ρ' R hf Q k => ?_⟩
  unfold fPop at hf
  split at hf
  · rename_i xs e0
    obtain ⟨y, h1, h2⟩ := bindE hf
    cases h2
    obtain ⟨y, g1, p, rfl, vs, h3, h4⟩ := R.sl i _ e0
    obtain ⟨v, hv, m⟩ := h4.get h1
    refine ⟨_, g1, .inl ⟨rfl, vs, SqL.of h3⟩, p, vs, v, rfl, rfl, h3, by rw [h4.len]; exact hv, ?_⟩
    exact k G _ v (Same.refl _) (R.chg (t := .ml xs.dropLast) e0 rfl g1 ⟨_, upd_same, h4.dropLast⟩ (fun _ z => nomatch z)) m
  · cases hf
/-- xs[i] = v, d[k] = v -/
def putS (s : Sl) (k v : D) : Option Sl := match s, k with
  | .ml xs, .int i => (ixN xs.length i).map fun j => .ml (xs.set j v)
  | .io xs, .int i => (ixN xs.length i).map fun j => .io (xs.set j v)
  | .mK kvs, k => (keyOf k).bind fun k => if kvs.length < 1000000 then some (.mK (putD kvs k v)) else none
  | .mT kvs, .tup ks => (keysOf ks).bind fun k => if kvs.length < 1000000 then some (.mT (putD kvs k v)) else none
  | _, _ => none
def fPut (i : Nat) (fk fv : FE) : FS := fun ρ => (fv ρ).bind fun r => (fk r.2).bind fun q => (r.2[i]?.bind Sl.view).bind fun _ => (q.2[i]?).bind fun s => (putS s q.1 r.1).bind fun t => some (.nx (q.2.set i t))
theorem ps_either {t u : TS} (h1 : PS X st t) (h2 : PS X st u) : PS X st (fun D σ H => t D σ H ∨ u D σ H) := ⟨fun pins s σ H D I h => by
  rcases h with h | h
  · exact h1.run pins s σ H D I h
  · exact h2.run pins s σ H D I h⟩
theorem cs_put {i : Nat} (hp1 : ∀ {tk tv : TE}, PE X a tk → PE X b tv → PS X st (tAsg tv (gSub (tVar i) tk rSetL))) (hp2 : ∀ {tk tv : TE}, PE X a tk → PE X b tv → PS X st (sDPut (tVar i) tk tv)) (hk : CE X a fa) (hv : CE X b fb) : CS X st (fPut i fa fb) := by
  obtain ⟨tk, p1, q1⟩ := hk
  obtain ⟨tv, p2, q2⟩ := hv
  refine ⟨_, ps_either (hp1 p1 p2) (hp2 p1 p2), fun F G H σ ρ o R hf D k => ?_⟩
  obtain ⟨⟨v, ρ1⟩, h1, h2⟩ := bindE hf
  obtain ⟨⟨y, ρ2⟩, h3, h4⟩ := bindE h2
  obtain ⟨x0, hx0, h4'⟩ := bindE h4
  obtain ⟨s, h5, h6⟩ := bindE h4'
  obtain ⟨t, h7, h8⟩ := bindE h6
  cases h8
  have go : ∀ {Pq : V → V → V → Hp → Prop}, (∀ G2 H2 w u p, Same G G2 → SR X.K F G2 H2 σ ρ2 → Rp X.K G2 w v → Rp X.K G2 u y → σ[i]? = some (some p) → Pq w p u H2) →
      tv σ H fun w H1 => tVar i σ H1 fun p H2 => tk σ H2 fun u H3 => Pq w p u H3 := fun {Pq} hq => by
    refine q2 F G H σ ρ v ρ1 R h1 _ fun G1 H1 w s1 r1 m1 => ?_
    obtain ⟨p, g1, _⟩ := at_view r1 hx0
    exact ⟨p, g1, q1 F G1 H1 σ ρ1 y ρ2 r1 h3 _ fun G2 H2 u s2 r2 m2 => hq G2 H2 w u p (s1.trans s2) r2 (m1.mono s2) m2 g1⟩
  dsimp only at h7
  unfold putS at h7
  split at h7
  · rename_i xs j
    obtain ⟨n, h9, rfl⟩ := Option.map_eq_some_iff.mp h7
    refine .inl (go fun G2 H2 w u p s2 r2 m1 m2 g1 => ?_)
    obtain ⟨z, g2, p', rfl, vs, h10, h11⟩ := r2.sl i _ h5
    rw [g1] at g2
    cases g2
    exact ⟨p', vs, j, n, rfl, (Rv.of (H := H2) m2).int, h10, by rw [h11.len]; exact h9, k G2 _ σ s2 (r2.chg (t := .ml (xs.set n v)) h5 rfl g1 ⟨_, upd_same, h11.set n m1⟩ (fun _ z => nomatch z))⟩
  · rename_i xs j
    obtain ⟨n, h9, rfl⟩ := Option.map_eq_some_iff.mp h7
    refine .inl (go fun G2 H2 w u p s2 r2 m1 m2 g1 => ?_)
    obtain ⟨z, g2, p', rfl, vs, h10, h11⟩ := r2.sl i _ h5
    rw [g1] at g2
    cases g2
    exact ⟨p', vs, j, n, rfl, (Rv.of (H := H2) m2).int, h10, by rw [h11.len]; exact h9, k G2 _ σ s2 (r2.chg (t := .io (xs.set n v)) h5 rfl g1 ⟨_, upd_same, h11.set n m1⟩ (fun _ _ => ⟨_, rfl⟩))⟩
  · rename_i kvs
    obtain ⟨kk, h9, h10⟩ := bindE h7
    split at h10
    · rename_i hl
      cases h10
      refine .inr (go fun G2 H2 w u p s2 r2 m1 m2 g1 => ?_)
      obtain ⟨z, g2, p', rfl, es, h11, h12⟩ := r2.sl i _ h5
      rw [g1] at g2
      cases g2
      have ek := m2.key h9
      subst ek
      exact ⟨p', _, rfl, DPut.k h11 (by rw [h12.len]; exact lt_line (Nat.lt_succ_of_lt hl)), k G2 _ σ s2 (r2.chg (t := .mK (putD kvs kk v)) h5 rfl g1 ⟨_, upd_same, h12.put kk m1⟩ (fun _ z => nomatch z))⟩
    · cases h10
  · rename_i kvs ks
    obtain ⟨kk, h9, h10⟩ := bindE h7
    split at h10
    · rename_i hl
      cases h10
      refine .inr (go fun G2 H2 w u p s2 r2 m1 m2 g1 => ?_)
      obtain ⟨z, g2, p', rfl, es, h11, h12⟩ := r2.sl i _ h5
      rw [g1] at g2
      cases g2
      cases m2 with
      | tup hq rq =>
        rw [rq.keys h9] at hq
        exact ⟨p', _, rfl, DPut.t h11 (r2.gh _ _ hq) (by rw [h12.len]; exact lt_line (Nat.lt_succ_of_lt hl)), k G2 _ σ s2 (r2.chg (t := .mT (putD kvs kk v)) h5 rfl g1 ⟨_, upd_same, h12.put kk m1⟩ (fun _ z => nomatch z))⟩
    · cases h10
  · cases h7
/-! ### d.get(k, x) -/
def getD2 (d k x : D) : Option D := match d, k with
  | .dk kvs, k => (keyOf k).map fun k => (getK kvs k).getD x
  | .dt kvs, .tup ks => (keysOf ks).map fun k => (getK kvs k).getD x
  | _, _ => none
def fGet2 (fd fk fx : FE) : FE := fun ρ => (fd ρ).bind fun r => (fk r.2).bind fun p => (fx p.2).bind fun q => (getD2 r.1 p.1 q.1).bind fun z => some (z, q.2)
def fGet2N (i : Nat) (fk fx : FE) : FE := fun ρ => (ρ[i]?.bind Sl.view).bind fun _ => (fk ρ).bind fun p => (fx p.2).bind fun q => (q.2[i]?.bind Sl.view).bind fun d => (getD2 d p.1 q.1).bind fun z => some (z, q.2)
def isDct : D → Bool
  | .dk _ => true
  | .dt _ => true
  | _ => false
theorem isD_of {K : PySem.W.Frag} {G H : Hp} {v : V} {d : D} (s : Same G H) (h : Rv K G H v d) (hd : isDct d = true) : ∃ a, v = .ref a ∧ IsD H a := by
  cases d with
  | dk kvs =>
    obtain ⟨a, es, rfl, h1, _⟩ := h.dk s
    exact ⟨a, rfl, .inl ⟨es, h1⟩⟩
  | dt kvs =>
    obtain ⟨a, es, rfl, h1, _⟩ := h.dt s
    exact ⟨a, rfl, .inr ⟨es, h1⟩⟩
  | _ => cases hd
theorem get2_isD {d k x z : D} (h : getD2 d k x = some z) : isDct d = true := by
  cases d with
  | dk _ => rfl
  | dt _ => rfl
  | _ => cases h
theorem get2_run {K : PySem.W.Frag} {G H : Hp} {v u w : V} {d k x z : D} (s : Same G H) (h : getD2 d k x = some z) (m1 : Rv K G H v d) (m2 : Rp K G u k) (m3 : Rp K G w x) : ∃ a o, v = .ref a ∧ DGet H a u o ∧ Rp K G (o.getD w) z := by
  unfold getD2 at h
  split at h
  · obtain ⟨kk, h1, rfl⟩ := Option.map_eq_some_iff.mp h
    obtain ⟨a, es, rfl, hd, rk⟩ := m1.dk s
    refine ⟨a, _, rfl, dget_k s hd rk m2 h1, ?_⟩
    rcases rk.val kk with ⟨e1, e2⟩ | ⟨v', d', e1, e2, m⟩
    · rw [e1, e2]
      exact m3
    · rw [e1, e2]
      exact m
  · obtain ⟨kk, h1, rfl⟩ := Option.map_eq_some_iff.mp h
    obtain ⟨a, es, rfl, hd, rk⟩ := m1.dt s
    refine ⟨a, _, rfl, dget_t s hd rk m2 h1, ?_⟩
    rcases rk.val kk with ⟨e1, e2⟩ | ⟨v', d', e1, e2, m⟩
    · rw [e1, e2]
      exact m3
    · rw [e1, e2]
      exact m
  · cases h
theorem ce_get2 {apos cpos : Pos} (hu : X.A.units + 1 < cLine) (ho : CE X o fa) (he : CE X a fb) (hx : CE X b fc) (m : M2 X o "get" apos a b cpos) : CE X (.Call (.Attribute o "get" apos) [a, b] [] cpos) (fGet2 fa fb fc) := by
  obtain ⟨t1, p1, q1⟩ := ho
  obtain ⟨t2, p2, q2⟩ := he
  obtain ⟨t3, p3, q3⟩ := hx
  refine ⟨_, pe_dget2 hu p1 p2 p3 m, fun F G H σ ρ d ρ' R hf Q k => ?_⟩
  obtain ⟨⟨d0, ρ1⟩, h1, h2⟩ := bindE hf
  obtain ⟨⟨k0, ρ2⟩, h3, h4⟩ := bindE h2
  obtain ⟨⟨x0, ρ3⟩, h5, h6⟩ := bindE h4
  obtain ⟨z, h7, h8⟩ := bindE h6
  cases h8
  refine q1 F G H σ ρ d0 ρ1 R h1 _ fun G1 H1 v s1 r1 m1 => ?_
  obtain ⟨a, rfl, hd⟩ := isD_of r1.gh (.of m1) (get2_isD h7)
  refine ⟨a, rfl, hd, q2 F G1 H1 σ ρ1 k0 ρ2 r1 h3 _ fun G2 H2 u s2 r2 m2 => q3 F G2 H2 σ ρ2 x0 ρ3 r2 h5 _ fun G3 H3 w s3 r3 m3 => ?_⟩
  obtain ⟨a', o', e, g, mm⟩ := get2_run r3.gh h7 (.of (m1.mono (s2.trans s3))) (m2.mono s3) m3
  cases e
  exact ⟨o', g, k G3 H3 _ ((s1.trans s2).trans s3) r3 mm⟩
theorem ce_get2N {i : Nat} {apos cpos : Pos} (hu : X.A.units + 1 < cLine) (ho : PE X o (tVar i)) (he : CE X a fb) (hx : CE X b fc) (m : M2 X o "get" apos a b cpos) : CE X (.Call (.Attribute o "get" apos) [a, b] [] cpos) (fun ρ => ((ρ[i]?.bind Sl.view).bind fun d => if isDct d = true then fGet2N i fb fc ρ else none)) := by
  obtain ⟨t2, p2, q2⟩ := he
  obtain ⟨t3, p3, q3⟩ := hx
  refine ⟨_, pe_dget2 hu ho p2 p3 m, fun F G H σ ρ d ρ' R hf Q k => ?_⟩
  obtain ⟨dd, hdd, hf1⟩ := bindE hf
  split at hf1
  · rename_i hisd
    obtain ⟨_, _, h2⟩ := bindE hf1
    obtain ⟨⟨k0, ρ2⟩, h3, h4⟩ := bindE h2
    obtain ⟨⟨x0, ρ3⟩, h5, h6⟩ := bindE h4
    obtain ⟨d0, h1, h6'⟩ := bindE h6
    obtain ⟨z, h7, h8⟩ := bindE h6'
    cases h8
    obtain ⟨v, g1, m1⟩ := at_view R hdd
    obtain ⟨a, rfl, hd⟩ := isD_of R.gh m1 hisd
    refine ⟨_, g1, a, rfl, hd, q2 F G H σ ρ k0 ρ2 R h3 _ fun G2 H2 u s2 r2 m2 => q3 F G2 H2 σ ρ2 x0 ρ3 r2 h5 _ fun G3 H3 w s3 r3 m3 => ?_⟩
    obtain ⟨v', g2, m4⟩ := at_view r3 h1
    rw [g1] at g2
    cases g2
    obtain ⟨a', o', e, g, mm⟩ := get2_run r3.gh h7 m4 (m2.mono s3) m3
    cases e
    exact ⟨o', g, k G3 H3 _ (s2.trans s3) r3 mm⟩
  · cases hf1

/-! ### list + list: a new one -/
def catD : D → D → Option (List D)
  | .lst xs, .lst ys => if xs.length + ys.length ≤ 1000000 then some (xs ++ ys) else none
  | _, _ => none
def fCat (fa fb : FE) : FL := fun ρ => (fa ρ).bind fun r => (fb r.2).bind fun q => (catD r.1 q.1).bind fun z => some (z, q.2)
def fCatN (i : Nat) (fb : FE) : FL := fun ρ => (ρ[i]?.bind Sl.view).bind fun _ => (fb ρ).bind fun q => (q.2[i]?.bind Sl.view).bind fun x => (catD x q.1).bind fun z => some (z, q.2)
theorem cat_run {K : PySem.W.Frag} {F : Bk} {G H : Hp} {σ : L2.St} {ρ : Sls} {v u : V} {x y : D} {z : List D} (R : SR K F G H σ ρ) (h : catD x y = some z) (m1 : Rv K G H v x) (m2 : Rv K G H u y) {Q : VK}
    (k : ∀ H' a, SR K F G H' σ ρ → Free F G H' σ ρ a → OwnL K G H' a z → Q (.ref a) H') : rCat v u H Q := by
  unfold catD at h
  split at h
  · split at h
    · rename_i hl
      cases h
      obtain ⟨p, vs, rfl, h1, h2⟩ := m1.lst R.gh
      obtain ⟨q, ws, rfl, h3, h4⟩ := m2.lst R.gh
      refine ⟨p, q, vs, ws, rfl, rfl, h1, h3, by rw [h2.len, h4.len]; exact le_line hl, fun l hl => ?_⟩
      exact k _ l (R.newU hl) (R.free hl) ⟨_, upd_same, h2.app h4⟩
    · cases h
  · cases h
theorem cl_cat (ha : CE X a fa) (hb : CV X b fb) : CL X (.BinOp a .Add b pos) (fCat fa fb) := by
  obtain ⟨t1, p1, q1⟩ := ha
  obtain ⟨t2, p2, q2⟩ := hb
  refine ⟨_, pe_op op_cat p1 p2, fun F G H σ ρ d ρ' R hf Q k => ?_⟩
  obtain ⟨⟨x, ρ1⟩, h1, h2⟩ := bindE hf
  obtain ⟨⟨y, ρ2⟩, h3, h4⟩ := bindE h2
  obtain ⟨z, h5, h6⟩ := bindE h4
  cases h6
  exact q1 F G H σ ρ x ρ1 R h1 _ fun G1 H1 v s1 r1 m1 => q2 F G1 H1 σ ρ1 y _ r1 h3 _ fun G2 H2 u s2 r2 m2 => cat_run r2 h5 (.of (m1.mono s2)) m2 fun H' p r f o => k G2 H' p (s1.trans s2) r f o
theorem cl_catN {i : Nat} (ha : PE X a (tVar i)) (hb : CV X b fb) : CL X (.BinOp a .Add b pos) (fCatN i fb) := by
  obtain ⟨t2, p2, q2⟩ := hb
  refine ⟨_, pe_op op_cat ha p2, fun F G H σ ρ d ρ' R hf Q k => ?_⟩
  obtain ⟨x0, h0, h2⟩ := bindE hf
  obtain ⟨⟨y, ρ2⟩, h3, h4⟩ := bindE h2
  obtain ⟨x, h7, h8⟩ := bindE h4
  obtain ⟨z, h5, h6⟩ := bindE h8
  cases h6
  obtain ⟨v, e1, _⟩ := at_view R h0
  refine ⟨v, e1, q2 F G H σ ρ y _ R h3 _ fun G2 H2 u s2 r2 m2 => ?_⟩
  obtain ⟨v', e2, m1⟩ := at_view r2 h7
  rw [e1] at e2
  cases e2
  exact cat_run r2 h5 m1 m2 fun H' p r f o => k G2 H' p s2 r f o
end
end DL

/-! DL12: what a slot may take; two names at once. -/
namespace DL
open PySem PySem.Spec PyProof.Rows L2

abbrev FN := Sls → Option (Sl × Sls)
/-- a value as a slot takes it: frozen, or a new list or dict -/
def Fresh (K : PySem.W.Frag) (F : Bk) (G H : Hp) (σ : L2.St) (ρ : Sls) (v : V) : Sl → Prop
  | .d x => Rp K G v x
  | .ml xs => ∃ a, v = .ref a ∧ Free F G H σ ρ a ∧ OwnL K G H a xs
  | .mK kvs => ∃ a, v = .ref a ∧ Free F G H σ ρ a ∧ OwnK K G H a kvs
  | .mT kvs => ∃ a, v = .ref a ∧ Free F G H σ ρ a ∧ OwnT K G H a kvs
  | _ => False
def CN (X : Cx) (e : Expr) (f : FN) : Prop :=
  ∃ te : TE, PE X e te ∧ ∀ F G H σ ρ s ρ', SR X.K F G H σ ρ → f ρ = some (s, ρ') → ∀ Q : VK, (∀ G' H' v, Same G G' → SR X.K F G' H' σ ρ' → Fresh X.K F G' H' σ ρ' v s → Q v H') → te σ H Q
section
variable {X : Cx} {e a b : Expr} {st : Stmt}
def nE (f : FE) : FN := fun ρ => (f ρ).bind fun r => some (.d r.1, r.2)
def nL (f : FL) : FN := fun ρ => (f ρ).bind fun r => some (.ml r.1, r.2)
def nK (f : FK) : FN := fun ρ => (f ρ).bind fun r => some (.mK r.1, r.2)
def nT (f : FKT) : FN := fun ρ => (f ρ).bind fun r => some (.mT r.1, r.2)
theorem CE.n {f : FE} (h : CE X e f) : CN X e (nE f) := by
  obtain ⟨t, p, q⟩ := h
  refine ⟨t, p, fun F G H σ ρ s ρ' R hf Q k => ?_⟩
  obtain ⟨⟨x, ρ1⟩, h1, h2⟩ := bindE hf
  cases h2
  exact q F G H σ ρ x _ R h1 Q fun G' H' v s r m => k G' H' v s r m
theorem CL.n {f : FL} (h : CL X e f) : CN X e (nL f) := by
  obtain ⟨t, p, q⟩ := h
  refine ⟨t, p, fun F G H σ ρ s ρ' R hf Q k => ?_⟩
  obtain ⟨⟨x, ρ1⟩, h1, h2⟩ := bindE hf
  cases h2
  exact q F G H σ ρ x _ R h1 Q fun G' H' v s r f m => k G' H' _ s r ⟨v, rfl, f, m⟩
theorem CDK.n {f : FK} (h : CDK X e f) : CN X e (nK f) := by
  obtain ⟨t, p, q⟩ := h
  refine ⟨t, p, fun F G H σ ρ s ρ' R hf Q k => ?_⟩
  obtain ⟨⟨x, ρ1⟩, h1, h2⟩ := bindE hf
  cases h2
  exact q F G H σ ρ x _ R h1 Q fun G' H' v s r f m => k G' H' _ s r ⟨v, rfl, f, m⟩
theorem CDT.n {f : FKT} (h : CDT X e f) : CN X e (nT f) := by
  obtain ⟨t, p, q⟩ := h
  refine ⟨t, p, fun F G H σ ρ s ρ' R hf Q k => ?_⟩
  obtain ⟨⟨x, ρ1⟩, h1, h2⟩ := bindE hf
  cases h2
  exact q F G H σ ρ x _ R h1 Q fun G' H' v s r f m => k G' H' _ s r ⟨v, rfl, f, m⟩
theorem Fresh.set {K : PySem.W.Frag} {F : Bk} {G H : Hp} {σ : L2.St} {ρ : Sls} {v : V} {s : Sl} (R : SR K F G H σ ρ) (i : Nat) (h : Fresh K F G H σ ρ v s) : SR K F G H (σ.set i (some v)) (ρ.set i s) := by
  cases s with
  | d x => exact R.setD i h
  | ml xs =>
    obtain ⟨a, rfl, f, m⟩ := h
    exact R.setO i (s := .ml xs) f m (fun _ z => nomatch z)
  | mK xs =>
    obtain ⟨a, rfl, f, m⟩ := h
    exact R.setO i (s := .mK xs) f m (fun _ z => nomatch z)
  | mT xs =>
    obtain ⟨a, rfl, f, m⟩ := h
    exact R.setO i (s := .mT xs) f m (fun _ z => nomatch z)
  | no => exact h.elim
  | io _ => exact h.elim
/-- behind more of what is reckoned, what was new is so still -/
theorem Fresh.pend {K : PySem.W.Frag} {F : Bk} {G H : Hp} {σ : L2.St} {ρ : Sls} {v : V} {s : Sl} (R : SR K F G H σ ρ) (h : Fresh K F G H σ ρ v s) :
    ∃ F', SR K F' G H σ ρ ∧ ∀ G' H' ρ', Same G G' → SR K F' G' H' σ ρ' → SR K F G' H' σ ρ' ∧ Fresh K F G' H' σ ρ' v s ∧ (∀ p, Free F' G' H' σ ρ' p → (∃ o, H' p = some o) → Free F G' H' σ ρ' p ∧ ∀ a, v = .ref a → s.own = true → p ≠ a) := by
  have go : ∀ (a : Addr) (o : HO), H a = some o → (∀ xs, o ≠ .tup xs) → Free F G H σ ρ a → ∃ F', SR K F' G H σ ρ ∧ ∀ G' H' ρ', Same G G' → SR K F' G' H' σ ρ' → SR K F G' H' σ ρ' ∧ (Free F G' H' σ ρ' a ∧ H' a = some o) ∧
      (∀ p, Free F' G' H' σ ρ' p → (∃ o, H' p = some o) → Free F G' H' σ ρ' p ∧ p ≠ a) := fun a o ho hnt fr => by
    have ne : ∀ {b : Addr} {u : HO}, F.B b = some u → b ≠ a := fun e z => by rw [z, fr.2.1] at e; cases e
    refine ⟨F.plus a o, R.base (fun b u e => ?_) R.g0 (fun b u e => ?_) (fun i s b e ow q => ?_) rfl, fun G' H' ρ' s' R' => ⟨R'.unwatch fr.2.1, ⟨⟨?_, fr.2.1, fun i s b e ow q => R'.own_watch e ow q⟩, R'.watched⟩, fun p fp _ => ⟨⟨fp.1, ?_, fp.2.2⟩, ?_⟩⟩⟩
    · have e' : upd F.B a o b = some u := e
      by_cases hb : b = a
      · subst hb
        rw [upd_same] at e'
        rw [ho]
        exact e'
      · rw [upd_ne hb] at e'
        exact R.bh _ _ e'
    · rcases R.gb b u e with h1 | h1 | h1
      · exact .inl h1
      · refine .inr (.inl ?_)
        show upd F.B a o b = none
        rw [upd_ne (fun z => by rw [z, fr.1] at e; cases e)]
        exact h1
      · exact .inr (.inr h1)
    · show upd F.B a o b = none
      rw [upd_ne (fr.2.2 i s b e ow q)]
      exact (R.own i s b e ow q).2
    · refine R'.gnone ?_ hnt
      cases q : F.G0 a with
      | none => rfl
      | some u =>
        have := R.g0 _ _ q
        rw [fr.1] at this
        cases this
    · have := fp.2.1
      have e' : upd F.B a o p = none := this
      by_cases hb : p = a
      · subst hb
        exact fr.2.1
      · rw [upd_ne hb] at e'
        exact e'
    · intro z
      have := fp.2.1
      have e' : upd F.B a o p = none := this
      rw [z, upd_same] at e'
      cases e'
  cases s with
  | d x => exact ⟨F, R, fun G' H' ρ' s' R' => ⟨R', h.mono s', fun p fp _ => ⟨fp, fun a e o => nomatch o⟩⟩⟩
  | ml xs =>
    obtain ⟨a, rfl, f, vs, ho, m⟩ := h
    obtain ⟨F', R1, k⟩ := go a _ ho (fun _ z => nomatch z) f
    exact ⟨F', R1, fun G' H' ρ' s' R' => let ⟨r, ⟨f', h'⟩, w⟩ := k G' H' ρ' s' R'; ⟨r, ⟨a, rfl, f', vs, h', m.mono s'⟩, fun p fp hp => ⟨(w p fp hp).1, fun a' e _ => by cases e; exact (w p fp hp).2⟩⟩⟩
  | mK xs =>
    obtain ⟨a, rfl, f, vs, ho, m⟩ := h
    obtain ⟨F', R1, k⟩ := go a _ ho (fun _ z => nomatch z) f
    exact ⟨F', R1, fun G' H' ρ' s' R' => let ⟨r, ⟨f', h'⟩, w⟩ := k G' H' ρ' s' R'; ⟨r, ⟨a, rfl, f', vs, h', m.mono s'⟩, fun p fp hp => ⟨(w p fp hp).1, fun a' e _ => by cases e; exact (w p fp hp).2⟩⟩⟩
  | mT xs =>
    obtain ⟨a, rfl, f, vs, ho, m⟩ := h
    obtain ⟨F', R1, k⟩ := go a _ ho (fun _ z => nomatch z) f
    exact ⟨F', R1, fun G' H' ρ' s' R' => let ⟨r, ⟨f', h'⟩, w⟩ := k G' H' ρ' s' R'; ⟨r, ⟨a, rfl, f', vs, h', m.mono s'⟩, fun p fp hp => ⟨(w p fp hp).1, fun a' e _ => by cases e; exact (w p fp hp).2⟩⟩⟩
  | no => exact h.elim
  | io _ => exact h.elim
theorem Fresh.ref {K : PySem.W.Frag} {F : Bk} {G H : Hp} {σ : L2.St} {ρ : Sls} {v : V} {s : Sl} (h : Fresh K F G H σ ρ v s) (o : s.own = true) : ∃ a, v = .ref a ∧ Free F G H σ ρ a ∧ ∃ u, H a = some u := by
  cases s with
  | d x => cases o
  | no => cases o
  | io _ => exact h.elim
  | ml xs =>
    obtain ⟨a, rfl, f, vs, h1, _⟩ := h
    exact ⟨a, rfl, f, _, h1⟩
  | mK xs =>
    obtain ⟨a, rfl, f, vs, h1, _⟩ := h
    exact ⟨a, rfl, f, _, h1⟩
  | mT xs =>
    obtain ⟨a, rfl, f, vs, h1, _⟩ := h
    exact ⟨a, rfl, f, _, h1⟩
/-- the free object of another name's stays free when a slot takes something else -/
theorem Free.put {F : Bk} {G H : Hp} {σ : L2.St} {ρ : Sls} {p : Addr} (f : Free F G H σ ρ p) {i : Nat} {v : V} {s : Sl} (hl : i < σ.length) (h : ∀ a, v = .ref a → s.own = true → p ≠ a) : Free F G H (σ.set i (some v)) (ρ.set i s) p :=
  ⟨f.1, f.2.1, fun j t b e ow q => by
    rcases set_get e with ⟨rfl, rfl, _⟩ | ⟨hj, e⟩
    · rw [List.getElem?_set_self hl] at q
      cases q
      exact fun z => h b rfl ow z.symm
    · rw [List.getElem?_set_ne (Ne.symm hj)] at q
      exact f.2.2 j t b e ow q⟩
def fPar (i j : Nat) (f g : FN) : FS := fun ρ => (f ρ).bind fun r => (g r.2).bind fun q => if i < q.2.length then some (.nx ((q.2.set i r.1).set j q.1)) else none
/-- a, b = x, y -/
theorem cs_par {i j : Nat} {f g : FN} (hp : ∀ {ta : TA}, PA X [a, b] ta → PS X st (tPar i j ta)) (h1 : CN X a f) (h2 : CN X b g) (hs : starEach [a, b] X.env = (false, eval a X.env) :: starEach [b] X.env := by rfl) (hs2 : starEach [b] X.env = (false, eval b X.env) :: starEach [] X.env := by rfl) :
    CS X st (fPar i j f g) := by
  obtain ⟨t1, p1, q1⟩ := h1
  obtain ⟨t2, p2, q2⟩ := h2
  refine ⟨_, hp (pa_cons p1 (pa_cons p2 pa_nil hs2) hs), fun F G H σ ρ o R hf D k => ?_⟩
  obtain ⟨⟨s1, ρ1⟩, h1, h2⟩ := bindE hf
  obtain ⟨⟨s2, ρ2⟩, h3, h4⟩ := bindE h2
  split at h4
  · rename_i hi
    cases h4
    refine q1 F G H σ ρ s1 ρ1 R h1 _ fun G1 H1 v e1 r1 m1 => ?_
    obtain ⟨F', r1', back⟩ := m1.pend r1
    refine q2 F' G1 H1 σ ρ1 s2 ρ2 r1' h3 _ fun G2 H2 w e2 r2 m2 => ⟨v, w, rfl, ?_⟩
    obtain ⟨r3, m3, fr⟩ := back G2 H2 ρ2 e2 r2
    have hl : i < σ.length := by rw [r3.len]; exact hi
    have R4 := m3.set r3 i
    have m4 : Fresh X.K F G2 H2 (σ.set i (some v)) (ρ2.set i s1) w s2 := by
      cases s2 with
      | d x => exact m2
      | no => exact m2.elim
      | io _ => exact m2.elim
      | ml xs =>
        obtain ⟨p, rfl, f2, o2⟩ := id m2
        obtain ⟨vs, hv, _⟩ := id o2
        obtain ⟨f3, ne⟩ := fr p f2 ⟨_, hv⟩
        exact ⟨p, rfl, f3.put hl ne, o2⟩
      | mK xs =>
        obtain ⟨p, rfl, f2, o2⟩ := id m2
        obtain ⟨vs, hv, _⟩ := id o2
        obtain ⟨f3, ne⟩ := fr p f2 ⟨_, hv⟩
        exact ⟨p, rfl, f3.put hl ne, o2⟩
      | mT xs =>
        obtain ⟨p, rfl, f2, o2⟩ := id m2
        obtain ⟨vs, hv, _⟩ := id o2
        obtain ⟨f3, ne⟩ := fr p f2 ⟨_, hv⟩
        exact ⟨p, rfl, f3.put hl ne, o2⟩
    exact k G2 H2 _ (e1.trans e2) (m4.set R4 j)
  · cases h4
end
end DL

/-! DL13: sorted(..) of a list of data. -/
namespace DL
open PySem PySem.Spec PyProof.Rows L2

abbrev lePy (a b : PyData) : Bool := PySem.W.dataLe false (id : PyData → PyData) a b
/-- what may be sorted: alike, no tuples that are empty, not too deep -/
def srtOk (ds : List PyData) : Bool := (ds.all fun a => ds.all fun b => PySem.W.alike a b) && ds.all SeqAt.shaped &&
  ((ds.all fun d => match d with | .tuple (_ :: _) => true | _ => false) || ds.all fun d => match d with | .none => false | .tuple _ => false | _ => true)
theorem srtOk_all {ds : List PyData} (h : srtOk ds = true) : PySem.W.AllAlike ds ∧ PySem.W.Sortable ds ∧ ∀ d ∈ ds, SeqAt.shaped d = true ∧ d.depth ≤ 64 := by
  unfold srtOk at h
  rw [Bool.and_eq_true, Bool.and_eq_true] at h
  obtain ⟨⟨h1, h2⟩, h3⟩ := h
  refine ⟨fun a ha b hb => List.all_eq_true.mp (List.all_eq_true.mp h1 a ha) b hb, ?_, fun d hd => ?_⟩
  · rw [Bool.or_eq_true] at h3
    rcases h3 with h3 | h3
    · refine .inl fun d hd => ?_
      have q := List.all_eq_true.mp h3 d hd
      split at q
      · exact ⟨_, _, rfl⟩
      · cases q
    · refine .inr fun d hd => ?_
      have q := List.all_eq_true.mp h3 d hd
      split at q
      · cases q
      · cases q
      · rename_i n1 n2
        exact ⟨n1, fun xs e => n2 xs e⟩
  · have q := List.all_eq_true.mp h2 d hd
    refine ⟨q, ?_⟩
    unfold SeqAt.shaped at q
    rw [Bool.and_eq_true] at q
    exact of_decide_eq_true q.2
/-- values beside their data -/
theorem dp_zip {K : PySem.W.Frag} {H : Hp} : ∀ {xs : List V} {ds : List PyData}, DpAll K H xs ds → ∀ p ∈ xs.zip ds, Dp K H p.1 p.2
  | _, _, .nil, p, hp => by cases hp
  | _, _, .cons h t, p, hp => by
    rw [List.zip_cons_cons] at hp
    rcases List.mem_cons.mp hp with e | hp
    · rw [e]
      exact h
    · exact dp_zip t p hp
theorem dp_len {K : PySem.W.Frag} {H : Hp} : ∀ {xs : List V} {ds : List PyData}, DpAll K H xs ds → xs.length = ds.length
  | _, _, .nil => rfl
  | _, _, .cons h t => by rw [List.length_cons, List.length_cons, dp_len t]
theorem zip_fst {α β : Type} : ∀ {xs : List α} {ys : List β}, xs.length = ys.length → (xs.zip ys).map (·.1) = xs
  | [], [], _ => rfl
  | x :: xs, y :: ys, h => by
    rw [List.zip_cons_cons, List.map_cons, zip_fst (by simpa using h)]
theorem zip_snd {α β : Type} : ∀ {xs : List α} {ys : List β}, xs.length = ys.length → (xs.zip ys).map (·.2) = ys
  | [], [], _ => rfl
  | x :: xs, y :: ys, h => by
    rw [List.zip_cons_cons, List.map_cons, zip_snd (by simpa using h)]
theorem each_vals {us : List Value} : ∀ {ps : List (V × PyData)}, Vals (ps.map (·.1)) us → PySem.W.EachIs (fun v (p : V × PyData) => RelV p.1 v) us ps
  | ps, r => by
    induction ps generalizing us with
    | nil =>
      cases r
      exact .nil
    | cons p ps ih =>
      cases r with
      | cons h t => exact .cons h (ih t)
theorem vals_each {us : List Value} : ∀ {ps : List (V × PyData)}, PySem.W.EachIs (fun v (p : V × PyData) => RelV p.1 v) us ps → Vals (ps.map (·.1)) us
  | _, .nil => .nil
  | _, .cons h t => .cons h (vals_each t)
section
variable {X : Cx} {pins : List (Addr × Obj)} {σ : L2.St} {H : Hp} {s : Shared}
theorem each_reads (I : L2.Inv X pins σ H s) : ∀ {us : List Value} {ps : List (V × PyData)}, PySem.W.EachIs (fun v (p : V × PyData) => RelV p.1 v) us ps → (∀ p ∈ ps, Dp X.K H p.1 p.2) →
    PySem.W.EachIs (fun v (p : V × PyData) => ∃ as, Reads s.heap v p.2 as) us ps
  | _, _, .nil, _ => .nil
  | _, _, .cons h t, k => .cons (Dp.reads I _ _ _ (k _ List.mem_cons_self) h) (each_reads I t fun p hp => k p (List.mem_cons_of_mem _ hp))
def srtP (ps : List (V × PyData)) : List (V × PyData) := ps.mergeSort (PySem.W.dataLe false (·.2))
/-- sorted(xs), xs a list of data -/
def rSortData (K : PySem.W.Frag) : List V → Hp → VK → Prop := fun vs H Q => ∃ (a : Addr) (xs : List V) (ds : List PyData), vs = [.ref a] ∧ SqL K H a xs ∧ DpAll K H xs ds ∧ srtOk ds = true ∧
  ∀ p : Addr, H p = none → Q (.ref p) (upd H p (.lst ((srtP (xs.zip ds)).map (·.1))))
theorem cr_sortData (hu : X.A.units + 67 < cLine) : CallR X (.builtin "sorted") (rSortData X.K) := by
  intro pins s σ H vs us Q I r h
  obtain ⟨a, xs, ds, rfl, hs, hd, ok, q⟩ := h
  obtain ⟨h1, h2, h3⟩ := srtOk_all ok
  obtain ⟨its, rv, hl, hz⟩ := I.list hs
  rw [Vals.ref1 r]
  have hlen := dp_len hd
  have e : PySem.W.EachIs (fun v (p : V × PyData) => RelV p.1 v) its (xs.zip ds) := each_vals (by rw [zip_fst hlen]; exact rv)
  have em : (xs.zip ds).map (fun p => p.2) = ds := zip_snd hlen
  have hll : (xs.zip ds).length = xs.length := by
    have z := congrArg List.length (zip_fst hlen)
    rw [List.length_map] at z
    exact z
  refine PySem.W.sorted_data (enc := fun p : V × PyData => p.2) hl.isList e (each_reads I e (dp_zip hd)) (by rw [em]; exact h1) (by rw [em]; exact h2) (by rw [hll]; exact hz) (fun b hb => ?_) fun out ho eo => ?_
  · have hb2 : b.2 ∈ ds := by
      rw [← em]
      exact List.mem_map.mpr ⟨b, hb, rfl⟩
    have := (h3 _ hb2).2
    omega
  · obtain ⟨ep, he'⟩ := PyProof.Rows.sortedAll_at s.heap its out.toArray
    have vo : Vals ((srtP (xs.zip ds)).map (·.1)) out := vals_each eo
    have hol : ((srtP (xs.zip ds)).map (·.1)).length ≤ sizeLine := by
      rw [vo.length, ho, hll]
      exact hz
    exact ⟨.ref _, upd H (s.heap.objs.size + 1) (.lst ((srtP (xs.zip ds)).map (·.1))), I.laid (t' := s.toks) (fun _ _ => PyProof.Rows.sortedAll_old) (Nat.le_succ _) ⟨hol, out, ep, vo, he'⟩, rfl, q _ (I.hok.fresh (Nat.le_succ _))⟩
end
end DL

/-! DL14: sorted(..) of what is gathered: dicts; data. -/
namespace DL
open PySem PySem.Spec PyProof.Rows L2

mutual
theorem reads_at {h : Heap} : ∀ (d : PyData) {v : Value} {as : List Addr}, PySem.W.alike d d = true → Reads h v d as → ∀ b ∈ as, ∃ o, h.get? b = some o
  | .none, _, _, _, r, b, hb => by
    cases r
    cases hb
  | .bool _, _, _, _, r, b, hb => by
    cases r
    cases hb
  | .int _, _, _, _, r, b, hb => by
    cases r
    cases hb
  | .str _, _, _, _, r, b, hb => by
    cases r
    cases hb
  | .list xs, _, _, al, r, b, hb => by
    cases r with
    | list h1 h2 h3 h4 =>
      rcases List.mem_cons.mp hb with e | hb
      · rw [e]
        exact ⟨_, h1⟩
      · exact reads_atAll xs (by simpa [PySem.W.alike] using al) h4 b hb
  | .tuple xs, _, _, al, r, b, hb => by
    cases r with
    | tuple h1 h2 h3 h4 => exact reads_atAll xs (by simpa [PySem.W.alike] using al) h4 b hb
  | .dict _, _, _, al, r, b, hb => by simp [PySem.W.alike] at al
theorem reads_atAll {h : Heap} : ∀ (ds : List PyData) {vs : List Value} {as : List Addr}, PySem.W.alikeAll ds ds = true → ReadsAll h vs ds as → ∀ b ∈ as, ∃ o, h.get? b = some o
  | [], _, _, _, r, b, hb => by
    cases r
    cases hb
  | d :: ds, _, _, al, r, b, hb => by
    cases r with
    | cons h1 h2 =>
      rcases List.mem_append.mp hb with k | k
      · exact reads_at d (PySem.W.alike_all_cons al).1 h1 b k
      · exact reads_atAll ds (PySem.W.alike_all_cons al).2 h2 b k
end
section
variable {X : Cx} {pins : List (Addr × Obj)} {σ : L2.St} {H : Hp} {s : Shared}
theorem each_both {α β : Type} {R R' : α → β → Prop} : ∀ {as : List α} {bs : List β}, PySem.W.EachIs R as bs → (∀ a b, b ∈ bs → R a b → R' a b) → PySem.W.EachIs R' as bs
  | _, _, .nil, _ => .nil
  | _, _, .cons h t, k => .cons (k _ _ List.mem_cons_self h) (each_both t fun a b hb r => k a b (List.mem_cons_of_mem _ hb) r)
/-- the list that was gathered, at the heap's end, is sorted in its place -/
theorem sort_new {A : Around} {E : Value → Shared → Prop} {Q : Value → Shared → Prop} {xs : List V} {ds : List PyData} {vs : List Value} (I : L2.Inv X pins σ H s) (hu : A.units + 66 < cLine) (rv : Vals xs vs) (hd : DpAll X.K H xs ds) (ok : srtOk ds = true) (hz : xs.length ≤ sizeLine)
    (k : ∀ h', L2.Inv X pins σ (upd H s.heap.objs.size (.lst ((srtP (xs.zip ds)).map (·.1)))) { s with heap := h' } → Q .none { s with heap := h' }) :
    wpAny (model X.prog X.w) A (call (.builtin "list.sort") [.ref s.heap.objs.size]) Q E { s with heap := s.heap.push (seqObj "list" vs.toArray 0) } := by
  obtain ⟨h1, h2, h3⟩ := srtOk_all ok
  have hlen := dp_len hd
  have e : PySem.W.EachIs (fun v (p : V × PyData) => RelV p.1 v) vs (xs.zip ds) := each_vals (ps := xs.zip ds) (by rw [zip_fst hlen]; exact rv)
  have em : (xs.zip ds).map (fun p => p.2) = ds := zip_snd hlen
  have hll : (xs.zip ds).length = xs.length := by
    have z := congrArg List.length (zip_fst hlen)
    rw [List.length_map] at z
    exact z
  have hm : ∀ b ∈ xs.zip ds, b.2 ∈ ds := fun b hb => by
    have q := List.mem_map.mpr (⟨b, hb, rfl⟩ : ∃ a, a ∈ xs.zip ds ∧ (fun p : V × PyData => p.2) a = b.2)
    rw [em] at q
    exact q
  have hoL : (s.heap.push (seqObj "list" vs.toArray 0)).get? s.heap.objs.size = some (seqObj "list" vs.toArray 0) := Heap.get?_push_size _ rfl
  have er := each_reads I e (dp_zip hd)
  have er2 : PySem.W.EachIs (fun v (p : V × PyData) => ∃ as, Reads (s.heap.push (seqObj "list" vs.toArray 0)) v p.2 as ∧ s.heap.objs.size ∉ as) vs (xs.zip ds) := each_both er fun v b hb ⟨as, r⟩ => by
    refine ⟨as, PyProof.Rows.Reads.keeps (fun _ _ q => Heap.get?_push_of_some _ q) r, fun hin => ?_⟩
    obtain ⟨o, ho⟩ := reads_at b.2 (h1 _ (hm b hb) _ (hm b hb)) r _ hin
    exact absurd (Heap.lt_size ho) (Nat.lt_irrefl _)
  refine PySem.W.list_sort_data (s := { s with heap := s.heap.push (seqObj "list" vs.toArray 0) }) (enc := fun p : V × PyData => p.2) hoL e er2 (by rw [em]; exact h1) (by rw [em]; exact h2) (by rw [hll]; exact hz) (fun b hb => ?_) fun out ho eo => ?_
  · have := (h3 _ (hm b hb)).2
    omega
  · obtain ⟨ep, he'⟩ := PyProof.Rows.sortedHeap_at (vs := vs) (out := out.toArray) hoL
    have vo : Vals ((srtP (xs.zip ds)).map (·.1)) out := vals_each eo
    have hol : ((srtP (xs.zip ds)).map (·.1)).length ≤ sizeLine := by
      rw [vo.length, ho, hll]
      exact hz
    refine k _ (I.laid (t' := s.toks) (fun b u q => ?_) (Nat.le_refl _) (show ObjOk X.prog X.w _ _ _ (.lst ((srtP (xs.zip ds)).map (·.1))) from ⟨hol, out, ep, vo, he'⟩))
    have hb : b < s.heap.objs.size := Heap.lt_size q
    show (PyProof.Rows.sortedHeap (s.heap.push (seqObj "list" vs.toArray 0)) s.heap.objs.size vs out.toArray).get? b = some u
    rw [PyProof.Rows.sortedHeap_old (Nat.ne_of_lt hb) (by rw [size_push']; exact Nat.lt_succ_of_lt hb)]
    exact Heap.get?_push_of_some _ q
/-- sorted(d), d a dict with int and text keys -/
def rSortDK (K : PySem.W.Frag) : List V → Hp → VK → Prop := fun xs H Q => ∃ (a : Addr) (kvs : List (Key × V)), xs = [.ref a] ∧ Rd H a (.dK kvs) ∧ srtOk (kvs.map fun p => (kD p.1).py) = true ∧
  ∀ p : Addr, H p = none → Q (.ref p) (upd H p (.lst ((srtP ((kvs.map fun p => kV p.1).zip (kvs.map fun p => (kD p.1).py))).map (·.1))))
theorem dp_keys {K : PySem.W.Frag} : ∀ kvs : List (Key × V), DpAll K H (kvs.map fun p => kV p.1) (kvs.map fun p => (kD p.1).py)
  | [] => .nil
  | (.inl i, _) :: r => .cons (.int i) (dp_keys r)
  | (.inr i, _) :: r => .cons (.str i) (dp_keys r)
theorem cr_sortDK (hc : X.calm = true) (hu : X.A.units + 67 < cLine) : CallR X (.builtin "sorted") (rSortDK X.K) := by
  intro pins s σ H xs us Q I r q
  obtain ⟨a, kvs, rfl, hd, ok, q⟩ := q
  obtain ⟨u, rfl, rx⟩ := vals1 r
  cases rx
  obtain ⟨z, lo, vs, rel, dd⟩ := dk_rd I.hok hd
  obtain ⟨ep, hat⟩ := dd.dictAt
  have hl : kvs.length = vs.length := Paired.length rel
  refine Calls.call_function_entry PyProof.Rows.kind_sorted PyProof.Rows.plain_sorted PyProof.Rows.entry_sorted (PyProof.Rows.args_sorted1 _) ?_
  unfold Builtin.«sorted»
  refine wpAny_bind (m := checkCount "sorted" 1 1 _) (wpAny_pure ?_)
  refine wpAny_bind (PySem.W.kdu_collect (A := X.A.in1) (PySem.W.kdl_dict (knd := mixKind X.prog X.w) (kvs := vs) (ep := ep) lo) (I.ok.hd hc) hat (by rw [← hl]; exact z) fun h' tk acc hk hacc => ?_)
  have el : acc.toList.length = acc.size := Array.length_toList
  have hV : Vals (kvs.map fun kv => kV kv.1) acc.toList := vals_of_at (by rw [List.length_map, el, hacc.1, hl]) fun j x w h1 h2 => by
    obtain ⟨k, y, hky, hi⟩ := hacc.2 j w (by rw [← Array.getElem?_toList]; exact h2)
    have e1 : (kvs.map (·.1))[j]? = some k := by
      rw [KV.keys rel, List.getElem?_map, hky] <;> rfl
    have e2 : (kvs.map fun kv => kV kv.1)[j]? = some (kV k) := by
      have e3 : (kvs.map fun kv => kV kv.1) = (kvs.map (·.1)).map kV := by rw [List.map_map] <;> rfl
      rw [e3, List.getElem?_map, e1] <;> rfl
    rw [e2] at h1
    cases h1
    exact keyIs_rel hi
  have I1 : L2.Inv X pins σ H { s with heap := h', toks := tk } := I.kept hk
  have hz : (kvs.map fun kv => kV kv.1).length ≤ sizeLine := by rw [List.length_map]; exact z
  refine wpAny_bind (wpAny_newList ?_ (by rw [← hV.length]; exact hz))
  refine wpAny_bind (wpAny_holding (sort_new (s := { s with heap := h', toks := tk }) (A := X.A.in1) I1 (by show X.A.units + 1 + 66 < cLine; omega) hV (dp_keys kvs) ok hz fun h2 I2 => ?_))
  exact wpAny_pure ⟨_, rfl, .ref h'.objs.size, _, I2, rfl, q _ (I1.hok.fresh (Nat.le_refl _))⟩
end
end DL

/-! DL15: sorted(..) at the data's level. -/
namespace DL
open PySem PySem.Spec PyProof.Rows L2

section
variable {X : Cx} {pins : List (Addr × Obj)} {σ : L2.St} {H : Hp} {s : Shared}
/-- sorted(d), d a dict whose keys are tuples -/
def rSortDT (K : PySem.W.Frag) : List V → Hp → VK → Prop := fun xs H Q => ∃ (a : Addr) (kvs : List (List Key × V)), xs = [.ref a] ∧ Rd H a (.dT kvs) ∧ srtOk (kvs.map fun p => (tD p.1).py) = true ∧
  ∀ (p : Addr) (bs : List Addr), H p = none → IsKeys H kvs bs → Q (.ref p) (upd H p (.lst ((srtP ((bs.map V.ref).zip (kvs.map fun p => (tD p.1).py))).map (·.1))))
theorem dp_kVs {K : PySem.W.Frag} : ∀ ks : List Key, DpAll K H (ks.map kV) (D.pys (ks.map kD))
  | [] => .nil
  | .inl i :: r => .cons (.int i) (dp_kVs r)
  | .inr i :: r => .cons (.str i) (dp_kVs r)
theorem dp_tups {K : PySem.W.Frag} : ∀ {kvs : List (List Key × V)} {bs : List Addr}, IsKeys H kvs bs → DpAll K H (bs.map V.ref) (kvs.map fun p => (tD p.1).py)
  | _, _, .nil => .nil
  | _, _, .cons h t => .cons (.tup (SqT.of h) (dp_kVs _)) (dp_tups t)
theorem cr_sortDT (hc : X.calm = true) (hu : X.A.units + 67 < cLine) : CallR X (.builtin "sorted") (rSortDT X.K) := by
  intro pins s σ H xs us Q I r q
  obtain ⟨d, kvs, rfl, hd, ok, q⟩ := q
  obtain ⟨u, rfl, rx⟩ := vals1 r
  cases rx
  obtain ⟨z, hs, ks, pr, o, es, ep, ho, hx, hdt, he, hn⟩ := (show ObjOk X.prog X.w H s.heap d (.dT kvs) from hd.ok I.hok)
  have l1 : es.size = ks.length := size_of_entries he
  have l2 : kvs.length = ks.length := Paired.length pr
  refine Calls.call_function_entry PyProof.Rows.kind_sorted PyProof.Rows.plain_sorted PyProof.Rows.entry_sorted (PyProof.Rows.args_sorted1 _) ?_
  unfold Builtin.«sorted»
  refine wpAny_bind (m := checkCount "sorted" 1 1 _) (wpAny_pure ?_)
  refine wpAny_bind (PySem.W.kdu_collect (A := X.A.in1) (kdl_raw hs hx hdt) (I.ok.hd hc) ho (by omega) fun h' tk acc hk it => ?_)
  have ea : acc.toList = ks.map fun x => Value.ref x.2.1 := by
    have hl : acc.toList.length = ks.length := by rw [Array.length_toList, it.1]; exact l1
    apply List.ext_getElem?
    intro j
    rw [List.getElem?_map]
    cases hj : acc.toList[j]? with
    | none =>
      have h1 := List.getElem?_eq_none_iff.mp hj
      rw [List.getElem?_eq_none (by omega)]
      rfl
    | some v =>
      obtain ⟨en, hen, hv⟩ := it.2 j v (by rw [← Array.getElem?_toList]; exact hj)
      have qe := entry_at he j
      rw [hen] at qe
      cases hb : ks[j]? with
      | none =>
        rw [hb] at qe
        cases qe
      | some b =>
        rw [hb] at qe
        have e2 := Option.some.inj qe
        rw [hv, e2]
        rfl
  have eb : acc.toList = (ks.map fun x => x.2.1).map Value.ref := by rw [ea, List.map_map]; rfl
  have rv : Vals ((ks.map fun x => x.2.1).map V.ref) acc.toList := by rw [eb]; exact vals_refs _
  have hz : ((ks.map fun x => x.2.1).map V.ref).length ≤ sizeLine := by rw [List.length_map, List.length_map]; omega
  have I1 : L2.Inv X pins σ H { s with heap := h', toks := tk } := I.kept hk
  have ik : IsKeys H kvs (ks.map fun x => x.2.1) := isKeys_of pr
  refine wpAny_bind (wpAny_newList ?_ (by rw [← rv.length]; exact hz))
  refine wpAny_bind (wpAny_holding (sort_new (s := { s with heap := h', toks := tk }) (A := X.A.in1) I1 (by show X.A.units + 1 + 66 < cLine; omega) rv (dp_tups ik) ok hz fun h2 I2 => ?_))
  exact wpAny_pure ⟨_, rfl, .ref h'.objs.size, _, I2, rfl, q _ _ (I1.hok.fresh (Nat.le_refl _)) ik⟩
end
abbrev lePD (a b : D) : Bool := PySem.W.dataLe false D.py a b
def srtD (ds : List D) : Option (List D) := if srtOk (D.pys ds) = true then some (ds.mergeSort lePD) else none
theorem pys_map : ∀ ds : List D, D.pys ds = ds.map D.py
  | [] => rfl
  | d :: ds => by
    show d.py :: D.pys ds = _
    rw [pys_map ds]
    rfl
theorem rps_of {K : PySem.W.Frag} {G : Hp} : ∀ {ps : List (V × D)}, (∀ p ∈ ps, Rp K G p.1 p.2) → Rps K G (ps.map (·.1)) (ps.map (·.2))
  | [], _ => .nil
  | p :: ps, h => .cons (h p List.mem_cons_self) (rps_of fun q hq => h q (List.mem_cons_of_mem _ hq))
theorem rps_zip {K : PySem.W.Frag} {G : Hp} : ∀ {vs : List V} {ds : List D}, Rps K G vs ds → ∀ p ∈ vs.zip ds, Rp K G p.1 p.2
  | _, _, .nil, p, hp => by cases hp
  | _, _, .cons h t, p, hp => by
    rw [List.zip_cons_cons] at hp
    rcases List.mem_cons.mp hp with e | hp
    · rw [e]
      exact h
    · exact rps_zip t p hp
theorem zip_mapR {α β γ : Type} (f : β → γ) : ∀ (xs : List α) (ys : List β), xs.zip (ys.map f) = (xs.zip ys).map fun p => (p.1, f p.2)
  | [], _ => rfl
  | _ :: _, [] => rfl
  | x :: xs, y :: ys => by
    rw [List.map_cons, List.zip_cons_cons, List.zip_cons_cons, List.map_cons, zip_mapR f xs ys]
/-- the values in the data's order -/
theorem srtP_rps {K : PySem.W.Frag} {G : Hp} {vs : List V} {ds : List D} (h : Rps K G vs ds) : Rps K G ((srtP (vs.zip (ds.map D.py))).map (·.1)) (ds.mergeSort lePD) := by
  have e1 : srtP (vs.zip (ds.map D.py)) = ((vs.zip ds).mergeSort (PySem.W.dataLe false fun p : V × D => p.2.py)).map fun p => (p.1, p.2.py) := by
    rw [zip_mapR]
    unfold srtP
    rw [List.map_mergeSort]
    intro a _ b _
    rfl
  have e2 : ds.mergeSort lePD = ((vs.zip ds).mergeSort (PySem.W.dataLe false fun p : V × D => p.2.py)).map (·.2) := by
    rw [List.map_mergeSort (s := lePD), zip_snd h.len]
    intro a _ b _
    rfl
  rw [e1, e2, List.map_map]
  exact rps_of fun p hp => rps_zip h p ((List.mergeSort_perm _ _).mem_iff.mp hp)
def sortedD : D → Option (List D)
  | .lst ds => srtD ds
  | .dk kvs => srtD (kvs.map fun p => kD p.1)
  | .dt kvs => srtD (kvs.map fun p => tD p.1)
  | _ => none
theorem RpK.keysEq {κ : Type} {K : PySem.W.Frag} {G : Hp} : ∀ {es : List (κ × V)} {kvs : List (κ × D)}, RpK K G es kvs → es.map (·.1) = kvs.map (·.1)
  | _, _, .nil => rfl
  | _, _, .cons h t => by rw [List.map_cons, List.map_cons, RpK.keysEq t]
theorem keys_tup {H : Hp} : ∀ {kvs : List (List Key × V)} {bs : List Addr}, IsKeys H kvs bs → ∀ b ∈ bs, ∃ xs, H b = some (.tup xs)
  | _, _, .nil, b, hb => by cases hb
  | _, _, .cons h t, b, hb => by
    rcases List.mem_cons.mp hb with e | hb
    · rw [e]
      exact ⟨_, h⟩
    · exact keys_tup t b hb
theorem keys_rps {K : PySem.W.Frag} {H G' : Hp} : ∀ {kvs : List (List Key × V)} {bs : List Addr}, IsKeys H kvs bs → (∀ b ∈ bs, G' b = H b) → Rps K G' (bs.map V.ref) (kvs.map fun p => tD p.1)
  | _, _, .nil, _ => .nil
  | _, _, .cons h t, k => .cons (.tup ((k _ List.mem_cons_self).trans h) (Rps.kVs _)) (keys_rps t fun b hb => k b (List.mem_cons_of_mem _ hb))
section
variable {X : Cx}
theorem canLay_all : ∀ {ds : List D}, srtOk (D.pys ds) = true → PyData.canLayAll0 (D.pys ds) = true := fun {ds} h => by
  have h3 := (srtOk_all h).2.2
  have key : ∀ ps : List PyData, (∀ d ∈ ps, SeqAt.shaped d = true) → PyData.canLayAll0 ps = true := by
    intro ps
    induction ps with
    | nil => intro _; rfl
    | cons p ps ih =>
      intro hp
      rw [PyData.canLayAll0, Bool.and_eq_true]
      exact ⟨SeqAt.canLay_of_shaped (hp p List.mem_cons_self), ih fun d hd => hp d (List.mem_cons_of_mem _ hd)⟩
  exact key _ fun d hd => (h3 d hd).1
theorem blt_sorted (hc : X.calm = true) (hu : X.A.units + 67 < cLine) : BltL X (.builtin "sorted") sortedD := by
  refine ⟨_, callR_or (cr_sortData hu) (callR_or (cr_sortDK hc hu) (cr_sortDT hc hu)), fun G H x d out s hx hg Q k => ?_⟩
  unfold sortedD srtD at hg
  split at hg
  · split at hg
    · rename_i ds hok
      cases hg
      obtain ⟨p, vs, rfl, h1, h2⟩ := hx.lst s
      refine .inl ⟨p, vs, _, rfl, SqL.of h1, h2.dp s (canLay_all hok), hok, fun l hl => ?_⟩
      rw [pys_map]
      exact k G l _ (Same.refl _) (.inl rfl) s hl (srtP_rps h2)
    · cases hg
  · split at hg
    · rename_i kvs hok
      cases hg
      obtain ⟨p, es, rfl, h1, h2⟩ := hx.dk s
      have e1 : (es.map fun p => (kD p.1).py) = (kvs.map fun p => kD p.1).map D.py := by
        have z := congrArg (List.map fun k : Key => (kD k).py) h2.keysEq
        rw [List.map_map, List.map_map] at z
        rw [List.map_map]
        exact z
      rw [pys_map] at hok
      refine .inr (.inl ⟨p, es, rfl, h1, by rw [e1]; exact hok, fun l hl => ?_⟩)
      rw [e1]
      exact k G l _ (Same.refl _) (.inl rfl) s hl (srtP_rps h2.keys)
    · cases hg
  · split at hg
    · rename_i kvs hok
      cases hg
      obtain ⟨p, es, rfl, h1, h2⟩ := hx.dt s
      have e1 : (es.map fun p => (tD p.1).py) = (kvs.map fun p => tD p.1).map D.py := by
        have z := congrArg (List.map fun k : List Key => (tD k).py) h2.keysEq
        rw [List.map_map, List.map_map] at z
        rw [List.map_map]
        exact z
      rw [pys_map] at hok
      refine .inr (.inr ⟨p, es, rfl, h1, by rw [e1]; exact hok, fun l bs hl ik => ?_⟩)
      rw [e1]
      refine k (fun b => match G b with | some o => some o | none => if b ∈ bs then H b else none) l _ (fun b o e => by dsimp only; rw [e]) (.inr fun b o e n => ?_) (fun b o e => ?_) hl (srtP_rps ?_)
      · rw [n] at e
        dsimp only at e
        split at e
        · rename_i hb
          obtain ⟨xs, hx⟩ := keys_tup ik b hb
          rw [hx] at e
          exact ⟨xs, (Option.some.inj e).symm⟩
        · cases e
      · dsimp only at e
        cases q : G b with
        | some u =>
          rw [q] at e
          cases e
          exact s _ _ q
        | none =>
          rw [q] at e
          dsimp only at e
          split at e
          · exact e
          · cases e
      · have e2 : (kvs.map fun p => tD p.1) = es.map fun p => tD p.1 := by
          have z := congrArg (List.map tD) h2.keysEq
          rw [List.map_map, List.map_map] at z
          exact z.symm
        rw [e2]
        refine keys_rps ik fun b hb => ?_
        cases q : G b with
        | some u => exact (s _ _ q).symm
        | none =>
          dsimp only
          rw [if_pos hb]
    · cases hg
  · cases hg
end
end DL

/-! DL16: sets of tuples of any kind of key: looking for one, adding one. -/
namespace DL
open PySem PySem.Spec PyProof.Rows L2

section
variable {P : Program} {w : World} {κ : Type} [DecidableEq κ]
/-- what more is asked of a kind of element -/
structure ElOk (kn : HeapKind P w κ) : Prop where
  ext : ∀ {h h' : Heap} {k : κ} {b : Addr}, kn.is h k b → (∀ c o, h.get? c = some o → o.cls = .type "tuple" → h'.get? c = some o) → kn.is h' k b
  seen : ∀ {A : Around} {E : Value → Shared → Prop} {s : Shared} {k : κ} {b : Addr} {Q : Bool → Shared → Prop}, kn.is s.heap k b → Q false s → wpAny (model P w) A (ofAClassStatement 8 (.ref b)) Q E s
  byv : ∀ {A : Around} {E : Value → Shared → Prop} {s : Shared} {k : κ} {b : Addr} {Q : Bool → Shared → Prop}, kn.is s.heap k b → (∀ r, Q r s) → wpAny (model P w) A (hashByValue 8 (.ref b)) Q E s
variable {kn : HeapKind P w κ}
def rowsM (kn : HeapKind P w κ) (L : List (Addr × κ)) : List (Int × Value) := L.map fun p => (kn.hash p.2, Value.ref p.1)
def hshM (kn : HeapKind P w κ) (L : List (Addr × κ)) : List Int := L.map fun p => kn.hash p.2
/-- the set at a holds these -/
structure SetM (kn : HeapKind P w κ) (h : Heap) (a : Addr) (L : List (Addr × κ)) (es : Array (Int × Value)) (ep : Nat) (t : SetTable) : Prop where
  obj : ∃ o, h.get? a = some o ∧ o.ExactSet ∧ o.data = .set es ep t
  row : es.toList = rowsM kn L
  tab : TabOk t (hshM kn L)
  one : (L.map (·.2)).Nodup
  els : ∀ p ∈ L, kn.is h p.2 p.1
  led : w.params.followText "set-order" = true ∨ t.led = true
  gap : L.length * 5 < t.mask * 3
  few : L.length < 64
variable {A : Around} {E : Value → Shared → Prop} {s : Shared} {a : Addr} {L : List (Addr × κ)} {es : Array (Int × Value)} {ep : Nat} {t : SetTable}
theorem rows_len {es : Array (Int × Value)} (h : es.toList = rowsM kn L) : es.size = L.length := by
  rw [← Array.length_toList, h, rowsM, List.length_map]
theorem rows_at {es : Array (Int × Value)} (h : es.toList = rowsM kn L) (i : Nat) : es[i]? = (L[i]?).map fun p => (kn.hash p.2, Value.ref p.1) := by
  rw [← Array.getElem?_toList, h, rowsM, List.getElem?_map]
theorem SetM.fits (R : SetM kn s.heap a L es ep t) : t.fits es.size = true := by
  have h1 := R.tab.sz
  have h2 := rows_len R.row
  have h3 := R.gap
  rw [hshM, List.length_map] at h1
  unfold SetTable.fits SetTable.fill
  rw [R.tab.dm, Bool.and_eq_true, beq_iff_eq, decide_eq_true_eq]
  show t.place.size = es.size ∧ t.place.size + 0 ≤ t.mask
  omega
theorem SetM.whole (R : SetM kn s.heap a L es ep t) : ¬ t.gaveWay = true := by
  unfold SetTable.gaveWay
  rw [mask_odd R.tab.mok]
  decide
theorem nth_dum (m : Nat) : ∀ (n : Nat) (p : SetTable.Probe), p.dummy = none → (nth m p n).dummy = none
  | 0, _, h => h
  | n + 1, p, h => nth_dum m n (adv m p) (by unfold adv; split <;> exact h)
/-- nothing of a search among such is seen -/
theorem seenM (O : ElOk kn) {A : Around} {k : κ} {b : Addr} {Q : Bool → Shared → Prop} (hk : kn.is s.heap k b) {ys : List Value} (hy : ∀ y ∈ ys, ∃ k' c, y = Value.ref c ∧ kn.is s.heap k' c) (h : Q false s) :
    wpAny (model P w) A (searchCouldBeSeen (.ref b) ys) Q E s := by
  unfold searchCouldBeSeen
  refine wpAny_bind (wpAny_forIn_list _ (fun left r s' => r.1 = none ∧ s' = s ∧ ∀ y ∈ left, ∃ k' c, y = Value.ref c ∧ kn.is s.heap k' c) _ ?_ ?_ _ _ ⟨rfl, rfl, hy⟩)
  · rintro v left r s' ⟨hr, rfl, hall⟩
    obtain ⟨k', c, rfl, hc⟩ := hall v List.mem_cons_self
    have on : ∀ y ∈ left, ∃ k' c, y = Value.ref c ∧ kn.is s'.heap k' c := fun u hu => hall u (List.mem_cons_of_mem _ hu)
    dsimp only
    by_cases hv : (b == c || (carriedByValue (.ref b) && carriedByValue (.ref c))) = true
    · exact wp_if_pos hv (wpAny_pure ⟨rfl, rfl, on⟩)
    · refine wp_if_neg hv (wpAny_bind (kn.quiet hk ?_))
      simp only [Bool.not_true, Bool.false_eq_true, if_false]
      refine wpAny_bind (kn.quiet hc ?_)
      simp only [Bool.not_true, Bool.false_eq_true, if_false]
      refine wpAny_bind (O.seen hk ?_)
      simp only [Bool.false_eq_true, if_false]
      refine wpAny_bind (O.seen hc ?_)
      simp only [Bool.false_eq_true, if_false]
      exact wpAny_pure ⟨rfl, rfl, on⟩
  · rintro ⟨r1, r2⟩ s' ⟨hr, rfl, _⟩
    simp only at hr
    subst hr
    exact wpAny_pure h
/-- the probe's first state -/
abbrev goM (kn : HeapKind P w κ) (t : SetTable) (k : κ) : SetTable.Probe := runAt t.mask (SetTable.bits (kn.hash k) % (t.mask + 1)) (SetTable.bits (kn.hash k))
/-- looking for k from the c-th place of its way on -/
theorem lookM (O : ElOk kn) (R : SetM kn s.heap a L es ep t) {x : Addr} {k : κ} (hx : kn.is s.heap k x) (hu : kn.room A) {N : Nat} (hN : N < 10 * SetTable.turns t.mask)
    (out : way t.mask (kn.hash k) N ∉ t.place.toList) (inn : ∀ c, c < N → way t.mask (kn.hash k) c ∈ t.place.toList) {Q : SetFound → Shared → Prop}
    (yes : k ∈ L.map (·.2) → Q (.there none) s) (no : k ∉ L.map (·.2) → Q (.free (way t.mask (kn.hash k) N) false) s) :
    ∀ (f c : Nat) (stand : Option SetTable.Probe), stand.getD (t.probeStart (kn.hash k)) = nth t.mask (goM kn t k) c → c ≤ N → N - c < f →
      (∀ (i : Nat) p, L[i]? = some p → p.2 = k → ∃ c', c ≤ c' ∧ c' < N ∧ t.place.toList[i]? = some (way t.mask (kn.hash k) c')) →
      wpAny (model P w) A (setSearchFrom a (.ref x) (kn.hash k) true f stand) Q E s := by
  obtain ⟨o, ho, hex, hd⟩ := R.obj
  intro f
  induction f with
  | zero => exact fun c stand _ _ hf _ => absurd hf (Nat.not_lt_zero _)
  | succ f ih =>
    intro c stand hst hc hf later
    have plus : ∀ q, nth t.mask (nth t.mask (goM kn t k) c) q = nth t.mask (goM kn t k) (c + q) := fun q => (nth_add t.mask c _ q).symm
    have atj : ∀ q, (nth t.mask (nth t.mask (goM kn t k) c) q).j = way t.mask (kn.hash k) (c + q) := fun q => congrArg SetTable.Probe.j (plus q)
    have hsh : ∀ (i : Nat) p, L[i]? = some p → ((es[i]?.map (·.1)).getD 0) = kn.hash p.2 := fun i p hp => by rw [rows_at R.row, hp] <;> rfl
    rw [setSearchFrom_succ]
    refine wpAny_bind (wpAny_setState_of ho hd R.fits ?_)
    dsimp only
    refine wp_if_neg R.whole ?_
    try refine wpAny_bind (wpAny_pure ?_)
    rcases go_spec t R.tab.ris R.tab.dm (fun i => (es[i]?.map (·.1)).getD 0) (kn.hash k) (10 * SetTable.turns t.mask) (N - c) (nth t.mask (goM kn t k) c) (nth_dum _ _ _ rfl) (by omega)
      (fun q hq => by rw [atj]; exact inn (c + q) (by omega)) (by rw [atj, show c + (N - c) = N by omega]; exact out) with ⟨q, i, hq, hi, hh, bare, pr⟩ | ⟨bare, pr⟩
    · have pr' : t.probe (fun i => (es[i]?.map (·.1)).getD 0) (kn.hash k) (stand.getD (t.probeStart (kn.hash k))) = some (.candidate (way t.mask (kn.hash k) (c + q)) i (nth t.mask (goM kn t k) (c + (q + 1)))) := by
        rw [hst, ← atj, ← plus]
        exact pr
      rw [pr']
      dsimp only
      rw [atj] at hi
      have hl : i < L.length := by
        have h1 : i < t.place.toList.length := (List.getElem?_eq_some_iff.mp hi).1
        have h2 := R.tab.sz
        rw [hshM, List.length_map] at h2
        rw [Array.length_toList] at h1
        omega
      obtain ⟨p, hp⟩ : ∃ p, L[i]? = some p := ⟨_, List.getElem?_eq_getElem hl⟩
      have pin : p ∈ L := List.mem_of_getElem? hp
      have live : t.slot (way t.mask (kn.hash k) (c + q)) = .live i := slot_live R.tab.ris hi
      have ent : es[i]? = some (kn.hash p.2, Value.ref p.1) := by rw [rows_at R.row, hp] <;> rfl
      have main : wpAny (model P w) A (searchRest a (.ref x) (kn.hash k) true f es t (way t.mask (kn.hash k) (c + q)) i (nth t.mask (goM kn t k) (c + (q + 1)))) Q E s := by
        unfold searchRest
        rw [ent]
        dsimp only
        refine wpAny_bind (wpAny_holding (kn.eqBool hu (R.els p pin) hx ?_))
        refine wpAny_bind (wpAny_setState_of ho hd R.fits ?_)
        dsimp only
        by_cases same : p.2 = k
        · exact wp_if_pos (by simp [same]) (wpAny_pure (yes (List.mem_map.mpr ⟨p, pin, same⟩)))
        · refine wp_if_neg (by simp [same]) ?_
          try refine wpAny_bind (wpAny_pure ?_)
          rw [sameMem]
          dsimp only
          simp only [if_true, live, ent]
          refine wpAny_bind (wpAny_isSame_ref_self (wpAny_bind (wpAny_pure ?_)))
          simp only [if_true]
          refine wp_if_neg (by simp [same]) ?_
          refine ih (c + (q + 1)) _ rfl (by omega) (by omega) fun i0 p0 h0 k0 => ?_
          obtain ⟨c', a1, a2, a3⟩ := later i0 p0 h0 k0
          refine ⟨c', ?_, a2, a3⟩
          have n1 : ¬ c' < c + q := fun lt => bare (c' - c) i0 (by omega) (by rw [atj, show c + (c' - c) = c' by omega]; exact a3) ((hsh i0 p0 h0).trans (congrArg kn.hash k0))
          have n2 : c' ≠ c + q := fun e => by
            rw [e] at a3
            have s0 := slot_live R.tab.ris a3
            rw [live] at s0
            injection s0 with s0
            rw [← s0, hp] at h0
            exact same ((congrArg Prod.snd (Option.some.inj h0)).trans k0)
          omega
      by_cases hl : t.led = true
      · refine wp_if_neg (by simp [hl]) ?_
        try refine wpAny_bind (wpAny_pure ?_)
        exact main
      · refine wp_if_pos (by simp [hl]) (wpAny_bind (seenM O hx (fun y hy => ?_) ?_))
        · obtain ⟨e, he, ee⟩ := List.mem_map.mp hy
          have he1 : e ∈ es ∧ e.1 = kn.hash k := by simpa using he
          have he2 : e ∈ es.toList := by simpa using he1.1
          rw [R.row, rowsM] at he2
          obtain ⟨p2, hp2, e2⟩ := List.mem_map.mp he2
          exact ⟨p2.2, p2.1, by rw [← ee, ← e2], R.els p2 hp2⟩
        · refine wp_if_neg (by decide) ?_
          try refine wpAny_bind (wpAny_pure ?_)
          exact main
    · have pr' : t.probe (fun i => (es[i]?.map (·.1)).getD 0) (kn.hash k) (stand.getD (t.probeStart (kn.hash k))) = some (.empty (way t.mask (kn.hash k) N) none) := by
        have e2 : way t.mask (kn.hash k) N = (nth t.mask (nth t.mask (goM kn t k) c) (N - c)).j := by rw [atj, show c + (N - c) = N by omega]
        rw [hst, e2]
        exact pr
      rw [pr']
      dsimp only
      refine wpAny_pure (no fun hm => ?_)
      obtain ⟨p0, h0, k0⟩ := List.mem_map.mp hm
      obtain ⟨i0, hi0, e0⟩ := List.getElem_of_mem h0
      have h00 : L[i0]? = some p0 := by rw [List.getElem?_eq_getElem hi0, e0]
      obtain ⟨c', a1, a2, a3⟩ := later i0 p0 h00 k0
      exact bare (c' - c) i0 (by omega) (by rw [atj, show c + (c' - c) = c' by omega]; exact a3) ((hsh i0 p0 h00).trans (congrArg kn.hash k0))
/-- the search as adding asks for it -/
theorem findM (O : ElOk kn) (R : SetM kn s.heap a L es ep t) {x : Addr} {k : κ} (hx : kn.is s.heap k x) (hu : kn.room A) {Q : SetFound → Shared → Prop}
    (yes : k ∈ L.map (·.2) → Q (.there none) s)
    (no : ∀ N, k ∉ L.map (·.2) → way t.mask (kn.hash k) N ∉ t.place.toList → (∀ c, c < N → way t.mask (kn.hash k) c ∈ t.place.toList) → Q (.free (way t.mask (kn.hash k) N) false) s) :
    wpAny (model P w) A (setSearch a (.ref x) (kn.hash k) true) Q E s := by
  have gap := R.gap
  have hll : (hshM kn L).length = L.length := List.length_map _
  obtain ⟨N, hN, out, inn⟩ := R.tab.first (by rw [hll]; omega) (kn.hash k)
  have small : 10 * SetTable.turns t.mask ≤ 1420 := by
    unfold SetTable.turns
    rcases R.tab.mok with e | e | e <;> omega
  unfold setSearch
  refine lookM O R hx hu hN out inn yes (fun hn => no N hn out inn) 100000 0 none rfl (Nat.zero_le _) (by omega) fun i p hp hk => ?_
  have hi : (hshM kn L)[i]? = some (kn.hash k) := by rw [hshM, List.getElem?_map, hp, ← hk] <;> rfl
  have hil : i < t.place.toList.length := by
    have h1 : i < L.length := (List.getElem?_eq_some_iff.mp hp).1
    have h2 := R.tab.sz
    rw [Array.length_toList, h2, hll]
    exact h1
  obtain ⟨c, hc, e⟩ := R.tab.before out hi (List.getElem?_eq_getElem hil)
  exact ⟨c, Nat.zero_le _, hc, by rw [List.getElem?_eq_getElem hil, e]⟩
end
end DL

/-! DL17: adding to a set, a set made of a list. -/
namespace DL
open PySem PySem.Spec PyProof.Rows L2

section
variable {P : Program} {w : World} {κ : Type} [DecidableEq κ] {kn : HeapKind P w κ} {A : Around} {E : Value → Shared → Prop} {s : Shared} {a : Addr} {L : List (Addr × κ)} {es : Array (Int × Value)} {ep : Nat} {t : SetTable}
/-- what is no set stays when the set is written -/
theorem ElOk.past (O : ElOk kn) {h h' : Heap} {k : κ} {b : Addr} {o : Obj} (hb : kn.is h k b) (ho : h.get? a = some o) (ht : o.cls = .type "set") (sb : Heap.SameBut a h h') : kn.is h' k b :=
  O.ext hb fun c u hc tu => by
    have ne : c ≠ a := fun e => by
      rw [e, ho] at hc
      rw [Option.some.inj hc, tu] at ht
      have e2 : ("tuple" : String) = "set" := by injection ht
      exact absurd e2 (by decide)
    rw [sb.2 c ne]
    exact hc
/-- rows in another order -/
theorem orderM (row : es.toList = rowsM kn L) (order : Array Nat) (pm : order.toList.Perm (List.range L.length)) :
    ∃ L2, (order.filterMap (es[·]?)).toList = rowsM kn L2 ∧ L2.Perm L ∧ hshM kn L2 = order.toList.map fun i => (es.map (·.1)).getD i 0 := by
  have go : ∀ l : List Nat, (∀ i ∈ l, i < L.length) → l.filterMap (fun i => es[i]?) = rowsM kn (l.filterMap fun i => L[i]?) ∧ hshM kn (l.filterMap fun i => L[i]?) = l.map fun i => (es.map (·.1)).getD i 0 := by
    intro l
    induction l with
    | nil => exact fun _ => ⟨rfl, rfl⟩
    | cons i l ih =>
      intro hl
      have hi := hl i List.mem_cons_self
      obtain ⟨e1, e2⟩ := ih fun j hj => hl j (List.mem_cons_of_mem _ hj)
      have hL : L[i]? = some L[i] := List.getElem?_eq_getElem hi
      have hE : es[i]? = some (kn.hash (L[i]).2, Value.ref (L[i]).1) := by rw [rows_at row, hL] <;> rfl
      have hG : (es.map (·.1)).getD i 0 = kn.hash (L[i]).2 := by
        have e5 : (es.map (·.1))[i]? = some (kn.hash (L[i]).2) := by rw [Array.getElem?_map, hE] <;> rfl
        simp [Array.getD_eq_getD_getElem?, e5]
      rw [List.filterMap_cons_some hE, List.filterMap_cons_some hL, e1]
      refine ⟨rfl, ?_⟩
      show kn.hash (L[i]).2 :: hshM kn _ = _
      rw [e2, List.map_cons, hG]
  obtain ⟨g1, g2⟩ := go order.toList fun i hi => List.mem_range.mp (pm.mem_iff.mp hi)
  refine ⟨_, by first | (rw [Array.toList_filterMap]; exact g1) | simpa using g1, (pm.filterMap _).trans (List.Perm.of_eq ?_), g2⟩
  apply List.ext_getElem?
  intro j
  have all : ∀ n, n ≤ L.length → (List.range n).filterMap (fun i => L[i]?) = L.take n := by
    intro n
    induction n with
    | zero => exact fun _ => rfl
    | succ n ih =>
      intro hn
      have hg : L[n]? = some L[n] := List.getElem?_eq_getElem hn
      rw [List.range_succ, List.filterMap_append, ih (Nat.le_of_lt hn), List.take_succ, hg, List.filterMap_cons_some hg]
      rfl
  rw [all L.length (Nat.le_refl _), List.take_length]
/-- the table laid anew -/
theorem layM (O : ElOk kn) {o : Obj} (ho : s.heap.get? a = some o) (hex : o.ExactSet) (hd : o.data = .set es ep t) (row : es.toList = rowsM kn L) (hsz : t.place.size = es.size) (hdm : t.dummies = #[]) (hfl : es.size ≤ t.mask)
    (one : (L.map (·.2)).Nodup) (els : ∀ p ∈ L, kn.is s.heap p.2 p.1) (led : w.params.followText "set-order" = true ∨ t.led = true) (few : L.length < 64) {wanted M : Nat}
    (hw : SetTable.sizeAbove wanted - 1 = M) (hM : MaskOk M) (hw2 : SetTable.sizeAbove wanted ≤ 128) (gap : L.length * 5 < M * 3) {Q : Unit → Shared → Prop}
    (k : ∀ h' L' es' ep' t', Heap.SameBut a s.heap h' → SetM kn h' a L' es' ep' t' → L'.Perm L → Q () { s with heap := h' }) : wpAny (model P w) A (setRelay a wanted) Q E s := by
  have hsl := rows_len row
  have hfits : t.fits es.size = true := by
    unfold SetTable.fits SetTable.fill
    rw [hdm, Bool.and_eq_true, beq_iff_eq, decide_eq_true_eq]
    exact ⟨hsz, by show t.place.size + 0 ≤ t.mask; omega⟩
  obtain ⟨t', order, e, pm, T, em, el, _, _⟩ := relaid_ok t (hs := es.map (·.1)) (wanted := wanted) hw hM (by rw [Array.size_map, hsl]; omega)
  rw [Array.size_map, hsl] at pm
  obtain ⟨L2, r1, r2, r3⟩ := orderM row order pm
  rw [← r3] at T
  have hs2 : (order.filterMap (es[·]?)).size = es.size := by rw [rows_len r1, r2.length_eq, hsl]
  rw [setRelay_eq]
  refine wpAny_bind (wpAny_setState_of ho hd hfits ?_)
  dsimp only
  refine wp_if_neg (by rw [sizeLine_eq]; omega) ?_
  try refine wpAny_bind (wpAny_pure ?_)
  rw [e]
  dsimp only
  refine wpAny_bind (wp_if_neg (by rw [hs2]; simp) ?_)
  try refine wpAny_bind (wpAny_pure ?_)
  refine wpAny_pure ?_
  dsimp only
  have sb : Heap.SameBut a s.heap (s.heap.update a (Obj.putSet (order.filterMap (es[·]?)) t')) := Heap.SameBut.update ..
  refine wpAny_storeSet_of ho hd (k _ L2 _ (ep + 1) t' sb ⟨⟨_, store_at ho hd, ⟨hex.1, hex.2.1, hex.2.2⟩, rfl⟩, r1, T, (r2.map (·.2)).nodup_iff.mpr one, fun p hp => O.past (els p (r2.mem_iff.mp hp)) ho hex.1 sb, by rw [el]; exact led, by rw [r2.length_eq, em]; exact gap, by rw [r2.length_eq]; exact few⟩ r2) (by rw [hs2, hsl, sizeLine_eq]; omega)
theorem rowsM_put (L : List (Addr × κ)) (p : Nat) (x : Addr) (k : κ) : rowsM kn (L.take p ++ (x, k) :: L.drop p) = (rowsM kn L).take p ++ (kn.hash k, Value.ref x) :: (rowsM kn L).drop p := by
  simp only [rowsM, List.map_append, List.map_cons, List.map_take, List.map_drop]
theorem hshM_put (L : List (Addr × κ)) (p : Nat) (x : Addr) (k : κ) : hshM kn (L.take p ++ (x, k) :: L.drop p) = (hshM kn L).take p ++ kn.hash k :: (hshM kn L).drop p := by
  simp only [hshM, List.map_append, List.map_cons, List.map_take, List.map_drop]
/-- one more, or none -/
theorem addM (O : ElOk kn) (R : SetM kn s.heap a L es ep t) {x : Addr} {k : κ} (hx : kn.is s.heap k x) (hu : kn.room A) (few : L.length + 1 < 64) {Q : Bool → Shared → Prop}
    (k0 : ∀ b h' L' es' ep' t', Heap.SameBut a s.heap h' → SetM kn h' a L' es' ep' t' → (k ∈ L.map (·.2) → L' = L) → (k ∉ L.map (·.2) → L'.Perm ((x, k) :: L)) → Q b { s with heap := h' }) :
    wpAny (model P w) A (setAddHashed a (.ref x) (kn.hash k)) Q E s := by
  obtain ⟨o, ho, hex, hd⟩ := R.obj
  have hsl := rows_len R.row
  have gap := R.gap
  unfold setAddHashed
  refine wpAny_holding ?_
  rw [show (100000 : Nat) = 99999 + 1 from rfl, setAddHashedIn_succ]
  refine wpAny_bind (wpAny_setState_of ho hd R.fits ?_)
  dsimp only
  refine wp_if_neg (by simp [byScan, Value.scannable]) ?_
  try refine wpAny_bind (wpAny_pure ?_)
  refine wpAny_bind (findM O R hx hu (fun hm => wpAny_pure (k0 false s.heap L es ep t (Heap.SameBut.refl a s.heap) R (fun _ => rfl) fun z => absurd hm z)) fun N hm out inn => ?_)
  dsimp only
  refine wpAny_bind (wpAny_setState_of ho hd R.fits ?_)
  dsimp only
  obtain ⟨q1, q2, q3, q4, q5, _, _, _, q9⟩ := R.tab.put out inn
  generalize t.put (way t.mask (kn.hash k) N) = pt at q1 q3 q4 q5 q9 ⊢
  obtain ⟨t1, p⟩ := pt
  dsimp only at q1 q3 q4 q5 q9 ⊢
  subst q1
  have hll : (hshM kn L).length = L.length := List.length_map _
  generalize SetTable.below t.place (way t.mask (kn.hash k) N) = p at q2 q3 ⊢
  have hin : (SetTable.insertAt es p (kn.hash k, Value.ref x)).toList = rowsM kn (L.take p ++ (x, k) :: L.drop p) := by rw [SetTable.toList_insertAt, rowsM_put, R.row]
  rw [← hshM_put L p x k] at q3
  have pm := put_perm L p (x, k)
  have hlen : (L.take p ++ (x, k) :: L.drop p).length = L.length + 1 := pm.length_eq
  have one1 : ((L.take p ++ (x, k) :: L.drop p).map (·.2)).Nodup := (pm.map (·.2)).nodup_iff.mpr (by rw [List.map_cons]; exact List.nodup_cons.mpr ⟨hm, R.one⟩)
  have hes : (SetTable.insertAt es p (kn.hash k, Value.ref x)).size = L.length + 1 := by rw [rows_len hin, hlen]
  generalize SetTable.insertAt es p (kn.hash k, Value.ref x) = es1 at hin hes ⊢
  generalize L.take p ++ (x, k) :: L.drop p = L1 at pm hlen q3 one1 hin
  rw [hll] at q9
  have fin : ∀ t2 : SetTable, t2.mask = t1.mask → t2.tooFull = t1.tooFull → TabOk t2 (hshM kn L1) → (w.params.followText "set-order" = true ∨ t2.led = true) →
      wpAny (model P w) A (do
        storeSet a es1 t2
        if !false && t2.tooFull then setRelay a (SetTable.grown (es.size + 1))
        return true) Q E s := by
    intro t2 m2 f2 T2 ld2
    refine wpAny_bind (wpAny_storeSet_of ho hd ?_ (by rw [hes, sizeLine_eq]; omega))
    have sb : Heap.SameBut a s.heap (s.heap.update a (Obj.putSet es1 t2)) := Heap.SameBut.update ..
    have ho1 := store_at (es' := es1) (t' := t2) ho hd
    generalize s.heap.update a (Obj.putSet es1 t2) = h1 at sb ho1 ⊢
    have els1 : ∀ p ∈ L1, kn.is h1 p.2 p.1 := fun p hp => by
      rcases List.mem_cons.mp (pm.mem_iff.mp hp) with e | hp
      · rw [e]
        exact O.past hx ho hex.1 sb
      · exact O.past (R.els p hp) ho hex.1 sb
    by_cases hf : t2.tooFull = true
    · have full : (L.length + 1) * 5 ≥ t1.mask * 3 := by
        have h := hf
        rw [f2] at h
        unfold SetTable.tooFull at h
        rw [decide_eq_true_eq, q9] at h
        exact h
      have sz1 : t2.place.size = es1.size := by
        rw [T2.sz, hes, hshM, List.length_map, hlen]
      have two : (t.mask = 7 ∧ L.length = 4) ∨ (t.mask = 31 ∧ L.length = 18) := by
        rw [q4] at full
        rcases R.tab.mok with e | e | e
        · exact .inl ⟨e, by omega⟩
        · exact .inr ⟨e, by omega⟩
        · omega
      have go : ∀ M, SetTable.sizeAbove (SetTable.grown (L.length + 1)) - 1 = M → MaskOk M → SetTable.sizeAbove (SetTable.grown (L.length + 1)) ≤ 128 → (L.length + 1) * 5 < M * 3 →
          wpAny (model P w) A (setRelay a (SetTable.grown (L.length + 1))) (fun _ s' => wpAny (model P w) A (pure true) Q E s') E { s with heap := h1 } := fun M c1 c2 c3 c4 =>
        layM O (s := { s with heap := h1 }) ho1 ⟨hex.1, hex.2.1, hex.2.2⟩ rfl hin sz1 T2.dm (by rw [hes, m2, q4]; rcases two with ⟨e, e2⟩ | ⟨e, e2⟩ <;> omega) one1 els1 ld2 (by rw [hlen]; exact few) c1 c2 c3 (by rw [hlen]; exact c4)
          fun h2 L2 es2 ep2 t2 sb2 R2 pm2 => wpAny_pure (k0 true h2 L2 es2 ep2 t2 (sb.trans sb2) R2 (fun z => absurd z hm) fun _ => pm2.trans pm)
      rw [hsl]
      first
        | (refine wpAny_bind ?_; refine wp_if_pos (by simp [hf]) ?_)
        | (refine wp_if_pos (by simp [hf]) ?_; refine wpAny_bind ?_)
      rcases two with ⟨_, e2⟩ | ⟨_, e2⟩
      · exact go 31 (by rw [e2, size_20]) (.inr (.inl rfl)) (by rw [e2, size_20]; decide) (by omega)
      · exact go 127 (by rw [e2, size_76]) (.inr (.inr rfl)) (by rw [e2, size_76]; decide) (by omega)
    · first
        | refine wp_if_neg (by simp [hf]) ?_
        | (refine wpAny_bind ?_; refine wp_if_neg (by simp [hf]) ?_; refine wpAny_pure ?_)
      refine wpAny_pure (k0 true h1 L1 es1 (ep + 1) t2 sb ⟨⟨_, ho1, ⟨hex.1, hex.2.1, hex.2.2⟩, rfl⟩, hin, T2, one1, els1, ld2, ?_, by rw [hlen]; exact few⟩ (fun z => absurd z hm) fun _ => pm)
      have h := hf
      rw [f2] at h
      unfold SetTable.tooFull at h
      rw [decide_eq_true_eq, q9] at h
      rw [hlen, m2]
      omega
  have ld1 : w.params.followText "set-order" = true ∨ t1.led = true := by rw [q5]; exact R.led
  have both : ∀ r : Bool, wpAny (model P w) A (do
      storeSet a es1 (if r = true then t1 else { t1 with plain := false })
      if !false && (if r = true then t1 else { t1 with plain := false }).tooFull then setRelay a (SetTable.grown (es.size + 1))
      return true) Q E s := fun r => by
    cases r with
    | true => exact fin t1 rfl rfl q3 ld1
    | false => exact fin { t1 with plain := false } rfl rfl ⟨q3.ris, q3.dm, q3.sz, q3.mok, q3.bd, q3.reach⟩ ld1
  by_cases hp1 : t1.plain = true
  · first
      | (refine wpAny_bind ?_; refine wp_if_pos hp1 ?_; exact O.byv hx fun r => both r)
      | exact wp_if_pos hp1 (wpAny_bind (O.byv hx fun r => both r))
  · first
      | (refine wpAny_bind ?_; refine wp_if_neg hp1 ?_; exact wpAny_pure (both true))
      | exact wp_if_neg hp1 (wpAny_bind (wpAny_pure (both true)))
end
end DL

/-! DL18: a set made of a list of such. -/
namespace DL
open PySem PySem.Spec PyProof.Rows L2

section
variable {P : Program} {w : World} {κ : Type} [DecidableEq κ] {kn : HeapKind P w κ}
/-- what came of the first i -/
structure Come (ks : List (Addr × κ)) (i : Nat) (L : List (Addr × κ)) : Prop where
  sub : ∀ p ∈ L, p ∈ ks.take i
  all : ∀ p ∈ ks.take i, p.2 ∈ L.map (·.2)
  len : L.length ≤ i
theorem Come.none (ks : List (Addr × κ)) : Come ks 0 [] := ⟨fun p h => (by cases h), fun p h => (by simp at h), Nat.le_refl _⟩
theorem Come.old {ks L : List (Addr × κ)} {i : Nat} {x : Addr × κ} (g : Come ks i L) (h : ks[i]? = some x) (hm : x.2 ∈ L.map (·.2)) : Come ks (i + 1) L := by
  have tk := take_next h
  refine ⟨fun p hp => ?_, fun p hp => ?_, Nat.le_succ_of_le g.len⟩
  · rw [tk]
    exact List.mem_append_left _ (g.sub p hp)
  · rw [tk] at hp
    rcases List.mem_append.mp hp with z | z
    · exact g.all p z
    · rwa [List.mem_singleton.mp z]
theorem Come.new {ks L L' : List (Addr × κ)} {i : Nat} {x : Addr × κ} (g : Come ks i L) (h : ks[i]? = some x) (pm : L'.Perm (x :: L)) : Come ks (i + 1) L' := by
  have tk := take_next h
  refine ⟨fun p hp => ?_, fun p hp => ?_, by rw [pm.length_eq]; exact Nat.succ_le_succ g.len⟩
  · rw [tk]
    rcases List.mem_cons.mp (pm.mem_iff.mp hp) with e | z
    · exact List.mem_append_right _ (List.mem_singleton.mpr e)
    · exact List.mem_append_left _ (g.sub p z)
  · rw [(pm.map (·.2)).mem_iff, List.map_cons]
    rw [tk] at hp
    rcases List.mem_append.mp hp with z | z
    · exact List.mem_cons_of_mem _ (g.all p z)
    · rw [List.mem_singleton.mp z]
      exact List.mem_cons_self
theorem SetM.on {h h' : Heap} {a : Addr} {L : List (Addr × κ)} {es : Array (Int × Value)} {ep : Nat} {t : SetTable} (R : SetM kn h a L es ep t) (ha : ∀ o, h.get? a = some o → h'.get? a = some o) (he : ∀ p ∈ L, kn.is h' p.2 p.1) : SetM kn h' a L es ep t :=
  let ⟨o, ho, r⟩ := R.obj
  ⟨⟨o, ha o ho, r⟩, R.row, R.tab, R.one, he, R.led, R.gap, R.few⟩
abbrev bareSet (w : World) : Obj := { cls := .type "set", dict := none, data := .set #[] 0 (.fresh 0 0 (!w.params.followText "set-order")) }
theorem SetM.bare {h : Heap} {a : Addr} (ho : h.get? a = some (bareSet w)) : SetM kn h a [] #[] 0 (.fresh 0 0 (!w.params.followText "set-order")) where
  obj := ⟨_, ho, ⟨rfl, rfl, rfl⟩, rfl⟩
  row := rfl
  tab := ⟨List.Pairwise.nil, rfl, rfl, .inl rfl, fun x hx => (by cases hx), fun i h j hi => (by simp [hshM] at hi)⟩
  one := List.nodup_nil
  els := fun p hp => (by cases hp)
  led := by
    cases e : w.params.followText "set-order"
    · exact .inr (by show (!false) = true; rfl)
    · exact .inl rfl
  gap := by show 0 * 5 < 7 * 3; decide
  few := by show 0 < 64; decide
variable {A : Around} {E : Value → Shared → Prop} {s : Shared}
/-- the update's rounds -/
theorem roundsM (O : ElOk kn) {I : Addr} {fp wr : List Addr} {G : Array GenState → Array GenState → Prop} {n : Nat} {Pv : Nat → Value → Prop} {St : Nat → Shared → Prop} {R : Result → Shared → Prop}
    (W : WalksS P w A.in1 I fp wr G n Pv St) (S : Addr) (apart : S ∉ fp) (ks : List (Addr × κ)) (hn : n = ks.length) (few : ks.length < 64) (val : ∀ i v, Pv i v → ∃ p, ks[i]? = some p ∧ v = .ref p.1)
    (h0 : Heap) (hk : ∀ p ∈ ks, kn.is h0 p.2 p.1) (hS0 : h0.get? S = none) (hw0 : ∀ b ∈ wr, h0.get? b = none) (hu : kn.room A.in1) :
    ∀ (left i : Nat) (s : Shared), n - i = left → i ≤ n → St i s → (∀ b o, h0.get? b = some o → s.heap.get? b = some o) → (∃ L es ep t, SetM kn s.heap S L es ep t ∧ Come ks i L) →
      (∀ s' L es ep t, Moved (S :: wr) G s s' → SetM kn s'.heap S L es ep t → Come ks n L → (∀ b o, h0.get? b = some o → s'.heap.get? b = some o) → R (.ok (.ret .none)) s') →
      codeAny (model P w) A (.builtin "set.update.loop" ⟨[.ref S, .ref I], []⟩) R s := by
  have outw : S ∉ wr := fun h => apart (W.sub _ h)
  have more : ∀ b ∈ wr, b ∈ S :: wr := fun b hb => List.mem_cons_of_mem _ hb
  have stays : ∀ {s s' : Shared}, Moved wr G s s' → (∀ b o, h0.get? b = some o → s.heap.get? b = some o) → ∀ b o, h0.get? b = some o → s'.heap.get? b = some o := fun hm kp b o e =>
    hm.heap b o (fun hb => by rw [hw0 b hb] at e; cases e) (kp b o e)
  intro left
  induction left with
  | zero =>
    intro i s hl hi hst kp ⟨L, es, ep, t, hS, g⟩ hR
    obtain rfl : i = n := by omega
    refine codeAny_builtin F.entry_set_update_loop ?_
    rw [Around.under_plainId F.plain_set_update_loop _]
    show wpAny _ A.in1 (pyNext (.ref I) >>= _) _ _ s
    refine wpAny_bind (W.done s _ _ hst fun s' hm => ?_)
    show wpAny _ A.in1 (ret Value.none) _ _ s'
    have kp' := stays hm kp
    have inK : ∀ p ∈ L, p ∈ ks := fun p hp => List.mem_of_mem_take (g.sub p hp)
    exact wpAny_pure (hR s' L es ep t (hm.mono more) (hS.on (fun o e => hm.heap S o outw e) fun p hp => O.ext (hk p (inK p hp)) fun c o q _ => kp' c o q) g kp')
  | succ left ih =>
    intro i s hl hi hst kp ⟨L, es, ep, t, hS, g⟩ hR
    have hlt : i < n := by omega
    refine codeAny_builtin F.entry_set_update_loop ?_
    rw [Around.under_plainId F.plain_set_update_loop _]
    show wpAny _ A.in1 (pyNext (.ref I) >>= _) _ _ s
    refine wpAny_bind (W.item i s _ _ hlt hst fun v s' hP hst' hm => ?_)
    obtain ⟨p, hp, rfl⟩ := val i v hP
    have kp' := stays hm kp
    have inK : ∀ p ∈ L, p ∈ ks := fun p hp => List.mem_of_mem_take (g.sub p hp)
    have hS' : SetM kn s'.heap S L es ep t := hS.on (fun o e => hm.heap S o outw e) fun q hq => O.ext (hk q (inK q hq)) fun c o z _ => kp' c o z
    have hx : kn.is s'.heap p.2 p.1 := O.ext (hk p (List.mem_of_getElem? hp)) fun c o z _ => kp' c o z
    show wpAny _ A.in1 (holding [Value.ref p.1] (setAdd S (.ref p.1)) >>= _) _ _ s'
    refine wpAny_bind (wpAny_holding ?_)
    unfold setAdd
    refine wpAny_holding (wpAny_bind (kn.pyHash hu hx ?_))
    refine addM O (s := { s' with toks := s'.toks + kn.draws p.2 }) hS' hx hu (by have := g.len; omega) fun b h' L' es' ep' t' sb hS2 c1 c2 => ?_
    have g' : Come ks (i + 1) L' := by
      by_cases c : p.2 ∈ L.map (·.2)
      · rw [c1 c]
        exact g.old hp c
      · exact g.new hp (c2 c)
    have kp2 : ∀ b o, h0.get? b = some o → h'.get? b = some o := fun b o e => (sb.2 b (fun z => by rw [z, hS0] at e; cases e)).trans (kp' b o e)
    refine wpAny_pure ⟨plainId_quiet F.plain_set_update_loop _, ih (i + 1) _ (by omega) hlt (W.frame _ s' _ _ hst' (Nat.le_add_right _ _) fun b hb o e => ?_) kp2 ⟨L', es', ep', t', hS2, g'⟩ fun s'' L2 es2 ep2 t2 hm2 hS3 g2 kp3 => ?_⟩
    · rw [sb.2 b (fun z : b = S => apart (by rw [← z]; exact hb))]
      exact e
    · refine hR s'' L2 es2 ep2 t2 (Moved.trans W.gtrans ((hm.mono more).then_heap (Nat.le_add_right _ _) fun b o hb e => ?_) hm2) hS3 g2 kp3
      rw [sb.2 b (fun z : b = S => hb (by rw [z]; exact List.mem_cons_self))]
      exact e
set_option maxHeartbeats 3200000 in
/-- set(xs), by what the update's rounds leave -/
theorem setOfG {l : Addr} {items : Array Value} {Post : Heap → Prop} {Q : Value → Shared → Prop} (hh : A.handled = none) (hl : s.heap.IsList l items)
    (loop : ∀ {I : Addr} {fp wr : List Addr} {G : Array GenState → Array GenState → Prop} {St : Nat → Shared → Prop} {R : Result → Shared → Prop}, WalksS P w A.in1.in1.in1 I fp wr G items.size (fun i v => items[i]? = some v) St → s.heap.objs.size ∉ fp →
      (∀ b ∈ wr, s.heap.get? b = none) → ∀ s0 : Shared, St 0 s0 → (∀ b o, s.heap.get? b = some o → s0.heap.get? b = some o) → s0.heap.get? s.heap.objs.size = some (bareSet w) →
      (∀ s', Moved (s.heap.objs.size :: wr) G s0 s' → Post s'.heap → (∀ b o, s.heap.get? b = some o → s'.heap.get? b = some o) → R (.ok (.ret .none)) s') →
      codeAny (model P w) A.in1.in1 (.builtin "set.update.loop" ⟨[.ref s.heap.objs.size, .ref I], []⟩) R s0)
    (h : ∀ (h' : Heap) (tk : Nat), Post h' → (∀ b o, s.heap.get? b = some o → h'.get? b = some o) → Q (.ref s.heap.objs.size) { s with heap := h', toks := tk }) :
    wpAny (model P w) A (call (.type "set") [.ref l]) Q E s := by
  obtain ⟨c, tl, hmro⟩ := F.called_set.mro
  have hmade := F.called_set.made
  have hsub := F.called_set.sub
  refine wpAny_call (codeAny_of_tree ?_)
  show wpAny _ _ (callAny (.type "set") _) _ _ _
  refine wpAny_pure ⟨Code.quiet_builtin _ (by decide +kernel), codeAny_builtin F.entry_type_call ?_⟩
  rw [Around.under_plain (weight_type_call_type "set" [.ref l] []) rfl]
  have h1 := F.called_set.notType
  have h2 := F.called_set.canCreate
  have hct := F.typeCall_set_1 (.ref l)
  repeat (any_goals (first | assumption | wp_step))
  refine codeAny_mono (code_set_led1 (.ref l) (E := E) (Q₁ := fun x s1 => x = .ref s.heap.objs.size ∧ s1 = { s with heap := s.heap.push (bareSet w) }) ⟨rfl, rfl⟩) fun r s1 hr => ?_
  cases r with
  | error e => exact hr
  | ok fl =>
    cases fl with
    | ret x =>
      obtain ⟨rfl, rfl⟩ := hr
      have hS : (s.heap.push (bareSet w)).get? s.heap.objs.size = some (bareSet w) := Heap.get?_push_size _ rfl
      have hT : Shared.TypeIs { s with heap := s.heap.push (bareSet w) } (.ref s.heap.objs.size) "set" := ⟨_, hS, rfl⟩
      have hli := F.called_set.init.lookup
      have hbi := F.called_set.init.bind (.ref s.heap.objs.size)
      repeat (any_goals (first | assumption | wp_step))
      refine codeAny_mono (codeAny_call_builtin (R := wants (fun r s2 => r = .none ∧ ∃ h' tk, s2 = { s with heap := h', toks := tk } ∧ Post h' ∧
          (∀ b o, s.heap.get? b = some o → h'.get? b = some o)) E) F.called_set.init.plain F.entry_set_init (check_set_init_1 hT ?_)) fun r2 s2 hr2 => ?_
      · obtain ⟨ol, hol, hcl, nl, hdl⟩ := hl
        obtain ⟨ocls, odict, odata, oslots⟩ := ol
        simp only at hcl hdl
        subst hcl
        subst hdl
        have hol' : (s.heap.push (bareSet w)).get? l = some { cls := .type "list", dict := odict, data := .seq items nl, slots := oslots } := Heap.get?_push_of_some _ hol
        have hsls := F.sub_list_set
        have hslf := F.sub_list_frozenset
        have hne : (Value.type "list" == Value.type "dict") = false := by decide
        have hl1 : (s.heap.push (bareSet w)).IsList l items := ⟨_, hol', rfl, nl, rfl⟩
        unfold Builtin.«set.__init__» noKeywords Builtin.Frozenset.updateFrom
        generalize hPI : pyIter = PI
        wp_walk
        subst hPI
        refine wpAny_pyIter_list hl1 ?_
        refine wpAny_bind (wpAny_runValue ?_)
        have hlS : l < s.heap.objs.size := Heap.lt_size hol
        have hz1 : (s.heap.push (bareSet w)).objs.size = s.heap.objs.size + 1 := Heap.size_push ..
        have hneI : l ≠ (s.heap.push (bareSet w)).objs.size := by
          rw [hz1]
          exact Nat.ne_of_lt (Nat.lt_succ_of_lt hlS)
        have apart : s.heap.objs.size ∉ [(s.heap.push (bareSet w)).objs.size, l] := by
          rw [hz1]
          simp only [List.mem_cons, List.not_mem_nil, or_false, not_or]
          exact ⟨Nat.ne_of_lt (Nat.lt_succ_self _), Nat.ne_of_gt hlS⟩
        have fresh : ∀ b, s.heap.objs.size ≤ b → s.heap.get? b = none := fun b hb => by
          cases q : s.heap.get? b with
          | none => rfl
          | some o => exact absurd (Nat.lt_of_lt_of_le (Heap.lt_size q) hb) (Nat.lt_irrefl _)
        refine loop ((Walks.list (A := A.in1.in1.in1) (by simp [hh]) _ l hneI items).toS)
          apart (fun b hb => fresh b (by
            rw [List.mem_singleton.mp hb, hz1]
            exact Nat.le_succ _)) _
          ⟨⟨_, Heap.get?_push_size _ rfl, rfl, rfl⟩, (hl1.push _)⟩ (fun b o e => Heap.get?_push_of_some _ (Heap.get?_push_of_some _ e)) (Heap.get?_push_of_some _ hS) ?hR
        case hR =>
          intro s' hm po kp
          obtain ⟨h', g2, d', tk', os'⟩ := s'
          have eg : g2 = s.gens := hm.gens
          have ed : d' = s.drawn := hm.drawn
          have eo : os' = s.os := hm.os
          subst eg
          subst ed
          subst eo
          show wpAny _ _ _ _ _ _
          refine wpAny_pure ?_
          show wpAny _ _ (ret Value.none) _ _ _
          exact wpAny_pure ⟨rfl, h', tk', rfl, po, kp⟩
      · cases r2 with
        | error e => exact hr2
        | ok fl2 =>
          cases fl2 with
          | ret r =>
            obtain ⟨rfl, h', tk, rfl, po, hk'⟩ := hr2
            repeat (any_goals (first | assumption | wp_step))
            exact h _ _ po hk'
          | _ => exact hr2.elim
    | _ => exact hr.elim
/-- set(xs), xs a list of such -/
theorem setOfM (O : ElOk kn) {l : Addr} {items : Array Value} (ks : List (Addr × κ)) {Q : Value → Shared → Prop} (hh : A.handled = none) (hl : s.heap.IsList l items) (hit : items.toList = ks.map fun p => Value.ref p.1)
    (hk : ∀ p ∈ ks, kn.is s.heap p.2 p.1) (few : ks.length < 64) (hu : ∀ B : Around, B.units ≤ A.units + 4 → kn.room B)
    (h : ∀ (h' : Heap) (tk : Nat) L es ep t, SetM kn h' s.heap.objs.size L es ep t → Come ks ks.length L → (∀ b o, s.heap.get? b = some o → h'.get? b = some o) → Q (.ref s.heap.objs.size) { s with heap := h', toks := tk }) :
    wpAny (model P w) A (call (.type "set") [.ref l]) Q E s := by
  have size : items.size = ks.length := by rw [← Array.length_toList, hit, List.length_map]
  have val : ∀ (i : Nat) (v : Value), items[i]? = some v → ∃ p, ks[i]? = some p ∧ v = .ref p.1 := fun i v hv => by
    rw [← Array.getElem?_toList, hit, List.getElem?_map] at hv
    obtain ⟨p, e1, e2⟩ := Option.map_eq_some_iff.mp hv
    exact ⟨p, e1, e2.symm⟩
  have none0 : s.heap.get? s.heap.objs.size = none := by
    cases q : s.heap.get? s.heap.objs.size with
    | none => rfl
    | some o => exact absurd (Heap.lt_size q) (Nat.lt_irrefl _)
  refine setOfG (Post := fun h' => ∃ L es ep t, SetM kn h' s.heap.objs.size L es ep t ∧ Come ks ks.length L) hh hl (fun {I fp wr G St R} W ap wn s0 st kp at0 hR => ?_) fun h' tk ⟨L, es, ep, t, R, g⟩ kp => h h' tk L es ep t R g kp
  refine roundsM O W s.heap.objs.size ap ks size few val s.heap hk none0 wn (hu _ (by show A.units + 1 + 1 + 1 ≤ A.units + 4; omega)) (items.size - 0) 0 _ (by omega) (Nat.zero_le _) st kp ⟨[], #[], 0, _, SetM.bare at0, Come.none ks⟩ fun s' L es ep t m R g k => ?_
  rw [size] at g
  exact hR s' m ⟨L, es, ep, t, R, g⟩ k
/-- set(xs), xs a list of ints -/
theorem setOfI {l : Addr} {items : Array Value} (ns : List Int) {Q : Value → Shared → Prop} (hh : A.handled = none) (hl : s.heap.IsList l items) (hit : IntsAre items.toList ns) (hb : ns.length + 1 < scanBound)
    (h : ∀ (h' : Heap) (tk c : Nat), SetR w h' s.heap.objs.size (fun j => decide (j ∈ ns)) c → c ≤ ns.length → (∀ b o, s.heap.get? b = some o → h'.get? b = some o) → Q (.ref s.heap.objs.size) { s with heap := h', toks := tk }) :
    wpAny (model P w) A (call (.type "set") [.ref l]) Q E s := by
  have size : items.size = ns.length := by rw [← Array.length_toList, hit.length]
  have val : ∀ (i : Nat) (v : Value), items[i]? = some v → ∃ k t, ns[i]? = some k ∧ v = .int k t := fun i v hv => by
    have hi : i < ns.length := by
      have := (Array.getElem?_eq_some_iff.mp hv).1
      omega
    obtain ⟨t, e⟩ := hit.int_at i v (by rw [Array.getElem?_toList]; exact hv)
    exact ⟨ns[i], t, List.getElem?_eq_getElem hi, by rw [e, List.getD_eq_getElem?_getD, List.getElem?_eq_getElem hi]; rfl⟩
  refine setOfG (Post := fun h' => ∃ c, SetR w h' s.heap.objs.size (fun j => decide (j ∈ ns)) c ∧ c ≤ ns.length) hh hl (fun {I fp wr G St R} W ap wn s0 st kp at0 hR => ?_) fun h' tk ⟨c, R, g⟩ kp => h h' tk c R g kp
  refine set_update_ints W s.heap.objs.size ap ns size hb val (items.size - 0) 0 _ (by omega) (Nat.zero_le _) st ⟨0, Nat.le_refl 0, setR_new_at at0⟩ fun s' c m hc R => ?_
  rw [size] at hc
  refine hR s' m ⟨c, R, hc⟩ fun b o e => ?_
  have hb0 : b < s.heap.objs.size := Heap.lt_size e
  refine m.heap b o (fun hm => ?_) (kp b o e)
  rcases List.mem_cons.mp hm with z | z
  · exact absurd (z ▸ hb0) (Nat.lt_irrefl _)
  · rw [wn b z] at e
    cases e
end
end DL

/-! DL19: sorted(set(xs)), xs a list of tuples of ints and texts. -/
namespace DL
open PySem PySem.Spec PyProof.Rows L2

abbrev tkM (P : Program) (w : World) : HeapKind P w (List Key) := tupleKind (mixKind P w)
section
variable {P : Program} {w : World} {A : Around} {E : Value → Shared → Prop} {s : Shared}
theorem items_mix {k : List Key} {vs : List Value} (h : ItemsAre (mixKind P w) k vs) : ∀ v ∈ vs, (∃ i t, v = Value.int i t) ∨ ∃ x t, v = Value.str x t := by
  induction h with
  | nil =>
    intro v hv
    cases hv
  | cons h1 _ ih =>
    intro v hv
    rcases List.mem_cons.mp hv with e | hv
    · rcases keyIs_shape h1 with ⟨i, t, _, e2⟩ | ⟨x, t, _, e2⟩
      · exact .inl ⟨i, t, e.trans e2⟩
      · exact .inr ⟨x, t, e.trans e2⟩
    · exact ih v hv
theorem ofA_str (n : Nat) (x : Str) (t : Tok) : ofAClassStatement n (.str x t) = pure false := by
  cases n <;> rfl
theorem byv_str (n : Nat) (x : Str) (t : Tok) : hashByValue n (.str x t) = pure false := by
  cases n <;> rfl
theorem seen_mix {k : List Key} {b : Addr} {Q : Bool → Shared → Prop} (hk : (tkM P w).is s.heap k b) (h : Q false s) : wpAny (model P w) A (ofAClassStatement 8 (.ref b)) Q E s := by
  have hT : s.TypeIs (.ref b) "tuple" := IsTupleKey.typeIs hk
  obtain ⟨o, items, n, ho, _, hd, hi⟩ := hk
  unfold ofAClassStatement
  refine wpAny_bind (wpAny_typeOf hT ?_)
  dsimp only
  have e : (("tuple" : String) == "tuple") = true := by decide
  simp only [e, if_true, Bool.not_true, Bool.false_eq_true, if_false]
  try refine wpAny_bind (wpAny_pure ?_)
  try simp only [Bool.not_true, Bool.false_eq_true, if_false]
  show wpAny _ _ (seqItems? (.ref b) >>= _) _ _ s
  refine wpAny_bind (wpAny_seqItems ho hd ?_)
  dsimp only
  refine wpAny_bind ?_
  show wpAny _ _ (forIn items _ _) _ _ s
  rw [← Array.forIn_toList]
  refine wpAny_forIn_list _ (fun left r s' => r.1 = none ∧ s' = s ∧ ∀ v ∈ left, (∃ i t, v = Value.int i t) ∨ ∃ x t, v = Value.str x t) _ ?_ ?_ _ _ ⟨rfl, rfl, items_mix hi⟩
  · rintro v left r s' ⟨hr, rfl, all⟩
    rcases all v List.mem_cons_self with ⟨i, t, rfl⟩ | ⟨i, t, rfl⟩
    · rw [ofAClass_int]
      refine wpAny_bind (wpAny_pure ?_)
      simp only [Bool.false_eq_true, if_false]
      exact wpAny_pure ⟨rfl, rfl, fun u hu' => all u (List.mem_cons_of_mem _ hu')⟩
    · rw [ofA_str]
      refine wpAny_bind (wpAny_pure ?_)
      simp only [Bool.false_eq_true, if_false]
      exact wpAny_pure ⟨rfl, rfl, fun u hu' => all u (List.mem_cons_of_mem _ hu')⟩
  · rintro ⟨r1, r2⟩ s' ⟨hr, rfl, _⟩
    simp only at hr
    subst hr
    exact wpAny_pure h
theorem byv_mix {k : List Key} {b : Addr} {Q : Bool → Shared → Prop} (hk : (tkM P w).is s.heap k b) (h : ∀ r, Q r s) : wpAny (model P w) A (hashByValue 8 (.ref b)) Q E s := by
  have hT : s.TypeIs (.ref b) "tuple" := IsTupleKey.typeIs hk
  obtain ⟨o, items, n, ho, _, hd, hi⟩ := hk
  unfold hashByValue
  refine wpAny_bind (wpAny_specialOf hT F.slot_tuple_hash.lookup ?_)
  show wpAny _ _ (seqItems? (.ref b) >>= _) _ _ s
  refine wpAny_bind (wpAny_seqItems ho hd ?_)
  refine wpAny_bind ?_
  show wpAny _ _ (forIn items _ _) _ _ s
  rw [← Array.forIn_toList]
  refine wpAny_forIn_list _ (fun left r s' => r.1 = none ∧ s' = s ∧ ∀ v ∈ left, (∃ i t, v = Value.int i t) ∨ ∃ x t, v = Value.str x t) _ ?_ ?_ _ _ ⟨rfl, rfl, items_mix hi⟩
  · rintro v left r s' ⟨hr, rfl, all⟩
    rcases all v List.mem_cons_self with ⟨i, t, rfl⟩ | ⟨i, t, rfl⟩
    · rw [hashBy_int]
      refine wpAny_bind (wpAny_pure ?_)
      simp only [Bool.not_true, Bool.false_eq_true, if_false]
      exact wpAny_pure ⟨rfl, rfl, fun u hu' => all u (List.mem_cons_of_mem _ hu')⟩
    · rw [byv_str]
      refine wpAny_bind (wpAny_pure ?_)
      simp only [Bool.not_false, if_true]
      exact wpAny_pure (wpAny_pure (h _))
  · rintro ⟨r1, r2⟩ s' ⟨hr, rfl, _⟩
    simp only at hr
    subst hr
    exact wpAny_pure (h _)
theorem mix_ok : ElOk (tkM P w) where
  ext := fun {h h' k b} x kp => by
    obtain ⟨o, items, n, ho, hc, r⟩ := x
    exact ⟨o, items, n, kp b o ho hc, hc, r⟩
  seen := seen_mix
  byv := byv_mix
end
end DL

/-! DL20: sorted(set(xs)) at the data's level. -/
namespace DL
open PySem PySem.Spec PyProof.Rows L2

/-- the set at a, without the tuples -/
structure SetN (P : Program) (w : World) (h : Heap) (a : Addr) (L : List (Addr × List Key)) : Prop where
  ex : ∃ (es : Array (Int × Value)) (ep : Nat) (t : SetTable), (∃ o, h.get? a = some o ∧ o.ExactSet ∧ o.data = .set es ep t) ∧ es.toList = rowsM (tkM P w) L ∧ TabOk t (hshM (tkM P w) L) ∧ (L.map (·.2)).Nodup ∧
    (w.params.followText "set-order" = true ∨ t.led = true) ∧ L.length * 5 < t.mask * 3 ∧ L.length < 64
def SetNO (P : Program) (w : World) (a : Addr) (L : List (Addr × List Key)) : HO := .ext fun h => SetN P w h a L
section
variable {P : Program} {w : World}
theorem setN_new {H : Hp} {h : Heap} {a : Addr} {L : List (Addr × List Key)} {es : Array (Int × Value)} {ep : Nat} {t : SetTable} (R : SetM (tkM P w) h a L es ep t) : ObjOk P w H h a (SetNO P w a L) := by
  obtain ⟨o, ho, r⟩ := R.obj
  refine ⟨⟨es, ep, t, ⟨o, ho, r⟩, R.row, R.tab, R.one, R.led, R.gap, R.few⟩, ⟨o, ho⟩, fun h1 h2 p k => ?_⟩
  obtain ⟨es', ep', t', ⟨o', ho', r'⟩, q'⟩ := p.ex
  exact ⟨es', ep', t', ⟨o', k o' ho', r'⟩, q'⟩
theorem SetN.all {h : Heap} {a : Addr} {L : List (Addr × List Key)} (R : SetN P w h a L) (he : ∀ p ∈ L, (tkM P w).is h p.2 p.1) : ∃ es ep t, SetM (tkM P w) h a L es ep t := by
  obtain ⟨es, ep, t, h1, h2, h3, h4, h5, h6, h7⟩ := R.ex
  exact ⟨es, ep, t, h1, h2, h3, h4, he, h5, h6, h7⟩
end
theorem refs_vals {κ : Type} : ∀ {ks : List (Addr × κ)} {us : List Value}, Vals (ks.map fun p => V.ref p.1) us → us = ks.map fun p => Value.ref p.1
  | [], _, .nil => rfl
  | p :: ks, _, .cons r t => by
    cases r
    rw [refs_vals t]
    rfl
theorem vals_refs2 {κ : Type} : ∀ ks : List (Addr × κ), Vals (ks.map fun p => V.ref p.1) (ks.map fun p => Value.ref p.1)
  | [] => .nil
  | p :: ks => .cons rfl (vals_refs2 ks)
section
variable {X : Cx}
theorem isK {pins : List (Addr × Obj)} {σ : L2.St} {H : Hp} {s : Shared} {b : Addr} {k : List Key} (I : L2.Inv X pins σ H s) (h : H b = some (.tup (k.map kV))) : (tkM X.prog X.w).is s.heap k b := key_of I.hok h
/-- set(xs) -/
def rSetM (P : Program) (w : World) : List V → Hp → VK → Prop := fun vs H Q => ∃ (l : Addr) (ks : List (Addr × List Key)), vs = [.ref l] ∧ H l = some (.lst (ks.map fun p => V.ref p.1)) ∧ (∀ p ∈ ks, H p.1 = some (.tup (p.2.map kV))) ∧ ks.length < 64 ∧
  ∀ a L, H a = none → (∀ p ∈ L, p ∈ ks) → (∀ p ∈ ks, p.2 ∈ L.map (·.2)) → (L.map (·.2)).Nodup → Q (.ref a) (upd H a (SetNO P w a L))
theorem cr_setM (hc : X.calm = true) (hu : X.A.units + 65 < cLine) : CallR X (.type "set") (rSetM X.prog X.w) := by
  intro pins s σ H xs us Q I r h
  obtain ⟨l, ks, rfl, hl, hk, few, q⟩ := h
  rw [Vals.ref1 r]
  obtain ⟨its, rv, pl, hz⟩ := I.list (SqL.of (K := X.K) hl)
  refine setOfM (mix_ok (P := X.prog) (w := X.w)) ks (I.ok.hd hc) pl.isList (by simpa using refs_vals rv) (fun p hp => isK I (hk p hp)) few (fun B hB => ?_) fun h' tk L es ep t R g k => ?_
  · show B.units < cLine
    omega
  · refine ⟨.ref s.heap.objs.size, upd H s.heap.objs.size (SetNO X.prog X.w s.heap.objs.size L), I.laid (t' := tk) k (Nat.le_refl _) (setN_new R), rfl, q _ L (I.hok.fresh (Nat.le_refl _)) (fun p hp => ?_) (fun p hp => ?_) R.one⟩
    · exact List.mem_of_mem_take (g.sub p hp)
    · exact g.all p (by rw [List.take_length]; exact hp)
/-- sorted(set) -/
def rSortM (P : Program) (w : World) : List V → Hp → VK → Prop := fun vs H Q => ∃ (a : Addr) (L : List (Addr × List Key)), vs = [.ref a] ∧ H a = some (SetNO P w a L) ∧ (∀ p ∈ L, H p.1 = some (.tup (p.2.map kV))) ∧ (∀ L' : List (Addr × List Key), L'.Perm L → srtOk (L'.map fun p => (tD p.2).py) = true) ∧
  ∀ (p : Addr) (L' : List (Addr × List Key)), H p = none → L'.Perm L → Q (.ref p) (upd H p (.lst ((srtP ((L'.map fun p => V.ref p.1).zip (L'.map fun p => (tD p.2).py))).map (·.1))))
theorem dp_rows {K : PySem.W.Frag} {H : Hp} : ∀ {L : List (Addr × List Key)}, (∀ p ∈ L, H p.1 = some (.tup (p.2.map kV))) → DpAll K H (L.map fun p => V.ref p.1) (L.map fun p => (tD p.2).py)
  | [], _ => .nil
  | p :: L, h => .cons (.tup (SqT.of (h p List.mem_cons_self)) (dp_kVs _)) (dp_rows fun q hq => h q (List.mem_cons_of_mem _ hq))
theorem cr_sortM (hc : X.calm = true) (hu : X.A.units + 67 < cLine) : CallR X (.builtin "sorted") (rSortM X.prog X.w) := by
  intro pins s σ H vs us Q I r h
  obtain ⟨a, L, rfl, ha, hk, ok, q⟩ := h
  rw [Vals.ref1 r]
  have R0 : SetN X.prog X.w s.heap a L := (I.hok a _ ha).1
  obtain ⟨es, ep, t, R⟩ := R0.all fun p hp => isK I (hk p hp)
  obtain ⟨o, ho, hex, hd⟩ := R.obj
  have sz := rows_len R.row
  have few := R.few
  refine Calls.call_function_entry kind_sorted plain_sorted entry_sorted (args_sorted1 _) ?_
  unfold Builtin.«sorted»
  refine wpAny_bind (m := checkCount "sorted" 1 1 _) (wpAny_pure ?_)
  refine wpAny_bind (collect_set (A := X.A.in1) (I.ok.hd hc) ⟨o, ho, hex.1, hd⟩ R.fits (by unfold scanBound; omega) R.tab.ris R.led fun s1 vs k1 hz g1 o1 pm => ?_)
  have hes : es.toList.map (·.2) = L.map fun q => Value.ref q.1 := by
    rw [R.row, rowsM, List.map_map]
    rfl
  rw [hes] at pm
  obtain ⟨L', e', pL⟩ : ∃ L' : List (Addr × List Key), vs = L'.map (fun q => Value.ref q.1) ∧ L'.Perm L := by
    have nL : L.Nodup := nodup_of_map R.one
    have one : ∀ q ∈ L, ∀ r ∈ L, q.1 = r.1 → q = r := fun q hq r hr e => by
      have a1 := R.els q hq
      have a2 := R.els r hr
      rw [e] at a1
      exact Prod.ext e ((tkM X.prog X.w).inj a1 a2)
    have back : ∀ vs : List Value, (∀ v ∈ vs, ∃ q ∈ L, v = Value.ref q.1) → ∃ L1 : List (Addr × List Key), vs = L1.map (fun q => Value.ref q.1) ∧ ∀ q ∈ L1, q ∈ L := by
      intro vs
      induction vs with
      | nil => exact fun _ => ⟨[], rfl, fun q hq => (by cases hq)⟩
      | cons v vs ih =>
        intro hv
        obtain ⟨q, hq, e⟩ := hv v List.mem_cons_self
        obtain ⟨L1, e1, hs⟩ := ih fun u hu => hv u (List.mem_cons_of_mem _ hu)
        refine ⟨q :: L1, by rw [List.map_cons, e, e1], fun r hr => ?_⟩
        rcases List.mem_cons.mp hr with z | z
        · rw [z]
          exact hq
        · exact hs r z
    obtain ⟨L1, e1, h1⟩ := back vs fun v hv => by
      obtain ⟨q, hq, e⟩ := List.mem_map.mp (pm.mem_iff.mp hv)
      exact ⟨q, hq, e.symm⟩
    refine ⟨L1, e1, ?_⟩
    have nref : (L.map fun q => Value.ref q.1).Nodup := List.pairwise_map.mpr (List.Pairwise.imp_of_mem (fun {q r} hq hr hne e => by
      injection e with e
      exact hne (one q hq r hr e)) nL)
    rw [e1] at pm
    have n1 : L1.Nodup := nodup_of_map (pm.nodup_iff.mpr nref)
    refine (List.perm_ext_iff_of_nodup n1 nL).mpr fun q => ⟨h1 q, fun hq => ?_⟩
    obtain ⟨r, hr, e⟩ := List.mem_map.mp (pm.mem_iff.mpr (List.mem_map.mpr ⟨q, hq, rfl⟩))
    injection e with e
    rw [← one r (h1 r hr) q hq e]
    exact hr
  subst e'
  have I1 : L2.Inv X pins σ H s1 := I.call' (ch := []) o1 (Un.kept k1) (I.hok.kept k1) (by rw [g1]; exact I.bare) (fun _ z => nomatch z)
  have hlen : (L'.map fun q => V.ref q.1).length ≤ sizeLine := by
    rw [List.length_map, pL.length_eq, sizeLine_eq]
    omega
  refine wpAny_bind (wpAny_newList ?_ (by rw [List.length_map, pL.length_eq, sizeLine_eq]; omega))
  refine wpAny_bind (wpAny_holding (sort_new (s := s1) (A := X.A.in1) I1 (by show X.A.units + 1 + 66 < cLine; omega) (vals_refs2 L') (dp_rows fun p hp => hk p (pL.mem_iff.mp hp)) (ok L' pL) hlen fun h2 I2 => ?_))
  exact wpAny_pure ⟨_, rfl, .ref s1.heap.objs.size, _, I2, rfl, q _ L' (I1.hok.fresh (Nat.le_refl _)) pL⟩
end
end DL

/-! DL21: sorted(set(xs)) as one expression. -/
namespace DL
open PySem PySem.Spec PyProof.Rows L2

def dedupL {α : Type} [DecidableEq α] : List α → List α
  | [] => []
  | x :: xs => if x ∈ xs then dedupL xs else x :: dedupL xs
theorem mem_dedupL {α : Type} [DecidableEq α] {y : α} : ∀ {xs : List α}, y ∈ dedupL xs ↔ y ∈ xs
  | [] => Iff.rfl
  | x :: xs => by
    unfold dedupL
    split
    · rename_i h
      rw [mem_dedupL, List.mem_cons]
      exact ⟨.inr, fun z => z.elim (fun e => e ▸ h) id⟩
    · rw [List.mem_cons, List.mem_cons, mem_dedupL]
theorem nodup_dedupL {α : Type} [DecidableEq α] : ∀ xs : List α, (dedupL xs).Nodup
  | [] => List.nodup_nil
  | x :: xs => by
    unfold dedupL
    split
    · exact nodup_dedupL xs
    · rename_i h
      exact List.nodup_cons.mpr ⟨fun z => h (mem_dedupL.mp z), nodup_dedupL xs⟩
/-- two ordered lists of the same things -/
theorem ord_unique {α : Type} {le : α → α → Bool} : ∀ {a b : List α}, a.Perm b → a.Pairwise (fun x y => le x y = true) → b.Pairwise (fun x y => le x y = true) → (∀ x ∈ a, ∀ y ∈ a, le x y = true → le y x = true → x = y) → a = b
  | [], b, p, _, _, _ => (List.nil_perm.mp p).symm
  | x :: a, [], p, _, _, _ => absurd p.symm (by simp)
  | x :: a, y :: b, p, ha, hb, anti => by
    have hxb : x ∈ y :: b := p.mem_iff.mp List.mem_cons_self
    have hya : y ∈ x :: a := p.mem_iff.mpr List.mem_cons_self
    have e : x = y := by
      rcases List.mem_cons.mp hxb with e | hx
      · exact e
      · rcases List.mem_cons.mp hya with e | hy
        · exact e.symm
        · exact anti x List.mem_cons_self y hya ((List.pairwise_cons.mp ha).1 y hy) ((List.pairwise_cons.mp hb).1 x hx)
    subst e
    rw [ord_unique (p.cons_inv) (List.pairwise_cons.mp ha).2 (List.pairwise_cons.mp hb).2 fun u hu v hv => anti u (List.mem_cons_of_mem _ hu) v (List.mem_cons_of_mem _ hv)]
theorem lePD_ok : PySem.W.TotalLe lePD := PySem.W.sortLe_total _ _ _
theorem sort_perm {a b : List D} (p : a.Perm b) (anti : ∀ x ∈ a, ∀ y ∈ a, lePD x y = true → lePD y x = true → x = y) : a.mergeSort lePD = b.mergeSort lePD := by
  have tot : ∀ a b : D, (lePD a b || lePD b a) = true := fun a b => by
    rcases lePD_ok.total a b with h | h
    · rw [h]; rfl
    · rw [h]; exact Bool.or_true _
  refine ord_unique (((List.mergeSort_perm a lePD).trans p).trans (List.mergeSort_perm b lePD).symm) (List.pairwise_mergeSort lePD_ok.trans tot a) (List.pairwise_mergeSort lePD_ok.trans tot b) fun x hx y hy => anti x ((List.mergeSort_perm a lePD).mem_iff.mp hx) y ((List.mergeSort_perm a lePD).mem_iff.mp hy)
theorem keyToks_kD (k : Key) : ∃ t, PySem.W.keyToks (kD k).py = [t] := by
  cases k with
  | inl i => exact ⟨.inl i, by simp [kD, D.py, PySem.W.keyToks]⟩
  | inr x => exact ⟨.inr x.cps.toList, by simp [kD, D.py, PySem.W.keyToks]⟩
theorem keyToks_inj {k k' : Key} (h : PySem.W.keyToks (kD k).py = PySem.W.keyToks (kD k').py) : k = k' := by
  cases k with
  | inl i =>
    cases k' with
    | inl j =>
      simp [kD, D.py, PySem.W.keyToks] at h
      rw [h]
    | inr y => simp [kD, D.py, PySem.W.keyToks] at h
  | inr x =>
    cases k' with
    | inl j => simp [kD, D.py, PySem.W.keyToks] at h
    | inr y =>
      simp only [kD, D.py, PySem.W.keyToks, List.cons.injEq, Sum.inr.injEq, and_true] at h
      rw [PySem.W.str_of_cps h]
theorem toksAll_inj : ∀ {ks ks' : List Key}, PySem.W.keyToksAll (D.pys (ks.map kD)) = PySem.W.keyToksAll (D.pys (ks'.map kD)) → ks = ks'
  | [], [], _ => rfl
  | [], k :: ks', h => by
    simp [D.pys, PySem.W.keyToksAll] at h
  | k :: ks, [], h => by
    simp [D.pys, PySem.W.keyToksAll] at h
  | k :: ks, k' :: ks', h => by
    simp only [List.map_cons, D.pys, PySem.W.toks_all_cons] at h
    have h1 := (List.cons.inj h).2
    obtain ⟨t, e⟩ := keyToks_kD k
    obtain ⟨t', e'⟩ := keyToks_kD k'
    rw [e, e'] at h1
    have h2 := List.cons.inj h1
    have ek : k = k' := keyToks_inj (by rw [e, e', h2.1])
    rw [ek, toksAll_inj h2.2]
theorem le_anti {x y : D} (h1 : lePD x y = true) (h2 : lePD y x = true) : PySem.W.keyToks x.py = PySem.W.keyToks y.py := by
  have e1 : PySem.W.dataLt y.py x.py = false := by
    have q : (!PySem.W.dataLt y.py x.py) = true := h1
    simpa using q
  have e2 : PySem.W.dataLt x.py y.py = false := by
    have q : (!PySem.W.dataLt x.py y.py) = true := h2
    simpa using q
  exact (PyProof.Rows.listOrd PyProof.Rows.itemOrd).total _ _ e2 e1
theorem anti_tD {L : List (List Key)} : ∀ x ∈ L.map tD, ∀ y ∈ L.map tD, lePD x y = true → lePD y x = true → x = y := by
  intro x hx y hy h1 h2
  obtain ⟨k, _, rfl⟩ := List.mem_map.mp hx
  obtain ⟨k', _, rfl⟩ := List.mem_map.mp hy
  have e := le_anti h1 h2
  simp only [tD, D.py, PySem.W.keyToks] at e
  rw [toksAll_inj e]
theorem anti_int {L : List Int} : ∀ x ∈ L.map D.int, ∀ y ∈ L.map D.int, lePD x y = true → lePD y x = true → x = y := by
  intro x hx y hy h1 h2
  obtain ⟨k, _, rfl⟩ := List.mem_map.mp hx
  obtain ⟨k', _, rfl⟩ := List.mem_map.mp hy
  have e := le_anti h1 h2
  simp only [D.py, PySem.W.keyToks, List.cons.injEq, Sum.inl.injEq, and_true] at e
  rw [e]
theorem srtOk_sub {ds ds' : List PyData} (s : ∀ d ∈ ds', d ∈ ds) (h : srtOk ds = true) : srtOk ds' = true := by
  unfold srtOk at h ⊢
  rw [Bool.and_eq_true, Bool.and_eq_true] at h ⊢
  obtain ⟨⟨h1, h2⟩, h3⟩ := h
  refine ⟨⟨List.all_eq_true.mpr fun a ha => List.all_eq_true.mpr fun b hb => List.all_eq_true.mp (List.all_eq_true.mp h1 a (s a ha)) b (s b hb), List.all_eq_true.mpr fun a ha => List.all_eq_true.mp h2 a (s a ha)⟩, ?_⟩
  rw [Bool.or_eq_true] at h3 ⊢
  rcases h3 with h3 | h3
  · exact .inl (List.all_eq_true.mpr fun a ha => List.all_eq_true.mp h3 a (s a ha))
  · exact .inr (List.all_eq_true.mpr fun a ha => List.all_eq_true.mp h3 a (s a ha))
def tupsOf : List D → Option (List (List Key))
  | [] => some []
  | .tup ds :: r => (keysOf ds).bind fun k => (tupsOf r).bind fun ks => some (k :: ks)
  | _ => none
def intsOf : List D → Option (List Int)
  | [] => some []
  | .int i :: r => (intsOf r).bind fun is => some (i :: is)
  | _ => none
def sortSetD : D → Option (List D)
  | .lst ds => match tupsOf ds with
    | some ks => if ks.length < 64 ∧ srtOk (D.pys (ks.map tD)) = true then some (((dedupL ks).map tD).mergeSort lePD) else none
    | none => match intsOf ds with
      | some is => if is.length < 64 then some (((dedupL is).map .int).mergeSort lePD) else none
      | none => none
  | _ => none
theorem keysOf_eq : ∀ {ds : List D} {ks : List Key}, keysOf ds = some ks → ds = ks.map kD := by
  intro ds
  induction ds with
  | nil =>
    intro ks h
    cases h
    rfl
  | cons d ds ih =>
    intro ks h
    unfold keysOf at h
    obtain ⟨k, h1, h2⟩ := bindE h
    obtain ⟨r, h3, h4⟩ := bindE h2
    cases h4
    rw [ih h3, List.map_cons]
    congr 1
    cases d with
    | int i => cases h1; rfl
    | str i => cases h1; rfl
    | _ => cases h1
theorem tupsOf_eq : ∀ {ds : List D} {ks : List (List Key)}, tupsOf ds = some ks → ds = ks.map tD
  | [], _, h => by cases h; rfl
  | d :: r, ks, h => by
    cases d with
    | tup ds =>
      obtain ⟨k, h1, h2⟩ := bindE h
      obtain ⟨ks, h3, h4⟩ := bindE h2
      cases h4
      rw [tupsOf_eq h3, List.map_cons, keysOf_eq h1]
      rfl
    | _ => cases h
theorem intsOf_eq : ∀ {ds : List D} {is : List Int}, intsOf ds = some is → ds = is.map .int
  | [], _, h => by cases h; rfl
  | d :: r, ks, h => by
    cases d with
    | int i =>
      obtain ⟨is, h1, h2⟩ := bindE h
      cases h2
      rw [intsOf_eq h1]
      rfl
    | _ => cases h
section
variable {X : Cx} {e a b : Expr} {fa : FE} {K : PySem.W.Frag} {G H : Hp}
theorem rps_tups : ∀ {ks : List (List Key)} {vs : List V}, Rps K G vs (ks.map tD) → ∃ L : List (Addr × List Key), L.map (·.2) = ks ∧ vs = L.map (fun p => V.ref p.1) ∧ ∀ p ∈ L, G p.1 = some (.tup (p.2.map kV))
  | [], _, .nil => ⟨[], rfl, rfl, fun p hp => (by cases hp)⟩
  | k :: ks, _, .cons h t => by
    obtain ⟨L, e1, e2, e3⟩ := rps_tups t
    cases h with
    | @tup a vs' _ h1 h2 =>
      have e4 : vs' = k.map kV := by
        have key : ∀ {ks : List Key} {vs : List V}, Rps K G vs (ks.map kD) → vs = ks.map kV := by
          intro ks
          induction ks with
          | nil =>
            intro vs h
            cases h
            rfl
          | cons k ks ih =>
            intro vs h
            cases h with
            | cons h t =>
              rw [ih t, List.map_cons]
              congr 1
              cases k with
              | inl i =>
                have h' : Rp K G _ (.int i) := h
                cases h'
                rfl
              | inr i =>
                have h' : Rp K G _ (.str i) := h
                cases h'
                rfl
        exact key h2
      refine ⟨(a, k) :: L, by rw [List.map_cons, e1], by rw [List.map_cons, e2], fun p hp => ?_⟩
      rcases List.mem_cons.mp hp with z | z
      · rw [z, h1, e4]
      · exact e3 p z
/-- set(xs), xs a list of ints -/
def rSetI (w : World) : List V → Hp → VK → Prop := fun vs H Q => ∃ (l : Addr) (ns : List Int), vs = [.ref l] ∧ H l = some (.lst (ns.map V.int)) ∧ ns.length < 64 ∧
  ∀ a c, H a = none → c ≤ ns.length → Q (.ref a) (upd H a (SetO w a (fun j => decide (j ∈ ns)) c))
theorem cr_setI (hc : X.calm = true) : CallR X (.type "set") (rSetI X.w) := by
  intro pins s σ H xs us Q I r h
  obtain ⟨l, ns, rfl, hl, few, q⟩ := h
  rw [Vals.ref1 r]
  obtain ⟨its, rv, pl, hz⟩ := I.list (SqL.of (K := X.K) hl)
  refine setOfI ns (I.ok.hd hc) pl.isList (by simpa using rv.ints) (by unfold scanBound; omega) fun h' tk c R g k => ?_
  exact ⟨.ref s.heap.objs.size, upd H s.heap.objs.size (SetO X.w s.heap.objs.size _ c), I.laid (t' := tk) k (Nat.le_refl _) (setO_new R), rfl, q _ c (I.hok.fresh (Nat.le_refl _)) g⟩
theorem cl_sortSet (hc : X.calm = true) (hu : X.A.units + 67 < cLine) (hp1 : ∀ {r : List V → Hp → VK → Prop} {ta : TA}, CallR X (.builtin "sorted") r → PA X [b] ta → PE X e (tCB r ta))
    (hp2 : ∀ {r : List V → Hp → VK → Prop} {ta : TA}, CallR X (.type "set") r → PA X [a] ta → PE X b (tCB r ta)) (ha : CV X a fa)
    (hs1 : starEach [b] X.env = (false, eval b X.env) :: starEach [] X.env := by rfl) (hs2 : starEach [a] X.env = (false, eval a X.env) :: starEach [] X.env := by rfl) : CL X e (fAppL sortSetD fa) := by
  obtain ⟨t, p, q⟩ := ha
  refine ⟨_, hp1 (callR_or (cr_sortM hc hu) (cr_sortedSet hc)) (pa_cons (hp2 (callR_or (cr_setM hc (by omega)) (cr_setI hc)) (pa_cons p pa_nil hs2)) pa_nil hs1), fun F G H σ ρ d ρ' R hf Q k => ?_⟩
  obtain ⟨⟨x, ρ1⟩, h1, h2⟩ := bindE hf
  obtain ⟨z, h3, h4⟩ := bindE h2
  cases h4
  refine q F G H σ ρ x _ R h1 _ fun G1 H1 v s1 r1 m1 => ?_
  cases x with
  | lst ds =>
    obtain ⟨l, vs, rfl, hl, rv⟩ := m1.lst r1.gh
    dsimp only [sortSetD] at h3
    cases ht : tupsOf ds with
    | some ks =>
      rw [ht] at h3
      dsimp only at h3
      split at h3
      · rename_i hcond
        cases h3
        rw [tupsOf_eq ht] at rv
        obtain ⟨L, e1, rfl, hL⟩ := rps_tups rv
        refine .inl ⟨l, L, rfl, hl, fun p hp => r1.gh _ _ (hL p hp), by rw [← e1, List.length_map] at hcond; exact hcond.1, fun a L1 hna sub all nd => ?_⟩
        have r2 := r1.newU (o := SetNO X.prog X.w a L1) hna
        have ne : ∀ p ∈ L1, p.1 ≠ a := fun p hp z => by
          have := r1.gh _ _ (hL p (sub p hp))
          rw [z, hna] at this
          cases this
        refine .inl ⟨a, L1, rfl, upd_same, fun p hp => by rw [upd_ne (ne p hp)]; exact r1.gh _ _ (hL p (sub p hp)), fun L' pm => srtOk_sub (fun d hd => ?_) hcond.2, fun p L' hnp pm => ?_⟩
        · obtain ⟨y, hy, rfl⟩ := List.mem_map.mp hd
          rw [pys_map, List.map_map, ← e1]
          exact List.mem_map.mpr ⟨y.2, List.mem_map.mpr ⟨y, sub y (pm.mem_iff.mp hy), rfl⟩, rfl⟩
        · have fin : (L'.map fun p => tD p.2).mergeSort lePD = ((dedupL ks).map tD).mergeSort lePD := by
            have e3 : (L'.map fun p => tD p.2) = (L'.map (·.2)).map tD := by rw [List.map_map]; rfl
            rw [e3]
            refine sort_perm (List.Perm.map _ ((List.perm_ext_iff_of_nodup ((pm.map (·.2)).nodup_iff.mpr nd) (nodup_dedupL ks)).mpr fun y => ?_)) anti_tD
            rw [mem_dedupL, (pm.map (·.2)).mem_iff, ← e1]
            exact ⟨fun hy => by
              obtain ⟨y', hy', rfl⟩ := List.mem_map.mp hy
              exact List.mem_map.mpr ⟨y', sub y' hy', rfl⟩, fun hy => by
              obtain ⟨y', hy', rfl⟩ := List.mem_map.mp hy
              exact all y' hy'⟩
          have m2 : Rps X.K G1 (L'.map fun p => V.ref p.1) (L'.map fun p => tD p.2) := by
            have hm : ∀ p ∈ L', G1 p.1 = some (.tup (p.2.map kV)) := fun p hp => hL p (sub p (pm.mem_iff.mp hp))
            clear fin
            induction L' with
            | nil => exact .nil
            | cons y L' ih =>
              refine .cons (.tup (hm y List.mem_cons_self) (Rps.kVs _)) ?_
              have key : ∀ L'' : List (Addr × List Key), (∀ p ∈ L'', G1 p.1 = some (.tup (p.2.map kV))) → Rps X.K G1 (L''.map fun p => V.ref p.1) (L''.map fun p => tD p.2) := by
                intro L''
                induction L'' with
                | nil => exact fun _ => .nil
                | cons u L'' ih2 => exact fun hh => .cons (.tup (hh u List.mem_cons_self) (Rps.kVs _)) (ih2 fun p hp => hh p (List.mem_cons_of_mem _ hp))
              exact key L' fun p hp => hm p (List.mem_cons_of_mem _ hp)
          have m3 := srtP_rps m2
          rw [fin, List.map_map] at m3
          have r3 := r2.newU (o := .lst ((srtP ((L'.map fun p => V.ref p.1).zip (L'.map fun p => (tD p.2).py))).map (·.1))) hnp
          exact k G1 _ p s1 r3 (r2.free hnp) ⟨_, upd_same, m3⟩
      · cases h3
    | none =>
      rw [ht] at h3
      dsimp only at h3
      cases hi : intsOf ds with
      | none =>
        rw [hi] at h3
        cases h3
      | some is =>
        rw [hi] at h3
        dsimp only at h3
        split at h3
        · rename_i few
          cases h3
          rw [intsOf_eq hi] at rv
          have ev : vs = is.map V.int := by
            clear few hi ht m1 hl
            have key : ∀ {is : List Int} {vs : List V}, Rps X.K G1 vs (is.map .int) → vs = is.map V.int := by
              intro is
              induction is with
              | nil =>
                intro vs h
                cases h
                rfl
              | cons i is ih =>
                intro vs h
                cases h with
                | cons h t =>
                  cases h
                  rw [ih t]
                  rfl
            exact key rv
          subst ev
          refine .inr ⟨l, is, rfl, hl, few, fun a c hna hcl => ?_⟩
          have r2 := r1.newU (o := SetO X.w a (fun j => decide (j ∈ is)) c) hna
          refine .inr ⟨a, _, c, rfl, upd_same, by omega, fun ns p asc mem len hnp => ?_⟩
          have r3 := r2.newU (o := .lst (ns.map V.int)) hnp
          refine k G1 _ p s1 r3 (r2.free hnp) ⟨_, upd_same, ?_⟩
          have fin : ((dedupL is).map D.int).mergeSort lePD = ns.map D.int := by
            have nd : ns.Nodup := List.Pairwise.imp (fun h => Int.ne_of_lt h) asc
            have tot : ∀ a b : D, (lePD a b || lePD b a) = true := fun a b => by
              rcases lePD_ok.total a b with h | h
              · rw [h]; rfl
              · rw [h]; exact Bool.or_true _
            refine ord_unique ((List.mergeSort_perm _ lePD).trans (List.Perm.map _ ((List.perm_ext_iff_of_nodup (nodup_dedupL is) nd).mpr fun y => ?_))) (List.pairwise_mergeSort lePD_ok.trans tot _) ?_ fun x hx y hy => anti_int x ((List.mergeSort_perm _ lePD).mem_iff.mp hx) y ((List.mergeSort_perm _ lePD).mem_iff.mp hy)
            · rw [mem_dedupL, mem y]
              simp
            · rw [List.pairwise_map]
              refine List.Pairwise.imp (fun {x y} hxy => ?_) asc
              have e : lePD (.int x) (.int y) = decide (x ≤ y) := congrFun (congrFun (PySem.W.dataLe_int (β := Int) id) x) y
              rw [e]
              exact decide_eq_true (Int.le_of_lt hxy)
          rw [fin]
          clear fin mem asc len
          induction ns with
          | nil => exact .nil
          | cons i ns ih =>
            have key : ∀ ns : List Int, Rps X.K G1 (ns.map V.int) (ns.map D.int) := by
              intro ns
              induction ns with
              | nil => exact .nil
              | cons i ns ih => exact .cons (.int i) ih
            exact key _
        · cases h3
  | _ => cases h3
end
end DL

/-! DL22: dict displays of one pair; dict(xs), xs a list of pairs whose keys are tuples. -/
namespace DL
open PySem PySem.Spec PyProof.Rows L2

section
variable {X : Cx} {e a k v : Expr} {pos : Pos} {fa fk fv : FE}
theorem room_of {P : Program} {w : World} {A : Around} (hu : A.units < cLine) : (tupleKind (mixKind P w)).room A := hu
/-- {k: v}, k a tuple -/
def tDispT (tk tv : TE) : TE := fun σ H Q => ∀ p, H p = none → tk σ (upd H p (.dT [])) fun x H1 => tv σ H1 fun y H2 => H2 p = some (.dT []) ∧ ∃ (b : Addr) (ks : List Key), x = .ref b ∧ H2 b = some (.tup (ks.map kV)) ∧ Q (.ref p) (upd H2 p (.dT [(ks, y)]))
theorem pe_dispT {tk tv : TE} (hu : X.A.units < cLine) (hk : PE X k tk) (hv : PE X v tv) : PE X (.Dict [some k] [v] pos) (tDispT tk tv) := by
  refine ⟨fun pins s σ H Q I q => ?_⟩
  have hn := I.hok.fresh (Nat.le_refl s.heap.objs.size)
  have I1 := I.laid (a := s.heap.objs.size) (o := .dT []) (h' := s.heap.push { cls := .type "dict", data := .dict #[] }) (t' := s.toks) (fun _ _ q => Heap.get?_push_of_some _ q) (Nat.le_refl _) (dt_empty s.heap I.big)
  have shape : (evalEachOpt [some k] X.env).zip ((evalEach [v] X.env).map fun z => do let y ← z; standAt pos; pure y) = (pairTrees [some k] [v] X.env pos).map fun p => (some p.1, p.2) := zip_pairTrees [some k] [v] X.env pos rfl rfl
  rw [arm_eval_Dict, shape, dictDisplay_pairs (pairTrees [some k] [v] X.env pos) (fun z => nomatch z) (by show 1 < 17; decide)]
  refine wpAny_bind (wpAny_standAt (wpAny_bind (wpAny_subDictH (knd := tupleKind (mixKind X.prog X.w)) (Q := fun d s' => wpAny _ X.A (pure (Value.ref d)) _ _ s') (room_of hu) (by show 1 ≤ 15; decide) ?_)))
  refine pairTrees_cons_walk (thn (hk.run pins _ σ _ _ I1 (q _ hn)) fun u s1 ⟨x, H1, I2, rx, q1⟩ => thn (hv.run pins s1 σ H1 _ I2 q1) fun w2 s2 ⟨y, H2, I3, ry, hp, b, ks, ex, hb, q2⟩ => pairTrees_nil_walk ?_)
  subst ex
  cases rx
  obtain ⟨z, hs, xs, kt, dd⟩ := dt_rd I3.hok (.inl hp)
  cases kt
  refine ⟨[(ks, b, w2)], ⟨rfl, rfl, key_of I3.hok hb, trivial⟩, dd, fun h' tk' dd' sb => wpAny_pure ⟨.ref s.heap.objs.size, _, ?_, rfl, q2⟩⟩
  obtain ⟨o, es, ep, ho, r⟩ := dd'
  refine I3.write (x := s.heap.objs.size) (e := s.heap.objs.size) (t' := tk') (by rw [hp]; exact trivial) (.inl rfl) (fun c u hc hu' => (sb.2 c hc).trans hu') ⟨o, ho⟩ ?_
  have ne : b ≠ s.heap.objs.size := fun z => by rw [z, hp] at hb; cases hb
  have ms : (s.heap.objs.size == sysModules) = false := beq_eq_false_iff_ne.mpr (Ne.symm (Nat.ne_of_lt I.big))
  refine ⟨by rw [sizeLine_eq]; show 1 ≤ _; omega, ms, [(ks, b, w2)], .cons ⟨rfl, ?_, ry⟩ .nil, o, es, ep, ho, r.1, r.2.1, r.2.2.1, r.2.2.2.2⟩
  show upd H2 _ _ b = _
  rw [upd_ne ne]
  exact hb
def fDispK (fk fv : FE) : FK := fun ρ => (fk ρ).bind fun r => (fv r.2).bind fun q => (keyOf r.1).bind fun k => some ([(k, q.1)], q.2)
def fDispT (fk fv : FE) : FKT := fun ρ => (fk ρ).bind fun r => (fv r.2).bind fun q => match r.1 with | .tup ds => (keysOf ds).bind fun k => some ([(k, q.1)], q.2) | _ => none
theorem cdk_disp (hk : CE X k fk) (hv : CE X v fv) : CDK X (.Dict [some k] [v] pos) (fDispK fk fv) := by
  obtain ⟨t1, p1, q1⟩ := hk
  obtain ⟨t2, p2, q2⟩ := hv
  refine ⟨_, pe_disp (pps_cons p1 p2 pps_nil) rfl rfl (fun z => nomatch z) (by show 1 ≤ 15; decide), fun F G H σ ρ d ρ' R hf Q kk => ?_⟩
  obtain ⟨⟨x, ρ1⟩, h1, h2⟩ := bindE hf
  obtain ⟨⟨y, ρ2⟩, h3, h4⟩ := bindE h2
  obtain ⟨kk0, h5, h6⟩ := bindE h4
  cases h6
  intro p hp
  have hB : F.B p = none := R.noB hp
  have hG0 : F.G0 p = none := by
    cases e : F.G0 p with
    | none => rfl
    | some u =>
      have := R.gh _ _ (R.g0 _ _ e)
      rw [hp] at this
      cases this
  have R0 := R.watch (o := .dK []) hp
  refine q1 _ G _ σ ρ x ρ1 R0 h1 _ fun G1 H1 u s1 r1 m1 => ?_
  refine q2 _ G1 H1 σ ρ1 y _ r1 h3 _ fun G2 H2 w s2 r2 m2 => ?_
  have gn := r2.gnone hG0 (fun _ z => nomatch z)
  refine ⟨r2.watched, [(kk0, w)], ?_, by show 1 ≤ 15; decide, ?_⟩
  · rw [(m1.mono s2).key h5]
    rfl
  · have r3 := r2.accum (o' := .dK (mergeK [] [(kk0, w)])) gn
    refine kk G2 _ p (s1.trans s2) (r3.unwatch hB) ⟨gn, hB, fun i s a e o q => r3.own_watch e o q⟩ ⟨_, upd_same, ?_⟩
    exact .cons m2 .nil
theorem cdt_disp (hu : X.A.units < cLine) (hk : CE X k fk) (hv : CE X v fv) : CDT X (.Dict [some k] [v] pos) (fDispT fk fv) := by
  obtain ⟨t1, p1, q1⟩ := hk
  obtain ⟨t2, p2, q2⟩ := hv
  refine ⟨_, pe_dispT hu p1 p2, fun F G H σ ρ d ρ' R hf Q kk => ?_⟩
  obtain ⟨⟨x, ρ1⟩, h1, h2⟩ := bindE hf
  obtain ⟨⟨y, ρ2⟩, h3, h4⟩ := bindE h2
  dsimp only at h4
  split at h4
  · obtain ⟨kk0, h5, h6⟩ := bindE h4
    cases h6
    intro p hp
    have hB : F.B p = none := R.noB hp
    have hG0 : F.G0 p = none := by
      cases e : F.G0 p with
      | none => rfl
      | some u =>
        have := R.gh _ _ (R.g0 _ _ e)
        rw [hp] at this
        cases this
    have R0 := R.watch (o := .dT []) hp
    refine q1 _ G _ σ ρ _ ρ1 R0 h1 _ fun G1 H1 u s1 r1 m1 => ?_
    refine q2 _ G1 H1 σ ρ1 y _ r1 h3 _ fun G2 H2 w s2 r2 m2 => ?_
    have gn := r2.gnone hG0 (fun _ z => nomatch z)
    have m3 := m1.mono s2
    cases m3 with
    | tup g1 g2 =>
      refine ⟨r2.watched, _, kk0, rfl, by rw [r2.gh _ _ g1, g2.keys h5], ?_⟩
      have r3 := r2.accum (o' := .dT [(kk0, w)]) gn
      exact kk G2 _ p (s1.trans s2) (r3.unwatch hB) ⟨gn, hB, fun i s a e o q => r3.own_watch e o q⟩ ⟨_, upd_same, .cons m2 .nil⟩
  · cases h4
/-- one entry of a list of pairs whose keys are tuples: the pair, the key's tuple, the key, the value -/
structure Prow where
  p : Addr
  b : Addr
  k : List Key
  v : V
def Prow.At (H : Hp) (r : Prow) : Prop := H r.p = some (.tup [.ref r.b, r.v]) ∧ H r.b = some (.tup (r.k.map kV))
def rDictT : List V → Hp → VK → Prop := fun xs H Q => ∃ (a : Addr) (rs : List Prow), xs = [.ref a] ∧ H a = some (.lst (rs.map fun r => V.ref r.p)) ∧ (∀ r ∈ rs, r.At H) ∧ rs.length ≤ 100000 ∧
  ∀ p, H p = none → Q (.ref p) (upd H p (.dT (rs.foldl (fun acc r => putK acc r.k r.v) [])))
theorem rows_vals {pins : List (Addr × Obj)} {σ : L2.St} {H : Hp} {s : Shared} (I : L2.Inv X pins σ H s) : ∀ {rs : List Prow}, (∀ r ∈ rs, r.At H) → ∃ us : List Value, us.length = rs.length ∧
    (∀ (j : Nat) r u, rs[j]? = some r → us[j]? = some u → RelV r.v u ∧ s.heap.IsTuple r.p #[.ref r.b, u])
  | [], _ => ⟨[], rfl, fun j r u e => by cases e⟩
  | r :: rs, h => by
    obtain ⟨us, e1, e2⟩ := rows_vals I fun q hq => h q (List.mem_cons_of_mem _ hq)
    obtain ⟨its, rv, ht, _⟩ := I.tuple (SqT.of (K := X.K) (h r List.mem_cons_self).1)
    obtain ⟨x, y, rfl, rx, ry⟩ := vals2 rv
    cases rx
    refine ⟨y :: us, by rw [List.length_cons, List.length_cons, e1], fun j q u f1 f2 => ?_⟩
    cases j with
    | zero =>
      cases f1
      cases f2
      obtain ⟨o, ho, hc, n, hd⟩ := ht
      exact ⟨ry, o, ho, hc, n, hd⟩
    | succ j => exact e2 j q u f1 f2
theorem kt_fold {H : Hp} : ∀ {rs : List Prow} {us : List Value} {kvs : List (List Key × V)} {xs : List (List Key × Addr × Value)}, us.length = rs.length → (∀ (j : Nat) r u, rs[j]? = some r → us[j]? = some u → RelV r.v u) → (∀ r ∈ rs, r.At H) → KT H kvs xs →
    KT H (rs.foldl (fun acc r => putK acc r.k r.v) kvs) (storedAllH xs ((rs.zip us).map fun p => (p.1.k, p.1.b, p.2)))
  | [], [], _, _, _, _, _, k => k
  | [], _ :: _, _, _, hl, _, _, _ => nomatch hl
  | _ :: _, [], _, _, hl, _, _, _ => nomatch hl
  | r :: rs, u :: us, kvs, xs, hl, hv, ha, k => by
    rw [List.zip_cons_cons, List.map_cons]
    exact kt_fold (by simpa using hl) (fun j q w e1 e2 => hv (j + 1) q w e1 e2) (fun q hq => ha q (List.mem_cons_of_mem _ hq)) (k.put r.k (ha r List.mem_cons_self).2 (hv 0 r u rfl rfl))
theorem fold_len : ∀ (rs : List Prow) (kvs : List (List Key × V)), (rs.foldl (fun acc r => putK acc r.k r.v) kvs).length ≤ kvs.length + rs.length
  | [], _ => Nat.le_refl _
  | r :: rs, kvs => by
    have h1 := fold_len rs (putK kvs r.k r.v)
    have h2 : (putK kvs r.k r.v).length ≤ kvs.length + 1 := by
      unfold putK
      split
      · rw [List.length_map]
        exact Nat.le_succ _
      · rw [List.length_append]
        exact Nat.le_refl _
    rw [List.length_cons]
    show (rs.foldl (fun acc r => putK acc r.k r.v) (putK kvs r.k r.v)).length ≤ _
    omega
/-- dict(xs) -/
theorem cr_dictT (hc : X.calm = true) (hu : X.A.units + 4 < cLine) : CallR X (.type "dict") rDictT := by
  intro pins s σ H xs us Q I r q
  obtain ⟨a, rs, rfl, ha, hr, hl, q⟩ := q
  rw [Vals.ref1 r]
  obtain ⟨_, its, n, rv, ho⟩ := I.hok a _ ha
  obtain ⟨us, hus, huv⟩ := rows_vals I hr
  have eits : its = rs.map fun r => Value.ref r.p := by
    have key : ∀ {rs : List Prow} {its : List Value}, Vals (rs.map fun r => V.ref r.p) its → its = rs.map fun r => Value.ref r.p := by
      intro rs
      induction rs with
      | nil =>
        intro its h
        cases h
        rfl
      | cons r rs ih =>
        intro its h
        cases h with
        | cons h t =>
          cases h
          rw [ih t]
          rfl
    exact key rv
  have lenz : (rs.zip us).length = rs.length := by rw [List.length_zip, hus, Nat.min_self]
  have getz : ∀ (j : Nat) (y : Prow × Value), (rs.zip us)[j]? = some y → rs[j]? = some y.1 ∧ us[j]? = some y.2 := fun j y e => List.getElem?_zip_eq_some.mp e
  have inz : ∀ y ∈ rs.zip us, y.1 ∈ rs := fun y hy => by
    obtain ⟨j, hj, e⟩ := List.getElem_of_mem hy
    exact List.mem_of_getElem? (getz j y (by rw [List.getElem?_eq_getElem hj, e])).1
  have hz : rs.length ≤ sizeLine := by rw [sizeLine_eq]; omega
  subst eits
  refine PySem.call_dict_pairsH (knd := tupleKind (mixKind X.prog X.w)) (ps := (rs.zip us).map fun y => (y.1.k, y.1.b, y.2)) (PairArg.list a (rs.map fun r => Value.ref r.p).toArray (fun j => (rs[j]?.map (·.p)).getD 0) ((rs.zip us).map fun y => (Value.ref y.1.b, y.2))) (I.ok.hd hc)
    (room_of (by show X.A.units + 1 + 1 < cLine; omega)) ⟨⟨_, n, ho, rfl, rfl, rfl⟩, by rw [List.size_toArray, List.length_map, List.length_map, lenz], fun j k u e => ?_⟩ ⟨by rw [List.length_map, List.length_map], fun i key v e => ?_⟩ (fun h' kp x hx => ?_) (by rw [List.length_map, lenz]; exact hz) fun h' tk dd kp => ?_
  · rw [List.getElem?_map] at e
    obtain ⟨y, e1, e2⟩ := Option.map_eq_some_iff.mp e
    cases e2
    obtain ⟨f1, f2⟩ := getz j y e1
    have eT : (fun j => (rs[j]?.map (·.p)).getD 0) j = y.1.p := by
      show (rs[j]?.map (·.p)).getD 0 = _
      rw [f1]
      rfl
    rw [eT]
    exact ⟨by rw [List.getElem?_toArray, List.getElem?_map, f1]; rfl, .inl (huv j _ _ f1 f2).2⟩
  · have e' : ((rs.zip us).map fun y => (Value.ref y.1.b, y.2))[i]? = some (key, v) := e
    rw [List.getElem?_map] at e'
    obtain ⟨y, e1, e2⟩ := Option.map_eq_some_iff.mp e'
    cases e2
    exact ⟨y.1.k, y.1.b, by rw [List.getElem?_map, e1]; rfl, rfl⟩
  · obtain ⟨y, hy, rfl⟩ := List.mem_map.mp hx
    have is0 : (tupleKind (mixKind X.prog X.w)).is s.heap y.1.k y.1.b := key_of I.hok (hr _ (inz y hy)).2
    obtain ⟨o, items, m, g, r⟩ := is0
    exact ⟨o, items, m, kp _ o (Nat.ne_of_lt (Heap.lt_size g)) (fun z => nomatch z) g, r⟩
  · have hn : H s.heap.objs.size = none := I.hok.fresh (Nat.le_refl _)
    have ms : (s.heap.objs.size == sysModules) = false := beq_eq_false_iff_ne.mpr (Nat.ne_of_gt I.big)
    have kt := kt_fold (H := H) (kvs := []) (xs := []) hus (fun j r u e1 e2 => (huv j r u e1 e2).1) hr .nil
    have kk : ∀ b o, s.heap.get? b = some o → h'.get? b = some o := fun b o e => kp b o (fun z => nomatch z) e
    obtain ⟨o, es, ep, g1, g2, g3, g4, g5, g6⟩ := dd
    refine ⟨.ref s.heap.objs.size, upd H s.heap.objs.size (.dT (rs.foldl (fun acc r => putK acc r.k r.v) [])), I.laid (t' := tk) kk (Nat.le_refl _) ⟨?_, ms, _, kt.keeps (fun b ys e => by rw [upd_ne (fun z => by rw [z, hn] at e; cases e)]; exact e), o, es, ep, g1, g2, g3, g4, g6⟩, rfl, q _ hn⟩
    have := fold_len rs []
    rw [List.length_nil] at this
    omega
/-- pairs of a tuple and a value -/
def pairsOfT : List D → Option (List (List Key × D))
  | [] => some []
  | .tup [.tup ds, v] :: r => (keysOf ds).bind fun k => (pairsOfT r).bind fun ps => some ((k, v) :: ps)
  | _ => none
def dictTD : D → Option (List (List Key × D))
  | .lst ds => (pairsOfT ds).bind fun ps => if ps.length ≤ 100000 then some (ps.foldl (fun acc r => putD acc r.1 r.2) []) else none
  | _ => none
def fDictT (fa : FE) : FKT := fun ρ => (fa ρ).bind fun r => (dictTD r.1).bind fun z => some (z, r.2)
theorem rps_pairs {K : PySem.W.Frag} {G : Hp} : ∀ {ds : List D} {ps : List (List Key × D)} {vs : List V}, pairsOfT ds = some ps → Rps K G vs ds → ∃ rs : List Prow, vs = (rs.map fun r => V.ref r.p) ∧ (∀ r ∈ rs, r.At G) ∧ Paired (fun r p => r.k = p.1 ∧ Rp K G r.v p.2) rs ps
  | [], _, _, h, .nil => by
    cases h
    exact ⟨[], rfl, fun r hr => (by cases hr), .nil⟩
  | d :: ds, ps, _, h, .cons m t => by
    unfold pairsOfT at h
    split at h
    · rename_i e
      cases e
    · rename_i ds' v r e
      cases e
      obtain ⟨k, h1, h2⟩ := bindE h
      obtain ⟨ps', h3, h4⟩ := bindE h2
      cases h4
      obtain ⟨rs, e1, e2, e3⟩ := rps_pairs h3 t
      cases m with
      | @tup a xs _ g1 g2 =>
        cases g2 with
        | cons m1 t1 =>
          cases t1 with
          | cons m2 t2 =>
            cases t2
            cases m1 with
            | @tup b ys _ g3 g4 =>
              refine ⟨⟨a, b, k, _⟩ :: rs, by rw [e1]; rfl, fun r hr => ?_, .cons ⟨rfl, m2⟩ e3⟩
              rcases List.mem_cons.mp hr with z | z
              · rw [z]
                exact ⟨g1, by rw [g3, g4.keys h1]⟩
              · exact e2 r z
    · cases h
theorem fold_rel {K : PySem.W.Frag} {G : Hp} : ∀ {rs : List Prow} {ps : List (List Key × D)}, Paired (fun r p => r.k = p.1 ∧ Rp K G r.v p.2) rs ps → ∀ {kvs : List (List Key × V)} {dvs : List (List Key × D)}, RpK K G kvs dvs →
    RpK K G (rs.foldl (fun acc r => putK acc r.k r.v) kvs) (ps.foldl (fun acc r => putD acc r.1 r.2) dvs)
  | _, _, .nil, _, _, h => h
  | _, _, .cons (a := r) (b := p) q t, kvs, dvs, h => by
    have e : RpK K G (putK kvs r.k r.v) (putD dvs p.1 p.2) := by
      rw [q.1]
      exact RpK.put p.1 q.2 h
    exact fold_rel t e
theorem cdt_dict (hc : X.calm = true) (hu : X.A.units + 4 < cLine) (hp : ∀ {r : List V → Hp → VK → Prop} {ta : TA}, CallR X (.type "dict") r → PA X [a] ta → PE X e (tCB r ta)) (ha : CV X a fa) (hs : starEach [a] X.env = (false, eval a X.env) :: starEach [] X.env := by rfl) : CDT X e (fDictT fa) := by
  obtain ⟨t, p, q⟩ := ha
  refine ⟨_, hp (cr_dictT hc hu) (pa_cons p pa_nil hs), fun F G H σ ρ d ρ' R hf Q k => ?_⟩
  obtain ⟨⟨x, ρ1⟩, h2, h3⟩ := bindE hf
  obtain ⟨z, h4, h5⟩ := bindE h3
  cases h5
  refine q F G H σ ρ x _ R h2 _ fun G1 H1 v s1 r1 m1 => ?_
  cases x with
  | lst ds =>
    obtain ⟨ps, h6, h7⟩ := bindE h4
    split at h7
    · rename_i hl
      cases h7
      obtain ⟨l, vs, rfl, hx, rv⟩ := m1.lst r1.gh
      obtain ⟨rs, rfl, e2, e3⟩ := rps_pairs h6 rv
      refine ⟨l, rs, rfl, hx, fun r hr => ⟨r1.gh _ _ (e2 r hr).1, r1.gh _ _ (e2 r hr).2⟩, by rw [e3.length]; exact hl, fun p hn => ?_⟩
      exact k G1 _ p s1 (r1.newU hn) (r1.free hn) ⟨_, upd_same, fold_rel e3 .nil⟩
    · cases h7
  | _ => cases h4
end
end DL

/-! DL23: min(xs), xs a list of data. -/
namespace DL
open PySem PySem.Spec PyProof.Rows L2

mutual
theorem py_inj : ∀ {d e : D}, d.py = e.py → d.py.canLay0 = true → d = e
  | .non, e, h, _ => by cases e <;> first | rfl | (simp [D.py] at h)
  | .bl _, e, h, _ => by cases e <;> first | (simp [D.py] at h; rw [h]) | (simp [D.py] at h)
  | .int _, e, h, _ => by cases e <;> first | (simp [D.py] at h; rw [h]) | (simp [D.py] at h)
  | .str _, e, h, _ => by cases e <;> first | (simp [D.py] at h; rw [h]) | (simp [D.py] at h)
  | .lst ds, e, h, c => by
    cases e with
    | lst es =>
      simp only [D.py, PyData.list.injEq] at h
      rw [pys_inj h (by simpa [D.py, PyData.canLay0] using c)]
    | _ => simp [D.py] at h
  | .tup ds, e, h, c => by
    cases e with
    | tup es =>
      simp only [D.py, PyData.tuple.injEq] at h
      rw [pys_inj h (by simpa [D.py, PyData.canLay0] using c)]
    | _ => simp [D.py] at h
  | .dk _, e, h, c => by simp [D.py, PyData.canLay0] at c
  | .dt _, e, h, c => by simp [D.py, PyData.canLay0] at c
theorem pys_inj : ∀ {ds es : List D}, D.pys ds = D.pys es → PyData.canLayAll0 (D.pys ds) = true → ds = es
  | [], [], _, _ => rfl
  | [], _ :: _, h, _ => by simp [D.pys] at h
  | _ :: _, [], h, _ => by simp [D.pys] at h
  | d :: ds, e :: es, h, c => by
    simp only [D.pys, List.cons.injEq] at h
    simp only [D.pys, PyData.canLayAll0, Bool.and_eq_true] at c
    rw [py_inj h.1 c.1, pys_inj h.2 c.2]
end
def minF (d : D) (ds : List D) : D := ds.foldl (fun a y => if PySem.W.dataLt y.py a.py then y else a) d
theorem minF_mem : ∀ (ds : List D) (d : D), minF d ds ∈ d :: ds
  | [], d => List.mem_cons_self
  | y :: ds, d => by
    show minF (if PySem.W.dataLt y.py d.py then y else d) ds ∈ _
    have h := minF_mem ds (if PySem.W.dataLt y.py d.py then y else d)
    rcases List.mem_cons.mp h with e | e
    · rw [e]
      split
      · exact List.mem_cons_of_mem _ List.mem_cons_self
      · exact List.mem_cons_self
    · exact List.mem_cons_of_mem _ (List.mem_cons_of_mem _ e)
theorem minF_py : ∀ (ds : List D) (d : D), (minF d ds).py = PySem.W.minD d.py (D.pys ds)
  | [], _ => rfl
  | y :: ds, d => by
    show (minF (if PySem.W.dataLt y.py d.py then y else d) ds).py = PySem.W.minD (if PySem.W.dataLt y.py d.py then y.py else d.py) (D.pys ds)
    rw [minF_py ds]
    congr 1
    split <;> rfl
def minLD : D → Option D
  | .lst (d :: ds) => if srtOk (D.pys (d :: ds)) = true ∧ ((d :: ds).all fun x => match x with | .non => false | _ => true) = true then some (minF d ds) else none
  | _ => none
theorem depth_all : ∀ {ds : List PyData}, (∀ d ∈ ds, d.depth ≤ 64) → PyData.depthAll ds ≤ 64
  | [], _ => by simp [PyData.depthAll]
  | d :: ds, h => by
    rw [PyData.depthAll]
    have h1 := h d List.mem_cons_self
    have h2 := depth_all (ds := ds) fun x hx => h x (List.mem_cons_of_mem _ hx)
    omega
section
variable {X : Cx}
def rMinData (K : PySem.W.Frag) : List V → Hp → VK → Prop := fun vs H Q => ∃ (a : Addr) (xs : List V) (d : PyData) (ds : List PyData), vs = [.ref a] ∧ SqL K H a xs ∧ DpAll K H xs (d :: ds) ∧ srtOk (d :: ds) = true ∧ (∀ x ∈ d :: ds, x ≠ .none) ∧
  ∀ (i : Nat) v, xs[i]? = some v → (d :: ds)[i]? = some (PySem.W.minD d ds) → Q v H
theorem cr_minData (hc : X.calm = true) (hu : X.A.units + 66 < cLine) : CallR X (.builtin "min") (rMinData X.K) := by
  intro pins s σ H vs us Q I r h
  obtain ⟨a, xs, d, ds, rfl, hs, hd, ok, nn, q⟩ := h
  obtain ⟨h1, h2, h3⟩ := srtOk_all ok
  obtain ⟨its, rv, hl, hz⟩ := I.list hs
  rw [Vals.ref1 r]
  obtain ⟨as, ra⟩ := Dp.readsAll I _ _ _ hd rv
  have dep := depth_all fun x hx => (h3 x hx).2
  refine PySem.W.min_list_data (I.ok.hd hc) hl.isList (by simpa using ra) ⟨h1, nn⟩ (by omega) fun i v h' tk bs hv rd k => ?_
  have hv' : its[i]? = some v := by rw [← hv, List.getElem?_toArray]
  obtain ⟨cs, rd2, hi, hm, _⟩ := PySem.W.readsAll_at ra i v hv'
  have hil : i < its.length := (List.getElem?_eq_some_iff.mp hv').1
  have e0 : (d :: ds).getD i .none = (d :: ds)[i] := by rw [List.getD_eq_getElem?_getD, List.getElem?_eq_getElem hi]; rfl
  have mm : PySem.W.minD d ds ∈ d :: ds := by
    have key : ∀ (ds : List PyData) (d : PyData), PySem.W.minD d ds ∈ d :: ds := by
      intro ds
      induction ds with
      | nil => exact fun d => List.mem_cons_self
      | cons y ds ih =>
        intro d
        have h := ih (if PySem.W.dataLt y d then y else d)
        show PySem.W.minD (if PySem.W.dataLt y d then y else d) ds ∈ _
        rcases List.mem_cons.mp h with e | e
        · rw [e]
          split
          · exact List.mem_cons_of_mem _ List.mem_cons_self
          · exact List.mem_cons_self
        · exact List.mem_cons_of_mem _ (List.mem_cons_of_mem _ e)
    exact key ds d
  have eq : (d :: ds).getD i .none = PySem.W.minD d ds := PySem.W.alike_unique _ _ v _ _ (h1 _ hm _ mm) (PySem.W.reads_keeps k rd2) rd
  obtain ⟨y, hy⟩ : ∃ y, xs[i]? = some y := ⟨xs[i]'(by rw [rv.length]; exact hil), List.getElem?_eq_getElem _⟩
  obtain ⟨u, hu', ry⟩ := rv.get hy
  rw [hv'] at hu'
  cases hu'
  exact ⟨y, H, I.kept (t' := tk) k, ry, q i y hy (by rw [List.getElem?_eq_getElem hi, ← e0, eq])⟩
theorem blt_min (hc : X.calm = true) (hu : X.A.units + 66 < cLine) : BltV X (.builtin "min") minLD := by
  refine ⟨_, cr_minData hc hu, fun G H x d z s hx hg Q k => ?_⟩
  unfold minLD at hg
  split at hg
  · rename_i d ds
    split at hg
    · rename_i hcond
      cases hg
      obtain ⟨p, vs, rfl, h1, h2⟩ := hx.lst s
      have cl := canLay_all hcond.1
      refine ⟨p, vs, d.py, D.pys ds, rfl, SqL.of h1, h2.dp s cl, hcond.1, fun x hx => ?_, fun i v hv hi => ?_⟩
      · have hx' : x ∈ (d :: ds).map D.py := by rw [← pys_map]; exact hx
        obtain ⟨y, hy, rfl⟩ := List.mem_map.mp hx'
        have q := List.all_eq_true.mp hcond.2 y hy
        cases y with
        | non => cases q
        | _ => simp [D.py]
      · obtain ⟨y, hy, m⟩ : ∃ y, (d :: ds)[i]? = some y ∧ Rp X.K G v y := by
          have hil : i < (d :: ds).length := by
            rw [← h2.len]
            exact (List.getElem?_eq_some_iff.mp hv).1
          obtain ⟨v', e1, m⟩ := h2.get (i := i) (List.getElem?_eq_getElem hil)
          rw [hv] at e1
          cases e1
          exact ⟨_, List.getElem?_eq_getElem hil, m⟩
        have e1 : (D.pys (d :: ds))[i]? = some y.py := by rw [pys_map, List.getElem?_map, hy]; rfl
        have e2 : (D.pys (d :: ds))[i]? = some (PySem.W.minD d.py (D.pys ds)) := hi
        rw [e1] at e2
        have e3 : y.py = (minF d ds).py := by rw [minF_py]; exact Option.some.inj e2
        have cy : y.py.canLay0 = true := by
          have hm := List.mem_of_getElem? e1
          exact SeqAt.canLay_of_shaped ((srtOk_all hcond.1).2.2 _ hm).1
        rw [py_inj e3 cy] at m
        exact k _ _ _ Gr.same m
    · cases hg
  · cases hg
end
end DL

/-! DL24: words for the printed derivations. -/
namespace DL
open PySem PySem.Spec PyProof.Rows L2

theorem hub {k n : Nat} {A : Around} (hr : Room k A) (h : n ≤ 200) : A.units + n < cLine := by
  have := hr.un
  omega
theorem hub0 {k : Nat} {A : Around} (hr : Room k A) : A.units < cLine := by
  have := hr.un
  omega
structure Cal (P : Program) (w : World) (K : PySem.W.Frag) (mg : Str → Option Value) (base : Heap) (nm : Str) (k : Nat) (ps : List Str) (sp : Sp) : Prop where
  ex : ∃ (f : Addr) (fd : FuncData), FnOk P w K mg base CX0 k f fd ps sp ∧ mg nm = some (.ref f) ∧ PySem.W.keepIn K (.ref f) = true ∧ Binds K fd ps []
theorem ce_neg {X : Cx} {i : Int} {j : Nat} {p pos : Pos} : CE X (.UnaryOp .USub (.Constant (.int i) j p) pos) (fC (.int (-i))) := by
  refine ⟨_, pe_un un_neg pe_int, fun F G H σ ρ d ρ' R hf Q k => ?_⟩
  cases hf
  exact ⟨_, rfl, k G H _ (Same.refl _) R (.int _)⟩
def listD0 : D → Option (List D) := fun d => match d with | .dk _ => none | d => listD d
def fGetN (i : Nat) (fb fc : FE) : FE := fun ρ => ((ρ[i]?.bind Sl.view).bind fun d => if isDct d = true then fGet2N i fb fc ρ else none)
end DL

/-! DL25: slices of lists. -/
namespace DL
open PySem PySem.Spec PyProof.Rows L2
theorem Rps.dropN {K : PySem.W.Frag} {G : Hp} : ∀ {vs : List V} {ds : List D} (n : Nat), Rps K G vs ds → Rps K G (vs.drop n) (ds.drop n)
  | _, _, 0, h => h
  | _, _, _ + 1, .nil => .nil
  | _, _, n + 1, .cons _ t => Rps.dropN n t
def fSlL (f : FE) (g h : Sls → Option (Option Int × Sls)) : FL := fun ρ => (f ρ).bind fun r => (g r.2).bind fun p => (h p.2).bind fun q => match r.1 with
  | .lst ds => some (cutD ds p.1 q.1, q.2)
  | .scr ns => some ((cutD ns p.1 q.1).map .int, q.2)
  | _ => none
section
variable {X : Cx} {a : Expr} {pos : Pos} {fa : FE}
theorem cl_slL {lo hi : Option Expr} {p2 : Pos} {g1 g2 : Sls → Option (Option Int × Sls)} (ha : CE X a fa) (h1 : CO X lo g1) (h2 : CO X hi g2) : CL X (.Subscript a (.Slice lo hi none p2) pos) (fSlL fa g1 g2) := by
  obtain ⟨t, p, q⟩ := ha
  obtain ⟨t1, p1, q1⟩ := h1
  obtain ⟨t2, p2, q2⟩ := h2
  refine ⟨_, pe_slice sl_list p p1 p2, fun F G H σ ρ d ρ' R hf Q k => ?_⟩
  obtain ⟨⟨x, ρ1⟩, h1, h2⟩ := bindE hf
  obtain ⟨⟨l, ρ2⟩, h3, h4⟩ := bindE h2
  obtain ⟨⟨u, ρ3⟩, h5, h6⟩ := bindE h4
  refine q F G H σ ρ x ρ1 R h1 _ fun G1 H1 v s1 r1 m1 => q1 F G1 H1 σ ρ1 l ρ2 r1 h3 _ fun G2 H2 s2 r2 => q2 F G2 H2 σ ρ2 u ρ3 r2 h5 _ fun G3 H3 s3 r3 => ?_
  cases x with
  | lst ds =>
    cases h6
    have m2 := m1.mono (s2.trans s3)
    cases m2 with
    | lst g m =>
      refine ⟨_, _, rfl, SqL.of (r3.gh _ _ g), fun p hp => ?_⟩
      refine k G3 _ p ((s1.trans s2).trans s3) (r3.newU hp) (r3.free hp) ⟨_, upd_same, ?_⟩
      unfold cutV cutD
      rw [m.len]
      exact (m.dropN _).take _
  | scr ns =>
    cases h6
    have m2 := m1.mono (s2.trans s3)
    cases m2 with
    | scr g =>
      refine ⟨_, _, rfl, Sm.sqL r3.gh g, fun p hp => ?_⟩
      refine k G3 _ p ((s1.trans s2).trans s3) (r3.newU hp) (r3.free hp) ⟨_, upd_same, ?_⟩
      have e : cutV (ns.map V.int) l u = (cutD ns l u).map V.int := by
        unfold cutV cutD
        rw [List.length_map, List.map_take, List.map_drop]
      rw [e]
      exact Rps.of_ints _
  | _ => cases h6
end
end DL

/-! DL26: many objects that are watched; many dicts locked behind a statement. -/
namespace DL
open PySem PySem.Spec PyProof.Rows L2

def ovr (W B : Hp) : Hp := fun a => match W a with
  | some o => some o
  | none => B a
abbrev Bk.over (F : Bk) (W : Hp) : Bk := { F with B := ovr W F.B }
theorem ovr_some {W B : Hp} {a : Addr} {o : HO} (h : W a = some o) : ovr W B a = some o := by
  unfold ovr
  rw [h]
theorem ovr_none {W B : Hp} {a : Addr} (h : W a = none) : ovr W B a = B a := by
  unfold ovr
  rw [h]
theorem ovr_upd (W B : Hp) (p : Addr) (o : HO) : ovr (upd W p o) B = upd (ovr W B) p o := by
  funext b
  by_cases h : b = p
  · subst h
    rw [upd_same, ovr_some upd_same]
  · rw [upd_ne h]
    cases e : W b with
    | none => rw [ovr_none e, ovr_none (by rw [upd_ne h]; exact e)]
    | some o => rw [ovr_some e, ovr_some (by rw [upd_ne h]; exact e)]
theorem ovr_self {W B : Hp} {p : Addr} {o : HO} (h : W p = some o) : upd (ovr W B) p o = ovr W B := upd_self (ovr_some h)
theorem Bk.over_upd (F : Bk) (W : Hp) (p : Addr) (o : HO) : F.over (upd W p o) = (F.over W).plus p o := by
  show ({ F with B := ovr (upd W p o) F.B } : Bk) = { F with B := upd (ovr W F.B) p o }
  rw [ovr_upd]
theorem Bk.over_self (F : Bk) {W : Hp} {p : Addr} {o : HO} (h : W p = some o) : (F.over W).plus p o = F.over W := by
  show ({ F with B := upd (ovr W F.B) p o } : Bk) = { F with B := ovr W F.B }
  rw [ovr_self h]
theorem Bk.over_no (F : Bk) : F.over (fun _ => none) = F := rfl
section
variable {K : PySem.W.Frag} {F : Bk} {G H H2 W W2 : Hp} {σ : L2.St} {ρ : Sls}
theorem SR.newW (R : SR K (F.over W) G H σ ρ) {p : Addr} {o : HO} (h : H p = none) : SR K (F.over (upd W p o)) G (upd H p o) σ ρ := by
  rw [Bk.over_upd]
  exact R.watch h
theorem SR.atW (R : SR K (F.over W) G H σ ρ) {p : Addr} {o : HO} (h : W p = some o) : H p = some o := R.bh p o (ovr_some h)
theorem SR.chgW (R : SR K (F.over W) G H σ ρ) {p : Addr} {o o' : HO} (h : W p = some o) (g : G p = none) : SR K (F.over (upd W p o')) G (upd H p o') σ ρ := by
  rw [Bk.over_upd]
  rw [← Bk.over_self F h] at R
  have R2 : SR K ((F.over W).plus p o') G (upd H p o') σ ρ := R.accum g
  exact R2
/-- the watched objects are new ones, and no tuples -/
def Wok (F : Bk) (W : Hp) : Prop := ∀ p o, W p = some o → F.B p = none ∧ F.G0 p = none ∧ ∀ xs, o ≠ .tup xs
theorem SR.gW (R : SR K (F.over W) G H σ ρ) (w : Wok F W) {p : Addr} {o : HO} (h : W p = some o) : G p = none := by
  obtain ⟨_, h2, h3⟩ := w p o h
  rw [← Bk.over_self F h] at R
  exact R.gnone h2 h3
theorem SR.freshW (R : SR K (F.over W) G H σ ρ) {p : Addr} (h : H p = none) : W p = none ∧ F.B p = none ∧ F.G0 p = none := by
  have n : ovr W F.B p = none := R.noB h
  cases e : W p with
  | some o =>
    rw [ovr_some e] at n
    cases n
  | none =>
    rw [ovr_none e] at n
    exact ⟨rfl, n, R.g0.free (R.none_of h)⟩
theorem Wok.upd (w : Wok F W) {p : Addr} {o : HO} (h : F.B p = none ∧ F.G0 p = none) (ho : ∀ xs, o ≠ .tup xs) : Wok F (L2.upd W p o) := fun q u e => by
  by_cases hq : q = p
  · subst hq
    rw [upd_same] at e
    cases e
    exact ⟨h.1, h.2, ho⟩
  · rw [upd_ne hq] at e
    exact w q u e
/-- all of them are frozen as they stand -/
theorem SR.frzW (R : SR K (F.over W) G H σ ρ) (w : Wok F W) (dom : ∀ p, W p = none → W2 p = none) (hH : ∀ p, H2 p = ovr W2 H p) : Same G (ovr W2 G) ∧ SR K F (ovr W2 G) H2 σ ρ := by
  have inW : ∀ p o, W2 p = some o → ∃ u, W p = some u := fun p o e => by
    cases q : W p with
    | some u => exact ⟨u, rfl⟩
    | none =>
      rw [dom p q] at e
      cases e
  have s : Same G (ovr W2 G) := fun b u e => by
    cases q : W2 b with
    | none =>
      rw [ovr_none q]
      exact e
    | some o =>
      obtain ⟨u', hu⟩ := inW b o q
      rw [R.gW w hu] at e
      cases e
  refine ⟨s, ?_⟩
  have ownW : ∀ (i : Nat) t a, ρ[i]? = some t → t.own = true → σ[i]? = some (some (.ref a)) → W a = none ∧ F.B a = none := fun i t a e o q => by
    have h : ovr W F.B a = none := (R.own i t a e o q).2
    cases z : W a with
    | some u =>
      rw [ovr_some z] at h
      cases h
    | none =>
      rw [ovr_none z] at h
      exact ⟨rfl, h⟩
  refine ⟨fun b u e => ?_, fun b u e => ?_, R.g0.trans s, fun a o e => ?_, R.len, fun i t e => ?_, fun i t a e o q => ?_, R.apart, R.io⟩
  · rw [hH]
    cases q : W2 b with
    | none =>
      rw [ovr_none q] at e ⊢
      exact R.gh _ _ e
    | some o =>
      rw [ovr_some q] at e ⊢
      exact e
  · have n : W b = none := by
      cases z : W b with
      | none => rfl
      | some o =>
        rw [(w b o z).1] at e
        cases e
    rw [hH, ovr_none (dom b n)]
    exact R.bh b u (by show ovr W F.B b = some u; rw [ovr_none n]; exact e)
  · cases q : W2 a with
    | some u =>
      obtain ⟨u', hu⟩ := inW a u q
      exact .inr (.inl (w a u' hu).1)
    | none =>
      rw [ovr_none q] at e
      rcases R.gb a o e with h | h | h
      · exact .inl h
      · have h' : ovr W F.B a = none := h
        cases z : W a with
        | some u =>
          rw [ovr_some z] at h'
          cases h'
        | none =>
          rw [ovr_none z] at h'
          exact .inr (.inl h')
      · exact .inr (.inr h)
  · obtain ⟨x, h1, h2⟩ := R.sl i t e
    refine ⟨x, h1, ?_⟩
    cases o : t.own with
    | true =>
      obtain ⟨a, rfl, h3⟩ := h2.own_of o
      exact .of_own rfl (h3.mono s (by rw [hH, ovr_none (dom a (ownW i t a e o h1).1)]))
    | false =>
      cases t with
      | no => trivial
      | d y =>
        obtain ⟨v, rfl, h⟩ := h2
        exact ⟨v, rfl, h.mono s⟩
      | _ => cases o
  · obtain ⟨z1, z2⟩ := ownW i t a e o q
    refine ⟨?_, z2⟩
    rw [ovr_none (dom a z1)]
    exact (R.own i t a e o q).1
theorem set_self {α : Type} {x : α} : ∀ {l : List α} {i : Nat}, l[i]? = some x → l.set i x = l
  | [], _, h => by simp at h
  | y :: l, 0, h => by
    simp at h
    subst h
    rfl
  | y :: l, i + 1, h => by
    rw [List.set_cons_succ, set_self (l := l) (i := i) (by simpa using h)]
/-- a slot is seen as what it is -/
theorem SR.see (R : SR K F G H σ ρ) {i : Nat} {v : V} {d : D} (h : σ[i]? = some (some v)) (m : Rp K G v d) : SR K F G H σ (ρ.set i (.d d)) := by
  have := R.setD i m
  rw [set_self h] at this
  exact this
end

/-! ### dicts locked behind a statement -/
def lockQ : List Addr → (Hp → Prop) → Hp → Prop
  | [], Q, H => Q H
  | d :: ds, Q, H => ∃ u, H d = some u ∧ Mut (some u) ∧ ∀ od, lockQ ds Q (upd H d (.frz od u))
def tLks (t : TS) : TS := fun D σ H => t { D with nx := fun σ' H' => ∃ ds, lockQ ds (D.nx σ') H' } σ H
theorem Inv_locks {X : Cx} {pins : List (Addr × Obj)} {σ : L2.St} {s : Shared} : ∀ (ds : List Addr) (Q : Hp → Prop) (H : Hp), L2.Inv X pins σ H s → lockQ ds Q H → ∃ H', L2.Inv X pins σ H' s ∧ Q H'
  | [], Q, H, I, h => ⟨H, I, h⟩
  | d :: ds, Q, H, I, ⟨u, hu, mu, h⟩ => by
    obtain ⟨od, I2⟩ := I.lock hu mu
    exact Inv_locks ds Q _ I2 (h od)
theorem ps_locks {X : Cx} {st : Stmt} {t : TS} (h : PS X st t) : PS X st (tLks t) := ⟨fun pins s σ H D I hw => thn (h.run pins s σ H _ I hw) fun f s1 q => by
  cases f with
  | next =>
    obtain ⟨σ', H', I', ds, k⟩ := q
    obtain ⟨H2, I2, k2⟩ := Inv_locks ds _ H' I' k
    exact ⟨σ', H2, I2, k2⟩
  | brk => exact q
  | cont => exact q
  | ret u => exact q⟩
theorem lockQ_of : ∀ (ds : List Addr) (H : Hp) (Q : Hp → Prop), ds.Nodup → (∀ d ∈ ds, ∃ u, H d = some u ∧ Mut (some u)) →
    (∀ H2, (∀ p, p ∉ ds → H2 p = H p) → (∀ d ∈ ds, ∀ u, H d = some u → ∃ od, H2 d = some (.frz od u)) → Q H2) → lockQ ds Q H
  | [], H, Q, _, _, k => k H (fun _ _ => rfl) (fun d h => by cases h)
  | d :: ds, H, Q, nd, hd, k => by
    obtain ⟨u, hu, mu⟩ := hd d List.mem_cons_self
    have nd' := List.nodup_cons.mp nd
    have ne : ∀ e ∈ ds, e ≠ d := fun e he z => nd'.1 (z ▸ he)
    refine ⟨u, hu, mu, fun od => lockQ_of ds _ Q nd'.2 (fun e he => ?_) fun H2 h1 h2 => k H2 (fun p hp => ?_) fun e he u' hu' => ?_⟩
    · obtain ⟨u', h1, h2⟩ := hd e (List.mem_cons_of_mem _ he)
      exact ⟨u', by rw [upd_ne (ne e he)]; exact h1, h2⟩
    · rw [h1 p (fun z => hp (List.mem_cons_of_mem _ z)), upd_ne (fun z => hp (by rw [z]; exact List.mem_cons_self))]
    · by_cases e1 : e = d
      · subst e1
        rw [hu] at hu'
        cases hu'
        exact ⟨od, by rw [h1 e nd'.1, upd_same]⟩
      · exact h2 e ((List.mem_cons.mp he).resolve_left e1) u' (by rw [upd_ne e1]; exact hu')
end DL

/-! DL27: found = [{} for ..]; for ..: found[s].setdefault(k, []).append(v) -/
namespace DL
open PySem PySem.Spec PyProof.Rows L2

/-! ### the list of dicts of lists in the heap -/
structure Cell where
  k : Key
  p : Addr
  vs : List V
structure Row where
  d : Addr
  cs : List Cell
def Row.ad (r : Row) : List Addr := r.d :: r.cs.map Cell.p
def Row.en (r : Row) : List (Key × V) := r.cs.map fun c => (c.k, V.ref c.p)
def Row.at (W : Hp) (r : Row) : Prop := W r.d = some (.dK r.en) ∧ ∀ c ∈ r.cs, W c.p = some (.lst c.vs)
structure Own (W : Hp) (a : Addr) (T : List Row) : Prop where
  root : W a = some (.lst (T.map fun r => V.ref r.d))
  rows : ∀ r ∈ T, r.at W
  nd : (a :: T.flatMap Row.ad).Nodup
theorem Row.at_ne {W : Hp} {r : Row} {p : Addr} {o : HO} (h : r.at W) (n : p ∉ r.ad) : r.at (upd W p o) := by
  refine ⟨?_, fun c hc => ?_⟩
  · rw [upd_ne (fun z => n (by rw [← z]; exact List.mem_cons_self))]
    exact h.1
  · rw [upd_ne (fun z => n (by rw [← z]; exact List.mem_cons_of_mem _ (List.mem_map_of_mem hc)))]
    exact h.2 c hc
theorem ad_some {W : Hp} {r : Row} (h : r.at W) {p : Addr} (hp : p ∈ r.ad) : ∃ o, W p = some o := by
  rcases List.mem_cons.mp hp with rfl | hp
  · exact ⟨_, h.1⟩
  · obtain ⟨c, hc, rfl⟩ := List.mem_map.mp hp
    exact ⟨_, h.2 c hc⟩
theorem Own.some {W : Hp} {a : Addr} {T : List Row} (h : Own W a T) {p : Addr} (hp : p ∈ a :: T.flatMap Row.ad) : ∃ o, W p = some o := by
  rcases List.mem_cons.mp hp with rfl | hp
  · exact ⟨_, h.root⟩
  · obtain ⟨r, hr, hp⟩ := List.mem_flatMap.mp hp
    exact ad_some (h.rows r hr) hp
/-- one more row -/
theorem Own.row {W : Hp} {a : Addr} {T : List Row} (h : Own W a T) {p : Addr} (n : W p = none) : Own (upd (upd W p (.dK [])) a (.lst ((T ++ [(⟨p, []⟩ : Row)]).map fun r => V.ref r.d))) a (T ++ [⟨p, []⟩]) := by
  have na : a ∉ T.flatMap Row.ad := (List.nodup_cons.mp h.nd).1
  have np : p ∉ a :: T.flatMap Row.ad := fun z => by
    obtain ⟨o, ho⟩ := h.some z
    rw [n] at ho
    cases ho
  refine ⟨upd_same, fun r hr => ?_, ?_⟩
  · rcases List.mem_append.mp hr with hr | hr
    · refine Row.at_ne (Row.at_ne (h.rows r hr) (fun z => np (List.mem_cons_of_mem _ (List.mem_flatMap.mpr ⟨r, hr, z⟩)))) (fun z => na (List.mem_flatMap.mpr ⟨r, hr, z⟩))
    · cases List.mem_singleton.mp hr
      refine ⟨?_, fun c hc => by cases hc⟩
      show upd (upd W p (.dK [])) a _ p = _
      rw [upd_ne (fun z => np (by rw [z]; exact List.mem_cons_self)), upd_same]
      rfl
  · rw [List.flatMap_append]
    show (a :: (T.flatMap Row.ad ++ [p])).Nodup
    rw [← List.cons_append]
    refine List.nodup_append.mpr ⟨h.nd, by simp, fun x hx y hy => ?_⟩
    cases List.mem_singleton.mp hy
    intro z
    exact np (z ▸ hx)
/-- a list in it is longer -/
theorem Own.app {W : Hp} {a : Addr} {T1 T2 : List Row} {d : Addr} {C1 C2 : List Cell} {c : Cell} {vs : List V} (h : Own W a (T1 ++ ⟨d, C1 ++ c :: C2⟩ :: T2)) :
    Own (upd W c.p (.lst vs)) a (T1 ++ ⟨d, C1 ++ ⟨c.k, c.p, vs⟩ :: C2⟩ :: T2) := by
  have nd := h.nd
  rw [List.flatMap_append, List.flatMap_cons] at nd
  simp only [Row.ad, List.map_append, List.map_cons, List.nodup_cons, List.nodup_append, List.mem_append, List.mem_cons, List.cons_append] at nd
  obtain ⟨na, n1, n2, n3⟩ := nd
  refine ⟨?_, fun r hr => ?_, ?_⟩
  · rw [upd_ne (fun z => na (by rw [z]; simp))]
    rw [h.root]
    simp
  · rcases List.mem_append.mp hr with hr | hr
    · refine Row.at_ne (h.rows r (List.mem_append_left _ hr)) (fun z => ?_)
      exact n3 c.p (List.mem_flatMap.mpr ⟨r, hr, z⟩) c.p (by simp) rfl
    · rcases List.mem_cons.mp hr with rfl | hr
      · have m := h.rows ⟨d, C1 ++ c :: C2⟩ (by simp)
        refine ⟨?_, fun c' hc' => ?_⟩
        · show upd W c.p _ d = _
          rw [upd_ne (fun z => n2.1 (by rw [z]; simp))]
          rw [show W d = _ from m.1]
          simp [Row.en]
        · have n4 := n2.2.1
          rcases List.mem_append.mp hc' with hc' | hc'
          · rw [upd_ne (fun z => n4.2.2 c'.p (List.mem_map_of_mem hc') c.p (by simp) z)]
            exact m.2 c' (by simp [hc'])
          · rcases List.mem_cons.mp hc' with rfl | hc'
            · exact upd_same
            · rw [upd_ne (fun z => n4.2.1.1 (by rw [← z]; exact List.mem_map_of_mem hc'))]
              exact m.2 c' (by simp [hc'])
      · refine Row.at_ne (h.rows r (by simp [hr])) (fun z => ?_)
        exact n2.2.2.2 c.p (by simp) c.p (List.mem_flatMap.mpr ⟨r, hr, z⟩) rfl
  · have := h.nd
    rw [List.flatMap_append, List.flatMap_cons] at this ⊢
    simpa [Row.ad] using this
/-- a dict in it has one more list -/
theorem Own.new {W : Hp} {a : Addr} {T1 T2 : List Row} {d : Addr} {C : List Cell} {k : Key} {p : Addr} {vs : List V} (h : Own W a (T1 ++ ⟨d, C⟩ :: T2)) (n : W p = none) :
    Own (upd (upd W p (.lst vs)) d (.dK ((C ++ [(⟨k, p, vs⟩ : Cell)]).map fun c => (c.k, V.ref c.p)))) a (T1 ++ ⟨d, C ++ [⟨k, p, vs⟩]⟩ :: T2) := by
  have np : p ∉ a :: (T1 ++ ⟨d, C⟩ :: T2).flatMap Row.ad := fun z => by
    obtain ⟨o, ho⟩ := h.some z
    rw [n] at ho
    cases ho
  have nd := h.nd
  rw [List.flatMap_append, List.flatMap_cons] at nd np
  simp only [Row.ad, List.nodup_cons, List.nodup_append, List.mem_append, List.mem_cons, List.cons_append] at nd np
  obtain ⟨na, n1, n2, n3⟩ := nd
  have hpd : ¬ p = d := fun z => np (by simp [z])
  have hpa : ¬ p = a := fun z => np (by simp [z])
  have had : ¬ a = d := fun z => na (by simp [z])
  refine ⟨?_, fun r hr => ?_, ?_⟩
  · rw [upd_ne had, upd_ne (fun z => hpa z.symm), h.root]
    simp
  · rcases List.mem_append.mp hr with hr | hr
    · refine Row.at_ne (Row.at_ne (h.rows r (List.mem_append_left _ hr)) (fun z => np (.inr (.inl (List.mem_flatMap.mpr ⟨r, hr, z⟩))))) (fun z => ?_)
      exact n3 d (List.mem_flatMap.mpr ⟨r, hr, z⟩) d (by simp) rfl
    · rcases List.mem_cons.mp hr with rfl | hr
      · have m := h.rows ⟨d, C⟩ (by simp)
        refine ⟨upd_same, fun c' hc' => ?_⟩
        rcases List.mem_append.mp hc' with hc' | hc'
        · have e1 : ¬ c'.p = d := fun z => n2.1 (by rw [← z]; exact .inl (List.mem_map_of_mem hc'))
          have e2 : ¬ c'.p = p := fun z => np (.inr (.inr (.inr (.inl (by rw [← z]; exact List.mem_map_of_mem hc')))))
          rw [upd_ne e1, upd_ne e2]
          exact m.2 c' hc'
        · cases List.mem_singleton.mp hc'
          show upd _ d _ p = _
          rw [upd_ne hpd, upd_same]
      · refine Row.at_ne (Row.at_ne (h.rows r (by simp [hr])) (fun z => np (.inr (.inr (.inr (.inr (List.mem_flatMap.mpr ⟨r, hr, z⟩))))))) (fun z => ?_)
        exact n2.1 (.inr (List.mem_flatMap.mpr ⟨r, hr, z⟩))
  · have := h.nd
    rw [List.flatMap_append, List.flatMap_cons] at this ⊢
    have e : (a :: (T1.flatMap Row.ad ++ (Row.ad ⟨d, C ++ [⟨k, p, vs⟩]⟩ ++ T2.flatMap Row.ad))).Perm (p :: a :: (T1.flatMap Row.ad ++ (Row.ad ⟨d, C⟩ ++ T2.flatMap Row.ad))) := by
      refine .trans (.cons a ?_) (.swap p a _)
      have e2 : (Row.ad ⟨d, C ++ [⟨k, p, vs⟩]⟩ ++ T2.flatMap Row.ad) = (d :: C.map Cell.p) ++ p :: T2.flatMap Row.ad := by simp [Row.ad]
      rw [e2, ← List.append_assoc]
      refine .trans List.perm_middle ?_
      rw [List.append_assoc]
      exact .refl _
    refine e.nodup_iff.mpr (List.nodup_cons.mpr ⟨fun z => np ?_, this⟩)
    simpa [Row.ad] using z

/-! ### what it stands for -/
abbrev RowD := List (Key × List D)
inductive CR (K : PySem.W.Frag) (G : Hp) : List Cell → RowD → Prop
  | nil : CR K G [] []
  | cons {c : Cell} {cs : List Cell} {ds : List D} {r : RowD} : Rps K G c.vs ds → CR K G cs r → CR K G (c :: cs) ((c.k, ds) :: r)
inductive TR (K : PySem.W.Frag) (G : Hp) : List Row → List RowD → Prop
  | nil : TR K G [] []
  | cons {r : Row} {T : List Row} {kvs : RowD} {Ds : List RowD} : CR K G r.cs kvs → TR K G T Ds → TR K G (r :: T) (kvs :: Ds)
section
variable {K : PySem.W.Frag} {G G' : Hp}
theorem CR.mono (e : Same G G') : ∀ {cs : List Cell} {r : RowD}, CR K G cs r → CR K G' cs r
  | _, _, .nil => .nil
  | _, _, .cons h t => .cons (h.mono e) (CR.mono e t)
theorem TR.mono (e : Same G G') : ∀ {T : List Row} {Ds : List RowD}, TR K G T Ds → TR K G' T Ds
  | _, _, .nil => .nil
  | _, _, .cons h t => .cons (h.mono e) (TR.mono e t)
theorem CR.len : ∀ {cs : List Cell} {r : RowD}, CR K G cs r → cs.length = r.length
  | _, _, .nil => rfl
  | _, _, .cons h t => by rw [List.length_cons, List.length_cons, CR.len t]
theorem TR.len : ∀ {T : List Row} {Ds : List RowD}, TR K G T Ds → T.length = Ds.length
  | _, _, .nil => rfl
  | _, _, .cons h t => by rw [List.length_cons, List.length_cons, TR.len t]
theorem TR.snoc : ∀ {T : List Row} {Ds : List RowD} {r : Row} {kvs : RowD}, TR K G T Ds → CR K G r.cs kvs → TR K G (T ++ [r]) (Ds ++ [kvs])
  | _, _, _, _, .nil, h => .cons h .nil
  | _, _, _, _, .cons q t, h => .cons q (TR.snoc t h)
/-- the row at a place -/
theorem TR.at : ∀ {T : List Row} {Ds : List RowD} {n : Nat} {kvs : RowD}, TR K G T Ds → Ds[n]? = some kvs →
    ∃ T1 r T2, T = T1 ++ r :: T2 ∧ T1.length = n ∧ CR K G r.cs kvs ∧ ∀ {G' : Hp}, Same G G' → ∀ {r' : Row} {kvs' : RowD}, CR K G' r'.cs kvs' → TR K G' (T1 ++ r' :: T2) (Ds.set n kvs')
  | _, _, _, _, .nil, e => by simp at e
  | _, _, 0, _, .cons (r := r) (T := T) h t, e => by
    simp at e
    subst e
    exact ⟨[], r, T, rfl, rfl, h, by intro G' e r' kvs' h'; exact .cons h' (t.mono e)⟩
  | _, _, n + 1, _, .cons (r := r) (T := T) h t, e => by
    obtain ⟨T1, r', T2, rfl, e2, h2, k⟩ := TR.at (n := n) t (by simpa using e)
    exact ⟨r :: T1, r', T2, rfl, by rw [List.length_cons, e2], h2, by intro G' e r'' kvs' h'; exact .cons (h.mono e) (k e h')⟩
/-- a value more -/
def putApp (k : Key) (d : D) : RowD → RowD
  | [] => [(k, [d])]
  | (j, ds) :: r => if j = k then (j, ds ++ [d]) :: r else (j, ds) :: putApp k d r
def en (cs : List Cell) : List (Key × V) := cs.map fun c => (c.k, V.ref c.p)
theorem CR.val (k : Key) : ∀ {cs : List Cell} {r : RowD}, CR K G cs r →
    (valV (en cs) k = none ∧ (∀ p, putK (en cs) k (V.ref p) = en cs ++ [(k, V.ref p)]) ∧ ∀ (G' : Hp), Same G G' → ∀ (p : Addr) (v : V) (d : D), Rp K G' v d → CR K G' (cs ++ [⟨k, p, [v]⟩]) (putApp k d r)) ∨
    ∃ C1 c C2, cs = C1 ++ c :: C2 ∧ c.k = k ∧ valV (en cs) k = some (V.ref c.p) ∧ (∃ ds, (k, ds) ∈ r ∧ c.vs.length = ds.length) ∧ ∀ (G' : Hp), Same G G' → ∀ (v : V) (d : D), Rp K G' v d → CR K G' (C1 ++ ⟨c.k, c.p, c.vs ++ [v]⟩ :: C2) (putApp k d r)
  | _, _, .nil => .inl ⟨rfl, fun p => rfl, fun G' e p v d h => .cons (.cons h .nil) .nil⟩
  | _, _, .cons (c := c) (cs := cs) (ds := ds) (r := r) h t => by
    by_cases e : c.k = k
    · refine .inr ⟨[], c, cs, rfl, e, valV_pos e, ⟨ds, by rw [e]; exact List.mem_cons_self, h.len⟩, fun G' q v d m => ?_⟩
      unfold putApp
      rw [if_pos e]
      exact .cons ((h.mono q).app (.cons m .nil)) (t.mono q)
    · have e1 : valV (en (c :: cs)) k = valV (en cs) k := valV_neg e
      rcases CR.val k t with ⟨h1, h2, h3⟩ | ⟨C1, c', C2, rfl, h1, h2, ⟨ds', h4, h5⟩, h3⟩
      · refine .inl ⟨e1.trans h1, fun p => ?_, fun G' q p v d m => ?_⟩
        · have h2' := h2 p
          unfold putK at h2' ⊢
          have e2 : ((en (c :: cs)).any fun kv => decide (kv.1 = k)) = (en cs).any fun kv => decide (kv.1 = k) := by simp [en, e]
          rw [e2]
          split
          · rename_i hh
            rw [if_pos hh] at h2'
            have := congrArg List.length h2'
            simp at this
          · rfl
        · unfold putApp
          rw [if_neg e]
          exact .cons (h.mono q) (h3 G' q p v d m)
      · refine .inr ⟨c :: C1, c', C2, rfl, h1, e1.trans h2, ⟨ds', List.mem_cons_of_mem _ h4, h5⟩, fun G' q v d m => ?_⟩
        unfold putApp
        rw [if_neg e]
        exact .cons (h.mono q) (h3 G' q v d m)
/-- all of it frozen -/
def rowD (kvs : RowD) : List (Key × D) := kvs.map fun e => (e.1, .lst e.2)
def rowsD (Ds : List RowD) : List D := Ds.map fun kvs => .dk (rowD kvs)
theorem CR.rp : ∀ {cs : List Cell} {r : RowD}, CR K G cs r → (∀ c ∈ cs, G c.p = some (.lst c.vs)) → RpK K G (en cs) (rowD r)
  | _, _, .nil, _ => .nil
  | _, _, .cons (c := c) h t, k => .cons (.lst (k c List.mem_cons_self) h) (CR.rp t fun c' hc => k c' (List.mem_cons_of_mem _ hc))
theorem TR.rp : ∀ {T : List Row} {Ds : List RowD}, TR K G T Ds → (∀ r ∈ T, (∃ od, G r.d = some (.frz od (.dK (en r.cs)))) ∧ ∀ c ∈ r.cs, G c.p = some (.lst c.vs)) → Rps K G (T.map fun r => V.ref r.d) (rowsD Ds)
  | _, _, .nil, _ => .nil
  | _, _, .cons (r := r) h t, k => by
    obtain ⟨⟨od, h1⟩, h2⟩ := k r List.mem_cons_self
    exact .cons (.dK h1 (h.rp h2)) (TR.rp t fun r' hr => k r' (List.mem_cons_of_mem _ hr))
end

/-! ### one item -/
def smallR (kvs : RowD) : Bool := decide (kvs.length ≤ 1000000) && kvs.all fun e => decide (e.2.length ≤ 1000000)
def grpS (es ek ev : FE) (Ds : List RowD) : Sls → Option (List RowD × Sls) := fun ρ => (es ρ).bind fun r1 => (ek r1.2).bind fun r2 => (ev r2.2).bind fun r3 => match r1.1 with
  | .int i => (ixN Ds.length i).bind fun n => (Ds[n]?).bind fun kvs => (keyOf r2.1).bind fun k => if smallR kvs = true then some (Ds.set n (putApp k r3.1 kvs), r3.2) else none
  | _ => none
def grpD (g : D → Sls → Option Sls) (es ek ev : FE) : List D → List RowD → Sls → Option (List RowD × Sls)
  | [], Ds, ρ => some (Ds, ρ)
  | d :: ds, Ds, ρ => (g d ρ).bind fun ρ1 => (grpS es ek ev Ds ρ1).bind fun r => grpD g es ek ev ds r.1 r.2
def fGrp (i : Nat) (fi fj : FL) (g : D → Sls → Option Sls) (es ek ev : FE) : FS := fun ρ => (fi ρ).bind fun r => if r.1.length ≤ 1000000 ∧ i < r.2.length then
  (fj (r.2.set i .no)).bind fun q => (grpD g es ek ev q.1 (List.replicate r.1.length []) q.2).bind fun o => some (.nx (o.2.set i (.d (.lst (rowsD o.1)))))
  else none
theorem smallR_len {kvs : RowD} (h : smallR kvs = true) : kvs.length ≤ 1000000 ∧ ∀ e ∈ kvs, e.2.length ≤ 1000000 := by
  unfold smallR at h
  rw [Bool.and_eq_true] at h
  exact ⟨of_decide_eq_true h.1, fun e he => of_decide_eq_true (List.all_eq_true.mp h.2 e he)⟩
abbrev tGrp (K : PySem.W.Frag) (i : Nat) (ts tk tv : TE) : TE := tBM K "list" rAppend (tDSetd (tOp (rIxL K) (tVar i) ts) tk (tLst tNil)) (tCons tv tNil)
theorem atI_map {T1 : List Row} {r : Row} {T2 : List Row} {n : Nat} {i : Int} (h : ixN (T1 ++ r :: T2).length i = some n) (e : T1.length = n) : atI ((T1 ++ r :: T2).map fun r => V.ref r.d) i = some (V.ref r.d) := by
  unfold atI
  rw [List.length_map, h]
  subst e
  simp
theorem grp_step {K : PySem.W.Frag} {F : Bk} {G H W : Hp} {σ : L2.St} {ρ ρ' : Sls} {i : Nat} {a : Addr} {T : List Row} {Ds Ds' : List RowD} {es ek ev : FE} (R : SR K (F.over W) G H σ ρ) (w : Wok F W) (ow : Own W a T) (tr : TR K G T Ds) (hi : σ[i]? = some (some (.ref a)))
    (hf : grpS es ek ev Ds ρ = some (Ds', ρ')) {Q : VK}
    (k : ∀ G' H' W' T' v, Same G G' → SR K (F.over W') G' H' σ ρ' → Wok F W' → Own W' a T' → TR K G' T' Ds' → Q v H') : tGrp K i (rdE K es) (rdE K ek) (rdE K ev) σ H Q := by
  obtain ⟨⟨x1, ρ1⟩, h1, h2⟩ := bindE hf
  obtain ⟨⟨x2, ρ2⟩, h3, h4⟩ := bindE h2
  obtain ⟨⟨x3, ρ3⟩, h5, h6⟩ := bindE h4
  dsimp only at h3 h5 h6
  split at h6
  · rename_i j
    obtain ⟨n, h7, h8⟩ := bindE h6
    obtain ⟨kvs, h9, h10⟩ := bindE h8
    obtain ⟨kk, h11, h12⟩ := bindE h10
    split at h12
    · rename_i sm
      cases h12
      obtain ⟨sm1, sm2⟩ := smallR_len sm
      refine ⟨_, hi, F.over W, G, ρ, _, ρ1, R, h1, fun G1 H1 v1 s1 r1 m1 => ?_⟩
      have e1 : v1 = V.int j := by
        cases m1
        rfl
      subst e1
      have tr1 := tr.mono s1
      obtain ⟨T1, r, T2, rfl, el, cr, hset⟩ := tr1.at h9
      have hix : ixN (T1 ++ r :: T2).length j = some n := by rw [tr.len]; exact h7
      obtain ⟨rd, rc⟩ := ow.rows r (by simp)
      refine ⟨a, _, j, V.ref r.d, rfl, rfl, SqL.of (r1.atW ow.root), atI_map hix el, ?_⟩
      refine ⟨r.d, rfl, .inl ⟨_, .inl (r1.atW rd)⟩, F.over W, G1, ρ1, x2, ρ2, r1, h3, fun G2 H2 v2 s2 r2 m2 => ?_⟩
      refine ⟨by show (0 : Nat) ≤ sizeLine; exact Nat.zero_le _, fun p hp => ?_⟩
      have ne : ∀ q o, H2 q = some o → q ≠ p := fun q o e z => by rw [z, hp] at e; cases e
      have cr2 := cr.mono s2
      refine ⟨r.en, kk, by rw [upd_ne (ne _ _ (r2.atW rd))]; exact r2.atW rd, m2.key h11, ?_, ?_⟩
      · show (r.cs.map _).length < sizeLine
        rw [List.length_map, cr.len]
        exact lt_line (Nat.lt_succ_of_le sm1)
      · rcases cr2.val kk with ⟨v1, v2, v3⟩ | ⟨C1, c, C2, e1, e2, v1, ⟨ds0, vm, v4⟩, v3⟩
        · refine ⟨fun v hv => ?_, fun _ => ?_⟩
          · rw [show valV r.en kk = none from v1] at hv
            cases hv
          · have fr := r2.freshW hp
            have r3 := r2.newW (o := .lst []) hp
            have gd : G2 r.d = none := r2.gW w rd
            have hne : r.d ≠ p := ne _ _ (r2.atW rd)
            have r4 := r3.chgW (p := r.d) (o := .dK r.en) (o' := .dK (putK r.en kk (V.ref p))) (by rw [upd_ne hne]; exact rd) gd
            refine ⟨.inl ⟨rfl, [], SqL.of (by rw [upd_ne hne.symm, upd_same])⟩, _, G2, ρ2, x3, ρ', r4, h5, fun G5 H5 v5 s5 r5 m5 => ?_⟩
            have wp : upd (upd W p (.lst [])) r.d (.dK (putK r.en kk (V.ref p))) p = some (.lst []) := by rw [upd_ne hne.symm, upd_same]
            have w4 : Wok F (upd (upd W p (.lst [])) r.d (.dK (putK r.en kk (V.ref p)))) := (w.upd fr.2 (by intro _ z; cases z)).upd ⟨(w _ _ rd).1, (w _ _ rd).2.1⟩ (by intro _ z; cases z)
            refine ⟨p, [], v5, rfl, rfl, r5.atW wp, lt_line (by show 0 < 1000001; decide), ?_⟩
            have r6 := r5.chgW (o' := .lst ([] ++ [v5])) wp (r5.gW w4 wp)
            refine k G5 _ _ (T1 ++ ⟨r.d, r.cs ++ [⟨kk, p, [v5]⟩]⟩ :: T2) _ ((s1.trans s2).trans s5) r6 (w4.upd fr.2 (by intro _ z; cases z)) ?_ ?_
            · have o1 := Own.new (k := kk) (vs := [v5]) ow fr.1
              have e3 : upd (upd (upd W p (.lst [])) r.d (.dK (putK r.en kk (V.ref p)))) p (.lst ([] ++ [v5])) = upd (upd W p (.lst [v5])) r.d (.dK ((r.cs ++ [(⟨kk, p, [v5]⟩ : Cell)]).map fun c => (c.k, V.ref c.p))) := by
                have e4 : putK r.en kk (V.ref p) = (r.cs ++ [(⟨kk, p, [v5]⟩ : Cell)]).map fun c => (c.k, V.ref c.p) := by
                  rw [show putK r.en kk (V.ref p) = _ from v2 p, List.map_append]
                  rfl
                rw [e4]
                funext b
                by_cases hb : b = p
                · subst hb
                  rw [upd_same, upd_ne hne.symm, upd_same]
                  rfl
                · rw [upd_ne hb]
                  by_cases hd : b = r.d
                  · subst hd
                    rw [upd_same, upd_same]
                  · rw [upd_ne hd, upd_ne hd, upd_ne hb, upd_ne hb]
              rw [e3]
              exact o1
            · exact hset (s2.trans s5) (r' := ⟨r.d, r.cs ++ [⟨kk, p, [v5]⟩]⟩) (v3 G5 s5 p v5 x3 m5)
        · refine ⟨fun v hv => ?_, fun hv => ?_⟩
          · rw [show valV r.en kk = _ from v1] at hv
            cases hv
            have hc : W c.p = some (.lst c.vs) := rc c (by rw [e1]; simp)
            have r3 := r2.newU (o := .lst []) hp
            refine ⟨.inl ⟨rfl, c.vs, SqL.of (r3.atW hc)⟩, _, G2, ρ2, x3, ρ', r3, h5, fun G5 H5 v5 s5 r5 m5 => ?_⟩
            refine ⟨c.p, c.vs, v5, rfl, rfl, r5.atW hc, ?_, ?_⟩
            · rw [v4]
              exact lt_line (Nat.lt_succ_of_le (sm2 _ vm))
            · have r6 := r5.chgW (o' := .lst (c.vs ++ [v5])) hc (r5.gW w hc)
              obtain ⟨rd', rcs⟩ := r
              cases e1
              refine k G5 _ _ _ _ ((s1.trans s2).trans s5) r6 (w.upd ⟨(w _ _ hc).1, (w _ _ hc).2.1⟩ (by intro _ z; cases z)) (Own.app ow) ?_
              exact hset (s2.trans s5) (r' := ⟨rd', C1 ++ ⟨c.k, c.p, c.vs ++ [v5]⟩ :: C2⟩) (v3 G5 s5 v5 x3 m5)
          · rw [show valV r.en kk = _ from v1] at hv
            cases hv
    · cases h12
  · cases h6
end DL

/-! DL28: the rule for the two statements of DL27. -/
namespace DL
open PySem PySem.Spec PyProof.Rows L2

theorem own_frz {K : PySem.W.Frag} {F : Bk} {G H W : Hp} {σ : L2.St} {ρ : Sls} {i : Nat} {a : Addr} {T : List Row} {Ds : List RowD} (R : SR K (F.over W) G H σ ρ) (w : Wok F W) (ow : Own W a T) (tr : TR K G T Ds) (hi : σ[i]? = some (some (.ref a)))
    {Q : Hp → Prop} (k : ∀ G' H', Same G G' → SR K F G' H' σ (ρ.set i (.d (.lst (rowsD Ds)))) → Q H') : ∃ ds, lockQ ds Q H := by
  refine ⟨T.map Row.d, lockQ_of _ H Q ?_ (fun d hd => ?_) fun H2 h1 h2 => ?_⟩
  · have nd := (List.nodup_cons.mp ow.nd).2
    refine List.Nodup.sublist ?_ nd
    clear ow tr nd
    induction T with
    | nil => exact .refl _
    | cons r T ih =>
      rw [List.map_cons, List.flatMap_cons]
      show (r.d :: T.map Row.d).Sublist ((r.d :: r.cs.map Cell.p) ++ T.flatMap Row.ad)
      rw [List.cons_append]
      exact .cons₂ _ (ih.trans (List.sublist_append_right _ _))
  · obtain ⟨r, hr, rfl⟩ := List.mem_map.mp hd
    exact ⟨_, R.atW (ow.rows r hr).1, trivial⟩
  · have inW : ∀ d ∈ T.map Row.d, ∃ r ∈ T, d = r.d := fun d hd => by
      obtain ⟨r, hr, rfl⟩ := List.mem_map.mp hd
      exact ⟨r, hr, rfl⟩
    have some2 : ∀ p o, W p = some o → ∃ o2, H2 p = some o2 := fun p o e => by
      by_cases hp : p ∈ T.map Row.d
      · obtain ⟨r, hr, rfl⟩ := inW p hp
        obtain ⟨od, h3⟩ := h2 r.d hp _ (R.atW (ow.rows r hr).1)
        exact ⟨_, h3⟩
      · exact ⟨o, by rw [h1 p hp]; exact R.atW e⟩
    let W2 : Hp := fun p => match W p with
      | none => none
      | some _ => H2 p
    have w2n : ∀ p, W p = none → W2 p = none := fun p e => by
      show (match W p with | none => none | some _ => H2 p) = none
      rw [e]
    have w2s : ∀ p o, W p = some o → W2 p = H2 p := fun p o e => by
      show (match W p with | none => none | some _ => H2 p) = H2 p
      rw [e]
    obtain ⟨s, R2⟩ := R.frzW (W2 := W2) (H2 := H2) w w2n (fun p => by
      cases e : W p with
      | none =>
        rw [ovr_none (w2n p e)]
        refine h1 p fun hp => ?_
        obtain ⟨r, hr, rfl⟩ := inW p hp
        rw [(ow.rows r hr).1] at e
        cases e
      | some o =>
        obtain ⟨o2, h3⟩ := some2 p o e
        rw [h3, ovr_some (by rw [w2s p o e]; exact h3)])
    have at2 : ∀ p o, W p = some o → ovr W2 G p = H2 p := fun p o e => by
      obtain ⟨o2, h3⟩ := some2 p o e
      rw [h3, ovr_some (by rw [w2s p o e]; exact h3)]
    have nodk : ∀ p o, W p = some o → (∀ es, o ≠ .dK es) → ovr W2 G p = some o := fun p o e ho => by
      rw [at2 p o e]
      by_cases hp : p ∈ T.map Row.d
      · obtain ⟨r, hr, rfl⟩ := inW p hp
        rw [(ow.rows r hr).1] at e
        cases e
        exact absurd rfl (ho _)
      · rw [h1 p hp]
        exact R.atW e
    have m : Rp K (ovr W2 G) (.ref a) (.lst (rowsD Ds)) := by
      refine .lst (nodk a _ ow.root (by intro _ z; cases z)) ((tr.mono s).rp fun r hr => ⟨?_, fun c hc => ?_⟩)
      · obtain ⟨od, h3⟩ := h2 r.d (List.mem_map_of_mem hr) _ (R.atW (ow.rows r hr).1)
        exact ⟨od, by rw [at2 _ _ (ow.rows r hr).1, h3]; rfl⟩
      · exact nodk _ _ ((ow.rows r hr).2 c hc) (by intro _ z; cases z)
    exact k _ H2 s (R2.see hi m)
section
variable {X : Cx}
theorem css_grp {tg0 iter0 tg iter s kx vx nm : Expr} {scope : Scope} {own : List (Str × Nat)} {pos dpos spos py p1 p2 p3 p4 p5 p6 p7 : Pos} {y : Str} {st : Stmt} {sts : List Stmt} {i j : Nat} {is : List Nat} {fi fj : FL} {g : D → Sls → Option Sls} {es ek ev : FE} {fr : FS}
    (hc : X.calm = true) (hN : X.N.Nodup) (hy : X.N[i]? = some y) (hyl : X.env.scope.names.lookup y = some .local)
    (hsw : swapsWith (.ListComp (.Dict [] [] dpos) [⟨tg0, iter0, [], 0⟩] scope pos) (some (.Name y py)) spos.line X.env = pure true)
    (hi : CI X tg0 iter0 fi) (ok : BlkOk X.N X.env.scope scope own) (hj0 : j ∈ own.map (·.2))
    (hg0 : ∀ (s : Shared) (H : Hp) (C : Addr) (cl : List (Str × Addr)) (fp : List Addr), PG (X.blk s H scope (compEnvC scope cl C X.env) fp) tg0 (gName j))
    (hp : ∀ {wi : TI} {gt : TG} {tb : TS}, PI X tg iter wi → PG X tg gt → PSs X [.Expr (.Call (.Attribute (.Call (.Attribute (.Subscript nm s p1) "setdefault" p2) [kx, .List [] p3] [] p4) "append" p5) [vx] [] p6) p7] tb → PS X st (tFor wi gt tb))
    (hj : CI X tg iter fj) (hg : CG X tg is g) (hni : i ∉ is) (hnm : PE X nm (tVar i)) (hs : CE X s es) (hk : CE X kx ek) (hv : CE X vx ev) (h1 : PlainIx s)
    (hm : M2 X (.Subscript nm s p1) "setdefault" p2 kx (.List [] p3) p4)
    (hb : ∀ {te : TE}, PE X (.Call (.Attribute (.Subscript nm s p1) "setdefault" p2) [kx, .List [] p3] [] p4) te → PE X vx (rdE X.K ev) → PE X (.Call (.Attribute (.Call (.Attribute (.Subscript nm s p1) "setdefault" p2) [kx, .List [] p3] [] p4) "append" p5) [vx] [] p6) (tBM X.K "list" rAppend te (tCons (rdE X.K ev) tNil)))
    (hr : CSs X sts fr) (hfs : ∀ x, foldedSetIterable iter0 X.env x = pure x := by intro _; rfl) :
    CSs X (.Assign [.Name y py] (.ListComp (.Dict [] [] dpos) [⟨tg0, iter0, [], 0⟩] scope pos) spos :: st :: sts) (fSeq (fGrp i fi fj g es ek ev) fr) := by
  obtain ⟨t3, p3, q3⟩ := hr
  refine ⟨_, pss_cons (ps_setLc (g := gName j) (tt := tYes) (te := tDNewK) hc hN hy hyl hsw hi.pi ok hg0 (fun _ _ _ _ _ => pts_nil) (fun _ _ _ _ _ => pe_dnewK) hfs)
    (pss_cons (ps_locks (hp hj.pi hg.pg (pss_one (ps_expr (hb (pe_dsetd (pe_ix ix_list hnm hs.pe h1) hk.pe (pe_lst pa_nil) hm) hv.pe))))) p3), fun F G H σ ρ o R hf D k => ?_⟩
  obtain ⟨o1, hf1, hf2⟩ := bindE hf
  obtain ⟨⟨ds, ρ1⟩, h1, h2⟩ := bindE hf1
  dsimp only at h2
  split at h2
  · rename_i hl
    obtain ⟨hl, hil⟩ := hl
    obtain ⟨⟨ds2, ρ2⟩, h3, h4⟩ := bindE h2
    obtain ⟨⟨Dsf, ρf⟩, h5, h6⟩ := bindE h4
    cases h6
    dsimp only at h3 h5 hf2
    refine ⟨F, G, ρ, ds, ρ1, R, h1, fun G1 H1 J s1 r1 ok1 a ha => ?_⟩
    have fr1 := SR.freshW (W := fun _ => none) (F := F) r1 ha
    refine ⟨fun n m H' => m = ds.length - n ∧ n ≤ ds.length ∧ ∃ G2 W T, Same G1 G2 ∧ SR X.K (F.over W) G2 H' σ ρ1 ∧ Wok F W ∧ Own W a T ∧ TR X.K G2 T (List.replicate n []),
      ⟨ds.length, rfl, Nat.zero_le _, G1, upd (fun _ => none) a (.lst []), [], Same.refl _, SR.newW (W := fun _ => none) (F := F) r1 ha, fun p o e => ?_, ⟨upd_same, fun r hr => (by cases hr), by simp⟩, .nil⟩, ?_⟩
    · by_cases hp : p = a
      · subst hp
        rw [upd_same] at e
        cases e
        exact ⟨fr1.2.1, fr1.2.2, by intro _ z; cases z⟩
      · rw [upd_ne hp] at e
        cases e
    rintro n m H2 ⟨rfl, hn, G2, W, T, s2, r2, w2, ow2, tr2⟩
    obtain ⟨go, stop, yld⟩ := ok1 G2 H2 s2 r2.gh
    by_cases hlt : n < ds.length
    · refine .inr ⟨go n hlt, fun H' => ∃ G2 W T, Same G1 G2 ∧ SR X.K (F.over W) G2 H' σ ρ1 ∧ Wok F W ∧ Own W a T ∧ TR X.K G2 T (List.replicate (n + 1) []),
        fun H' hN => ⟨_, by omega, rfl, hlt, hN⟩, fun x H3 hy => ?_⟩
      obtain ⟨G3, gr, m3⟩ := yld n _ x H3 (List.getElem?_eq_getElem hlt) hy
      obtain ⟨s3, r3⟩ := r2.gr gr
      refine ⟨by rw [wipe_set_in hj0, wipe_wipe], ?_⟩
      unfold tYes
      dsimp only
      rw [if_pos rfl]
      intro p hp
      have frp := r3.freshW hp
      have hap : a ≠ p := fun z => by
        have := ow2.root
        rw [z, frp.1] at this
        cases this
      have r4 := r3.newW (o := .dK []) hp
      have wa : upd W p (.dK []) a = some (.lst (T.map fun r => V.ref r.d)) := by rw [upd_ne hap]; exact ow2.root
      have w4 : Wok F (upd W p (.dK [])) := w2.upd frp.2 (by intro _ z; cases z)
      refine ⟨_, r4.atW wa, ?_, G3, _, T ++ [⟨p, []⟩], s2.trans s3, r4.chgW wa (r4.gW w4 wa), w4.upd ⟨(w4 _ _ wa).1, (w4 _ _ wa).2.1⟩ (by intro _ z; cases z), ?_, ?_⟩
      · rw [List.length_map, tr2.len, List.length_replicate]
        exact lt_line (by omega)
      · have := ow2.row frp.1
        rw [List.map_append] at this
        exact this
      · have := (tr2.mono s3).snoc (r := ⟨p, []⟩) (kvs := []) .nil
        rw [List.replicate_succ']
        exact this
    · have e : n = ds.length := by omega
      subst e
      refine .inl ⟨stop, ?_⟩
      have r3 := r2.forget i (some (V.ref a))
      have hsi : (σ.set i (some (V.ref a)))[i]? = some (some (.ref a)) := List.getElem?_set_self (by rw [r2.len]; exact hil)
      refine ⟨F.over W, G2, ρ1.set i .no, ds2, ρ2, r3, h3, fun G3 H3 J2 s3 r4 ok2 => ?_⟩
      refine ⟨fun n m σ' H' => m = ds2.length - n ∧ n ≤ ds2.length ∧ ∃ G4 ρ4 W T Ds, Same G3 G4 ∧ SR X.K (F.over W) G4 H' σ' ρ4 ∧ Wok F W ∧ Own W a T ∧ TR X.K G4 T Ds ∧ σ'[i]? = some (some (.ref a)) ∧ grpD g es ek ev (ds2.drop n) Ds ρ4 = some (Dsf, ρf),
        ⟨ds2.length, rfl, Nat.zero_le _, G3, ρ2, W, T, _, Same.refl _, r4, w2, ow2, tr2.mono s3, hsi, h5⟩, ?_⟩
      rintro n m σ4 H4 ⟨rfl, hn2, G4, ρ4, W4, T4, Ds4, s4, r5, w5, ow5, tr5, hs5, h7⟩
      obtain ⟨go2, stop2, yld2⟩ := ok2 G4 H4 s4 r5.gh
      by_cases hlt2 : n < ds2.length
      · have e1 : ds2.drop n = ds2[n] :: ds2.drop (n + 1) := List.drop_eq_getElem_cons hlt2
        rw [e1] at h7
        obtain ⟨ρ5, h8, h9⟩ := bindE h7
        obtain ⟨⟨Ds6, ρ6⟩, h10, h11⟩ := bindE h9
        refine .inr ⟨go2 n hlt2, fun σ' H' => ∃ G4 ρ4 W T Ds, Same G3 G4 ∧ SR X.K (F.over W) G4 H' σ' ρ4 ∧ Wok F W ∧ Own W a T ∧ TR X.K G4 T Ds ∧ σ'[i]? = some (some (.ref a)) ∧ grpD g es ek ev (ds2.drop (n + 1)) Ds ρ4 = some (Dsf, ρf),
          fun σ' H' hN => ⟨_, by omega, rfl, hlt2, hN⟩, fun x H5 hy => ?_⟩
        obtain ⟨G5, gr, m5⟩ := yld2 n _ x H5 (List.getElem?_eq_getElem hlt2) hy
        obtain ⟨s5, r6⟩ := r5.gr gr
        refine ⟨F.over W4, G5, ρ4, _, ρ5, r6, m5, h8, fun σ6 wp r7 => ?_⟩
        have hs6 : σ6[i]? = some (some (.ref a)) := by
          rw [← wipe_get (σ := σ6) hni, wp is (fun _ h => h), wipe_get hni]
          exact hs5
        refine grp_step r7 w5 ow5 (tr5.mono s5) hs6 h10 fun G' H' W' T' v s' r' w' o' t' => ?_
        exact ⟨G', ρ6, W', T', Ds6, (s4.trans s5).trans s', r', w', o', t', hs6, h11⟩
      · have e : n = ds2.length := by omega
        subst e
        rw [List.drop_length] at h7
        cases h7
        refine .inl ⟨stop2, ?_⟩
        refine own_frz r5 w5 ow5 tr5 hs5 fun G6 H6 s6 r7 => ?_
        exact q3 F G6 H6 σ4 _ o r7 hf2 D (k.mono (((s1.trans s2).trans s3).trans (s4.trans s6)))
  · cases h2
end
end DL

namespace K63
open PySem PySem.Spec PyProof.Rows L2 DL
def topS (i : Nat) : Stmt := PySem.Challenge.pw_longletters_k63_lassos.main.body.getD i (.Pass ⟨0, 0, 0, 0⟩)
structure BF (mg : Str → Option Value) : Prop where
  all_ : mg "all" = none
  any_ : mg "any" = none
  dict : mg "dict" = none
  enumerate : mg "enumerate" = none
  int : mg "int" = none
  len : mg "len" = none
  list_ : mg "list" = none
  max_ : mg "max" = none
  min_ : mg "min" = none
  range : mg "range" = none
  set_ : mg "set" = none
  sorted : mg "sorted" = none
  tuple : mg "tuple" = none
/-! ### place -/
abbrev s_place : Stmt := topS 1
abbrev n_place : List Str := ["word"]
theorem sc_place : FnScope n_place ["word"] (defScope s_place) := ⟨rfl, rfl, rfl, by decide +kernel, rfl, by decide +kernel, by decide +kernel⟩
def b_place : FS := fSeq (fRet (fTup (fCons (fApp lenD (fLook 0)) (fCons (fVar 0) (fNil))))) (fNx)
def f_place : List D → Option D := runF 1 0 b_place
/-! ### steps_of -/
abbrev s_steps_of : Stmt := topS 2
abbrev n_steps_of : List Str := ["automaton", "found", "state", "letter", "other", "k"]
theorem sc_steps_of : FnScope n_steps_of ["automaton"] (defScope s_steps_of) := ⟨rfl, rfl, rfl, by decide +kernel, rfl, by decide +kernel, by decide +kernel⟩
def b_steps_of : FS := fSeq (fGrp 1 (fRng1 (fCons (fBinN ixD 0 (fC (.int (0)))) (fNil))) (fItems (fBinN ixD 0 (fC (.int (3))))) (gTupD 3 (gsCons (gSet 2) (gsCons (gSet 3) (gsCons (gSet 4) (gsNil))))) (fVar 2) (fVar 3) (fVar 4)) (fSeq (fRet (fVar 1)) (fNx))
def f_steps_of : List D → Option D := runF 1 5 b_steps_of
/-! ### moved -/
abbrev s_moved : Stmt := topS 3
abbrev n_moved : List Str := ["steps", "states", "letter", "state", "other"]
theorem sc_moved : FnScope n_moved ["steps", "states", "letter"] (defScope s_moved) := ⟨rfl, rfl, rfl, by decide +kernel, rfl, by decide +kernel, by decide +kernel⟩
def b_moved : FS := fSeq (fRet (fApp tupleD (fOfL (fAppL sortedD (fOfD (fDc (fItems (fVar 1)) (gSet 3) (fun ρ => some (true, ρ)) (bodyIn (fItems (fGet2 (fBinN ixD 0 (fVar 3)) (fVar 2) (fOfL (fLst (fNil))))) (gSet 4) (fun ρ => some (true, ρ)) (bodyK (fVar 4) (fC (.bl true))) [4]) [3, 4] [])))))) (fNx)
def f_moved : List D → Option D := runF 3 2 b_moved
/-! ### behind_word -/
abbrev s_behind_word : Stmt := topS 4
abbrev n_behind_word : List Str := ["steps", "states", "word", "letter"]
theorem sc_behind_word : FnScope n_behind_word ["steps", "states", "word"] (defScope s_behind_word) := ⟨rfl, rfl, rfl, by decide +kernel, rfl, by decide +kernel, by decide +kernel⟩
def b_behind_word : FS := fSeq (fFor (fItems (fVar 2)) (gSet 3) (fSeq (fAsg (fCall f_moved (fCons (fVar 0) (fCons (fVar 1) (fCons (fVar 3) (fNil))))) (gSet 1)) (fNx))) (fSeq (fRet (fVar 1)) (fNx))
def f_behind_word : List D → Option D := runF 3 1 b_behind_word
/-! ### first_words -/
abbrev s_first_words : Stmt := topS 5
abbrev n_first_words : List Str := ["steps", "starts", "letters", "state", "found", "level", "new", "letter", "other"]
theorem sc_first_words : FnScope n_first_words ["steps", "starts", "letters"] (defScope s_first_words) := ⟨rfl, rfl, rfl, by decide +kernel, rfl, by decide +kernel, by decide +kernel⟩
def b_first_words : FS := fSeq (fSetK (fDc (fItems (fVar 1)) (gSet 3) (fun ρ => some (true, ρ)) (bodyK (fVar 3) (fC (.str ""))) [3] []) 4) (fSeq (fSetL (fAppL listD0 (fLook 1)) 5) (fSeq (fun ρ => whileD (fTru (fLook 5)) (fSeq (fSetL (fLst (fNil)) 6) (fSeq (fFor (fItems (fOfL (fAppL sortedD (fOfL (fDc (fItems (fVar 5)) (gSet 3) (fun ρ => some (true, ρ)) (bodyIn (fItems (fVar 2)) (gSet 7) (fun ρ => some (true, ρ)) (bodyL (fTup (fCons (fBin addD (fBinN ixD 4 (fVar 3)) (fLook 7)) (fCons (fVar 3) (fNil))))) [7]) [3, 7] []))))) (gTupD 2 (gsCons (gSet 7) (gsCons (gSet 3) (gsNil)))) (fSeq (fFor (fItems (fGet2 (fBinN ixD 0 (fVar 3)) (fBinN ixD 7 (fC (.int (-1)))) (fOfL (fLst (fNil))))) (gSet 8) (fSeq (fIfS (fTest (fNotIn (fVar 8) (fLook 4))) (fSeq (fPut 4 (fVar 8) (fVar 7)) (fSeq (fAppend 6 (fVar 8)) (fNx))) (fNx)) (fNx))) (fNx))) (fSeq (fAsg (fVar 6) (gSet 5)) (fNx)))) 3000 ρ) (fSeq (fRet (fVar 4)) (fNx))))
def f_first_words : List D → Option D := runF 3 6 b_first_words
/-! ### least_lasso -/
abbrev s_least_lasso : Stmt := topS 7
abbrev n_least_lasso : List Str := ["u", "v", "size"]
theorem sc_least_lasso : FnScope n_least_lasso ["u", "v"] (defScope s_least_lasso) := ⟨rfl, rfl, rfl, by decide +kernel, rfl, by decide +kernel, by decide +kernel⟩
def b_least_lasso : FS := fSeq (fFor (fRng2 (fCons (fC (.int (1))) (fCons (fBin addD (fApp lenD (fLook 1)) (fC (.int (1)))) (fNil)))) (gSet 2) (fSeq (fIfS (fAndT (fTest (fBin eqD (fBin modD (fApp lenD (fLook 1)) (fLook 2)) (fC (.int (0))))) (fTest (fBin eqD (fBin mulD (fSlS (fVar 1) (fOno) (fOso (fVar 2))) (fBin fdivD (fApp lenD (fLook 1)) (fLook 2))) (fLook 1)))) (fSeq (fAsg (fSlS (fVar 1) (fOno) (fOso (fVar 2))) (gSet 1)) (fSeq (fun ρ => some (.bk ρ)) (fNx))) (fNx)) (fNx))) (fSeq (fun ρ => whileD (fAndT (fTest (fBinN neD 0 (fC (.str "")))) (fTest (fBin eqD (fBinN ixD 0 (fC (.int (-1)))) (fBinN ixD 1 (fC (.int (-1))))))) (fSeq (fPar 0 1 (nE (fSlS (fVar 0) (fOno) (fOso (fC (.int (-1)))))) (nE (fBin addD (fBinN ixD 1 (fC (.int (-1)))) (fSlS (fVar 1) (fOno) (fOso (fC (.int (-1)))))))) (fNx)) 3000 ρ) (fSeq (fRet (fTup (fCons (fVar 0) (fCons (fVar 1) (fNil))))) (fNx)))
def f_least_lasso : List D → Option D := runF 2 1 b_least_lasso
/-! ### same_lasso -/
abbrev s_same_lasso : Stmt := topS 8
abbrev n_same_lasso : List Str := ["first", "second"]
theorem sc_same_lasso : FnScope n_same_lasso ["first", "second"] (defScope s_same_lasso) := ⟨rfl, rfl, rfl, by decide +kernel, rfl, by decide +kernel, by decide +kernel⟩
def b_same_lasso : FS := fSeq (fRet (fBin eqD (fCall f_least_lasso (fCons (fBinN ixD 0 (fC (.int (0)))) (fCons (fBinN ixD 0 (fC (.int (1)))) (fNil)))) (fCall f_least_lasso (fCons (fBinN ixD 1 (fC (.int (0)))) (fCons (fBinN ixD 1 (fC (.int (1)))) (fNil)))))) (fNx)
def f_same_lasso : List D → Option D := runF 2 0 b_same_lasso
/-! ### behind -/
abbrev s_behind : Stmt := topS 11
abbrev n_behind : List Str := ["first", "second", "found", "p", "q", "r", "s", "one"]
theorem sc_behind : FnScope n_behind ["first", "second"] (defScope s_behind) := ⟨rfl, rfl, rfl, by decide +kernel, rfl, by decide +kernel, by decide +kernel⟩
def b_behind : FS := fSeq (fSetT (fun ρ => some ([], ρ)) 2) (fSeq (fFor (fItems (fVar 0)) (gTupD 2 (gsCons (gSet 3) (gsCons (gSet 4) (gsNil)))) (fSeq (fFor (fItems (fVar 1)) (gTupD 2 (gsCons (gSet 5) (gsCons (gSet 6) (gsNil)))) (fSeq (fIfS (fTest (fBinN eqD 4 (fLook 5))) (fSeq (fAsg (fCall max2D (fCons (fBinN ixD 0 (fTup (fCons (fVar 3) (fCons (fVar 4) (fNil))))) (fCons (fBinN ixD 1 (fTup (fCons (fVar 5) (fCons (fVar 6) (fNil))))) (fNil)))) (gSet 7)) (fSeq (fPut 2 (fTup (fCons (fVar 3) (fCons (fVar 6) (fNil)))) (fCall max2D (fCons (fVar 7) (fCons (fGetN 2 (fTup (fCons (fVar 3) (fCons (fVar 6) (fNil)))) (fC (.int (0)))) (fNil))))) (fNx))) (fNx)) (fNx))) (fNx))) (fSeq (fRet (fVar 2)) (fNx)))
def f_behind : List D → Option D := runF 2 6 b_behind
/-! ### letter_profile -/
abbrev s_letter_profile : Stmt := topS 10
abbrev n_letter_profile : List Str := ["steps", "marks", "letter", "found", "p", "table", "q"]
theorem sc_letter_profile : FnScope n_letter_profile ["steps", "marks", "letter"] (defScope s_letter_profile) := ⟨rfl, rfl, rfl, by decide +kernel, rfl, by decide +kernel, by decide +kernel⟩
def b_letter_profile : FS := fSeq (fSetT (fun ρ => some ([], ρ)) 3) (fSeq (fFor (fEnum (fCons (fVar 0) (fNil))) (gTupD 2 (gsCons (gSet 4) (gsCons (gSet 5) (gsNil)))) (fSeq (fFor (fItems (fGetN 5 (fVar 2) (fOfL (fLst (fNil))))) (gSet 6) (fSeq (fPut 3 (fTup (fCons (fVar 4) (fCons (fVar 6) (fNil)))) (fApp intD (fIn (fVar 6) (fLook 1)))) (fNx))) (fNx))) (fSeq (fRet (fVar 3)) (fNx)))
def f_letter_profile : List D → Option D := runF 3 4 b_letter_profile
/-! ### profile -/
abbrev s_profile : Stmt := topS 9
abbrev n_profile : List Str := ["steps", "marks", "word", "found", "letter", "p"]
theorem sc_profile : FnScope n_profile ["steps", "marks", "word"] (defScope s_profile) := ⟨rfl, rfl, rfl, by decide +kernel, rfl, by decide +kernel, by decide +kernel⟩
def b_profile : FS := fSeq (fSetT (fDc (fRng1 (fCons (fApp lenD (fLook 0)) (fNil))) (gSet 5) (fun ρ => some (true, ρ)) (bodyT (fTup (fCons (fVar 5) (fCons (fVar 5) (fNil)))) (fC (.int (0)))) [5] []) 3) (fSeq (fFor (fItems (fVar 2)) (gSet 4) (fSeq (fAsg (fCall f_behind (fCons (fVar 3) (fCons (fCall f_letter_profile (fCons (fVar 0) (fCons (fVar 1) (fCons (fVar 4) (fNil))))) (fNil)))) (gSet 3)) (fNx))) (fSeq (fRet (fVar 3)) (fNx)))
def f_profile : List D → Option D := runF 3 3 b_profile
/-! ### comes_to -/
abbrev s_comes_to : Stmt := topS 13
abbrev n_comes_to : List Str := ["table", "p", "q", "seen", "left", "now", "r", "s"]
theorem sc_comes_to : FnScope n_comes_to ["table", "p", "q"] (defScope s_comes_to) := ⟨rfl, rfl, rfl, by decide +kernel, rfl, by decide +kernel, by decide +kernel⟩
def b_comes_to : FS := fSeq (fSetK (fDispK (fVar 1) (fC (.bl true))) 3) (fSeq (fSetL (fLst (fCons (fVar 1) (fNil))) 4) (fSeq (fun ρ => whileD (fTru (fLook 4)) (fSeq (fAsg (fPop 4) (gSet 5)) (fSeq (fIfS (fTest (fBinN eqD 5 (fLook 2))) (fSeq (fRet (fC (.bl true))) (fNx)) (fNx)) (fSeq (fFor (fItems (fVar 0)) (gTupD 2 (gsCons (gSet 6) (gsCons (gSet 7) (gsNil)))) (fSeq (fIfS (fAndT (fTest (fBinN eqD 6 (fLook 5))) (fTest (fNotIn (fVar 7) (fLook 3)))) (fSeq (fPut 3 (fVar 7) (fC (.bl true))) (fSeq (fAppend 4 (fVar 7)) (fNx))) (fNx)) (fNx))) (fNx)))) 3000 ρ) (fSeq (fRet (fC (.bl false))) (fNx))))
def f_comes_to : List D → Option D := runF 3 5 b_comes_to
/-! ### turns -/
abbrev s_turns : Stmt := topS 12
abbrev n_turns : List Str := ["starts", "first", "second", "p", "reached", "left", "r", "s", "q"]
theorem sc_turns : FnScope n_turns ["starts", "first", "second"] (defScope s_turns) := ⟨rfl, rfl, rfl, by decide +kernel, rfl, by decide +kernel, by decide +kernel⟩
def b_turns : FS := fSeq (fSetK (fDc (fItems (fVar 1)) (gTupD 2 (gsCons (gSet 3) (gsCons (gSet 8) (gsNil)))) (fTest (fIn (fVar 3) (fLook 0))) (bodyK (fVar 8) (fC (.bl true))) [3, 8] []) 4) (fSeq (fSetL (fListK 4) 5) (fSeq (fun ρ => whileD (fTru (fLook 5)) (fSeq (fAsg (fPop 5) (gSet 3)) (fSeq (fFor (fItems (fVar 2)) (gTupD 2 (gsCons (gSet 6) (gsCons (gSet 7) (gsNil)))) (fSeq (fIfS (fAndT (fTest (fBinN eqD 6 (fLook 3))) (fTest (fNotIn (fVar 7) (fLook 4)))) (fSeq (fPut 4 (fVar 7) (fC (.bl true))) (fSeq (fAppend 5 (fVar 7)) (fNx))) (fNx)) (fNx))) (fNx))) 3000 ρ) (fSeq (fRet (fApp anyD (fOfL (fLc (fItems (fVar 2)) (gTupD 2 (gsCons (gSet 3) (gsCons (gSet 8) (gsNil)))) (fun ρ => some (true, ρ)) (fAnd (fIn (fVar 3) (fLook 4)) (fAnd (fBin eqD (fBinN ixD 2 (fTup (fCons (fVar 3) (fCons (fVar 8) (fNil))))) (fC (.int (1)))) (fCall f_comes_to (fCons (fVar 2) (fCons (fVar 8) (fCons (fVar 3) (fNil))))))) [3, 8])))) (fNx))))
def f_turns : List D → Option D := runF 3 6 b_turns
/-! ### reads_lasso -/
abbrev s_reads_lasso : Stmt := topS 14
abbrev n_reads_lasso : List Str := ["automaton", "u", "v", "steps", "marks", "starts", "unit", "state", "p"]
theorem sc_reads_lasso : FnScope n_reads_lasso ["automaton", "u", "v"] (defScope s_reads_lasso) := ⟨rfl, rfl, rfl, by decide +kernel, rfl, by decide +kernel, by decide +kernel⟩
def b_reads_lasso : FS := fSeq (fAsg (fCall f_steps_of (fCons (fVar 0) (fNil))) (gSet 3)) (fSeq (fSetK (fDc (fItems (fBinN ixD 0 (fC (.int (4))))) (gSet 7) (fun ρ => some (true, ρ)) (bodyK (fVar 7) (fC (.bl true))) [7] []) 4) (fSeq (fAsg (fCall f_behind_word (fCons (fVar 3) (fCons (fBinN ixD 0 (fC (.int (2)))) (fCons (fVar 1) (fNil))))) (gSet 5)) (fSeq (fSetT (fDc (fItems (fVar 5)) (gSet 8) (fun ρ => some (true, ρ)) (bodyT (fTup (fCons (fVar 8) (fCons (fVar 8) (fNil)))) (fC (.int (0)))) [8] []) 6) (fSeq (fRet (fCall f_turns (fCons (fVar 5) (fCons (fVar 6) (fCons (fCall f_profile (fCons (fVar 3) (fCons (fVar 4) (fCons (fVar 2) (fNil))))) (fNil)))))) (fNx)))))
def f_reads_lasso : List D → Option D := runF 3 6 b_reads_lasso
/-! ### first_back -/
abbrev s_first_back : Stmt := topS 15
abbrev n_first_back : List Str := ["steps", "state", "letters", "found", "letter", "other", "told", "word"]
theorem sc_first_back : FnScope n_first_back ["steps", "state", "letters"] (defScope s_first_back) := ⟨rfl, rfl, rfl, by decide +kernel, rfl, by decide +kernel, by decide +kernel⟩
def b_first_back : FS := fSeq (fAsg (fC .non) (gSet 3)) (fSeq (fFor (fItems (fVar 2)) (gSet 4) (fSeq (fFor (fItems (fGet2 (fBinN ixD 0 (fVar 1)) (fVar 4) (fOfL (fLst (fNil))))) (gSet 5) (fSeq (fAsg (fCall f_first_words (fCons (fVar 0) (fCons (fTup (fCons (fVar 5) (fNil))) (fCons (fVar 2) (fNil))))) (gSet 6)) (fSeq (fIfS (fTest (fIn (fVar 1) (fLook 6))) (fSeq (fAsg (fBinN addD 4 (fBinN ixD 6 (fVar 1))) (gSet 7)) (fSeq (fIfS (fOrT (fTest (fIsN false (fVar 3))) (fTest (fBin ltD (fCall f_place (fCons (fVar 7) (fNil))) (fCall f_place (fCons (fVar 3) (fNil)))))) (fSeq (fAsg (fVar 7) (gSet 3)) (fNx)) (fNx)) (fNx))) (fNx)) (fNx)))) (fNx))) (fSeq (fRet (fVar 3)) (fNx)))
def f_first_back : List D → Option D := runF 3 5 b_first_back
/-! ### some_lasso -/
abbrev s_some_lasso : Stmt := topS 16
abbrev n_some_lasso : List Str := ["automaton", "many", "letters", "starts", "edges", "marks", "steps", "ahead", "best", "state", "back", "row"]
theorem sc_some_lasso : FnScope n_some_lasso ["automaton"] (defScope s_some_lasso) := ⟨rfl, rfl, rfl, by decide +kernel, rfl, by decide +kernel, by decide +kernel⟩
def b_some_lasso : FS := fSeq (fAsg (fVar 0) (gTupD 5 (gsCons (gSet 1) (gsCons (gSet 2) (gsCons (gSet 3) (gsCons (gSet 4) (gsCons (gSet 5) (gsNil)))))))) (fSeq (fAsg (fCall f_steps_of (fCons (fVar 0) (fNil))) (gSet 6)) (fSeq (fAsg (fCall f_first_words (fCons (fVar 6) (fCons (fVar 3) (fCons (fVar 2) (fNil))))) (gSet 7)) (fSeq (fAsg (fC .non) (gSet 8)) (fSeq (fFor (fItems (fVar 5)) (gSet 9) (fSeq (fIfS (fTest (fIn (fVar 9) (fLook 7))) (fSeq (fAsg (fCall f_first_back (fCons (fVar 6) (fCons (fVar 9) (fCons (fVar 2) (fNil))))) (gSet 10)) (fSeq (fIfS (fTest (fIsN true (fVar 10))) (fSeq (fAsg (fTup (fCons (fBin addD (fApp lenD (fBinN ixD 7 (fVar 9))) (fApp lenD (fLook 10))) (fCons (fCall f_place (fCons (fBinN ixD 7 (fVar 9)) (fNil))) (fCons (fCall f_place (fCons (fVar 10) (fNil))) (fNil))))) (gSet 11)) (fSeq (fIfS (fOrT (fTest (fIsN false (fVar 8))) (fTest (fBinN ltD 11 (fLook 8)))) (fSeq (fAsg (fVar 11) (gSet 8)) (fNx)) (fNx)) (fNx))) (fNx)) (fNx))) (fNx)) (fNx))) (fSeq (fIfS (fTest (fIsN false (fVar 8))) (fSeq (fRet (fTup (fCons (fC (.str "empty")) (fNil)))) (fNx)) (fNx)) (fSeq (fRet (fTup (fCons (fC (.str "some")) (fCons (fBin ixD (fBinN ixD 8 (fC (.int (1)))) (fC (.int (1)))) (fCons (fBin ixD (fBinN ixD 8 (fC (.int (2)))) (fC (.int (1)))) (fNil)))))) (fNx)))))))
def f_some_lasso : List D → Option D := runF 1 11 b_some_lasso
/-! ### law_start -/
abbrev s_law_start : Stmt := topS 18
abbrev n_law_start : List Str := ["script", "cell"]
theorem sc_law_start : FnScope n_law_start ["script"] (defScope s_law_start) := ⟨rfl, rfl, rfl, by decide +kernel, rfl, by decide +kernel, by decide +kernel⟩
def b_law_start : FS := fSeq (fRetL (fLst (fCons (fOfL (fLc (fItems (fOfL (fSlL (fVar 0) (fOno) (fOso (fC (.int (63))))))) (gSet 1) (fun ρ => some (true, ρ)) (fApp intD (fLook 1)) [1])) (fCons (fC (.int (0))) (fCons (fC (.int (0))) (fCons (fC (.int (0))) (fCons (fC (.int (20))) (fNil)))))))) (fNx)
def f_law_start : List D → Option (List D) := runL 1 1 b_law_start
/-! ### law_fill -/
abbrev s_law_fill : Stmt := topS 19
abbrev n_law_fill : List Str := ["c", "number"]
theorem sc_law_fill : FnScope n_law_fill ["c"] (defScope s_law_fill) := ⟨rfl, rfl, rfl, by decide +kernel, rfl, by decide +kernel, by decide +kernel⟩
def b_law_fill : FS := fSeq (fPut 0 (fC (.int (3))) (fBin addD (fBinN ixD 0 (fC (.int (3)))) (fC (.int (1))))) (fSeq (fAsg (fBin addD (fBin mulD (fBinN ixD 0 (fC (.int (3)))) (fC (.int (69621)))) (fC (.int (12345)))) (gSet 1)) (fSeq (fIfS (fTest (fBin ltD (fBinN ixD 0 (fC (.int (1)))) (fApp lenD (fBinN ixD 0 (fC (.int (0))))))) (fSeq (fAsg (fCall max2D (fCons (fBin ixD (fBinN ixD 0 (fC (.int (0)))) (fBinN ixD 0 (fC (.int (1))))) (fCons (fBin subD (fBin subD (fC (.int (0))) (fC (.int (1)))) (fBin ixD (fBinN ixD 0 (fC (.int (0)))) (fBinN ixD 0 (fC (.int (1)))))) (fNil)))) (gSet 1)) (fSeq (fPut 0 (fC (.int (1))) (fBin addD (fBinN ixD 0 (fC (.int (1)))) (fC (.int (1))))) (fSeq (fIfS (fTest (fBinN geD 1 (fBin powD (fC (.int (10))) (fC (.int (18)))))) (fSeq (fRet (fVar 1)) (fNx)) (fNx)) (fNx)))) (fNx)) (fSeq (fIfS (fAndT (fTru (fBinN ixD 0 (fC (.int (0))))) (fTest (fBin geD (fBinN ixD 0 (fC (.int (1)))) (fApp lenD (fBinN ixD 0 (fC (.int (0)))))))) (fSeq (fAsg (fBinN addD 1 (fBin modD (fApp intD (fBin ixD (fBinN ixD 0 (fC (.int (0)))) (fC (.int (-1))))) (fC (.int (1000003))))) (gSet 1)) (fNx)) (fNx)) (fSeq (fAsg (fBin modD (fApp intD (fBin addD (fBinN mulD 1 (fC (.int (48271)))) (fBin mulD (fBinN ixD 0 (fC (.int (3)))) (fC (.int (69621)))))) (fC (.int (2147483647)))) (gSet 1)) (fSeq (fRet (fBin addD (fBin fdivD (fApp intD (fBin addD (fBin addD (fBinN mulD 1 (fLook 1)) (fBin mulD (fBinN ixD 0 (fC (.int (3)))) (fC (.int (7919))))) (fC (.int (11))))) (fC (.int (64)))) (fC (.int (36028797018963968))))) (fNx))))))
def f_law_fill : List D → List D → Option (D × List D) := runIO 1 1 b_law_fill
/-! ### law_take -/
abbrev s_law_take : Stmt := topS 20
abbrev n_law_take : List Str := ["c", "many", "digit"]
theorem sc_law_take : FnScope n_law_take ["c", "many"] (defScope s_law_take) := ⟨rfl, rfl, rfl, by decide +kernel, rfl, by decide +kernel, by decide +kernel⟩
def b_law_take : FS := fSeq (fIfS (fTest (fBin ltD (fBinN ixD 0 (fC (.int (2)))) (fLook 1))) (fSeq (fPut 0 (fC (.int (2))) (fCallIO f_law_fill 0 (fNil))) (fNx)) (fNx)) (fSeq (fAsg (fBin modD (fApp intD (fBinN ixD 0 (fC (.int (2))))) (fLook 1)) (gSet 2)) (fSeq (fPut 0 (fC (.int (2))) (fBin fdivD (fBinN ixD 0 (fC (.int (2)))) (fLook 1))) (fSeq (fRet (fVar 2)) (fNx))))
def f_law_take : List D → List D → Option (D × List D) := runIO 2 1 b_law_take
/-! ### law_automaton -/
abbrev s_law_automaton : Stmt := topS 21
abbrev n_law_automaton : List Str := ["c", "letters", "many", "edges", "state", "starts", "ends", "turn", "letter"]
theorem sc_law_automaton : FnScope n_law_automaton ["c", "letters"] (defScope s_law_automaton) := ⟨rfl, rfl, rfl, by decide +kernel, rfl, by decide +kernel, by decide +kernel⟩
def b_law_automaton : FS := fSeq (fAsg (fBin addD (fC (.int (1))) (fCallIO f_law_take 0 (fCons (fC (.int (4))) (fNil)))) (gSet 2)) (fSeq (fSetL (fLc (fRng1 (fCons (fCallIO f_law_take 0 (fCons (fBin mulD (fC (.int (3))) (fLook 2)) (fNil))) (fNil))) (gSet 7) (fun ρ => some (true, ρ)) (fTup (fCons (fCallIO f_law_take 0 (fCons (fVar 2) (fNil))) (fCons (fBinN ixD 1 (fCallIO f_law_take 0 (fCons (fApp lenD (fLook 1)) (fNil)))) (fCons (fCallIO f_law_take 0 (fCons (fVar 2) (fNil))) (fNil))))) [7]) 3) (fSeq (fIfS (fTest (fBin eqD (fCallIO f_law_take 0 (fCons (fC (.int (2))) (fNil))) (fC (.int (0))))) (fSeq (fFor (fRng1 (fCons (fVar 2) (fNil))) (gSet 4) (fSeq (fSetL (fCatN 3 (fOfL (fLc (fItems (fVar 1)) (gSet 8) (fun ρ => some (true, ρ)) (fTup (fCons (fVar 4) (fCons (fVar 8) (fCons (fCallIO f_law_take 0 (fCons (fVar 2) (fNil))) (fNil))))) [8]))) 3) (fNx))) (fNx)) (fNx)) (fSeq (fAsg (fOr (fOfL (fLc (fRng1 (fCons (fVar 2) (fNil))) (gSet 4) (fTest (fBin eqD (fCallIO f_law_take 0 (fCons (fC (.int (3))) (fNil))) (fC (.int (0))))) (fVar 4) [4])) (fOfL (fLst (fCons (fC (.int (0))) (fNil))))) (gSet 5)) (fSeq (fSetL (fLc (fRng1 (fCons (fVar 2) (fNil))) (gSet 4) (fTest (fBin eqD (fCallIO f_law_take 0 (fCons (fC (.int (2))) (fNil))) (fC (.int (0))))) (fVar 4) [4]) 6) (fSeq (fRet (fTup (fCons (fVar 2) (fCons (fVar 1) (fCons (fApp tupleD (fLook 5)) (fCons (fApp tupleD (fOfL (fAppL sortSetD (fLook 3)))) (fCons (fApp tupleD (fLook 6)) (fNil)))))))) (fNx))))))
def f_law_automaton : List D → List D → Option (D × List D) := runIO 2 7 b_law_automaton
/-! ### law_led -/
abbrev s_law_led : Stmt := topS 22
abbrev n_law_led : List Str := ["automaton", "states", "letter", "found", "edge"]
theorem sc_law_led : FnScope n_law_led ["automaton", "states", "letter"] (defScope s_law_led) := ⟨rfl, rfl, rfl, by decide +kernel, rfl, by decide +kernel, by decide +kernel⟩
def b_law_led : FS := fSeq (fSetL (fLc (fItems (fBinN ixD 0 (fC (.int (3))))) (gSet 4) (fAndT (fTest (fBin eqD (fBinN ixD 4 (fC (.int (1)))) (fLook 2))) (fTest (fIn (fBinN ixD 4 (fC (.int (0)))) (fLook 1)))) (fBinN ixD 4 (fC (.int (2)))) [4]) 3) (fSeq (fRet (fApp tupleD (fOfL (fAppL sortSetD (fLook 3))))) (fNx))
def f_law_led : List D → Option D := runF 3 2 b_law_led
/-! ### law_behind -/
abbrev s_law_behind : Stmt := topS 23
abbrev n_law_behind : List Str := ["automaton", "word", "states", "letter"]
theorem sc_law_behind : FnScope n_law_behind ["automaton", "word"] (defScope s_law_behind) := ⟨rfl, rfl, rfl, by decide +kernel, rfl, by decide +kernel, by decide +kernel⟩
def b_law_behind : FS := fSeq (fAsg (fBinN ixD 0 (fC (.int (2)))) (gSet 2)) (fSeq (fFor (fItems (fVar 1)) (gSet 3) (fSeq (fAsg (fCall f_law_led (fCons (fVar 0) (fCons (fVar 2) (fCons (fVar 3) (fNil))))) (gSet 2)) (fNx))) (fSeq (fRet (fVar 2)) (fNx)))
def f_law_behind : List D → Option D := runF 2 2 b_law_behind
/-! ### law_first -/
abbrev s_law_first : Stmt := topS 27
abbrev n_law_first : List Str := ["automaton", "states", "goals", "least", "level", "known", "turn", "longer", "word", "now", "letter", "after", "state"]
theorem sc_law_first : FnScope n_law_first ["automaton", "states", "goals", "least"] (defScope s_law_first) := ⟨rfl, rfl, rfl, by decide +kernel, rfl, by decide +kernel, by decide +kernel⟩
def b_law_first : FS := fSeq (fPar 4 5 (nL (fLst (fCons (fTup (fCons (fC (.str "")) (fCons (fVar 1) (fNil)))) (fNil)))) (nT (fun ρ => some ([], ρ)))) (fSeq (fFor (fRng1 (fCons (fC (.int (40))) (fNil))) (gSet 6) (fSeq (fSetL (fLst (fNil)) 7) (fSeq (fFor (fItems (fVar 4)) (gTupD 2 (gsCons (gSet 8) (gsCons (gSet 9) (gsNil)))) (fSeq (fIfS (fAndT (fTest (fBin geD (fApp lenD (fLook 8)) (fLook 3))) (fTru (fApp anyD (fOfL (fLc (fItems (fVar 9)) (gSet 12) (fun ρ => some (true, ρ)) (fIn (fVar 12) (fLook 2)) [12]))))) (fSeq (fRet (fVar 8)) (fNx)) (fNx)) (fSeq (fFor (fItems (fBinN ixD 0 (fC (.int (1))))) (gSet 10) (fSeq (fAsg (fCall f_law_led (fCons (fVar 0) (fCons (fVar 9) (fCons (fVar 10) (fNil))))) (gSet 11)) (fSeq (fIfS (fTest (fNotIn (fVar 11) (fLook 5))) (fSeq (fPut 5 (fVar 11) (fC (.bl true))) (fSeq (fAppend 7 (fTup (fCons (fBinN addD 8 (fLook 10)) (fCons (fVar 11) (fNil))))) (fNx))) (fNx)) (fNx)))) (fNx)))) (fSeq (fAsg (fVar 7) (gSet 4)) (fNx))))) (fSeq (fRet (fC .non)) (fNx)))
def f_law_first : List D → Option D := runF 4 9 b_law_first
/-! ### law_reads_lasso -/
abbrev s_law_reads_lasso : Stmt := topS 28
abbrev n_law_reads_lasso : List Str := ["automaton", "u", "v", "many", "marks", "steps", "state", "now", "letter", "after", "edge", "k", "one", "reach", "level", "hit"]
theorem sc_law_reads_lasso : FnScope n_law_reads_lasso ["automaton", "u", "v"] (defScope s_law_reads_lasso) := ⟨rfl, rfl, rfl, by decide +kernel, rfl, by decide +kernel, by decide +kernel⟩
def b_law_reads_lasso : FS := fSeq (fPar 3 4 (nE (fBinN ixD 0 (fC (.int (0))))) (nE (fBinN ixD 0 (fC (.int (4)))))) (fSeq (fSetK (fun ρ => some ([], ρ)) 5) (fSeq (fFor (fRng1 (fCons (fVar 3) (fNil))) (gSet 6) (fSeq (fSetT (fDispT (fTup (fCons (fVar 6) (fCons (fC (.int (0))) (fNil)))) (fC (.bl true))) 7) (fSeq (fFor (fItems (fVar 2)) (gSet 8) (fSeq (fSetL (fLst (fNil)) 9) (fSeq (fFor (fItems (fBinN ixD 0 (fC (.int (3))))) (gSet 10) (fSeq (fFor (fRng1 (fCons (fC (.int (2))) (fNil))) (gSet 11) (fSeq (fIfS (fAndT (fTest (fBin eqD (fBinN ixD 10 (fC (.int (1)))) (fLook 8))) (fTest (fIn (fTup (fCons (fBinN ixD 10 (fC (.int (0)))) (fCons (fVar 11) (fNil)))) (fLook 7)))) (fSeq (fAppend 9 (fTup (fCons (fBinN ixD 10 (fC (.int (2)))) (fCons (fCall max2D (fCons (fVar 11) (fCons (fApp intD (fIn (fBinN ixD 10 (fC (.int (2)))) (fLook 4))) (fNil)))) (fNil))))) (fNx)) (fNx)) (fNx))) (fNx))) (fSeq (fSetT (fDictT (fOfL (fLc (fItems (fVar 9)) (gSet 12) (fun ρ => some (true, ρ)) (fTup (fCons (fVar 12) (fCons (fC (.bl true)) (fNil)))) [12]))) 7) (fNx))))) (fSeq (fPut 5 (fVar 6) (fOfL (fAppL sortedD (fLook 7)))) (fNx))))) (fSeq (fSetL (fAppL listD0 (fCall f_law_behind (fCons (fVar 0) (fCons (fVar 1) (fNil))))) 13) (fSeq (fFor (fRng1 (fCons (fBinN addD 3 (fC (.int (1)))) (fNil))) (gSet 11) (fSeq (fIfS (fTest (fBinN ltD 11 (fApp lenD (fLook 13)))) (fSeq (fSetL (fCatN 13 (fOfL (fLc (fRng1 (fCons (fVar 3) (fNil))) (gSet 6) (fAndT (fTest (fNotIn (fVar 6) (fLook 13))) (fTru (fApp anyD (fOfL (fLc (fItems (fBinN ixD 5 (fBinN ixD 13 (fVar 11)))) (gSet 12) (fun ρ => some (true, ρ)) (fBin eqD (fBinN ixD 12 (fC (.int (0)))) (fLook 6)) [12]))))) (fVar 6) [6]))) 13) (fNx)) (fNx)) (fNx))) (fSeq (fFor (fItems (fVar 13)) (gSet 6) (fSeq (fSetL (fLst (fCons (fTup (fCons (fVar 6) (fCons (fC (.int (0))) (fNil)))) (fNil))) 14) (fSeq (fFor (fRng1 (fCons (fBin addD (fBin mulD (fC (.int (2))) (fLook 3)) (fC (.int (2)))) (fNil))) (gSet 11) (fSeq (fIfS (fTest (fBinN ltD 11 (fApp lenD (fLook 14)))) (fSeq (fFor (fItems (fBinN ixD 5 (fBin ixD (fBinN ixD 14 (fVar 11)) (fC (.int (0)))))) (gTupD 2 (gsCons (gSet 9) (gsCons (gSet 15) (gsNil)))) (fSeq (fAsg (fTup (fCons (fVar 9) (fCons (fCall max2D (fCons (fVar 15) (fCons (fBin ixD (fBinN ixD 14 (fVar 11)) (fC (.int (1)))) (fNil)))) (fNil)))) (gSet 12)) (fSeq (fIfS (fTest (fBinN eqD 12 (fTup (fCons (fVar 6) (fCons (fC (.int (1))) (fNil)))))) (fSeq (fRet (fC (.bl true))) (fNx)) (fNx)) (fSeq (fIfS (fTest (fNotIn (fVar 12) (fLook 14))) (fSeq (fAppend 14 (fVar 12)) (fNx)) (fNx)) (fNx))))) (fNx)) (fNx)) (fNx))) (fNx)))) (fSeq (fRet (fC (.bl false))) (fNx)))))))
def f_law_reads_lasso : List D → Option D := runF 3 13 b_law_reads_lasso
/-! ### law_infinite -/
abbrev s_law_infinite : Stmt := topS 29
abbrev n_law_infinite : List Str := ["u", "v", "many"]
theorem sc_law_infinite : FnScope n_law_infinite ["u", "v", "many"] (defScope s_law_infinite) := ⟨rfl, rfl, rfl, by decide +kernel, rfl, by decide +kernel, by decide +kernel⟩
def b_law_infinite : FS := fSeq (fRet (fSlS (fBinN addD 0 (fBinN mulD 1 (fLook 2))) (fOno) (fOso (fVar 2)))) (fNx)
def f_law_infinite : List D → Option D := runF 3 0 b_law_infinite
/-! ### law_least_lasso -/
abbrev s_law_least_lasso : Stmt := topS 30
abbrev n_law_least_lasso : List Str := ["u", "v", "text", "size", "begin", "k"]
theorem sc_law_least_lasso : FnScope n_law_least_lasso ["u", "v"] (defScope s_law_least_lasso) := ⟨rfl, rfl, rfl, by decide +kernel, rfl, by decide +kernel, by decide +kernel⟩
def b_law_least_lasso : FS := fSeq (fAsg (fCall f_law_infinite (fCons (fVar 0) (fCons (fVar 1) (fCons (fC (.int (40))) (fNil))))) (gSet 2)) (fSeq (fFor (fRng2 (fCons (fC (.int (1))) (fCons (fBin addD (fApp lenD (fLook 1)) (fC (.int (1)))) (fNil)))) (gSet 3) (fSeq (fFor (fRng1 (fCons (fBin addD (fApp lenD (fLook 0)) (fC (.int (1)))) (fNil))) (gSet 4) (fSeq (fIfS (fTru (fApp allD (fOfL (fLc (fRng2 (fCons (fVar 4) (fCons (fBin subD (fC (.int (40))) (fLook 3)) (fNil)))) (gSet 5) (fun ρ => some (true, ρ)) (fBin eqD (fBinN ixD 2 (fVar 5)) (fBinN ixD 2 (fBinN addD 5 (fLook 3)))) [5])))) (fSeq (fRet (fTup (fCons (fSlS (fVar 2) (fOno) (fOso (fVar 4))) (fCons (fSlS (fVar 2) (fOso (fVar 4)) (fOso (fBinN addD 4 (fLook 3)))) (fNil))))) (fNx)) (fNx)) (fNx))) (fNx))) (fSeq (fRet (fC .non)) (fNx)))
def f_law_least_lasso : List D → Option D := runF 2 4 b_law_least_lasso
/-! ### law_some -/
abbrev s_law_some : Stmt := topS 31
abbrev n_law_some : List Str := ["automaton", "found", "state", "u", "v", "size", "first", "second"]
theorem sc_law_some : FnScope n_law_some ["automaton"] (defScope s_law_some) := ⟨rfl, rfl, rfl, by decide +kernel, rfl, by decide +kernel, by decide +kernel⟩
def b_law_some : FS := fSeq (fSetL (fLst (fNil)) 1) (fSeq (fFor (fItems (fBinN ixD 0 (fC (.int (4))))) (gSet 2) (fSeq (fPar 3 4 (nE (fCall f_law_first (fCons (fVar 0) (fCons (fBinN ixD 0 (fC (.int (2)))) (fCons (fTup (fCons (fVar 2) (fNil))) (fCons (fC (.int (0))) (fNil))))))) (nE (fCall f_law_first (fCons (fVar 0) (fCons (fTup (fCons (fVar 2) (fNil))) (fCons (fTup (fCons (fVar 2) (fNil))) (fCons (fC (.int (1))) (fNil)))))))) (fSeq (fIfS (fAndT (fTest (fIsN true (fVar 3))) (fTest (fIsN true (fVar 4)))) (fSeq (fAppend 1 (fTup (fCons (fBin addD (fApp lenD (fLook 3)) (fApp lenD (fLook 4))) (fCons (fTup (fCons (fApp lenD (fLook 3)) (fCons (fVar 3) (fNil)))) (fCons (fTup (fCons (fApp lenD (fLook 4)) (fCons (fVar 4) (fNil)))) (fNil)))))) (fNx)) (fNx)) (fNx)))) (fSeq (fIfS (fNotT (fTru (fLook 1))) (fSeq (fRet (fTup (fCons (fC (.str "empty")) (fNil)))) (fNx)) (fNx)) (fSeq (fAsg (fApp minLD (fLook 1)) (gTupD 3 (gsCons (gSet 5) (gsCons (gSet 6) (gsCons (gSet 7) (gsNil)))))) (fSeq (fRet (fTup (fCons (fC (.str "some")) (fCons (fBinN ixD 6 (fC (.int (1)))) (fCons (fBinN ixD 7 (fC (.int (1)))) (fNil)))))) (fNx)))))
def f_law_some : List D → Option D := runF 1 7 b_law_some
/-! ### law -/
abbrev s_law : Stmt := topS 32
abbrev n_law : List Str := ["script", "c", "letters", "automaton", "u", "v", "k", "times", "whole", "other", "due", "said", "told", "turn"]
theorem sc_law : FnScope n_law ["script"] (defScope s_law) := ⟨rfl, rfl, rfl, by decide +kernel, rfl, by decide +kernel, by decide +kernel⟩
def b_law : FS := fSeq (fSetL (fCallL f_law_start (fCons (fVar 0) (fNil))) 1) (fSeq (fAsg (fBin ixD (fOfL (fLst (fCons (fC (.str "ab")) (fCons (fC (.str "a")) (fNil))))) (fApp intD (fBin eqD (fCallIO f_law_take 1 (fCons (fC (.int (4))) (fNil))) (fC (.int (0)))))) (gSet 2)) (fSeq (fAsg (fCallIO f_law_automaton 1 (fCons (fVar 2) (fNil))) (gSet 3)) (fSeq (fAsg (fBin joinD (fC (.str "")) (fOfL (fLc (fRng1 (fCons (fCallIO f_law_take 1 (fCons (fC (.int (5))) (fNil))) (fNil))) (gSet 13) (fun ρ => some (true, ρ)) (fBinN ixD 2 (fCallIO f_law_take 1 (fCons (fApp lenD (fLook 2)) (fNil)))) [13]))) (gSet 4)) (fSeq (fAsg (fBin joinD (fC (.str "")) (fOfL (fLc (fRng1 (fCons (fBin addD (fC (.int (1))) (fCallIO f_law_take 1 (fCons (fC (.int (4))) (fNil)))) (fNil))) (gSet 13) (fun ρ => some (true, ρ)) (fBinN ixD 2 (fCallIO f_law_take 1 (fCons (fApp lenD (fLook 2)) (fNil)))) [13]))) (gSet 5)) (fSeq (fIfS (fTest (fBin neD (fCall f_least_lasso (fCons (fVar 4) (fCons (fVar 5) (fNil)))) (fCall f_law_least_lasso (fCons (fVar 4) (fCons (fVar 5) (fNil)))))) (fSeq (fRet (fC (.bl false))) (fNx)) (fNx)) (fSeq (fPar 6 7 (nE (fCallIO f_law_take 1 (fCons (fC (.int (5))) (fNil)))) (nE (fBin addD (fC (.int (1))) (fCallIO f_law_take 1 (fCons (fC (.int (2))) (fNil)))))) (fSeq (fAsg (fCall f_law_infinite (fCons (fVar 4) (fCons (fVar 5) (fCons (fC (.int (60))) (fNil))))) (gSet 8)) (fSeq (fAsg (fTup (fCons (fSlS (fVar 8) (fOno) (fOso (fBin addD (fApp lenD (fLook 4)) (fLook 6)))) (fCons (fSlS (fVar 8) (fOso (fBin addD (fApp lenD (fLook 4)) (fLook 6))) (fOso (fBin addD (fBin addD (fApp lenD (fLook 4)) (fLook 6)) (fBin mulD (fApp lenD (fLook 5)) (fLook 7))))) (fNil)))) (gSet 9)) (fSeq (fIfS (fTest (fBin eqD (fCallIO f_law_take 1 (fCons (fC (.int (3))) (fNil))) (fC (.int (0))))) (fSeq (fAsg (fTup (fCons (fBinN ixD 9 (fC (.int (0)))) (fCons (fBin addD (fBinN ixD 9 (fC (.int (1)))) (fBinN ixD 2 (fCallIO f_law_take 1 (fCons (fApp lenD (fLook 2)) (fNil))))) (fNil)))) (gSet 9)) (fNx)) (fNx)) (fSeq (fAsg (fBin eqD (fCall f_law_infinite (fCons (fVar 4) (fCons (fVar 5) (fCons (fC (.int (60))) (fNil))))) (fCall f_law_infinite (fCons (fBinN ixD 9 (fC (.int (0)))) (fCons (fBinN ixD 9 (fC (.int (1)))) (fCons (fC (.int (60))) (fNil)))))) (gSet 10)) (fSeq (fIfS (fTest (fBin neD (fCall f_same_lasso (fCons (fTup (fCons (fVar 4) (fCons (fVar 5) (fNil)))) (fCons (fVar 9) (fNil)))) (fLook 10))) (fSeq (fRet (fC (.bl false))) (fNx)) (fNx)) (fSeq (fAsg (fCall f_reads_lasso (fCons (fVar 3) (fCons (fVar 4) (fCons (fVar 5) (fNil))))) (gSet 11)) (fSeq (fIfS (fOrT (fTest (fBinN neD 11 (fCall f_law_reads_lasso (fCons (fVar 3) (fCons (fVar 4) (fCons (fVar 5) (fNil))))))) (fAndT (fTru (fLook 10)) (fTest (fBin neD (fCall f_reads_lasso (fCons (fVar 3) (fCons (fBinN ixD 9 (fC (.int (0)))) (fCons (fBinN ixD 9 (fC (.int (1)))) (fNil))))) (fLook 11))))) (fSeq (fRet (fC (.bl false))) (fNx)) (fNx)) (fSeq (fAsg (fCall f_some_lasso (fCons (fVar 3) (fNil))) (gSet 12)) (fSeq (fIfS (fTest (fBinN neD 12 (fCall f_law_some (fCons (fVar 3) (fNil))))) (fSeq (fRet (fC (.bl false))) (fNx)) (fNx)) (fSeq (fRet (fOr (fAnd (fBin eqD (fBinN ixD 12 (fC (.int (0)))) (fC (.str "some"))) (fCall f_law_reads_lasso (fCons (fVar 3) (fCons (fBinN ixD 12 (fC (.int (1)))) (fCons (fBinN ixD 12 (fC (.int (2)))) (fNil)))))) (fAnd (fBin eqD (fBinN ixD 12 (fC (.int (0)))) (fC (.str "empty"))) (fNot (fVar 11))))) (fNx)))))))))))))))))
def f_law : List D → Option D := runF 1 13 b_law
end K63

namespace K63
open PySem PySem.Spec PyProof.Rows L2 DL
section
variable {P : Program} {w : World} {K : PySem.W.Frag} {mg : Str → Option Value} {base : Heap}
theorem ok_behind {f : Addr} {fd : FuncData} (B : BF mg) (F : Fun K "behind" "behind" s_behind f fd) (gf : mg "behind" = some (.ref f)) (bd : Binds K fd ["first", "second"] []) : Cal P w K mg base "behind" 1 ["first", "second"] (Pure K f_behind) := by
  refine ⟨f, fd, pure_ok F sc_behind (by decide) fun cdv A outer s H E hr => ?_, gf, F.kp, bd⟩
  exact css_cons (cs_setT (fun h => ps_set (i := 2) sc_behind.nd rfl (.inl rfl) h) (cdt_new)) (css_cons (cs_for (fun h1 h2 h3 => ps_for PassesOwn.never rfl h1 h2 h3) (ci_any (ce_var (pv 0))) (cg_tup rfl (cgs_cons (cg_name (pg_name (i := 3) sc_behind.nd rfl (.inl rfl))) (cgs_cons (cg_name (pg_name (i := 4) sc_behind.nd rfl (.inl rfl))) (cgs_nil)))) (css_cons (cs_for (fun h1 h2 h3 => ps_for PassesOwn.never rfl h1 h2 h3) (ci_any (ce_var (pv 1))) (cg_tup rfl (cgs_cons (cg_name (pg_name (i := 5) sc_behind.nd rfl (.inl rfl))) (cgs_cons (cg_name (pg_name (i := 6) sc_behind.nd rfl (.inl rfl))) (cgs_nil)))) (css_cons (cs_if (ct_cmp (cc_opN (op_eqDD (hub hr (by decide))) (pv 4) (cv_var (pv 5))) (nomark _)) (css_cons (cs_set (fun h => ps_set (i := 7) sc_behind.nd rfl (.inl rfl) h) (ce_max2 rfl (fun h1 h2 => pe_callB h1 (by rfl) B.max_ boot_max h2) (ca_cons (ce_ixN (hub hr (by decide)) (pv 0) (ce_tup (ca_cons (ce_var (pv 3)) (ca_cons (ce_var (pv 4)) (ca_nil)))) (fun _ _ => rfl) (fun _ _ => rfl)) (ca_cons (ce_ixN (hub hr (by decide)) (pv 1) (ce_tup (ca_cons (ce_var (pv 5)) (ca_cons (ce_var (pv 6)) (ca_nil)))) (fun _ _ => rfl) (fun _ _ => rfl)) (ca_nil))))) (css_cons (cs_put (fun h1 h2 => ps_asg h2 (pg_sub (pv 2) h1 set_list (fun _ => rfl))) (fun h1 h2 => ps_dput (hub hr (by decide)) (pv 2) h1 h2 rfl) (ce_tup (ca_cons (ce_var (pv 3)) (ca_cons (ce_var (pv 6)) (ca_nil)))) (ce_max2 rfl (fun h1 h2 => pe_callB h1 (by rfl) B.max_ boot_max h2) (ca_cons (ce_var (pv 7)) (ca_cons (ce_get2N (hub hr (by decide)) (pv 2) (ce_tup (ca_cons (ce_var (pv 3)) (ca_cons (ce_var (pv 6)) (ca_nil)))) (ce_int) ⟨by rfl, by rfl, by rfl, by rfl⟩) (ca_nil))))) (css_nil))) (css_nil)) (css_nil))) (css_nil))) (css_cons (cs_ret (ce_var (pv 2))) (css_nil)))
end
end K63

namespace K63
open PySem PySem.Spec PyProof.Rows L2 DL
section
variable {P : Program} {w : World} {K : PySem.W.Frag} {mg : Str → Option Value} {base : Heap}
theorem ok_behind_word {f : Addr} {fd : FuncData} (B : BF mg) (F : Fun K "behind_word" "behind_word" s_behind_word f fd) (gf : mg "behind_word" = some (.ref f)) (bd : Binds K fd ["steps", "states", "word"] []) (c0 : Cal P w K mg base "moved" 1 ["steps", "states", "letter"] (Pure K f_moved)) : Cal P w K mg base "behind_word" 2 ["steps", "states", "word"] (Pure K f_behind_word) := by
  obtain ⟨f0, d0, G0, g0, k0, b0⟩ := c0.ex
  refine ⟨f, fd, pure_ok F sc_behind_word (by decide) fun cdv A outer s H E hr => ?_, gf, F.kp, bd⟩
  exact css_cons (cs_for (fun h1 h2 h3 => ps_for PassesOwn.never rfl h1 h2 h3) (ci_any (ce_var (pv 2))) (cg_name (pg_name (i := 3) sc_behind_word.nd rfl (.inl rfl))) (css_cons (cs_set (fun h => ps_set (i := 1) sc_behind_word.nd rfl (.inl rfl) h) (ce_call (fun h => pe_call G0 (hr.mono (by decide)) (by rfl) g0 k0 b0 .nil pass0 h) (ca_cons (ce_var (pv 0)) (ca_cons (ce_var (pv 1)) (ca_cons (ce_var (pv 3)) (ca_nil)))))) (css_nil))) (css_cons (cs_ret (ce_var (pv 1))) (css_nil))
end
end K63

namespace K63
open PySem PySem.Spec PyProof.Rows L2 DL
section
variable {P : Program} {w : World} {K : PySem.W.Frag} {mg : Str → Option Value} {base : Heap}
theorem ok_comes_to {f : Addr} {fd : FuncData} (B : BF mg) (F : Fun K "comes_to" "comes_to" s_comes_to f fd) (gf : mg "comes_to" = some (.ref f)) (bd : Binds K fd ["table", "p", "q"] []) : Cal P w K mg base "comes_to" 1 ["table", "p", "q"] (Pure K f_comes_to) := by
  refine ⟨f, fd, pure_ok F sc_comes_to (by decide) fun cdv A outer s H E hr => ?_, gf, F.kp, bd⟩
  exact css_cons (cs_setK (fun h => ps_set (i := 3) sc_comes_to.nd rfl (.inl rfl) h) (cdk_disp (ce_var (pv 1)) (ce_bl))) (css_cons (cs_setL (fun h => ps_set (i := 4) sc_comes_to.nd rfl (.inl rfl) h) (cl_lst (ca_cons (ce_var (pv 1)) (ca_nil)))) (css_cons (cs_while (fun _ => 3000) (fun h1 h2 => ps_while PassesOwn.never h1 h2) (ct_tru (cv_var (pv 4))) (css_cons (cs_set (fun h => ps_set (i := 5) sc_comes_to.nd rfl (.inl rfl) h) (ce_pop (pe_bm0 PySem.F.plainAttrs_list PySem.F.slot_list_pop PySem.F.type_list_pop mt_pop (pv 4)))) (css_cons (cs_if (ct_cmp (cc_opN (op_eqDD (hub hr (by decide))) (pv 5) (cv_var (pv 2))) (nomark _)) (css_cons (cs_ret (ce_bl)) (css_nil)) (css_nil)) (css_cons (cs_for (fun h1 h2 h3 => ps_for PassesOwn.never rfl h1 h2 h3) (ci_any (ce_var (pv 0))) (cg_tup rfl (cgs_cons (cg_name (pg_name (i := 6) sc_comes_to.nd rfl (.inl rfl))) (cgs_cons (cg_name (pg_name (i := 7) sc_comes_to.nd rfl (.inl rfl))) (cgs_nil)))) (css_cons (cs_if (CW.t (cw_and (ct_cmp (cc_opN (op_eqDD (hub hr (by decide))) (pv 6) (cv_var (pv 5))) (nomark _)) (cw_and1 (ct_cmp (cc_notIn (hub hr (by decide)) (ce_var (pv 7)) (cv_var (pv 3))) rfl)))) (css_cons (cs_put (fun h1 h2 => ps_asg h2 (pg_sub (pv 3) h1 set_list (fun _ => rfl))) (fun h1 h2 => ps_dput (hub hr (by decide)) (pv 3) h1 h2 rfl) (ce_var (pv 7)) (ce_bl)) (css_cons (cs_append (fun h => ps_expr (pe_bm PySem.F.plainAttrs_list PySem.F.slot_list_append PySem.F.type_list_append mt_append (pv 4) (pa_cons h pa_nil))) (ce_var (pv 7))) (css_nil))) (css_nil)) (css_nil))) (css_nil))))) (css_cons (cs_ret (ce_bl)) (css_nil))))
end
end K63

namespace K63
open PySem PySem.Spec PyProof.Rows L2 DL
section
variable {P : Program} {w : World} {K : PySem.W.Frag} {mg : Str → Option Value} {base : Heap}
theorem ok_first_back {f : Addr} {fd : FuncData} (B : BF mg) (F : Fun K "first_back" "first_back" s_first_back f fd) (gf : mg "first_back" = some (.ref f)) (bd : Binds K fd ["steps", "state", "letters"] []) (c0 : Cal P w K mg base "place" 1 ["word"] (Pure K f_place)) (c1 : Cal P w K mg base "first_words" 1 ["steps", "starts", "letters"] (Pure K f_first_words)) : Cal P w K mg base "first_back" 2 ["steps", "state", "letters"] (Pure K f_first_back) := by
  obtain ⟨f0, d0, G0, g0, k0, b0⟩ := c0.ex
  obtain ⟨f1, d1, G1, g1, k1, b1⟩ := c1.ex
  refine ⟨f, fd, pure_ok F sc_first_back (by decide) fun cdv A outer s H E hr => ?_, gf, F.kp, bd⟩
  exact css_cons (cs_set (fun h => ps_set (i := 3) sc_first_back.nd rfl (.inl rfl) h) (ce_non)) (css_cons (cs_for (fun h1 h2 h3 => ps_for PassesOwn.never rfl h1 h2 h3) (ci_any (ce_var (pv 2))) (cg_name (pg_name (i := 4) sc_first_back.nd rfl (.inl rfl))) (css_cons (cs_for (fun h1 h2 h3 => ps_for PassesOwn.never rfl h1 h2 h3) (ci_any (ce_get2 (hub hr (by decide)) (ce_ixN (hub hr (by decide)) (pv 0) (ce_var (pv 1)) (fun _ _ => rfl) (fun _ _ => rfl)) (ce_var (pv 4)) (CL.fz (cl_lst (ca_nil))) ⟨by rfl, by rfl, by rfl, by rfl⟩)) (cg_name (pg_name (i := 5) sc_first_back.nd rfl (.inl rfl))) (css_cons (cs_set (fun h => ps_set (i := 6) sc_first_back.nd rfl (.inl rfl) h) (ce_call (fun h => pe_call G1 (hr.mono (by decide)) (by rfl) g1 k1 b1 .nil pass0 h) (ca_cons (ce_var (pv 0)) (ca_cons (ce_tup (ca_cons (ce_var (pv 5)) (ca_nil))) (ca_cons (ce_var (pv 2)) (ca_nil)))))) (css_cons (cs_if (ct_cmp (cc_in (hub hr (by decide)) (ce_var (pv 1)) (cv_var (pv 6))) rfl) (css_cons (cs_set (fun h => ps_set (i := 7) sc_first_back.nd rfl (.inl rfl) h) (ce_binN op_addD (pv 4) (CE.v (ce_ixN (hub hr (by decide)) (pv 6) (ce_var (pv 1)) (fun _ _ => rfl) (fun _ _ => rfl))))) (css_cons (cs_if (CW.t (cw_or (ct_cmp (cc_isN (ce_var (pv 3))) rfl) (cw_or1 (ct_cmp (cc_op (op_ltDD (hub hr (by decide))) (ce_call (fun h => pe_call G0 (hr.mono (by decide)) (by rfl) g0 k0 b0 .nil pass0 h) (ca_cons (ce_var (pv 7)) (ca_nil))) (CE.v (ce_call (fun h => pe_call G0 (hr.mono (by decide)) (by rfl) g0 k0 b0 .nil pass0 h) (ca_cons (ce_var (pv 3)) (ca_nil))))) (nomark _))))) (css_cons (cs_set (fun h => ps_set (i := 3) sc_first_back.nd rfl (.inl rfl) h) (ce_var (pv 7))) (css_nil)) (css_nil)) (css_nil))) (css_nil)) (css_nil)))) (css_nil))) (css_cons (cs_ret (ce_var (pv 3))) (css_nil)))
end
end K63

namespace K63
open PySem PySem.Spec PyProof.Rows L2 DL
section
variable {P : Program} {w : World} {K : PySem.W.Frag} {mg : Str → Option Value} {base : Heap}
theorem ok_first_words {f : Addr} {fd : FuncData} (B : BF mg) (F : Fun K "first_words" "first_words" s_first_words f fd) (gf : mg "first_words" = some (.ref f)) (bd : Binds K fd ["steps", "starts", "letters"] []) : Cal P w K mg base "first_words" 1 ["steps", "starts", "letters"] (Pure K f_first_words) := by
  refine ⟨f, fd, pure_ok F sc_first_words (by decide) fun cdv A outer s H E hr => ?_, gf, F.kp, bd⟩
  exact css_cons (cs_setK (fun h => ps_set (i := 4) sc_first_words.nd rfl (.inr rfl) h) (cdk_dc (own := [("state", 3)]) (hub hr (by decide)) rfl sc_first_words.nd (ci_any (ce_var (pv 1))) (blkOk_by (N := n_first_words) (sc := defScope s_first_words) (own := [("state", 3)]) (by decide +kernel)) (fun _ _ _ _ _ => cg_name (pg_name (i := 3) sc_first_words.nd rfl (.inl rfl))) (fun _ _ _ _ _ => cts_nil) (fun _ _ _ _ _ => ce_var (pv 3)) (fun _ _ _ _ _ => ce_str) (by decide))) (css_cons (cs_setL (fun h => ps_set (i := 5) sc_first_words.nd rfl (.inl rfl) h) (cl_blt (blt_list rfl) (fun h1 h2 => pe_callTy h1 (by rfl) B.list_ boot_list h2) (cv_var (pv 1)))) (css_cons (cs_while (fun _ => 3000) (fun h1 h2 => ps_while PassesOwn.never h1 h2) (ct_tru (cv_var (pv 5))) (css_cons (cs_setL (fun h => ps_set (i := 6) sc_first_words.nd rfl (.inl rfl) h) (cl_lst (ca_nil))) (css_cons (cs_for (fun h1 h2 h3 => ps_for PassesOwn.never rfl h1 h2 h3) (ci_any (CL.fz (cl_blt (blt_sorted rfl (hub hr (by decide))) (fun h1 h2 => pe_callB h1 (by rfl) B.sorted boot_sorted h2) (CL.v (cl_lc2 (own := [("state", 3), ("letter", 7)]) (vs1 := [7]) rfl sc_first_words.nd (ci_any (ce_var (pv 5))) (blkOk_by (N := n_first_words) (sc := defScope s_first_words) (own := [("state", 3), ("letter", 7)]) (by decide +kernel)) (fun _ _ _ _ _ => cg_name (pg_name (i := 3) sc_first_words.nd rfl (.inl rfl))) (fun _ _ _ _ _ => cts_nil) (fun _ _ _ _ _ => ci_any (ce_var (pv 2))) (fun _ _ _ _ _ => cg_name (pg_name (i := 7) sc_first_words.nd rfl (.inl rfl))) (fun _ _ _ _ _ => cts_nil) (fun _ _ _ _ _ => ce_tup (ca_cons (ce_bin op_addD (ce_ixN (hub hr (by decide)) (pv 4) (ce_var (pv 3)) (fun _ _ => rfl) (fun _ _ => rfl)) (cv_var (pv 7))) (ca_cons (ce_var (pv 3)) (ca_nil)))) (by decide) (by decide) (by decide)))))) (cg_tup rfl (cgs_cons (cg_name (pg_name (i := 7) sc_first_words.nd rfl (.inl rfl))) (cgs_cons (cg_name (pg_name (i := 3) sc_first_words.nd rfl (.inl rfl))) (cgs_nil)))) (css_cons (cs_for (fun h1 h2 h3 => ps_for PassesOwn.never rfl h1 h2 h3) (ci_any (ce_get2 (hub hr (by decide)) (ce_ixN (hub hr (by decide)) (pv 0) (ce_var (pv 3)) (fun _ _ => rfl) (fun _ _ => rfl)) (ce_ixN (hub hr (by decide)) (pv 7) (ce_neg) (fun _ _ => rfl) (fun _ _ => rfl)) (CL.fz (cl_lst (ca_nil))) ⟨by rfl, by rfl, by rfl, by rfl⟩)) (cg_name (pg_name (i := 8) sc_first_words.nd rfl (.inl rfl))) (css_cons (cs_if (ct_cmp (cc_notIn (hub hr (by decide)) (ce_var (pv 8)) (cv_var (pv 4))) rfl) (css_cons (cs_put (fun h1 h2 => ps_asg h2 (pg_sub (pv 4) h1 set_list (fun _ => rfl))) (fun h1 h2 => ps_dput (hub hr (by decide)) (pv 4) h1 h2 rfl) (ce_var (pv 8)) (ce_var (pv 7))) (css_cons (cs_append (fun h => ps_expr (pe_bm PySem.F.plainAttrs_list PySem.F.slot_list_append PySem.F.type_list_append mt_append (pv 6) (pa_cons h pa_nil))) (ce_var (pv 8))) (css_nil))) (css_nil)) (css_nil))) (css_nil))) (css_cons (cs_set (fun h => ps_set (i := 5) sc_first_words.nd rfl (.inl rfl) h) (ce_var (pv 6))) (css_nil))))) (css_cons (cs_ret (ce_var (pv 4))) (css_nil))))
end
end K63

namespace K63
open PySem PySem.Spec PyProof.Rows L2 DL
section
variable {P : Program} {w : World} {K : PySem.W.Frag} {mg : Str → Option Value} {base : Heap}
theorem ok_law {f : Addr} {fd : FuncData} (B : BF mg) (F : Fun K "law" "law" s_law f fd) (gf : mg "law" = some (.ref f)) (bd : Binds K fd ["script"] []) (c0 : Cal P w K mg base "_law_reads_lasso" 3 ["automaton", "u", "v"] (Pure K f_law_reads_lasso)) (c1 : Cal P w K mg base "_law_some" 3 ["automaton"] (Pure K f_law_some)) (c2 : Cal P w K mg base "some_lasso" 3 ["automaton"] (Pure K f_some_lasso)) (c3 : Cal P w K mg base "reads_lasso" 3 ["automaton", "u", "v"] (Pure K f_reads_lasso)) (c4 : Cal P w K mg base "same_lasso" 2 ["first", "second"] (Pure K f_same_lasso)) (c5 : Cal P w K mg base "_law_infinite" 1 ["u", "v", "many"] (Pure K f_law_infinite)) (c6 : Cal P w K mg base "_law_take" 2 ["c", "many"] (InOut K f_law_take)) (c7 : Cal P w K mg base "_law_least_lasso" 2 ["u", "v"] (Pure K f_law_least_lasso)) (c8 : Cal P w K mg base "least_lasso" 1 ["u", "v"] (Pure K f_least_lasso)) (c9 : Cal P w K mg base "_law_automaton" 3 ["c", "letters"] (InOut K f_law_automaton)) (c10 : Cal P w K mg base "_law_start" 1 ["script"] (PureL K f_law_start)) : FnOk P w K mg base CX0 4 f fd ["script"] (Pure K f_law) := by
  obtain ⟨f0, d0, G0, g0, k0, b0⟩ := c0.ex
  obtain ⟨f1, d1, G1, g1, k1, b1⟩ := c1.ex
  obtain ⟨f2, d2, G2, g2, k2, b2⟩ := c2.ex
  obtain ⟨f3, d3, G3, g3, k3, b3⟩ := c3.ex
  obtain ⟨f4, d4, G4, g4, k4, b4⟩ := c4.ex
  obtain ⟨f5, d5, G5, g5, k5, b5⟩ := c5.ex
  obtain ⟨f6, d6, G6, g6, k6, b6⟩ := c6.ex
  obtain ⟨f7, d7, G7, g7, k7, b7⟩ := c7.ex
  obtain ⟨f8, d8, G8, g8, k8, b8⟩ := c8.ex
  obtain ⟨f9, d9, G9, g9, k9, b9⟩ := c9.ex
  obtain ⟨f10, d10, G10, g10, k10, b10⟩ := c10.ex
  refine pure_ok F sc_law (by decide) fun cdv A outer s H E hr => ?_
  exact css_cons (cs_setL (fun h => ps_set (i := 1) sc_law.nd rfl (.inr rfl) h) (cl_call (fun h => pe_call G10 (hr.mono (by decide)) (by rfl) g10 k10 b10 .nil pass0 h) (ca_cons (ce_var (pv 0)) (ca_nil)))) (css_cons (cs_set (fun h => ps_set (i := 2) sc_law.nd rfl (.inr rfl) h) (ce_ix (hub hr (by decide)) (CL.fz (cl_lst (ca_cons (ce_str) (ca_cons (ce_str) (ca_nil))))) (ce_blt blt_int (fun h1 h2 => pe_callTy h1 (by rfl) B.int boot_int h2) (CE.v (ce_cmp (cc_op (op_eqDD (hub hr (by decide))) (ce_callIO (fun h => pe_call G6 (hr.mono (by decide)) (by rfl) g6 k6 b6 .nil pass0 h) (pv 1) (ca_cons (ce_int) (ca_nil))) (CE.v (ce_int))) (nomark _)))) (fun _ _ => rfl) (fun _ _ => rfl))) (css_cons (cs_set (fun h => ps_set (i := 3) sc_law.nd rfl (.inl rfl) h) (ce_callIO (fun h => pe_call G9 (hr.mono (by decide)) (by rfl) g9 k9 b9 .nil pass0 h) (pv 1) (ca_cons (ce_var (pv 2)) (ca_nil)))) (css_cons (cs_set (fun h => ps_set (i := 4) sc_law.nd rfl (.inl rfl) h) (ce_join (ce_str) (CL.v (cl_lc (own := [("turn", 13)]) rfl sc_law.nd (ci_rng1 (fun h => pi_range1 (by rfl) B.range h) (ca_cons (ce_callIO (fun h => pe_call G6 (hr.mono (by decide)) (by rfl) g6 k6 b6 .nil pass0 h) (pv 1) (ca_cons (ce_int) (ca_nil))) (ca_nil))) (blkOk_by (N := n_law) (sc := defScope s_law) (own := [("turn", 13)]) (by decide +kernel)) (fun _ _ _ _ _ => cg_name (pg_name (i := 13) sc_law.nd rfl (.inl rfl))) (fun _ _ _ _ _ => cts_nil) (fun _ _ _ _ _ => ce_ixN (hub hr (by decide)) (pv 2) (ce_callIO (fun h => pe_call G6 (hr.mono (by decide)) (by rfl) g6 k6 b6 .nil pass0 h) (pv 1) (ca_cons (ce_blt blt_len (fun h1 h2 => pe_callB h1 (by rfl) B.len PySem.boot_len h2) (cv_var (pv 2))) (ca_nil))) (fun _ _ => rfl) (fun _ _ => rfl)) (by decide))))) (css_cons (cs_set (fun h => ps_set (i := 5) sc_law.nd rfl (.inl rfl) h) (ce_join (ce_str) (CL.v (cl_lc (own := [("turn", 13)]) rfl sc_law.nd (ci_rng1 (fun h => pi_range1 (by rfl) B.range h) (ca_cons (ce_bin op_addD (ce_int) (CE.v (ce_callIO (fun h => pe_call G6 (hr.mono (by decide)) (by rfl) g6 k6 b6 .nil pass0 h) (pv 1) (ca_cons (ce_int) (ca_nil))))) (ca_nil))) (blkOk_by (N := n_law) (sc := defScope s_law) (own := [("turn", 13)]) (by decide +kernel)) (fun _ _ _ _ _ => cg_name (pg_name (i := 13) sc_law.nd rfl (.inl rfl))) (fun _ _ _ _ _ => cts_nil) (fun _ _ _ _ _ => ce_ixN (hub hr (by decide)) (pv 2) (ce_callIO (fun h => pe_call G6 (hr.mono (by decide)) (by rfl) g6 k6 b6 .nil pass0 h) (pv 1) (ca_cons (ce_blt blt_len (fun h1 h2 => pe_callB h1 (by rfl) B.len PySem.boot_len h2) (cv_var (pv 2))) (ca_nil))) (fun _ _ => rfl) (fun _ _ => rfl)) (by decide))))) (css_cons (cs_if (ct_cmp (cc_op (op_neDD (hub hr (by decide))) (ce_call (fun h => pe_call G8 (hr.mono (by decide)) (by rfl) g8 k8 b8 .nil pass0 h) (ca_cons (ce_var (pv 4)) (ca_cons (ce_var (pv 5)) (ca_nil)))) (CE.v (ce_call (fun h => pe_call G7 (hr.mono (by decide)) (by rfl) g7 k7 b7 .nil pass0 h) (ca_cons (ce_var (pv 4)) (ca_cons (ce_var (pv 5)) (ca_nil)))))) (nomark _)) (css_cons (cs_ret (ce_bl)) (css_nil)) (css_nil)) (css_cons (cs_par (fun h => ps_par (i := 6) (j := 7) rfl sc_law.nd rfl rfl (by decide) rfl rfl h (by rfl)) (CE.n (ce_callIO (fun h => pe_call G6 (hr.mono (by decide)) (by rfl) g6 k6 b6 .nil pass0 h) (pv 1) (ca_cons (ce_int) (ca_nil)))) (CE.n (ce_bin op_addD (ce_int) (CE.v (ce_callIO (fun h => pe_call G6 (hr.mono (by decide)) (by rfl) g6 k6 b6 .nil pass0 h) (pv 1) (ca_cons (ce_int) (ca_nil))))))) (css_cons (cs_set (fun h => ps_set (i := 8) sc_law.nd rfl (.inl rfl) h) (ce_call (fun h => pe_call G5 (hr.mono (by decide)) (by rfl) g5 k5 b5 .nil pass0 h) (ca_cons (ce_var (pv 4)) (ca_cons (ce_var (pv 5)) (ca_cons (ce_int) (ca_nil)))))) (css_cons (cs_set (fun h => ps_set (i := 9) sc_law.nd rfl (.inl rfl) h) (ce_tup (ca_cons (ce_slS (ce_var (pv 8)) (co_no) (co_so (ce_bin op_addD (ce_blt blt_len (fun h1 h2 => pe_callB h1 (by rfl) B.len PySem.boot_len h2) (cv_var (pv 4))) (cv_var (pv 6))))) (ca_cons (ce_slS (ce_var (pv 8)) (co_so (ce_bin op_addD (ce_blt blt_len (fun h1 h2 => pe_callB h1 (by rfl) B.len PySem.boot_len h2) (cv_var (pv 4))) (cv_var (pv 6)))) (co_so (ce_bin op_addD (ce_bin op_addD (ce_blt blt_len (fun h1 h2 => pe_callB h1 (by rfl) B.len PySem.boot_len h2) (cv_var (pv 4))) (cv_var (pv 6))) (CE.v (ce_bin op_mulD (ce_blt blt_len (fun h1 h2 => pe_callB h1 (by rfl) B.len PySem.boot_len h2) (cv_var (pv 5))) (cv_var (pv 7))))))) (ca_nil))))) (css_cons (cs_if (ct_cmp (cc_op (op_eqDD (hub hr (by decide))) (ce_callIO (fun h => pe_call G6 (hr.mono (by decide)) (by rfl) g6 k6 b6 .nil pass0 h) (pv 1) (ca_cons (ce_int) (ca_nil))) (CE.v (ce_int))) (nomark _)) (css_cons (cs_set (fun h => ps_set (i := 9) sc_law.nd rfl (.inl rfl) h) (ce_tup (ca_cons (ce_ixN (hub hr (by decide)) (pv 9) (ce_int) (fun _ _ => rfl) (fun _ _ => rfl)) (ca_cons (ce_bin op_addD (ce_ixN (hub hr (by decide)) (pv 9) (ce_int) (fun _ _ => rfl) (fun _ _ => rfl)) (CE.v (ce_ixN (hub hr (by decide)) (pv 2) (ce_callIO (fun h => pe_call G6 (hr.mono (by decide)) (by rfl) g6 k6 b6 .nil pass0 h) (pv 1) (ca_cons (ce_blt blt_len (fun h1 h2 => pe_callB h1 (by rfl) B.len PySem.boot_len h2) (cv_var (pv 2))) (ca_nil))) (fun _ _ => rfl) (fun _ _ => rfl)))) (ca_nil))))) (css_nil)) (css_nil)) (css_cons (cs_set (fun h => ps_set (i := 10) sc_law.nd rfl (.inl rfl) h) (ce_cmp (cc_op (op_eqDD (hub hr (by decide))) (ce_call (fun h => pe_call G5 (hr.mono (by decide)) (by rfl) g5 k5 b5 .nil pass0 h) (ca_cons (ce_var (pv 4)) (ca_cons (ce_var (pv 5)) (ca_cons (ce_int) (ca_nil))))) (CE.v (ce_call (fun h => pe_call G5 (hr.mono (by decide)) (by rfl) g5 k5 b5 .nil pass0 h) (ca_cons (ce_ixN (hub hr (by decide)) (pv 9) (ce_int) (fun _ _ => rfl) (fun _ _ => rfl)) (ca_cons (ce_ixN (hub hr (by decide)) (pv 9) (ce_int) (fun _ _ => rfl) (fun _ _ => rfl)) (ca_cons (ce_int) (ca_nil))))))) (nomark _))) (css_cons (cs_if (ct_cmp (cc_op (op_neDD (hub hr (by decide))) (ce_call (fun h => pe_call G4 (hr.mono (by decide)) (by rfl) g4 k4 b4 .nil pass0 h) (ca_cons (ce_tup (ca_cons (ce_var (pv 4)) (ca_cons (ce_var (pv 5)) (ca_nil)))) (ca_cons (ce_var (pv 9)) (ca_nil)))) (cv_var (pv 10))) (nomark _)) (css_cons (cs_ret (ce_bl)) (css_nil)) (css_nil)) (css_cons (cs_set (fun h => ps_set (i := 11) sc_law.nd rfl (.inl rfl) h) (ce_call (fun h => pe_call G3 (hr.mono (by decide)) (by rfl) g3 k3 b3 .nil pass0 h) (ca_cons (ce_var (pv 3)) (ca_cons (ce_var (pv 4)) (ca_cons (ce_var (pv 5)) (ca_nil)))))) (css_cons (cs_if (CW.t (cw_or (ct_cmp (cc_opN (op_neDD (hub hr (by decide))) (pv 11) (CE.v (ce_call (fun h => pe_call G0 (hr.mono (by decide)) (by rfl) g0 k0 b0 .nil pass0 h) (ca_cons (ce_var (pv 3)) (ca_cons (ce_var (pv 4)) (ca_cons (ce_var (pv 5)) (ca_nil))))))) (nomark _)) (cw_or1 (CW.t (cw_and (ct_tru (cv_var (pv 10))) (cw_and1 (ct_cmp (cc_op (op_neDD (hub hr (by decide))) (ce_call (fun h => pe_call G3 (hr.mono (by decide)) (by rfl) g3 k3 b3 .nil pass0 h) (ca_cons (ce_var (pv 3)) (ca_cons (ce_ixN (hub hr (by decide)) (pv 9) (ce_int) (fun _ _ => rfl) (fun _ _ => rfl)) (ca_cons (ce_ixN (hub hr (by decide)) (pv 9) (ce_int) (fun _ _ => rfl) (fun _ _ => rfl)) (ca_nil))))) (cv_var (pv 11))) (nomark _)))))))) (css_cons (cs_ret (ce_bl)) (css_nil)) (css_nil)) (css_cons (cs_set (fun h => ps_set (i := 12) sc_law.nd rfl (.inl rfl) h) (ce_call (fun h => pe_call G2 (hr.mono (by decide)) (by rfl) g2 k2 b2 .nil pass0 h) (ca_cons (ce_var (pv 3)) (ca_nil)))) (css_cons (cs_if (ct_cmp (cc_opN (op_neDD (hub hr (by decide))) (pv 12) (CE.v (ce_call (fun h => pe_call G1 (hr.mono (by decide)) (by rfl) g1 k1 b1 .nil pass0 h) (ca_cons (ce_var (pv 3)) (ca_nil))))) (nomark _)) (css_cons (cs_ret (ce_bl)) (css_nil)) (css_nil)) (css_cons (cs_ret (ce_or (ce_and (ce_cmp (cc_op (op_eqDD (hub hr (by decide))) (ce_ixN (hub hr (by decide)) (pv 12) (ce_int) (fun _ _ => rfl) (fun _ _ => rfl)) (CE.v (ce_str))) (nomark _)) (ce_one (ce_call (fun h => pe_call G0 (hr.mono (by decide)) (by rfl) g0 k0 b0 .nil pass0 h) (ca_cons (ce_var (pv 3)) (ca_cons (ce_ixN (hub hr (by decide)) (pv 12) (ce_int) (fun _ _ => rfl) (fun _ _ => rfl)) (ca_cons (ce_ixN (hub hr (by decide)) (pv 12) (ce_int) (fun _ _ => rfl) (fun _ _ => rfl)) (ca_nil))))))) (ce_one (ce_and (ce_cmp (cc_op (op_eqDD (hub hr (by decide))) (ce_ixN (hub hr (by decide)) (pv 12) (ce_int) (fun _ _ => rfl) (fun _ _ => rfl)) (CE.v (ce_str))) (nomark _)) (ce_one (ce_not (ce_var (pv 11)))))))) (css_nil)))))))))))))))))
end
end K63

namespace K63
open PySem PySem.Spec PyProof.Rows L2 DL
section
variable {P : Program} {w : World} {K : PySem.W.Frag} {mg : Str → Option Value} {base : Heap}
theorem ok_law_automaton {f : Addr} {fd : FuncData} (B : BF mg) (F : Fun K "_law_automaton" "_law_automaton" s_law_automaton f fd) (gf : mg "_law_automaton" = some (.ref f)) (bd : Binds K fd ["c", "letters"] []) (c0 : Cal P w K mg base "_law_take" 2 ["c", "many"] (InOut K f_law_take)) : Cal P w K mg base "_law_automaton" 3 ["c", "letters"] (InOut K f_law_automaton) := by
  obtain ⟨f0, d0, G0, g0, k0, b0⟩ := c0.ex
  refine ⟨f, fd, io_ok F sc_law_automaton (by decide) fun cdv A outer s H E hr => ?_, gf, F.kp, bd⟩
  exact css_cons (cs_set (fun h => ps_set (i := 2) sc_law_automaton.nd rfl (.inr rfl) h) (ce_bin op_addD (ce_int) (CE.v (ce_callIO (fun h => pe_call G0 (hr.mono (by decide)) (by rfl) g0 k0 b0 .nil pass0 h) (pv 0) (ca_cons (ce_int) (ca_nil)))))) (css_cons (cs_lc (own := [("turn", 7)]) (i := 3) rfl sc_law_automaton.nd rfl rfl (sw_true rfl rfl rfl (by decide +kernel)) (ci_rng1 (fun h => pi_range1 (by rfl) B.range h) (ca_cons (ce_callIO (fun h => pe_call G0 (hr.mono (by decide)) (by rfl) g0 k0 b0 .nil pass0 h) (pv 0) (ca_cons (ce_bin op_mulD (ce_int) (cv_var (pv 2))) (ca_nil))) (ca_nil))) (blkOk_by (N := n_law_automaton) (sc := defScope s_law_automaton) (own := [("turn", 7)]) (by decide +kernel)) (fun _ _ _ _ _ => cg_name (pg_name (i := 7) sc_law_automaton.nd rfl (.inl rfl))) (fun _ _ _ _ _ => cts_nil) (fun _ _ _ _ _ => ce_tup (ca_cons (ce_callIO (fun h => pe_call G0 (hr.mono (by decide)) (by rfl) g0 k0 b0 .nil pass0 h) (pv 0) (ca_cons (ce_var (pv 2)) (ca_nil))) (ca_cons (ce_ixN (hub hr (by decide)) (pv 1) (ce_callIO (fun h => pe_call G0 (hr.mono (by decide)) (by rfl) g0 k0 b0 .nil pass0 h) (pv 0) (ca_cons (ce_blt blt_len (fun h1 h2 => pe_callB h1 (by rfl) B.len PySem.boot_len h2) (cv_var (pv 1))) (ca_nil))) (fun _ _ => rfl) (fun _ _ => rfl)) (ca_cons (ce_callIO (fun h => pe_call G0 (hr.mono (by decide)) (by rfl) g0 k0 b0 .nil pass0 h) (pv 0) (ca_cons (ce_var (pv 2)) (ca_nil))) (ca_nil))))) (by decide)) (css_cons (cs_if (ct_cmp (cc_op (op_eqDD (hub hr (by decide))) (ce_callIO (fun h => pe_call G0 (hr.mono (by decide)) (by rfl) g0 k0 b0 .nil pass0 h) (pv 0) (ca_cons (ce_int) (ca_nil))) (CE.v (ce_int))) (nomark _)) (css_cons (cs_for (fun h1 h2 h3 => ps_for PassesOwn.never rfl h1 h2 h3) (ci_rng1 (fun h => pi_range1 (by rfl) B.range h) (ca_cons (ce_var (pv 2)) (ca_nil))) (cg_name (pg_name (i := 4) sc_law_automaton.nd rfl (.inr rfl))) (css_cons (cs_setL (fun h => ps_set (i := 3) sc_law_automaton.nd rfl (.inl rfl) h) (cl_catN (pv 3) (CL.v (cl_lc (own := [("letter", 8)]) rfl sc_law_automaton.nd (ci_any (ce_var (pv 1))) (blkOk_by (N := n_law_automaton) (sc := defScope s_law_automaton) (own := [("letter", 8)]) (by decide +kernel)) (fun _ _ _ _ _ => cg_name (pg_name (i := 8) sc_law_automaton.nd rfl (.inl rfl))) (fun _ _ _ _ _ => cts_nil) (fun _ _ _ _ _ => ce_tup (ca_cons (ce_var (pv 4)) (ca_cons (ce_var (pv 8)) (ca_cons (ce_callIO (fun h => pe_call G0 (hr.mono (by decide)) (by rfl) g0 k0 b0 .nil pass0 h) (pv 0) (ca_cons (ce_var (pv 2)) (ca_nil))) (ca_nil))))) (by decide))))) (css_nil))) (css_nil)) (css_nil)) (css_cons (cs_set (fun h => ps_set (i := 5) sc_law_automaton.nd rfl (.inl rfl) h) (ce_or (CL.fz (cl_lc (own := [("state", 4)]) rfl sc_law_automaton.nd (ci_rng1 (fun h => pi_range1 (by rfl) B.range h) (ca_cons (ce_var (pv 2)) (ca_nil))) (blkOk_by (N := n_law_automaton) (sc := defScope s_law_automaton) (own := [("state", 4)]) (by decide +kernel)) (fun _ _ _ _ _ => cg_name (pg_name (i := 4) sc_law_automaton.nd rfl (.inl rfl))) (fun _ _ _ _ _ => cts_one (ct_cmp (cc_op (op_eqDD (hub hr (by decide))) (ce_callIO (fun h => pe_call G0 (hr.mono (by decide)) (by rfl) g0 k0 b0 .nil pass0 h) (pv 0) (ca_cons (ce_int) (ca_nil))) (CE.v (ce_int))) (nomark _))) (fun _ _ _ _ _ => ce_var (pv 4)) (by decide))) (ce_one (CL.fz (cl_lst (ca_cons (ce_int) (ca_nil))))))) (css_cons (cs_lc (own := [("state", 4)]) (i := 6) rfl sc_law_automaton.nd rfl rfl (sw_true rfl rfl rfl (by decide +kernel)) (ci_rng1 (fun h => pi_range1 (by rfl) B.range h) (ca_cons (ce_var (pv 2)) (ca_nil))) (blkOk_by (N := n_law_automaton) (sc := defScope s_law_automaton) (own := [("state", 4)]) (by decide +kernel)) (fun _ _ _ _ _ => cg_name (pg_name (i := 4) sc_law_automaton.nd rfl (.inl rfl))) (fun _ _ _ _ _ => cts_one (ct_cmp (cc_op (op_eqDD (hub hr (by decide))) (ce_callIO (fun h => pe_call G0 (hr.mono (by decide)) (by rfl) g0 k0 b0 .nil pass0 h) (pv 0) (ca_cons (ce_int) (ca_nil))) (CE.v (ce_int))) (nomark _))) (fun _ _ _ _ _ => ce_var (pv 4)) (by decide)) (css_cons (cs_ret (ce_tup (ca_cons (ce_var (pv 2)) (ca_cons (ce_var (pv 1)) (ca_cons (ce_blt blt_tuple (fun h1 h2 => pe_callTy h1 (by rfl) B.tuple boot_tuple h2) (cv_var (pv 5))) (ca_cons (ce_blt blt_tuple (fun h1 h2 => pe_callTy h1 (by rfl) B.tuple boot_tuple h2) (CL.v (cl_sortSet rfl (hub hr (by decide)) (fun h1 h2 => pe_callB h1 (by rfl) B.sorted boot_sorted h2) (fun h1 h2 => pe_callTy h1 (by rfl) B.set_ boot_set h2) (cv_var (pv 3))))) (ca_cons (ce_blt blt_tuple (fun h1 h2 => pe_callTy h1 (by rfl) B.tuple boot_tuple h2) (cv_var (pv 6))) (ca_nil)))))))) (css_nil))))))
end
end K63

namespace K63
open PySem PySem.Spec PyProof.Rows L2 DL
section
variable {P : Program} {w : World} {K : PySem.W.Frag} {mg : Str → Option Value} {base : Heap}
theorem ok_law_behind {f : Addr} {fd : FuncData} (B : BF mg) (F : Fun K "_law_behind" "_law_behind" s_law_behind f fd) (gf : mg "_law_behind" = some (.ref f)) (bd : Binds K fd ["automaton", "word"] []) (c0 : Cal P w K mg base "_law_led" 1 ["automaton", "states", "letter"] (Pure K f_law_led)) : Cal P w K mg base "_law_behind" 2 ["automaton", "word"] (Pure K f_law_behind) := by
  obtain ⟨f0, d0, G0, g0, k0, b0⟩ := c0.ex
  refine ⟨f, fd, pure_ok F sc_law_behind (by decide) fun cdv A outer s H E hr => ?_, gf, F.kp, bd⟩
  exact css_cons (cs_set (fun h => ps_set (i := 2) sc_law_behind.nd rfl (.inl rfl) h) (ce_ixN (hub hr (by decide)) (pv 0) (ce_int) (fun _ _ => rfl) (fun _ _ => rfl))) (css_cons (cs_for (fun h1 h2 h3 => ps_for PassesOwn.never rfl h1 h2 h3) (ci_any (ce_var (pv 1))) (cg_name (pg_name (i := 3) sc_law_behind.nd rfl (.inl rfl))) (css_cons (cs_set (fun h => ps_set (i := 2) sc_law_behind.nd rfl (.inl rfl) h) (ce_call (fun h => pe_call G0 (hr.mono (by decide)) (by rfl) g0 k0 b0 .nil pass0 h) (ca_cons (ce_var (pv 0)) (ca_cons (ce_var (pv 2)) (ca_cons (ce_var (pv 3)) (ca_nil)))))) (css_nil))) (css_cons (cs_ret (ce_var (pv 2))) (css_nil)))
end
end K63

namespace K63
open PySem PySem.Spec PyProof.Rows L2 DL
section
variable {P : Program} {w : World} {K : PySem.W.Frag} {mg : Str → Option Value} {base : Heap}
theorem ok_law_fill {f : Addr} {fd : FuncData} (B : BF mg) (F : Fun K "_law_fill" "_law_fill" s_law_fill f fd) (gf : mg "_law_fill" = some (.ref f)) (bd : Binds K fd ["c"] []) : Cal P w K mg base "_law_fill" 1 ["c"] (InOut K f_law_fill) := by
  refine ⟨f, fd, io_ok F sc_law_fill (by decide) fun cdv A outer s H E hr => ?_, gf, F.kp, bd⟩
  exact css_cons (cs_put (fun h1 h2 => ps_asg h2 (pg_sub (pv 0) h1 set_list (fun _ => rfl))) (fun h1 h2 => ps_dput (hub hr (by decide)) (pv 0) h1 h2 rfl) (ce_int) (ce_bin op_addD (ce_ixN (hub hr (by decide)) (pv 0) (ce_int) (fun _ _ => rfl) (fun _ _ => rfl)) (CE.v (ce_int)))) (css_cons (cs_set (fun h => ps_set (i := 1) sc_law_fill.nd rfl (.inl rfl) h) (ce_bin op_addD (ce_bin op_mulD (ce_ixN (hub hr (by decide)) (pv 0) (ce_int) (fun _ _ => rfl) (fun _ _ => rfl)) (CE.v (ce_int))) (CE.v (ce_int)))) (css_cons (cs_if (ct_cmp (cc_op (op_ltDD (hub hr (by decide))) (ce_ixN (hub hr (by decide)) (pv 0) (ce_int) (fun _ _ => rfl) (fun _ _ => rfl)) (CE.v (ce_blt blt_len (fun h1 h2 => pe_callB h1 (by rfl) B.len PySem.boot_len h2) (CE.v (ce_ixN (hub hr (by decide)) (pv 0) (ce_int) (fun _ _ => rfl) (fun _ _ => rfl)))))) (nomark _)) (css_cons (cs_set (fun h => ps_set (i := 1) sc_law_fill.nd rfl (.inl rfl) h) (ce_max2 rfl (fun h1 h2 => pe_callB h1 (by rfl) B.max_ boot_max h2) (ca_cons (ce_ix (hub hr (by decide)) (ce_ixN (hub hr (by decide)) (pv 0) (ce_int) (fun _ _ => rfl) (fun _ _ => rfl)) (ce_ixN (hub hr (by decide)) (pv 0) (ce_int) (fun _ _ => rfl) (fun _ _ => rfl)) (fun _ _ => rfl) (fun _ _ => rfl)) (ca_cons (ce_bin op_subD (ce_bin op_subD (ce_int) (CE.v (ce_int))) (CE.v (ce_ix (hub hr (by decide)) (ce_ixN (hub hr (by decide)) (pv 0) (ce_int) (fun _ _ => rfl) (fun _ _ => rfl)) (ce_ixN (hub hr (by decide)) (pv 0) (ce_int) (fun _ _ => rfl) (fun _ _ => rfl)) (fun _ _ => rfl) (fun _ _ => rfl)))) (ca_nil))))) (css_cons (cs_put (fun h1 h2 => ps_asg h2 (pg_sub (pv 0) h1 set_list (fun _ => rfl))) (fun h1 h2 => ps_dput (hub hr (by decide)) (pv 0) h1 h2 rfl) (ce_int) (ce_bin op_addD (ce_ixN (hub hr (by decide)) (pv 0) (ce_int) (fun _ _ => rfl) (fun _ _ => rfl)) (CE.v (ce_int)))) (css_cons (cs_if (ct_cmp (cc_opN op_geD (pv 1) (CE.v (ce_bin op_powD (ce_int) (CE.v (ce_int))))) (nomark _)) (css_cons (cs_ret (ce_var (pv 1))) (css_nil)) (css_nil)) (css_nil)))) (css_nil)) (css_cons (cs_if (CW.t (cw_and (ct_tru (CE.v (ce_ixN (hub hr (by decide)) (pv 0) (ce_int) (fun _ _ => rfl) (fun _ _ => rfl)))) (cw_and1 (ct_cmp (cc_op op_geD (ce_ixN (hub hr (by decide)) (pv 0) (ce_int) (fun _ _ => rfl) (fun _ _ => rfl)) (CE.v (ce_blt blt_len (fun h1 h2 => pe_callB h1 (by rfl) B.len PySem.boot_len h2) (CE.v (ce_ixN (hub hr (by decide)) (pv 0) (ce_int) (fun _ _ => rfl) (fun _ _ => rfl)))))) (nomark _))))) (css_cons (cs_set (fun h => ps_set (i := 1) sc_law_fill.nd rfl (.inl rfl) h) (ce_binN op_addD (pv 1) (CE.v (ce_bin op_modD (ce_blt blt_int (fun h1 h2 => pe_callTy h1 (by rfl) B.int boot_int h2) (CE.v (ce_ix (hub hr (by decide)) (ce_ixN (hub hr (by decide)) (pv 0) (ce_int) (fun _ _ => rfl) (fun _ _ => rfl)) (ce_neg) (fun _ _ => rfl) (fun _ _ => rfl)))) (CE.v (ce_int)))))) (css_nil)) (css_nil)) (css_cons (cs_set (fun h => ps_set (i := 1) sc_law_fill.nd rfl (.inl rfl) h) (ce_bin op_modD (ce_blt blt_int (fun h1 h2 => pe_callTy h1 (by rfl) B.int boot_int h2) (CE.v (ce_bin op_addD (ce_binN op_mulD (pv 1) (CE.v (ce_int))) (CE.v (ce_bin op_mulD (ce_ixN (hub hr (by decide)) (pv 0) (ce_int) (fun _ _ => rfl) (fun _ _ => rfl)) (CE.v (ce_int))))))) (CE.v (ce_int)))) (css_cons (cs_ret (ce_bin op_addD (ce_bin op_fdivD (ce_blt blt_int (fun h1 h2 => pe_callTy h1 (by rfl) B.int boot_int h2) (CE.v (ce_bin op_addD (ce_bin op_addD (ce_binN op_mulD (pv 1) (cv_var (pv 1))) (CE.v (ce_bin op_mulD (ce_ixN (hub hr (by decide)) (pv 0) (ce_int) (fun _ _ => rfl) (fun _ _ => rfl)) (CE.v (ce_int))))) (CE.v (ce_int))))) (CE.v (ce_int))) (CE.v (ce_int)))) (css_nil))))))
end
end K63

namespace K63
open PySem PySem.Spec PyProof.Rows L2 DL
section
variable {P : Program} {w : World} {K : PySem.W.Frag} {mg : Str → Option Value} {base : Heap}
theorem ok_law_first {f : Addr} {fd : FuncData} (B : BF mg) (F : Fun K "_law_first" "_law_first" s_law_first f fd) (gf : mg "_law_first" = some (.ref f)) (bd : Binds K fd ["automaton", "states", "goals", "least"] []) (c0 : Cal P w K mg base "_law_led" 1 ["automaton", "states", "letter"] (Pure K f_law_led)) : Cal P w K mg base "_law_first" 2 ["automaton", "states", "goals", "least"] (Pure K f_law_first) := by
  obtain ⟨f0, d0, G0, g0, k0, b0⟩ := c0.ex
  refine ⟨f, fd, pure_ok F sc_law_first (by decide) fun cdv A outer s H E hr => ?_, gf, F.kp, bd⟩
  exact css_cons (cs_par (fun h => ps_par (i := 4) (j := 5) rfl sc_law_first.nd rfl rfl (by decide) rfl rfl h (by rfl)) (CL.n (cl_lst (ca_cons (ce_tup (ca_cons (ce_str) (ca_cons (ce_var (pv 1)) (ca_nil)))) (ca_nil)))) (CDT.n (cdt_new))) (css_cons (cs_for (fun h1 h2 h3 => ps_for PassesOwn.never rfl h1 h2 h3) (ci_rng1 (fun h => pi_range1 (by rfl) B.range h) (ca_cons (ce_int) (ca_nil))) (cg_name (pg_name (i := 6) sc_law_first.nd rfl (.inl rfl))) (css_cons (cs_setL (fun h => ps_set (i := 7) sc_law_first.nd rfl (.inl rfl) h) (cl_lst (ca_nil))) (css_cons (cs_for (fun h1 h2 h3 => ps_for PassesOwn.never rfl h1 h2 h3) (ci_any (ce_var (pv 4))) (cg_tup rfl (cgs_cons (cg_name (pg_name (i := 8) sc_law_first.nd rfl (.inl rfl))) (cgs_cons (cg_name (pg_name (i := 9) sc_law_first.nd rfl (.inl rfl))) (cgs_nil)))) (css_cons (cs_if (CW.t (cw_and (ct_cmp (cc_op op_geD (ce_blt blt_len (fun h1 h2 => pe_callB h1 (by rfl) B.len PySem.boot_len h2) (cv_var (pv 8))) (cv_var (pv 3))) (nomark _)) (cw_and1 (ct_tru (CE.v (ce_blt (blt_any rfl) (fun h1 h2 => pe_callB h1 (by rfl) B.any_ boot_any h2) (CL.v (cl_lc (own := [("state", 12)]) rfl sc_law_first.nd (ci_any (ce_var (pv 9))) (blkOk_by (N := n_law_first) (sc := defScope s_law_first) (own := [("state", 12)]) (by decide +kernel)) (fun _ _ _ _ _ => cg_name (pg_name (i := 12) sc_law_first.nd rfl (.inl rfl))) (fun _ _ _ _ _ => cts_nil) (fun _ _ _ _ _ => ce_cmp (cc_in (hub hr (by decide)) (ce_var (pv 12)) (cv_var (pv 2))) rfl) (by decide))))))))) (css_cons (cs_ret (ce_var (pv 8))) (css_nil)) (css_nil)) (css_cons (cs_for (fun h1 h2 h3 => ps_for PassesOwn.never rfl h1 h2 h3) (ci_any (ce_ixN (hub hr (by decide)) (pv 0) (ce_int) (fun _ _ => rfl) (fun _ _ => rfl))) (cg_name (pg_name (i := 10) sc_law_first.nd rfl (.inl rfl))) (css_cons (cs_set (fun h => ps_set (i := 11) sc_law_first.nd rfl (.inl rfl) h) (ce_call (fun h => pe_call G0 (hr.mono (by decide)) (by rfl) g0 k0 b0 .nil pass0 h) (ca_cons (ce_var (pv 0)) (ca_cons (ce_var (pv 9)) (ca_cons (ce_var (pv 10)) (ca_nil)))))) (css_cons (cs_if (ct_cmp (cc_notIn (hub hr (by decide)) (ce_var (pv 11)) (cv_var (pv 5))) rfl) (css_cons (cs_put (fun h1 h2 => ps_asg h2 (pg_sub (pv 5) h1 set_list (fun _ => rfl))) (fun h1 h2 => ps_dput (hub hr (by decide)) (pv 5) h1 h2 rfl) (ce_var (pv 11)) (ce_bl)) (css_cons (cs_append (fun h => ps_expr (pe_bm PySem.F.plainAttrs_list PySem.F.slot_list_append PySem.F.type_list_append mt_append (pv 7) (pa_cons h pa_nil))) (ce_tup (ca_cons (ce_binN op_addD (pv 8) (cv_var (pv 10))) (ca_cons (ce_var (pv 11)) (ca_nil))))) (css_nil))) (css_nil)) (css_nil)))) (css_nil)))) (css_cons (cs_set (fun h => ps_set (i := 4) sc_law_first.nd rfl (.inl rfl) h) (ce_var (pv 7))) (css_nil))))) (css_cons (cs_ret (ce_non)) (css_nil)))
end
end K63

namespace K63
open PySem PySem.Spec PyProof.Rows L2 DL
section
variable {P : Program} {w : World} {K : PySem.W.Frag} {mg : Str → Option Value} {base : Heap}
theorem ok_law_infinite {f : Addr} {fd : FuncData} (B : BF mg) (F : Fun K "_law_infinite" "_law_infinite" s_law_infinite f fd) (gf : mg "_law_infinite" = some (.ref f)) (bd : Binds K fd ["u", "v", "many"] []) : Cal P w K mg base "_law_infinite" 1 ["u", "v", "many"] (Pure K f_law_infinite) := by
  refine ⟨f, fd, pure_ok F sc_law_infinite (by decide) fun cdv A outer s H E hr => ?_, gf, F.kp, bd⟩
  exact css_cons (cs_ret (ce_slS (ce_binN op_addD (pv 0) (CE.v (ce_binN op_mulD (pv 1) (cv_var (pv 2))))) (co_no) (co_so (ce_var (pv 2))))) (css_nil)
end
end K63

namespace K63
open PySem PySem.Spec PyProof.Rows L2 DL
section
variable {P : Program} {w : World} {K : PySem.W.Frag} {mg : Str → Option Value} {base : Heap}
theorem ok_law_least_lasso {f : Addr} {fd : FuncData} (B : BF mg) (F : Fun K "_law_least_lasso" "_law_least_lasso" s_law_least_lasso f fd) (gf : mg "_law_least_lasso" = some (.ref f)) (bd : Binds K fd ["u", "v"] []) (c0 : Cal P w K mg base "_law_infinite" 1 ["u", "v", "many"] (Pure K f_law_infinite)) : Cal P w K mg base "_law_least_lasso" 2 ["u", "v"] (Pure K f_law_least_lasso) := by
  obtain ⟨f0, d0, G0, g0, k0, b0⟩ := c0.ex
  refine ⟨f, fd, pure_ok F sc_law_least_lasso (by decide) fun cdv A outer s H E hr => ?_, gf, F.kp, bd⟩
  exact css_cons (cs_set (fun h => ps_set (i := 2) sc_law_least_lasso.nd rfl (.inr rfl) h) (ce_call (fun h => pe_call G0 (hr.mono (by decide)) (by rfl) g0 k0 b0 .nil pass0 h) (ca_cons (ce_var (pv 0)) (ca_cons (ce_var (pv 1)) (ca_cons (ce_int) (ca_nil)))))) (css_cons (cs_for (fun h1 h2 h3 => ps_for PassesOwn.never rfl h1 h2 h3) (ci_rng2 (fun h => pi_range2 (by rfl) B.range h) (ca_cons (ce_int) (ca_cons (ce_bin op_addD (ce_blt blt_len (fun h1 h2 => pe_callB h1 (by rfl) B.len PySem.boot_len h2) (cv_var (pv 1))) (CE.v (ce_int))) (ca_nil)))) (cg_name (pg_name (i := 3) sc_law_least_lasso.nd rfl (.inr rfl))) (css_cons (cs_for (fun h1 h2 h3 => ps_for PassesOwn.never rfl h1 h2 h3) (ci_rng1 (fun h => pi_range1 (by rfl) B.range h) (ca_cons (ce_bin op_addD (ce_blt blt_len (fun h1 h2 => pe_callB h1 (by rfl) B.len PySem.boot_len h2) (cv_var (pv 0))) (CE.v (ce_int))) (ca_nil))) (cg_name (pg_name (i := 4) sc_law_least_lasso.nd rfl (.inl rfl))) (css_cons (cs_if (ct_tru (CE.v (ce_blt (blt_all rfl) (fun h1 h2 => pe_callB h1 (by rfl) B.all_ boot_all h2) (CL.v (cl_lc (own := [("k", 5)]) rfl sc_law_least_lasso.nd (ci_rng2 (fun h => pi_range2 (by rfl) B.range h) (ca_cons (ce_var (pv 4)) (ca_cons (ce_bin op_subD (ce_int) (cv_var (pv 3))) (ca_nil)))) (blkOk_by (N := n_law_least_lasso) (sc := defScope s_law_least_lasso) (own := [("k", 5)]) (by decide +kernel)) (fun _ _ _ _ _ => cg_name (pg_name (i := 5) sc_law_least_lasso.nd rfl (.inl rfl))) (fun _ _ _ _ _ => cts_nil) (fun _ _ _ _ _ => ce_cmp (cc_op (op_eqDD (hub hr (by decide))) (ce_ixN (hub hr (by decide)) (pv 2) (ce_var (pv 5)) (fun _ _ => rfl) (fun _ _ => rfl)) (CE.v (ce_ixN (hub hr (by decide)) (pv 2) (ce_binN op_addD (pv 5) (cv_var (pv 3))) (fun _ _ => rfl) (fun _ _ => rfl)))) (nomark _)) (by decide)))))) (css_cons (cs_ret (ce_tup (ca_cons (ce_slS (ce_var (pv 2)) (co_no) (co_so (ce_var (pv 4)))) (ca_cons (ce_slS (ce_var (pv 2)) (co_so (ce_var (pv 4))) (co_so (ce_binN op_addD (pv 4) (cv_var (pv 3))))) (ca_nil))))) (css_nil)) (css_nil)) (css_nil))) (css_nil))) (css_cons (cs_ret (ce_non)) (css_nil)))
end
end K63

namespace K63
open PySem PySem.Spec PyProof.Rows L2 DL
section
variable {P : Program} {w : World} {K : PySem.W.Frag} {mg : Str → Option Value} {base : Heap}
theorem ok_law_led {f : Addr} {fd : FuncData} (B : BF mg) (F : Fun K "_law_led" "_law_led" s_law_led f fd) (gf : mg "_law_led" = some (.ref f)) (bd : Binds K fd ["automaton", "states", "letter"] []) : Cal P w K mg base "_law_led" 1 ["automaton", "states", "letter"] (Pure K f_law_led) := by
  refine ⟨f, fd, pure_ok F sc_law_led (by decide) fun cdv A outer s H E hr => ?_, gf, F.kp, bd⟩
  exact css_cons (cs_lc (own := [("edge", 4)]) (i := 3) rfl sc_law_led.nd rfl rfl (sw_true rfl rfl rfl (by decide +kernel)) (ci_any (ce_ixN (hub hr (by decide)) (pv 0) (ce_int) (fun _ _ => rfl) (fun _ _ => rfl))) (blkOk_by (N := n_law_led) (sc := defScope s_law_led) (own := [("edge", 4)]) (by decide +kernel)) (fun _ _ _ _ _ => cg_name (pg_name (i := 4) sc_law_led.nd rfl (.inl rfl))) (fun _ _ _ _ _ => cts_one (CW.t (cw_and (ct_cmp (cc_op (op_eqDD (hub hr (by decide))) (ce_ixN (hub hr (by decide)) (pv 4) (ce_int) (fun _ _ => rfl) (fun _ _ => rfl)) (cv_var (pv 2))) (nomark _)) (cw_and1 (ct_cmp (cc_in (hub hr (by decide)) (ce_ixN (hub hr (by decide)) (pv 4) (ce_int) (fun _ _ => rfl) (fun _ _ => rfl)) (cv_var (pv 1))) rfl))))) (fun _ _ _ _ _ => ce_ixN (hub hr (by decide)) (pv 4) (ce_int) (fun _ _ => rfl) (fun _ _ => rfl)) (by decide)) (css_cons (cs_ret (ce_blt blt_tuple (fun h1 h2 => pe_callTy h1 (by rfl) B.tuple boot_tuple h2) (CL.v (cl_sortSet rfl (hub hr (by decide)) (fun h1 h2 => pe_callB h1 (by rfl) B.sorted boot_sorted h2) (fun h1 h2 => pe_callTy h1 (by rfl) B.set_ boot_set h2) (cv_var (pv 3)))))) (css_nil))
end
end K63

namespace K63
open PySem PySem.Spec PyProof.Rows L2 DL
section
variable {P : Program} {w : World} {K : PySem.W.Frag} {mg : Str → Option Value} {base : Heap}
theorem ok_law_reads_lasso {f : Addr} {fd : FuncData} (B : BF mg) (F : Fun K "_law_reads_lasso" "_law_reads_lasso" s_law_reads_lasso f fd) (gf : mg "_law_reads_lasso" = some (.ref f)) (bd : Binds K fd ["automaton", "u", "v"] []) (c0 : Cal P w K mg base "_law_behind" 2 ["automaton", "word"] (Pure K f_law_behind)) : Cal P w K mg base "_law_reads_lasso" 3 ["automaton", "u", "v"] (Pure K f_law_reads_lasso) := by
  obtain ⟨f0, d0, G0, g0, k0, b0⟩ := c0.ex
  refine ⟨f, fd, pure_ok F sc_law_reads_lasso (by decide) fun cdv A outer s H E hr => ?_, gf, F.kp, bd⟩
  exact css_cons (cs_par (fun h => ps_par (i := 3) (j := 4) rfl sc_law_reads_lasso.nd rfl rfl (by decide) rfl rfl h (by rfl)) (CE.n (ce_ixN (hub hr (by decide)) (pv 0) (ce_int) (fun _ _ => rfl) (fun _ _ => rfl))) (CE.n (ce_ixN (hub hr (by decide)) (pv 0) (ce_int) (fun _ _ => rfl) (fun _ _ => rfl)))) (css_cons (cs_setK (fun h => ps_set (i := 5) sc_law_reads_lasso.nd rfl (.inr rfl) h) (cdk_new)) (css_cons (cs_for (fun h1 h2 h3 => ps_for PassesOwn.never rfl h1 h2 h3) (ci_rng1 (fun h => pi_range1 (by rfl) B.range h) (ca_cons (ce_var (pv 3)) (ca_nil))) (cg_name (pg_name (i := 6) sc_law_reads_lasso.nd rfl (.inl rfl))) (css_cons (cs_setT (fun h => ps_set (i := 7) sc_law_reads_lasso.nd rfl (.inl rfl) h) (cdt_disp (hub0 hr) (ce_tup (ca_cons (ce_var (pv 6)) (ca_cons (ce_int) (ca_nil)))) (ce_bl))) (css_cons (cs_for (fun h1 h2 h3 => ps_for PassesOwn.never rfl h1 h2 h3) (ci_any (ce_var (pv 2))) (cg_name (pg_name (i := 8) sc_law_reads_lasso.nd rfl (.inl rfl))) (css_cons (cs_setL (fun h => ps_set (i := 9) sc_law_reads_lasso.nd rfl (.inl rfl) h) (cl_lst (ca_nil))) (css_cons (cs_for (fun h1 h2 h3 => ps_for PassesOwn.never rfl h1 h2 h3) (ci_any (ce_ixN (hub hr (by decide)) (pv 0) (ce_int) (fun _ _ => rfl) (fun _ _ => rfl))) (cg_name (pg_name (i := 10) sc_law_reads_lasso.nd rfl (.inl rfl))) (css_cons (cs_for (fun h1 h2 h3 => ps_for PassesOwn.never rfl h1 h2 h3) (ci_rng1 (fun h => pi_range1 (by rfl) B.range h) (ca_cons (ce_int) (ca_nil))) (cg_name (pg_name (i := 11) sc_law_reads_lasso.nd rfl (.inr rfl))) (css_cons (cs_if (CW.t (cw_and (ct_cmp (cc_op (op_eqDD (hub hr (by decide))) (ce_ixN (hub hr (by decide)) (pv 10) (ce_int) (fun _ _ => rfl) (fun _ _ => rfl)) (cv_var (pv 8))) (nomark _)) (cw_and1 (ct_cmp (cc_in (hub hr (by decide)) (ce_tup (ca_cons (ce_ixN (hub hr (by decide)) (pv 10) (ce_int) (fun _ _ => rfl) (fun _ _ => rfl)) (ca_cons (ce_var (pv 11)) (ca_nil)))) (cv_var (pv 7))) rfl)))) (css_cons (cs_append (fun h => ps_expr (pe_bm PySem.F.plainAttrs_list PySem.F.slot_list_append PySem.F.type_list_append mt_append (pv 9) (pa_cons h pa_nil))) (ce_tup (ca_cons (ce_ixN (hub hr (by decide)) (pv 10) (ce_int) (fun _ _ => rfl) (fun _ _ => rfl)) (ca_cons (ce_max2 rfl (fun h1 h2 => pe_callB h1 (by rfl) B.max_ boot_max h2) (ca_cons (ce_var (pv 11)) (ca_cons (ce_blt blt_int (fun h1 h2 => pe_callTy h1 (by rfl) B.int boot_int h2) (CE.v (ce_cmp (cc_in (hub hr (by decide)) (ce_ixN (hub hr (by decide)) (pv 10) (ce_int) (fun _ _ => rfl) (fun _ _ => rfl)) (cv_var (pv 4))) rfl))) (ca_nil)))) (ca_nil))))) (css_nil)) (css_nil)) (css_nil))) (css_nil))) (css_cons (cs_setT (fun h => ps_set (i := 7) sc_law_reads_lasso.nd rfl (.inl rfl) h) (cdt_dict rfl (hub hr (by decide)) (fun h1 h2 => pe_callTy h1 (by rfl) B.dict boot_dict h2) (CL.v (cl_lc (own := [("one", 12)]) rfl sc_law_reads_lasso.nd (ci_any (ce_var (pv 9))) (blkOk_by (N := n_law_reads_lasso) (sc := defScope s_law_reads_lasso) (own := [("one", 12)]) (by decide +kernel)) (fun _ _ _ _ _ => cg_name (pg_name (i := 12) sc_law_reads_lasso.nd rfl (.inl rfl))) (fun _ _ _ _ _ => cts_nil) (fun _ _ _ _ _ => ce_tup (ca_cons (ce_var (pv 12)) (ca_cons (ce_bl) (ca_nil)))) (by decide))))) (css_nil))))) (css_cons (cs_put (fun h1 h2 => ps_asg h2 (pg_sub (pv 5) h1 set_list (fun _ => rfl))) (fun h1 h2 => ps_dput (hub hr (by decide)) (pv 5) h1 h2 rfl) (ce_var (pv 6)) (CL.fz (cl_blt (blt_sorted rfl (hub hr (by decide))) (fun h1 h2 => pe_callB h1 (by rfl) B.sorted boot_sorted h2) (cv_var (pv 7))))) (css_nil))))) (css_cons (cs_setL (fun h => ps_set (i := 13) sc_law_reads_lasso.nd rfl (.inr rfl) h) (cl_blt (blt_list rfl) (fun h1 h2 => pe_callTy h1 (by rfl) B.list_ boot_list h2) (CE.v (ce_call (fun h => pe_call G0 (hr.mono (by decide)) (by rfl) g0 k0 b0 .nil pass0 h) (ca_cons (ce_var (pv 0)) (ca_cons (ce_var (pv 1)) (ca_nil))))))) (css_cons (cs_for (fun h1 h2 h3 => ps_for PassesOwn.never rfl h1 h2 h3) (ci_rng1 (fun h => pi_range1 (by rfl) B.range h) (ca_cons (ce_binN op_addD (pv 3) (CE.v (ce_int))) (ca_nil))) (cg_name (pg_name (i := 11) sc_law_reads_lasso.nd rfl (.inr rfl))) (css_cons (cs_if (ct_cmp (cc_opN (op_ltDD (hub hr (by decide))) (pv 11) (CE.v (ce_blt blt_len (fun h1 h2 => pe_callB h1 (by rfl) B.len PySem.boot_len h2) (cv_var (pv 13))))) (nomark _)) (css_cons (cs_setL (fun h => ps_set (i := 13) sc_law_reads_lasso.nd rfl (.inr rfl) h) (cl_catN (pv 13) (CL.v (cl_lc (own := [("state", 6)]) rfl sc_law_reads_lasso.nd (ci_rng1 (fun h => pi_range1 (by rfl) B.range h) (ca_cons (ce_var (pv 3)) (ca_nil))) (blkOk_by (N := n_law_reads_lasso) (sc := defScope s_law_reads_lasso) (own := [("state", 6)]) (by decide +kernel)) (fun _ _ _ _ _ => cg_name (pg_name (i := 6) sc_law_reads_lasso.nd rfl (.inr rfl))) (fun _ _ _ _ _ => cts_one (CW.t (cw_and (ct_cmp (cc_notIn (hub hr (by decide)) (ce_var (pv 6)) (cv_var (pv 13))) rfl) (cw_and1 (ct_tru (CE.v (ce_blt (blt_any rfl) (fun h1 h2 => pe_callB h1 (by rfl) B.any_ boot_any h2) (CL.v (cl_lc (own := [("one", 12)]) rfl sc_law_reads_lasso.nd (ci_any (ce_ixN (hub hr (by decide)) (pv 5) (ce_ixN (hub hr (by decide)) (pv 13) (ce_var (pv 11)) (fun _ _ => rfl) (fun _ _ => rfl)) (fun _ _ => rfl) (fun _ _ => rfl))) (blkOk_by (N := n_law_reads_lasso) (sc := relS { kind := .function, names := [(".0", .local), ("state", .cell), ("any", .globalImplicit), ("k", .free), ("reach", .free), ("steps", .free)], isGenerator := false, isCoroutine := false, more := [] } (defScope s_law_reads_lasso)) (own := [("one", 12)]) (by decide +kernel)) (fun _ _ _ _ _ => cg_name (pg_name (i := 12) sc_law_reads_lasso.nd rfl (.inl rfl))) (fun _ _ _ _ _ => cts_nil) (fun _ _ _ _ _ => ce_cmp (cc_op (op_eqDD (hub hr (by decide))) (ce_ixN (hub hr (by decide)) (pv 12) (ce_int) (fun _ _ => rfl) (fun _ _ => rfl)) (cv_var (pv 6))) (nomark _)) (by decide)))))))))) (fun _ _ _ _ _ => ce_var (pv 6)) (by decide))))) (css_nil)) (css_nil)) (css_nil))) (css_cons (cs_for (fun h1 h2 h3 => ps_for PassesOwn.never rfl h1 h2 h3) (ci_any (ce_var (pv 13))) (cg_name (pg_name (i := 6) sc_law_reads_lasso.nd rfl (.inl rfl))) (css_cons (cs_setL (fun h => ps_set (i := 14) sc_law_reads_lasso.nd rfl (.inl rfl) h) (cl_lst (ca_cons (ce_tup (ca_cons (ce_var (pv 6)) (ca_cons (ce_int) (ca_nil)))) (ca_nil)))) (css_cons (cs_for (fun h1 h2 h3 => ps_for PassesOwn.never rfl h1 h2 h3) (ci_rng1 (fun h => pi_range1 (by rfl) B.range h) (ca_cons (ce_bin op_addD (ce_bin op_mulD (ce_int) (cv_var (pv 3))) (CE.v (ce_int))) (ca_nil))) (cg_name (pg_name (i := 11) sc_law_reads_lasso.nd rfl (.inr rfl))) (css_cons (cs_if (ct_cmp (cc_opN (op_ltDD (hub hr (by decide))) (pv 11) (CE.v (ce_blt blt_len (fun h1 h2 => pe_callB h1 (by rfl) B.len PySem.boot_len h2) (cv_var (pv 14))))) (nomark _)) (css_cons (cs_for (fun h1 h2 h3 => ps_for PassesOwn.never rfl h1 h2 h3) (ci_any (ce_ixN (hub hr (by decide)) (pv 5) (ce_ix (hub hr (by decide)) (ce_ixN (hub hr (by decide)) (pv 14) (ce_var (pv 11)) (fun _ _ => rfl) (fun _ _ => rfl)) (ce_int) (fun _ _ => rfl) (fun _ _ => rfl)) (fun _ _ => rfl) (fun _ _ => rfl))) (cg_tup rfl (cgs_cons (cg_name (pg_name (i := 9) sc_law_reads_lasso.nd rfl (.inl rfl))) (cgs_cons (cg_name (pg_name (i := 15) sc_law_reads_lasso.nd rfl (.inl rfl))) (cgs_nil)))) (css_cons (cs_set (fun h => ps_set (i := 12) sc_law_reads_lasso.nd rfl (.inl rfl) h) (ce_tup (ca_cons (ce_var (pv 9)) (ca_cons (ce_max2 rfl (fun h1 h2 => pe_callB h1 (by rfl) B.max_ boot_max h2) (ca_cons (ce_var (pv 15)) (ca_cons (ce_ix (hub hr (by decide)) (ce_ixN (hub hr (by decide)) (pv 14) (ce_var (pv 11)) (fun _ _ => rfl) (fun _ _ => rfl)) (ce_int) (fun _ _ => rfl) (fun _ _ => rfl)) (ca_nil)))) (ca_nil))))) (css_cons (cs_if (ct_cmp (cc_opN (op_eqDD (hub hr (by decide))) (pv 12) (CE.v (ce_tup (ca_cons (ce_var (pv 6)) (ca_cons (ce_int) (ca_nil)))))) (nomark _)) (css_cons (cs_ret (ce_bl)) (css_nil)) (css_nil)) (css_cons (cs_if (ct_cmp (cc_notIn (hub hr (by decide)) (ce_var (pv 12)) (cv_var (pv 14))) rfl) (css_cons (cs_append (fun h => ps_expr (pe_bm PySem.F.plainAttrs_list PySem.F.slot_list_append PySem.F.type_list_append mt_append (pv 14) (pa_cons h pa_nil))) (ce_var (pv 12))) (css_nil)) (css_nil)) (css_nil))))) (css_nil)) (css_nil)) (css_nil))) (css_nil)))) (css_cons (cs_ret (ce_bl)) (css_nil)))))))
end
end K63

namespace K63
open PySem PySem.Spec PyProof.Rows L2 DL
section
variable {P : Program} {w : World} {K : PySem.W.Frag} {mg : Str → Option Value} {base : Heap}
theorem ok_law_some {f : Addr} {fd : FuncData} (B : BF mg) (F : Fun K "_law_some" "_law_some" s_law_some f fd) (gf : mg "_law_some" = some (.ref f)) (bd : Binds K fd ["automaton"] []) (c0 : Cal P w K mg base "_law_first" 2 ["automaton", "states", "goals", "least"] (Pure K f_law_first)) : Cal P w K mg base "_law_some" 3 ["automaton"] (Pure K f_law_some) := by
  obtain ⟨f0, d0, G0, g0, k0, b0⟩ := c0.ex
  refine ⟨f, fd, pure_ok F sc_law_some (by decide) fun cdv A outer s H E hr => ?_, gf, F.kp, bd⟩
  exact css_cons (cs_setL (fun h => ps_set (i := 1) sc_law_some.nd rfl (.inl rfl) h) (cl_lst (ca_nil))) (css_cons (cs_for (fun h1 h2 h3 => ps_for PassesOwn.never rfl h1 h2 h3) (ci_any (ce_ixN (hub hr (by decide)) (pv 0) (ce_int) (fun _ _ => rfl) (fun _ _ => rfl))) (cg_name (pg_name (i := 2) sc_law_some.nd rfl (.inl rfl))) (css_cons (cs_par (fun h => ps_par (i := 3) (j := 4) rfl sc_law_some.nd rfl rfl (by decide) rfl rfl h (by rfl)) (CE.n (ce_call (fun h => pe_call G0 (hr.mono (by decide)) (by rfl) g0 k0 b0 .nil pass0 h) (ca_cons (ce_var (pv 0)) (ca_cons (ce_ixN (hub hr (by decide)) (pv 0) (ce_int) (fun _ _ => rfl) (fun _ _ => rfl)) (ca_cons (ce_tup (ca_cons (ce_var (pv 2)) (ca_nil))) (ca_cons (ce_int) (ca_nil))))))) (CE.n (ce_call (fun h => pe_call G0 (hr.mono (by decide)) (by rfl) g0 k0 b0 .nil pass0 h) (ca_cons (ce_var (pv 0)) (ca_cons (ce_tup (ca_cons (ce_var (pv 2)) (ca_nil))) (ca_cons (ce_tup (ca_cons (ce_var (pv 2)) (ca_nil))) (ca_cons (ce_int) (ca_nil)))))))) (css_cons (cs_if (CW.t (cw_and (ct_cmp (cc_notN (ce_var (pv 3))) rfl) (cw_and1 (ct_cmp (cc_notN (ce_var (pv 4))) rfl)))) (css_cons (cs_append (fun h => ps_expr (pe_bm PySem.F.plainAttrs_list PySem.F.slot_list_append PySem.F.type_list_append mt_append (pv 1) (pa_cons h pa_nil))) (ce_tup (ca_cons (ce_bin op_addD (ce_blt blt_len (fun h1 h2 => pe_callB h1 (by rfl) B.len PySem.boot_len h2) (cv_var (pv 3))) (CE.v (ce_blt blt_len (fun h1 h2 => pe_callB h1 (by rfl) B.len PySem.boot_len h2) (cv_var (pv 4))))) (ca_cons (ce_tup (ca_cons (ce_blt blt_len (fun h1 h2 => pe_callB h1 (by rfl) B.len PySem.boot_len h2) (cv_var (pv 3))) (ca_cons (ce_var (pv 3)) (ca_nil)))) (ca_cons (ce_tup (ca_cons (ce_blt blt_len (fun h1 h2 => pe_callB h1 (by rfl) B.len PySem.boot_len h2) (cv_var (pv 4))) (ca_cons (ce_var (pv 4)) (ca_nil)))) (ca_nil)))))) (css_nil)) (css_nil)) (css_nil)))) (css_cons (cs_if (ct_not (ct_tru (cv_var (pv 1)))) (css_cons (cs_ret (ce_tup (ca_cons (ce_str) (ca_nil)))) (css_nil)) (css_nil)) (css_cons (cs_asg (fun h1 h2 => ps_asg h1 h2) (ce_blt (blt_min rfl (hub hr (by decide))) (fun h1 h2 => pe_callB h1 (by rfl) B.min_ boot_min h2) (cv_var (pv 1))) (cg_tup rfl (cgs_cons (cg_name (pg_name (i := 5) sc_law_some.nd rfl (.inl rfl))) (cgs_cons (cg_name (pg_name (i := 6) sc_law_some.nd rfl (.inl rfl))) (cgs_cons (cg_name (pg_name (i := 7) sc_law_some.nd rfl (.inl rfl))) (cgs_nil)))))) (css_cons (cs_ret (ce_tup (ca_cons (ce_str) (ca_cons (ce_ixN (hub hr (by decide)) (pv 6) (ce_int) (fun _ _ => rfl) (fun _ _ => rfl)) (ca_cons (ce_ixN (hub hr (by decide)) (pv 7) (ce_int) (fun _ _ => rfl) (fun _ _ => rfl)) (ca_nil)))))) (css_nil)))))
end
end K63

namespace K63
open PySem PySem.Spec PyProof.Rows L2 DL
section
variable {P : Program} {w : World} {K : PySem.W.Frag} {mg : Str → Option Value} {base : Heap}
theorem ok_law_start {f : Addr} {fd : FuncData} (B : BF mg) (F : Fun K "_law_start" "_law_start" s_law_start f fd) (gf : mg "_law_start" = some (.ref f)) (bd : Binds K fd ["script"] []) : Cal P w K mg base "_law_start" 1 ["script"] (PureL K f_law_start) := by
  refine ⟨f, fd, pureL_ok F sc_law_start (by decide) fun cdv A outer s H E hr => ?_, gf, F.kp, bd⟩
  exact css_cons (cs_retL (cl_lst (ca_cons (CL.fz (cl_lc (own := [("cell", 1)]) rfl sc_law_start.nd (ci_any (CL.fz (cl_slL (ce_var (pv 0)) (co_no) (co_so (ce_int))))) (blkOk_by (N := n_law_start) (sc := defScope s_law_start) (own := [("cell", 1)]) (by decide +kernel)) (fun _ _ _ _ _ => cg_name (pg_name (i := 1) sc_law_start.nd rfl (.inl rfl))) (fun _ _ _ _ _ => cts_nil) (fun _ _ _ _ _ => ce_blt blt_int (fun h1 h2 => pe_callTy h1 (by rfl) B.int boot_int h2) (cv_var (pv 1))) (by decide))) (ca_cons (ce_int) (ca_cons (ce_int) (ca_cons (ce_int) (ca_cons (ce_int) (ca_nil)))))))) (css_nil)
end
end K63

namespace K63
open PySem PySem.Spec PyProof.Rows L2 DL
section
variable {P : Program} {w : World} {K : PySem.W.Frag} {mg : Str → Option Value} {base : Heap}
theorem ok_law_take {f : Addr} {fd : FuncData} (B : BF mg) (F : Fun K "_law_take" "_law_take" s_law_take f fd) (gf : mg "_law_take" = some (.ref f)) (bd : Binds K fd ["c", "many"] []) (c0 : Cal P w K mg base "_law_fill" 1 ["c"] (InOut K f_law_fill)) : Cal P w K mg base "_law_take" 2 ["c", "many"] (InOut K f_law_take) := by
  obtain ⟨f0, d0, G0, g0, k0, b0⟩ := c0.ex
  refine ⟨f, fd, io_ok F sc_law_take (by decide) fun cdv A outer s H E hr => ?_, gf, F.kp, bd⟩
  exact css_cons (cs_if (ct_cmp (cc_op (op_ltDD (hub hr (by decide))) (ce_ixN (hub hr (by decide)) (pv 0) (ce_int) (fun _ _ => rfl) (fun _ _ => rfl)) (cv_var (pv 1))) (nomark _)) (css_cons (cs_put (fun h1 h2 => ps_asg h2 (pg_sub (pv 0) h1 set_list (fun _ => rfl))) (fun h1 h2 => ps_dput (hub hr (by decide)) (pv 0) h1 h2 rfl) (ce_int) (ce_callIO (fun h => pe_call G0 (hr.mono (by decide)) (by rfl) g0 k0 b0 .nil pass0 h) (pv 0) (ca_nil))) (css_nil)) (css_nil)) (css_cons (cs_set (fun h => ps_set (i := 2) sc_law_take.nd rfl (.inl rfl) h) (ce_bin op_modD (ce_blt blt_int (fun h1 h2 => pe_callTy h1 (by rfl) B.int boot_int h2) (CE.v (ce_ixN (hub hr (by decide)) (pv 0) (ce_int) (fun _ _ => rfl) (fun _ _ => rfl)))) (cv_var (pv 1)))) (css_cons (cs_put (fun h1 h2 => ps_asg h2 (pg_sub (pv 0) h1 set_list (fun _ => rfl))) (fun h1 h2 => ps_dput (hub hr (by decide)) (pv 0) h1 h2 rfl) (ce_int) (ce_bin op_fdivD (ce_ixN (hub hr (by decide)) (pv 0) (ce_int) (fun _ _ => rfl) (fun _ _ => rfl)) (cv_var (pv 1)))) (css_cons (cs_ret (ce_var (pv 2))) (css_nil))))
end
end K63

namespace K63
open PySem PySem.Spec PyProof.Rows L2 DL
section
variable {P : Program} {w : World} {K : PySem.W.Frag} {mg : Str → Option Value} {base : Heap}
theorem ok_least_lasso {f : Addr} {fd : FuncData} (B : BF mg) (F : Fun K "least_lasso" "least_lasso" s_least_lasso f fd) (gf : mg "least_lasso" = some (.ref f)) (bd : Binds K fd ["u", "v"] []) : Cal P w K mg base "least_lasso" 1 ["u", "v"] (Pure K f_least_lasso) := by
  refine ⟨f, fd, pure_ok F sc_least_lasso (by decide) fun cdv A outer s H E hr => ?_, gf, F.kp, bd⟩
  exact css_cons (cs_for (fun h1 h2 h3 => ps_for PassesOwn.never rfl h1 h2 h3) (ci_rng2 (fun h => pi_range2 (by rfl) B.range h) (ca_cons (ce_int) (ca_cons (ce_bin op_addD (ce_blt blt_len (fun h1 h2 => pe_callB h1 (by rfl) B.len PySem.boot_len h2) (cv_var (pv 1))) (CE.v (ce_int))) (ca_nil)))) (cg_name (pg_name (i := 2) sc_least_lasso.nd rfl (.inl rfl))) (css_cons (cs_if (CW.t (cw_and (ct_cmp (cc_op (op_eqDD (hub hr (by decide))) (ce_bin op_modD (ce_blt blt_len (fun h1 h2 => pe_callB h1 (by rfl) B.len PySem.boot_len h2) (cv_var (pv 1))) (cv_var (pv 2))) (CE.v (ce_int))) (nomark _)) (cw_and1 (ct_cmp (cc_op (op_eqDD (hub hr (by decide))) (ce_bin op_mulD (ce_slS (ce_var (pv 1)) (co_no) (co_so (ce_var (pv 2)))) (CE.v (ce_bin op_fdivD (ce_blt blt_len (fun h1 h2 => pe_callB h1 (by rfl) B.len PySem.boot_len h2) (cv_var (pv 1))) (cv_var (pv 2))))) (cv_var (pv 1))) (nomark _))))) (css_cons (cs_set (fun h => ps_set (i := 1) sc_least_lasso.nd rfl (.inl rfl) h) (ce_slS (ce_var (pv 1)) (co_no) (co_so (ce_var (pv 2))))) (css_cons (cs_break) (css_nil))) (css_nil)) (css_nil))) (css_cons (cs_while (fun _ => 3000) (fun h1 h2 => ps_while PassesOwn.never h1 h2) (CW.t (cw_and (ct_cmp (cc_opN (op_neDD (hub hr (by decide))) (pv 0) (CE.v (ce_str))) (nomark _)) (cw_and1 (ct_cmp (cc_op (op_eqDD (hub hr (by decide))) (ce_ixN (hub hr (by decide)) (pv 0) (ce_neg) (fun _ _ => rfl) (fun _ _ => rfl)) (CE.v (ce_ixN (hub hr (by decide)) (pv 1) (ce_neg) (fun _ _ => rfl) (fun _ _ => rfl)))) (nomark _))))) (css_cons (cs_par (fun h => ps_par (i := 0) (j := 1) rfl sc_least_lasso.nd rfl rfl (by decide) rfl rfl h (by rfl)) (CE.n (ce_slS (ce_var (pv 0)) (co_no) (co_so (ce_neg)))) (CE.n (ce_bin op_addD (ce_ixN (hub hr (by decide)) (pv 1) (ce_neg) (fun _ _ => rfl) (fun _ _ => rfl)) (CE.v (ce_slS (ce_var (pv 1)) (co_no) (co_so (ce_neg))))))) (css_nil))) (css_cons (cs_ret (ce_tup (ca_cons (ce_var (pv 0)) (ca_cons (ce_var (pv 1)) (ca_nil))))) (css_nil)))
end
end K63

namespace K63
open PySem PySem.Spec PyProof.Rows L2 DL
section
variable {P : Program} {w : World} {K : PySem.W.Frag} {mg : Str → Option Value} {base : Heap}
theorem ok_letter_profile {f : Addr} {fd : FuncData} (B : BF mg) (F : Fun K "letter_profile" "letter_profile" s_letter_profile f fd) (gf : mg "letter_profile" = some (.ref f)) (bd : Binds K fd ["steps", "marks", "letter"] []) : Cal P w K mg base "letter_profile" 1 ["steps", "marks", "letter"] (Pure K f_letter_profile) := by
  refine ⟨f, fd, pure_ok F sc_letter_profile (by decide) fun cdv A outer s H E hr => ?_, gf, F.kp, bd⟩
  exact css_cons (cs_setT (fun h => ps_set (i := 3) sc_letter_profile.nd rfl (.inl rfl) h) (cdt_new)) (css_cons (cs_for (fun h1 h2 h3 => ps_for PassesOwn.never rfl h1 h2 h3) (ci_enum (fun h => pi_enum (by rfl) B.enumerate h) (ca_cons (ce_var (pv 0)) (ca_nil))) (cg_tup rfl (cgs_cons (cg_name (pg_name (i := 4) sc_letter_profile.nd rfl (.inl rfl))) (cgs_cons (cg_name (pg_name (i := 5) sc_letter_profile.nd rfl (.inl rfl))) (cgs_nil)))) (css_cons (cs_for (fun h1 h2 h3 => ps_for PassesOwn.never rfl h1 h2 h3) (ci_any (ce_get2N (hub hr (by decide)) (pv 5) (ce_var (pv 2)) (CL.fz (cl_lst (ca_nil))) ⟨by rfl, by rfl, by rfl, by rfl⟩)) (cg_name (pg_name (i := 6) sc_letter_profile.nd rfl (.inl rfl))) (css_cons (cs_put (fun h1 h2 => ps_asg h2 (pg_sub (pv 3) h1 set_list (fun _ => rfl))) (fun h1 h2 => ps_dput (hub hr (by decide)) (pv 3) h1 h2 rfl) (ce_tup (ca_cons (ce_var (pv 4)) (ca_cons (ce_var (pv 6)) (ca_nil)))) (ce_blt blt_int (fun h1 h2 => pe_callTy h1 (by rfl) B.int boot_int h2) (CE.v (ce_cmp (cc_in (hub hr (by decide)) (ce_var (pv 6)) (cv_var (pv 1))) rfl)))) (css_nil))) (css_nil))) (css_cons (cs_ret (ce_var (pv 3))) (css_nil)))
end
end K63

namespace K63
open PySem PySem.Spec PyProof.Rows L2 DL
section
variable {P : Program} {w : World} {K : PySem.W.Frag} {mg : Str → Option Value} {base : Heap}
theorem ok_moved {f : Addr} {fd : FuncData} (B : BF mg) (F : Fun K "moved" "moved" s_moved f fd) (gf : mg "moved" = some (.ref f)) (bd : Binds K fd ["steps", "states", "letter"] []) : Cal P w K mg base "moved" 1 ["steps", "states", "letter"] (Pure K f_moved) := by
  refine ⟨f, fd, pure_ok F sc_moved (by decide) fun cdv A outer s H E hr => ?_, gf, F.kp, bd⟩
  exact css_cons (cs_ret (ce_blt blt_tuple (fun h1 h2 => pe_callTy h1 (by rfl) B.tuple boot_tuple h2) (CL.v (cl_blt (blt_sorted rfl (hub hr (by decide))) (fun h1 h2 => pe_callB h1 (by rfl) B.sorted boot_sorted h2) (CDK.v (cdk_dc2 (own := [("state", 3), ("other", 4)]) (vs1 := [4]) (hub hr (by decide)) rfl sc_moved.nd (ci_any (ce_var (pv 1))) (blkOk_by (N := n_moved) (sc := defScope s_moved) (own := [("state", 3), ("other", 4)]) (by decide +kernel)) (fun _ _ _ _ _ => cg_name (pg_name (i := 3) sc_moved.nd rfl (.inl rfl))) (fun _ _ _ _ _ => cts_nil) (fun _ _ _ _ _ => ci_any (ce_get2 (hub hr (by decide)) (ce_ixN (hub hr (by decide)) (pv 0) (ce_var (pv 3)) (fun _ _ => rfl) (fun _ _ => rfl)) (ce_var (pv 2)) (CL.fz (cl_lst (ca_nil))) ⟨by rfl, by rfl, by rfl, by rfl⟩)) (fun _ _ _ _ _ => cg_name (pg_name (i := 4) sc_moved.nd rfl (.inl rfl))) (fun _ _ _ _ _ => cts_nil) (fun _ _ _ _ _ => ce_var (pv 4)) (fun _ _ _ _ _ => ce_bl) (by decide) (by decide) (by decide))))))) (css_nil)
end
end K63

namespace K63
open PySem PySem.Spec PyProof.Rows L2 DL
section
variable {P : Program} {w : World} {K : PySem.W.Frag} {mg : Str → Option Value} {base : Heap}
theorem ok_place {f : Addr} {fd : FuncData} (B : BF mg) (F : Fun K "place" "place" s_place f fd) (gf : mg "place" = some (.ref f)) (bd : Binds K fd ["word"] []) : Cal P w K mg base "place" 1 ["word"] (Pure K f_place) := by
  refine ⟨f, fd, pure_ok F sc_place (by decide) fun cdv A outer s H E hr => ?_, gf, F.kp, bd⟩
  exact css_cons (cs_ret (ce_tup (ca_cons (ce_blt blt_len (fun h1 h2 => pe_callB h1 (by rfl) B.len PySem.boot_len h2) (cv_var (pv 0))) (ca_cons (ce_var (pv 0)) (ca_nil))))) (css_nil)
end
end K63

namespace K63
open PySem PySem.Spec PyProof.Rows L2 DL
section
variable {P : Program} {w : World} {K : PySem.W.Frag} {mg : Str → Option Value} {base : Heap}
theorem ok_profile {f : Addr} {fd : FuncData} (B : BF mg) (F : Fun K "profile" "profile" s_profile f fd) (gf : mg "profile" = some (.ref f)) (bd : Binds K fd ["steps", "marks", "word"] []) (c0 : Cal P w K mg base "letter_profile" 1 ["steps", "marks", "letter"] (Pure K f_letter_profile)) (c1 : Cal P w K mg base "behind" 1 ["first", "second"] (Pure K f_behind)) : Cal P w K mg base "profile" 2 ["steps", "marks", "word"] (Pure K f_profile) := by
  obtain ⟨f0, d0, G0, g0, k0, b0⟩ := c0.ex
  obtain ⟨f1, d1, G1, g1, k1, b1⟩ := c1.ex
  refine ⟨f, fd, pure_ok F sc_profile (by decide) fun cdv A outer s H E hr => ?_, gf, F.kp, bd⟩
  exact css_cons (cs_dcT (own := [("p", 5)]) (i := 3) (hub hr (by decide)) rfl sc_profile.nd rfl rfl (sw_trueD rfl rfl rfl (by decide +kernel)) (ci_rng1 (fun h => pi_range1 (by rfl) B.range h) (ca_cons (ce_blt blt_len (fun h1 h2 => pe_callB h1 (by rfl) B.len PySem.boot_len h2) (cv_var (pv 0))) (ca_nil))) (blkOk_by (N := n_profile) (sc := defScope s_profile) (own := [("p", 5)]) (by decide +kernel)) (fun _ _ _ _ _ => cg_name (pg_name (i := 5) sc_profile.nd rfl (.inl rfl))) (fun _ _ _ _ _ => cts_nil) (fun _ _ _ _ _ => ce_tup (ca_cons (ce_var (pv 5)) (ca_cons (ce_var (pv 5)) (ca_nil)))) (fun _ _ _ _ _ => ce_int) (by decide)) (css_cons (cs_for (fun h1 h2 h3 => ps_for PassesOwn.never rfl h1 h2 h3) (ci_any (ce_var (pv 2))) (cg_name (pg_name (i := 4) sc_profile.nd rfl (.inl rfl))) (css_cons (cs_set (fun h => ps_set (i := 3) sc_profile.nd rfl (.inl rfl) h) (ce_call (fun h => pe_call G1 (hr.mono (by decide)) (by rfl) g1 k1 b1 .nil pass0 h) (ca_cons (ce_var (pv 3)) (ca_cons (ce_call (fun h => pe_call G0 (hr.mono (by decide)) (by rfl) g0 k0 b0 .nil pass0 h) (ca_cons (ce_var (pv 0)) (ca_cons (ce_var (pv 1)) (ca_cons (ce_var (pv 4)) (ca_nil))))) (ca_nil))))) (css_nil))) (css_cons (cs_ret (ce_var (pv 3))) (css_nil)))
end
end K63

namespace K63
open PySem PySem.Spec PyProof.Rows L2 DL
section
variable {P : Program} {w : World} {K : PySem.W.Frag} {mg : Str → Option Value} {base : Heap}
theorem ok_reads_lasso {f : Addr} {fd : FuncData} (B : BF mg) (F : Fun K "reads_lasso" "reads_lasso" s_reads_lasso f fd) (gf : mg "reads_lasso" = some (.ref f)) (bd : Binds K fd ["automaton", "u", "v"] []) (c0 : Cal P w K mg base "profile" 2 ["steps", "marks", "word"] (Pure K f_profile)) (c1 : Cal P w K mg base "turns" 2 ["starts", "first", "second"] (Pure K f_turns)) (c2 : Cal P w K mg base "behind_word" 2 ["steps", "states", "word"] (Pure K f_behind_word)) (c3 : Cal P w K mg base "steps_of" 1 ["automaton"] (Pure K f_steps_of)) : Cal P w K mg base "reads_lasso" 3 ["automaton", "u", "v"] (Pure K f_reads_lasso) := by
  obtain ⟨f0, d0, G0, g0, k0, b0⟩ := c0.ex
  obtain ⟨f1, d1, G1, g1, k1, b1⟩ := c1.ex
  obtain ⟨f2, d2, G2, g2, k2, b2⟩ := c2.ex
  obtain ⟨f3, d3, G3, g3, k3, b3⟩ := c3.ex
  refine ⟨f, fd, pure_ok F sc_reads_lasso (by decide) fun cdv A outer s H E hr => ?_, gf, F.kp, bd⟩
  exact css_cons (cs_set (fun h => ps_set (i := 3) sc_reads_lasso.nd rfl (.inl rfl) h) (ce_call (fun h => pe_call G3 (hr.mono (by decide)) (by rfl) g3 k3 b3 .nil pass0 h) (ca_cons (ce_var (pv 0)) (ca_nil)))) (css_cons (cs_dcK (own := [("state", 7)]) (i := 4) (hub hr (by decide)) rfl sc_reads_lasso.nd rfl rfl (sw_trueD rfl rfl rfl (by decide +kernel)) (ci_any (ce_ixN (hub hr (by decide)) (pv 0) (ce_int) (fun _ _ => rfl) (fun _ _ => rfl))) (blkOk_by (N := n_reads_lasso) (sc := defScope s_reads_lasso) (own := [("state", 7)]) (by decide +kernel)) (fun _ _ _ _ _ => cg_name (pg_name (i := 7) sc_reads_lasso.nd rfl (.inl rfl))) (fun _ _ _ _ _ => cts_nil) (fun _ _ _ _ _ => ce_var (pv 7)) (fun _ _ _ _ _ => ce_bl) (by decide)) (css_cons (cs_set (fun h => ps_set (i := 5) sc_reads_lasso.nd rfl (.inl rfl) h) (ce_call (fun h => pe_call G2 (hr.mono (by decide)) (by rfl) g2 k2 b2 .nil pass0 h) (ca_cons (ce_var (pv 3)) (ca_cons (ce_ixN (hub hr (by decide)) (pv 0) (ce_int) (fun _ _ => rfl) (fun _ _ => rfl)) (ca_cons (ce_var (pv 1)) (ca_nil)))))) (css_cons (cs_dcT (own := [("p", 8)]) (i := 6) (hub hr (by decide)) rfl sc_reads_lasso.nd rfl rfl (sw_trueD rfl rfl rfl (by decide +kernel)) (ci_any (ce_var (pv 5))) (blkOk_by (N := n_reads_lasso) (sc := defScope s_reads_lasso) (own := [("p", 8)]) (by decide +kernel)) (fun _ _ _ _ _ => cg_name (pg_name (i := 8) sc_reads_lasso.nd rfl (.inl rfl))) (fun _ _ _ _ _ => cts_nil) (fun _ _ _ _ _ => ce_tup (ca_cons (ce_var (pv 8)) (ca_cons (ce_var (pv 8)) (ca_nil)))) (fun _ _ _ _ _ => ce_int) (by decide)) (css_cons (cs_ret (ce_call (fun h => pe_call G1 (hr.mono (by decide)) (by rfl) g1 k1 b1 .nil pass0 h) (ca_cons (ce_var (pv 5)) (ca_cons (ce_var (pv 6)) (ca_cons (ce_call (fun h => pe_call G0 (hr.mono (by decide)) (by rfl) g0 k0 b0 .nil pass0 h) (ca_cons (ce_var (pv 3)) (ca_cons (ce_var (pv 4)) (ca_cons (ce_var (pv 2)) (ca_nil))))) (ca_nil)))))) (css_nil)))))
end
end K63

namespace K63
open PySem PySem.Spec PyProof.Rows L2 DL
section
variable {P : Program} {w : World} {K : PySem.W.Frag} {mg : Str → Option Value} {base : Heap}
theorem ok_same_lasso {f : Addr} {fd : FuncData} (B : BF mg) (F : Fun K "same_lasso" "same_lasso" s_same_lasso f fd) (gf : mg "same_lasso" = some (.ref f)) (bd : Binds K fd ["first", "second"] []) (c0 : Cal P w K mg base "least_lasso" 1 ["u", "v"] (Pure K f_least_lasso)) : Cal P w K mg base "same_lasso" 2 ["first", "second"] (Pure K f_same_lasso) := by
  obtain ⟨f0, d0, G0, g0, k0, b0⟩ := c0.ex
  refine ⟨f, fd, pure_ok F sc_same_lasso (by decide) fun cdv A outer s H E hr => ?_, gf, F.kp, bd⟩
  exact css_cons (cs_ret (ce_cmp (cc_op (op_eqDD (hub hr (by decide))) (ce_call (fun h => pe_call G0 (hr.mono (by decide)) (by rfl) g0 k0 b0 .nil pass0 h) (ca_cons (ce_ixN (hub hr (by decide)) (pv 0) (ce_int) (fun _ _ => rfl) (fun _ _ => rfl)) (ca_cons (ce_ixN (hub hr (by decide)) (pv 0) (ce_int) (fun _ _ => rfl) (fun _ _ => rfl)) (ca_nil)))) (CE.v (ce_call (fun h => pe_call G0 (hr.mono (by decide)) (by rfl) g0 k0 b0 .nil pass0 h) (ca_cons (ce_ixN (hub hr (by decide)) (pv 1) (ce_int) (fun _ _ => rfl) (fun _ _ => rfl)) (ca_cons (ce_ixN (hub hr (by decide)) (pv 1) (ce_int) (fun _ _ => rfl) (fun _ _ => rfl)) (ca_nil)))))) (nomark _))) (css_nil)
end
end K63

namespace K63
open PySem PySem.Spec PyProof.Rows L2 DL
section
variable {P : Program} {w : World} {K : PySem.W.Frag} {mg : Str → Option Value} {base : Heap}
theorem ok_some_lasso {f : Addr} {fd : FuncData} (B : BF mg) (F : Fun K "some_lasso" "some_lasso" s_some_lasso f fd) (gf : mg "some_lasso" = some (.ref f)) (bd : Binds K fd ["automaton"] []) (c0 : Cal P w K mg base "place" 1 ["word"] (Pure K f_place)) (c1 : Cal P w K mg base "first_back" 2 ["steps", "state", "letters"] (Pure K f_first_back)) (c2 : Cal P w K mg base "first_words" 1 ["steps", "starts", "letters"] (Pure K f_first_words)) (c3 : Cal P w K mg base "steps_of" 1 ["automaton"] (Pure K f_steps_of)) : Cal P w K mg base "some_lasso" 3 ["automaton"] (Pure K f_some_lasso) := by
  obtain ⟨f0, d0, G0, g0, k0, b0⟩ := c0.ex
  obtain ⟨f1, d1, G1, g1, k1, b1⟩ := c1.ex
  obtain ⟨f2, d2, G2, g2, k2, b2⟩ := c2.ex
  obtain ⟨f3, d3, G3, g3, k3, b3⟩ := c3.ex
  refine ⟨f, fd, pure_ok F sc_some_lasso (by decide) fun cdv A outer s H E hr => ?_, gf, F.kp, bd⟩
  exact css_cons (cs_asg (fun h1 h2 => ps_asg h1 h2) (ce_var (pv 0)) (cg_tup rfl (cgs_cons (cg_name (pg_name (i := 1) sc_some_lasso.nd rfl (.inl rfl))) (cgs_cons (cg_name (pg_name (i := 2) sc_some_lasso.nd rfl (.inl rfl))) (cgs_cons (cg_name (pg_name (i := 3) sc_some_lasso.nd rfl (.inl rfl))) (cgs_cons (cg_name (pg_name (i := 4) sc_some_lasso.nd rfl (.inl rfl))) (cgs_cons (cg_name (pg_name (i := 5) sc_some_lasso.nd rfl (.inl rfl))) (cgs_nil)))))))) (css_cons (cs_set (fun h => ps_set (i := 6) sc_some_lasso.nd rfl (.inl rfl) h) (ce_call (fun h => pe_call G3 (hr.mono (by decide)) (by rfl) g3 k3 b3 .nil pass0 h) (ca_cons (ce_var (pv 0)) (ca_nil)))) (css_cons (cs_set (fun h => ps_set (i := 7) sc_some_lasso.nd rfl (.inl rfl) h) (ce_call (fun h => pe_call G2 (hr.mono (by decide)) (by rfl) g2 k2 b2 .nil pass0 h) (ca_cons (ce_var (pv 6)) (ca_cons (ce_var (pv 3)) (ca_cons (ce_var (pv 2)) (ca_nil)))))) (css_cons (cs_set (fun h => ps_set (i := 8) sc_some_lasso.nd rfl (.inl rfl) h) (ce_non)) (css_cons (cs_for (fun h1 h2 h3 => ps_for PassesOwn.never rfl h1 h2 h3) (ci_any (ce_var (pv 5))) (cg_name (pg_name (i := 9) sc_some_lasso.nd rfl (.inl rfl))) (css_cons (cs_if (ct_cmp (cc_in (hub hr (by decide)) (ce_var (pv 9)) (cv_var (pv 7))) rfl) (css_cons (cs_set (fun h => ps_set (i := 10) sc_some_lasso.nd rfl (.inl rfl) h) (ce_call (fun h => pe_call G1 (hr.mono (by decide)) (by rfl) g1 k1 b1 .nil pass0 h) (ca_cons (ce_var (pv 6)) (ca_cons (ce_var (pv 9)) (ca_cons (ce_var (pv 2)) (ca_nil)))))) (css_cons (cs_if (ct_cmp (cc_notN (ce_var (pv 10))) rfl) (css_cons (cs_set (fun h => ps_set (i := 11) sc_some_lasso.nd rfl (.inl rfl) h) (ce_tup (ca_cons (ce_bin op_addD (ce_blt blt_len (fun h1 h2 => pe_callB h1 (by rfl) B.len PySem.boot_len h2) (CE.v (ce_ixN (hub hr (by decide)) (pv 7) (ce_var (pv 9)) (fun _ _ => rfl) (fun _ _ => rfl)))) (CE.v (ce_blt blt_len (fun h1 h2 => pe_callB h1 (by rfl) B.len PySem.boot_len h2) (cv_var (pv 10))))) (ca_cons (ce_call (fun h => pe_call G0 (hr.mono (by decide)) (by rfl) g0 k0 b0 .nil pass0 h) (ca_cons (ce_ixN (hub hr (by decide)) (pv 7) (ce_var (pv 9)) (fun _ _ => rfl) (fun _ _ => rfl)) (ca_nil))) (ca_cons (ce_call (fun h => pe_call G0 (hr.mono (by decide)) (by rfl) g0 k0 b0 .nil pass0 h) (ca_cons (ce_var (pv 10)) (ca_nil))) (ca_nil)))))) (css_cons (cs_if (CW.t (cw_or (ct_cmp (cc_isN (ce_var (pv 8))) rfl) (cw_or1 (ct_cmp (cc_opN (op_ltDD (hub hr (by decide))) (pv 11) (cv_var (pv 8))) (nomark _))))) (css_cons (cs_set (fun h => ps_set (i := 8) sc_some_lasso.nd rfl (.inl rfl) h) (ce_var (pv 11))) (css_nil)) (css_nil)) (css_nil))) (css_nil)) (css_nil))) (css_nil)) (css_nil))) (css_cons (cs_if (ct_cmp (cc_isN (ce_var (pv 8))) rfl) (css_cons (cs_ret (ce_tup (ca_cons (ce_str) (ca_nil)))) (css_nil)) (css_nil)) (css_cons (cs_ret (ce_tup (ca_cons (ce_str) (ca_cons (ce_ix (hub hr (by decide)) (ce_ixN (hub hr (by decide)) (pv 8) (ce_int) (fun _ _ => rfl) (fun _ _ => rfl)) (ce_int) (fun _ _ => rfl) (fun _ _ => rfl)) (ca_cons (ce_ix (hub hr (by decide)) (ce_ixN (hub hr (by decide)) (pv 8) (ce_int) (fun _ _ => rfl) (fun _ _ => rfl)) (ce_int) (fun _ _ => rfl) (fun _ _ => rfl)) (ca_nil)))))) (css_nil)))))))
end
end K63

namespace K63
open PySem PySem.Spec PyProof.Rows L2 DL
section
variable {P : Program} {w : World} {K : PySem.W.Frag} {mg : Str → Option Value} {base : Heap}
theorem ok_steps_of {f : Addr} {fd : FuncData} (B : BF mg) (F : Fun K "steps_of" "steps_of" s_steps_of f fd) (gf : mg "steps_of" = some (.ref f)) (bd : Binds K fd ["automaton"] []) : Cal P w K mg base "steps_of" 1 ["automaton"] (Pure K f_steps_of) := by
  refine ⟨f, fd, pure_ok F sc_steps_of (by decide) fun cdv A outer s H E hr => ?_, gf, F.kp, bd⟩
  exact css_grp (i := 1) (j := 5) rfl sc_steps_of.nd rfl rfl (sw_true rfl rfl rfl (by decide +kernel)) (ci_rng1 (fun h => pi_range1 (by rfl) B.range h) (ca_cons (ce_ixN (hub hr (by decide)) (pv 0) (ce_int) (fun _ _ => rfl) (fun _ _ => rfl)) (ca_nil))) (blkOk_by (N := n_steps_of) (sc := defScope s_steps_of) (own := [("k", 5)]) (by decide +kernel)) (by decide) (fun _ _ _ _ _ => pg_name (i := 5) sc_steps_of.nd rfl (.inl rfl)) (fun h1 h2 h3 => ps_for PassesOwn.never rfl h1 h2 h3) (ci_any (ce_ixN (hub hr (by decide)) (pv 0) (ce_int) (fun _ _ => rfl) (fun _ _ => rfl))) (cg_tup rfl (cgs_cons (cg_name (pg_name (i := 2) sc_steps_of.nd rfl (.inl rfl))) (cgs_cons (cg_name (pg_name (i := 3) sc_steps_of.nd rfl (.inl rfl))) (cgs_cons (cg_name (pg_name (i := 4) sc_steps_of.nd rfl (.inl rfl))) (cgs_nil))))) (by decide) (pv 1) (ce_var (pv 2)) (ce_var (pv 3)) (ce_var (pv 4)) (fun _ _ => rfl) ⟨by rfl, by rfl, by rfl, by rfl⟩ (fun h1 h2 => pe_bm PySem.F.plainAttrs_list PySem.F.slot_list_append PySem.F.type_list_append mt_append h1 (pa_cons h2 pa_nil)) (css_cons (cs_ret (ce_var (pv 1))) (css_nil))
end
end K63

namespace K63
open PySem PySem.Spec PyProof.Rows L2 DL
section
variable {P : Program} {w : World} {K : PySem.W.Frag} {mg : Str → Option Value} {base : Heap}
theorem ok_turns {f : Addr} {fd : FuncData} (B : BF mg) (F : Fun K "turns" "turns" s_turns f fd) (gf : mg "turns" = some (.ref f)) (bd : Binds K fd ["starts", "first", "second"] []) (c0 : Cal P w K mg base "comes_to" 1 ["table", "p", "q"] (Pure K f_comes_to)) : Cal P w K mg base "turns" 2 ["starts", "first", "second"] (Pure K f_turns) := by
  obtain ⟨f0, d0, G0, g0, k0, b0⟩ := c0.ex
  refine ⟨f, fd, pure_ok F sc_turns (by decide) fun cdv A outer s H E hr => ?_, gf, F.kp, bd⟩
  exact css_cons (cs_setK (fun h => ps_set (i := 4) sc_turns.nd rfl (.inr rfl) h) (cdk_dc (own := [("p", 3), ("q", 8)]) (hub hr (by decide)) rfl sc_turns.nd (ci_any (ce_var (pv 1))) (blkOk_by (N := n_turns) (sc := defScope s_turns) (own := [("p", 3), ("q", 8)]) (by decide +kernel)) (fun _ _ _ _ _ => cg_tup rfl (cgs_cons (cg_name (pg_name (i := 3) sc_turns.nd rfl (.inl rfl))) (cgs_cons (cg_name (pg_name (i := 8) sc_turns.nd rfl (.inl rfl))) (cgs_nil)))) (fun _ _ _ _ _ => cts_one (ct_cmp (cc_in (hub hr (by decide)) (ce_var (pv 3)) (cv_var (pv 0))) rfl)) (fun _ _ _ _ _ => ce_var (pv 8)) (fun _ _ _ _ _ => ce_bl) (by decide))) (css_cons (cs_setL (fun h => ps_set (i := 5) sc_turns.nd rfl (.inl rfl) h) (cl_listK rfl (fun h1 h2 => pe_callTy h1 (by rfl) B.list_ boot_list h2) (pv 4))) (css_cons (cs_while (fun _ => 3000) (fun h1 h2 => ps_while PassesOwn.never h1 h2) (ct_tru (cv_var (pv 5))) (css_cons (cs_set (fun h => ps_set (i := 3) sc_turns.nd rfl (.inl rfl) h) (ce_pop (pe_bm0 PySem.F.plainAttrs_list PySem.F.slot_list_pop PySem.F.type_list_pop mt_pop (pv 5)))) (css_cons (cs_for (fun h1 h2 h3 => ps_for PassesOwn.never rfl h1 h2 h3) (ci_any (ce_var (pv 2))) (cg_tup rfl (cgs_cons (cg_name (pg_name (i := 6) sc_turns.nd rfl (.inl rfl))) (cgs_cons (cg_name (pg_name (i := 7) sc_turns.nd rfl (.inl rfl))) (cgs_nil)))) (css_cons (cs_if (CW.t (cw_and (ct_cmp (cc_opN (op_eqDD (hub hr (by decide))) (pv 6) (cv_var (pv 3))) (nomark _)) (cw_and1 (ct_cmp (cc_notIn (hub hr (by decide)) (ce_var (pv 7)) (cv_var (pv 4))) rfl)))) (css_cons (cs_put (fun h1 h2 => ps_asg h2 (pg_sub (pv 4) h1 set_list (fun _ => rfl))) (fun h1 h2 => ps_dput (hub hr (by decide)) (pv 4) h1 h2 rfl) (ce_var (pv 7)) (ce_bl)) (css_cons (cs_append (fun h => ps_expr (pe_bm PySem.F.plainAttrs_list PySem.F.slot_list_append PySem.F.type_list_append mt_append (pv 5) (pa_cons h pa_nil))) (ce_var (pv 7))) (css_nil))) (css_nil)) (css_nil))) (css_nil)))) (css_cons (cs_ret (ce_blt (blt_any rfl) (fun h1 h2 => pe_callB h1 (by rfl) B.any_ boot_any h2) (CL.v (cl_lc (own := [("p", 3), ("q", 8)]) rfl sc_turns.nd (ci_any (ce_var (pv 2))) (blkOk_by (N := n_turns) (sc := defScope s_turns) (own := [("p", 3), ("q", 8)]) (by decide +kernel)) (fun _ _ _ _ _ => cg_tup rfl (cgs_cons (cg_name (pg_name (i := 3) sc_turns.nd rfl (.inl rfl))) (cgs_cons (cg_name (pg_name (i := 8) sc_turns.nd rfl (.inl rfl))) (cgs_nil)))) (fun _ _ _ _ _ => cts_nil) (fun _ _ _ _ _ => ce_and (ce_cmp (cc_in (hub hr (by decide)) (ce_var (pv 3)) (cv_var (pv 4))) rfl) (ce_and (ce_cmp (cc_op (op_eqDD (hub hr (by decide))) (ce_ixN (hub hr (by decide)) (pv 2) (ce_tup (ca_cons (ce_var (pv 3)) (ca_cons (ce_var (pv 8)) (ca_nil)))) (fun _ _ => rfl) (fun _ _ => rfl)) (CE.v (ce_int))) (nomark _)) (ce_one (ce_call (fun h => pe_call G0 (hr.mono (by decide)) (by rfl) g0 k0 b0 .nil pass0 h) (ca_cons (ce_var (pv 2)) (ca_cons (ce_var (pv 8)) (ca_cons (ce_var (pv 3)) (ca_nil)))))))) (by decide))))) (css_nil))))
end
end K63

namespace K63
open PySem PySem.Spec PyProof.Rows L2 DL
section
variable {P : Program} {w : World} {K : PySem.W.Frag} {mg : Str → Option Value} {base : Heap}
def spLaw (K : PySem.W.Frag) : Sp := fun vs H Q _ => ∃ (a : Addr) (ns : List Int), vs = [.ref a] ∧ SqL K H a (ns.map V.int) ∧ ns.length ≤ 63 ∧ ∀ H', Q (.bl true) H'
theorem sp_imp (ok : ∀ ns : List Int, ns.length ≤ 63 → f_law [.scr ns] = some (.bl true)) (vs : List V) (H : Hp) (Q : VK) (E : XK) (h : spLaw K vs H Q E) : Pure K f_law vs H Q E := by
  obtain ⟨a, ns, rfl, hS, hl, q⟩ := h
  exact ⟨H, [.scr ns], .bl true, Same.refl _, .cons (.scr hS) .nil, ok ns hl, fun G' H' v _ _ _ _ m => by cases m; exact q H'⟩
theorem all_mk {l : PySem.W.OpenLaw} {h : Heap} {fa f0 f1 f2 f3 f4 f5 f6 f7 f8 f9 f10 f11 f12 f13 f14 f15 f16 f17 f18 f19 f20 f21 f22 f23 f24 f25 f26 : Addr} (ok : ∀ ns : List Int, ns.length ≤ 63 → f_law [.scr ns] = some (.bl true)) (X : K.In h) (G : h.Ns mainGlobals mg) (hfa : mg "law" = some (.ref fa)) {od0 an0 : Option Addr} {sl0 : Array (Option Value)} {oc0 kV0 dc0 pm0 cd0 ct0 : Value} {od1 an1 : Option Addr} {sl1 : Array (Option Value)} {oc1 kV1 dc1 pm1 cd1 ct1 : Value} {od2 an2 : Option Addr} {sl2 : Array (Option Value)} {oc2 kV2 dc2 pm2 cd2 ct2 : Value} {od3 an3 : Option Addr} {sl3 : Array (Option Value)} {oc3 kV3 dc3 pm3 cd3 ct3 : Value} {od4 an4 : Option Addr} {sl4 : Array (Option Value)} {oc4 kV4 dc4 pm4 cd4 ct4 : Value} {od5 an5 : Option Addr} {sl5 : Array (Option Value)} {oc5 kV5 dc5 pm5 cd5 ct5 : Value} {od6 an6 : Option Addr} {sl6 : Array (Option Value)} {oc6 kV6 dc6 pm6 cd6 ct6 : Value} {od7 an7 : Option Addr} {sl7 : Array (Option Value)} {oc7 kV7 dc7 pm7 cd7 ct7 : Value} {od8 an8 : Option Addr} {sl8 : Array (Option Value)} {oc8 kV8 dc8 pm8 cd8 ct8 : Value} {od9 an9 : Option Addr} {sl9 : Array (Option Value)} {oc9 kV9 dc9 pm9 cd9 ct9 : Value} {od10 an10 : Option Addr} {sl10 : Array (Option Value)} {oc10 kV10 dc10 pm10 cd10 ct10 : Value} {od11 an11 : Option Addr} {sl11 : Array (Option Value)} {oc11 kV11 dc11 pm11 cd11 ct11 : Value} {od12 an12 : Option Addr} {sl12 : Array (Option Value)} {oc12 kV12 dc12 pm12 cd12 ct12 : Value} {od13 an13 : Option Addr} {sl13 : Array (Option Value)} {oc13 kV13 dc13 pm13 cd13 ct13 : Value} {od14 an14 : Option Addr} {sl14 : Array (Option Value)} {oc14 kV14 dc14 pm14 cd14 ct14 : Value} {od15 an15 : Option Addr} {sl15 : Array (Option Value)} {oc15 kV15 dc15 pm15 cd15 ct15 : Value} {od16 an16 : Option Addr} {sl16 : Array (Option Value)} {oc16 kV16 dc16 pm16 cd16 ct16 : Value} {od17 an17 : Option Addr} {sl17 : Array (Option Value)} {oc17 kV17 dc17 pm17 cd17 ct17 : Value} {od18 an18 : Option Addr} {sl18 : Array (Option Value)} {oc18 kV18 dc18 pm18 cd18 ct18 : Value} {od19 an19 : Option Addr} {sl19 : Array (Option Value)} {oc19 kV19 dc19 pm19 cd19 ct19 : Value} {od20 an20 : Option Addr} {sl20 : Array (Option Value)} {oc20 kV20 dc20 pm20 cd20 ct20 : Value} {od21 an21 : Option Addr} {sl21 : Array (Option Value)} {oc21 kV21 dc21 pm21 cd21 ct21 : Value} {od22 an22 : Option Addr} {sl22 : Array (Option Value)} {oc22 kV22 dc22 pm22 cd22 ct22 : Value} {od23 an23 : Option Addr} {sl23 : Array (Option Value)} {oc23 kV23 dc23 pm23 cd23 ct23 : Value} {od24 an24 : Option Addr} {sl24 : Array (Option Value)} {oc24 kV24 dc24 pm24 cd24 ct24 : Value} {od25 an25 : Option Addr} {sl25 : Array (Option Value)} {oc25 kV25 dc25 pm25 cd25 ct25 : Value} {od26 an26 : Option Addr} {sl26 : Array (Option Value)} {oc26 kV26 dc26 pm26 cd26 ct26 : Value}
    (a0 : PySem.W.nsIn K mainGlobals "place" = some (some (.ref f0)))
    (l0 : K.lookup f0 = some ⟨oc0, od0, .func (PySem.W.fnOf "place" "place" (defArgs s_place) (defBody s_place) (defScope s_place) .none kV0 dc0 pm0 an0 cd0 ct0), sl0⟩)
    (c0 : PySem.W.codeIn K cd0 "place" = true)
    (k0 : PySem.W.keepIn K (.ref f0) = true)
    (a1 : PySem.W.nsIn K mainGlobals "steps_of" = some (some (.ref f1)))
    (l1 : K.lookup f1 = some ⟨oc1, od1, .func (PySem.W.fnOf "steps_of" "steps_of" (defArgs s_steps_of) (defBody s_steps_of) (defScope s_steps_of) .none kV1 dc1 pm1 an1 cd1 ct1), sl1⟩)
    (c1 : PySem.W.codeIn K cd1 "steps_of" = true)
    (k1 : PySem.W.keepIn K (.ref f1) = true)
    (a2 : PySem.W.nsIn K mainGlobals "moved" = some (some (.ref f2)))
    (l2 : K.lookup f2 = some ⟨oc2, od2, .func (PySem.W.fnOf "moved" "moved" (defArgs s_moved) (defBody s_moved) (defScope s_moved) .none kV2 dc2 pm2 an2 cd2 ct2), sl2⟩)
    (c2 : PySem.W.codeIn K cd2 "moved" = true)
    (k2 : PySem.W.keepIn K (.ref f2) = true)
    (a3 : PySem.W.nsIn K mainGlobals "behind_word" = some (some (.ref f3)))
    (l3 : K.lookup f3 = some ⟨oc3, od3, .func (PySem.W.fnOf "behind_word" "behind_word" (defArgs s_behind_word) (defBody s_behind_word) (defScope s_behind_word) .none kV3 dc3 pm3 an3 cd3 ct3), sl3⟩)
    (c3 : PySem.W.codeIn K cd3 "behind_word" = true)
    (k3 : PySem.W.keepIn K (.ref f3) = true)
    (a4 : PySem.W.nsIn K mainGlobals "first_words" = some (some (.ref f4)))
    (l4 : K.lookup f4 = some ⟨oc4, od4, .func (PySem.W.fnOf "first_words" "first_words" (defArgs s_first_words) (defBody s_first_words) (defScope s_first_words) .none kV4 dc4 pm4 an4 cd4 ct4), sl4⟩)
    (c4 : PySem.W.codeIn K cd4 "first_words" = true)
    (k4 : PySem.W.keepIn K (.ref f4) = true)
    (a5 : PySem.W.nsIn K mainGlobals "least_lasso" = some (some (.ref f5)))
    (l5 : K.lookup f5 = some ⟨oc5, od5, .func (PySem.W.fnOf "least_lasso" "least_lasso" (defArgs s_least_lasso) (defBody s_least_lasso) (defScope s_least_lasso) .none kV5 dc5 pm5 an5 cd5 ct5), sl5⟩)
    (c5 : PySem.W.codeIn K cd5 "least_lasso" = true)
    (k5 : PySem.W.keepIn K (.ref f5) = true)
    (a6 : PySem.W.nsIn K mainGlobals "same_lasso" = some (some (.ref f6)))
    (l6 : K.lookup f6 = some ⟨oc6, od6, .func (PySem.W.fnOf "same_lasso" "same_lasso" (defArgs s_same_lasso) (defBody s_same_lasso) (defScope s_same_lasso) .none kV6 dc6 pm6 an6 cd6 ct6), sl6⟩)
    (c6 : PySem.W.codeIn K cd6 "same_lasso" = true)
    (k6 : PySem.W.keepIn K (.ref f6) = true)
    (a7 : PySem.W.nsIn K mainGlobals "behind" = some (some (.ref f7)))
    (l7 : K.lookup f7 = some ⟨oc7, od7, .func (PySem.W.fnOf "behind" "behind" (defArgs s_behind) (defBody s_behind) (defScope s_behind) .none kV7 dc7 pm7 an7 cd7 ct7), sl7⟩)
    (c7 : PySem.W.codeIn K cd7 "behind" = true)
    (k7 : PySem.W.keepIn K (.ref f7) = true)
    (a8 : PySem.W.nsIn K mainGlobals "letter_profile" = some (some (.ref f8)))
    (l8 : K.lookup f8 = some ⟨oc8, od8, .func (PySem.W.fnOf "letter_profile" "letter_profile" (defArgs s_letter_profile) (defBody s_letter_profile) (defScope s_letter_profile) .none kV8 dc8 pm8 an8 cd8 ct8), sl8⟩)
    (c8 : PySem.W.codeIn K cd8 "letter_profile" = true)
    (k8 : PySem.W.keepIn K (.ref f8) = true)
    (a9 : PySem.W.nsIn K mainGlobals "profile" = some (some (.ref f9)))
    (l9 : K.lookup f9 = some ⟨oc9, od9, .func (PySem.W.fnOf "profile" "profile" (defArgs s_profile) (defBody s_profile) (defScope s_profile) .none kV9 dc9 pm9 an9 cd9 ct9), sl9⟩)
    (c9 : PySem.W.codeIn K cd9 "profile" = true)
    (k9 : PySem.W.keepIn K (.ref f9) = true)
    (a10 : PySem.W.nsIn K mainGlobals "comes_to" = some (some (.ref f10)))
    (l10 : K.lookup f10 = some ⟨oc10, od10, .func (PySem.W.fnOf "comes_to" "comes_to" (defArgs s_comes_to) (defBody s_comes_to) (defScope s_comes_to) .none kV10 dc10 pm10 an10 cd10 ct10), sl10⟩)
    (c10 : PySem.W.codeIn K cd10 "comes_to" = true)
    (k10 : PySem.W.keepIn K (.ref f10) = true)
    (a11 : PySem.W.nsIn K mainGlobals "turns" = some (some (.ref f11)))
    (l11 : K.lookup f11 = some ⟨oc11, od11, .func (PySem.W.fnOf "turns" "turns" (defArgs s_turns) (defBody s_turns) (defScope s_turns) .none kV11 dc11 pm11 an11 cd11 ct11), sl11⟩)
    (c11 : PySem.W.codeIn K cd11 "turns" = true)
    (k11 : PySem.W.keepIn K (.ref f11) = true)
    (a12 : PySem.W.nsIn K mainGlobals "reads_lasso" = some (some (.ref f12)))
    (l12 : K.lookup f12 = some ⟨oc12, od12, .func (PySem.W.fnOf "reads_lasso" "reads_lasso" (defArgs s_reads_lasso) (defBody s_reads_lasso) (defScope s_reads_lasso) .none kV12 dc12 pm12 an12 cd12 ct12), sl12⟩)
    (c12 : PySem.W.codeIn K cd12 "reads_lasso" = true)
    (k12 : PySem.W.keepIn K (.ref f12) = true)
    (a13 : PySem.W.nsIn K mainGlobals "first_back" = some (some (.ref f13)))
    (l13 : K.lookup f13 = some ⟨oc13, od13, .func (PySem.W.fnOf "first_back" "first_back" (defArgs s_first_back) (defBody s_first_back) (defScope s_first_back) .none kV13 dc13 pm13 an13 cd13 ct13), sl13⟩)
    (c13 : PySem.W.codeIn K cd13 "first_back" = true)
    (k13 : PySem.W.keepIn K (.ref f13) = true)
    (a14 : PySem.W.nsIn K mainGlobals "some_lasso" = some (some (.ref f14)))
    (l14 : K.lookup f14 = some ⟨oc14, od14, .func (PySem.W.fnOf "some_lasso" "some_lasso" (defArgs s_some_lasso) (defBody s_some_lasso) (defScope s_some_lasso) .none kV14 dc14 pm14 an14 cd14 ct14), sl14⟩)
    (c14 : PySem.W.codeIn K cd14 "some_lasso" = true)
    (k14 : PySem.W.keepIn K (.ref f14) = true)
    (a15 : PySem.W.nsIn K mainGlobals "_law_start" = some (some (.ref f15)))
    (l15 : K.lookup f15 = some ⟨oc15, od15, .func (PySem.W.fnOf "_law_start" "_law_start" (defArgs s_law_start) (defBody s_law_start) (defScope s_law_start) .none kV15 dc15 pm15 an15 cd15 ct15), sl15⟩)
    (c15 : PySem.W.codeIn K cd15 "_law_start" = true)
    (k15 : PySem.W.keepIn K (.ref f15) = true)
    (a16 : PySem.W.nsIn K mainGlobals "_law_fill" = some (some (.ref f16)))
    (l16 : K.lookup f16 = some ⟨oc16, od16, .func (PySem.W.fnOf "_law_fill" "_law_fill" (defArgs s_law_fill) (defBody s_law_fill) (defScope s_law_fill) .none kV16 dc16 pm16 an16 cd16 ct16), sl16⟩)
    (c16 : PySem.W.codeIn K cd16 "_law_fill" = true)
    (k16 : PySem.W.keepIn K (.ref f16) = true)
    (a17 : PySem.W.nsIn K mainGlobals "_law_take" = some (some (.ref f17)))
    (l17 : K.lookup f17 = some ⟨oc17, od17, .func (PySem.W.fnOf "_law_take" "_law_take" (defArgs s_law_take) (defBody s_law_take) (defScope s_law_take) .none kV17 dc17 pm17 an17 cd17 ct17), sl17⟩)
    (c17 : PySem.W.codeIn K cd17 "_law_take" = true)
    (k17 : PySem.W.keepIn K (.ref f17) = true)
    (a18 : PySem.W.nsIn K mainGlobals "_law_automaton" = some (some (.ref f18)))
    (l18 : K.lookup f18 = some ⟨oc18, od18, .func (PySem.W.fnOf "_law_automaton" "_law_automaton" (defArgs s_law_automaton) (defBody s_law_automaton) (defScope s_law_automaton) .none kV18 dc18 pm18 an18 cd18 ct18), sl18⟩)
    (c18 : PySem.W.codeIn K cd18 "_law_automaton" = true)
    (k18 : PySem.W.keepIn K (.ref f18) = true)
    (a19 : PySem.W.nsIn K mainGlobals "_law_led" = some (some (.ref f19)))
    (l19 : K.lookup f19 = some ⟨oc19, od19, .func (PySem.W.fnOf "_law_led" "_law_led" (defArgs s_law_led) (defBody s_law_led) (defScope s_law_led) .none kV19 dc19 pm19 an19 cd19 ct19), sl19⟩)
    (c19 : PySem.W.codeIn K cd19 "_law_led" = true)
    (k19 : PySem.W.keepIn K (.ref f19) = true)
    (a20 : PySem.W.nsIn K mainGlobals "_law_behind" = some (some (.ref f20)))
    (l20 : K.lookup f20 = some ⟨oc20, od20, .func (PySem.W.fnOf "_law_behind" "_law_behind" (defArgs s_law_behind) (defBody s_law_behind) (defScope s_law_behind) .none kV20 dc20 pm20 an20 cd20 ct20), sl20⟩)
    (c20 : PySem.W.codeIn K cd20 "_law_behind" = true)
    (k20 : PySem.W.keepIn K (.ref f20) = true)
    (a21 : PySem.W.nsIn K mainGlobals "_law_first" = some (some (.ref f21)))
    (l21 : K.lookup f21 = some ⟨oc21, od21, .func (PySem.W.fnOf "_law_first" "_law_first" (defArgs s_law_first) (defBody s_law_first) (defScope s_law_first) .none kV21 dc21 pm21 an21 cd21 ct21), sl21⟩)
    (c21 : PySem.W.codeIn K cd21 "_law_first" = true)
    (k21 : PySem.W.keepIn K (.ref f21) = true)
    (a22 : PySem.W.nsIn K mainGlobals "_law_reads_lasso" = some (some (.ref f22)))
    (l22 : K.lookup f22 = some ⟨oc22, od22, .func (PySem.W.fnOf "_law_reads_lasso" "_law_reads_lasso" (defArgs s_law_reads_lasso) (defBody s_law_reads_lasso) (defScope s_law_reads_lasso) .none kV22 dc22 pm22 an22 cd22 ct22), sl22⟩)
    (c22 : PySem.W.codeIn K cd22 "_law_reads_lasso" = true)
    (k22 : PySem.W.keepIn K (.ref f22) = true)
    (a23 : PySem.W.nsIn K mainGlobals "_law_infinite" = some (some (.ref f23)))
    (l23 : K.lookup f23 = some ⟨oc23, od23, .func (PySem.W.fnOf "_law_infinite" "_law_infinite" (defArgs s_law_infinite) (defBody s_law_infinite) (defScope s_law_infinite) .none kV23 dc23 pm23 an23 cd23 ct23), sl23⟩)
    (c23 : PySem.W.codeIn K cd23 "_law_infinite" = true)
    (k23 : PySem.W.keepIn K (.ref f23) = true)
    (a24 : PySem.W.nsIn K mainGlobals "_law_least_lasso" = some (some (.ref f24)))
    (l24 : K.lookup f24 = some ⟨oc24, od24, .func (PySem.W.fnOf "_law_least_lasso" "_law_least_lasso" (defArgs s_law_least_lasso) (defBody s_law_least_lasso) (defScope s_law_least_lasso) .none kV24 dc24 pm24 an24 cd24 ct24), sl24⟩)
    (c24 : PySem.W.codeIn K cd24 "_law_least_lasso" = true)
    (k24 : PySem.W.keepIn K (.ref f24) = true)
    (a25 : PySem.W.nsIn K mainGlobals "_law_some" = some (some (.ref f25)))
    (l25 : K.lookup f25 = some ⟨oc25, od25, .func (PySem.W.fnOf "_law_some" "_law_some" (defArgs s_law_some) (defBody s_law_some) (defScope s_law_some) .none kV25 dc25 pm25 an25 cd25 ct25), sl25⟩)
    (c25 : PySem.W.codeIn K cd25 "_law_some" = true)
    (k25 : PySem.W.keepIn K (.ref f25) = true)
    (a26 : PySem.W.nsIn K mainGlobals "law" = some (some (.ref f26)))
    (l26 : K.lookup f26 = some ⟨oc26, od26, .func (PySem.W.fnOf "law" "law" (defArgs s_law) (defBody s_law) (defScope s_law) .none kV26 dc26 pm26 an26 cd26 ct26), sl26⟩)
    (c26 : PySem.W.codeIn K cd26 "law" = true)
    (k26 : PySem.W.keepIn K (.ref f26) = true)
    (z_all : PySem.W.nsIn K mainGlobals "all" = some none)
    (z_any : PySem.W.nsIn K mainGlobals "any" = some none)
    (z_dict : PySem.W.nsIn K mainGlobals "dict" = some none)
    (z_enumerate : PySem.W.nsIn K mainGlobals "enumerate" = some none)
    (z_int : PySem.W.nsIn K mainGlobals "int" = some none)
    (z_len : PySem.W.nsIn K mainGlobals "len" = some none)
    (z_list : PySem.W.nsIn K mainGlobals "list" = some none)
    (z_max : PySem.W.nsIn K mainGlobals "max" = some none)
    (z_min : PySem.W.nsIn K mainGlobals "min" = some none)
    (z_range : PySem.W.nsIn K mainGlobals "range" = some none)
    (z_set : PySem.W.nsIn K mainGlobals "set" = some none)
    (z_sorted : PySem.W.nsIn K mainGlobals "sorted" = some none)
    (z_tuple : PySem.W.nsIn K mainGlobals "tuple" = some none)
    : ∃ fd : FuncData, (∀ (s : Shared) (v : Value), BindsTo s fd ⟨[v], []⟩ [("script", v)]) ∧ ∀ base : Heap, K.In base → base.Ns mainGlobals mg → FnOk l.prog w K mg base CX0 4 fa fd ["script"] (spLaw K) := by
  have e := hfa.symm.trans (PySem.W.mg_of X G a26)
  cases e
  have F0 := fun_mk (st := s_place) l0 c0 k0
  have b0 := F0.binds (ps := ["word"]) fun _ _ _ _ _ _ us hl => match us, hl with | [_], _ => rfl
  have F1 := fun_mk (st := s_steps_of) l1 c1 k1
  have b1 := F1.binds (ps := ["automaton"]) fun _ _ _ _ _ _ us hl => match us, hl with | [_], _ => rfl
  have F2 := fun_mk (st := s_moved) l2 c2 k2
  have b2 := F2.binds (ps := ["steps", "states", "letter"]) fun _ _ _ _ _ _ us hl => match us, hl with | [_, _, _], _ => rfl
  have F3 := fun_mk (st := s_behind_word) l3 c3 k3
  have b3 := F3.binds (ps := ["steps", "states", "word"]) fun _ _ _ _ _ _ us hl => match us, hl with | [_, _, _], _ => rfl
  have F4 := fun_mk (st := s_first_words) l4 c4 k4
  have b4 := F4.binds (ps := ["steps", "starts", "letters"]) fun _ _ _ _ _ _ us hl => match us, hl with | [_, _, _], _ => rfl
  have F5 := fun_mk (st := s_least_lasso) l5 c5 k5
  have b5 := F5.binds (ps := ["u", "v"]) fun _ _ _ _ _ _ us hl => match us, hl with | [_, _], _ => rfl
  have F6 := fun_mk (st := s_same_lasso) l6 c6 k6
  have b6 := F6.binds (ps := ["first", "second"]) fun _ _ _ _ _ _ us hl => match us, hl with | [_, _], _ => rfl
  have F7 := fun_mk (st := s_behind) l7 c7 k7
  have b7 := F7.binds (ps := ["first", "second"]) fun _ _ _ _ _ _ us hl => match us, hl with | [_, _], _ => rfl
  have F8 := fun_mk (st := s_letter_profile) l8 c8 k8
  have b8 := F8.binds (ps := ["steps", "marks", "letter"]) fun _ _ _ _ _ _ us hl => match us, hl with | [_, _, _], _ => rfl
  have F9 := fun_mk (st := s_profile) l9 c9 k9
  have b9 := F9.binds (ps := ["steps", "marks", "word"]) fun _ _ _ _ _ _ us hl => match us, hl with | [_, _, _], _ => rfl
  have F10 := fun_mk (st := s_comes_to) l10 c10 k10
  have b10 := F10.binds (ps := ["table", "p", "q"]) fun _ _ _ _ _ _ us hl => match us, hl with | [_, _, _], _ => rfl
  have F11 := fun_mk (st := s_turns) l11 c11 k11
  have b11 := F11.binds (ps := ["starts", "first", "second"]) fun _ _ _ _ _ _ us hl => match us, hl with | [_, _, _], _ => rfl
  have F12 := fun_mk (st := s_reads_lasso) l12 c12 k12
  have b12 := F12.binds (ps := ["automaton", "u", "v"]) fun _ _ _ _ _ _ us hl => match us, hl with | [_, _, _], _ => rfl
  have F13 := fun_mk (st := s_first_back) l13 c13 k13
  have b13 := F13.binds (ps := ["steps", "state", "letters"]) fun _ _ _ _ _ _ us hl => match us, hl with | [_, _, _], _ => rfl
  have F14 := fun_mk (st := s_some_lasso) l14 c14 k14
  have b14 := F14.binds (ps := ["automaton"]) fun _ _ _ _ _ _ us hl => match us, hl with | [_], _ => rfl
  have F15 := fun_mk (st := s_law_start) l15 c15 k15
  have b15 := F15.binds (ps := ["script"]) fun _ _ _ _ _ _ us hl => match us, hl with | [_], _ => rfl
  have F16 := fun_mk (st := s_law_fill) l16 c16 k16
  have b16 := F16.binds (ps := ["c"]) fun _ _ _ _ _ _ us hl => match us, hl with | [_], _ => rfl
  have F17 := fun_mk (st := s_law_take) l17 c17 k17
  have b17 := F17.binds (ps := ["c", "many"]) fun _ _ _ _ _ _ us hl => match us, hl with | [_, _], _ => rfl
  have F18 := fun_mk (st := s_law_automaton) l18 c18 k18
  have b18 := F18.binds (ps := ["c", "letters"]) fun _ _ _ _ _ _ us hl => match us, hl with | [_, _], _ => rfl
  have F19 := fun_mk (st := s_law_led) l19 c19 k19
  have b19 := F19.binds (ps := ["automaton", "states", "letter"]) fun _ _ _ _ _ _ us hl => match us, hl with | [_, _, _], _ => rfl
  have F20 := fun_mk (st := s_law_behind) l20 c20 k20
  have b20 := F20.binds (ps := ["automaton", "word"]) fun _ _ _ _ _ _ us hl => match us, hl with | [_, _], _ => rfl
  have F21 := fun_mk (st := s_law_first) l21 c21 k21
  have b21 := F21.binds (ps := ["automaton", "states", "goals", "least"]) fun _ _ _ _ _ _ us hl => match us, hl with | [_, _, _, _], _ => rfl
  have F22 := fun_mk (st := s_law_reads_lasso) l22 c22 k22
  have b22 := F22.binds (ps := ["automaton", "u", "v"]) fun _ _ _ _ _ _ us hl => match us, hl with | [_, _, _], _ => rfl
  have F23 := fun_mk (st := s_law_infinite) l23 c23 k23
  have b23 := F23.binds (ps := ["u", "v", "many"]) fun _ _ _ _ _ _ us hl => match us, hl with | [_, _, _], _ => rfl
  have F24 := fun_mk (st := s_law_least_lasso) l24 c24 k24
  have b24 := F24.binds (ps := ["u", "v"]) fun _ _ _ _ _ _ us hl => match us, hl with | [_, _], _ => rfl
  have F25 := fun_mk (st := s_law_some) l25 c25 k25
  have b25 := F25.binds (ps := ["automaton"]) fun _ _ _ _ _ _ us hl => match us, hl with | [_], _ => rfl
  have F26 := fun_mk (st := s_law) l26 c26 k26
  have b26 := F26.binds (ps := ["script"]) fun _ _ _ _ _ _ us hl => match us, hl with | [_], _ => rfl
  have B : BF mg := ⟨PySem.W.mg_none_of X G z_all, PySem.W.mg_none_of X G z_any, PySem.W.mg_none_of X G z_dict, PySem.W.mg_none_of X G z_enumerate, PySem.W.mg_none_of X G z_int, PySem.W.mg_none_of X G z_len, PySem.W.mg_none_of X G z_list, PySem.W.mg_none_of X G z_max, PySem.W.mg_none_of X G z_min, PySem.W.mg_none_of X G z_range, PySem.W.mg_none_of X G z_set, PySem.W.mg_none_of X G z_sorted, PySem.W.mg_none_of X G z_tuple⟩
  refine ⟨PySem.W.fnOf "law" "law" (defArgs s_law) (defBody s_law) (defScope s_law) .none kV26 dc26 pm26 an26 cd26 ct26, fun s v => .of_eq rfl, fun base _ _ => ?_⟩
  have t0 : Cal l.prog w K mg base "place" 1 ["word"] (Pure K f_place) := ok_place B F0 (PySem.W.mg_of X G a0) b0 
  have t1 : Cal l.prog w K mg base "steps_of" 1 ["automaton"] (Pure K f_steps_of) := ok_steps_of B F1 (PySem.W.mg_of X G a1) b1 
  have t2 : Cal l.prog w K mg base "moved" 1 ["steps", "states", "letter"] (Pure K f_moved) := ok_moved B F2 (PySem.W.mg_of X G a2) b2 
  have t3 : Cal l.prog w K mg base "behind_word" 2 ["steps", "states", "word"] (Pure K f_behind_word) := ok_behind_word B F3 (PySem.W.mg_of X G a3) b3 t2
  have t4 : Cal l.prog w K mg base "first_words" 1 ["steps", "starts", "letters"] (Pure K f_first_words) := ok_first_words B F4 (PySem.W.mg_of X G a4) b4 
  have t5 : Cal l.prog w K mg base "least_lasso" 1 ["u", "v"] (Pure K f_least_lasso) := ok_least_lasso B F5 (PySem.W.mg_of X G a5) b5 
  have t6 : Cal l.prog w K mg base "same_lasso" 2 ["first", "second"] (Pure K f_same_lasso) := ok_same_lasso B F6 (PySem.W.mg_of X G a6) b6 t5
  have t7 : Cal l.prog w K mg base "behind" 1 ["first", "second"] (Pure K f_behind) := ok_behind B F7 (PySem.W.mg_of X G a7) b7 
  have t8 : Cal l.prog w K mg base "letter_profile" 1 ["steps", "marks", "letter"] (Pure K f_letter_profile) := ok_letter_profile B F8 (PySem.W.mg_of X G a8) b8 
  have t9 : Cal l.prog w K mg base "profile" 2 ["steps", "marks", "word"] (Pure K f_profile) := ok_profile B F9 (PySem.W.mg_of X G a9) b9 t8 t7
  have t10 : Cal l.prog w K mg base "comes_to" 1 ["table", "p", "q"] (Pure K f_comes_to) := ok_comes_to B F10 (PySem.W.mg_of X G a10) b10 
  have t11 : Cal l.prog w K mg base "turns" 2 ["starts", "first", "second"] (Pure K f_turns) := ok_turns B F11 (PySem.W.mg_of X G a11) b11 t10
  have t12 : Cal l.prog w K mg base "reads_lasso" 3 ["automaton", "u", "v"] (Pure K f_reads_lasso) := ok_reads_lasso B F12 (PySem.W.mg_of X G a12) b12 t9 t11 t3 t1
  have t13 : Cal l.prog w K mg base "first_back" 2 ["steps", "state", "letters"] (Pure K f_first_back) := ok_first_back B F13 (PySem.W.mg_of X G a13) b13 t0 t4
  have t14 : Cal l.prog w K mg base "some_lasso" 3 ["automaton"] (Pure K f_some_lasso) := ok_some_lasso B F14 (PySem.W.mg_of X G a14) b14 t0 t13 t4 t1
  have t15 : Cal l.prog w K mg base "_law_start" 1 ["script"] (PureL K f_law_start) := ok_law_start B F15 (PySem.W.mg_of X G a15) b15 
  have t16 : Cal l.prog w K mg base "_law_fill" 1 ["c"] (InOut K f_law_fill) := ok_law_fill B F16 (PySem.W.mg_of X G a16) b16 
  have t17 : Cal l.prog w K mg base "_law_take" 2 ["c", "many"] (InOut K f_law_take) := ok_law_take B F17 (PySem.W.mg_of X G a17) b17 t16
  have t18 : Cal l.prog w K mg base "_law_automaton" 3 ["c", "letters"] (InOut K f_law_automaton) := ok_law_automaton B F18 (PySem.W.mg_of X G a18) b18 t17
  have t19 : Cal l.prog w K mg base "_law_led" 1 ["automaton", "states", "letter"] (Pure K f_law_led) := ok_law_led B F19 (PySem.W.mg_of X G a19) b19 
  have t20 : Cal l.prog w K mg base "_law_behind" 2 ["automaton", "word"] (Pure K f_law_behind) := ok_law_behind B F20 (PySem.W.mg_of X G a20) b20 t19
  have t21 : Cal l.prog w K mg base "_law_first" 2 ["automaton", "states", "goals", "least"] (Pure K f_law_first) := ok_law_first B F21 (PySem.W.mg_of X G a21) b21 t19
  have t22 : Cal l.prog w K mg base "_law_reads_lasso" 3 ["automaton", "u", "v"] (Pure K f_law_reads_lasso) := ok_law_reads_lasso B F22 (PySem.W.mg_of X G a22) b22 t20
  have t23 : Cal l.prog w K mg base "_law_infinite" 1 ["u", "v", "many"] (Pure K f_law_infinite) := ok_law_infinite B F23 (PySem.W.mg_of X G a23) b23 
  have t24 : Cal l.prog w K mg base "_law_least_lasso" 2 ["u", "v"] (Pure K f_law_least_lasso) := ok_law_least_lasso B F24 (PySem.W.mg_of X G a24) b24 t23
  have t25 : Cal l.prog w K mg base "_law_some" 3 ["automaton"] (Pure K f_law_some) := ok_law_some B F25 (PySem.W.mg_of X G a25) b25 t21
  exact (ok_law B F26 (PySem.W.mg_of X G a26) b26 t22 t25 t14 t12 t6 t23 t17 t24 t5 t18 t15).imp (sp_imp ok)
end
end K63

namespace K63
open PySem PySem.Spec L2 DL

/-! ### the combinators' equations -/
section
variable (ρ : Sls) (f g h : FE) (fl gl : FL) (F G : FS) (t u : FT) (d e z : D) (i j : Nat)
@[simp] theorem e_seq : fSeq F G ρ = (F ρ).bind fun o => match o with | .nx ρ1 => G ρ1 | o => some o := id rfl
@[simp] theorem e_ret : fRet f ρ = (f ρ).bind fun r => some (.rt r.1 r.2) := id rfl
@[simp] theorem e_retL : fRetL fl ρ = (fl ρ).bind fun r => some (.rl r.1 r.2) := id rfl
@[simp] theorem e_tup : fTup fl ρ = (fl ρ).bind fun q => if q.1.length ≤ 1000 then some (.tup q.1, q.2) else none := id rfl
@[simp] theorem e_lst : fLst fl ρ = (fl ρ).bind fun q => if q.1.length ≤ 1000 then some q else none := id rfl
@[simp] theorem e_cons : fCons f fl ρ = (f ρ).bind fun r => (fl r.2).bind fun q => some (r.1 :: q.1, q.2) := id rfl
@[simp] theorem e_nil : fNil ρ = some ([], ρ) := id rfl
@[simp] theorem e_c : fC d ρ = some (d, ρ) := id rfl
@[simp] theorem e_nx : fNx ρ = some (.nx ρ) := id rfl
theorem e_var : fVar i ρ = match ρ[i]? with
  | some (.d x) => some (x, ρ)
  | some (.ml xs) => some (.lst xs, ρ.set i (.d (.lst xs)))
  | some (.mK kvs) => some (.dk kvs, ρ.set i (.d (.dk kvs)))
  | some (.mT kvs) => some (.dt kvs, ρ.set i (.d (.dt kvs)))
  | _ => none := id rfl
theorem v_d {x : D} (h : ρ[i]? = some (.d x)) : fVar i ρ = some (x, ρ) := by rw [e_var, h]
theorem v_ml {xs : List D} (h : ρ[i]? = some (.ml xs)) : fVar i ρ = some (.lst xs, ρ.set i (.d (.lst xs))) := by rw [e_var, h]
theorem v_mK {xs : List (Key × D)} (h : ρ[i]? = some (.mK xs)) : fVar i ρ = some (.dk xs, ρ.set i (.d (.dk xs))) := by rw [e_var, h]
theorem v_mT {xs : List (List Key × D)} (h : ρ[i]? = some (.mT xs)) : fVar i ρ = some (.dt xs, ρ.set i (.d (.dt xs))) := by rw [e_var, h]
@[simp] theorem e_look : fLook i ρ = (ρ[i]?.bind Sl.view).map fun x => (x, ρ) := id rfl
@[simp] theorem w_d : Sl.view (.d d) = some d := id rfl
@[simp] theorem w_ml (xs : List D) : Sl.view (.ml xs) = some (.lst xs) := id rfl
@[simp] theorem w_io (xs : List D) : Sl.view (.io xs) = some (.lst xs) := id rfl
@[simp] theorem w_mK (xs : List (Key × D)) : Sl.view (.mK xs) = some (.dk xs) := id rfl
@[simp] theorem w_mT (xs : List (List Key × D)) : Sl.view (.mT xs) = some (.dt xs) := id rfl
@[simp] theorem e_bin (o : D → D → Option D) : fBin o f g ρ = (f ρ).bind fun r => (g r.2).bind fun q => (o r.1 q.1).bind fun z => some (z, q.2) := id rfl
@[simp] theorem e_binN (o : D → D → Option D) : fBinN o i g ρ = (ρ[i]?.bind Sl.view).bind fun _ => (g ρ).bind fun q => (q.2[i]?.bind Sl.view).bind fun x => (o x q.1).bind fun z => some (z, q.2) := id rfl
@[simp] theorem e_app (o : D → Option D) : fApp o f ρ = (f ρ).bind fun r => (o r.1).bind fun z => some (z, r.2) := id rfl
@[simp] theorem e_appL (o : D → Option (List D)) : fAppL o f ρ = (f ρ).bind fun r => (o r.1).bind fun z => some (z, r.2) := id rfl
@[simp] theorem e_call (o : List D → Option D) : fCall o fl ρ = (fl ρ).bind fun r => (o r.1).bind fun z => some (z, r.2) := id rfl
@[simp] theorem e_callL (o : List D → Option (List D)) : fCallL o fl ρ = (fl ρ).bind fun r => (o r.1).bind fun z => some (z, r.2) := id rfl
@[simp] theorem e_ifS : fIfS t F G ρ = (t ρ).bind fun r => if r.1 = true then F r.2 else G r.2 := id rfl
@[simp] theorem e_asg (k : D → Sls → Option Sls) : fAsg f k ρ = (f ρ).bind fun r => (k r.1 r.2).bind fun ρ1 => some (.nx ρ1) := id rfl
@[simp] theorem e_setL : fSetL fl i ρ = (fl ρ).bind fun r => some (.nx (r.2.set i (.ml r.1))) := id rfl
@[simp] theorem e_setK (k : FK) : fSetK k i ρ = (k ρ).bind fun r => some (.nx (r.2.set i (.mK r.1))) := id rfl
@[simp] theorem e_setT (k : FKT) : fSetT k i ρ = (k ρ).bind fun r => some (.nx (r.2.set i (.mT r.1))) := id rfl
@[simp] theorem e_for (k : D → Sls → Option Sls) : fFor fl k F ρ = (fl ρ).bind fun r => forD k F r.1 r.2 := id rfl
@[simp] theorem e_items : fItems f ρ = (f ρ).bind fun r => (itemsD r.1).bind fun ds => some (ds, r.2) := id rfl
@[simp] theorem e_test : fTest f ρ = (f ρ).bind fun r => match r.1 with | .bl k => some (k, r.2) | _ => none := id rfl
@[simp] theorem e_tru : fTru f ρ = (f ρ).bind fun r => (truD r.1).bind fun k => some (k, r.2) := id rfl
@[simp] theorem e_not : fNot f ρ = (f ρ).bind fun r => (truD r.1).bind fun k => some (.bl (!k), r.2) := id rfl
@[simp] theorem e_notT : fNotT t ρ = (t ρ).bind fun r => some (!r.1, r.2) := id rfl
@[simp] theorem e_and : fAnd f g ρ = (f ρ).bind fun r => (truD r.1).bind fun k => if k = true then g r.2 else some r := id rfl
@[simp] theorem e_or : fOr f g ρ = (f ρ).bind fun r => (truD r.1).bind fun k => if k = true then some r else g r.2 := id rfl
@[simp] theorem e_andT : fAndT t u ρ = (t ρ).bind fun r => if r.1 = true then u r.2 else some (false, r.2) := id rfl
@[simp] theorem e_orT : fOrT t u ρ = (t ρ).bind fun r => if r.1 = true then some (true, r.2) else u r.2 := id rfl
@[simp] theorem e_gset : gSet i d ρ = some (ρ.set i (.d d)) := id rfl
@[simp] theorem e_gsnil : gsNil [] ρ = some ρ := id rfl
@[simp] theorem e_gscons (k : D → Sls → Option Sls) (l : List D → Sls → Option Sls) (ds : List D) : gsCons k l (d :: ds) ρ = (k d ρ).bind fun ρ1 => l ds ρ1 := id rfl
@[simp] theorem e_gtup (l : List D → Sls → Option Sls) (ds : List D) : gTupD i l (.tup ds) ρ = if ds.length = i then l ds ρ else none := id rfl
@[simp] theorem e_ofL : fOfL fl ρ = (fl ρ).bind fun r => some (.lst r.1, r.2) := id rfl
@[simp] theorem e_ofD (k : FK) : fOfD k ρ = (k ρ).bind fun r => some (.dk r.1, r.2) := id rfl
@[simp] theorem e_ofT (k : FKT) : fOfT k ρ = (k ρ).bind fun r => some (.dt r.1, r.2) := id rfl
@[simp] theorem e_drop : fDrop f ρ = (f ρ).bind fun r => some (.nx r.2) := id rfl
@[simp] theorem e_oso : fOso f ρ = (f ρ).bind fun r => match r.1 with | .int i => some (some i, r.2) | _ => none := id rfl
@[simp] theorem e_ono : fOno ρ = some (none, ρ) := id rfl
@[simp] theorem e_in : fIn f g ρ = fBin (fun x y => (memD x y).map .bl) f g ρ := id rfl
@[simp] theorem e_notin : fNotIn f g ρ = fBin (fun x y => (memD x y).map fun b => .bl (!b)) f g ρ := id rfl
@[simp] theorem e_isN (b : Bool) : fIsN b f ρ = (f ρ).bind fun r => some (.bl (match r.1 with | .non => !b | _ => b), r.2) := id rfl
@[simp] theorem e_put : fPut i f g ρ = (g ρ).bind fun r => (f r.2).bind fun q => (r.2[i]?.bind Sl.view).bind fun _ => (q.2[i]?).bind fun s => (putS s q.1 r.1).bind fun t => some (.nx (q.2.set i t)) := id rfl
@[simp] theorem e_append : fAppend i f ρ = if isOwnL ρ i = true then fApd i f ρ else none := id rfl
@[simp] theorem e_apd : fApd i f ρ = (ρ[i]?.bind Sl.view).bind fun _ => (f ρ).bind fun r => match r.2[i]? with
  | some (.ml xs) => if xs.length < 1000000 then some (.nx (r.2.set i (.ml (xs ++ [r.1])))) else none
  | some (.io xs) => if xs.length < 1000000 then some (.nx (r.2.set i (.io (xs ++ [r.1])))) else none
  | _ => none := id rfl
@[simp] theorem e_own : isOwnL ρ i = match ρ[i]? with | some (.ml _) => true | some (.io _) => true | _ => false := id rfl
@[simp] theorem e_pop : fPop i ρ = match ρ[i]? with
  | some (.ml xs) => (xs[xs.length - 1]?).bind fun d => some (d, ρ.set i (.ml xs.dropLast))
  | _ => none := id rfl
@[simp] theorem e_nE : nE f ρ = (f ρ).bind fun r => some (.d r.1, r.2) := id rfl
@[simp] theorem e_nL : nL fl ρ = (fl ρ).bind fun r => some (.ml r.1, r.2) := id rfl
@[simp] theorem e_nK (k : FK) : nK k ρ = (k ρ).bind fun r => some (.mK r.1, r.2) := id rfl
@[simp] theorem e_nT (k : FKT) : nT k ρ = (k ρ).bind fun r => some (.mT r.1, r.2) := id rfl
@[simp] theorem e_par (k l : FN) : fPar i j k l ρ = (k ρ).bind fun r => (l r.2).bind fun q => if i < q.2.length then some (.nx ((q.2.set i r.1).set j q.1)) else none := id rfl
@[simp] theorem e_dispK : fDispK f g ρ = (f ρ).bind fun r => (g r.2).bind fun q => (keyOf r.1).bind fun k => some ([(k, q.1)], q.2) := id rfl
@[simp] theorem e_slL (o p : Sls → Option (Option Int × Sls)) : fSlL f o p ρ = (f ρ).bind fun r => (o r.2).bind fun p1 => (p p1.2).bind fun q => match r.1 with
  | .lst ds => some (cutD ds p1.1 q.1, q.2)
  | .scr ns => some ((cutD ns p1.1 q.1).map .int, q.2)
  | _ => none := id rfl
@[simp] theorem e_rng1 : fRng1 fl ρ = (fl ρ).bind fun r => match r.1 with | [.int n] => if rgOk n = true then some (rngD 0 n, r.2) else none | _ => none := id rfl
@[simp] theorem e_rng2 : fRng2 fl ρ = (fl ρ).bind fun r => match r.1 with | [.int m, .int n] => if rgOk m = true ∧ rgOk n = true then some (rngD m n, r.2) else none | _ => none := id rfl
@[simp] theorem e_slS (o p : Sls → Option (Option Int × Sls)) : fSlS f o p ρ = (f ρ).bind fun r => (o r.2).bind fun p1 => (p p1.2).bind fun q => match r.1 with | .str z => if z.length ≤ 1000000 then some (.str (cutS z p1.1 q.1), q.2) else none | _ => none := id rfl
@[simp] theorem e_get2 : fGet2 f g h ρ = (f ρ).bind fun r => (g r.2).bind fun p => (h p.2).bind fun q => (getD2 r.1 p.1 q.1).bind fun z => some (z, q.2) := id rfl
@[simp] theorem e_get2N : fGet2N i f g ρ = (ρ[i]?.bind Sl.view).bind fun _ => (f ρ).bind fun p => (g p.2).bind fun q => (q.2[i]?.bind Sl.view).bind fun d => (getD2 d p.1 q.1).bind fun z => some (z, q.2) := id rfl
@[simp] theorem e_getN : fGetN i f g ρ = ((ρ[i]?.bind Sl.view).bind fun d => if isDct d = true then fGet2N i f g ρ else none) := id rfl
@[simp] theorem e_enum : fEnum fl ρ = (fl ρ).bind fun r => match r.1 with | [.lst ds] => some (enumD ds, r.2) | _ => none := id rfl
@[simp] theorem e_lc (k : D → Sls → Option Sls) (vs : List Nat) : fLc fl k t f vs ρ = (fl ρ).bind fun r => if r.1.length ≤ 1000000 then lcD k t f vs r.1 [] (wipeS r.2 vs) else none := id rfl
@[simp] theorem e_dc {α : Type} (k : D → Sls → Option Sls) (b : α → Sls → Option (α × Sls)) (vs : List Nat) (a : α) : fDc fl k t b vs a ρ = (fl ρ).bind fun r => itD k t b vs r.1 a (wipeS r.2 vs) := id rfl
@[simp] theorem e_bodyK (kvs : List (Key × D)) : bodyK f g kvs ρ = (f ρ).bind fun a => (g a.2).bind fun b => (keyOf a.1).bind fun k => if kvs.length < 1000000 then some (putD kvs k b.1, b.2) else none := id rfl
@[simp] theorem e_bodyT (kvs : List (List Key × D)) : bodyT f g kvs ρ = (f ρ).bind fun a => (g a.2).bind fun b => match a.1 with
  | .tup ks => (keysOf ks).bind fun k => if kvs.length < 1000000 then some (putD kvs k b.1, b.2) else none
  | _ => none := id rfl
@[simp] theorem e_bodyIn {α : Type} (k : D → Sls → Option Sls) (b : α → Sls → Option (α × Sls)) (vs : List Nat) (a : α) : bodyIn fl k t b vs a ρ = (fl ρ).bind fun r => itD k t b vs r.1 a (wipeS r.2 vs) := id rfl
@[simp] theorem e_bodyL (acc : List D) : bodyL f acc ρ = (f ρ).bind fun y => if acc.length < 1000000 then some (acc ++ [y.1], y.2) else none := id rfl
@[simp] theorem e_wnil : wipeS ρ [] = ρ := id rfl
@[simp] theorem e_wcons (vs : List Nat) : wipeS ρ (i :: vs) = (wipeS ρ vs).set i .no := id rfl
@[simp] theorem it_lst (ds : List D) : itemsD (.lst ds) = some ds := id rfl
@[simp] theorem it_tup (ds : List D) : itemsD (.tup ds) = some ds := id rfl
@[simp] theorem it_dk (kvs : List (Key × D)) : itemsD (.dk kvs) = some (kvs.map fun p => kD p.1) := id rfl
@[simp] theorem it_dt (kvs : List (List Key × D)) : itemsD (.dt kvs) = some (kvs.map fun p => tD p.1) := id rfl
@[simp] theorem ko_int (n : Int) : keyOf (.int n) = some (.inl n) := id rfl
@[simp] theorem ko_str (x : Str) : keyOf (.str x) = some (.inr x) := id rfl
@[simp] theorem kos_nil : keysOf [] = some [] := id rfl
@[simp] theorem kos_cons (ds : List D) : keysOf (d :: ds) = (keyOf d).bind fun k => (keysOf ds).bind fun ks => some (k :: ks) := id rfl
@[simp] theorem tru_bl (b : Bool) : truD (.bl b) = some b := id rfl
@[simp] theorem tru_lst (xs : List D) : truD (.lst xs) = some (!xs.isEmpty) := id rfl
@[simp] theorem int_int (n : Int) : intD (.int n) = some (.int n) := id rfl
@[simp] theorem int_bl (b : Bool) : intD (.bl b) = some (.int (if b = true then 1 else 0)) := id rfl
@[simp] theorem tup_lst (ds : List D) : tupleD (.lst ds) = some (.tup ds) := id rfl
@[simp] theorem tup_tup (ds : List D) : tupleD (.tup ds) = some (.tup ds) := id rfl
@[simp] theorem ix_lst (ds : List D) (n : Int) : ixD (.lst ds) (.int n) = atI ds n := id rfl
@[simp] theorem ix_tup (ds : List D) (n : Int) : ixD (.tup ds) (.int n) = atI ds n := id rfl
@[simp] theorem ps_ml (xs : List D) (n : Int) : putS (.ml xs) (.int n) e = (ixN xs.length n).map fun j => .ml (xs.set j e) := id rfl
@[simp] theorem ps_io (xs : List D) (n : Int) : putS (.io xs) (.int n) e = (ixN xs.length n).map fun j => .io (xs.set j e) := id rfl
@[simp] theorem ps_mK (xs : List (Key × D)) : putS (.mK xs) d e = (keyOf d).bind fun k => if xs.length < 1000000 then some (.mK (putD xs k e)) else none := id rfl
@[simp] theorem ps_mT (xs : List (List Key × D)) (ks : List D) : putS (.mT xs) (.tup ks) e = (keysOf ks).bind fun k => if xs.length < 1000000 then some (.mT (putD xs k e)) else none := id rfl
@[simp] theorem add_int (m n : Int) : addD (.int m) (.int n) = some (.int (m + n)) := id rfl
@[simp] theorem sub_int (m n : Int) : subD (.int m) (.int n) = some (.int (m - n)) := id rfl
@[simp] theorem max_int (m n : Int) : max2D [.int m, .int n] = some (.int (if n > m then n else m)) := id rfl
@[simp] theorem eq_int (m n : Int) : eqD (.int m) (.int n) = some (.bl (m == n)) := id rfl
@[simp] theorem eq_str (m n : Str) : eqD (.str m) (.str n) = some (.bl (m == n)) := id rfl
@[simp] theorem ne_str (m n : Str) : neD (.str m) (.str n) = some (.bl (!(m == n))) := id rfl
@[simp] theorem eq_bl (m n : Bool) : eqD (.bl m) (.bl n) = some (.bl (m == n)) := id rfl
@[simp] theorem ne_bl (m n : Bool) : neD (.bl m) (.bl n) = some (.bl (!(m == n))) := id rfl
@[simp] theorem ne_int (m n : Int) : neD (.int m) (.int n) = some (.bl (!(m == n))) := id rfl
@[simp] theorem lt_int (m n : Int) : ltD (.int m) (.int n) = some (.bl (decide (m < n))) := id rfl
@[simp] theorem ge_int (m n : Int) : geD (.int m) (.int n) = some (.bl (decide (n ≤ m))) := id rfl
@[simp] theorem mem_dk (kvs : List (Key × D)) : memD d (.dk kvs) = (keyOf d).map fun k => (getK kvs k).isSome := by cases d <;> exact id rfl
@[simp] theorem mem_dt (ks : List D) (kvs : List (List Key × D)) : memD (.tup ks) (.dt kvs) = (keysOf ks).map fun k => (getK kvs k).isSome := id rfl
@[simp] theorem get_dk (kvs : List (Key × D)) : getD2 (.dk kvs) d e = (keyOf d).map fun k => (getK kvs k).getD e := id rfl
@[simp] theorem get_dt (ks : List D) (kvs : List (List Key × D)) : getD2 (.dt kvs) (.tup ks) e = (keysOf ks).map fun k => (getK kvs k).getD e := id rfl
@[simp] theorem dct_dk (kvs : List (Key × D)) : isDct (.dk kvs) = true := id rfl
@[simp] theorem dct_dt (kvs : List (List Key × D)) : isDct (.dt kvs) = true := id rfl
@[simp] theorem len_lst (xs : List D) : lenD (.lst xs) = some (.int xs.length) := id rfl
@[simp] theorem io_at (cs : List D) : ioAt (.io cs :: ρ) d = some (d, cs) := id rfl
@[simp] theorem len_tup (xs : List D) : lenD (.tup xs) = some (.int xs.length) := id rfl
end
/-! ### places -/
theorem ixN_nat (n i : Nat) : ixN n (i : Int) = if i < n then some i else none := by
  unfold ixN
  by_cases h : i < n
  · simp [h]
  · simp [h]
@[simp] theorem atI_nat {α : Type} (xs : List α) (i : Nat) : atI xs (i : Int) = xs[i]? := by
  unfold atI
  rw [ixN_nat]
  by_cases h : i < xs.length
  · simp [h]
  · simp [h, List.getElem?_eq_none (Nat.le_of_not_lt h)]
@[simp] theorem atI_0 {α : Type} (xs : List α) : atI xs 0 = xs[0]? := atI_nat xs 0
@[simp] theorem atI_1 {α : Type} (xs : List α) : atI xs 1 = xs[1]? := atI_nat xs 1
@[simp] theorem atI_2 {α : Type} (xs : List α) : atI xs 2 = xs[2]? := atI_nat xs 2
@[simp] theorem atI_3 {α : Type} (xs : List α) : atI xs 3 = xs[3]? := atI_nat xs 3
@[simp] theorem atI_4 {α : Type} (xs : List α) : atI xs 4 = xs[4]? := atI_nat xs 4
@[simp] theorem ixN_0 (n : Nat) : ixN n 0 = if 0 < n then some 0 else none := ixN_nat n 0
@[simp] theorem ixN_1 (n : Nat) : ixN n 1 = if 1 < n then some 1 else none := ixN_nat n 1
@[simp] theorem ixN_2 (n : Nat) : ixN n 2 = if 2 < n then some 2 else none := ixN_nat n 2
@[simp] theorem ixN_3 (n : Nat) : ixN n 3 = if 3 < n then some 3 else none := ixN_nat n 3
theorem atI_last {α : Type} (xs : List α) : atI xs (-1) = xs[xs.length - 1]? := by
  unfold atI ixN
  cases xs with
  | nil => simp
  | cons x r =>
    have h1 : ¬ (0 : Int) ≤ -1 := by decide
    have h2 : -((x :: r).length : Int) ≤ -1 := by
      rw [List.length_cons]
      omega
    rw [if_neg h1, if_pos h2]
    show (x :: r)[((-1 : Int) + ((x :: r).length : Nat)).toNat]? = _
    rw [show ((-1 : Int) + ((x :: r).length : Nat)).toNat = (x :: r).length - 1 by omega]

/-! ### the state of the draws -/
def CSt (c : List D) : Prop := ∃ (ns : List Int) (i : Nat) (a b : Int), c = [.lst (ns.map .int), .int i, .int a, .int b, .int 20]
theorem mul_small (i j : Int) (h : j.natAbs < 18446744073709551616) : mulD (.int i) (.int j) = some (.int (i * j)) := if_pos (.inl h)
theorem fdiv_ok (i j : Int) (h : 0 < j ∧ j.natAbs < 1073741824) : fdivD (.int i) (.int j) = some (.int (i / j)) := if_pos h
theorem mod_ok (i j : Int) (h : 0 < j) : modD (.int i) (.int j) = some (.int (i % j)) := if_pos h
theorem start_ok (ns : List Int) (h : ns.length ≤ 63) : ∃ c, f_law_start [.scr ns] = some c ∧ CSt c := by
  have lc : ∀ (xs acc : List D) (ρ : Sls), ρ = [Sl.d (.scr ns), .no] → (∀ x ∈ xs, ∃ n, x = .int n) → (lcD (gSet 1) (fun ρ => some (true, ρ)) (fApp intD (fLook 1)) [1] xs acc ρ) = some (acc ++ xs, ρ) := by
    intro xs
    induction xs with
    | nil =>
      intro acc ρ hρ _
      show some (acc, ρ) = _
      rw [List.append_nil]
    | cons x xs ih =>
      intro acc ρ hρ hx
      obtain ⟨n, rfl⟩ := hx x List.mem_cons_self
      subst hρ
      simp [lcD]
      rw [ih _ _ rfl (fun y hy => hx y (List.mem_cons_of_mem _ hy))]
      simp
  have cut : (cutD ns none (some 63)).length ≤ 63 := by
    unfold cutD
    rw [List.length_take, List.length_drop]
    omega
  refine ⟨[.lst ((cutD ns none (some 63)).map .int), .int 0, .int 0, .int 0, .int 20], ?_, cutD ns none (some 63), 0, 0, 0, rfl⟩
  unfold f_law_start b_law_start
  have e := lc ((cutD ns none (some 63)).map .int) [] [Sl.d (.scr ns), .no] rfl (fun x hx => by
    obtain ⟨n, _, rfl⟩ := List.mem_map.mp hx
    exact ⟨n, rfl⟩)
  have cut2 : (cutD ns none (some 63)).length ≤ 1000000 := Nat.le_trans cut (by decide)
  simp [runL, v_d, e, cut2]
theorem pow18 : powD (.int 10) (.int 18) = some (.int 1000000000000000000) := by
  show (if (0 : Int) ≤ 18 ∧ (18 : Int) ≤ 1000000 ∧ (10 : Int).natAbs < 2 ^ 64 then some (D.int ((10 : Int) ^ (18 : Int).toNat)) else none) = _
  rw [if_pos (by decide)]
  rfl
theorem go {α : Type} {x : Option α} {P : α → Prop} {a : α} (h : x = some a) (p : P a) : ∃ a, x = some a ∧ P a := ⟨a, h, p⟩
theorem fill_ok {c : List D} (h : CSt c) : ∃ r, f_law_fill c [] = some r ∧ (∃ z : Int, r.1 = .int z) ∧ CSt r.2 := by
  obtain ⟨ns, i, a, b, rfl⟩ := h
  unfold f_law_fill b_law_fill
  by_cases h0 : ns = []
  · subst h0
    have h2 : ¬ (i : Int) < 0 := by omega
    have sq : ∀ z : Int, mulD (.int (z % 2147483647)) (.int (z % 2147483647)) = some (.int ((z % 2147483647) * (z % 2147483647))) := fun z => mul_small _ _ (by omega)
    apply go
    · simp [runIO, mul_small, fdiv_ok, mod_ok, h2, e_var, sq]
      rfl
    · exact ⟨⟨_, rfl⟩, [], i, _, _, rfl⟩
  have hl : (ns.map D.int)[ns.length - 1]? = some (.int (ns.getLast h0)) := by
    rw [List.getElem?_map, ← List.getLast?_eq_getElem?, List.getLast?_eq_some_getLast h0]
    rfl
  have at1 : atI (ns.map D.int) (-1) = some (.int (ns.getLast h0)) := by
    rw [atI_last, List.length_map, hl]
  have ne : (ns.map D.int).isEmpty = false := by
    cases ns with
    | nil => exact absurd rfl h0
    | cons _ _ => rfl
  have sq : ∀ z : Int, mulD (.int (z % 2147483647)) (.int (z % 2147483647)) = some (.int ((z % 2147483647) * (z % 2147483647))) := fun z => mul_small _ _ (by omega)
  by_cases h1 : i < ns.length
  · have h2 : ((i : Int) < (ns.length : Int)) := by omega
    have g : (ns.map D.int)[i]? = some (.int ns[i]) := by simp [h1]
    by_cases h3 : 1000000000000000000 ≤ (if ns[i] < -1 - ns[i] then -1 - ns[i] else ns[i])
    · apply go
      · simp [runIO, mul_small, h2, g, pow18, e_var, h3]
        rfl
      · exact ⟨⟨_, rfl⟩, ns, i + 1, _, _, rfl⟩
    · by_cases h4 : (ns.length : Int) ≤ i + 1
      · apply go
        · simp [runIO, mul_small, h2, g, pow18, e_var, ne, h3, h4, at1, mod_ok, sq, fdiv_ok]
          rfl
        · exact ⟨⟨_, rfl⟩, ns, i + 1, _, _, rfl⟩
      · apply go
        · simp [runIO, mul_small, h2, g, pow18, e_var, ne, h3, h4, at1, mod_ok, sq, fdiv_ok]
          rfl
        · exact ⟨⟨_, rfl⟩, ns, i + 1, _, _, rfl⟩
  · have h2 : ¬ ((i : Int) < (ns.length : Int)) := by omega
    have h4 : (ns.length : Int) ≤ i := by omega
    apply go
    · simp [runIO, mul_small, h2, e_var, ne, h4, at1, mod_ok, sq, fdiv_ok]
      rfl
    · exact ⟨⟨_, rfl⟩, ns, i, _, _, rfl⟩
/-- a digit is drawn -/
theorem take_ok {c : List D} (h : CSt c) (m : Nat) (h0 : 0 < m) (h1 : m < 1000) : ∃ r, f_law_take c [.int m] = some r ∧ (∃ k : Nat, k < m ∧ r.1 = .int k) ∧ CSt r.2 := by
  have fin : ∀ a : Int, ∃ k : Nat, k < m ∧ D.int (a % m) = .int k := fun a => by
    have p : 0 ≤ a % (m : Int) := Int.emod_nonneg _ (by omega)
    have q : a % (m : Int) < m := Int.emod_lt_of_pos _ (by omega)
    refine ⟨(a % (m : Int)).toNat, by omega, ?_⟩
    rw [Int.toNat_of_nonneg p]
  have md : ∀ z : Int, modD (.int z) (.int m) = some (.int (z % m)) := fun z => mod_ok _ _ (by omega)
  have fd : ∀ z : Int, fdivD (.int z) (.int m) = some (.int (z / m)) := fun z => fdiv_ok _ _ (by omega)
  obtain ⟨ns, i, a, b, rfl⟩ := h
  unfold f_law_take b_law_take
  by_cases h2 : a < m
  · obtain ⟨⟨z, c'⟩, e, ⟨z, rfl⟩, ns', i', a', b', rfl⟩ := fill_ok ⟨ns, i, a, b, rfl⟩
    apply go
    · simp [runIO, h2, e_var, fCallIO, e, md, fd]
      rfl
    · exact ⟨fin _, ns', i', _, _, rfl⟩
  · apply go
    · simp [runIO, h2, e_var, md, fd]
      rfl
    · exact ⟨fin _, ns, i, _, _, rfl⟩
end K63

namespace K63
open PySem PySem.Spec L2 DL
/-! ### loops -/
theorem lcD_inv {g : D → Sls → Option Sls} {c : FT} {f : FE} {vs : List Nat} {I : Sls → Prop} {P : D → Prop} : ∀ (ds : List D)
    (step : ∀ d ∈ ds, ∀ ρ, I ρ → ∃ ρ1 b ρ2, g d ρ = some ρ1 ∧ c ρ1 = some (b, ρ2) ∧ (b = false → I (wipeS ρ2 vs)) ∧ (b = true → ∃ y ρ3, f ρ2 = some (y, ρ3) ∧ P y ∧ I (wipeS ρ3 vs)))
    (acc : List D) (ρ : Sls), I ρ → (∀ y ∈ acc, P y) → ∃ r, lcD g c f vs ds acc ρ = some r ∧ I r.2 ∧ (∀ y ∈ r.1, P y) ∧ r.1.length ≤ acc.length + ds.length
  | [], _, acc, ρ, h, p => ⟨(acc, ρ), rfl, h, p, Nat.le_refl _⟩
  | d :: ds, step, acc, ρ, h, p => by
    obtain ⟨ρ1, b, ρ2, h1, h2, h3, h4⟩ := step d List.mem_cons_self ρ h
    have st := fun e he => step e (List.mem_cons_of_mem _ he)
    cases b with
    | false =>
      obtain ⟨r, e, k1, k2, k3⟩ := lcD_inv ds st acc (wipeS ρ2 vs) (h3 rfl) p
      refine ⟨r, ?_, k1, k2, by rw [List.length_cons]; omega⟩
      simp [lcD, h1, h2, e]
    | true =>
      obtain ⟨y, ρ3, h5, h6, h7⟩ := h4 rfl
      obtain ⟨r, e, k1, k2, k3⟩ := lcD_inv ds st (acc ++ [y]) (wipeS ρ3 vs) h7 (fun z hz => by
        rcases List.mem_append.mp hz with hz | hz
        · exact p z hz
        · cases List.mem_singleton.mp hz
          exact h6)
      refine ⟨r, ?_, k1, k2, by rw [List.length_append] at k3; simp at k3 ⊢; omega⟩
      simp [lcD, h1, h2, h5, e]
/-- what is kept of a list -/
theorem lcD_sub {g : D → Sls → Option Sls} {c : FT} {f : FE} {vs : List Nat} {I : Sls → Prop} : ∀ (ds : List D)
    (step : ∀ d ∈ ds, ∀ ρ, I ρ → ∃ ρ1 b ρ2, g d ρ = some ρ1 ∧ c ρ1 = some (b, ρ2) ∧ (b = false → I (wipeS ρ2 vs)) ∧ (b = true → ∃ ρ3, f ρ2 = some (d, ρ3) ∧ I (wipeS ρ3 vs)))
    (acc : List D) (ρ : Sls), I ρ → ∃ r, lcD g c f vs ds acc ρ = some r ∧ I r.2 ∧ ∃ l, List.Sublist l ds ∧ r.1 = acc ++ l
  | [], _, acc, ρ, h => ⟨(acc, ρ), rfl, h, [], .refl _, by simp⟩
  | d :: ds, step, acc, ρ, h => by
    obtain ⟨ρ1, b, ρ2, h1, h2, h3, h4⟩ := step d List.mem_cons_self ρ h
    have st := fun e he => step e (List.mem_cons_of_mem _ he)
    cases b with
    | false =>
      obtain ⟨r, e, k1, l, k2, k3⟩ := lcD_sub ds st acc (wipeS ρ2 vs) (h3 rfl)
      exact ⟨r, by simp [lcD, h1, h2, e], k1, l, k2.cons _, k3⟩
    | true =>
      obtain ⟨ρ3, h5, h7⟩ := h4 rfl
      obtain ⟨r, e, k1, l, k2, k3⟩ := lcD_sub ds st (acc ++ [d]) (wipeS ρ3 vs) h7
      exact ⟨r, by simp [lcD, h1, h2, h5, e], k1, d :: l, k2.cons₂ _, by rw [k3]; simp⟩
theorem forD_inv {g : D → Sls → Option Sls} {f : FS} {I : Nat → Sls → Prop} : ∀ (ds : List D) (n : Nat)
    (step : ∀ i d ρ, ds[i]? = some d → I (n + i) ρ → ∃ ρ1 ρ2, g d ρ = some ρ1 ∧ f ρ1 = some (.nx ρ2) ∧ I (n + i + 1) ρ2)
    (ρ : Sls), I n ρ → ∃ ρ', forD g f ds ρ = some (.nx ρ') ∧ I (n + ds.length) ρ'
  | [], n, _, ρ, h => ⟨ρ, rfl, h⟩
  | d :: ds, n, step, ρ, h => by
    obtain ⟨ρ1, ρ2, h1, h2, h3⟩ := step 0 d ρ rfl h
    obtain ⟨ρ', e, k⟩ := forD_inv (I := I) ds (n + 1) (fun i e ρ hi hI => by
      have := step (i + 1) e ρ (by simpa using hi) (by rw [show n + (i + 1) = n + 1 + i by omega]; exact hI)
      rw [show n + (i + 1) + 1 = n + 1 + i + 1 by omega] at this
      exact this) ρ2 h3
    refine ⟨ρ', ?_, by rw [List.length_cons, show n + (ds.length + 1) = n + 1 + ds.length by omega]; exact k⟩
    simp [forD, h1, h2, e]
/-- with an end ahead of time -/
theorem forD_inv2 {g : D → Sls → Option Sls} {f : FS} {I : Nat → Sls → Prop} {R : D → Prop} : ∀ (ds : List D) (n : Nat)
    (step : ∀ i d ρ, ds[i]? = some d → I (n + i) ρ → ∃ ρ1, g d ρ = some ρ1 ∧ ((∃ ρ2, f ρ1 = some (.nx ρ2) ∧ I (n + i + 1) ρ2) ∨ ∃ x ρ2, f ρ1 = some (.rt x ρ2) ∧ R x))
    (ρ : Sls), I n ρ → (∃ ρ', forD g f ds ρ = some (.nx ρ') ∧ I (n + ds.length) ρ') ∨ ∃ x ρ', forD g f ds ρ = some (.rt x ρ') ∧ R x
  | [], n, _, ρ, h => .inl ⟨ρ, rfl, h⟩
  | d :: ds, n, step, ρ, h => by
    obtain ⟨ρ1, h1, ⟨ρ2, h2, h3⟩ | ⟨x, ρ2, h2, h3⟩⟩ := step 0 d ρ rfl h
    · rcases forD_inv2 (I := I) (R := R) ds (n + 1) (fun i e ρ hi hI => by
        have := step (i + 1) e ρ (by simpa using hi) (by rw [show n + (i + 1) = n + 1 + i by omega]; exact hI)
        rw [show n + (i + 1) + 1 = n + 1 + i + 1 by omega] at this
        exact this) ρ2 h3 with ⟨ρ', e, k⟩ | ⟨x, ρ', e, k⟩
      · refine .inl ⟨ρ', ?_, by rw [List.length_cons, show n + (ds.length + 1) = n + 1 + ds.length by omega]; exact k⟩
        simp [forD, h1, h2, e]
      · refine .inr ⟨x, ρ', ?_, k⟩
        simp [forD, h1, h2, e]
    · refine .inr ⟨x, ρ2, ?_, h3⟩
      simp [forD, h1, h2]
/-- a comprehension that changes nothing -/
theorem lcD_map {g : D → Sls → Option Sls} {c : FT} {f : FE} {vs : List Nat} {ρ0 : Sls} {p : D → Bool} {h : D → D} : ∀ (ds : List D)
    (step : ∀ d ∈ ds, ∃ ρ1 ρ2, g d ρ0 = some ρ1 ∧ c ρ1 = some (p d, ρ2) ∧ (p d = false → wipeS ρ2 vs = ρ0) ∧ (p d = true → ∃ ρ3, f ρ2 = some (h d, ρ3) ∧ wipeS ρ3 vs = ρ0))
    (acc : List D), lcD g c f vs ds acc ρ0 = some (acc ++ (ds.filter p).map h, ρ0)
  | [], _, acc => by simp [lcD]
  | d :: ds, step, acc => by
    obtain ⟨ρ1, ρ2, h1, h2, h3, h4⟩ := step d List.mem_cons_self
    have ih := lcD_map (h := h) (p := p) ds fun e he => step e (List.mem_cons_of_mem _ he)
    cases b : p d with
    | false =>
      rw [b] at h2
      simp [lcD, h1, h2, h3 b, ih, List.filter_cons, b]
    | true =>
      obtain ⟨ρ3, h5, h6⟩ := h4 b
      rw [b] at h2
      simp [lcD, h1, h2, h5, h6, ih, List.filter_cons, b]
theorem itD_inv {α : Type} {g : D → Sls → Option Sls} {c : FT} {b : α → Sls → Option (α × Sls)} {vs : List Nat} {ρ0 : Sls} {I : Nat → α → Prop} : ∀ (ds : List D) (n : Nat)
    (step : ∀ i d acc, ds[i]? = some d → I (n + i) acc → ∃ ρ1 k ρ2, g d ρ0 = some ρ1 ∧ c ρ1 = some (k, ρ2) ∧ (k = false → wipeS ρ2 vs = ρ0 ∧ I (n + i + 1) acc) ∧ (k = true → ∃ acc' ρ3, b acc ρ2 = some (acc', ρ3) ∧ wipeS ρ3 vs = ρ0 ∧ I (n + i + 1) acc'))
    (acc : α), I n acc → ∃ acc', itD g c b vs ds acc ρ0 = some (acc', ρ0) ∧ I (n + ds.length) acc'
  | [], n, _, acc, h => ⟨acc, rfl, h⟩
  | d :: ds, n, step, acc, h => by
    obtain ⟨ρ1, k, ρ2, h1, h2, h3, h4⟩ := step 0 d acc rfl h
    have st : ∀ i e acc, ds[i]? = some e → I (n + 1 + i) acc → _ := fun i e acc hi hI => step (i + 1) e acc (by simpa using hi) (by rw [show n + (i + 1) = n + 1 + i by omega]; exact hI)
    have st2 : ∀ i e acc, ds[i]? = some e → I (n + 1 + i) acc → ∃ ρ1 k ρ2, g e ρ0 = some ρ1 ∧ c ρ1 = some (k, ρ2) ∧ (k = false → wipeS ρ2 vs = ρ0 ∧ I (n + 1 + i + 1) acc) ∧ (k = true → ∃ acc' ρ3, b acc ρ2 = some (acc', ρ3) ∧ wipeS ρ3 vs = ρ0 ∧ I (n + 1 + i + 1) acc') := fun i e acc hi hI => by
      have := st i e acc hi hI
      rw [show n + (i + 1) + 1 = n + 1 + i + 1 by omega] at this
      exact this
    cases k with
    | false =>
      obtain ⟨w, hI⟩ := h3 rfl
      obtain ⟨acc', e, q⟩ := itD_inv (I := I) ds (n + 1) st2 acc hI
      refine ⟨acc', ?_, by rw [List.length_cons, show n + (ds.length + 1) = n + 1 + ds.length by omega]; exact q⟩
      simp [itD, h1, h2, w, e]
    | true =>
      obtain ⟨acc1, ρ3, h5, w, hI⟩ := h4 rfl
      obtain ⟨acc', e, q⟩ := itD_inv (I := I) ds (n + 1) st2 acc1 hI
      refine ⟨acc', ?_, by rw [List.length_cons, show n + (ds.length + 1) = n + 1 + ds.length by omega]; exact q⟩
      simp [itD, h1, h2, h5, w, e]
theorem rng_nat (n : Nat) : rngD 0 (n : Int) = (List.range n).map fun i => D.int (i : Nat) := by
  unfold rngD
  simp
theorem rg_ok (n : Nat) (h : n ≤ 1000000) : rgOk (n : Int) = true := by
  exact decide_eq_true (by omega)
/-! ### texts -/
def S (w : List Nat) : Str := ⟨w.toArray⟩
theorem S_ab : ("ab" : Str) = S [97, 98] := rfl
theorem S_a : ("a" : Str) = S [97] := rfl
theorem S_e : ("" : Str) = S [] := rfl
theorem S_inj {a b : List Nat} (h : S a = S b) : a = b := by
  unfold S at h
  have := congrArg (fun s => s.cps.toList) h
  simpa using this
theorem S_eq (a b : List Nat) : (S a == S b) = (a == b) := by
  by_cases h : a = b
  · subst h
    rw [beq_self_eq_true, beq_self_eq_true]
  · have : S a ≠ S b := fun z => h (S_inj z)
    rw [beq_eq_false_iff_ne.mpr this, beq_eq_false_iff_ne.mpr h]
theorem S_app (a b : List Nat) : S a ++ S b = S (a ++ b) := by
  show Str.append _ _ = _
  simp [S, Str.append]
theorem S_len (a : List Nat) : (S a).length = a.length := by
  simp [S, Str.length]
theorem S_cps (a : List Nat) : (S a).cps.toList = a := by simp [S]
/-- letters -/
def Lt (l : Nat) : Prop := l = 97 ∨ l = 98
def Wd (w : List Nat) : Prop := ∀ l ∈ w, Lt l
theorem Wd.app {a b : List Nat} (h : Wd a) (k : Wd b) : Wd (a ++ b) := fun l hl => (List.mem_append.mp hl).elim (h l) (k l)
theorem py_S {w : List Nat} (h : Wd w) : (D.str (S w)).py.canLay0 = true := by
  show ((S w).cps.all (· < 0x110000)) = true
  rw [Array.all_eq_true_iff_forall_mem]
  intro x hx
  have : x ∈ w := by simpa [S] using hx
  rcases h x this with e | e <;> rw [e] <;> rfl
theorem sh_S {w : List Nat} (h : Wd w) : SeqAt.shaped (D.str (S w)).py = true := by
  unfold SeqAt.shaped
  rw [py_S h]
  rfl
/-! ### the automaton -/
structure Au where
  n : Nat
  L : List Nat
  st : List Nat
  ed : List (Nat × Nat × Nat)
  en : List Nat
def nD (ps : List Nat) : List D := ps.map fun p => .int (p : Nat)
def edD (e : Nat × Nat × Nat) : D := .tup [.int e.1, .str (S [e.2.1]), .int e.2.2]
def Au.enc (A : Au) : D := .tup [.int A.n, .str (S A.L), .tup (nD A.st), .tup (A.ed.map edD), .tup (nD A.en)]
structure Au.Ok (A : Au) : Prop where
  n0 : 0 < A.n
  n4 : A.n ≤ 4
  L : A.L = [97, 98] ∨ A.L = [97]
  st : ∀ p ∈ A.st, p < A.n
  stl : A.st.length ≤ 4
  stn : A.st.Nodup
  ed : ∀ e ∈ A.ed, e.1 < A.n ∧ e.2.1 ∈ A.L ∧ e.2.2 < A.n
  edl : A.ed.length < 64
  en : ∀ p ∈ A.en, p < A.n
  enl : A.en.length ≤ 4
theorem Au.Ok.lt {A : Au} (h : A.Ok) {l : Nat} (hl : l ∈ A.L) : Lt l := by
  rcases h.L with e | e <;> rw [e] at hl
  · simpa [Lt] using hl
  · exact .inl (by simpa using hl)
theorem al_ed (e f : Nat × Nat × Nat) : PySem.W.alike (edD e).py (edD f).py = true := rfl
theorem sh_ed {e : Nat × Nat × Nat} (h : Lt e.2.1) : SeqAt.shaped (edD e).py = true := by
  obtain ⟨p, l, q⟩ := e
  have w : Wd [l] := fun x hx => by
    cases List.mem_singleton.mp hx
    exact h
  have hs := py_S w
  simp only [D.py] at hs
  simp [SeqAt.shaped, edD, D.py, D.pys, PyData.canLay0, PyData.canLayAll0, PyData.depth, PyData.depthAll] at hs ⊢
  exact hs
/-- what is drawn for an automaton -/
def IsEd (n : Nat) (L : List Nat) (y : D) : Prop := ∃ e : Nat × Nat × Nat, y = edD e ∧ e.1 < n ∧ e.2.1 ∈ L ∧ e.2.2 < n
theorem ed_list {n : Nat} {L : List Nat} : ∀ {ys : List D}, (∀ y ∈ ys, IsEd n L y) → ∃ es : List (Nat × Nat × Nat), ys = es.map edD ∧ ∀ e ∈ es, e.1 < n ∧ e.2.1 ∈ L ∧ e.2.2 < n
  | [], _ => ⟨[], rfl, fun e h => by cases h⟩
  | y :: ys, h => by
    obtain ⟨e, rfl, he⟩ := h y List.mem_cons_self
    obtain ⟨es, rfl, hes⟩ := ed_list fun z hz => h z (List.mem_cons_of_mem _ hz)
    exact ⟨e :: es, rfl, fun f hf => (List.mem_cons.mp hf).elim (fun z => z ▸ he) (hes f)⟩
theorem sub_range {n : Nat} {l : List D} (h : List.Sublist l ((List.range n).map fun i => D.int (i : Nat))) : ∃ ps : List Nat, l = nD ps ∧ ps.Nodup ∧ (∀ p ∈ ps, p < n) ∧ ps.length ≤ n := by
  obtain ⟨ps, h1, rfl⟩ := List.sublist_map_iff.mp h
  refine ⟨ps, rfl, List.Nodup.sublist h1 List.nodup_range, fun p hp => List.mem_range.mp (h1.subset hp), ?_⟩
  have := h1.length_le
  rwa [List.length_range] at this
theorem int_list {n : Nat} : ∀ {ys : List D}, (∀ y ∈ ys, ∃ p : Nat, y = .int p ∧ p < n) → ∃ ps : List Nat, ys = nD ps ∧ ∀ p ∈ ps, p < n
  | [], _ => ⟨[], rfl, fun e h => by cases h⟩
  | y :: ys, h => by
    obtain ⟨e, rfl, he⟩ := h y List.mem_cons_self
    obtain ⟨es, rfl, hes⟩ := int_list fun z hz => h z (List.mem_cons_of_mem _ hz)
    exact ⟨e :: es, rfl, fun f hf => (List.mem_cons.mp hf).elim (fun z => z ▸ he) (hes f)⟩
def edK (e : Nat × Nat × Nat) : List Key := [.inl e.1, .inr (S [e.2.1]), .inl e.2.2]
theorem tups_ed (es : List (Nat × Nat × Nat)) : tupsOf (es.map edD) = some (es.map edK) := by
  induction es with
  | nil => rfl
  | cons e es ih =>
    simp [tupsOf, edD, edK] at ih ⊢
    simp [ih]
theorem tD_ed (e : Nat × Nat × Nat) : tD (edK e) = edD e := rfl
theorem pys_map2 (ds : List D) : D.pys ds = ds.map D.py := by
  induction ds with
  | nil => rfl
  | cons d ds ih =>
    show d.py :: D.pys ds = _
    rw [ih]
    rfl
theorem srt_ed {es : List (Nat × Nat × Nat)} (h : ∀ e ∈ es, Lt e.2.1) : srtOk (D.pys (es.map edD)) = true := by
  unfold srtOk
  rw [pys_map2, List.map_map]
  simp only [Bool.and_eq_true, List.all_eq_true, List.mem_map, Bool.or_eq_true]
  refine ⟨⟨?_, ?_⟩, .inl ?_⟩
  · rintro _ ⟨e, _, rfl⟩ _ ⟨f, _, rfl⟩
    exact al_ed e f
  · rintro _ ⟨e, he, rfl⟩
    exact sh_ed (h e he)
  · rintro _ ⟨e, _, rfl⟩
    rfl
theorem dedup_sub {α : Type} [DecidableEq α] : ∀ xs : List α, (dedupL xs).length ≤ xs.length
  | [] => Nat.le_refl _
  | x :: xs => by
    unfold dedupL
    have := dedup_sub xs
    split
    · rw [List.length_cons]
      omega
    · rw [List.length_cons, List.length_cons]
      omega
theorem sortSet_ed {n : Nat} {L : List Nat} {es : List (Nat × Nat × Nat)} (hL : ∀ l ∈ L, Lt l) (h : ∀ e ∈ es, e.1 < n ∧ e.2.1 ∈ L ∧ e.2.2 < n) (hl : es.length < 64) :
    ∃ es' : List (Nat × Nat × Nat), sortSetD (.lst (es.map edD)) = some (es'.map edD) ∧ (∀ e ∈ es', e.1 < n ∧ e.2.1 ∈ L ∧ e.2.2 < n) ∧ es'.length < 64 := by
  have h2 : ∀ y ∈ ((dedupL (es.map edK)).map tD).mergeSort lePD, IsEd n L y := fun y hy => by
    have hy := (List.mergeSort_perm _ _).mem_iff.mp hy
    obtain ⟨k, hk, rfl⟩ := List.mem_map.mp hy
    obtain ⟨e, he, rfl⟩ := List.mem_map.mp (mem_dedupL.mp hk)
    exact ⟨e, rfl, h e he⟩
  obtain ⟨es', e1, h3⟩ := ed_list h2
  refine ⟨es', ?_, h3, ?_⟩
  · simp only [sortSetD, tups_ed]
    have ok : srtOk (D.pys ((es.map edK).map tD)) = true := by
      rw [List.map_map]
      exact srt_ed fun e he => hL _ (h e he).2.1
    rw [if_pos ⟨by rw [List.length_map]; exact hl, ok⟩, e1]
  · have := congrArg List.length e1
    rw [List.length_map, List.length_mergeSort, List.length_map] at this
    have := dedup_sub (es.map edK)
    rw [List.length_map] at this
    omega
end K63

namespace K63
open PySem PySem.Spec L2 DL
theorem ixS (w : List Nat) (k : Nat) (h : w.length ≤ 1000) : ixD (.str (S w)) (.int k) = (w[k]?).map fun c => D.str (S [c]) := by
  show (if (S w).length ≤ 1000000 then (atI (S w).cps.toList k).map (fun c => D.str ⟨#[c]⟩) else none) = _
  rw [if_pos (by rw [S_len]; omega), S_cps, atI_nat]
  rfl
theorem lenS (w : List Nat) (h : w.length ≤ 1000) : lenD (.str (S w)) = some (.int w.length) := by
  show (if (S w).length ≤ 1000000 then some (D.int (S w).length) else none) = _
  rw [if_pos (by rw [S_len]; omega), S_len]
theorem itemsS (w : List Nat) : itemsD (.str (S w)) = some (w.map fun c => D.str (S [c])) := by
  show some ((S w).cps.toList.map fun c => D.str ⟨#[c]⟩) = _
  rw [S_cps]
  rfl
theorem seq_ev {F G : FS} {ρ : Sls} {I : Sls → Prop} {P : Out → Prop} (h : ∃ ρ1, F ρ = some (.nx ρ1) ∧ I ρ1) (k : ∀ ρ1, I ρ1 → ∃ r, G ρ1 = some r ∧ P r) : ∃ r, fSeq F G ρ = some r ∧ P r := by
  obtain ⟨ρ1, h1, h2⟩ := h
  obtain ⟨r, h3, h4⟩ := k ρ1 h2
  exact ⟨r, by simp [h1, h3], h4⟩
theorem io_ev {b : FS} {np ex : Nat} {cs ds : List D} {P : D × List D → Prop} (hl : ds.length + 1 = np) (h : ∃ o, b (.io cs :: (ds.map Sl.d ++ List.replicate ex .no)) = some o ∧ ∃ d cs' ρ', o = .rt d (.io cs' :: ρ') ∧ P (d, cs')) : ∃ r, runIO np ex b cs ds = some r ∧ P r := by
  obtain ⟨o, h1, d, cs', ρ', rfl, h2⟩ := h
  exact ⟨(d, cs'), by unfold runIO; rw [if_pos hl, h1]; rfl, h2⟩
theorem f_ev {b : FS} {np ex : Nat} {ds : List D} {P : D → Prop} (hl : ds.length = np) (h : ∃ o, b (ds.map Sl.d ++ List.replicate ex .no) = some o ∧ ∃ d ρ', o = .rt d ρ' ∧ P d) : ∃ r, runF np ex b ds = some r ∧ P r := by
  obtain ⟨o, h1, d, ρ', rfl, h2⟩ := h
  exact ⟨d, by unfold runF; rw [if_pos hl, h1]; rfl, h2⟩
/-- the automaton that is drawn -/
theorem automaton_ok {c : List D} (h : CSt c) {L : List Nat} (hL : L = [97, 98] ∨ L = [97]) : ∃ r, f_law_automaton c [.str (S L)] = some r ∧ (∃ A : Au, A.Ok ∧ A.L = L ∧ r.1 = A.enc) ∧ CSt r.2 := by
  have L2 : L.length ≤ 1000 ∧ 0 < L.length ∧ L.length ≤ 2 := by rcases hL with e | e <;> rw [e] <;> decide
  have hlt : ∀ l ∈ L, Lt l := fun l hl => by
    rcases hL with e | e <;> rw [e] at hl
    · simpa [Lt] using hl
    · exact .inl (by simpa using hl)
  obtain ⟨⟨_, c1⟩, e1, ⟨k1, hk1, rfl⟩, s1⟩ := take_ok h 4 (by decide) (by decide)
  have e1 : f_law_take c [.int 4] = some (.int k1, c1) := e1
  unfold f_law_automaton b_law_automaton
  refine io_ev rfl ?_
  refine seq_ev (I := fun ρ => ∃ c, CSt c ∧ ∃ n : Nat, 0 < n ∧ n ≤ 4 ∧ ρ = [.io c, .d (.str (S L)), .d (.int n), .no, .no, .no, .no, .no, .no]) ?_ ?_
  · refine ⟨[.io c1, .d (.str (S L)), .d (.int ((1 + k1 : Nat) : Int)), .no, .no, .no, .no, .no, .no], ?_, c1, s1, 1 + k1, by omega, by omega, rfl⟩
    simp [fCallIO, e1]
  rintro ρ1 ⟨c1, s1, n, n0, n4, rfl⟩
  -- edges
  refine seq_ev (I := fun ρ => ∃ c, CSt c ∧ ∃ es : List (Nat × Nat × Nat), (∀ e ∈ es, e.1 < n ∧ e.2.1 ∈ L ∧ e.2.2 < n) ∧ es.length ≤ 11 ∧ ρ = [.io c, .d (.str (S L)), .d (.int n), .ml (es.map edD), .no, .no, .no, .no, .no]) ?_ ?_
  · obtain ⟨⟨_, c2⟩, e2, ⟨k2, hk2, rfl⟩, s2⟩ := take_ok s1 (3 * n) (by omega) (by omega)
    have e2 : f_law_take c1 [.int ((3 : Int) * n)] = some (.int k2, c2) := by
      rw [show (3 : Int) * n = ((3 * n : Nat) : Int) by omega]
      exact e2
    have m3 : mulD (.int 3) (.int n) = some (.int (3 * n)) := mul_small _ _ (by omega)
    obtain ⟨r, e3, ⟨c3, s3, h3⟩, h4, h5⟩ := lcD_inv (g := gSet 7) (c := fun ρ => some (true, ρ)) (f := fTup (fCons (fCallIO f_law_take 0 (fCons (fVar 2) (fNil))) (fCons (fBinN ixD 1 (fCallIO f_law_take 0 (fCons (fApp lenD (fLook 1)) (fNil)))) (fCons (fCallIO f_law_take 0 (fCons (fVar 2) (fNil))) (fNil))))) (vs := [7])
      (I := fun ρ => ∃ c, CSt c ∧ ρ = [.io c, .d (.str (S L)), .d (.int n), .no, .no, .no, .no, .no, .no]) (P := IsEd n L) (rngD 0 k2) (fun d hd ρ hI => by
        obtain ⟨c, s, rfl⟩ := hI
        obtain ⟨⟨_, d1⟩, g1, ⟨a1, ha1, rfl⟩, t1⟩ := take_ok s n n0 (by omega)
        obtain ⟨⟨_, d2⟩, g2, ⟨a2, ha2, rfl⟩, t2⟩ := take_ok t1 L.length L2.2.1 (by omega)
        obtain ⟨⟨_, d3⟩, g3, ⟨a3, ha3, rfl⟩, t3⟩ := take_ok t2 n n0 (by omega)
        dsimp only at g2 g3
        have lx : ixD (.str (S L)) (.int a2) = some (.str (S [L[a2]])) := by
          rw [ixS L a2 L2.1, List.getElem?_eq_getElem ha2]
          rfl
        refine ⟨_, true, _, rfl, rfl, fun z => (by cases z), fun _ => ⟨edD (a1, L[a2], a3), [.io d3, .d (.str (S L)), .d (.int n), .no, .no, .no, .no, .d d, .no], ?_, ⟨_, rfl, ha1, List.getElem_mem _, ha3⟩, d3, t3, rfl⟩⟩
        simp [fCallIO, e_var, g1, lenS L L2.1, g2, g3, lx, edD]) [] _ ⟨c2, s2, rfl⟩ (fun y hy => by cases hy)
    · obtain ⟨es, he, h6⟩ := ed_list h4
      obtain ⟨r1, r2⟩ := r
      cases h3
      cases he
      have h5 : es.length ≤ k2 := by
        simpa [rng_nat] using h5
      refine ⟨_, ?_, c3, s3, es, h6, by omega, rfl⟩
      have rl : (rngD 0 (k2 : Int)).length ≤ 1000000 := by
        simp [rng_nat]
        omega
      simp [fCallIO, e_var, m3, e2, rg_ok k2 (by omega), rl, e3]
  rintro ρ2 ⟨c2, s2, es, hes, les, rfl⟩
  -- an edge for each state and letter
  refine seq_ev (I := fun ρ => ∃ c, CSt c ∧ ∃ (es : List (Nat × Nat × Nat)) (x : Sl), (∀ e ∈ es, e.1 < n ∧ e.2.1 ∈ L ∧ e.2.2 < n) ∧ es.length < 64 ∧ ρ = [.io c, .d (.str (S L)), .d (.int n), .ml (es.map edD), x, .no, .no, .no, .no]) ?_ ?_
  · obtain ⟨⟨_, c3⟩, e3, ⟨k3, hk3, rfl⟩, s3⟩ := take_ok s2 2 (by decide) (by decide)
    have e3 : f_law_take c2 [.int 2] = some (.int k3, c3) := e3
    by_cases z : k3 = 0
    · subst z
      obtain ⟨ρ', f1, c4, s4, es4, x, h4, h5, rfl⟩ := forD_inv (g := gSet 4) (f := fSeq (fSetL (fCatN 3 (fOfL (fLc (fItems (fVar 1)) (gSet 8) (fun ρ => some (true, ρ)) (fTup (fCons (fVar 4) (fCons (fVar 8) (fCons (fCallIO f_law_take 0 (fCons (fVar 2) (fNil))) (fNil))))) [8]))) 3) (fNx))
        (I := fun i ρ => ∃ c, CSt c ∧ ∃ (es : List (Nat × Nat × Nat)) (x : Sl), (∀ e ∈ es, e.1 < n ∧ e.2.1 ∈ L ∧ e.2.2 < n) ∧ es.length ≤ 11 + 2 * i ∧ ρ = [.io c, .d (.str (S L)), .d (.int n), .ml (es.map edD), x, .no, .no, .no, .no])
        (rngD 0 n) 0 (fun i d ρ hd hI => by
          obtain ⟨c, s, es, x, h1, h2, rfl⟩ := hI
          rw [rng_nat, List.getElem?_map] at hd
          obtain ⟨q, hq, rfl⟩ := Option.map_eq_some_iff.mp hd
          have hq := List.getElem?_eq_some_iff.mp hq
          obtain ⟨hi, hq⟩ := hq
          rw [List.getElem_range] at hq
          subst hq
          have hi : i < n := by simpa using hi
          obtain ⟨r, e4, ⟨c5, s5, h6⟩, h7, h8⟩ := lcD_inv (g := gSet 8) (c := fun ρ => some (true, ρ)) (f := fTup (fCons (fVar 4) (fCons (fVar 8) (fCons (fCallIO f_law_take 0 (fCons (fVar 2) (fNil))) (fNil))))) (vs := [8])
            (I := fun ρ => ∃ c, CSt c ∧ ρ = [.io c, .d (.str (S L)), .d (.int n), .ml (es.map edD), .d (.int i), .no, .no, .no, .no]) (P := IsEd n L) (L.map fun c => D.str (S [c])) (fun d hd ρ hI => by
              obtain ⟨l, hl, rfl⟩ := List.mem_map.mp hd
              obtain ⟨c, s, rfl⟩ := hI
              obtain ⟨⟨_, d3⟩, g3, ⟨a3, ha3, rfl⟩, t3⟩ := take_ok s n n0 (by omega)
              refine ⟨_, true, _, rfl, rfl, fun z => (by cases z), fun _ => ⟨edD (i, l, a3), [.io d3, .d (.str (S L)), .d (.int n), .ml (es.map edD), .d (.int i), .no, .no, .no, .d (.str (S [l]))], ?_, ⟨_, rfl, hi, hl, ha3⟩, d3, t3, rfl⟩⟩
              simp [fCallIO, e_var, g3, edD]) [] _ ⟨c, s, rfl⟩ (fun y hy => by cases hy)
          obtain ⟨es5, he, h9⟩ := ed_list h7
          obtain ⟨r1, r2⟩ := r
          cases h6
          cases he
          have h8 : es5.length ≤ L.length := by simpa using h8
          refine ⟨_, [.io c5, .d (.str (S L)), .d (.int n), .ml ((es ++ es5).map edD), .d (.int i), .no, .no, .no, .no], rfl, ?_, c5, s5, es ++ es5, _, fun e he => (List.mem_append.mp he).elim (h1 e) (h9 e), by rw [List.length_append]; omega, rfl⟩
          have sm : es.length + es5.length ≤ 1000000 := by omega
          have lm : L.length ≤ 1000000 := by omega
          simp [fCatN, e_var, itemsS, lm, e4, catD, sm]) _ ⟨c3, s3, es, .no, hes, by omega, rfl⟩
      refine ⟨_, ?_, c4, s4, es4, x, h4, ?_, rfl⟩
      · simp [fCallIO, e3, e_var, rg_ok n (by omega), f1]
      · have : (rngD 0 (n : Int)).length = n := by simp [rng_nat]
        omega
    · refine ⟨_, ?_, c3, s3, es, .no, hes, by omega, rfl⟩
      have z' : ((k3 : Int) == 0) = false := by
        rw [beq_eq_false_iff_ne]
        omega
      simp [fCallIO, e3, z']
  rintro ρ3 ⟨c3, s3, es3, x3, hes3, les3, rfl⟩
  have rn : rgOk (n : Int) = true := rg_ok n (by omega)
  have rl : (rngD 0 (n : Int)).length ≤ 1000000 := by
    simp [rng_nat]
    omega
  -- starts
  refine seq_ev (I := fun ρ => ∃ c, CSt c ∧ ∃ (ps : List Nat) (x : Sl), (∀ p ∈ ps, p < n) ∧ ps.length ≤ 4 ∧ ps.Nodup ∧ ρ = [.io c, .d (.str (S L)), .d (.int n), .ml (es3.map edD), x, .d (.lst (nD ps)), .no, .no, .no]) ?_ ?_
  · obtain ⟨r, e4, ⟨c5, s5, h6⟩, l, h7, h8⟩ := lcD_sub (g := gSet 4) (c := fTest (fBin eqD (fCallIO f_law_take 0 (fCons (fC (.int (3))) (fNil))) (fC (.int (0))))) (f := fVar 4) (vs := [4])
        (I := fun ρ => ∃ c, CSt c ∧ ρ = [.io c, .d (.str (S L)), .d (.int n), .ml (es3.map edD), .no, .no, .no, .no, .no]) (rngD 0 n) (fun d hd ρ hI => by
          obtain ⟨c, s, rfl⟩ := hI
          rw [rng_nat] at hd
          obtain ⟨q, hq, rfl⟩ := List.mem_map.mp hd
          have hq : q < n := by simpa using hq
          obtain ⟨⟨_, d3⟩, g3, ⟨a3, ha3, rfl⟩, t3⟩ := take_ok s 3 (by decide) (by decide)
          have g3 : f_law_take c [.int 3] = some (.int a3, d3) := g3
          refine ⟨_, ((a3 : Int) == 0), [.io d3, .d (.str (S L)), .d (.int n), .ml (es3.map edD), .d (.int q), .no, .no, .no, .no], rfl, ?_, fun _ => ⟨d3, t3, rfl⟩, fun _ => ⟨[.io d3, .d (.str (S L)), .d (.int n), .ml (es3.map edD), .d (.int q), .no, .no, .no, .no], rfl, d3, t3, rfl⟩⟩
          simp [fCallIO, g3]) [] [.io c3, .d (.str (S L)), .d (.int n), .ml (es3.map edD), .no, .no, .no, .no, .no] ⟨c3, s3, rfl⟩
    rw [rng_nat] at h7
    obtain ⟨ps, he, h10, h9, h11⟩ := sub_range h7
    obtain ⟨r1, r2⟩ := r
    cases h6
    rw [he, List.nil_append] at h8
    cases h8
    cases ps with
    | nil =>
      refine ⟨_, ?_, c5, s5, [0], .no, fun p hp => by cases List.mem_singleton.mp hp; exact n0, by decide, by decide, rfl⟩
      simp [e_var, rn, rl, e4, nD]
    | cons p ps =>
      refine ⟨_, ?_, c5, s5, p :: ps, .no, h9, by omega, h10, rfl⟩
      simp [e_var, rn, rl, e4, nD]
  rintro ρ4 ⟨c4, s4, ps, x4, hps, lps, nps, rfl⟩
  -- ends
  refine seq_ev (I := fun ρ => ∃ c, CSt c ∧ ∃ (qs : List Nat) (x : Sl), (∀ p ∈ qs, p < n) ∧ qs.length ≤ 4 ∧ ρ = [.io c, .d (.str (S L)), .d (.int n), .ml (es3.map edD), x, .d (.lst (nD ps)), .ml (nD qs), .no, .no]) ?_ ?_
  · obtain ⟨r, e4, ⟨c5, s5, h6⟩, h7, h8⟩ := lcD_inv (g := gSet 4) (c := fTest (fBin eqD (fCallIO f_law_take 0 (fCons (fC (.int (2))) (fNil))) (fC (.int (0))))) (f := fVar 4) (vs := [4])
        (I := fun ρ => ∃ c, CSt c ∧ ρ = [.io c, .d (.str (S L)), .d (.int n), .ml (es3.map edD), .no, .d (.lst (nD ps)), .no, .no, .no]) (P := fun y => ∃ p : Nat, y = .int p ∧ p < n) (rngD 0 n) (fun d hd ρ hI => by
          obtain ⟨c, s, rfl⟩ := hI
          rw [rng_nat] at hd
          obtain ⟨q, hq, rfl⟩ := List.mem_map.mp hd
          have hq : q < n := by simpa using hq
          obtain ⟨⟨_, d3⟩, g3, ⟨a3, ha3, rfl⟩, t3⟩ := take_ok s 2 (by decide) (by decide)
          have g3 : f_law_take c [.int 2] = some (.int a3, d3) := g3
          refine ⟨_, ((a3 : Int) == 0), [.io d3, .d (.str (S L)), .d (.int n), .ml (es3.map edD), .d (.int q), .d (.lst (nD ps)), .no, .no, .no], rfl, ?_, fun _ => ⟨d3, t3, rfl⟩, fun _ => ⟨.int q, [.io d3, .d (.str (S L)), .d (.int n), .ml (es3.map edD), .d (.int q), .d (.lst (nD ps)), .no, .no, .no], rfl, ⟨q, rfl, hq⟩, d3, t3, rfl⟩⟩
          simp [fCallIO, g3]) [] [.io c4, .d (.str (S L)), .d (.int n), .ml (es3.map edD), .no, .d (.lst (nD ps)), .no, .no, .no] ⟨c4, s4, rfl⟩ (fun y hy => by cases hy)
    obtain ⟨qs, he, h9⟩ := int_list h7
    obtain ⟨r1, r2⟩ := r
    cases h6
    cases he
    have h8 : qs.length ≤ n := by simpa [nD, rng_nat] using h8
    refine ⟨_, ?_, c5, s5, qs, .no, h9, by omega, rfl⟩
    simp [e_var, rn, rl, e4]
    rfl
  rintro ρ5 ⟨c5, s5, qs, x5, hqs, lqs, rfl⟩
  obtain ⟨es6, e6, h6, l6⟩ := sortSet_ed hlt hes3 les3
  refine ⟨.rt (Au.enc ⟨n, L, ps, es6, qs⟩) [.io c5, .d (.str (S L)), .d (.int n), .ml (es3.map edD), x5, .d (.lst (nD ps)), .ml (nD qs), .no, .no], ?_, _, c5, _, rfl, ⟨⟨n, L, ps, es6, qs⟩, ⟨n0, n4, hL, hps, lps, nps, h6, l6, hqs, lqs⟩, rfl, rfl⟩, s5⟩
  simp [e_var, e6, Au.enc]
end K63

namespace K63
open PySem PySem.Spec L2 DL
theorem snocInd {α : Type} {P : List α → Prop} (h0 : P []) (h1 : ∀ l a, P l → P (l ++ [a])) (l : List α) : P l := by
  have h : P l.reverse.reverse := by
    generalize l.reverse = m
    induction m with
    | nil => exact h0
    | cons a m ih =>
      rw [List.reverse_cons]
      exact h1 _ _ ih
  rwa [List.reverse_reverse] at h
/-! ### the steps of an automaton -/
def rowOf (es : List (Nat × Nat × Nat)) (p : Nat) : RowD := (es.filter fun e => e.1 == p).foldl (fun r e => putApp (.inr (S [e.2.1])) (.int (e.2.2 : Nat)) r) []
def stepsD (A : Au) : D := .lst (rowsD ((List.range A.n).map (rowOf A.ed)))
/-- the states behind a letter, in the edges' order -/
def succ (A : Au) (p l : Nat) : List Nat := (A.ed.filter fun e => e.1 == p && e.2.1 == l).map fun e => e.2.2
def lookR (r : RowD) (k : Key) : List D := match r.find? fun kv => decide (kv.1 = k) with
  | some kv => kv.2
  | none => []
theorem look_put (r : RowD) (k j : Key) (d : D) : lookR (putApp k d r) j = if k = j then lookR r j ++ [d] else lookR r j := by
  induction r with
  | nil =>
    unfold putApp lookR
    by_cases h : k = j
    · simp [h]
    · simp [h]
  | cons e r ih =>
    obtain ⟨k', ds⟩ := e
    unfold putApp
    by_cases h : k' = k
    · subst h
      rw [if_pos rfl]
      by_cases h2 : k' = j
      · simp [lookR, h2]
      · simp [lookR, h2]
    · rw [if_neg h]
      by_cases h2 : k' = j
      · subst h2
        simp [lookR, Ne.symm h]
      · have e1 : lookR ((k', ds) :: putApp k d r) j = lookR (putApp k d r) j := by simp [lookR, h2]
        have e2 : lookR ((k', ds) :: r) j = lookR r j := by simp [lookR, h2]
        rw [e1, e2, ih]
theorem row_snoc (es : List (Nat × Nat × Nat)) (e : Nat × Nat × Nat) (p : Nat) : rowOf (es ++ [e]) p = if e.1 = p then putApp (.inr (S [e.2.1])) (.int (e.2.2 : Nat)) (rowOf es p) else rowOf es p := by
  unfold rowOf
  rw [List.filter_append]
  by_cases h : e.1 = p
  · simp [h]
  · simp [h]
theorem look_row (L : List Nat) (es : List (Nat × Nat × Nat)) (p l : Nat) : lookR (rowOf es p) (.inr (S [l])) = (es.filter fun e => e.1 == p && e.2.1 == l).map fun e => D.int (e.2.2 : Nat) := by
  refine snocInd (P := fun es => lookR (rowOf es p) (.inr (S [l])) = (es.filter fun e => e.1 == p && e.2.1 == l).map fun e => D.int (e.2.2 : Nat)) rfl (fun es e ih => ?_) es
  · rw [row_snoc]
    by_cases h : e.1 = p
    · rw [if_pos h, look_put, ih]
      by_cases h2 : e.2.1 = l
      · simp [h, h2]
      · have : ¬ (Sum.inr (S [e.2.1]) : Key) = .inr (S [l]) := fun z => h2 (by
          have := S_inj (Sum.inr.inj z)
          simpa using this)
        simp [h, h2, this]
    · rw [if_neg h, ih]
      simp [h]
theorem get_row (r : RowD) (k : Key) : (getK (rowD r) k).getD (.lst []) = .lst (lookR r k) := by
  induction r with
  | nil => rfl
  | cons e r ih =>
    obtain ⟨k', ds⟩ := e
    by_cases h : k' = k
    · simp [getK, rowD, lookR, h]
    · have e1 : getK (rowD ((k', ds) :: r)) k = getK (rowD r) k := by simp [getK, rowD, h]
      have e2 : lookR ((k', ds) :: r) k = lookR r k := by simp [lookR, h]
      rw [e1, e2, ih]
theorem row_len (es : List (Nat × Nat × Nat)) (p : Nat) : (rowOf es p).length ≤ es.length ∧ ∀ e ∈ rowOf es p, e.2.length ≤ es.length := by
  refine snocInd (P := fun es => (rowOf es p).length ≤ es.length ∧ ∀ e ∈ rowOf es p, e.2.length ≤ es.length) ⟨Nat.le_refl _, fun e h => by cases h⟩ (fun es e ih => ?_) es
  · rw [row_snoc, List.length_append]
    have key : ∀ (r : RowD) (k : Key) (d : D) (m : Nat), (∀ e ∈ r, e.2.length ≤ m) → (putApp k d r).length ≤ r.length + 1 ∧ ∀ e ∈ putApp k d r, e.2.length ≤ m + 1 := by
      intro r k d m
      induction r with
      | nil =>
        intro _
        exact ⟨Nat.le_refl _, fun e he => by cases List.mem_singleton.mp he; show 1 ≤ _; omega⟩
      | cons x r ih2 =>
        intro h
        obtain ⟨j, ds⟩ := x
        have hx : ds.length ≤ m := h _ List.mem_cons_self
        have hr := ih2 fun e he => h e (List.mem_cons_of_mem _ he)
        unfold putApp
        split
        · refine ⟨by simp, fun e he => ?_⟩
          rcases List.mem_cons.mp he with rfl | he
          · simp
            omega
          · exact Nat.le_succ_of_le (h e (List.mem_cons_of_mem _ he))
        · refine ⟨by simp; exact hr.1, fun e he => ?_⟩
          rcases List.mem_cons.mp he with rfl | he
          · exact Nat.le_succ_of_le hx
          · exact hr.2 e he
    split
    · have := key (rowOf es p) (.inr (S [e.2.1])) (.int (e.2.2 : Nat)) es.length ih.2
      refine ⟨by simp; omega, fun x hx => by simpa using this.2 x hx⟩
    · exact ⟨by simp; omega, fun x hx => Nat.le_trans (ih.2 x hx) (by simp)⟩
theorem steps_ok {A : Au} (h : A.Ok) : f_steps_of [A.enc] = some (stepsD A) := by
  have n4 := h.n4
  have loop : ∀ (es2 es1 : List (Nat × Nat × Nat)) (s : List Sl) (x y z : Sl), (es1 ++ es2).length < 64 → (∀ e ∈ es2, e.1 < A.n) → s = [.d A.enc, .no, x, y, z, .no] →
      ∃ s', grpD (gTupD 3 (gsCons (gSet 2) (gsCons (gSet 3) (gsCons (gSet 4) (gsNil))))) (fVar 2) (fVar 3) (fVar 4) (es2.map edD) ((List.range A.n).map (rowOf es1)) s = some ((List.range A.n).map (rowOf (es1 ++ es2)), s') ∧ ∃ x y z, s' = [.d A.enc, .no, x, y, z, .no] := by
    intro es2
    induction es2 with
    | nil =>
      intro es1 s x y z _ _ hs
      exact ⟨s, by rw [List.append_nil]; rfl, x, y, z, hs⟩
    | cons e es2 ih =>
      intro es1 s x y z hl he hs
      subst hs
      have hp := he e List.mem_cons_self
      have l1 : es1.length < 64 := by
        rw [List.length_append] at hl
        omega
      have sm : smallR (rowOf es1 e.1) = true := by
        unfold smallR
        rw [Bool.and_eq_true, List.all_eq_true]
        have := row_len es1 e.1
        exact ⟨decide_eq_true (by omega), fun x hx => decide_eq_true (by have := this.2 x hx; omega)⟩
      have st : ((List.range A.n).map (rowOf es1)).set e.1 (putApp (.inr (S [e.2.1])) (.int (e.2.2 : Nat)) (rowOf es1 e.1)) = (List.range A.n).map (rowOf (es1 ++ [e])) := by
        refine List.ext_getElem (by simp) fun i h1 h2 => ?_
        rw [List.getElem_set]
        simp only [List.getElem_map, List.getElem_range, row_snoc]
        split
        · rename_i hh
          rw [hh]
        · rfl
      obtain ⟨s', h1, h2⟩ := ih (es1 ++ [e]) [.d A.enc, .no, .d (.int e.1), .d (.str (S [e.2.1])), .d (.int e.2.2), .no] _ _ _ (by simpa using hl) (fun f hf => he f (List.mem_cons_of_mem _ hf)) rfl
      refine ⟨s', ?_, h2⟩
      rw [show es1 ++ e :: es2 = es1 ++ [e] ++ es2 by simp, ← h1]
      simp [grpD, edD, grpS, e_var, ixN_nat, hp, sm, st]
  have rn : rgOk (A.n : Int) = true := rg_ok A.n (by omega)
  obtain ⟨s', h1, x, y, z, rfl⟩ := loop A.ed [] [.d A.enc, .no, .no, .no, .no, .no] _ _ _ (by simpa using h.edl) (fun e he => (h.ed e he).1) rfl
  have e0 : (List.range A.n).map (rowOf []) = List.replicate A.n [] := by
    refine List.ext_getElem (by simp) fun i h1 h2 => ?_
    simp [rowOf]
  rw [e0] at h1
  unfold f_steps_of b_steps_of
  have l1 : (rngD 0 (A.n : Int)).length ≤ 1000000 := by
    simp [rng_nat]
    omega
  have l2 : (rngD 0 (A.n : Int)).length = A.n := by simp [rng_nat]
  have a0 : ixD A.enc (.int 0) = some (.int A.n) := rfl
  have a3 : ixD A.enc (.int 3) = some (.tup (A.ed.map edD)) := rfl
  have h1 : grpD (gTupD 3 (gsCons (gSet 2) (gsCons (gSet 3) (gsCons (gSet 4) (gsNil))))) (fVar 2) (fVar 3) (fVar 4) (A.ed.map edD) (List.replicate A.n []) [.d A.enc, .no, .no, .no, .no, .no] = some ((List.range A.n).map (rowOf A.ed), [.d A.enc, .no, x, y, z, .no]) := h1
  have l3 : A.n ≤ 1000000 := by omega
  simp [runF, fGrp, rn, l1, l2, l3, a0, a3, h1, e_var, stepsD]

/-! ### sets of states -/
theorem len_le : ∀ (n : Nat) (ks : List Nat), ks.Nodup → (∀ q ∈ ks, q < n) → ks.length ≤ n
  | 0, ks, _, h => by
    cases ks with
    | nil => exact Nat.le_refl _
    | cons x r => exact absurd (h x List.mem_cons_self) (Nat.not_lt_zero _)
  | n + 1, ks, nd, h => by
    have h2 := len_le n (ks.erase n) (nd.erase n) (fun q hq => by
      have h3 := (List.Nodup.mem_erase_iff nd).mp hq
      have := h q h3.2
      omega)
    by_cases hm : n ∈ ks
    · rw [List.length_erase_of_mem hm] at h2
      omega
    · rw [List.erase_of_not_mem hm] at h2
      omega
def ins (ks : List Nat) (q : Nat) : List Nat := if q ∈ ks then ks else ks ++ [q]
theorem mem_ins {ks : List Nat} {q x : Nat} : x ∈ ins ks q ↔ x ∈ ks ∨ x = q := by
  unfold ins
  split
  · rename_i h
    exact ⟨.inl, fun z => z.elim id fun e => e ▸ h⟩
  · rw [List.mem_append, List.mem_singleton]
theorem nodup_ins {ks : List Nat} {q : Nat} (h : ks.Nodup) : (ins ks q).Nodup := by
  unfold ins
  split
  · exact h
  · rename_i hq
    refine List.nodup_append.mpr ⟨h, by simp, fun x hx y hy => ?_⟩
    cases List.mem_singleton.mp hy
    exact fun z => hq (z ▸ hx)
def setK (ks : List Nat) : List (Key × D) := ks.map fun (q : Nat) => (.inl (q : Int), .bl true)
theorem put_set (ks : List Nat) (q : Nat) : putD (setK ks) (.inl (q : Int)) (.bl true) = setK (ins ks q) := by
  unfold putD ins setK
  by_cases h : q ∈ ks
  · have e : ((ks.map fun (q : Nat) => ((.inl (q : Int) : Key), D.bl true)).any fun kv => decide (kv.1 = .inl (q : Int))) = true := by
      rw [List.any_map, List.any_eq_true]
      exact ⟨q, h, by simp⟩
    rw [if_pos e, if_pos h, List.map_map]
    refine List.map_congr_left fun x hx => ?_
    show (if (Sum.inl (x : Int) : Key) = .inl (q : Int) then _ else _) = _
    split <;> rfl
  · have e : ¬ ((ks.map fun (q : Nat) => ((.inl (q : Int) : Key), D.bl true)).any fun kv => decide (kv.1 = .inl (q : Int))) = true := by
      rw [List.any_map, List.any_eq_true]
      rintro ⟨x, hx, e⟩
      have e2 : (x : Int) = q := by simpa using e
      have : x = q := by omega
      exact h (this ▸ hx)
    rw [if_neg e, if_neg h]
    simp
theorem get_set (ks : List Nat) (q : Nat) : (getK (setK ks) (.inl (q : Int))).isSome = decide (q ∈ ks) := by
  unfold getK setK
  induction ks with
  | nil => rfl
  | cons x ks ih =>
    by_cases h : x = q
    · simp [h]
    · have h' : ¬ (x : Int) = q := by omega
      have h2 : ¬ q = x := fun z => h z.symm
      simp [h', h2] at ih ⊢
      rw [ih]
theorem le_int (a b : Int) : lePD (.int a) (.int b) = decide (a ≤ b) := by
  show (!(PyProof.Rows.lexLt PyProof.Rows.itemOrd [.inl b] [.inl a])) = _
  show (!(decide (b < a) || (!decide (a < b) && false))) = _
  by_cases h : a ≤ b
  · have : ¬ b < a := by omega
    simp [h, this]
  · have : b < a := by omega
    simp [h, this]
theorem nD_pair {ps : List Nat} (h : ps.Pairwise (· ≤ ·)) : (nD ps).Pairwise fun a b => lePD a b = true := by
  unfold nD
  rw [List.pairwise_map]
  exact h.imp fun {a b} hab => by
    rw [le_int]
    exact decide_eq_true (by omega)
theorem nD_nodup {ps : List Nat} (h : ps.Nodup) : (nD ps).Nodup := by
  unfold nD
  exact List.Pairwise.map _ (fun a b hab z => hab (by
    have := D.int.inj z
    omega)) h
def setL (n : Nat) (P : Nat → Bool) : List Nat := (List.range n).filter P
theorem mem_setL {n : Nat} {P : Nat → Bool} {q : Nat} : q ∈ setL n P ↔ q < n ∧ P q = true := by
  unfold setL
  rw [List.mem_filter, List.mem_range]
theorem setL_sorted (n : Nat) (P : Nat → Bool) : (setL n P).Pairwise (· < ·) := (List.pairwise_lt_range (n := n)).filter _
theorem sort_set {n : Nat} {P : Nat → Bool} {ds : List D} (nd : ds.Nodup) (h : ∀ d, d ∈ ds ↔ ∃ q : Nat, q < n ∧ P q = true ∧ d = .int q) : ds.mergeSort lePD = nD (setL n P) := by
  have p : ds.Perm (nD (setL n P)) := (List.perm_ext_iff_of_nodup nd (nD_nodup ((setL_sorted n P).imp fun h => Nat.ne_of_lt h))).mpr fun d => by
    rw [h]
    unfold nD
    rw [List.mem_map]
    constructor
    · rintro ⟨q, h1, h2, rfl⟩
      exact ⟨q, mem_setL.mpr ⟨h1, h2⟩, rfl⟩
    · rintro ⟨q, hq, rfl⟩
      exact ⟨q, (mem_setL.mp hq).1, (mem_setL.mp hq).2, rfl⟩
  rw [sort_perm p fun x hx y hy h1 h2 => ?_]
  · exact List.mergeSort_of_pairwise (nD_pair ((setL_sorted n P).imp Nat.le_of_lt))
  · obtain ⟨a, _, _, rfl⟩ := (h x).mp hx
    obtain ⟨b, _, _, rfl⟩ := (h y).mp hy
    rw [le_int] at h1 h2
    have := of_decide_eq_true h1
    have := of_decide_eq_true h2
    rw [show (a : Int) = b by omega]
theorem srt_ints (ps : List Nat) : srtOk (D.pys (nD ps)) = true := by
  unfold srtOk nD
  rw [pys_map2, List.map_map]
  simp only [Bool.and_eq_true, List.all_eq_true, List.mem_map, Bool.or_eq_true]
  refine ⟨⟨?_, ?_⟩, .inr ?_⟩
  · rintro _ ⟨e, _, rfl⟩ _ ⟨f, _, rfl⟩
    rfl
  · rintro _ ⟨e, he, rfl⟩
    rfl
  · rintro _ ⟨e, _, rfl⟩
    rfl
/-- the states behind some states by a letter -/
def led (A : Au) (ss : List Nat) (l : Nat) : List Nat := setL A.n fun q => A.ed.any fun e => ss.contains e.1 && e.2.1 == l && e.2.2 == q
theorem mem_led {A : Au} {ss : List Nat} {l q : Nat} : q ∈ led A ss l ↔ q < A.n ∧ ∃ p ∈ ss, (p, l, q) ∈ A.ed := by
  unfold led
  rw [mem_setL, List.any_eq_true]
  refine and_congr_right fun _ => ⟨?_, ?_⟩
  · rintro ⟨⟨p, l', q'⟩, he, h⟩
    simp at h
    obtain ⟨⟨h1, rfl⟩, rfl⟩ := h
    exact ⟨p, h1, he⟩
  · rintro ⟨p, hp, he⟩
    exact ⟨_, he, by simp [hp]⟩
theorem led_lt {A : Au} {ss : List Nat} {l q : Nat} (h : q ∈ led A ss l) : q < A.n := (mem_led.mp h).1
theorem mem_succ {A : Au} {p l q : Nat} : q ∈ succ A p l ↔ (p, l, q) ∈ A.ed := by
  unfold succ
  rw [List.mem_map]
  constructor
  · rintro ⟨⟨p', l', q'⟩, h, rfl⟩
    rw [List.mem_filter] at h
    obtain ⟨h1, h2⟩ := h
    simp at h2
    obtain ⟨rfl, rfl⟩ := h2
    exact h1
  · intro h
    exact ⟨_, List.mem_filter.mpr ⟨h, by simp⟩, rfl⟩
theorem steps_get {A : Au} {p l : Nat} (hp : p < A.n) : ∃ kvs, ixD (stepsD A) (.int p) = some (.dk kvs) ∧ (getK kvs (.inr (S [l]))).getD (.lst []) = .lst (nD (succ A p l)) := by
  refine ⟨rowD (rowOf A.ed p), ?_, ?_⟩
  · show atI (rowsD _) (p : Int) = _
    rw [atI_nat]
    simp [rowsD, hp]
  · rw [get_row, look_row A.L]
    unfold nD succ
    rw [List.map_map]
    rfl
theorem moved_ok {A : Au} (h : A.Ok) {ss : List Nat} (hs : ∀ p ∈ ss, p < A.n) (l : Nat) : f_moved [stepsD A, .tup (nD ss), .str (S [l])] = some (.tup (nD (led A ss l))) := by
  have n4 := h.n4
  unfold f_moved b_moved
  -- the inner loop
  have inner : ∀ (p : Nat) (ks : List Nat), ks.Nodup → (∀ q ∈ ks, q < A.n) → ∃ kvs', itD (gSet 4) (fun ρ => some (true, ρ)) (bodyK (fVar 4) (fC (.bl true))) [4] (nD (succ A p l)) (setK ks) [.d (stepsD A), .d (.tup (nD ss)), .d (.str (S [l])), .d (.int p), .no] = some (kvs', [.d (stepsD A), .d (.tup (nD ss)), .d (.str (S [l])), .d (.int p), .no]) ∧
      ∃ ks', kvs' = setK ks' ∧ ks'.Nodup ∧ (∀ q ∈ ks', q < A.n) ∧ ∀ q, q ∈ ks' ↔ q ∈ ks ∨ q ∈ succ A p l := fun p ks nd hb => by
    obtain ⟨kvs', h1, ks', h2, h3, h4, h5⟩ := itD_inv (g := gSet 4) (c := fun ρ => some (true, ρ)) (b := bodyK (fVar 4) (fC (.bl true))) (vs := [4]) (ρ0 := [.d (stepsD A), .d (.tup (nD ss)), .d (.str (S [l])), .d (.int p), .no])
      (I := fun i kvs => ∃ ks', kvs = setK ks' ∧ ks'.Nodup ∧ (∀ q ∈ ks', q < A.n) ∧ ∀ q, q ∈ ks' ↔ q ∈ ks ∨ q ∈ (succ A p l).take i) (nD (succ A p l)) 0 (fun i d acc hd hI => by
        obtain ⟨ks', rfl, nd', hb', hm⟩ := hI
        unfold nD at hd
        rw [List.getElem?_map] at hd
        obtain ⟨q, hq, rfl⟩ := Option.map_eq_some_iff.mp hd
        have hqn : q < A.n := (h.ed _ (mem_succ.mp (List.mem_of_getElem? hq))).2.2
        have hl := len_le A.n ks' nd' hb'
        have hl2 : (setK ks').length < 1000000 := by
          unfold setK
          rw [List.length_map]
          omega
        refine ⟨_, true, _, rfl, rfl, fun z => (by cases z), fun _ => ⟨setK (ins ks' q), [.d (stepsD A), .d (.tup (nD ss)), .d (.str (S [l])), .d (.int p), .d (.int q)], ?_, rfl, ins ks' q, rfl, nodup_ins nd', fun x hx => ?_, fun x => ?_⟩⟩
        · simp [e_var, hl2, put_set]
        · rcases mem_ins.mp hx with hx | rfl
          · exact hb' x hx
          · exact hqn
        · rw [mem_ins, hm, Nat.zero_add, List.take_add_one, hq, List.mem_append, or_assoc]
          simp) (setK ks) ⟨ks, rfl, nd, hb, fun q => by simp⟩
    refine ⟨kvs', h1, ks', h2, h3, h4, fun q => ?_⟩
    rw [h5, List.take_of_length_le (by simp [nD])]
  obtain ⟨kvs', h1, ks', rfl, h3, h4, h5⟩ := itD_inv (g := gSet 3) (c := fun ρ => some (true, ρ)) (b := bodyIn (fItems (fGet2 (fBinN ixD 0 (fVar 3)) (fVar 2) (fOfL (fLst (fNil))))) (gSet 4) (fun ρ => some (true, ρ)) (bodyK (fVar 4) (fC (.bl true))) [4]) (vs := [3, 4]) (ρ0 := [.d (stepsD A), .d (.tup (nD ss)), .d (.str (S [l])), .no, .no])
      (I := fun i kvs => ∃ ks', kvs = setK ks' ∧ ks'.Nodup ∧ (∀ q ∈ ks', q < A.n) ∧ ∀ q, q ∈ ks' ↔ ∃ p ∈ ss.take i, (p, l, q) ∈ A.ed) (nD ss) 0 (fun i d acc hd hI => by
        obtain ⟨ks', rfl, nd', hb', hm⟩ := hI
        unfold nD at hd
        rw [List.getElem?_map] at hd
        obtain ⟨p, hp, rfl⟩ := Option.map_eq_some_iff.mp hd
        have hpn : p < A.n := hs p (List.mem_of_getElem? hp)
        obtain ⟨kvs2, g1, ks2, rfl, g2, g3, g4⟩ := inner p ks' nd' hb'
        obtain ⟨row, r1, r2⟩ := steps_get (l := l) hpn
        refine ⟨_, true, _, rfl, rfl, fun z => (by cases z), fun _ => ⟨setK ks2, [.d (stepsD A), .d (.tup (nD ss)), .d (.str (S [l])), .d (.int p), .no], ?_, rfl, ks2, rfl, g2, g3, fun x => ?_⟩⟩
        · simp [e_var, r1, r2, g1]
        · rw [g4, hm, Nat.zero_add, List.take_add_one, hp, mem_succ]
          simp only [Option.toList_some, List.mem_append, List.mem_singleton]
          constructor
          · rintro (⟨p', h1, h2⟩ | h2)
            · exact ⟨p', .inl h1, h2⟩
            · exact ⟨p, .inr rfl, h2⟩
          · rintro ⟨p', h1 | rfl, h2⟩
            · exact .inl ⟨p', h1, h2⟩
            · exact .inr h2) [] ⟨[], rfl, List.nodup_nil, fun q hq => (by cases hq), fun q => by simp⟩
  have so : (nD ks').mergeSort lePD = nD (led A ss l) := by
    refine sort_set (nD_nodup h3) fun d => ?_
    unfold nD
    rw [List.mem_map]
    have tk : ss.take (0 + (nD ss).length) = ss := List.take_of_length_le (by simp [nD])
    rw [tk] at h5
    constructor
    · rintro ⟨q, hq, rfl⟩
      refine ⟨q, h4 q hq, ?_, rfl⟩
      exact (mem_setL.mp (mem_led.mpr ⟨h4 q hq, (h5 q).mp hq⟩)).2
    · rintro ⟨q, hq, h6, rfl⟩
      exact ⟨q, (h5 q).mpr (mem_led.mp (mem_setL.mpr ⟨hq, h6⟩)).2, rfl⟩
  have sd : sortedD (.dk (setK ks')) = some (nD (led A ss l)) := by
    have e : (setK ks').map (fun p => kD p.1) = nD ks' := by
      unfold setK nD
      rw [List.map_map]
      rfl
    show srtD ((setK ks').map fun p => kD p.1) = _
    rw [e]
    unfold srtD
    rw [if_pos (srt_ints ks'), so]
  simp [runF, e_var, h1, sd]
end K63

namespace K63
open PySem PySem.Spec L2 DL
@[simp] theorem nD_nil : nD [] = [] := rfl
@[simp] theorem nD_cons (p : Nat) (ps : List Nat) : nD (p :: ps) = .int p :: nD ps := rfl
theorem sh_ints (ps : List Nat) : SeqAt.shaped (D.lst (nD ps)).py = true := by
  have h : PyData.canLayAll0 (D.pys (nD ps)) = true ∧ PyData.depthAll (D.pys (nD ps)) ≤ 1 := by
    induction ps with
    | nil => exact ⟨rfl, by simp [nD, D.pys, PyData.depthAll]⟩
    | cons p ps ih =>
      refine ⟨?_, ?_⟩
      · show (true && PyData.canLayAll0 (D.pys (nD ps))) = true
        rw [ih.1]
        rfl
      · simp [nD, D.pys, D.py, PyData.depthAll, PyData.depth] at ih ⊢
        exact ih.2
  unfold SeqAt.shaped
  rw [Bool.and_eq_true]
  refine ⟨h.1, decide_eq_true ?_⟩
  simp [D.py, PyData.depth]
  omega
theorem mem_ints (p : Nat) (ps : List Nat) : memD (.int p) (.tup (nD ps)) = some (decide (p ∈ ps)) := by
  show (if SeqAt.shaped (D.int p).py && SeqAt.shaped (D.lst (nD ps)).py then some ((D.pys (nD ps)).any fun z => PyData.eqv z (D.int p).py) else none) = _
  rw [sh_ints]
  show some _ = some _
  congr 1
  induction ps with
  | nil => rfl
  | cons q ps ih =>
    show (PyData.eqv (.int q) (.int p) || (D.pys (nD ps)).any fun z => PyData.eqv z (D.int p).py) = _
    rw [ih]
    have e : PyData.eqv (.int (q : Int)) (.int (p : Int)) = ((q : Int) == p) := by simp [PyData.eqv]
    rw [e]
    by_cases h : p = q
    · subst h
      simp
    · have h1 : ((q : Int) == p) = false := beq_eq_false_iff_ne.mpr (by omega)
      rw [h1]
      simp [h]
@[simp] theorem w_lst_n (ps : List Nat) : (nD ps).length = ps.length := by simp [nD]
theorem ints_of (ps : List Nat) : intsOf (nD ps) = some (ps.map fun (q : Nat) => (q : Int)) := by
  induction ps with
  | nil => rfl
  | cons p ps ih =>
    show (intsOf (nD ps)).bind _ = _
    rw [ih]
    rfl
theorem tups_no (ps : List Nat) (h : ps ≠ []) : tupsOf (nD ps) = none := by
  cases ps with
  | nil => exact absurd rfl h
  | cons p ps => rfl
theorem sortSet_ints {n : Nat} {P : Nat → Bool} {ps : List Nat} (hl : ps.length < 64) (h : ∀ q, q ∈ ps ↔ q < n ∧ P q = true) : sortSetD (.lst (nD ps)) = some (nD (setL n P)) := by
  cases ps with
  | nil =>
    have e : setL n P = [] := by
      cases q : setL n P with
      | nil => rfl
      | cons x r =>
        have : x ∈ setL n P := by rw [q]; exact List.mem_cons_self
        exact absurd ((h x).mpr (mem_setL.mp this)) (by simp)
    rw [e]
    simp [sortSetD, tupsOf, dedupL, nD, srtOk, D.pys]
  | cons p ps =>
    simp only [sortSetD, tups_no (p :: ps) (by simp), ints_of]
    rw [if_pos (by rw [List.length_map]; exact hl)]
    congr 1
    refine sort_set ?_ fun d => ?_
    · exact List.Pairwise.map _ (fun a b hab z => hab (D.int.inj z)) (nodup_dedupL _)
    · rw [List.mem_map]
      constructor
      · rintro ⟨i, hi, rfl⟩
        obtain ⟨q, hq, rfl⟩ := List.mem_map.mp (mem_dedupL.mp hi)
        exact ⟨q, ((h q).mp hq).1, ((h q).mp hq).2, rfl⟩
      · rintro ⟨q, h1, h2, rfl⟩
        exact ⟨q, mem_dedupL.mpr (List.mem_map.mpr ⟨q, (h q).mpr ⟨h1, h2⟩, rfl⟩), rfl⟩
theorem led_ok {A : Au} (h : A.Ok) (ss : List Nat) (l : Nat) : f_law_led [A.enc, .tup (nD ss), .str (S [l])] = some (.tup (nD (led A ss l))) := by
  unfold f_law_led b_law_led
  have a3 : ixD A.enc (.int 3) = some (.tup (A.ed.map edD)) := rfl
  have lc : lcD (gSet 4) (fAndT (fTest (fBin eqD (fBinN ixD 4 (fC (.int (1)))) (fLook 2))) (fTest (fIn (fBinN ixD 4 (fC (.int (0)))) (fLook 1)))) (fBinN ixD 4 (fC (.int (2)))) [4] (A.ed.map edD) [] [.d A.enc, .d (.tup (nD ss)), .d (.str (S [l])), .no, .no]
      = some (nD ((A.ed.filter fun e => e.2.1 == l && decide (e.1 ∈ ss)).map fun e => e.2.2), [.d A.enc, .d (.tup (nD ss)), .d (.str (S [l])), .no, .no]) := by
    have key : ∀ (es : List (Nat × Nat × Nat)) (acc : List D), lcD (gSet 4) (fAndT (fTest (fBin eqD (fBinN ixD 4 (fC (.int (1)))) (fLook 2))) (fTest (fIn (fBinN ixD 4 (fC (.int (0)))) (fLook 1)))) (fBinN ixD 4 (fC (.int (2)))) [4] (es.map edD) acc [.d A.enc, .d (.tup (nD ss)), .d (.str (S [l])), .no, .no]
        = some (acc ++ nD ((es.filter fun e => e.2.1 == l && decide (e.1 ∈ ss)).map fun e => e.2.2), [.d A.enc, .d (.tup (nD ss)), .d (.str (S [l])), .no, .no]) := by
      intro es
      induction es with
      | nil =>
        intro acc
        simp [lcD]
      | cons e es ih =>
        intro acc
        have q : (S [e.2.1] == S [l]) = (e.2.1 == l) := by
          rw [S_eq]
          simp
        by_cases h1 : e.2.1 = l
        · by_cases h2 : e.1 ∈ ss
          · simp [lcD, edD, q, h1, mem_ints, h2, ih]
          · simp [lcD, edD, q, h1, mem_ints, h2, ih]
        · have h3 : (e.2.1 == l) = false := beq_eq_false_iff_ne.mpr h1
          simp [lcD, edD, q, h3, ih]
    have := key A.ed []
    rwa [List.nil_append] at this
  have so : sortSetD (.lst (nD ((A.ed.filter fun e => e.2.1 == l && decide (e.1 ∈ ss)).map fun e => e.2.2))) = some (nD (led A ss l)) := by
    refine sortSet_ints (n := A.n) ?_ fun q => ?_
    · rw [List.length_map]
      exact Nat.lt_of_le_of_lt (List.length_filter_le _ _) h.edl
    · have m := mem_led (A := A) (ss := ss) (l := l) (q := q)
      unfold led at m
      rw [mem_setL] at m
      rw [m, List.mem_map]
      constructor
      · rintro ⟨⟨p, l', q'⟩, he, rfl⟩
        rw [List.mem_filter] at he
        obtain ⟨he, h2⟩ := he
        simp at h2
        obtain ⟨rfl, h2⟩ := h2
        exact ⟨(h.ed _ he).2.2, p, h2, he⟩
      · rintro ⟨_, p, hp, he⟩
        exact ⟨_, List.mem_filter.mpr ⟨he, by simp [hp]⟩, rfl⟩
  have el : A.ed.length ≤ 1000000 := by
    have := h.edl
    omega
  simp [runF, a3, el, lc, so, e_var]
/-- the states behind a word -/
def beh (A : Au) (ss : List Nat) (w : List Nat) : List Nat := w.foldl (led A) ss
theorem behind_word_ok {A : Au} (h : A.Ok) (w : List Nat) (ss : List Nat) (hs : ∀ p ∈ ss, p < A.n) : f_behind_word [stepsD A, .tup (nD ss), .str (S w)] = some (.tup (nD (beh A ss w))) := by
  have loop : ∀ (w2 : List Nat) (ss : List Nat) (x : Sl), (∀ p ∈ ss, p < A.n) → ∃ y, forD (gSet 3) (fSeq (fAsg (fCall f_moved (fCons (fVar 0) (fCons (fVar 1) (fCons (fVar 3) (fNil))))) (gSet 1)) (fNx)) (w2.map fun c => D.str (S [c])) [.d (stepsD A), .d (.tup (nD ss)), .d (.str (S w)), x] = some (.nx [.d (stepsD A), .d (.tup (nD (beh A ss w2))), .d (.str (S w)), y]) := by
    intro w2
    induction w2 with
    | nil =>
      intro ss x _
      exact ⟨x, rfl⟩
    | cons l w2 ih =>
      intro ss x hs
      obtain ⟨y, hy⟩ := ih (led A ss l) (.d (.str (S [l]))) (fun p hp => led_lt hp)
      refine ⟨y, ?_⟩
      simp [forD, e_var, moved_ok h hs l]
      exact hy
  obtain ⟨y, hy⟩ := loop w ss .no hs
  unfold f_behind_word b_behind_word
  simp [runF, e_var, itemsS, hy]
theorem law_behind_ok {A : Au} (h : A.Ok) (w : List Nat) : f_law_behind [A.enc, .str (S w)] = some (.tup (nD (beh A A.st w))) := by
  have loop : ∀ (w2 : List Nat) (ss : List Nat) (x : Sl), ∃ y, forD (gSet 3) (fSeq (fAsg (fCall f_law_led (fCons (fVar 0) (fCons (fVar 2) (fCons (fVar 3) (fNil))))) (gSet 2)) (fNx)) (w2.map fun c => D.str (S [c])) [.d A.enc, .d (.str (S w)), .d (.tup (nD ss)), x] = some (.nx [.d A.enc, .d (.str (S w)), .d (.tup (nD (beh A ss w2))), y]) := by
    intro w2
    induction w2 with
    | nil =>
      intro ss x
      exact ⟨x, rfl⟩
    | cons l w2 ih =>
      intro ss x
      obtain ⟨y, hy⟩ := ih (led A ss l) (.d (.str (S [l])))
      refine ⟨y, ?_⟩
      simp [forD, e_var, led_ok h ss l]
      exact hy
  obtain ⟨y, hy⟩ := loop w A.st .no
  have a2 : ixD A.enc (.int 2) = some (.tup (nD A.st)) := rfl
  unfold f_law_behind b_law_behind
  simp [runF, e_var, itemsS, hy, a2]
end K63

namespace K63
open PySem PySem.Spec L2 DL
/-! ### paths -/
def Pth (A : Au) : List Nat → Nat → Nat → Prop
  | [], p, q => p = q
  | l :: w, p, q => ∃ r, (p, l, r) ∈ A.ed ∧ Pth A w r q
/-- a path that comes to a mark -/
def Mk (A : Au) : List Nat → Nat → Nat → Prop
  | [], _, _ => False
  | l :: w, p, q => ∃ r, (p, l, r) ∈ A.ed ∧ ((r ∈ A.en ∧ Pth A w r q) ∨ Mk A w r q)
theorem pth_app {A : Au} {v : List Nat} {q : Nat} : ∀ {w : List Nat} {p : Nat}, Pth A (w ++ v) p q ↔ ∃ r, Pth A w p r ∧ Pth A v r q
  | [], p => ⟨fun h => ⟨p, rfl, h⟩, fun ⟨r, h1, h2⟩ => by cases h1; exact h2⟩
  | l :: w, p => by
    constructor
    · rintro ⟨r, h1, h2⟩
      obtain ⟨s, h3, h4⟩ := pth_app.mp h2
      exact ⟨s, ⟨r, h1, h3⟩, h4⟩
    · rintro ⟨s, ⟨r, h1, h3⟩, h4⟩
      exact ⟨r, h1, pth_app.mpr ⟨s, h3, h4⟩⟩
theorem mk_pth {A : Au} {q : Nat} : ∀ {w : List Nat} {p : Nat}, Mk A w p q → Pth A w p q
  | l :: w, p, ⟨r, h1, h2⟩ => ⟨r, h1, h2.elim (·.2) mk_pth⟩
theorem mk_app {A : Au} {v : List Nat} {q : Nat} : ∀ {w : List Nat} {p : Nat}, Mk A (w ++ v) p q ↔ ∃ r, (Mk A w p r ∧ Pth A v r q) ∨ (Pth A w p r ∧ Mk A v r q)
  | [], p => ⟨fun h => ⟨p, .inr ⟨rfl, h⟩⟩, fun ⟨r, h⟩ => by
    rcases h with ⟨h, _⟩ | ⟨h, h2⟩
    · exact h.elim
    · cases h
      exact h2⟩
  | l :: w, p => by
    constructor
    · rintro ⟨r, h1, h2 | h2⟩
      · obtain ⟨s, h3, h4⟩ := pth_app.mp h2.2
        exact ⟨s, .inl ⟨⟨r, h1, .inl ⟨h2.1, h3⟩⟩, h4⟩⟩
      · obtain ⟨s, h3 | h3⟩ := mk_app.mp h2
        · exact ⟨s, .inl ⟨⟨r, h1, .inr h3.1⟩, h3.2⟩⟩
        · exact ⟨s, .inr ⟨⟨r, h1, h3.1⟩, h3.2⟩⟩
    · rintro ⟨s, ⟨⟨r, h1, h2⟩, h3⟩ | ⟨⟨r, h1, h2⟩, h3⟩⟩
      · rcases h2 with h2 | h2
        · exact ⟨r, h1, .inl ⟨h2.1, pth_app.mpr ⟨s, h2.2, h3⟩⟩⟩
        · exact ⟨r, h1, .inr (mk_app.mpr ⟨s, .inl ⟨h2, h3⟩⟩)⟩
      · exact ⟨r, h1, .inr (mk_app.mpr ⟨s, .inr ⟨h2, h3⟩⟩)⟩
theorem pth_lt {A : Au} (h : A.Ok) {q : Nat} : ∀ {w : List Nat} {p : Nat}, Pth A w p q → p < A.n → q < A.n
  | [], p, e, hp => by
    cases e
    exact hp
  | l :: w, p, ⟨r, h1, h2⟩, _ => pth_lt h h2 (h.ed _ h1).2.2
theorem mem_beh {A : Au} {q : Nat} : ∀ {w : List Nat} {ss : List Nat}, (∀ p ∈ ss, p < A.n) → A.Ok → (q ∈ beh A ss w ↔ ∃ p ∈ ss, Pth A w p q)
  | [], ss, _, _ => ⟨fun h => ⟨q, h, rfl⟩, fun ⟨p, h1, h2⟩ => by cases h2; exact h1⟩
  | l :: w, ss, hs, h => by
    show q ∈ beh A (led A ss l) w ↔ _
    rw [mem_beh (fun p hp => led_lt hp) h]
    constructor
    · rintro ⟨r, h1, h2⟩
      obtain ⟨_, p, h3, h4⟩ := mem_led.mp h1
      exact ⟨p, h3, r, h4, h2⟩
    · rintro ⟨p, h3, r, h4, h2⟩
      exact ⟨r, mem_led.mpr ⟨(h.ed _ h4).2.2, p, h3, h4⟩, h2⟩
/-! ### tables of pairs -/
abbrev Tb := List ((Nat × Nat) × Bool)
def pK (k : Nat × Nat) : List Key := [.inl k.1, .inl k.2]
def bitD (b : Bool) : D := .int (if b = true then 1 else 0)
def tabD (es : Tb) : List (List Key × D) := es.map fun e => (pK e.1, bitD e.2)
theorem pK_inj {a b : Nat × Nat} (h : pK a = pK b) : a = b := by
  obtain ⟨a1, a2⟩ := a
  obtain ⟨b1, b2⟩ := b
  unfold pK at h
  simp at h
  rw [show a1 = b1 by omega, show a2 = b2 by omega]
def upT (es : Tb) (k : Nat × Nat) (b : Bool) : Tb := if es.any (fun e => e.1 == k) = true then es.map (fun e => if e.1 = k then (e.1, b) else e) else es ++ [(k, b)]
theorem put_tab (es : Tb) (k : Nat × Nat) (b : Bool) : putD (tabD es) (pK k) (bitD b) = tabD (upT es k b) := by
  have e : ((tabD es).any fun kv => decide (kv.1 = pK k)) = es.any fun e => e.1 == k := by
    unfold tabD
    rw [List.any_map]
    congr 1
    funext x
    show decide (pK x.1 = pK k) = (x.1 == k)
    by_cases h : x.1 = k
    · rw [h]
      simp
    · have : ¬ pK x.1 = pK k := fun z => h (pK_inj z)
      simp [h, this]
  unfold putD upT
  rw [e]
  split
  · unfold tabD
    rw [List.map_map, List.map_map]
    refine List.map_congr_left fun x _ => ?_
    show (if pK x.1 = pK k then (pK x.1, bitD b) else (pK x.1, bitD x.2)) = _
    by_cases h : x.1 = k
    · simp [h]
    · have : ¬ pK x.1 = pK k := fun z => h (pK_inj z)
      simp [h, this]
  · unfold tabD
    simp
def Ky (n : Nat) (es : Tb) : Prop := (es.map (·.1)).Nodup ∧ ∀ e ∈ es, e.1.1 < n ∧ e.1.2 < n
theorem mem_up {es : Tb} {k k' : Nat × Nat} {b b' : Bool} : (k', b') ∈ upT es k b ↔ (k' = k ∧ b' = b) ∨ (k' ≠ k ∧ (k', b') ∈ es) := by
  unfold upT
  split
  · rename_i h
    rw [List.mem_map]
    constructor
    · rintro ⟨e, he, h2⟩
      split at h2
      · rename_i h3
        cases h2
        exact .inl ⟨h3, rfl⟩
      · rename_i h3
        rw [h2] at he h3
        exact .inr ⟨h3, he⟩
    · rintro (⟨rfl, rfl⟩ | ⟨h1, h2⟩)
      · obtain ⟨e, he, h3⟩ := List.any_eq_true.mp h
        have h3 : e.1 = k' := by simpa using h3
        exact ⟨e, he, by rw [if_pos h3, h3]⟩
      · exact ⟨(k', b'), h2, if_neg h1⟩
  · rename_i h
    rw [List.mem_append, List.mem_singleton]
    constructor
    · rintro (h1 | h1)
      · refine .inr ⟨fun z => h (List.any_eq_true.mpr ⟨_, h1, ?_⟩), h1⟩
        simp [z]
      · cases h1
        exact .inl ⟨rfl, rfl⟩
    · rintro (⟨rfl, rfl⟩ | ⟨_, h2⟩)
      · exact .inr rfl
      · exact .inl h2
theorem ky_up {n : Nat} {es : Tb} {k : Nat × Nat} {b : Bool} (h : Ky n es) (hk : k.1 < n ∧ k.2 < n) : Ky n (upT es k b) := by
  refine ⟨?_, fun e he => ?_⟩
  · unfold upT
    split
    · rw [List.map_map]
      have : (es.map ((fun x => x.1) ∘ fun e => if e.1 = k then (e.1, b) else e)) = es.map (·.1) := List.map_congr_left fun e _ => by
        show (if e.1 = k then (e.1, b) else e).1 = e.1
        split <;> rfl
      rw [this]
      exact h.1
    · rename_i hh
      rw [List.map_append]
      refine List.nodup_append.mpr ⟨h.1, by simp, fun x hx y hy z => ?_⟩
      have hy : y = k := by simpa using hy
      obtain ⟨e, he, h3⟩ := List.mem_map.mp hx
      have h3 : e.1 = x := h3
      exact hh (List.any_eq_true.mpr ⟨e, he, by simp [h3, z, hy]⟩)
  · obtain ⟨k', b'⟩ := e
    rcases mem_up.mp he with ⟨h1, _⟩ | ⟨_, h2⟩
    · rw [h1]
      exact hk
    · exact h.2 _ h2
theorem get_tab {es : Tb} (nd : (es.map (·.1)).Nodup) {k : Nat × Nat} {b : Bool} (h : (k, b) ∈ es) : getK (tabD es) (pK k) = some (bitD b) := by
  induction es with
  | nil => cases h
  | cons e es ih =>
    rw [List.map_cons, List.nodup_cons] at nd
    unfold getK tabD
    by_cases h1 : e.1 = k
    · rcases List.mem_cons.mp h with rfl | h2
      · simp
      · exact absurd (List.mem_map.mpr ⟨(k, b), h2, rfl⟩) (h1 ▸ nd.1)
    · have h2 : (k, b) ∈ es := (List.mem_cons.mp h).resolve_left (fun z => h1 (by rw [← z]))
      have := ih nd.2 h2
      unfold getK tabD at this
      have h3 : ¬ pK e.1 = pK k := fun z => h1 (pK_inj z)
      simp [h3]
      simpa using this
theorem get_tab_no {es : Tb} {k : Nat × Nat} (h : ∀ b, (k, b) ∉ es) : getK (tabD es) (pK k) = none := by
  unfold getK tabD
  rw [Option.map_eq_none_iff, List.find?_eq_none]
  intro x hx
  obtain ⟨e, he, rfl⟩ := List.mem_map.mp hx
  have : ¬ pK e.1 = pK k := fun z => h e.2 (by rw [← pK_inj z]; exact he)
  simpa using this
theorem tab_len {n : Nat} {es : Tb} (h : Ky n es) (hn : n ≤ 4) : (tabD es).length ≤ 16 := by
  have h2 : ((es.map (·.1)).map fun k : Nat × Nat => k.1 * 4 + k.2).Nodup := by
    refine List.Pairwise.map _ ?_ (List.Pairwise.imp_of_mem (S := fun a b : Nat × Nat => a ≠ b ∧ a.1 < 4 ∧ a.2 < 4 ∧ b.1 < 4 ∧ b.2 < 4) (fun {a b} ha hb hab => ?_) h.1)
    · rintro ⟨a1, a2⟩ ⟨b1, b2⟩ ⟨h1, h2, h3, h4, h5⟩ z
      dsimp only at z h2 h3 h4 h5
      exact h1 (by rw [show a1 = b1 by omega, show a2 = b2 by omega])
    · obtain ⟨e, he, rfl⟩ := List.mem_map.mp ha
      obtain ⟨f, hf, rfl⟩ := List.mem_map.mp hb
      have := h.2 e he
      have := h.2 f hf
      exact ⟨hab, by omega, by omega, by omega, by omega⟩
  have := len_le 16 _ h2 fun q hq => by
    obtain ⟨k, hk, rfl⟩ := List.mem_map.mp hq
    obtain ⟨e, he, rfl⟩ := List.mem_map.mp hk
    have := h.2 e he
    omega
  unfold tabD
  simpa using this
/-- the profile of a word -/
structure Tab (A : Au) (w : List Nat) (es : Tb) : Prop where
  ky : Ky A.n es
  sound : ∀ p q b, ((p, q), b) ∈ es → Pth A w p q ∧ (b = true ↔ Mk A w p q)
  full : ∀ p q, p < A.n → Pth A w p q → ∃ b, ((p, q), b) ∈ es
end K63

namespace K63
open PySem PySem.Spec L2 DL
@[simp] theorem ix_dt (kvs : List (List Key × D)) (ks : List D) : ixD (.dt kvs) (.tup ks) = (keysOf ks).bind fun k => getK kvs k := id rfl
@[simp] theorem ix_dk (kvs : List (Key × D)) (d : D) : ixD (.dk kvs) d = (keyOf d).bind fun k => getK kvs k := by cases d <;> exact id rfl
theorem max_bit (a b : Bool) : max2D [bitD a, bitD b] = some (bitD (a || b)) := by cases a <;> cases b <;> rfl
theorem key_bool {es : Tb} (nd : (es.map (·.1)).Nodup) {k : Nat × Nat} {a b : Bool} (h : (k, a) ∈ es) (h2 : (k, b) ∈ es) : a = b := by
  have e1 := get_tab nd h
  have e2 := get_tab nd h2
  rw [e1] at e2
  cases a <;> cases b <;> simp [bitD] at e2 ⊢
theorem get_val {es : Tb} (nd : (es.map (·.1)).Nodup) (k : Nat × Nat) : (getK (tabD es) (pK k)).getD (.int 0) = bitD (decide ((k, true) ∈ es)) := by
  by_cases h : ∃ b, (k, b) ∈ es
  · obtain ⟨b, hb⟩ := h
    rw [get_tab nd hb]
    show bitD b = _
    cases b with
    | true => simp [hb]
    | false =>
      have : ¬ (k, true) ∈ es := fun z => by cases key_bool nd hb z
      simp [this]
  · rw [get_tab_no fun b hb => h ⟨b, hb⟩]
    have : ¬ (k, true) ∈ es := fun z => h ⟨_, z⟩
    simp [this, bitD]
theorem keys_tab (es : Tb) : (tabD es).map (fun p => tD p.1) = es.map fun e => D.tup [.int e.1.1, .int e.1.2] := by
  unfold tabD
  rw [List.map_map]
  rfl
/-! ### the profile of a letter -/
theorem letter_ok {A : Au} (h : A.Ok) {ms : List Nat} (hm : ∀ q, q ∈ ms ↔ q ∈ A.en) (l : Nat) : ∃ r, f_letter_profile [stepsD A, .dk (setK ms), .str (S [l])] = some r ∧ ∃ es, r = .dt (tabD es) ∧ Tab A [l] es := by
  have n4 := h.n4
  let Inv (Q : Nat → Nat → Prop) (es : Tb) : Prop := Ky A.n es ∧ ∀ p q b, ((p, q), b) ∈ es ↔ Q p q ∧ b = decide (q ∈ ms)
  have step : ∀ {Q : Nat → Nat → Prop} {es : Tb} {p q : Nat}, p < A.n → q < A.n → Inv Q es → Inv (fun p' q' => Q p' q' ∨ (p' = p ∧ q' = q)) (upT es (p, q) (decide (q ∈ ms))) := by
    intro Q es p q hp hq hI
    refine ⟨ky_up hI.1 ⟨hp, hq⟩, fun p' q' b => ?_⟩
    rw [mem_up, hI.2]
    constructor
    · rintro (⟨h1, h2⟩ | ⟨h1, h2, h3⟩)
      · cases h1
        exact ⟨.inr ⟨rfl, rfl⟩, h2⟩
      · exact ⟨.inl h2, h3⟩
    · rintro ⟨h1 | ⟨rfl, rfl⟩, h2⟩
      · by_cases e : (p', q') = (p, q)
        · cases e
          exact .inl ⟨rfl, h2⟩
        · exact .inr ⟨e, h1, h2⟩
      · exact .inl ⟨rfl, h2⟩
  have congr : ∀ {Q Q' : Nat → Nat → Prop} {es : Tb}, (∀ p q, Q p q ↔ Q' p q) → Inv Q es → Inv Q' es := fun e hI => ⟨hI.1, fun p q b => by rw [hI.2, e]⟩
  have inner : ∀ (p : Nat), p < A.n → ∀ (row : List (Key × D)), ixD (stepsD A) (.int p) = some (.dk row) → (getK row (.inr (S [l]))).getD (.lst []) = .lst (nD (succ A p l)) →
      ∀ (Q : Nat → Nat → Prop) (es : Tb) (x y : Sl), Inv Q es → ∃ ρ', fSeq (fFor (fItems (fGetN 5 (fVar 2) (fOfL (fLst (fNil))))) (gSet 6) (fSeq (fPut 3 (fTup (fCons (fVar 4) (fCons (fVar 6) (fNil)))) (fApp intD (fIn (fVar 6) (fLook 1)))) (fNx))) (fNx)
        [.d (stepsD A), .d (.dk (setK ms)), .d (.str (S [l])), .mT (tabD es), .d (.int p), .d (.dk row), x] = some (.nx ρ') ∧ ∃ es' x', ρ' = [.d (stepsD A), .d (.dk (setK ms)), .d (.str (S [l])), .mT (tabD es'), .d (.int p), .d (.dk row), x'] ∧ Inv (fun p' q' => Q p' q' ∨ (p' = p ∧ q' ∈ succ A p l)) es' := by
    intro p hp row h1 h2 Q es x y hI
    obtain ⟨ρ', h3, es', x', rfl, h4⟩ := forD_inv (g := gSet 6) (f := fSeq (fPut 3 (fTup (fCons (fVar 4) (fCons (fVar 6) (fNil)))) (fApp intD (fIn (fVar 6) (fLook 1)))) (fNx))
      (I := fun i ρ => ∃ es' x', ρ = [.d (stepsD A), .d (.dk (setK ms)), .d (.str (S [l])), .mT (tabD es'), .d (.int p), .d (.dk row), x'] ∧ Inv (fun p' q' => Q p' q' ∨ (p' = p ∧ q' ∈ (succ A p l).take i)) es') (nD (succ A p l)) 0 (fun i d ρ hd hI => by
        obtain ⟨es', x', rfl, hI⟩ := hI
        unfold nD at hd
        rw [List.getElem?_map] at hd
        obtain ⟨q, hq, rfl⟩ := Option.map_eq_some_iff.mp hd
        have hqn : q < A.n := (h.ed _ (mem_succ.mp (List.mem_of_getElem? hq))).2.2
        have lt := tab_len hI.1 n4
        have lt2 : (tabD es').length < 1000000 := by omega
        have pt := put_tab es' (p, q) (decide (q ∈ ms))
        unfold pK bitD at pt
        dsimp only at pt
        refine ⟨_, [.d (stepsD A), .d (.dk (setK ms)), .d (.str (S [l])), .mT (tabD (upT es' (p, q) (decide (q ∈ ms)))), .d (.int p), .d (.dk row), .d (.int q)], rfl, ?_, _, _, rfl, congr (fun p' q' => ?_) (step hp hqn hI)⟩
        · rw [← pt]
          simp [e_var, get_set, lt2]
        · rw [Nat.zero_add, List.take_add_one, hq]
          simp
          constructor
          · rintro ((h1 | h1) | h1)
            · exact .inl h1
            · exact .inr ⟨h1.1, .inl h1.2⟩
            · exact .inr ⟨h1.1, .inr h1.2⟩
          · rintro (h1 | ⟨h1, h2 | h2⟩)
            · exact .inl (.inl h1)
            · exact .inl (.inr ⟨h1, h2⟩)
            · exact .inr ⟨h1, h2⟩) _ ⟨es, x, rfl, congr (fun _ _ => by simp) hI⟩
    refine ⟨_, ?_, es', x', rfl, congr (fun p' q' => ?_) h4⟩
    · simp [e_var, h2, h3]
    · rw [List.take_of_length_le (by simp [nD])]
  obtain ⟨ρ', h3, es, x, y, z, rfl, h4⟩ := forD_inv (g := gTupD 2 (gsCons (gSet 4) (gsCons (gSet 5) (gsNil)))) (f := fSeq (fFor (fItems (fGetN 5 (fVar 2) (fOfL (fLst (fNil))))) (gSet 6) (fSeq (fPut 3 (fTup (fCons (fVar 4) (fCons (fVar 6) (fNil)))) (fApp intD (fIn (fVar 6) (fLook 1)))) (fNx))) (fNx))
      (I := fun i ρ => ∃ es x y z, ρ = [.d (stepsD A), .d (.dk (setK ms)), .d (.str (S [l])), .mT (tabD es), x, y, z] ∧ Inv (fun p' q' => p' < i ∧ q' ∈ succ A p' l) es) (enumD (rowsD ((List.range A.n).map (rowOf A.ed)))) 0 (fun i d ρ hd hI => by
        obtain ⟨es, x, y, z, rfl, hI⟩ := hI
        unfold enumD at hd
        rw [List.getElem?_map] at hd
        obtain ⟨j, hj, rfl⟩ := Option.map_eq_some_iff.mp hd
        obtain ⟨hj1, hj2⟩ := List.getElem?_eq_some_iff.mp hj
        rw [List.getElem_range] at hj2
        subst hj2
        have hi : i < A.n := by simpa [rowsD] using hj1
        obtain ⟨row, r1, r2⟩ := steps_get (l := l) hi
        have r3 : (rowsD ((List.range A.n).map (rowOf A.ed))).getD i .non = .dk row := by
          have : (rowsD ((List.range A.n).map (rowOf A.ed)))[i]? = some (.dk row) := by
            rw [← atI_nat]
            exact r1
          rw [List.getD_eq_getElem?_getD, this]
          rfl
        rw [r3]
        obtain ⟨ρ', k1, es', x', rfl, k2⟩ := inner i hi row r1 r2 _ es z y hI
        refine ⟨_, _, rfl, k1, es', _, _, x', rfl, congr (fun p' q' => ?_) k2⟩
        constructor
        · rintro (⟨h1, h2⟩ | ⟨rfl, h2⟩)
          · exact ⟨by omega, h2⟩
          · exact ⟨by omega, h2⟩
        · rintro ⟨h1, h2⟩
          by_cases e : p' = i
          · subst e
            exact .inr ⟨rfl, h2⟩
          · exact .inl ⟨by omega, h2⟩) [.d (stepsD A), .d (.dk (setK ms)), .d (.str (S [l])), .mT (tabD []), .no, .no, .no] ⟨[], _, _, _, rfl, ⟨List.nodup_nil, fun e he => by cases he⟩, fun p q b => by simp⟩
  have el : (enumD (rowsD ((List.range A.n).map (rowOf A.ed)))).length = A.n := by simp [enumD, rowsD]
  rw [el, Nat.zero_add] at h4
  refine ⟨.dt (tabD es), ?_, es, rfl, h4.1, fun p q b hb => ?_, fun p q hp hq => ?_⟩
  · unfold f_letter_profile b_letter_profile
    have h3 : forD (gTupD 2 (gsCons (gSet 4) (gsCons (gSet 5) (gsNil)))) (fSeq (fFor (fItems (fGetN 5 (fVar 2) (fOfL (fLst (fNil))))) (gSet 6) (fSeq (fPut 3 (fTup (fCons (fVar 4) (fCons (fVar 6) (fNil)))) (fApp intD (fIn (fVar 6) (fLook 1)))) (fNx))) (fNx)) (enumD (rowsD ((List.range A.n).map (rowOf A.ed)))) [.d (stepsD A), .d (.dk (setK ms)), .d (.str (S [l])), .mT [], .no, .no, .no] = _ := h3
    have sd : stepsD A = .lst (rowsD ((List.range A.n).map (rowOf A.ed))) := rfl
    rw [sd] at h3 ⊢
    simp [runF, e_var, h3]
  · obtain ⟨⟨_, h5⟩, h6⟩ := (h4.2 p q b).mp hb
    have h5 := mem_succ.mp h5
    refine ⟨⟨q, h5, rfl⟩, ?_⟩
    rw [h6]
    constructor
    · intro z
      exact ⟨q, h5, .inl ⟨(hm q).mp (of_decide_eq_true z), rfl⟩⟩
    · rintro ⟨r, _, ⟨h7, rfl⟩ | h7⟩
      · exact decide_eq_true ((hm _).mpr h7)
      · exact h7.elim
  · obtain ⟨r, h5, rfl⟩ := hq
    exact ⟨_, (h4.2 p r _).mpr ⟨⟨hp, mem_succ.mpr h5⟩, rfl⟩⟩
end K63

namespace K63
open PySem PySem.Spec L2 DL
abbrev En := (Nat × Nat) × Bool
def mt (x y : En) (k : Nat × Nat) : Prop := x.1.2 = y.1.1 ∧ k = (x.1.1, y.1.2)
structure Acc (n : Nat) (R : En → En → Prop) (es : Tb) : Prop where
  ky : Ky n es
  has : ∀ k, (∃ b, (k, b) ∈ es) ↔ ∃ x y, R x y ∧ mt x y k
  tr : ∀ k, (k, true) ∈ es ↔ ∃ x y, R x y ∧ mt x y k ∧ (x.2 || y.2) = true
theorem Acc.congr {n : Nat} {R R' : En → En → Prop} {es : Tb} (e : ∀ x y, R x y ↔ R' x y) (h : Acc n R es) : Acc n R' es :=
  ⟨h.ky, fun k => by rw [h.has]; simp only [e], fun k => by rw [h.tr]; simp only [e]⟩
theorem Acc.skip {n : Nat} {R : En → En → Prop} {es : Tb} {a b : En} (h : Acc n R es) (ne : a.1.2 ≠ b.1.1) : Acc n (fun x y => R x y ∨ (x = a ∧ y = b)) es := by
  refine ⟨h.ky, fun k => ?_, fun k => ?_⟩
  · rw [h.has]
    constructor
    · rintro ⟨x, y, r, m⟩
      exact ⟨x, y, .inl r, m⟩
    · rintro ⟨x, y, r | ⟨rfl, rfl⟩, m⟩
      · exact ⟨x, y, r, m⟩
      · exact absurd m.1 ne
  · rw [h.tr]
    constructor
    · rintro ⟨x, y, r, m⟩
      exact ⟨x, y, .inl r, m⟩
    · rintro ⟨x, y, r | ⟨rfl, rfl⟩, m⟩
      · exact ⟨x, y, r, m⟩
      · exact absurd m.1.1 ne
theorem Acc.step {n : Nat} {R : En → En → Prop} {es : Tb} {a b : En} (h : Acc n R es) (e : a.1.2 = b.1.1) (ha : a.1.1 < n) (hb : b.1.2 < n) :
    Acc n (fun x y => R x y ∨ (x = a ∧ y = b)) (upT es (a.1.1, b.1.2) ((a.2 || b.2) || decide (((a.1.1, b.1.2), true) ∈ es))) := by
  refine ⟨ky_up h.ky ⟨ha, hb⟩, fun k => ?_, fun k => ?_⟩
  · constructor
    · rintro ⟨c, hc⟩
      rcases mem_up.mp hc with ⟨h1, _⟩ | ⟨_, h2⟩
      · exact ⟨a, b, .inr ⟨rfl, rfl⟩, e, h1⟩
      · obtain ⟨x, y, r, m⟩ := (h.has k).mp ⟨c, h2⟩
        exact ⟨x, y, .inl r, m⟩
    · rintro ⟨x, y, r | ⟨rfl, rfl⟩, m⟩
      · obtain ⟨c, hc⟩ := (h.has k).mpr ⟨x, y, r, m⟩
        by_cases z : k = (a.1.1, b.1.2)
        · exact ⟨_, mem_up.mpr (.inl ⟨z, rfl⟩)⟩
        · exact ⟨c, mem_up.mpr (.inr ⟨z, hc⟩)⟩
      · exact ⟨_, mem_up.mpr (.inl ⟨m.2, rfl⟩)⟩
  · rw [mem_up]
    constructor
    · rintro (⟨rfl, h1⟩ | ⟨_, h2⟩)
      · rcases (Bool.or_eq_true _ _).mp h1.symm with h2 | h2
        · exact ⟨a, b, .inr ⟨rfl, rfl⟩, ⟨e, rfl⟩, h2⟩
        · obtain ⟨x, y, r, m⟩ := (h.tr _).mp (of_decide_eq_true h2)
          exact ⟨x, y, .inl r, m⟩
      · obtain ⟨x, y, r, m⟩ := (h.tr k).mp h2
        exact ⟨x, y, .inl r, m⟩
    · rintro ⟨x, y, r | ⟨rfl, rfl⟩, m, t⟩
      · by_cases z : k = (a.1.1, b.1.2)
        · have : ((a.1.1, b.1.2), true) ∈ es := (h.tr _).mpr ⟨x, y, r, z ▸ m, t⟩
          exact .inl ⟨z, by simp [this]⟩
        · exact .inr ⟨z, (h.tr k).mpr ⟨x, y, r, m, t⟩⟩
      · exact .inl ⟨m.2, by rw [t]; rfl⟩
theorem behind_ok {A : Au} (h : A.Ok) {w v : List Nat} {e1 e2 : Tb} (t1 : Tab A w e1) (t2 : Tab A v e2) : ∃ r, f_behind [.dt (tabD e1), .dt (tabD e2)] = some r ∧ ∃ es, r = .dt (tabD es) ∧ Tab A (w ++ v) es := by
  have n4 := h.n4
  have inner : ∀ (a : En), a ∈ e1 → ∀ (R : En → En → Prop) (es : Tb) (x y z : Sl), Acc A.n R es → ∃ ρ', fSeq (fFor (fItems (fVar 1)) (gTupD 2 (gsCons (gSet 5) (gsCons (gSet 6) (gsNil)))) (fSeq (fIfS (fTest (fBinN eqD 4 (fLook 5))) (fSeq (fAsg (fCall max2D (fCons (fBinN ixD 0 (fTup (fCons (fVar 3) (fCons (fVar 4) (fNil))))) (fCons (fBinN ixD 1 (fTup (fCons (fVar 5) (fCons (fVar 6) (fNil))))) (fNil)))) (gSet 7)) (fSeq (fPut 2 (fTup (fCons (fVar 3) (fCons (fVar 6) (fNil)))) (fCall max2D (fCons (fVar 7) (fCons (fGetN 2 (fTup (fCons (fVar 3) (fCons (fVar 6) (fNil)))) (fC (.int (0)))) (fNil))))) (fNx))) (fNx)) (fNx))) (fNx)
      [.d (.dt (tabD e1)), .d (.dt (tabD e2)), .mT (tabD es), .d (.int a.1.1), .d (.int a.1.2), x, y, z] = some (.nx ρ') ∧ ∃ es' x y z, ρ' = [.d (.dt (tabD e1)), .d (.dt (tabD e2)), .mT (tabD es'), .d (.int a.1.1), .d (.int a.1.2), x, y, z] ∧ Acc A.n (fun x y => R x y ∨ (x = a ∧ y ∈ e2)) es' := by
    intro a ha R es x y z hA
    obtain ⟨ρ', h3, es', x', y', z', rfl, h4⟩ := forD_inv (g := gTupD 2 (gsCons (gSet 5) (gsCons (gSet 6) (gsNil)))) (f := fSeq (fIfS (fTest (fBinN eqD 4 (fLook 5))) (fSeq (fAsg (fCall max2D (fCons (fBinN ixD 0 (fTup (fCons (fVar 3) (fCons (fVar 4) (fNil))))) (fCons (fBinN ixD 1 (fTup (fCons (fVar 5) (fCons (fVar 6) (fNil))))) (fNil)))) (gSet 7)) (fSeq (fPut 2 (fTup (fCons (fVar 3) (fCons (fVar 6) (fNil)))) (fCall max2D (fCons (fVar 7) (fCons (fGetN 2 (fTup (fCons (fVar 3) (fCons (fVar 6) (fNil)))) (fC (.int (0)))) (fNil))))) (fNx))) (fNx)) (fNx))
      (I := fun i ρ => ∃ es' x y z, ρ = [.d (.dt (tabD e1)), .d (.dt (tabD e2)), .mT (tabD es'), .d (.int a.1.1), .d (.int a.1.2), x, y, z] ∧ Acc A.n (fun x y => R x y ∨ (x = a ∧ y ∈ e2.take i)) es') (e2.map fun e => D.tup [.int e.1.1, .int e.1.2]) 0 (fun i d ρ hd hI => by
        obtain ⟨es', x', y', z', rfl, hI⟩ := hI
        rw [List.getElem?_map] at hd
        obtain ⟨b, hb, rfl⟩ := Option.map_eq_some_iff.mp hd
        have hbm := List.mem_of_getElem? hb
        have hbn := t2.ky.2 b hbm
        have han := t1.ky.2 a ha
        have lt := tab_len hI.ky n4
        have lt2 : (tabD es').length < 1000000 := by omega
        have cg : ∀ {es}, Acc A.n (fun x y => (R x y ∨ (x = a ∧ y ∈ e2.take (0 + i))) ∨ (x = a ∧ y = b)) es → Acc A.n (fun x y => R x y ∨ (x = a ∧ y ∈ e2.take (0 + i + 1))) es := fun hh => hh.congr fun x y => by
          rw [Nat.zero_add, List.take_add_one, hb]
          simp
          constructor
          · rintro ((h1 | h1) | h1)
            · exact .inl h1
            · exact .inr ⟨h1.1, .inl h1.2⟩
            · exact .inr ⟨h1.1, .inr h1.2⟩
          · rintro (h1 | ⟨h1, h2 | h2⟩)
            · exact .inl (.inl h1)
            · exact .inl (.inr ⟨h1, h2⟩)
            · exact .inr ⟨h1, h2⟩
        by_cases e : a.1.2 = b.1.1
        · have g1 : getK (tabD e1) [Sum.inl (a.1.1 : Int), Sum.inl (a.1.2 : Int)] = some (bitD a.2) := get_tab (k := a.1) t1.ky.1 ha
          have g2 : getK (tabD e2) [Sum.inl (b.1.1 : Int), Sum.inl (b.1.2 : Int)] = some (bitD b.2) := get_tab (k := b.1) t2.ky.1 hbm
          have g3 : (getK (tabD es') [Sum.inl (a.1.1 : Int), Sum.inl (b.1.2 : Int)]).getD (.int 0) = bitD (decide (((a.1.1, b.1.2), true) ∈ es')) := get_val hI.ky.1 (a.1.1, b.1.2)
          have g4 : ∀ c, putD (tabD es') [Sum.inl (a.1.1 : Int), Sum.inl (b.1.2 : Int)] (bitD c) = tabD (upT es' (a.1.1, b.1.2) c) := fun c => put_tab es' (a.1.1, b.1.2) c
          refine ⟨_, [.d (.dt (tabD e1)), .d (.dt (tabD e2)), .mT (tabD (upT es' (a.1.1, b.1.2) ((a.2 || b.2) || decide (((a.1.1, b.1.2), true) ∈ es')))), .d (.int a.1.1), .d (.int a.1.2), .d (.int b.1.1), .d (.int b.1.2), .d (bitD (a.2 || b.2))], rfl, ?_, _, _, _, _, rfl, cg (hI.step e han.1 hbn.2)⟩
          have e' : ((a.1.2 : Int) == (b.1.1 : Int)) = true := by
            rw [e]
            exact beq_self_eq_true _
          simp [e_var, e', g1, g2, g3, max_bit, lt2, g4]
        · have e' : ((a.1.2 : Int) == (b.1.1 : Int)) = false := beq_eq_false_iff_ne.mpr (by omega)
          refine ⟨_, [.d (.dt (tabD e1)), .d (.dt (tabD e2)), .mT (tabD es'), .d (.int a.1.1), .d (.int a.1.2), .d (.int b.1.1), .d (.int b.1.2), z'], rfl, ?_, _, _, _, _, rfl, cg (hI.skip e)⟩
          simp [e']) _ ⟨es, x, y, z, rfl, hA.congr fun _ _ => by simp⟩
    refine ⟨_, ?_, es', x', y', z', rfl, h4.congr fun x y => ?_⟩
    · simp [e_var, keys_tab, h3]
    · rw [List.take_of_length_le (by simp)]
  obtain ⟨ρ', h3, es, a1, a2, a3, a4, a5, rfl, h4⟩ := forD_inv (g := gTupD 2 (gsCons (gSet 3) (gsCons (gSet 4) (gsNil)))) (f := fSeq (fFor (fItems (fVar 1)) (gTupD 2 (gsCons (gSet 5) (gsCons (gSet 6) (gsNil)))) (fSeq (fIfS (fTest (fBinN eqD 4 (fLook 5))) (fSeq (fAsg (fCall max2D (fCons (fBinN ixD 0 (fTup (fCons (fVar 3) (fCons (fVar 4) (fNil))))) (fCons (fBinN ixD 1 (fTup (fCons (fVar 5) (fCons (fVar 6) (fNil))))) (fNil)))) (gSet 7)) (fSeq (fPut 2 (fTup (fCons (fVar 3) (fCons (fVar 6) (fNil)))) (fCall max2D (fCons (fVar 7) (fCons (fGetN 2 (fTup (fCons (fVar 3) (fCons (fVar 6) (fNil)))) (fC (.int (0)))) (fNil))))) (fNx))) (fNx)) (fNx))) (fNx))
      (I := fun i ρ => ∃ es a1 a2 a3 a4 a5, ρ = [.d (.dt (tabD e1)), .d (.dt (tabD e2)), .mT (tabD es), a1, a2, a3, a4, a5] ∧ Acc A.n (fun x y => x ∈ e1.take i ∧ y ∈ e2) es) (e1.map fun e => D.tup [.int e.1.1, .int e.1.2]) 0 (fun i d ρ hd hI => by
        obtain ⟨es, a1, a2, a3, a4, a5, rfl, hI⟩ := hI
        rw [List.getElem?_map] at hd
        obtain ⟨a, ha, rfl⟩ := Option.map_eq_some_iff.mp hd
        obtain ⟨ρ', k1, es', x, y, z, rfl, k2⟩ := inner a (List.mem_of_getElem? ha) _ es a3 a4 a5 hI
        refine ⟨_, _, rfl, k1, es', _, _, x, y, z, rfl, k2.congr fun x y => ?_⟩
        rw [Nat.zero_add, List.take_add_one, ha]
        simp
        constructor
        · rintro (h1 | ⟨h1, h2⟩)
          · exact ⟨.inl h1.1, h1.2⟩
          · exact ⟨.inr h1, h2⟩
        · rintro ⟨h1 | h1, h2⟩
          · exact .inl ⟨h1, h2⟩
          · exact .inr ⟨h1, h2⟩) [.d (.dt (tabD e1)), .d (.dt (tabD e2)), .mT (tabD []), .no, .no, .no, .no, .no] ⟨[], _, _, _, _, _, rfl, ⟨⟨List.nodup_nil, fun e he => by cases he⟩, fun k => by simp, fun k => by simp⟩⟩
  rw [Nat.zero_add, List.take_of_length_le (by simp)] at h4
  refine ⟨.dt (tabD es), ?_, es, rfl, h4.ky, fun p s b hb => ?_, fun p s hp hs => ?_⟩
  · unfold f_behind b_behind
    have h3 : forD (gTupD 2 (gsCons (gSet 3) (gsCons (gSet 4) (gsNil)))) (fSeq (fFor (fItems (fVar 1)) (gTupD 2 (gsCons (gSet 5) (gsCons (gSet 6) (gsNil)))) (fSeq (fIfS (fTest (fBinN eqD 4 (fLook 5))) (fSeq (fAsg (fCall max2D (fCons (fBinN ixD 0 (fTup (fCons (fVar 3) (fCons (fVar 4) (fNil))))) (fCons (fBinN ixD 1 (fTup (fCons (fVar 5) (fCons (fVar 6) (fNil))))) (fNil)))) (gSet 7)) (fSeq (fPut 2 (fTup (fCons (fVar 3) (fCons (fVar 6) (fNil)))) (fCall max2D (fCons (fVar 7) (fCons (fGetN 2 (fTup (fCons (fVar 3) (fCons (fVar 6) (fNil)))) (fC (.int (0)))) (fNil))))) (fNx))) (fNx)) (fNx))) (fNx)) (e1.map fun e => D.tup [.int e.1.1, .int e.1.2]) [.d (.dt (tabD e1)), .d (.dt (tabD e2)), .mT [], .no, .no, .no, .no, .no] = _ := h3
    simp [runF, e_var, keys_tab, h3]
  · have key : (b = true ↔ ((p, s), true) ∈ es) := ⟨fun z => z ▸ hb, fun z => key_bool h4.ky.1 hb z⟩
    obtain ⟨⟨⟨p1, q1⟩, b1⟩, ⟨⟨r1, s1⟩, b2⟩, ⟨hx, hy⟩, m1, m2⟩ := (h4.has (p, s)).mp ⟨b, hb⟩
    dsimp only at m1 m2
    cases m2
    subst m1
    have k1 := t1.sound _ _ _ hx
    have k2 := t2.sound _ _ _ hy
    refine ⟨pth_app.mpr ⟨q1, k1.1, k2.1⟩, ?_⟩
    rw [key, h4.tr, mk_app]
    constructor
    · rintro ⟨⟨⟨p2, q2⟩, b3⟩, ⟨⟨r2, s2⟩, b4⟩, ⟨hx2, hy2⟩, ⟨m1, m2⟩, t⟩
      dsimp only at m1 m2 t
      cases m2
      subst m1
      have k3 := t1.sound _ _ _ hx2
      have k4 := t2.sound _ _ _ hy2
      rcases (Bool.or_eq_true _ _).mp t with t | t
      · exact ⟨q2, .inl ⟨k3.2.mp t, k4.1⟩⟩
      · exact ⟨q2, .inr ⟨k3.1, k4.2.mp t⟩⟩
    · have hp : p < A.n := (t1.ky.2 _ hx).1
      rintro ⟨q, ⟨g1, g2⟩ | ⟨g1, g2⟩⟩
      · obtain ⟨c1, hc1⟩ := t1.full p q hp (mk_pth g1)
        obtain ⟨c2, hc2⟩ := t2.full q s (t1.ky.2 _ hc1).2 g2
        exact ⟨_, _, ⟨hc1, hc2⟩, ⟨rfl, rfl⟩, by rw [(t1.sound _ _ _ hc1).2.mpr g1]; rfl⟩
      · obtain ⟨c1, hc1⟩ := t1.full p q hp g1
        obtain ⟨c2, hc2⟩ := t2.full q s (t1.ky.2 _ hc1).2 (mk_pth g2)
        exact ⟨_, _, ⟨hc1, hc2⟩, ⟨rfl, rfl⟩, by rw [(t2.sound _ _ _ hc2).2.mpr g2]; exact Bool.or_true _⟩
  · obtain ⟨q, g1, g2⟩ := pth_app.mp hs
    obtain ⟨c1, hc1⟩ := t1.full p q hp g1
    obtain ⟨c2, hc2⟩ := t2.full q s (t1.ky.2 _ hc1).2 g2
    exact (h4.has (p, s)).mpr ⟨_, _, ⟨hc1, hc2⟩, rfl, rfl⟩
/-- the profile of a word -/
theorem profile_ok {A : Au} (h : A.Ok) {ms : List Nat} (hm : ∀ q, q ∈ ms ↔ q ∈ A.en) (w : List Nat) : ∃ r, f_profile [stepsD A, .dk (setK ms), .str (S w)] = some r ∧ ∃ es, r = .dt (tabD es) ∧ Tab A w es := by
  have n4 := h.n4
  -- the unit
  obtain ⟨kvs, h1, es0, rfl, h2⟩ := itD_inv (g := gSet 5) (c := fun ρ => some (true, ρ)) (b := bodyT (fTup (fCons (fVar 5) (fCons (fVar 5) (fNil)))) (fC (.int (0)))) (vs := [5]) (ρ0 := [.d (stepsD A), .d (.dk (setK ms)), .d (.str (S w)), .no, .no, .no])
    (I := fun i kvs => ∃ es, kvs = tabD es ∧ Ky A.n es ∧ ∀ k b, (k, b) ∈ es ↔ k.1 < i ∧ k.1 < A.n ∧ k.1 = k.2 ∧ b = false) (rngD 0 A.n) 0 (fun i d acc hd hI => by
      obtain ⟨es, rfl, hK, hI⟩ := hI
      rw [rng_nat, List.getElem?_map] at hd
      obtain ⟨j, hj, rfl⟩ := Option.map_eq_some_iff.mp hd
      obtain ⟨hj1, hj2⟩ := List.getElem?_eq_some_iff.mp hj
      rw [List.getElem_range] at hj2
      subst hj2
      have hi : i < A.n := by simpa using hj1
      have lt := tab_len hK n4
      have lt2 : (tabD es).length < 1000000 := by omega
      have pt : putD (tabD es) [Sum.inl (i : Int), Sum.inl (i : Int)] (.int 0) = tabD (upT es (i, i) false) := put_tab es (i, i) false
      refine ⟨_, true, _, rfl, rfl, fun z => (by cases z), fun _ => ⟨tabD (upT es (i, i) false), [.d (stepsD A), .d (.dk (setK ms)), .d (.str (S w)), .no, .no, .d (.int i)], ?_, rfl, _, rfl, ky_up hK ⟨hi, hi⟩, fun k b => ?_⟩⟩
      · simp [e_var, lt2, pt]
      · rw [mem_up, hI]
        obtain ⟨k1, k2⟩ := k
        simp
        constructor
        · rintro (⟨⟨rfl, rfl⟩, rfl⟩ | ⟨h1, h2, h3, h4, h5⟩)
          · exact ⟨by omega, hi, rfl, rfl⟩
          · exact ⟨by omega, h3, h4, h5⟩
        · rintro ⟨h1, h2, rfl, rfl⟩
          by_cases e : k1 = i
          · exact .inl ⟨⟨e, e⟩, rfl⟩
          · exact .inr ⟨fun z => absurd z e, by omega, h2, rfl, rfl⟩) (tabD []) ⟨[], rfl, ⟨List.nodup_nil, fun e he => by cases he⟩, fun k b => by simp⟩
  have t0 : Tab A [] es0 := by
    have el : (rngD 0 (A.n : Int)).length = A.n := by simp [rng_nat]
    rw [el, Nat.zero_add] at h2
    refine ⟨h2.1, fun p q b hb => ?_, fun p q hp hq => ?_⟩
    · obtain ⟨_, _, e, rfl⟩ := (h2.2 _ _).mp hb
      exact ⟨e, by simp [Mk]⟩
    · cases hq
      exact ⟨false, (h2.2 _ _).mpr ⟨hp, hp, rfl, rfl⟩⟩
  have loop : ∀ (w2 w1 : List Nat) (es : Tb) (s x : Sl), Tab A w1 es → (s = .mT (tabD es) ∨ s = .d (.dt (tabD es))) → ∃ ρ', forD (gSet 4) (fSeq (fAsg (fCall f_behind (fCons (fVar 3) (fCons (fCall f_letter_profile (fCons (fVar 0) (fCons (fVar 1) (fCons (fVar 4) (fNil))))) (fNil)))) (gSet 3)) (fNx)) (w2.map fun c => D.str (S [c])) [.d (stepsD A), .d (.dk (setK ms)), .d (.str (S w)), s, x, .no] = some (.nx ρ') ∧
      ∃ es' s' x', ρ' = [.d (stepsD A), .d (.dk (setK ms)), .d (.str (S w)), s', x', .no] ∧ Tab A (w1 ++ w2) es' ∧ (s' = .mT (tabD es') ∨ s' = .d (.dt (tabD es'))) := by
    intro w2
    induction w2 with
    | nil =>
      intro w1 es s x t hs
      exact ⟨_, rfl, es, s, x, rfl, by rw [List.append_nil]; exact t, hs⟩
    | cons l w2 ih =>
      intro w1 es s x t hs
      obtain ⟨r1, k1, es1, rfl, t1⟩ := letter_ok h hm l
      obtain ⟨r2, k2, es2, rfl, t2⟩ := behind_ok h t t1
      obtain ⟨ρ', k3, es', s', x', rfl, t3, hs'⟩ := ih (w1 ++ [l]) es2 (.d (.dt (tabD es2))) (.d (.str (S [l]))) t2 (.inr rfl)
      refine ⟨_, ?_, es', s', x', rfl, by simpa using t3, hs'⟩
      rw [← k3]
      rcases hs with rfl | rfl
      · simp [forD, e_var, k1, k2]
      · simp [forD, e_var, k1, k2]
  obtain ⟨ρ', h3, es, s, x, rfl, h4, h5⟩ := loop w [] es0 (.mT (tabD es0)) .no t0 (.inl rfl)
  refine ⟨.dt (tabD es), ?_, es, rfl, h4⟩
  unfold f_profile b_profile
  have rn : rgOk (A.n : Int) = true := rg_ok A.n (by omega)
  have ls : lenD (stepsD A) = some (.int A.n) := by
    show some (D.int _) = _
    simp [rowsD]
  have h1 : itD (gSet 5) (fun ρ => some (true, ρ)) (bodyT (fTup (fCons (fVar 5) (fCons (fVar 5) (fNil)))) (fC (.int (0)))) [5] (rngD 0 A.n) [] [.d (stepsD A), .d (.dk (setK ms)), .d (.str (S w)), .no, .no, .no] = _ := h1
  rcases h5 with rfl | rfl
  · simp [runF, e_var, ls, rn, h1, itemsS, h3]
  · simp [runF, e_var, ls, rn, h1, itemsS, h3]
end K63

namespace K63
open PySem PySem.Spec L2 DL
inductive RT {α : Type} (E : α → α → Prop) : α → α → Prop
  | refl (a : α) : RT E a a
  | step {a b c : α} : RT E a b → E b c → RT E a c
theorem RT.trans {α : Type} {E : α → α → Prop} {a b c : α} (h : RT E a b) (k : RT E b c) : RT E a c := by
  induction k with
  | refl => exact h
  | step _ e ih => exact ih.step e
theorem RT.one {α : Type} {E : α → α → Prop} {a b : α} (h : E a b) : RT E a b := (RT.refl a).step h
theorem RT.mono {α : Type} {E F : α → α → Prop} (e : ∀ a b, E a b → F a b) {a b : α} (h : RT E a b) : RT F a b := by
  induction h with
  | refl => exact .refl _
  | step _ h2 ih => exact ih.step (e _ _ h2)
/-! ### a search with a pile -/
structure Df (n : Nat) (E : Nat → Nat → Prop) (S : Nat → Prop) (ks lf : List Nat) (ex : Nat → Prop) : Prop where
  nd : ks.Nodup
  lt : ∀ k ∈ ks, k < n
  sub : ∀ k ∈ lf, k ∈ ks
  rch : ∀ k ∈ ks, ∃ s, S s ∧ RT E s k
  st : ∀ s, S s → s ∈ ks
  cl : ∀ k ∈ ks, k ∈ lf ∨ ex k ∨ ∀ b, E k b → b ∈ ks
section
variable {n : Nat} {E : Nat → Nat → Prop} {S : Nat → Prop} {ks lf : List Nat} {ex : Nat → Prop} {x b : Nat}
theorem Df.push (h : Df n E S ks lf ex) (hx : x ∈ ks) (e : E x b) (nb : b ∉ ks) (hb : b < n) : Df n E S (ks ++ [b]) (lf ++ [b]) ex ∧ (lf ++ [b]).length + (n - (ks ++ [b]).length) = lf.length + (n - ks.length) := by
  have nd : (ks ++ [b]).Nodup := List.nodup_append.mpr ⟨h.nd, by simp, fun y hy z hz => by
    cases List.mem_singleton.mp hz
    exact fun e => nb (e ▸ hy)⟩
  have lt : ∀ k ∈ ks ++ [b], k < n := fun k hk => (List.mem_append.mp hk).elim (h.lt k) fun z => by
    cases List.mem_singleton.mp z
    exact hb
  refine ⟨⟨nd, lt, fun k hk => ?_, fun k hk => ?_, fun s hs => List.mem_append_left _ (h.st s hs), fun k hk => ?_⟩, ?_⟩
  · rcases List.mem_append.mp hk with z | z
    · exact List.mem_append_left _ (h.sub k z)
    · exact List.mem_append_right _ z
  · rcases List.mem_append.mp hk with z | z
    · exact h.rch k z
    · cases List.mem_singleton.mp z
      obtain ⟨s, h1, h2⟩ := h.rch x hx
      exact ⟨s, h1, h2.step e⟩
  · rcases List.mem_append.mp hk with z | z
    · rcases h.cl k z with h1 | h1 | h1
      · exact .inl (List.mem_append_left _ h1)
      · exact .inr (.inl h1)
      · exact .inr (.inr fun c hc => List.mem_append_left _ (h1 c hc))
    · exact .inl (List.mem_append_right _ z)
  · have := len_le n _ nd lt
    rw [List.length_append] at this ⊢
    rw [List.length_append]
    simp at this ⊢
    omega
theorem Df.pop (h : Df n E S ks (lf ++ [x]) fun _ => False) : x ∈ ks ∧ Df n E S ks lf (fun k => k = x) := by
  refine ⟨h.sub x (by simp), h.nd, h.lt, fun k hk => h.sub k (List.mem_append_left _ hk), h.rch, h.st, fun k hk => ?_⟩
  rcases h.cl k hk with h1 | h1 | h1
  · rcases List.mem_append.mp h1 with z | z
    · exact .inl z
    · exact .inr (.inl (List.mem_singleton.mp z))
  · exact h1.elim
  · exact .inr (.inr h1)
theorem Df.fin (h : Df n E S ks lf (fun k => k = x)) (hc : ∀ b, E x b → b ∈ ks) : Df n E S ks lf fun _ => False :=
  ⟨h.nd, h.lt, h.sub, h.rch, h.st, fun k hk => by
    rcases h.cl k hk with h1 | h1 | h1
    · exact .inl h1
    · exact .inr (.inr (by rw [h1]; exact hc))
    · exact .inr (.inr h1)⟩
theorem Df.done (h : Df n E S ks [] fun _ => False) (k : Nat) : k ∈ ks ↔ ∃ s, S s ∧ RT E s k := by
  have go : ∀ a c, RT E a c → a ∈ ks → c ∈ ks := fun a c r => by
    induction r with
    | refl => exact id
    | step _ e ih =>
      intro ha
      rcases h.cl _ (ih ha) with h1 | h1 | h1
      · cases h1
      · exact h1.elim
      · exact h1 _ e
  exact ⟨h.rch k, fun ⟨s, hs, r⟩ => go s k r (h.st s hs)⟩
end
theorem nD_snoc (ps : List Nat) (x : Nat) : nD (ps ++ [x]) = nD ps ++ [.int x] := by simp [nD]
/-- the pairs of a table -/
def Ed (es : Tb) (a b : Nat) : Prop := ∃ c, ((a, b), c) ∈ es
theorem comes_ok {n : Nat} (n4 : n ≤ 4) {es : Tb} (hK : Ky n es) {p q : Nat} (hp : p < n) : ∃ r, f_comes_to [.dt (tabD es), .int p, .int q] = some r ∧ ∃ b, r = .bl b ∧ (b = true ↔ RT (Ed es) p q) := by
  have step : ∀ (ks lf : List Nat) (x : Nat) (a b : Sl), x ∈ ks → Df n (Ed es) (fun s => s = p) ks lf (fun k => k = x) → (q ∈ ks → q ∈ lf) → lf.length + (n - ks.length) ≤ 100 → ∃ ρ', forD (gTupD 2 (gsCons (gSet 6) (gsCons (gSet 7) (gsNil)))) (fSeq (fIfS (fAndT (fTest (fBinN eqD 6 (fLook 5))) (fTest (fNotIn (fVar 7) (fLook 3)))) (fSeq (fPut 3 (fVar 7) (fC (.bl true))) (fSeq (fAppend 4 (fVar 7)) (fNx))) (fNx)) (fNx)) (es.map fun e => D.tup [.int e.1.1, .int e.1.2])
      [.d (.dt (tabD es)), .d (.int p), .d (.int q), .mK (setK ks), .ml (nD lf), .d (.int x), a, b] = some (.nx ρ') ∧ ∃ ks' lf' a b, ρ' = [.d (.dt (tabD es)), .d (.int p), .d (.int q), .mK (setK ks'), .ml (nD lf'), .d (.int x), a, b] ∧ Df n (Ed es) (fun s => s = p) ks' lf' (fun _ => False) ∧ (q ∈ ks' → q ∈ lf') ∧ lf'.length + (n - ks'.length) = lf.length + (n - ks.length) := by
    intro ks lf x a b hx hD hq hM
    obtain ⟨ρ', h1, ks', lf', a', b', rfl, h2, h3, h4, h5, h6⟩ := forD_inv (g := gTupD 2 (gsCons (gSet 6) (gsCons (gSet 7) (gsNil)))) (f := fSeq (fIfS (fAndT (fTest (fBinN eqD 6 (fLook 5))) (fTest (fNotIn (fVar 7) (fLook 3)))) (fSeq (fPut 3 (fVar 7) (fC (.bl true))) (fSeq (fAppend 4 (fVar 7)) (fNx))) (fNx)) (fNx))
      (I := fun i ρ => ∃ ks' lf' a b, ρ = [.d (.dt (tabD es)), .d (.int p), .d (.int q), .mK (setK ks'), .ml (nD lf'), .d (.int x), a, b] ∧ x ∈ ks' ∧ Df n (Ed es) (fun s => s = p) ks' lf' (fun k => k = x) ∧ (q ∈ ks' → q ∈ lf') ∧ lf'.length + (n - ks'.length) = lf.length + (n - ks.length) ∧ ∀ e ∈ es.take i, e.1.1 = x → e.1.2 ∈ ks') (es.map fun e => D.tup [.int e.1.1, .int e.1.2]) 0 (fun i d ρ hd hI => by
        obtain ⟨ks', lf', a, b, rfl, hx', hD', hq', hm, hc⟩ := hI
        rw [List.getElem?_map] at hd
        obtain ⟨e, he, rfl⟩ := Option.map_eq_some_iff.mp hd
        have hem := List.mem_of_getElem? he
        have hen := hK.2 e hem
        have hl := len_le n ks' hD'.nd hD'.lt
        have lt2 : (setK ks').length < 1000000 := by
          unfold setK
          rw [List.length_map]
          omega
        have tk : es.take (0 + i + 1) = es.take (0 + i) ++ [e] := by
          rw [Nat.zero_add, List.take_add_one, he]
          rfl
        by_cases h1 : e.1.1 = x
        · have e1 : ((e.1.1 : Int) == (x : Int)) = true := by
            rw [h1]
            exact beq_self_eq_true _
          by_cases h2 : e.1.2 ∈ ks'
          · refine ⟨_, [.d (.dt (tabD es)), .d (.int p), .d (.int q), .mK (setK ks'), .ml (nD lf'), .d (.int x), .d (.int e.1.1), .d (.int e.1.2)], rfl, ?_, ks', lf', _, _, rfl, hx', hD', hq', hm, fun f hf hfx => ?_⟩
            · simp [e_var, e1, get_set, h2]
            · rw [tk] at hf
              rcases List.mem_append.mp hf with z | z
              · exact hc f z hfx
              · cases List.mem_singleton.mp z
                exact h2
          · obtain ⟨D1, D2⟩ := hD'.push hx' ⟨e.2, by rw [← h1]; exact hem⟩ h2 hen.2
            have ll : (nD lf').length < 1000000 := by
              rw [w_lst_n]
              omega
            refine ⟨_, [.d (.dt (tabD es)), .d (.int p), .d (.int q), .mK (setK (ks' ++ [e.1.2])), .ml (nD (lf' ++ [e.1.2])), .d (.int x), .d (.int e.1.1), .d (.int e.1.2)], rfl, ?_, _, _, _, _, rfl, List.mem_append_left _ hx', D1, fun z => ?_, by omega, fun f hf hfx => ?_⟩
            · have pi : putD (setK ks') (.inl (e.1.2 : Int)) (.bl true) = setK (ks' ++ [e.1.2]) := by
                rw [put_set]
                unfold ins
                rw [if_neg h2]
              rw [w_lst_n] at ll
              simp [e_var, e1, get_set, h2, lt2, pi, nD_snoc, ll]
            · rcases List.mem_append.mp z with z | z
              · exact List.mem_append_left _ (hq' z)
              · exact List.mem_append_right _ z
            · rw [tk] at hf
              rcases List.mem_append.mp hf with z | z
              · exact List.mem_append_left _ (hc f z hfx)
              · cases List.mem_singleton.mp z
                simp
        · have e1 : ((e.1.1 : Int) == (x : Int)) = false := beq_eq_false_iff_ne.mpr (by omega)
          refine ⟨_, [.d (.dt (tabD es)), .d (.int p), .d (.int q), .mK (setK ks'), .ml (nD lf'), .d (.int x), .d (.int e.1.1), .d (.int e.1.2)], rfl, ?_, ks', lf', _, _, rfl, hx', hD', hq', hm, fun f hf hfx => ?_⟩
          · simp [e_var, e1]
          · rw [tk] at hf
            rcases List.mem_append.mp hf with z | z
            · exact hc f z hfx
            · cases List.mem_singleton.mp z
              exact absurd hfx h1) _ ⟨ks, lf, a, b, rfl, hx, hD, hq, rfl, fun e he => by simp at he⟩
    rw [Nat.zero_add, List.take_of_length_le (by simp)] at h6
    refine ⟨_, h1, ks', lf', a', b', rfl, h3.fin fun c hc => ?_, h4, h5⟩
    obtain ⟨b, hb⟩ := hc
    exact h6 _ hb rfl
  have loop : ∀ (m fuel : Nat) (ks lf : List Nat) (a b c : Sl), m < fuel → lf.length + (n - ks.length) ≤ m → m ≤ 100 → Df n (Ed es) (fun s => s = p) ks lf (fun _ => False) → (q ∈ ks → q ∈ lf) →
      ∃ o, whileD (fTru (fLook 4)) (fSeq (fAsg (fPop 4) (gSet 5)) (fSeq (fIfS (fTest (fBinN eqD 5 (fLook 2))) (fSeq (fRet (fC (.bl true))) (fNx)) (fNx)) (fSeq (fFor (fItems (fVar 0)) (gTupD 2 (gsCons (gSet 6) (gsCons (gSet 7) (gsNil)))) (fSeq (fIfS (fAndT (fTest (fBinN eqD 6 (fLook 5))) (fTest (fNotIn (fVar 7) (fLook 3)))) (fSeq (fPut 3 (fVar 7) (fC (.bl true))) (fSeq (fAppend 4 (fVar 7)) (fNx))) (fNx)) (fNx))) (fNx)))) fuel
        [.d (.dt (tabD es)), .d (.int p), .d (.int q), .mK (setK ks), .ml (nD lf), a, b, c] = some o ∧ ((∃ ρ, o = .rt (.bl true) ρ ∧ RT (Ed es) p q) ∨ ∃ ρ, o = .nx ρ ∧ ¬ RT (Ed es) p q) := by
    intro m
    induction m with
    | zero =>
      intro fuel ks lf a b c hf hm _ hD hq
      obtain ⟨fuel, rfl⟩ : ∃ f, fuel = f + 1 := ⟨fuel - 1, by omega⟩
      have : lf = [] := List.length_eq_zero_iff.mp (by omega)
      subst this
      refine ⟨_, rfl, .inr ⟨_, rfl, fun r => ?_⟩⟩
      have := hq ((hD.done q).mpr ⟨p, rfl, r⟩)
      cases this
    | succ m ih =>
      intro fuel ks lf a b c hf hm hm2 hD hq
      obtain ⟨fuel, rfl⟩ : ∃ f, fuel = f + 1 := ⟨fuel - 1, by omega⟩
      by_cases e : lf = []
      · subst e
        refine ⟨_, rfl, .inr ⟨_, rfl, fun r => ?_⟩⟩
        have := hq ((hD.done q).mpr ⟨p, rfl, r⟩)
        cases this
      · obtain ⟨lf0, x, rfl⟩ : ∃ l y, lf = l ++ [y] := ⟨lf.dropLast, lf.getLast e, (List.dropLast_concat_getLast e).symm⟩
        obtain ⟨hx, hD2⟩ := hD.pop
        have ne : (nD (lf0 ++ [x])).isEmpty = false := by simp [nD]
        have g1 : (nD (lf0 ++ [x]))[(nD (lf0 ++ [x])).length - 1]? = some (.int x) := by simp [nD]
        have g2 : (nD (lf0 ++ [x])).dropLast = nD lf0 := by simp [nD]
        have g1' : (nD (lf0 ++ [x]))[(lf0 ++ [x]).length - 1]? = some (.int x) := by rw [← w_lst_n]; exact g1
        by_cases hxq : x = q
        · have e1 : ((x : Int) == (q : Int)) = true := by
            rw [hxq]
            exact beq_self_eq_true _
          obtain ⟨s, hs, r⟩ := hD.rch x hx
          cases hs
          refine ⟨_, ?_, .inl ⟨[.d (.dt (tabD es)), .d (.int p), .d (.int q), .mK (setK ks), .ml (nD lf0), .d (.int x), b, c], rfl, hxq ▸ r⟩⟩
          rw [whileD]
          simp only [e_tru, e_look, e_seq, e_asg, e_pop, e_ifS, e_test, e_binN, e_ret, e_c]
          simp [ne, g1', g2, e1, -List.length_append, -nD_cons]
        · have e1 : ((x : Int) == (q : Int)) = false := beq_eq_false_iff_ne.mpr (by omega)
          have hq2 : q ∈ ks → q ∈ lf0 := fun z => by
            rcases List.mem_append.mp (hq z) with z | z
            · exact z
            · exact absurd (List.mem_singleton.mp z).symm hxq
          rw [List.length_append] at hm
          have hm' : lf0.length + 1 + (n - ks.length) ≤ m + 1 := hm
          obtain ⟨ρ', k1, ks', lf', a', b', rfl, k2, k3, k4⟩ := step ks lf0 x b c hx hD2 hq2 (by omega)
          obtain ⟨o, k5, k6⟩ := ih fuel ks' lf' (.d (.int x)) a' b' (by omega) (by omega) (by omega) k2 k3
          refine ⟨o, ?_, k6⟩
          rw [whileD, ← k5]
          simp only [e_tru, e_look, e_seq, e_asg, e_pop, e_ifS, e_test, e_binN, e_for, e_items]
          simp [ne, g1', g2, e1, e_var, keys_tab, k1, -List.length_append, -nD_cons]
  obtain ⟨o, h1, h2⟩ := loop 100 3000 [p] [p] .no .no .no (by decide) (by simp; omega) (Nat.le_refl _) ⟨by simp, fun k hk => by cases List.mem_singleton.mp hk; exact hp, fun k hk => hk, fun k hk => by cases List.mem_singleton.mp hk; exact ⟨_, rfl, .refl _⟩, fun s hs => by cases hs; simp, fun k hk => .inl hk⟩ id
  have h1 : whileD (fTru (fLook 4)) (fSeq (fAsg (fPop 4) (gSet 5)) (fSeq (fIfS (fTest (fBinN eqD 5 (fLook 2))) (fSeq (fRet (fC (.bl true))) (fNx)) (fNx)) (fSeq (fFor (fItems (fVar 0)) (gTupD 2 (gsCons (gSet 6) (gsCons (gSet 7) (gsNil)))) (fSeq (fIfS (fAndT (fTest (fBinN eqD 6 (fLook 5))) (fTest (fNotIn (fVar 7) (fLook 3)))) (fSeq (fPut 3 (fVar 7) (fC (.bl true))) (fSeq (fAppend 4 (fVar 7)) (fNx))) (fNx)) (fNx))) (fNx)))) 3000
        [.d (.dt (tabD es)), .d (.int p), .d (.int q), .mK [(.inl (p : Int), .bl true)], .ml [.int p], .no, .no, .no] = some o := h1
  unfold f_comes_to b_comes_to
  rcases h2 with ⟨ρ, rfl, r⟩ | ⟨ρ, rfl, r⟩
  · refine ⟨.bl true, ?_, true, rfl, by simp [r]⟩
    simp [runF, e_var, h1]
  · refine ⟨.bl false, ?_, false, rfl, by simp [r]⟩
    simp [runF, e_var, h1]
end K63

namespace K63
open PySem PySem.Spec L2 DL
theorem bls_map {α : Type} (f : α → Bool) (xs : List α) : blsD (xs.map fun x => D.bl (f x)) = some (xs.map f) := by
  induction xs with
  | nil => rfl
  | cons x xs ih =>
    show (blsD (xs.map fun x => D.bl (f x))).bind _ = _
    rw [ih]
    rfl
theorem any_map {α : Type} (f : α → Bool) (xs : List α) : anyD (.lst (xs.map fun x => D.bl (f x))) = some (.bl (xs.any f)) := by
  show (blsD _).map _ = _
  rw [bls_map]
  simp [List.any_map]
theorem all_map {α : Type} (f : α → Bool) (xs : List α) : allD (.lst (xs.map fun x => D.bl (f x))) = some (.bl (xs.all f)) := by
  show (blsD _).map _ = _
  rw [bls_map]
  simp [List.all_map]
theorem turns_ok {n : Nat} (n4 : n ≤ 4) {ss : List Nat} (hl : ss.length ≤ 100) {e1 es : Tb} (hK1 : Ky n e1) (hK : Ky n es) : ∃ r, f_turns [.tup (nD ss), .dt (tabD e1), .dt (tabD es)] = some r ∧ ∃ b, r = .bl b ∧
    (b = true ↔ ∃ p q, (∃ s0 ∈ ss, ∃ p0, Ed e1 s0 p0 ∧ RT (Ed es) p0 p) ∧ ((p, q), true) ∈ es ∧ RT (Ed es) q p) := by
  classical
  -- who is there at first
  obtain ⟨kvs, h1, ks0, rfl, h2, h3, h4⟩ := itD_inv (g := gTupD 2 (gsCons (gSet 3) (gsCons (gSet 8) (gsNil)))) (c := fTest (fIn (fVar 3) (fLook 0))) (b := bodyK (fVar 8) (fC (.bl true))) (vs := [3, 8]) (ρ0 := [.d (.tup (nD ss)), .d (.dt (tabD e1)), .d (.dt (tabD es)), .no, .no, .no, .no, .no, .no])
    (I := fun i kvs => ∃ ks, kvs = setK ks ∧ ks.Nodup ∧ (∀ k ∈ ks, k < n) ∧ ∀ k, k ∈ ks ↔ ∃ e ∈ e1.take i, e.1.1 ∈ ss ∧ e.1.2 = k) (e1.map fun e => D.tup [.int e.1.1, .int e.1.2]) 0 (fun i d acc hd hI => by
      obtain ⟨ks, rfl, nd, lt, hI⟩ := hI
      rw [List.getElem?_map] at hd
      obtain ⟨e, he, rfl⟩ := Option.map_eq_some_iff.mp hd
      have hen := hK1.2 e (List.mem_of_getElem? he)
      have tk : e1.take (0 + i + 1) = e1.take (0 + i) ++ [e] := by
        rw [Nat.zero_add, List.take_add_one, he]
        rfl
      have hll := len_le n ks nd lt
      have lt2 : (setK ks).length < 1000000 := by
        unfold setK
        rw [List.length_map]
        omega
      refine ⟨_, decide (e.1.1 ∈ ss), [.d (.tup (nD ss)), .d (.dt (tabD e1)), .d (.dt (tabD es)), .d (.int e.1.1), .no, .no, .no, .no, .d (.int e.1.2)], rfl, ?_, fun z => ⟨rfl, ks, rfl, nd, lt, fun k => ?_⟩, fun z => ⟨setK (ins ks e.1.2), [.d (.tup (nD ss)), .d (.dt (tabD e1)), .d (.dt (tabD es)), .d (.int e.1.1), .no, .no, .no, .no, .d (.int e.1.2)], ?_, rfl, _, rfl, nodup_ins nd, fun k hk => ?_, fun k => ?_⟩⟩
      · simp [e_var, mem_ints]
      · have z := of_decide_eq_false z
        rw [hI, tk]
        simp only [List.mem_append, List.mem_singleton]
        constructor
        · rintro ⟨f, hf, h⟩
          exact ⟨f, .inl hf, h⟩
        · rintro ⟨f, hf | rfl, h⟩
          · exact ⟨f, hf, h⟩
          · exact absurd h.1 z
      · simp [e_var, lt2, put_set]
      · rcases mem_ins.mp hk with z | rfl
        · exact lt k z
        · exact hen.2
      · have z := of_decide_eq_true z
        rw [mem_ins, hI, tk]
        simp only [List.mem_append, List.mem_singleton]
        constructor
        · rintro (⟨f, hf, h⟩ | rfl)
          · exact ⟨f, .inl hf, h⟩
          · exact ⟨e, .inr rfl, z, rfl⟩
        · rintro ⟨f, hf | rfl, h⟩
          · exact .inl ⟨f, hf, h⟩
          · exact .inr h.2.symm) (setK []) ⟨[], rfl, List.nodup_nil, fun k hk => (by cases hk), fun k => by simp⟩
  rw [Nat.zero_add, List.take_of_length_le (by simp)] at h4
  have step : ∀ (ks lf : List Nat) (x : Nat) (a b c : Sl), x ∈ ks → Df n (Ed es) (fun s => s ∈ ks0) ks lf (fun k => k = x) → lf.length + (n - ks.length) ≤ 100 → ∃ ρ', forD (gTupD 2 (gsCons (gSet 6) (gsCons (gSet 7) (gsNil)))) (fSeq (fIfS (fAndT (fTest (fBinN eqD 6 (fLook 3))) (fTest (fNotIn (fVar 7) (fLook 4)))) (fSeq (fPut 4 (fVar 7) (fC (.bl true))) (fSeq (fAppend 5 (fVar 7)) (fNx))) (fNx)) (fNx)) (es.map fun e => D.tup [.int e.1.1, .int e.1.2])
      [.d (.tup (nD ss)), .d (.dt (tabD e1)), .d (.dt (tabD es)), .d (.int x), .mK (setK ks), .ml (nD lf), a, b, c] = some (.nx ρ') ∧ ∃ ks' lf' a b, ρ' = [.d (.tup (nD ss)), .d (.dt (tabD e1)), .d (.dt (tabD es)), .d (.int x), .mK (setK ks'), .ml (nD lf'), a, b, c] ∧ Df n (Ed es) (fun s => s ∈ ks0) ks' lf' (fun _ => False) ∧ lf'.length + (n - ks'.length) = lf.length + (n - ks.length) := by
    intro ks lf x a b c hx hD hM
    obtain ⟨ρ', h1, ks', lf', a', b', rfl, h2, h3, h5, h6⟩ := forD_inv (g := gTupD 2 (gsCons (gSet 6) (gsCons (gSet 7) (gsNil)))) (f := fSeq (fIfS (fAndT (fTest (fBinN eqD 6 (fLook 3))) (fTest (fNotIn (fVar 7) (fLook 4)))) (fSeq (fPut 4 (fVar 7) (fC (.bl true))) (fSeq (fAppend 5 (fVar 7)) (fNx))) (fNx)) (fNx))
      (I := fun i ρ => ∃ ks' lf' a b, ρ = [.d (.tup (nD ss)), .d (.dt (tabD e1)), .d (.dt (tabD es)), .d (.int x), .mK (setK ks'), .ml (nD lf'), a, b, c] ∧ x ∈ ks' ∧ Df n (Ed es) (fun s => s ∈ ks0) ks' lf' (fun k => k = x) ∧ lf'.length + (n - ks'.length) = lf.length + (n - ks.length) ∧ ∀ e ∈ es.take i, e.1.1 = x → e.1.2 ∈ ks') (es.map fun e => D.tup [.int e.1.1, .int e.1.2]) 0 (fun i d ρ hd hI => by
        obtain ⟨ks', lf', a, b, rfl, hx', hD', hm, hc⟩ := hI
        rw [List.getElem?_map] at hd
        obtain ⟨e, he, rfl⟩ := Option.map_eq_some_iff.mp hd
        have hem := List.mem_of_getElem? he
        have hen := hK.2 e hem
        have hl := len_le n ks' hD'.nd hD'.lt
        have lt2 : (setK ks').length < 1000000 := by
          unfold setK
          rw [List.length_map]
          omega
        have tk : es.take (0 + i + 1) = es.take (0 + i) ++ [e] := by
          rw [Nat.zero_add, List.take_add_one, he]
          rfl
        by_cases h1 : e.1.1 = x
        · have e1 : ((e.1.1 : Int) == (x : Int)) = true := by
            rw [h1]
            exact beq_self_eq_true _
          by_cases h2 : e.1.2 ∈ ks'
          · refine ⟨_, [.d (.tup (nD ss)), .d (.dt (tabD _)), .d (.dt (tabD es)), .d (.int x), .mK (setK ks'), .ml (nD lf'), .d (.int e.1.1), .d (.int e.1.2), c], rfl, ?_, ks', lf', _, _, rfl, hx', hD', hm, fun f hf hfx => ?_⟩
            · simp [e_var, e1, get_set, h2]
            · rw [tk] at hf
              rcases List.mem_append.mp hf with z | z
              · exact hc f z hfx
              · cases List.mem_singleton.mp z
                exact h2
          · obtain ⟨D1, D2⟩ := hD'.push hx' ⟨e.2, by rw [← h1]; exact hem⟩ h2 hen.2
            have ll : lf'.length < 1000000 := by omega
            refine ⟨_, [.d (.tup (nD ss)), .d (.dt (tabD _)), .d (.dt (tabD es)), .d (.int x), .mK (setK (ks' ++ [e.1.2])), .ml (nD (lf' ++ [e.1.2])), .d (.int e.1.1), .d (.int e.1.2), c], rfl, ?_, _, _, _, _, rfl, List.mem_append_left _ hx', D1, by omega, fun f hf hfx => ?_⟩
            · have pi : putD (setK ks') (.inl (e.1.2 : Int)) (.bl true) = setK (ks' ++ [e.1.2]) := by
                rw [put_set]
                unfold ins
                rw [if_neg h2]
              simp [e_var, e1, get_set, h2, lt2, pi, nD_snoc, ll]
            · rw [tk] at hf
              rcases List.mem_append.mp hf with z | z
              · exact List.mem_append_left _ (hc f z hfx)
              · cases List.mem_singleton.mp z
                simp
        · have e1 : ((e.1.1 : Int) == (x : Int)) = false := beq_eq_false_iff_ne.mpr (by omega)
          refine ⟨_, [.d (.tup (nD ss)), .d (.dt (tabD _)), .d (.dt (tabD es)), .d (.int x), .mK (setK ks'), .ml (nD lf'), .d (.int e.1.1), .d (.int e.1.2), c], rfl, ?_, ks', lf', _, _, rfl, hx', hD', hm, fun f hf hfx => ?_⟩
          · simp [e_var, e1]
          · rw [tk] at hf
            rcases List.mem_append.mp hf with z | z
            · exact hc f z hfx
            · cases List.mem_singleton.mp z
              exact absurd hfx h1) _ ⟨ks, lf, a, b, rfl, hx, hD, rfl, fun e he => by simp at he⟩
    rw [Nat.zero_add, List.take_of_length_le (by simp)] at h6
    refine ⟨_, h1, ks', lf', a', b', rfl, h3.fin fun c hc => ?_, h5⟩
    obtain ⟨b, hb⟩ := hc
    exact h6 _ hb rfl
  have loop : ∀ (m fuel : Nat) (ks lf : List Nat) (x a b c : Sl), m < fuel → lf.length + (n - ks.length) ≤ m → m ≤ 100 → Df n (Ed es) (fun s => s ∈ ks0) ks lf (fun _ => False) →
      ∃ ρ', whileD (fTru (fLook 5)) (fSeq (fAsg (fPop 5) (gSet 3)) (fSeq (fFor (fItems (fVar 2)) (gTupD 2 (gsCons (gSet 6) (gsCons (gSet 7) (gsNil)))) (fSeq (fIfS (fAndT (fTest (fBinN eqD 6 (fLook 3))) (fTest (fNotIn (fVar 7) (fLook 4)))) (fSeq (fPut 4 (fVar 7) (fC (.bl true))) (fSeq (fAppend 5 (fVar 7)) (fNx))) (fNx)) (fNx))) (fNx))) fuel
        [.d (.tup (nD ss)), .d (.dt (tabD e1)), .d (.dt (tabD es)), x, .mK (setK ks), .ml (nD lf), a, b, c] = some (.nx ρ') ∧ ∃ ks' lf' x a b, ρ' = [.d (.tup (nD ss)), .d (.dt (tabD e1)), .d (.dt (tabD es)), x, .mK (setK ks'), .ml lf', a, b, c] ∧ ∀ k, k ∈ ks' ↔ ∃ s, s ∈ ks0 ∧ RT (Ed es) s k := by
    intro m
    induction m with
    | zero =>
      intro fuel ks lf x a b c hf hm _ hD
      obtain ⟨fuel, rfl⟩ : ∃ f, fuel = f + 1 := ⟨fuel - 1, by omega⟩
      have : lf = [] := List.length_eq_zero_iff.mp (by omega)
      subst this
      exact ⟨_, rfl, ks, _, _, _, _, rfl, hD.done⟩
    | succ m ih =>
      intro fuel ks lf x a b c hf hm hm2 hD
      obtain ⟨fuel, rfl⟩ : ∃ f, fuel = f + 1 := ⟨fuel - 1, by omega⟩
      by_cases e : lf = []
      · subst e
        exact ⟨_, rfl, ks, _, _, _, _, rfl, hD.done⟩
      · obtain ⟨lf0, y, rfl⟩ : ∃ l y, lf = l ++ [y] := ⟨lf.dropLast, lf.getLast e, (List.dropLast_concat_getLast e).symm⟩
        obtain ⟨hx, hD2⟩ := hD.pop
        have ne : (nD (lf0 ++ [y])).isEmpty = false := by simp [nD]
        have g1' : (nD (lf0 ++ [y]))[(lf0 ++ [y]).length - 1]? = some (.int y) := by
          rw [← w_lst_n]
          simp [nD]
        have g2 : (nD (lf0 ++ [y])).dropLast = nD lf0 := by simp [nD]
        rw [List.length_append] at hm
        have hm' : lf0.length + 1 + (n - ks.length) ≤ m + 1 := hm
        obtain ⟨ρ', k1, ks', lf', a', b', rfl, k2, k4⟩ := step ks lf0 y a b c hx hD2 (by omega)
        obtain ⟨o, k5, k6⟩ := ih fuel ks' lf' (.d (.int y)) a' b' c (by omega) (by omega) (by omega) k2
        refine ⟨o, ?_, k6⟩
        rw [whileD, ← k5]
        simp only [e_tru, e_look, e_seq, e_asg, e_pop, e_ifS, e_test, e_binN, e_for, e_items]
        simp [ne, g1', g2, e_var, keys_tab, k1, -List.length_append, -nD_cons]
  have l0 := len_le n ks0 h2 h3
  obtain ⟨ρ', k1, ks, lf, x, a, b, rfl, k2⟩ := loop 100 3000 ks0 ks0 .no .no .no .no (by decide) (by omega) (Nat.le_refl _) ⟨h2, h3, fun k hk => hk, fun k hk => ⟨k, hk, .refl _⟩, fun s hs => hs, fun k hk => .inl hk⟩
  let val (e : En) : Bool := decide (e.1.1 ∈ ks) && (e.2 && decide (RT (Ed es) e.1.2 e.1.1))
  have lc : ∀ (e' : Tb) (acc : List D), (∀ e ∈ e', e ∈ es) → lcD (gTupD 2 (gsCons (gSet 3) (gsCons (gSet 8) (gsNil)))) (fun ρ => some (true, ρ)) (fAnd (fIn (fVar 3) (fLook 4)) (fAnd (fBin eqD (fBinN ixD 2 (fTup (fCons (fVar 3) (fCons (fVar 8) (fNil))))) (fC (.int (1)))) (fCall f_comes_to (fCons (fVar 2) (fCons (fVar 8) (fCons (fVar 3) (fNil))))))) [3, 8] (e'.map fun e => D.tup [.int e.1.1, .int e.1.2]) acc
      [.d (.tup (nD ss)), .d (.dt (tabD e1)), .d (.dt (tabD es)), .no, .mK (setK ks), .ml lf, a, b, .no] = some (acc ++ e'.map (fun e => D.bl (val e)), [.d (.tup (nD ss)), .d (.dt (tabD e1)), .d (.dt (tabD es)), .no, .mK (setK ks), .ml lf, a, b, .no]) := by
    intro e'
    induction e' with
    | nil =>
      intro acc _
      simp [lcD]
    | cons e e' ih =>
      intro acc hs
      have he := hs e List.mem_cons_self
      have hen := hK.2 e he
      have g2 : getK (tabD es) [Sum.inl (e.1.1 : Int), Sum.inl (e.1.2 : Int)] = some (bitD e.2) := get_tab (k := e.1) hK.1 he
      obtain ⟨r, c1, cb, rfl, c2⟩ := comes_ok n4 hK (q := e.1.1) hen.2
      have cb2 : cb = decide (RT (Ed es) e.1.2 e.1.1) := by
        rw [Bool.eq_iff_iff, c2, decide_eq_true_iff]
      have ih' := fun acc => ih acc fun f hf => hs f (List.mem_cons_of_mem _ hf)
      by_cases z1 : e.1.1 ∈ ks
      · cases z2 : e.2 with
        | true =>
          rw [z2] at g2
          simp [lcD, e_var, get_set, z1, g2, bitD, c1, ih', val, z2, cb2]
        | false =>
          rw [z2] at g2
          simp [lcD, e_var, get_set, z1, g2, bitD, c1, ih', val, z2]
      · simp [lcD, e_var, get_set, z1, ih', val]
  have hlc := lc es [] fun e he => he
  rw [List.nil_append] at hlc
  refine ⟨.bl (es.any val), ?_, _, rfl, ?_⟩
  · unfold f_turns b_turns
    have h1 : itD (gTupD 2 (gsCons (gSet 3) (gsCons (gSet 8) (gsNil)))) (fTest (fIn (fVar 3) (fLook 0))) (bodyK (fVar 8) (fC (.bl true))) [3, 8] (e1.map fun e => D.tup [.int e.1.1, .int e.1.2]) [] [.d (.tup (nD ss)), .d (.dt (tabD e1)), .d (.dt (tabD es)), .no, .no, .no, .no, .no, .no] = _ := h1
    have kl : (setK ks0).map (fun p => kD p.1) = nD ks0 := by
      unfold setK nD
      rw [List.map_map]
      rfl
    have el : es.length ≤ 1000000 := by
      have := tab_len hK n4
      unfold tabD at this
      rw [List.length_map] at this
      omega
    simp [runF, e_var, keys_tab, h1, fListK, kl, k1, el, hlc, any_map]
  · rw [List.any_eq_true]
    constructor
    · rintro ⟨⟨⟨p, q⟩, c⟩, he, hv⟩
      simp only [val, Bool.and_eq_true, decide_eq_true_iff] at hv
      obtain ⟨v1, v2, v3⟩ := hv
      subst v2
      obtain ⟨s, hs, r⟩ := (k2 p).mp v1
      obtain ⟨e, he1, he2, he3⟩ := (h4 s).mp hs
      refine ⟨p, q, ⟨e.1.1, he2, s, ⟨e.2, ?_⟩, r⟩, he, v3⟩
      rw [← he3]
      exact he1
    · rintro ⟨p, q, ⟨s0, hs0, p0, ⟨c, hc⟩, r⟩, he, r2⟩
      refine ⟨_, he, ?_⟩
      simp only [val, Bool.and_eq_true, decide_eq_true_iff]
      exact ⟨(k2 p).mpr ⟨p0, (h4 p0).mpr ⟨_, hc, hs0, rfl⟩, r⟩, trivial, r2⟩
/-- an automaton reads a lasso -/
def Rd (A : Au) (u v : List Nat) : Prop := ∃ p q, (∃ s0 ∈ A.st, ∃ p0, Pth A u s0 p0 ∧ RT (Pth A v) p0 p) ∧ Mk A v p q ∧ RT (Pth A v) q p
theorem rt_pth {A : Au} {v : List Nat} {es : Tb} (t : Tab A v es) (h : A.Ok) {a b : Nat} (ha : a < A.n) : RT (Ed es) a b ↔ RT (Pth A v) a b := by
  constructor
  · exact RT.mono fun x y ⟨c, hc⟩ => (t.sound _ _ _ hc).1
  · intro r
    have : b < A.n ∧ RT (Ed es) a b := by
      induction r with
      | refl => exact ⟨ha, .refl _⟩
      | step _ e ih => exact ⟨pth_lt h e ih.1, ih.2.step (t.full _ _ ih.1 e)⟩
    exact this.2
theorem reads_ok {A : Au} (h : A.Ok) (u v : List Nat) : ∃ r, f_reads_lasso [A.enc, .str (S u), .str (S v)] = some r ∧ ∃ b, r = .bl b ∧ (b = true ↔ Rd A u v) := by
  have n4 := h.n4
  have a4 : ixD A.enc (.int 4) = some (.tup (nD A.en)) := rfl
  have a2 : ixD A.enc (.int 2) = some (.tup (nD A.st)) := rfl
  -- the marks
  obtain ⟨kvs, h1, ms, rfl, h2, h3, h4⟩ := itD_inv (g := gSet 7) (c := fun ρ => some (true, ρ)) (b := bodyK (fVar 7) (fC (.bl true))) (vs := [7]) (ρ0 := [.d A.enc, .d (.str (S u)), .d (.str (S v)), .d (stepsD A), .no, .no, .no, .no, .no])
    (I := fun i kvs => ∃ ks, kvs = setK ks ∧ ks.Nodup ∧ (∀ k ∈ ks, k < A.n) ∧ ∀ k, k ∈ ks ↔ k ∈ A.en.take i) (nD A.en) 0 (fun i d acc hd hI => by
      obtain ⟨ks, rfl, nd, lt, hI⟩ := hI
      unfold nD at hd
      rw [List.getElem?_map] at hd
      obtain ⟨e, he, rfl⟩ := Option.map_eq_some_iff.mp hd
      have hen := h.en e (List.mem_of_getElem? he)
      have hll := len_le A.n ks nd lt
      have lt2 : (setK ks).length < 1000000 := by
        unfold setK
        rw [List.length_map]
        omega
      refine ⟨_, true, _, rfl, rfl, fun z => (by cases z), fun _ => ⟨setK (ins ks e), [.d A.enc, .d (.str (S u)), .d (.str (S v)), .d (stepsD A), .no, .no, .no, .d (.int e), .no], ?_, rfl, _, rfl, nodup_ins nd, fun k hk => ?_, fun k => ?_⟩⟩
      · simp [e_var, lt2, put_set]
      · rcases mem_ins.mp hk with z | rfl
        · exact lt k z
        · exact hen
      · rw [mem_ins, hI, Nat.zero_add, List.take_add_one, he]
        simp) (setK []) ⟨[], rfl, List.nodup_nil, fun k hk => (by cases hk), fun k => by simp⟩
  rw [Nat.zero_add, List.take_of_length_le (by simp)] at h4
  have hb : ∀ p ∈ beh A A.st u, p < A.n := fun p hp => by
    obtain ⟨s, hs, r⟩ := (mem_beh h.st h).mp hp
    exact pth_lt h r (h.st s hs)
  have bl : (beh A A.st u).length ≤ 4 := by
    cases u with
    | nil => exact h.stl
    | cons l u =>
      have key : ∀ (w : List Nat) (n : Nat) (P : Nat → Bool), n ≤ 4 → ((setL n P).length ≤ 4 ∧ ∀ (w : List Nat), (beh A (setL n P) w).length ≤ 4 ∨ True) := fun _ _ _ _ => ⟨by unfold setL; exact Nat.le_trans (List.length_filter_le _ _) (by simpa), fun _ => .inr trivial⟩
      have key2 : ∀ (w : List Nat) (ss : List Nat), ss.length ≤ 4 → (beh A ss w).length ≤ 4 := by
        intro w
        induction w with
        | nil => exact fun ss hs => hs
        | cons l w ih =>
          intro ss hs
          refine ih (led A ss l) ?_
          unfold led setL
          exact Nat.le_trans (List.length_filter_le _ _) (by simpa)
      exact key2 (l :: u) A.st h.stl
  -- the unit
  obtain ⟨kvs2, k1, e0, rfl, k2, k3⟩ := itD_inv (g := gSet 8) (c := fun ρ => some (true, ρ)) (b := bodyT (fTup (fCons (fVar 8) (fCons (fVar 8) (fNil)))) (fC (.int (0)))) (vs := [8]) (ρ0 := [.d A.enc, .d (.str (S u)), .d (.str (S v)), .d (stepsD A), .mK (setK ms), .d (.tup (nD (beh A A.st u))), .no, .no, .no])
    (I := fun i kvs => ∃ es, kvs = tabD es ∧ Ky A.n es ∧ ∀ k b, (k, b) ∈ es ↔ k.1 ∈ (beh A A.st u).take i ∧ k.1 = k.2 ∧ b = false) (nD (beh A A.st u)) 0 (fun i d acc hd hI => by
      obtain ⟨es, rfl, hK, hI⟩ := hI
      unfold nD at hd
      rw [List.getElem?_map] at hd
      obtain ⟨e, he, rfl⟩ := Option.map_eq_some_iff.mp hd
      have hen := hb e (List.mem_of_getElem? he)
      have lt := tab_len hK n4
      have lt2 : (tabD es).length < 1000000 := by omega
      have pt : putD (tabD es) [Sum.inl (e : Int), Sum.inl (e : Int)] (.int 0) = tabD (upT es (e, e) false) := put_tab es (e, e) false
      refine ⟨_, true, _, rfl, rfl, fun z => (by cases z), fun _ => ⟨tabD (upT es (e, e) false), [.d A.enc, .d (.str (S u)), .d (.str (S v)), .d (stepsD A), .mK (setK ms), .d (.tup (nD (beh A A.st u))), .no, .no, .d (.int e)], ?_, rfl, _, rfl, ky_up hK ⟨hen, hen⟩, fun k b => ?_⟩⟩
      · simp [e_var, lt2, pt]
      · rw [mem_up, hI, Nat.zero_add, List.take_add_one, he]
        obtain ⟨k1, k2⟩ := k
        simp
        constructor
        · rintro (⟨⟨rfl, rfl⟩, rfl⟩ | ⟨h1, h2, h3, h4⟩)
          · exact ⟨.inr rfl, rfl, rfl⟩
          · exact ⟨.inl h2, h3, h4⟩
        · rintro ⟨h1 | h1, rfl, rfl⟩
          · by_cases e' : k1 = e
            · exact .inl ⟨⟨e', e'⟩, rfl⟩
            · exact .inr ⟨fun z => absurd z e', h1, rfl, rfl⟩
          · exact .inl ⟨⟨h1, h1⟩, rfl⟩) (tabD []) ⟨[], rfl, ⟨List.nodup_nil, fun e he => by cases he⟩, fun k b => by simp⟩
  rw [Nat.zero_add, List.take_of_length_le (by simp)] at k3
  obtain ⟨_, p1, es, rfl, t⟩ := profile_ok h h4 v
  obtain ⟨_, q1, b, rfl, q2⟩ := turns_ok n4 (Nat.le_trans bl (by decide)) k2 t.ky
  refine ⟨.bl b, ?_, b, rfl, ?_⟩
  · unfold f_reads_lasso b_reads_lasso
    have h1 : itD (gSet 7) (fun ρ => some (true, ρ)) (bodyK (fVar 7) (fC (.bl true))) [7] (nD A.en) [] [.d A.enc, .d (.str (S u)), .d (.str (S v)), .d (stepsD A), .no, .no, .no, .no, .no] = _ := h1
    have k1 : itD (gSet 8) (fun ρ => some (true, ρ)) (bodyT (fTup (fCons (fVar 8) (fCons (fVar 8) (fNil)))) (fC (.int (0)))) [8] (nD (beh A A.st u)) [] [.d A.enc, .d (.str (S u)), .d (.str (S v)), .d (stepsD A), .mK (setK ms), .d (.tup (nD (beh A A.st u))), .no, .no, .no] = _ := k1
    simp [runF, e_var, steps_ok h, a4, h1, a2, behind_word_ok h u A.st h.st, k1, p1, q1]
  · rw [q2]
    constructor
    · rintro ⟨p, q, ⟨s0, hs0, p0, ⟨c, hc⟩, r⟩, he, r2⟩
      obtain ⟨e1, e2, _⟩ := (k3 _ _).mp hc
      have e2 : s0 = p0 := e2
      subst e2
      obtain ⟨s, hs, pth⟩ := (mem_beh h.st h).mp hs0
      have hq := (t.ky.2 _ he).2
      exact ⟨p, q, ⟨s, hs, s0, pth, (rt_pth t h (hb s0 hs0)).mp r⟩, (t.sound _ _ _ he).2.mp rfl, (rt_pth t h hq).mp r2⟩
    · rintro ⟨p, q, ⟨s, hs, p0, pth, r⟩, m, r2⟩
      have hp0 : p0 ∈ beh A A.st u := (mem_beh h.st h).mpr ⟨s, hs, pth⟩
      have hpn : p < A.n := by
        have key : ∀ a b, RT (Pth A v) a b → a < A.n → b < A.n := fun a b r => by
          induction r with
          | refl => exact id
          | step _ e ih => exact fun z => pth_lt h e (ih z)
        exact key _ _ r (hb p0 hp0)
      obtain ⟨c, hc⟩ := t.full p q hpn (mk_pth m)
      have hct := (t.sound _ _ _ hc).2.mpr m
      subst hct
      exact ⟨p, q, ⟨p0, hp0, p0, ⟨false, (k3 _ _).mpr ⟨hp0, rfl, rfl⟩⟩, (rt_pth t h (hb p0 hp0)).mpr r⟩, hc, (rt_pth t h (t.ky.2 _ hc).2).mpr r2⟩
end K63

namespace K63
open PySem PySem.Spec L2 DL
/-! ### paths with a flag -/
def bitN (b : Bool) : Nat := if b = true then 1 else 0
def St1 (A : Au) (l : Nat) (x y : Nat × Nat) : Prop := (x.1, l, y.1) ∈ A.ed ∧ y.2 = max x.2 (bitN (decide (y.1 ∈ A.en)))
def FW (A : Au) : List Nat → Nat × Nat → Nat × Nat → Prop
  | [], x, y => x = y
  | l :: w, x, y => ∃ z, St1 A l x z ∧ FW A w z y
theorem fw_snoc {A : Au} {l : Nat} {y : Nat × Nat} : ∀ {w : List Nat} {x : Nat × Nat}, FW A (w ++ [l]) x y ↔ ∃ z, FW A w x z ∧ St1 A l z y
  | [], x => ⟨fun ⟨z, h1, h2⟩ => by cases h2; exact ⟨x, rfl, h1⟩, fun ⟨z, h1, h2⟩ => by cases h1; exact ⟨y, h2, rfl⟩⟩
  | m :: w, x => by
    constructor
    · rintro ⟨z, h1, h2⟩
      obtain ⟨t, h3, h4⟩ := fw_snoc.mp h2
      exact ⟨t, ⟨z, h1, h3⟩, h4⟩
    · rintro ⟨t, ⟨z, h1, h3⟩, h4⟩
      exact ⟨z, h1, fw_snoc.mpr ⟨t, h3, h4⟩⟩
theorem fw_one {A : Au} {q : Nat} : ∀ {w : List Nat} {p k : Nat}, FW A w (p, 1) (q, k) ↔ Pth A w p q ∧ k = 1
  | [], p, k => by
    constructor
    · intro h
      cases h
      exact ⟨rfl, rfl⟩
    · rintro ⟨h, rfl⟩
      cases h
      rfl
  | l :: w, p, k => by
    constructor
    · rintro ⟨⟨r, j⟩, ⟨h1, h2⟩, h3⟩
      have h2 : j = max 1 (bitN (decide (r ∈ A.en))) := h2
      have hj : j = 1 := by
        rw [h2]
        unfold bitN
        split <;> rfl
      subst hj
      obtain ⟨h4, h5⟩ := fw_one.mp h3
      exact ⟨⟨r, h1, h4⟩, h5⟩
    · rintro ⟨⟨r, h1, h4⟩, h5⟩
      refine ⟨(r, 1), ⟨h1, ?_⟩, fw_one.mpr ⟨h4, h5⟩⟩
      show 1 = max 1 _
      unfold bitN
      split <;> rfl
theorem fw_pth {A : Au} {q : Nat} : ∀ {w : List Nat} {p : Nat}, (∃ k, FW A w (p, 0) (q, k)) ↔ Pth A w p q
  | [], p => by
    constructor
    · rintro ⟨k, h⟩
      cases h
      rfl
    · intro h
      cases h
      exact ⟨0, rfl⟩
  | l :: w, p => by
    constructor
    · rintro ⟨k, ⟨r, j⟩, ⟨h1, h2⟩, h3⟩
      have h2 : j = max 0 (bitN (decide (r ∈ A.en))) := h2
      unfold bitN at h2
      split at h2
      · have hj : j = 1 := h2
        subst hj
        exact ⟨r, h1, (fw_one.mp h3).1⟩
      · have hj : j = 0 := h2
        subst hj
        exact ⟨r, h1, fw_pth.mp ⟨k, h3⟩⟩
    · rintro ⟨r, h1, h4⟩
      by_cases e : r ∈ A.en
      · exact ⟨1, (r, 1), ⟨h1, by show 1 = max 0 _; simp [bitN, e]⟩, fw_one.mpr ⟨h4, rfl⟩⟩
      · obtain ⟨k, hk⟩ := fw_pth.mpr h4
        exact ⟨k, (r, 0), ⟨h1, by show 0 = max 0 _; simp [bitN, e]⟩, hk⟩
theorem fw_mk {A : Au} {q : Nat} : ∀ {w : List Nat} {p : Nat}, FW A w (p, 0) (q, 1) ↔ Mk A w p q
  | [], p => by
    constructor
    · intro h
      cases h
    · intro h
      exact h.elim
  | l :: w, p => by
    constructor
    · rintro ⟨⟨r, j⟩, ⟨h1, h2⟩, h3⟩
      have h2 : j = max 0 (bitN (decide (r ∈ A.en))) := h2
      unfold bitN at h2
      split at h2
      · rename_i e
        have hj : j = 1 := h2
        subst hj
        exact ⟨r, h1, .inl ⟨of_decide_eq_true e, (fw_one.mp h3).1⟩⟩
      · have hj : j = 0 := h2
        subst hj
        exact ⟨r, h1, .inr (fw_mk.mp h3)⟩
    · rintro ⟨r, h1, ⟨h4, h5⟩ | h4⟩
      · exact ⟨(r, 1), ⟨h1, by show 1 = max 0 _; simp [bitN, h4]⟩, fw_one.mpr ⟨h5, rfl⟩⟩
      · by_cases e : r ∈ A.en
        · exact ⟨(r, 1), ⟨h1, by show 1 = max 0 _; simp [bitN, e]⟩, fw_one.mpr ⟨mk_pth h4, rfl⟩⟩
        · exact ⟨(r, 0), ⟨h1, by show 0 = max 0 _; simp [bitN, e]⟩, fw_mk.mpr h4⟩
theorem fw_lt {A : Au} (h : A.Ok) : ∀ {w : List Nat} {x y : Nat × Nat}, FW A w x y → x.1 < A.n → x.2 < 2 → y.1 < A.n ∧ y.2 < 2
  | [], x, y, e, h1, h2 => by
    cases e
    exact ⟨h1, h2⟩
  | l :: w, x, y, ⟨z, ⟨h1, h2⟩, h3⟩, h4, h5 => by
    refine fw_lt h h3 (h.ed _ h1).2.2 ?_
    rw [h2]
    unfold bitN
    split <;> omega
/-! ### sets of pairs -/
def prD (x : Nat × Nat) : D := .tup [.int x.1, .int x.2]
def setP (ps : List (Nat × Nat)) : List (List Key × D) := ps.map fun x => (pK x, .bl true)
def insP (ps : List (Nat × Nat)) (x : Nat × Nat) : List (Nat × Nat) := if x ∈ ps then ps else ps ++ [x]
theorem mem_insP {ps : List (Nat × Nat)} {q x : Nat × Nat} : x ∈ insP ps q ↔ x ∈ ps ∨ x = q := by
  unfold insP
  split
  · rename_i h
    exact ⟨.inl, fun z => z.elim id fun e => e ▸ h⟩
  · rw [List.mem_append, List.mem_singleton]
theorem nodup_insP {ps : List (Nat × Nat)} {q : Nat × Nat} (h : ps.Nodup) : (insP ps q).Nodup := by
  unfold insP
  split
  · exact h
  · rename_i hq
    refine List.nodup_append.mpr ⟨h, by simp, fun x hx y hy => ?_⟩
    cases List.mem_singleton.mp hy
    exact fun z => hq (z ▸ hx)
theorem pairs_len {n : Nat} {ps : List (Nat × Nat)} (nd : ps.Nodup) (h : ∀ x ∈ ps, x.1 < n ∧ x.2 < 2) : ps.length ≤ n * 2 := by
  have h2 : (ps.map fun k : Nat × Nat => k.1 * 2 + k.2).Nodup := by
    refine List.Pairwise.map _ ?_ (List.Pairwise.imp_of_mem (S := fun a b : Nat × Nat => a ≠ b ∧ a.2 < 2 ∧ b.2 < 2) (fun {a b} ha hb hab => ⟨hab, (h a ha).2, (h b hb).2⟩) nd)
    rintro ⟨a1, a2⟩ ⟨b1, b2⟩ ⟨h1, h2, h3⟩ z
    dsimp only at z h2 h3
    exact h1 (by rw [show a1 = b1 by omega, show a2 = b2 by omega])
  have := len_le (n * 2) _ h2 fun q hq => by
    obtain ⟨k, hk, rfl⟩ := List.mem_map.mp hq
    have := h k hk
    omega
  rwa [List.length_map] at this
theorem put_setP (ps : List (Nat × Nat)) (x : Nat × Nat) : putD (setP ps) (pK x) (.bl true) = setP (insP ps x) := by
  unfold putD insP setP
  by_cases h : x ∈ ps
  · have e : ((ps.map fun x => (pK x, D.bl true)).any fun kv => decide (kv.1 = pK x)) = true := by
      rw [List.any_map, List.any_eq_true]
      exact ⟨x, h, by simp⟩
    rw [if_pos e, if_pos h, List.map_map]
    refine List.map_congr_left fun y hy => ?_
    show (if pK y = pK x then (pK y, D.bl true) else (pK y, D.bl true)) = _
    split <;> rfl
  · have e : ¬ ((ps.map fun x => (pK x, D.bl true)).any fun kv => decide (kv.1 = pK x)) = true := by
      rw [List.any_map, List.any_eq_true]
      rintro ⟨y, hy, e⟩
      exact h (pK_inj (of_decide_eq_true e) ▸ hy)
    rw [if_neg e, if_neg h]
    simp
theorem get_setP (ps : List (Nat × Nat)) (x : Nat × Nat) : (getK (setP ps) (pK x)).isSome = decide (x ∈ ps) := by
  unfold getK setP
  induction ps with
  | nil => rfl
  | cons y ps ih =>
    by_cases h : y = x
    · simp [h]
    · have h' : ¬ pK y = pK x := fun z => h (pK_inj z)
      have h2 : ¬ x = y := fun z => h z.symm
      simp [h', h2] at ih ⊢
      rw [ih]
theorem sh_pr (x : Nat × Nat) : SeqAt.shaped (prD x).py = true := by
  simp [SeqAt.shaped, prD, D.py, D.pys, PyData.canLay0, PyData.canLayAll0, PyData.depth, PyData.depthAll]
theorem srt_pr (ps : List (Nat × Nat)) : srtOk (D.pys (ps.map prD)) = true := by
  unfold srtOk
  rw [pys_map2, List.map_map]
  simp only [Bool.and_eq_true, List.all_eq_true, List.mem_map, Bool.or_eq_true]
  refine ⟨⟨?_, ?_⟩, .inl ?_⟩
  · rintro _ ⟨e, _, rfl⟩ _ ⟨f, _, rfl⟩
    rfl
  · rintro _ ⟨e, he, rfl⟩
    exact sh_pr e
  · rintro _ ⟨e, _, rfl⟩
    rfl
theorem pr_list : ∀ {ys : List D} {P : Nat × Nat → Prop}, (∀ y ∈ ys, ∃ p, y = prD p ∧ P p) → ∃ ps : List (Nat × Nat), ys = ps.map prD
  | [], _, _ => ⟨[], rfl⟩
  | y :: ys, P, h => by
    obtain ⟨e, rfl, he⟩ := h y List.mem_cons_self
    obtain ⟨es, rfl⟩ := pr_list (P := P) fun z hz => h z (List.mem_cons_of_mem _ hz)
    exact ⟨e :: es, rfl⟩
theorem prD_inj {x y : Nat × Nat} (h : prD x = prD y) : x = y := by
  obtain ⟨a, b⟩ := x
  obtain ⟨c, d⟩ := y
  unfold prD at h
  simp at h
  rw [show a = c by omega, show b = d by omega]
theorem sorted_setP (ps : List (Nat × Nat)) : ∃ rs : List (Nat × Nat), sortedD (.dt (setP ps)) = some (rs.map prD) ∧ rs.length = ps.length ∧ ∀ x, x ∈ rs ↔ x ∈ ps := by
  have e : (setP ps).map (fun p => tD p.1) = ps.map prD := by
    unfold setP
    rw [List.map_map]
    rfl
  have pm := List.mergeSort_perm (ps.map prD) lePD
  obtain ⟨rs, hrs⟩ := pr_list (ys := (ps.map prD).mergeSort lePD) (P := fun _ => True) fun y hy => by
    obtain ⟨p, _, rfl⟩ := List.mem_map.mp (pm.mem_iff.mp hy)
    exact ⟨p, rfl, trivial⟩
  refine ⟨rs, ?_, by
    have := pm.length_eq
    rw [hrs, List.length_map, List.length_map] at this
    exact this, fun x => ?_⟩
  · show srtD ((setP ps).map fun p => tD p.1) = _
    rw [e]
    unfold srtD
    rw [if_pos (srt_pr ps), hrs]
  · have : prD x ∈ (ps.map prD).mergeSort lePD ↔ prD x ∈ ps.map prD := pm.mem_iff
    rw [hrs] at this
    have g : ∀ qs : List (Nat × Nat), prD x ∈ qs.map prD ↔ x ∈ qs := fun qs => by
      rw [List.mem_map]
      exact ⟨fun ⟨y, hy, e⟩ => prD_inj e ▸ hy, fun h => ⟨x, h, rfl⟩⟩
    rw [g, g] at this
    exact this
theorem get_put {κ : Type} [DecidableEq κ] (kvs : List (κ × D)) (k k' : κ) (d : D) : getK (putD kvs k d) k' = if k' = k then some d else getK kvs k' := by
  unfold putD
  split
  · rename_i h
    have key : ∀ kvs : List (κ × D), (kvs.any fun kv => decide (kv.1 = k)) = true → getK (kvs.map fun kv => if kv.1 = k then (kv.1, d) else kv) k' = if k' = k then some d else getK kvs k' := by
      intro kvs
      induction kvs with
      | nil =>
        intro h
        cases h
      | cons x kvs ih =>
        intro h
        obtain ⟨j, y⟩ := x
        have c1 : ∀ (z : D) (r : List (κ × D)), getK ((j, z) :: r) k' = if j = k' then some z else getK r k' := fun z r => by
          unfold getK
          by_cases e : j = k' <;> simp [e]
        by_cases e : j = k
        · subst e
          rw [List.map_cons, if_pos rfl, c1, c1]
          by_cases e2 : j = k'
          · subst e2
            simp
          · rw [if_neg e2, if_neg e2, if_neg (Ne.symm e2)]
            by_cases hk : (kvs.any fun kv => decide (kv.1 = j)) = true
            · rw [ih hk, if_neg (Ne.symm e2)]
            · have : (kvs.map fun kv => if kv.1 = j then (kv.1, d) else kv) = kvs := by
                have h2 : ∀ kv ∈ kvs, ¬ kv.1 = j := fun kv hkv z => hk (List.any_eq_true.mpr ⟨kv, hkv, by simp [z]⟩)
                exact (List.map_congr_left (g := id) fun kv hkv => by rw [if_neg (h2 kv hkv)]; rfl).trans (List.map_id _)
              rw [this]
        · have hk : (kvs.any fun kv => decide (kv.1 = k)) = true := by
            simpa [e] using h
          rw [List.map_cons, if_neg e, c1, c1, ih hk]
          by_cases e2 : j = k'
          · subst e2
            rw [if_pos rfl, if_pos rfl, if_neg e]
          · rw [if_neg e2, if_neg e2]
    exact key kvs h
  · rename_i h
    have nk : getK kvs k = none := by
      unfold getK
      rw [Option.map_eq_none_iff, List.find?_eq_none]
      intro x hx z
      exact h (List.any_eq_true.mpr ⟨x, hx, z⟩)
    have c2 : getK (kvs ++ [(k, d)]) k' = (getK kvs k').or (if k = k' then some d else none) := by
      unfold getK
      rw [List.find?_append]
      cases kvs.find? fun kv => decide (kv.1 = k') with
      | none =>
        by_cases e : k = k' <;> simp [e]
      | some x => simp
    rw [c2]
    by_cases e : k' = k
    · subst e
      rw [nk]
      simp
    · rw [if_neg e, if_neg (Ne.symm e), Option.or_none]
theorem put_len {κ : Type} [DecidableEq κ] (kvs : List (κ × D)) (k : κ) (d : D) : (putD kvs k d).length ≤ kvs.length + 1 := by
  unfold putD
  split
  · rw [List.length_map]
    omega
  · rw [List.length_append]
    exact Nat.le_refl _
end K63

namespace K63
open PySem PySem.Spec L2 DL
/-! ### reads_lasso by rounds: the parts of its body -/
def kBody : FS := fSeq (fIfS (fAndT (fTest (fBin eqD (fBinN ixD 10 (fC (.int (1)))) (fLook 8))) (fTest (fIn (fTup (fCons (fBinN ixD 10 (fC (.int (0)))) (fCons (fVar 11) (fNil)))) (fLook 7)))) (fSeq (fAppend 9 (fTup (fCons (fBinN ixD 10 (fC (.int (2)))) (fCons (fCall max2D (fCons (fVar 11) (fCons (fApp intD (fIn (fBinN ixD 10 (fC (.int (2)))) (fLook 4))) (fNil)))) (fNil))))) (fNx)) (fNx)) (fNx)
def eBody : FS := fSeq (fFor (fRng1 (fCons (fC (.int (2))) (fNil))) (gSet 11) kBody) (fNx)
def lBody : FS := fSeq (fSetL (fLst (fNil)) 9) (fSeq (fFor (fItems (fBinN ixD 0 (fC (.int (3))))) (gSet 10) eBody) (fSeq (fSetT (fDictT (fOfL (fLc (fItems (fVar 9)) (gSet 12) (fun ρ => some (true, ρ)) (fTup (fCons (fVar 12) (fCons (fC (.bl true)) (fNil)))) [12]))) 7) (fNx)))
def sBody : FS := fSeq (fSetT (fDispT (fTup (fCons (fVar 6) (fCons (fC (.int (0))) (fNil)))) (fC (.bl true))) 7) (fSeq (fFor (fItems (fVar 2)) (gSet 8) lBody) (fSeq (fPut 5 (fVar 6) (fOfL (fAppL sortedD (fLook 7)))) (fNx)))
def rBody : FS := fSeq (fIfS (fTest (fBinN ltD 11 (fApp lenD (fLook 13)))) (fSeq (fSetL (fCatN 13 (fOfL (fLc (fRng1 (fCons (fVar 3) (fNil))) (gSet 6) (fAndT (fTest (fNotIn (fVar 6) (fLook 13))) (fTru (fApp anyD (fOfL (fLc (fItems (fBinN ixD 5 (fBinN ixD 13 (fVar 11)))) (gSet 12) (fun ρ => some (true, ρ)) (fBin eqD (fBinN ixD 12 (fC (.int (0)))) (fLook 6)) [12]))))) (fVar 6) [6]))) 13) (fNx)) (fNx)) (fNx)
def hBody : FS := fSeq (fAsg (fTup (fCons (fVar 9) (fCons (fCall max2D (fCons (fVar 15) (fCons (fBin ixD (fBinN ixD 14 (fVar 11)) (fC (.int (1)))) (fNil)))) (fNil)))) (gSet 12)) (fSeq (fIfS (fTest (fBinN eqD 12 (fTup (fCons (fVar 6) (fCons (fC (.int (1))) (fNil)))))) (fSeq (fRet (fC (.bl true))) (fNx)) (fNx)) (fSeq (fIfS (fTest (fNotIn (fVar 12) (fLook 14))) (fSeq (fAppend 14 (fVar 12)) (fNx)) (fNx)) (fNx)))
def cBody : FS := fSeq (fIfS (fTest (fBinN ltD 11 (fApp lenD (fLook 14)))) (fSeq (fFor (fItems (fBinN ixD 5 (fBin ixD (fBinN ixD 14 (fVar 11)) (fC (.int (0)))))) (gTupD 2 (gsCons (gSet 9) (gsCons (gSet 15) (gsNil)))) hBody) (fNx)) (fNx)) (fNx)
def oBody : FS := fSeq (fSetL (fLst (fCons (fTup (fCons (fVar 6) (fCons (fC (.int (0))) (fNil)))) (fNil))) 14) (fSeq (fFor (fRng1 (fCons (fBin addD (fBin mulD (fC (.int (2))) (fLook 3)) (fC (.int (2)))) (fNil))) (gSet 11) cBody) (fNx))
theorem body_eq : b_law_reads_lasso = fSeq (fPar 3 4 (nE (fBinN ixD 0 (fC (.int (0))))) (nE (fBinN ixD 0 (fC (.int (4)))))) (fSeq (fSetK (fun ρ => some ([], ρ)) 5) (fSeq (fFor (fRng1 (fCons (fVar 3) (fNil))) (gSet 6) sBody) (fSeq (fSetL (fAppL listD0 (fCall f_law_behind (fCons (fVar 0) (fCons (fVar 1) (fNil))))) 13) (fSeq (fFor (fRng1 (fCons (fBinN addD 3 (fC (.int (1)))) (fNil))) (gSet 11) rBody) (fSeq (fFor (fItems (fVar 13)) (gSet 6) oBody) (fSeq (fRet (fC (.bl false))) (fNx))))))) := rfl
/-! ### the steps of a state -/
theorem max_nat (a b : Nat) : max2D [.int (a : Int), .int (b : Int)] = some (.int ((max a b : Nat) : Int)) := by
  rw [max_int]
  congr 2
  split <;> omega
def b1 (A : Au) (q : Nat) : Nat := bitN (decide (q ∈ A.en))
theorem bit_int (b : Bool) : (D.int (if b = true then 1 else 0)) = .int ((bitN b : Nat) : Int) := by cases b <;> rfl
def aftE (A : Au) (ps : List (Nat × Nat)) (l : Nat) (e : Nat × Nat × Nat) : List (Nat × Nat) :=
  if e.2.1 = l then (if (e.1, 0) ∈ ps then [(e.2.2, max 0 (b1 A e.2.2))] else []) ++ (if (e.1, 1) ∈ ps then [(e.2.2, max 1 (b1 A e.2.2))] else []) else []
theorem aft_len (A : Au) (ps : List (Nat × Nat)) (l : Nat) (e : Nat × Nat × Nat) : (aftE A ps l e).length ≤ 2 := by
  unfold aftE
  split
  · rw [List.length_append]
    split <;> split <;> simp
  · simp
section
variable {A : Au} {sk : List (Key × D)} {u v : D} {s : Nat}
theorem kBody_ok (ps aft : List (Nat × Nat)) (l k : Nat) (e : Nat × Nat × Nat) (hl : aft.length < 1000) (x : Sl) :
    kBody [.d A.enc, .d u, .d v, .d (.int A.n), .d (.tup (nD A.en)), .mK sk, .d (.int s), .mT (setP ps), .d (.str (S [l])), .ml (aft.map prD), .d (edD e), .d (.int k), .no, .no, .no, .no] =
    some (.nx [.d A.enc, .d u, .d v, .d (.int A.n), .d (.tup (nD A.en)), .mK sk, .d (.int s), .mT (setP ps), .d (.str (S [l])), .ml ((aft ++ if e.2.1 = l then (if (e.1, k) ∈ ps then [(e.2.2, max k (b1 A e.2.2))] else []) else []).map prD), .d (edD e), .d (.int k), .no, .no, .no, .no]) := by
  have q : (S [e.2.1] == S [l]) = (e.2.1 == l) := by
    rw [S_eq]
    simp
  have g := get_setP ps (e.1, k)
  unfold pK at g
  dsimp only at g
  have hl2 : aft.length < 1000000 := by omega
  unfold kBody
  by_cases h1 : e.2.1 = l
  · by_cases h2 : (e.1, k) ∈ ps
    · simp [edD, q, h1, g, h2, e_var, mem_ints, bit_int, max_nat, hl2, prD, b1]
      unfold bitN
      by_cases hq : e.2.2 ∈ A.en
      · simp only [hq, if_true, decide_true]
        split <;> omega
      · simp only [hq, if_false, decide_false]
        split
        · omega
        · simp
    · simp [edD, q, h1, g, h2, e_var]
  · have h3 : (e.2.1 == l) = false := beq_eq_false_iff_ne.mpr h1
    simp [edD, q, h3, h1]
theorem eBody_ok (ps aft : List (Nat × Nat)) (l : Nat) (e : Nat × Nat × Nat) (hl : aft.length < 500) (x : Sl) :
    eBody [.d A.enc, .d u, .d v, .d (.int A.n), .d (.tup (nD A.en)), .mK sk, .d (.int s), .mT (setP ps), .d (.str (S [l])), .ml (aft.map prD), .d (edD e), x, .no, .no, .no, .no] =
    some (.nx [.d A.enc, .d u, .d v, .d (.int A.n), .d (.tup (nD A.en)), .mK sk, .d (.int s), .mT (setP ps), .d (.str (S [l])), .ml ((aft ++ aftE A ps l e).map prD), .d (edD e), .d (.int 1), .no, .no, .no, .no]) := by
  unfold eBody
  have r2 : rngD 0 2 = [.int 0, .int 1] := rfl
  have o2 : rgOk 2 = true := rfl
  have k0 := kBody_ok (A := A) (sk := sk) (u := u) (v := v) (s := s) ps aft l 0 e (by omega) x
  have k1 := kBody_ok (A := A) (sk := sk) (u := u) (v := v) (s := s) ps (aft ++ if e.2.1 = l then (if (e.1, 0) ∈ ps then [(e.2.2, max 0 (b1 A e.2.2))] else []) else []) l 1 e (by
    rw [List.length_append]
    split
    · split <;> simp <;> omega
    · simp
      omega) x
  have k0 : kBody [.d A.enc, .d u, .d v, .d (.int A.n), .d (.tup (nD A.en)), .mK sk, .d (.int s), .mT (setP ps), .d (.str (S [l])), .ml (aft.map prD), .d (edD e), .d (.int 0), .no, .no, .no, .no] = _ := k0
  have k1 : kBody [.d A.enc, .d u, .d v, .d (.int A.n), .d (.tup (nD A.en)), .mK sk, .d (.int s), .mT (setP ps), .d (.str (S [l])), .ml ((aft ++ if e.2.1 = l then (if (e.1, 0) ∈ ps then [(e.2.2, max 0 (b1 A e.2.2))] else []) else []).map prD), .d (edD e), .d (.int 1), .no, .no, .no, .no] = _ := k1
  have fin : (aft ++ (if e.2.1 = l then (if (e.1, 0) ∈ ps then [(e.2.2, max 0 (b1 A e.2.2))] else []) else [])) ++ (if e.2.1 = l then (if (e.1, 1) ∈ ps then [(e.2.2, max 1 (b1 A e.2.2))] else []) else []) = aft ++ aftE A ps l e := by
    unfold aftE
    split <;> simp
  rw [fin] at k1
  simp only [e_seq, e_for, e_rng1, e_cons, e_c, e_nil, Option.bind_some, o2, if_true, r2, forD, e_gset, List.set_cons_succ, List.set_cons_zero, k0, k1, e_nx]
  rfl
theorem mem_aft {h : A.Ok} {ps : List (Nat × Nat)} (hb : ∀ x ∈ ps, x.2 < 2) {l : Nat} {es : List (Nat × Nat × Nat)} {y : Nat × Nat} : y ∈ es.flatMap (aftE A ps l) ↔ ∃ x ∈ ps, (x.1, l, y.1) ∈ es ∧ y.2 = max x.2 (b1 A y.1) := by
  rw [List.mem_flatMap]
  constructor
  · rintro ⟨⟨p, l', q⟩, he, hy⟩
    unfold aftE at hy
    split at hy
    · rename_i hl
      have hl : l' = l := hl
      subst hl
      rcases List.mem_append.mp hy with hy | hy
      · split at hy
        · rename_i hp
          cases List.mem_singleton.mp hy
          exact ⟨_, hp, he, rfl⟩
        · cases hy
      · split at hy
        · rename_i hp
          cases List.mem_singleton.mp hy
          exact ⟨_, hp, he, rfl⟩
        · cases hy
    · cases hy
  · rintro ⟨⟨p, k⟩, hx, he, hy⟩
    refine ⟨_, he, ?_⟩
    unfold aftE
    rw [if_pos rfl]
    obtain ⟨q, j⟩ := y
    have hk := hb _ hx
    have hy : j = max k (b1 A q) := hy
    subst hy
    rcases (by omega : k = 0 ∨ k = 1) with rfl | rfl
    · exact List.mem_append_left _ (by rw [if_pos hx]; simp)
    · exact List.mem_append_right _ (by rw [if_pos hx]; simp)
theorem pairs_of (ps : List (Nat × Nat)) : pairsOfT (ps.map fun x => D.tup [prD x, .bl true]) = some (ps.map fun x => (pK x, .bl true)) := by
  induction ps with
  | nil => rfl
  | cons x ps ih =>
    show (keysOf [.int x.1, .int x.2]).bind _ = _
    rw [ih]
    rfl
theorem fold_ins (ps : List (Nat × Nat)) : ∀ qs : List (Nat × Nat), (ps.map fun x => (pK x, D.bl true)).foldl (fun acc r => putD acc r.1 r.2) (setP qs) = setP (ps.foldl insP qs) := by
  induction ps with
  | nil => exact fun _ => rfl
  | cons x ps ih =>
    intro qs
    rw [List.map_cons, List.foldl_cons, List.foldl_cons, put_setP]
    exact ih _
theorem mem_fold (ps : List (Nat × Nat)) : ∀ (qs : List (Nat × Nat)) (y : Nat × Nat), y ∈ ps.foldl insP qs ↔ y ∈ qs ∨ y ∈ ps := by
  induction ps with
  | nil =>
    intro qs y
    simp
  | cons x ps ih =>
    intro qs y
    rw [List.foldl_cons, ih, mem_insP, List.mem_cons, or_assoc]
theorem nodup_fold (ps : List (Nat × Nat)) : ∀ (qs : List (Nat × Nat)), qs.Nodup → (ps.foldl insP qs).Nodup := by
  induction ps with
  | nil => exact fun qs h => h
  | cons x ps ih => exact fun qs h => ih _ (nodup_insP h)
theorem lBody_ok (h : A.Ok) (ps : List (Nat × Nat)) (hb : ∀ x ∈ ps, x.2 < 2) (l : Nat) (x y z : Sl) :
    ∃ ps' a e k, lBody [.d A.enc, .d u, .d v, .d (.int A.n), .d (.tup (nD A.en)), .mK sk, .d (.int s), .mT (setP ps), .d (.str (S [l])), x, y, z, .no, .no, .no, .no] =
    some (.nx [.d A.enc, .d u, .d v, .d (.int A.n), .d (.tup (nD A.en)), .mK sk, .d (.int s), .mT (setP ps'), .d (.str (S [l])), a, e, k, .no, .no, .no, .no]) ∧ ps'.Nodup ∧ (∀ y, y ∈ ps' ↔ ∃ x ∈ ps, St1 A l x y) := by
  have a3 : ixD A.enc (.int 3) = some (.tup (A.ed.map edD)) := rfl
  have loop : ∀ (es : List (Nat × Nat × Nat)) (aft : List (Nat × Nat)) (y z : Sl), aft.length + 2 * es.length < 500 → ∃ y' z', forD (gSet 10) eBody (es.map edD) [.d A.enc, .d u, .d v, .d (.int A.n), .d (.tup (nD A.en)), .mK sk, .d (.int s), .mT (setP ps), .d (.str (S [l])), .ml (aft.map prD), y, z, .no, .no, .no, .no] =
      some (.nx [.d A.enc, .d u, .d v, .d (.int A.n), .d (.tup (nD A.en)), .mK sk, .d (.int s), .mT (setP ps), .d (.str (S [l])), .ml ((aft ++ es.flatMap (aftE A ps l)).map prD), y', z', .no, .no, .no, .no]) := by
    intro es
    induction es with
    | nil =>
      intro aft y z _
      exact ⟨y, z, by simp [forD]⟩
    | cons e es ih =>
      intro aft y z hl
      rw [List.length_cons] at hl
      have := aft_len A ps l e
      obtain ⟨y', z', k1⟩ := ih (aft ++ aftE A ps l e) (.d (edD e)) (.d (.int 1)) (by rw [List.length_append]; omega)
      refine ⟨y', z', ?_⟩
      rw [List.map_cons, forD]
      simp only [e_gset, Option.bind_some, List.set_cons_succ, List.set_cons_zero]
      rw [eBody_ok ps aft l e (by omega) z]
      simp only [Option.bind_some]
      rw [k1, List.flatMap_cons, List.append_assoc]
  have el := h.edl
  obtain ⟨y', z', k1⟩ := loop A.ed [] y z (by simp; omega)
  rw [List.nil_append] at k1
  have fl : ∀ es : List (Nat × Nat × Nat), (es.flatMap (aftE A ps l)).length ≤ 2 * es.length := by
    intro es
    induction es with
    | nil => simp
    | cons e es ih =>
      rw [List.flatMap_cons, List.length_append, List.length_cons]
      have := aft_len A ps l e
      omega
  have fl1 := fl A.ed
  have lc : lcD (gSet 12) (fun ρ => some (true, ρ)) (fTup (fCons (fVar 12) (fCons (fC (.bl true)) (fNil)))) [12] ((A.ed.flatMap (aftE A ps l)).map prD) [] [.d A.enc, .d u, .d v, .d (.int A.n), .d (.tup (nD A.en)), .mK sk, .d (.int s), .mT (setP ps), .d (.str (S [l])), .d (.lst ((A.ed.flatMap (aftE A ps l)).map prD)), y', z', .no, .no, .no, .no]
      = some (((A.ed.flatMap (aftE A ps l)).map prD).map fun d => D.tup [d, .bl true], [.d A.enc, .d u, .d v, .d (.int A.n), .d (.tup (nD A.en)), .mK sk, .d (.int s), .mT (setP ps), .d (.str (S [l])), .d (.lst ((A.ed.flatMap (aftE A ps l)).map prD)), y', z', .no, .no, .no, .no]) := by
    have := lcD_map (g := gSet 12) (c := fun ρ => some (true, ρ)) (f := fTup (fCons (fVar 12) (fCons (fC (.bl true)) (fNil)))) (vs := [12]) (p := fun _ => true) (h := fun d => D.tup [d, .bl true])
      (ρ0 := [.d A.enc, .d u, .d v, .d (.int A.n), .d (.tup (nD A.en)), .mK sk, .d (.int s), .mT (setP ps), .d (.str (S [l])), .d (.lst ((A.ed.flatMap (aftE A ps l)).map prD)), y', z', .no, .no, .no, .no]) ((A.ed.flatMap (aftE A ps l)).map prD) (fun d _ => ⟨_, _, rfl, rfl, fun z => (by cases z), fun _ => ⟨[.d A.enc, .d u, .d v, .d (.int A.n), .d (.tup (nD A.en)), .mK sk, .d (.int s), .mT (setP ps), .d (.str (S [l])), .d (.lst ((A.ed.flatMap (aftE A ps l)).map prD)), y', z', .d d, .no, .no, .no], by simp [e_var], rfl⟩⟩) []
    rw [List.nil_append, List.filter_eq_self.mpr (fun _ _ => rfl)] at this
    exact this
  have fl2 : (A.ed.flatMap (aftE A ps l)).length ≤ 1000000 := by omega
  have fl3 : (A.ed.flatMap (aftE A ps l)).length ≤ 100000 := by omega
  refine ⟨(A.ed.flatMap (aftE A ps l)).foldl insP [], .d (.lst ((A.ed.flatMap (aftE A ps l)).map prD)), y', z', ?_, nodup_fold _ _ List.nodup_nil, fun y => ?_⟩
  · have dt : dictTD (.lst (((A.ed.flatMap (aftE A ps l)).map prD).map fun d => D.tup [d, .bl true])) = some (setP ((A.ed.flatMap (aftE A ps l)).foldl insP [])) := by
      show (pairsOfT _).bind _ = _
      rw [List.map_map]
      show (pairsOfT ((A.ed.flatMap (aftE A ps l)).map fun x => D.tup [prD x, .bl true])).bind _ = _
      rw [pairs_of]
      simp only [Option.bind_some, List.length_map]
      rw [if_pos fl3]
      exact congrArg some (fold_ins _ [])
    have k1 : forD (gSet 10) eBody (A.ed.map edD) [.d A.enc, .d u, .d v, .d (.int A.n), .d (.tup (nD A.en)), .mK sk, .d (.int s), .mT (setP ps), .d (.str (S [l])), .ml [], y, z, .no, .no, .no, .no] = _ := k1
    unfold lBody
    simp only [e_seq, e_setL, e_lst, e_nil, Option.bind_some, List.length_nil, Nat.zero_le, if_true, e_for, e_items, e_binN, e_c, List.set_cons_succ, List.set_cons_zero, List.getElem?_cons_zero, w_d, a3, it_tup, k1, e_setT, fDictT, e_ofL, e_lc, e_var, List.getElem?_cons_succ, it_lst, List.length_map, fl2, e_wcons, e_wnil, lc, dt, e_nx]
  · rw [mem_fold, mem_aft (h := h) hb]
    simp
    rfl
end
end K63

namespace K63
open PySem PySem.Spec L2 DL
section
variable {A : Au}
theorem sBody_ok (h : A.Ok) (sk : List (Key × D)) (hl : sk.length < 1000) (u : D) (w : List Nat) (s : Nat) (hs : s < A.n) (a1 a2 a3 a4 a5 : Sl) :
    ∃ (rs : List (Nat × Nat)) (b1 b2 b3 b4 b5 : Sl), sBody [.d A.enc, .d u, .d (.str (S w)), .d (.int A.n), .d (.tup (nD A.en)), .mK sk, .d (.int s), a1, a2, a3, a4, a5, .no, .no, .no, .no] =
    some (.nx [.d A.enc, .d u, .d (.str (S w)), .d (.int A.n), .d (.tup (nD A.en)), .mK (putD sk (.inl (s : Int)) (.lst (rs.map prD))), .d (.int s), b1, b2, b3, b4, b5, .no, .no, .no, .no]) ∧ rs.length ≤ 8 ∧ ∀ y, y ∈ rs ↔ FW A w (s, 0) y := by
  have loop : ∀ (w2 w1 : List Nat) (ps : List (Nat × Nat)) (a2 a3 a4 a5 : Sl), ps.Nodup → (∀ y, y ∈ ps ↔ FW A w1 (s, 0) y) → ∃ (ps' : List (Nat × Nat)) (b2 b3 b4 b5 : Sl), forD (gSet 8) lBody (w2.map fun c => D.str (S [c])) [.d A.enc, .d u, .d (.str (S w)), .d (.int A.n), .d (.tup (nD A.en)), .mK sk, .d (.int s), .mT (setP ps), a2, a3, a4, a5, .no, .no, .no, .no] =
      some (.nx [.d A.enc, .d u, .d (.str (S w)), .d (.int A.n), .d (.tup (nD A.en)), .mK sk, .d (.int s), .mT (setP ps'), b2, b3, b4, b5, .no, .no, .no, .no]) ∧ ps'.Nodup ∧ ∀ y, y ∈ ps' ↔ FW A (w1 ++ w2) (s, 0) y := by
    intro w2
    induction w2 with
    | nil =>
      intro w1 ps a2 a3 a4 a5 nd hp
      exact ⟨ps, a2, a3, a4, a5, rfl, nd, by rw [List.append_nil]; exact hp⟩
    | cons l w2 ih =>
      intro w1 ps a2 a3 a4 a5 nd hp
      have hb : ∀ x ∈ ps, x.2 < 2 := fun x hx => (fw_lt h ((hp x).mp hx) hs (show (0 : Nat) < 2 by decide)).2
      obtain ⟨ps1, a, e, k, k1, nd1, k2⟩ := lBody_ok (sk := sk) (u := u) (v := .str (S w)) (s := s) h ps hb l a3 a4 a5
      obtain ⟨ps', b2, b3, b4, b5, k3, nd3, k4⟩ := ih (w1 ++ [l]) ps1 (.d (.str (S [l]))) a e k nd1 (fun y => by
        rw [k2, fw_snoc]
        constructor
        · rintro ⟨x, hx, st⟩
          exact ⟨x, (hp x).mp hx, st⟩
        · rintro ⟨x, hx, st⟩
          exact ⟨x, (hp x).mpr hx, st⟩)
      refine ⟨ps', b2, b3, b4, b5, ?_, nd3, by rw [show w1 ++ l :: w2 = w1 ++ [l] ++ w2 by simp]; exact k4⟩
      rw [List.map_cons, forD]
      simp only [e_gset, Option.bind_some, List.set_cons_succ, List.set_cons_zero, k1, k3]
  obtain ⟨ps', b2, b3, b4, b5, k1, nd, k2⟩ := loop w [] [(s, 0)] a2 a3 a4 a5 (by simp) (fun y => by
    rw [List.mem_singleton]
    exact ⟨fun e => e.symm, fun e => Eq.symm e⟩)
  obtain ⟨rs, k3, k5, k4⟩ := sorted_setP ps'
  have n4 := h.n4
  have pl := pairs_len (n := A.n) nd fun x hx => fw_lt h ((k2 x).mp hx) hs (show (0 : Nat) < 2 by decide)
  refine ⟨rs, .mT (setP ps'), b2, b3, b4, b5, ?_, by omega, fun y => by rw [k4, k2]; rfl⟩
  have k1 : forD (gSet 8) lBody (w.map fun c => D.str (S [c])) [.d A.enc, .d u, .d (.str (S w)), .d (.int A.n), .d (.tup (nD A.en)), .mK sk, .d (.int s), .mT [([.inl (s : Int), .inl 0], .bl true)], a2, a3, a4, a5, .no, .no, .no, .no] = _ := k1
  have hl2 : sk.length < 1000000 := by omega
  unfold sBody
  simp [fDispT, e_var, itemsS, k1, k3, hl2]
/-- the table of the rounds -/
def Stp (A : Au) (w : List Nat) (sk : List (Key × D)) : Prop := ∀ s, s < A.n → ∃ rs : List (Nat × Nat), getK sk (.inl (s : Int)) = some (.lst (rs.map prD)) ∧ rs.length ≤ 8 ∧ ∀ y, y ∈ rs ↔ FW A w (s, 0) y
theorem steps_loop (h : A.Ok) (u : D) (w : List Nat) : ∃ (sk : List (Key × D)) (b0 b1 b2 b3 b4 b5 : Sl), forD (gSet 6) sBody (rngD 0 A.n) [.d A.enc, .d u, .d (.str (S w)), .d (.int A.n), .d (.tup (nD A.en)), .mK [], .no, .no, .no, .no, .no, .no, .no, .no, .no, .no] =
    some (.nx [.d A.enc, .d u, .d (.str (S w)), .d (.int A.n), .d (.tup (nD A.en)), .mK sk, b0, b1, b2, b3, b4, b5, .no, .no, .no, .no]) ∧ Stp A w sk := by
  have n4 := h.n4
  obtain ⟨ρ', k1, sk, b0, b1, b2, b3, b4, b5, rfl, k2, k3⟩ := forD_inv (g := gSet 6) (f := sBody) (I := fun i ρ => ∃ (sk : List (Key × D)) (b0 b1 b2 b3 b4 b5 : Sl), ρ = [.d A.enc, .d u, .d (.str (S w)), .d (.int A.n), .d (.tup (nD A.en)), .mK sk, b0, b1, b2, b3, b4, b5, .no, .no, .no, .no] ∧ sk.length ≤ i ∧
      ∀ s, s < i → s < A.n → ∃ rs : List (Nat × Nat), getK sk (.inl (s : Int)) = some (.lst (rs.map prD)) ∧ rs.length ≤ 8 ∧ ∀ y, y ∈ rs ↔ FW A w (s, 0) y) (rngD 0 A.n) 0 (fun i d ρ hd hI => by
      obtain ⟨sk, b0, b1, b2, b3, b4, b5, rfl, hl, hI⟩ := hI
      rw [rng_nat, List.getElem?_map] at hd
      obtain ⟨j, hj, rfl⟩ := Option.map_eq_some_iff.mp hd
      obtain ⟨hj1, hj2⟩ := List.getElem?_eq_some_iff.mp hj
      rw [List.getElem_range] at hj2
      subst hj2
      have hi : i < A.n := by simpa using hj1
      obtain ⟨rs, c1, c2, c3, c4, c5, g1, g3, g2⟩ := sBody_ok h sk (by omega) u w i hi b1 b2 b3 b4 b5
      refine ⟨_, _, rfl, g1, _, _, c1, c2, c3, c4, c5, rfl, Nat.le_trans (put_len _ _ _) (by omega), fun s hs hsn => ?_⟩
      rw [get_put]
      by_cases e : s = i
      · subst e
        exact ⟨rs, if_pos rfl, g3, g2⟩
      · rw [if_neg (fun z => e (by
          have := Sum.inl.inj z
          omega))]
        exact hI s (by omega) hsn) _ ⟨[], _, _, _, _, _, _, rfl, Nat.le_refl _, fun s hs => absurd hs (Nat.not_lt_zero _)⟩
  refine ⟨sk, b0, b1, b2, b3, b4, b5, k1, fun s hs => k3 s ?_ hs⟩
  simp [rng_nat]
  exact hs
/-! ### a search place by place -/
structure Bf {α : Type} (E : α → α → Prop) (S : α → Prop) (U : α → Prop) (lv : List α) (k : Nat) : Prop where
  nd : lv.Nodup
  u : ∀ x ∈ lv, U x
  rch : ∀ x ∈ lv, ∃ s, S s ∧ RT E s x
  st : ∀ s, S s → s ∈ lv
  cl : ∀ j x, j < k → lv[j]? = some x → ∀ y, E x y → y ∈ lv
theorem Bf.done {α : Type} {E : α → α → Prop} {S U : α → Prop} {lv : List α} {k : Nat} (h : Bf E S U lv k) (hk : lv.length ≤ k) (x : α) : x ∈ lv ↔ ∃ s, S s ∧ RT E s x := by
  have go : ∀ a c, RT E a c → a ∈ lv → c ∈ lv := fun a c r => by
    induction r with
    | refl => exact id
    | step _ e ih =>
      intro ha
      obtain ⟨j, hj, e2⟩ := List.getElem_of_mem (ih ha)
      exact h.cl j _ (by omega) (by rw [← e2]; exact List.getElem?_eq_getElem hj) _ e
  exact ⟨h.rch x, fun ⟨s, hs, r⟩ => go s x r (h.st s hs)⟩
/-- more at the end -/
theorem Bf.more {α : Type} {E : α → α → Prop} {S U : α → Prop} {lv new : List α} {k : Nat} (h : Bf E S U lv k) (hk : k ≤ lv.length) (nd : (lv ++ new).Nodup) (u : ∀ x ∈ new, U x) (r : ∀ x ∈ new, ∃ y ∈ lv, E y x) : Bf E S U (lv ++ new) k := by
  refine ⟨nd, fun x hx => (List.mem_append.mp hx).elim (h.u x) (u x), fun x hx => ?_, fun s hs => List.mem_append_left _ (h.st s hs), fun j x hj hx y e => ?_⟩
  · rcases List.mem_append.mp hx with hx | hx
    · exact h.rch x hx
    · obtain ⟨y, hy, e⟩ := r x hx
      obtain ⟨s, hs, q⟩ := h.rch y hy
      exact ⟨s, hs, q.step e⟩
  · rw [List.getElem?_append_left (by omega)] at hx
    exact List.mem_append_left _ (h.cl j x hj hx y e)
theorem Bf.next {α : Type} {E : α → α → Prop} {S U : α → Prop} {lv : List α} {k : Nat} (h : Bf E S U lv k) (hc : ∀ x, lv[k]? = some x → ∀ y, E x y → y ∈ lv) : Bf E S U lv (k + 1) :=
  ⟨h.nd, h.u, h.rch, h.st, fun j x hj hx => by
    by_cases e : j = k
    · subst e
      exact hc x hx
    · exact h.cl j x (by omega) hx⟩
theorem mem_intsL (p : Nat) (ps : List Nat) : memD (.int p) (.lst (nD ps)) = some (decide (p ∈ ps)) := mem_ints p ps
theorem rBody_ok (h : A.Ok) {w : List Nat} {sk : List (Key × D)} (hS : Stp A w sk) (u : D) (lv : List Nat) (k : Nat) (S : Nat → Prop) (hB : Bf (Pth A w) S (fun q => q < A.n) lv k) (c1 c2 c3 c4 c5 c6 : Sl) :
    ∃ lv' d1 d6, rBody [.d A.enc, .d u, .d (.str (K63.S w)), .d (.int A.n), .d (.tup (nD A.en)), .mK sk, c1, c2, c3, c4, c5, .d (.int k), c6, .ml (nD lv), .no, .no] =
    some (.nx [.d A.enc, .d u, .d (.str (K63.S w)), .d (.int A.n), .d (.tup (nD A.en)), .mK sk, d1, c2, c3, c4, c5, .d (.int k), d6, .ml (nD lv'), .no, .no]) ∧ Bf (Pth A w) S (fun q => q < A.n) lv' (k + 1) := by
  have n4 := h.n4
  have ll := len_le A.n lv hB.nd hB.u
  by_cases hk : k < lv.length
  · have hxn : lv[k] < A.n := hB.u _ (List.getElem_mem _)
    obtain ⟨rs, r1, r3, r2⟩ := hS lv[k] hxn
    have rn : rgOk (A.n : Int) = true := rg_ok A.n (by omega)
    have hk2 : ((k : Int) < (lv.length : Int)) := by omega
    have g1 : (nD lv)[k]? = some (.int lv[k]) := by simp [nD, hk]
    -- how many
    have rl : rs.length ≤ 1000000 := by omega
    let t (q : Nat) : Bool := decide (q ∉ lv) && rs.any fun x => (x.1 : Int) == q
    have inner : ∀ (q : Nat) (c6 : Sl), lcD (gSet 12) (fun ρ => some (true, ρ)) (fBin eqD (fBinN ixD 12 (fC (.int (0)))) (fLook 6)) [12] (rs.map prD) [] [.d A.enc, .d u, .d (.str (K63.S w)), .d (.int A.n), .d (.tup (nD A.en)), .mK sk, .d (.int q), c2, c3, c4, c5, .d (.int k), .no, .ml (nD lv), .no, .no]
        = some (rs.map fun x => D.bl ((x.1 : Int) == q), [.d A.enc, .d u, .d (.str (K63.S w)), .d (.int A.n), .d (.tup (nD A.en)), .mK sk, .d (.int q), c2, c3, c4, c5, .d (.int k), .no, .ml (nD lv), .no, .no]) := by
      intro q c6
      have key : ∀ (xs : List (Nat × Nat)) (acc : List D), lcD (gSet 12) (fun ρ => some (true, ρ)) (fBin eqD (fBinN ixD 12 (fC (.int (0)))) (fLook 6)) [12] (xs.map prD) acc [.d A.enc, .d u, .d (.str (K63.S w)), .d (.int A.n), .d (.tup (nD A.en)), .mK sk, .d (.int q), c2, c3, c4, c5, .d (.int k), .no, .ml (nD lv), .no, .no]
          = some (acc ++ xs.map fun x => D.bl ((x.1 : Int) == q), [.d A.enc, .d u, .d (.str (K63.S w)), .d (.int A.n), .d (.tup (nD A.en)), .mK sk, .d (.int q), c2, c3, c4, c5, .d (.int k), .no, .ml (nD lv), .no, .no]) := by
        intro xs
        induction xs with
        | nil =>
          intro acc
          simp [lcD]
        | cons x xs ih =>
          intro acc
          simp [lcD, prD, ih]
      have := key rs []
      rwa [List.nil_append] at this
    have outer : ∀ (qs : List Nat) (acc : List D) (c6 : Sl), ∃ c6', lcD (gSet 6) (fAndT (fTest (fNotIn (fVar 6) (fLook 13))) (fTru (fApp anyD (fOfL (fLc (fItems (fBinN ixD 5 (fBinN ixD 13 (fVar 11)))) (gSet 12) (fun ρ => some (true, ρ)) (fBin eqD (fBinN ixD 12 (fC (.int (0)))) (fLook 6)) [12]))))) (fVar 6) [6] (nD qs) acc [.d A.enc, .d u, .d (.str (K63.S w)), .d (.int A.n), .d (.tup (nD A.en)), .mK sk, .no, c2, c3, c4, c5, .d (.int k), c6, .ml (nD lv), .no, .no]
        = some (acc ++ nD (qs.filter t), [.d A.enc, .d u, .d (.str (K63.S w)), .d (.int A.n), .d (.tup (nD A.en)), .mK sk, .no, c2, c3, c4, c5, .d (.int k), c6', .ml (nD lv), .no, .no]) := by
      intro qs
      induction qs with
      | nil =>
        intro acc c6
        exact ⟨c6, by simp [lcD]⟩
      | cons q qs ih =>
        intro acc c6
        by_cases h1 : q ∈ lv
        · obtain ⟨c6', h2⟩ := ih acc c6
          refine ⟨c6', ?_⟩
          simp [lcD, e_var, mem_intsL, h1, t, h2]
        · cases h2 : rs.any fun x => (x.1 : Int) == q with
          | true =>
            obtain ⟨c6', h3⟩ := ih (acc ++ [.int q]) .no
            refine ⟨c6', ?_⟩
            have h4 := inner q c6
            simp [lcD, e_var, mem_intsL, h1, t, g1, r1, rl, h4, any_map, h2, h3]
          | false =>
            obtain ⟨c6', h3⟩ := ih acc .no
            refine ⟨c6', ?_⟩
            have h4 := inner q c6
            simp [lcD, e_var, mem_intsL, h1, t, g1, r1, rl, h4, any_map, h2, h3]
    obtain ⟨c6', h5⟩ := outer (List.range A.n) [] c6
    rw [List.nil_append] at h5
    have tm : ∀ q, q ∈ (List.range A.n).filter t ↔ q < A.n ∧ q ∉ lv ∧ Pth A w lv[k] q := fun q => by
      rw [List.mem_filter, List.mem_range]
      refine and_congr_right fun _ => ?_
      show ((decide (q ∉ lv) && rs.any fun x => (x.1 : Int) == q) = true) ↔ _
      rw [Bool.and_eq_true, decide_eq_true_iff, List.any_eq_true, ← fw_pth]
      refine and_congr_right fun _ => ⟨?_, ?_⟩
      · rintro ⟨x, hx, e⟩
        have e : x.1 = q := by
          have := beq_iff_eq.mp e
          omega
        subst e
        exact ⟨x.2, (r2 x).mp hx⟩
      · rintro ⟨j, hj⟩
        exact ⟨(q, j), (r2 _).mpr hj, by simp⟩
    have nd2 : (lv ++ (List.range A.n).filter t).Nodup := List.nodup_append.mpr ⟨hB.nd, List.Nodup.sublist List.filter_sublist List.nodup_range, fun x hx y hy e => ((tm y).mp hy).2.1 (e ▸ hx)⟩
    have B2 : Bf (Pth A w) S (fun q => q < A.n) (lv ++ (List.range A.n).filter t) k := hB.more (by omega) nd2 (fun x hx => ((tm x).mp hx).1) fun x hx => ⟨lv[k], List.getElem_mem _, ((tm x).mp hx).2.2⟩
    refine ⟨lv ++ (List.range A.n).filter t, .no, c6', ?_, B2.next fun x hx y e => ?_⟩
    · have rr : rngD 0 (A.n : Int) = nD (List.range A.n) := rng_nat A.n
      have nl : A.n ≤ 1000000 := by omega
      have l2 : lv.length + ((List.range A.n).filter t).length ≤ 1000000 := by
        have := len_le A.n _ nd2 B2.u
        rw [List.length_append] at this
        omega
      have na : nD (lv ++ (List.range A.n).filter t) = nD lv ++ nD ((List.range A.n).filter t) := by simp [nD]
      unfold rBody
      simp [hk2, rn, rr, nl, h5, fCatN, catD, l2, na, e_var]
    · rw [List.getElem?_append_left hk, List.getElem?_eq_getElem hk] at hx
      cases hx
      by_cases z : y ∈ lv
      · exact List.mem_append_left _ z
      · exact List.mem_append_right _ ((tm y).mpr ⟨pth_lt h e hxn, z, e⟩)
  · have hk2 : ¬ ((k : Int) < (lv.length : Int)) := by omega
    refine ⟨lv, c1, c6, ?_, hB.next fun x hx => ?_⟩
    · unfold rBody
      simp [hk2]
    · rw [List.getElem?_eq_none (by omega)] at hx
      cases hx
/-! ### rounds that come back -/
theorem sh_prs (ps : List (Nat × Nat)) : SeqAt.shaped (D.lst (ps.map prD)).py = true := by
  have h : PyData.canLayAll0 (D.pys (ps.map prD)) = true ∧ PyData.depthAll (D.pys (ps.map prD)) ≤ 1 := by
    induction ps with
    | nil => exact ⟨rfl, by simp [D.pys, PyData.depthAll]⟩
    | cons p ps ih =>
      refine ⟨?_, ?_⟩
      · show (true && PyData.canLayAll0 (D.pys (ps.map prD))) = true
        rw [ih.1]
        rfl
      · simp [prD, D.pys, D.py, PyData.depthAll, PyData.depth] at ih ⊢
        exact Nat.max_le.mpr ⟨Nat.le_refl _, ih.2⟩
  unfold SeqAt.shaped
  rw [Bool.and_eq_true]
  refine ⟨h.1, decide_eq_true ?_⟩
  simp [D.py, PyData.depth]
  omega
theorem eqv_pr (x y : Nat × Nat) : PyData.eqv (prD x).py (prD y).py = decide (x = y) := by
  obtain ⟨a, b⟩ := x
  obtain ⟨c, d⟩ := y
  have e : PyData.eqv (prD (a, b)).py (prD (c, d)).py = (((a : Int) == c) && ((b : Int) == d)) := by
    simp [prD, D.py, D.pys, PyData.eqv, PyData.eqvAll]
  rw [e]
  by_cases h1 : a = c
  · by_cases h2 : b = d
    · subst h1
      subst h2
      simp
    · have : ((b : Int) == d) = false := beq_eq_false_iff_ne.mpr (by omega)
      rw [this]
      simp [h2]
  · have : ((a : Int) == c) = false := beq_eq_false_iff_ne.mpr (by omega)
    rw [this]
    simp [h1]
theorem eq_pr (x y : Nat × Nat) : eqD (prD x) (prD y) = some (.bl (decide (x = y))) := by
  show (if SeqAt.shaped (prD x).py && SeqAt.shaped (prD y).py then some (PyData.eqv (prD x).py (prD y).py) else none).map D.bl = _
  rw [sh_pr, sh_pr, eqv_pr]
  rfl
theorem mem_prs (x : Nat × Nat) (ps : List (Nat × Nat)) : memD (prD x) (.lst (ps.map prD)) = some (decide (x ∈ ps)) := by
  show (if SeqAt.shaped (prD x).py && SeqAt.shaped (D.lst (ps.map prD)).py then some ((D.pys (ps.map prD)).any fun z => PyData.eqv z (prD x).py) else none) = _
  rw [sh_pr, sh_prs]
  show some _ = some _
  congr 1
  induction ps with
  | nil => rfl
  | cons q ps ih =>
    show (PyData.eqv (prD q).py (prD x).py || (D.pys (ps.map prD)).any fun z => PyData.eqv z (prD x).py) = _
    rw [ih, eqv_pr]
    by_cases h : x = q
    · simp [h]
    · have : ¬ q = x := fun z => h z.symm
      simp [h, this]
/-- a round, with a flag -/
def SE (A : Au) (w : List Nat) (x y : Nat × Nat) : Prop := ∃ k, FW A w (x.1, 0) (y.1, k) ∧ y.2 = max k x.2
theorem hBody_ok {u : D} {w : List Nat} {sk : List (Key × D)} {a5 a6 a7 a8 : Sl} (lv : List (Nat × Nat)) (hl : lv.length < 1000) (s k : Nat) (x y : Nat × Nat) (hx : lv[k]? = some x) (c12 : Sl) :
    hBody [.d A.enc, .d u, .d (.str (K63.S w)), .d (.int A.n), .d (.tup (nD A.en)), .mK sk, .d (.int s), a7, a8, .d (.int y.1), a6, .d (.int k), c12, a5, .ml (lv.map prD), .d (.int y.2)] =
    some (if (y.1, max y.2 x.2) = (s, 1) then .rt (.bl true) [.d A.enc, .d u, .d (.str (K63.S w)), .d (.int A.n), .d (.tup (nD A.en)), .mK sk, .d (.int s), a7, a8, .d (.int y.1), a6, .d (.int k), .d (prD (y.1, max y.2 x.2)), a5, .ml (lv.map prD), .d (.int y.2)]
      else .nx [.d A.enc, .d u, .d (.str (K63.S w)), .d (.int A.n), .d (.tup (nD A.en)), .mK sk, .d (.int s), a7, a8, .d (.int y.1), a6, .d (.int k), .d (prD (y.1, max y.2 x.2)), a5, .ml ((insP lv (y.1, max y.2 x.2)).map prD), .d (.int y.2)]) := by
  have g : (lv.map prD)[k]? = some (prD x) := by rw [List.getElem?_map, hx]; rfl
  have g1 : ixD (prD x) (.int 1) = some (.int x.2) := rfl
  have pd : ∀ a b : Nat, D.tup [.int a, .int b] = prD (a, b) := fun _ _ => rfl
  have p1 : D.tup [.int s, .int 1] = prD (s, 1) := rfl
  have hl2 : lv.length < 1000000 := by omega
  unfold hBody
  simp only [e_seq, e_asg, e_tup, e_cons, e_var, e_call, e_bin, e_binN, e_c, e_nil, List.getElem?_cons_succ, List.getElem?_cons_zero, Option.bind_some, w_d, w_ml, ix_lst, atI_nat, g, g1, max_nat, List.length_cons, List.length_nil, pd, e_gset, List.set_cons_succ, List.set_cons_zero]
  generalize (y.1, max y.2 x.2) = z
  by_cases h1 : z = (s, 1)
  · rw [if_pos h1]
    simp [p1, eq_pr, h1, e_var]
  · rw [if_neg h1]
    by_cases h2 : z ∈ lv
    · simp [p1, eq_pr, h1, h2, insP, mem_prs, e_var]
    · simp [p1, eq_pr, h1, h2, insP, mem_prs, e_var, hl2]
end
end K63

namespace K63
open PySem PySem.Spec L2 DL
section
variable {A : Au} {u : D} {w : List Nat} {sk : List (Key × D)} {a5 a6 a7 a8 : Sl} {s : Nat}
/-- the slots there -/
abbrev sl6 (A : Au) (u : D) (w : List Nat) (sk : List (Key × D)) (a5 a6 a7 a8 : Sl) (s : Nat) (k : Sl) (lv : List (Nat × Nat)) (c9 c12 c15 : Sl) : Sls :=
  [.d A.enc, .d u, .d (.str (K63.S w)), .d (.int A.n), .d (.tup (nD A.en)), .mK sk, .d (.int s), a7, a8, c9, a6, k, c12, a5, .ml (lv.map prD), c15]
def Lv (A : Au) (w : List Nat) (s : Nat) (lv : List (Nat × Nat)) (k : Nat) : Prop := Bf (SE A w) (fun x => x = (s, 0)) (fun x => x.1 < A.n ∧ x.2 < 2) lv k ∧ (s, 1) ∉ lv
theorem lv_len (h : A.Ok) {lv : List (Nat × Nat)} {k : Nat} (hL : Lv A w s lv k) : lv.length ≤ A.n * 2 := pairs_len hL.1.nd hL.1.u
theorem cBody_ok (h : A.Ok) (hS : Stp A w sk) (lv : List (Nat × Nat)) (k : Nat) (hL : Lv A w s lv k) (c9 c12 c15 : Sl) :
    (∃ lv' c9' c12' c15', cBody (sl6 A u w sk a5 a6 a7 a8 s (.d (.int k)) lv c9 c12 c15) = some (.nx (sl6 A u w sk a5 a6 a7 a8 s (.d (.int k)) lv' c9' c12' c15')) ∧ Lv A w s lv' (k + 1)) ∨
    ∃ x ρ, cBody (sl6 A u w sk a5 a6 a7 a8 s (.d (.int k)) lv c9 c12 c15) = some (.rt x ρ) ∧ x = .bl true ∧ RT (SE A w) (s, 0) (s, 1) := by
  have n4 := h.n4
  by_cases hk : k < lv.length
  · obtain ⟨x, hx⟩ : ∃ x, lv[k]? = some x := ⟨_, List.getElem?_eq_getElem hk⟩
    have hxm := List.mem_of_getElem? hx
    have hxu := hL.1.u x hxm
    obtain ⟨rs, r1, r3, r2⟩ := hS x.1 hxu.1
    have hk2 : ((k : Int) < (lv.length : Int)) := by omega
    have g1 : (lv.map prD)[k]? = some (prD x) := by rw [List.getElem?_map, hx]; rfl
    have g2 : ixD (prD x) (.int 0) = some (.int x.1) := rfl
    have st : ∀ ρ, cBody (sl6 A u w sk a5 a6 a7 a8 s (.d (.int k)) lv c9 c12 c15) = ρ ↔ (match forD (gTupD 2 (gsCons (gSet 9) (gsCons (gSet 15) (gsNil)))) hBody (rs.map prD) (sl6 A u w sk a5 a6 a7 a8 s (.d (.int k)) lv c9 c12 c15) with | some (.nx ρ1) => some (.nx ρ1) | o => o) = ρ := fun ρ => by
      unfold cBody
      simp [hk2, g1, g2, r1, e_var]
      cases forD (gTupD 2 (gsCons (gSet 9) (gsCons (gSet 15) (gsNil)))) hBody (rs.map prD) (sl6 A u w sk a5 a6 a7 a8 s (.d (.int k)) lv c9 c12 c15) with
      | none => simp
      | some o => cases o <;> simp
    rcases forD_inv2 (g := gTupD 2 (gsCons (gSet 9) (gsCons (gSet 15) (gsNil)))) (f := hBody)
      (I := fun i ρ => ∃ lv' c9 c12 c15, ρ = sl6 A u w sk a5 a6 a7 a8 s (.d (.int k)) lv' c9 c12 c15 ∧ Lv A w s lv' k ∧ lv'[k]? = some x ∧ ∀ y ∈ rs.take i, (y.1, max y.2 x.2) ∈ lv') (R := fun d => d = .bl true ∧ RT (SE A w) (s, 0) (s, 1)) (rs.map prD) 0 (fun i d ρ hd hI => by
        obtain ⟨lv', c9, c12, c15, rfl, hL', hx', hm⟩ := hI
        rw [List.getElem?_map] at hd
        obtain ⟨y, hy, rfl⟩ := Option.map_eq_some_iff.mp hd
        have hyf := (r2 y).mp (List.mem_of_getElem? hy)
        have hyu := fw_lt h hyf hxu.1 (show (0 : Nat) < 2 by decide)
        have ll := lv_len h hL'
        have hb := hBody_ok (A := A) (u := u) (w := w) (sk := sk) (a5 := a5) (a6 := a6) (a7 := a7) (a8 := a8) lv' (by omega) s k x y hx' c12
        have se : SE A w x (y.1, max y.2 x.2) := ⟨y.2, hyf, rfl⟩
        have tk : rs.take (0 + i + 1) = rs.take (0 + i) ++ [y] := by
          rw [Nat.zero_add, List.take_add_one, hy]
          rfl
        refine ⟨sl6 A u w sk a5 a6 a7 a8 s (.d (.int k)) lv' (.d (.int y.1)) c12 (.d (.int y.2)), rfl, ?_⟩
        by_cases e : (y.1, max y.2 x.2) = (s, 1)
        · rw [if_pos e] at hb
          obtain ⟨z, hz, r⟩ := hL'.1.rch x (List.mem_of_getElem? hx')
          have hz : z = (s, 0) := hz
          subst hz
          exact .inr ⟨_, _, hb, rfl, e ▸ r.step se⟩
        · rw [if_neg e] at hb
          refine .inl ⟨_, hb, insP lv' (y.1, max y.2 x.2), _, _, _, rfl, ?_, ?_, fun z hz => ?_⟩
          · unfold insP
            split
            · exact hL'
            · rename_i hn
              have hk' : k < lv'.length := (List.getElem?_eq_some_iff.mp hx').1
              have ndp := nodup_insP (q := (y.1, max y.2 x.2)) hL'.1.nd
              unfold insP at ndp
              rw [if_neg hn] at ndp
              refine ⟨hL'.1.more (by omega) ndp (fun z hz => ?_) (fun z hz => ?_), fun z => ?_⟩
              · cases List.mem_singleton.mp hz
                exact ⟨hyu.1, by show max y.2 x.2 < 2; have := hyu.2; have := hxu.2; omega⟩
              · cases List.mem_singleton.mp hz
                exact ⟨x, List.mem_of_getElem? hx', se⟩
              · rcases List.mem_append.mp z with z | z
                · exact hL'.2 z
                · exact e (List.mem_singleton.mp z).symm
          · unfold insP
            split
            · exact hx'
            · rw [List.getElem?_append_left (List.getElem?_eq_some_iff.mp hx').1]
              exact hx'
          · rw [tk] at hz
            rcases List.mem_append.mp hz with hz | hz
            · exact mem_insP.mpr (.inl (hm z hz))
            · cases List.mem_singleton.mp hz
              exact mem_insP.mpr (.inr rfl)) (sl6 A u w sk a5 a6 a7 a8 s (.d (.int k)) lv c9 c12 c15) ⟨lv, c9, c12, c15, rfl, hL, hx, fun y hy => by simp at hy⟩ with ⟨ρ', k1, lv', c9', c12', c15', rfl, hL', hx', hm⟩ | ⟨x', ρ', k1, k2⟩
    · refine .inl ⟨lv', c9', c12', c15', (st _).mpr (by rw [k1]), hL'.1.next fun x2 hx2 y ⟨j, f, e⟩ => ?_, hL'.2⟩
      rw [hx'] at hx2
      cases hx2
      rw [Nat.zero_add, List.take_of_length_le (by simp)] at hm
      have := hm (y.1, j) ((r2 _).mpr f)
      obtain ⟨y1, y2⟩ := y
      have e : y2 = max j x.2 := e
      subst e
      exact this
    · exact .inr ⟨x', ρ', (st _).mpr (by rw [k1]), k2⟩
  · have hk2 : ¬ ((k : Int) < (lv.length : Int)) := by omega
    refine .inl ⟨lv, c9, c12, c15, ?_, hL.1.next fun x hx => ?_, hL.2⟩
    · unfold cBody
      simp [hk2]
    · rw [List.getElem?_eq_none (by omega)] at hx
      cases hx
theorem oBody_ok (h : A.Ok) (hS : Stp A w sk) (hs : s < A.n) (c9 c11 c12 c14 c15 : Sl) :
    (∃ c9' c11' c12' c14' c15', oBody [.d A.enc, .d u, .d (.str (K63.S w)), .d (.int A.n), .d (.tup (nD A.en)), .mK sk, .d (.int s), a7, a8, c9, a6, c11, c12, a5, c14, c15] = some (.nx [.d A.enc, .d u, .d (.str (K63.S w)), .d (.int A.n), .d (.tup (nD A.en)), .mK sk, .d (.int s), a7, a8, c9', a6, c11', c12', a5, c14', c15']) ∧ ¬ RT (SE A w) (s, 0) (s, 1)) ∨
    ∃ x ρ, oBody [.d A.enc, .d u, .d (.str (K63.S w)), .d (.int A.n), .d (.tup (nD A.en)), .mK sk, .d (.int s), a7, a8, c9, a6, c11, c12, a5, c14, c15] = some (.rt x ρ) ∧ x = .bl true ∧ RT (SE A w) (s, 0) (s, 1) := by
  have n4 := h.n4
  have n0 := h.n0
  have m2 : mulD (.int 2) (.int A.n) = some (.int (2 * A.n)) := mul_small _ _ (by omega)
  have nn : (2 * (A.n : Int) + 2) = ((2 * A.n + 2 : Nat) : Int) := by omega
  have rn : rgOk ((2 * A.n + 2 : Nat) : Int) = true := rg_ok _ (by omega)
  have rn' : rgOk (2 * (A.n : Int) + 2) = true := by
    rw [nn]
    exact rn
  have p0 : D.tup [.int s, .int 0] = prD (s, 0) := rfl
  have st : ∀ ρ, oBody [.d A.enc, .d u, .d (.str (K63.S w)), .d (.int A.n), .d (.tup (nD A.en)), .mK sk, .d (.int s), a7, a8, c9, a6, c11, c12, a5, c14, c15] = ρ ↔ (match forD (gSet 11) cBody (rngD 0 ((2 * A.n + 2 : Nat) : Int)) (sl6 A u w sk a5 a6 a7 a8 s c11 [(s, 0)] c9 c12 c15) with | some (.nx ρ1) => some (.nx ρ1) | o => o) = ρ := fun ρ => by
    rw [← nn]
    have key : oBody [.d A.enc, .d u, .d (.str (K63.S w)), .d (.int A.n), .d (.tup (nD A.en)), .mK sk, .d (.int s), a7, a8, c9, a6, c11, c12, a5, c14, c15] = (forD (gSet 11) cBody (rngD 0 (2 * (A.n : Int) + 2)) (sl6 A u w sk a5 a6 a7 a8 s c11 [(s, 0)] c9 c12 c15)).bind fun o => match o with | .nx ρ1 => some (.nx ρ1) | o => some o := by
      unfold oBody
      simp [e_var, m2, rn', p0]
      rfl
    rw [key]
    cases forD (gSet 11) cBody (rngD 0 (2 * (A.n : Int) + 2)) (sl6 A u w sk a5 a6 a7 a8 s c11 [(s, 0)] c9 c12 c15) with
    | none => simp
    | some o => cases o <;> simp
  rcases forD_inv2 (g := gSet 11) (f := cBody) (I := fun i ρ => ∃ lv c9 c11 c12 c15, ρ = sl6 A u w sk a5 a6 a7 a8 s c11 lv c9 c12 c15 ∧ Lv A w s lv i) (R := fun d => d = .bl true ∧ RT (SE A w) (s, 0) (s, 1)) (rngD 0 ((2 * A.n + 2 : Nat) : Int)) 0 (fun i d ρ hd hI => by
      obtain ⟨lv, c9, c11, c12, c15, rfl, hL⟩ := hI
      rw [rng_nat, List.getElem?_map] at hd
      obtain ⟨j, hj, rfl⟩ := Option.map_eq_some_iff.mp hd
      obtain ⟨hj1, hj2⟩ := List.getElem?_eq_some_iff.mp hj
      rw [List.getElem_range] at hj2
      subst hj2
      rw [Nat.zero_add] at hL
      refine ⟨sl6 A u w sk a5 a6 a7 a8 s (.d (.int i)) lv c9 c12 c15, rfl, ?_⟩
      rcases cBody_ok (u := u) (a5 := a5) (a6 := a6) (a7 := a7) (a8 := a8) h hS lv i hL c9 c12 c15 with ⟨lv', c9', c12', c15', k1, k2⟩ | ⟨x, ρ, k1, k2⟩
      · exact .inl ⟨_, k1, lv', c9', _, c12', c15', rfl, by rw [Nat.zero_add]; exact k2⟩
      · exact .inr ⟨x, ρ, k1, k2⟩) (sl6 A u w sk a5 a6 a7 a8 s c11 [(s, 0)] c9 c12 c15) ⟨[(s, 0)], c9, c11, c12, c15, rfl, ⟨by simp, fun x hx => by cases List.mem_singleton.mp hx; exact ⟨hs, by show 0 < 2; decide⟩, fun x hx => ⟨x, List.mem_singleton.mp hx, .refl _⟩, fun x hx => List.mem_singleton.mpr hx, fun j x hj => absurd hj (Nat.not_lt_zero _)⟩, by simp⟩ with ⟨ρ', k1, lv, c9', c11', c12', c15', rfl, hL⟩ | ⟨x, ρ', k1, k2⟩
  · refine .inl ⟨c9', c11', c12', _, c15', (st _).mpr (by rw [k1]), fun r => hL.2 ?_⟩
    have ll := lv_len h hL
    have rl : (rngD 0 ((2 * A.n + 2 : Nat) : Int)).length = 2 * A.n + 2 := by rw [rng_nat, List.length_map, List.length_range]
    exact (hL.1.done (by rw [rl]; omega) _).mpr ⟨_, rfl, r⟩
  · exact .inr ⟨x, ρ', (st _).mpr (by rw [k1]), k2⟩
end
/-- a cycle with a mark -/
theorem se_iff {A : Au} {w : List Nat} {s : Nat} : RT (SE A w) (s, 0) (s, 1) ↔ ∃ x y, RT (Pth A w) s x ∧ Mk A w x y ∧ RT (Pth A w) y s := by
  have up : ∀ {a b : Nat × Nat}, RT (SE A w) a b → RT (Pth A w) a.1 b.1 := fun r => by
    induction r with
    | refl => exact .refl _
    | step _ e ih =>
      obtain ⟨k, f, _⟩ := e
      exact ih.step (fw_pth.mp ⟨k, f⟩)
  constructor
  · have key : ∀ b, RT (SE A w) (s, 0) b → b.2 = 0 ∨ ∃ x y, RT (Pth A w) s x ∧ Mk A w x y ∧ RT (Pth A w) y b.1 := fun b r => by
      induction r with
      | refl => exact .inl rfl
      | @step b c r e ih =>
        obtain ⟨k, f, e2⟩ := e
        rcases ih with h | ⟨x, y, h1, h2, h3⟩
        · by_cases hk : c.2 = 0
          · exact .inl hk
          · have hk1 : k = 1 := by
              have : c.2 = k := by rw [e2, h]; omega
              have k2 : k < 2 := by
                have hh : ∀ {w : List Nat} {x y : Nat × Nat}, FW A w x y → x.2 < 2 → y.2 < 2 := by
                  intro w
                  induction w with
                  | nil =>
                    intro x y e hx
                    cases e
                    exact hx
                  | cons l w ih =>
                    rintro x y ⟨z, ⟨_, h2⟩, h3⟩ hx
                    refine ih h3 ?_
                    rw [h2]
                    unfold bitN
                    split <;> omega
                exact hh f (show (0 : Nat) < 2 by decide)
              omega
            subst hk1
            exact .inr ⟨b.1, c.1, up r, fw_mk.mp f, .refl _⟩
        · exact .inr ⟨x, y, h1, h2, h3.step (fw_pth.mp ⟨k, f⟩)⟩
    intro r
    rcases key _ r with h | h
    · cases h
    · exact h
  · rintro ⟨x, y, h1, h2, h3⟩
    have lift : ∀ {a b : Nat} (j : Nat), j < 2 → RT (Pth A w) a b → ∃ i, i < 2 ∧ (j = 1 → i = 1) ∧ RT (SE A w) (a, j) (b, i) := fun j hj r => by
      induction r with
      | refl => exact ⟨j, hj, id, .refl _⟩
      | step _ e ih =>
        obtain ⟨i, hi, hj1, r⟩ := ih
        obtain ⟨k, f⟩ := fw_pth.mpr e
        have hk : k < 2 := by
          have hh : ∀ {w : List Nat} {x y : Nat × Nat}, FW A w x y → x.2 < 2 → y.2 < 2 := by
            intro w
            induction w with
            | nil =>
              intro x y e hx
              cases e
              exact hx
            | cons l w ih =>
              rintro x y ⟨z, ⟨_, h2⟩, h3⟩ hx
              refine ih h3 ?_
              rw [h2]
              unfold bitN
              split <;> omega
          exact hh f (show (0 : Nat) < 2 by decide)
        exact ⟨max k i, by omega, fun z => by have := hj1 z; omega, r.step ⟨k, f, rfl⟩⟩
    obtain ⟨i, hi, _, r1⟩ := lift 0 (by decide) h1
    have r2 : RT (SE A w) (s, 0) (y, 1) := r1.step ⟨1, fw_mk.mpr h2, by show 1 = max 1 i; omega⟩
    obtain ⟨j, hj, hj1, r3⟩ := lift 1 (by decide) h3
    rw [hj1 rfl] at r3
    exact r2.trans r3
theorem law_reads_ok {A : Au} (h : A.Ok) (u w : List Nat) : ∃ r, f_law_reads_lasso [A.enc, .str (S u), .str (S w)] = some r ∧ ∃ b, r = .bl b ∧ (b = true ↔ Rd A u w) := by
  have n4 := h.n4
  have n0 := h.n0
  obtain ⟨sk, b0, b1, b2, b3, b4, b5, k1, hS⟩ := steps_loop h (.str (S u)) w
  have hb : ∀ p ∈ beh A A.st u, p < A.n := fun p hp => by
    obtain ⟨s, hs, r⟩ := (mem_beh h.st h).mp hp
    exact pth_lt h r (h.st s hs)
  have nb : (beh A A.st u).Nodup := by
    have key : ∀ (w : List Nat) (ss : List Nat), ss.Nodup → (beh A ss w).Nodup := by
      intro w
      induction w with
      | nil => exact fun ss hs => hs
      | cons l w ih => exact fun ss hs => ih _ ((setL_sorted _ _).imp fun h => Nat.ne_of_lt h)
    exact key u A.st h.stn
  obtain ⟨ρ', k2, lv, c0, c11, c12, rfl, hB⟩ := forD_inv (g := gSet 11) (f := rBody) (I := fun i ρ => ∃ lv c0 c11 c12, ρ = [.d A.enc, .d (.str (S u)), .d (.str (S w)), .d (.int A.n), .d (.tup (nD A.en)), .mK sk, c0, b1, b2, b3, b4, c11, c12, .ml (nD lv), .no, .no] ∧ Bf (Pth A w) (fun s => s ∈ beh A A.st u) (fun q => q < A.n) lv i) (rngD 0 ((A.n + 1 : Nat) : Int)) 0 (fun i d ρ hd hI => by
      obtain ⟨lv, c0, c11, c12, rfl, hB⟩ := hI
      rw [rng_nat, List.getElem?_map] at hd
      obtain ⟨j, hj, rfl⟩ := Option.map_eq_some_iff.mp hd
      obtain ⟨hj1, hj2⟩ := List.getElem?_eq_some_iff.mp hj
      rw [List.getElem_range] at hj2
      subst hj2
      rw [Nat.zero_add] at hB
      obtain ⟨lv', d1, d6, g1, g2⟩ := rBody_ok h hS (.str (S u)) lv i _ hB c0 b1 b2 b3 b4 c12
      exact ⟨_, _, rfl, g1, lv', d1, _, d6, rfl, by rw [Nat.zero_add]; exact g2⟩) [.d A.enc, .d (.str (S u)), .d (.str (S w)), .d (.int A.n), .d (.tup (nD A.en)), .mK sk, b0, b1, b2, b3, b4, b5, .no, .ml (nD (beh A A.st u)), .no, .no]
      ⟨beh A A.st u, b0, b5, .no, rfl, nb, hb, fun x hx => ⟨x, hx, .refl _⟩, fun s hs => hs, fun j x hj => absurd hj (Nat.not_lt_zero _)⟩
  have rl : (rngD 0 ((A.n + 1 : Nat) : Int)).length = A.n + 1 := by rw [rng_nat, List.length_map, List.length_range]
  have ll := len_le A.n lv hB.nd hB.u
  have hmem := fun x => hB.done (by rw [rl]; omega) x
  have k3 := forD_inv2 (g := gSet 6) (f := oBody) (I := fun i ρ => ∃ c0 c9 c11 c12 c14 c15, ρ = [.d A.enc, .d (.str (S u)), .d (.str (S w)), .d (.int A.n), .d (.tup (nD A.en)), .mK sk, c0, b1, b2, c9, b4, c11, c12, .d (.lst (nD lv)), c14, c15] ∧ ∀ s ∈ lv.take i, ¬ RT (SE A w) (s, 0) (s, 1)) (R := fun d => d = .bl true ∧ ∃ s ∈ lv, RT (SE A w) (s, 0) (s, 1)) (nD lv) 0 (fun i d ρ hd hI => by
      obtain ⟨c0, c9, c11, c12, c14, c15, rfl, hI⟩ := hI
      unfold nD at hd
      rw [List.getElem?_map] at hd
      obtain ⟨s, hs, rfl⟩ := Option.map_eq_some_iff.mp hd
      have hsm := List.mem_of_getElem? hs
      refine ⟨_, rfl, ?_⟩
      rcases oBody_ok (u := .str (S u)) (a5 := .d (.lst (nD lv))) (a6 := b4) (a7 := b1) (a8 := b2) h hS (hB.u s hsm) c9 c11 c12 c14 c15 with ⟨c9', c11', c12', c14', c15', g1, g2⟩ | ⟨x, ρ, g1, g2, g3⟩
      · refine .inl ⟨_, g1, _, c9', c11', c12', c14', c15', rfl, fun t ht => ?_⟩
        rw [Nat.zero_add, List.take_add_one, hs] at ht
        rcases List.mem_append.mp ht with ht | ht
        · rw [Nat.zero_add] at hI
          exact hI t ht
        · cases List.mem_singleton.mp ht
          exact g2
      · exact .inr ⟨x, ρ, g1, g2, s, hsm, g3⟩) [.d A.enc, .d (.str (S u)), .d (.str (S w)), .d (.int A.n), .d (.tup (nD A.en)), .mK sk, c0, b1, b2, b3, b4, c11, c12, .d (.lst (nD lv)), .no, .no] ⟨_, _, _, _, _, _, rfl, fun s hs => by simp at hs⟩
  have a0 : ixD A.enc (.int 0) = some (.int A.n) := rfl
  have a4 : ixD A.enc (.int 4) = some (.tup (nD A.en)) := rfl
  have rn : rgOk (A.n : Int) = true := rg_ok A.n (by omega)
  have rn1 : rgOk ((A.n : Int) + 1) = true := rg_ok (A.n + 1) (by omega)
  have lb := law_behind_ok h u
  have ld : listD0 (.tup (nD (beh A A.st u))) = some (nD (beh A A.st u)) := rfl
  have k2 : forD (gSet 11) rBody (rngD 0 ((A.n : Int) + 1)) [.d A.enc, .d (.str (S u)), .d (.str (S w)), .d (.int A.n), .d (.tup (nD A.en)), .mK sk, b0, b1, b2, b3, b4, b5, .no, .ml (nD (beh A A.st u)), .no, .no] = _ := k2
  have fin : (∃ s ∈ lv, RT (SE A w) (s, 0) (s, 1)) ↔ Rd A u w := by
    constructor
    · rintro ⟨s, hs, r⟩
      obtain ⟨x, y, r1, m, r2⟩ := se_iff.mp r
      obtain ⟨p0, hp0, r0⟩ := (hmem s).mp hs
      obtain ⟨s0, hs0, pth⟩ := (mem_beh h.st h).mp hp0
      exact ⟨x, y, ⟨s0, hs0, p0, pth, r0.trans r1⟩, m, r2.trans r1⟩
    · rintro ⟨p, q, ⟨s0, hs0, p0, pth, r⟩, m, r2⟩
      exact ⟨p, (hmem p).mpr ⟨p0, (mem_beh h.st h).mpr ⟨s0, hs0, pth⟩, r⟩, se_iff.mpr ⟨p, q, .refl _, m, r2⟩⟩
  unfold f_law_reads_lasso
  rw [body_eq]
  rcases k3 with ⟨ρ', k4, d0, d9, d11, d12, d14, d15, rfl, hn⟩ | ⟨x, ρ', k4, rfl, s, hs, r⟩
  · refine ⟨.bl false, ?_, false, rfl, ?_⟩
    · simp [runF, a0, a4, e_var, rn, k1, lb, ld, rn1, k2, k4]
    · rw [Nat.zero_add, List.take_of_length_le (by simp)] at hn
      rw [← fin]
      simp
      exact fun s hs r => hn s hs r
  · refine ⟨.bl true, ?_, true, rfl, ?_⟩
    · simp [runF, a0, a4, e_var, rn, k1, lb, ld, rn1, k2, k4]
    · rw [← fin]
      simp
      exact ⟨s, hs, r⟩
end K63

namespace K63
open PySem PySem.Spec L2 DL
/-! ### texts again -/
def rep (w : List Nat) : Nat → List Nat
  | 0 => []
  | k + 1 => w ++ rep w k
theorem rep_len (w : List Nat) : ∀ k, (rep w k).length = k * w.length
  | 0 => by simp [rep]
  | k + 1 => by
    rw [rep, List.length_append, rep_len w k, Nat.succ_mul, Nat.add_comm]
theorem rep_nil : ∀ k, rep [] k = []
  | 0 => rfl
  | k + 1 => by rw [rep, rep_nil k]; rfl
theorem rep_one (w : List Nat) : rep w 1 = w := by simp [rep]
theorem mul_S (w : List Nat) (k : Nat) : Txt.mul (S w) (k : Int) = S (rep w k) := by
  have fold : ∀ (k : Nat) (acc : Array Nat), (List.replicate k (S w).cps).foldl (fun x1 x2 => x1 ++ x2) acc = acc ++ (rep w k).toArray := by
    intro k
    induction k with
    | zero =>
      intro acc
      simp [rep]
    | succ k ih =>
      intro acc
      rw [List.replicate_succ, List.foldl_cons, ih, rep]
      simp [S, Array.append_assoc]
  unfold Txt.mul
  by_cases h0 : k = 0
  · subst h0
    rw [if_pos (by decide)]
    rfl
  · rw [if_neg (by omega)]
    by_cases h1 : k = 1
    · subst h1
      rw [if_pos (by rfl), rep_one]
    · by_cases h2 : w = []
      · subst h2
        rw [if_pos (by rw [S_len]; simp), rep_nil]
      · rw [if_neg, Int.toNat_natCast, fold]
        · simp [S]
        · rw [S_len]
          have e1 : ((k : Int) == 1) = false := beq_eq_false_iff_ne.mpr (by omega)
          have e2 : w.length ≠ 0 := fun z => h2 (List.length_eq_zero_iff.mp z)
          simp [e1, e2]
theorem mulS (w : List Nat) (k : Nat) (hw : w.length ≤ 100) (hk : k ≤ 10000) : mulD (.str (S w)) (.int k) = some (.str (S (rep w k))) := by
  show (if (k : Int).natAbs ≤ 10000 ∧ (S w).length ≤ 100 then some (D.str (Txt.mul (S w) k)) else none) = _
  rw [if_pos ⟨by omega, by rw [S_len]; exact hw⟩, mul_S]
theorem cut_to (w : List Nat) (k : Nat) : cutS (S w) none (some (k : Int)) = S (w.take k) := by
  unfold cutS
  rw [S_len, HT.sIx_nat, HT.sIx_none, S_cps]
  show S _ = _
  congr 1
  rw [List.drop_zero, Nat.sub_zero]
  by_cases h : k ≤ w.length
  · rw [Nat.min_eq_left h]
  · rw [Nat.min_eq_right (show w.length ≤ k by omega), List.take_length, List.take_of_length_le (by omega)]
theorem cut_last (w : List Nat) : cutS (S w) none (some (-1)) = S w.dropLast := by
  unfold cutS
  rw [S_len, HT.sIx_none, S_cps]
  have e : HT.sIx w.length w.length (some (-1)) = w.length - 1 := by
    show (if (-1 : Int) < 0 then ((-1 : Int) + (w.length : Nat)).toNat else min (-1 : Int).toNat w.length) = _
    rw [if_pos (by decide)]
    omega
  rw [e]
  show S _ = _
  congr 1
  rw [List.drop_zero, Nat.sub_zero, List.dropLast_eq_take]
theorem cut_mid (w : List Nat) (a b : Nat) : cutS (S w) (some (a : Int)) (some (b : Int)) = S ((w.drop a).take (b - a)) := by
  unfold cutS
  rw [S_len, HT.sIx_nat, HT.sIx_nat, S_cps]
  show S _ = _
  congr 1
  by_cases h : a ≤ w.length
  · rw [Nat.min_eq_left h]
    by_cases h2 : b ≤ w.length
    · rw [Nat.min_eq_left h2]
    · rw [Nat.min_eq_right (show w.length ≤ b by omega), List.take_of_length_le (by rw [List.length_drop]; exact Nat.le_refl _), List.take_of_length_le (by rw [List.length_drop]; omega)]
  · rw [Nat.min_eq_right (show w.length ≤ a by omega), List.drop_of_length_le (by omega : w.length ≤ a), List.drop_length]
    simp
theorem addS (a b : List Nat) (h : a.length + b.length ≤ 1000000) : addD (.str (S a)) (.str (S b)) = some (.str (S (a ++ b))) := by
  show (if (S a).length + (S b).length ≤ 1000000 then some (D.str (S a ++ S b)) else none) = _
  rw [if_pos (by rw [S_len, S_len]; exact h), S_app]
theorem ixLast (w : List Nat) (h : w.length ≤ 1000) : ixD (.str (S w)) (.int (-1)) = w.getLast?.map fun c => D.str (S [c]) := by
  show (if (S w).length ≤ 1000000 then (atI (S w).cps.toList (-1)).map (fun c => D.str ⟨#[c]⟩) else none) = _
  rw [if_pos (by rw [S_len]; omega), S_cps, atI_last, ← List.getLast?_eq_getElem?]
  rfl
/-! ### the least lasso -/
def okP (v : List Nat) (s : Nat) : Bool := v.length % s == 0 && rep (v.take s) (v.length / s) == v
def prim (v : List Nat) : List Nat := match (List.range' 1 v.length).find? (okP v) with
  | some s => v.take s
  | none => v
def roll : Nat → List Nat → List Nat → List Nat × List Nat
  | 0, u, v => (u, v)
  | n + 1, u, v => match u.getLast?, v.getLast? with
    | some x, some y => if x = y then roll n u.dropLast (y :: v.dropLast) else (u, v)
    | _, _ => (u, v)
def leastL (u v : List Nat) : List Nat × List Nat := roll u.length u (prim v)
theorem least_ok (u v : List Nat) (hu : u.length ≤ 50) (hv : v.length ≤ 50) (h0 : v ≠ []) : f_least_lasso [.str (S u), .str (S v)] = some (.tup [.str (S (leastL u v).1), .str (S (leastL u v).2)]) := by
  have lv : lenD (.str (S v)) = some (.int v.length) := lenS v (by omega)
  have first : ∀ (ss : List Nat) (x : Sl), (∀ s ∈ ss, 0 < s ∧ s ≤ 50) → ∃ y, forD (gSet 2) (fSeq (fIfS (fAndT (fTest (fBin eqD (fBin modD (fApp lenD (fLook 1)) (fLook 2)) (fC (.int (0))))) (fTest (fBin eqD (fBin mulD (fSlS (fVar 1) (fOno) (fOso (fVar 2))) (fBin fdivD (fApp lenD (fLook 1)) (fLook 2))) (fLook 1)))) (fSeq (fAsg (fSlS (fVar 1) (fOno) (fOso (fVar 2))) (gSet 1)) (fSeq (fun ρ => some (.bk ρ)) (fNx))) (fNx)) (fNx)) (nD ss) [.d (.str (S u)), .d (.str (S v)), x] =
      some (.nx [.d (.str (S u)), .d (.str (S (match ss.find? (okP v) with | some s => v.take s | none => v))), y]) := by
    intro ss
    induction ss with
    | nil =>
      intro x _
      exact ⟨x, rfl⟩
    | cons s ss ih =>
      intro x hs
      obtain ⟨h1, h2⟩ := hs s List.mem_cons_self
      have dl : v.length / s ≤ 10000 := Nat.le_trans (Nat.div_le_self _ _) (by omega)
      have tl : (v.take s).length ≤ 100 := by
        rw [List.length_take]
        omega
      have vl : (S v).length ≤ 1000000 := by
        rw [S_len]
        omega
      obtain ⟨R, md, z⟩ : ∃ R : Int, modD (.int v.length) (.int s) = some (.int R) ∧ (R == 0) = (v.length % s == 0) := by
        refine ⟨_, mod_ok _ _ (by omega), ?_⟩
        by_cases e : v.length % s = 0
        · rw [beq_iff_eq.mpr e, beq_iff_eq.mpr (by omega)]
        · rw [beq_eq_false_iff_ne.mpr e, beq_eq_false_iff_ne.mpr (by omega)]
      obtain ⟨Q, fd, ml⟩ : ∃ Q : Int, fdivD (.int v.length) (.int s) = some (.int Q) ∧ mulD (.str (S (v.take s))) (.int Q) = some (.str (S (rep (v.take s) (v.length / s)))) := by
        refine ⟨_, fdiv_ok _ _ (by omega), ?_⟩
        exact mulS (v.take s) (v.length / s) tl dl
      by_cases e1 : v.length % s = 0
      · by_cases e2 : rep (v.take s) (v.length / s) = v
        · have ok : okP v s = true := by simp [okP, e1, e2]
          refine ⟨.d (.int s), ?_⟩
          rw [e2] at ml
          simp [forD, lv, md, z, e1, fd, e_var, vl, cut_to, ml, List.find?_cons, ok]
        · have ok : okP v s = false := by simp [okP, e2]
          obtain ⟨y, hy⟩ := ih (.d (.int s)) fun t ht => hs t (List.mem_cons_of_mem _ ht)
          refine ⟨y, ?_⟩
          have e3 : (S (rep (v.take s) (v.length / s)) == S v) = false := by
            rw [S_eq]
            exact beq_eq_false_iff_ne.mpr e2
          simp [forD, lv, md, z, e1, fd, e_var, vl, cut_to, ml, List.find?_cons, ok, e3, hy]
      · have ok : okP v s = false := by simp [okP, e1]
        obtain ⟨y, hy⟩ := ih (.d (.int s)) fun t ht => hs t (List.mem_cons_of_mem _ ht)
        refine ⟨y, ?_⟩
        have e4 : (v.length % s == 0) = false := beq_eq_false_iff_ne.mpr e1
        simp [forD, lv, md, z, e4, List.find?_cons, ok, hy]
  have rng : rngD 1 ((v.length : Int) + 1) = nD (List.range' 1 v.length) := by
    unfold rngD nD
    rw [List.range'_eq_map_range, List.map_map]
    rw [show ((v.length : Int) + 1 - 1).toNat = v.length by omega]
    refine List.map_congr_left fun i _ => ?_
    show D.int (1 + (i : Int)) = .int ((1 + i : Nat) : Int)
    congr 1
  obtain ⟨y, h1⟩ := first (List.range' 1 v.length) .no (fun s hs => by
    obtain ⟨i, hi, rfl⟩ := List.mem_range'.mp hs
    omega)
  have hp : (prim v).length ≤ 50 ∧ prim v ≠ [] := by
    unfold prim
    split
    · rename_i s hs
      have h2 := List.mem_of_find?_eq_some hs
      obtain ⟨i, hi, rfl⟩ := List.mem_range'.mp h2
      refine ⟨by rw [List.length_take]; omega, fun z => ?_⟩
      have this : (v.take (1 + 1 * i)).length = 0 := by
        rw [z]
        rfl
      rw [List.length_take] at this
      omega
    · exact ⟨hv, h0⟩
  have loop : ∀ (n fuel : Nat) (u v : List Nat) (y : Sl), n < fuel → u.length = n → u.length ≤ 50 → v.length ≤ 50 → v ≠ [] → whileD (fAndT (fTest (fBinN neD 0 (fC (.str "")))) (fTest (fBin eqD (fBinN ixD 0 (fC (.int (-1)))) (fBinN ixD 1 (fC (.int (-1))))))) (fSeq (fPar 0 1 (nE (fSlS (fVar 0) (fOno) (fOso (fC (.int (-1)))))) (nE (fBin addD (fBinN ixD 1 (fC (.int (-1)))) (fSlS (fVar 1) (fOno) (fOso (fC (.int (-1)))))))) (fNx)) fuel [.d (.str (S u)), .d (.str (S v)), y] =
      some (.nx [.d (.str (S (roll n u v).1)), .d (.str (S (roll n u v).2)), y]) := by
    intro n
    induction n with
    | zero =>
      intro fuel u v y hf hn _ _ _
      obtain ⟨fuel, rfl⟩ : ∃ f, fuel = f + 1 := ⟨fuel - 1, by omega⟩
      have : u = [] := List.length_eq_zero_iff.mp hn
      subst this
      have e : (S [] == ("" : Str)) = true := by
        rw [S_e, S_eq]
        rfl
      simp [whileD, roll, e]
    | succ n ih =>
      intro fuel u v y hf hn hul hvl hv0
      obtain ⟨fuel, rfl⟩ : ∃ f, fuel = f + 1 := ⟨fuel - 1, by omega⟩
      have hu0 : u ≠ [] := fun z => by
        rw [z] at hn
        cases hn
      have e : (S u == ("" : Str)) = false := by
        rw [S_e, S_eq]
        exact beq_eq_false_iff_ne.mpr hu0
      obtain ⟨x, hx⟩ : ∃ x, u.getLast? = some x := ⟨_, List.getLast?_eq_some_getLast hu0⟩
      obtain ⟨z, hz⟩ : ∃ x, v.getLast? = some x := ⟨_, List.getLast?_eq_some_getLast hv0⟩
      have lx := ixLast u (by omega)
      have lz := ixLast v (by omega)
      rw [hx] at lx
      rw [hz] at lz
      have q : (S [x] == S [z]) = (x == z) := by
        rw [S_eq]
        simp
      have ul : (S u).length ≤ 1000000 := by
        rw [S_len]
        omega
      have vl : (S v).length ≤ 1000000 := by
        rw [S_len]
        omega
      rw [roll, hx, hz]
      by_cases h : x = z
      · subst h
        dsimp only
        rw [if_pos rfl]
        have := ih fuel u.dropLast (x :: v.dropLast) y (by omega) (by rw [List.length_dropLast]; omega) (by rw [List.length_dropLast]; omega) (by rw [List.length_cons, List.length_dropLast]; have : v.length ≠ 0 := fun z => hv0 (List.length_eq_zero_iff.mp z); omega) (by simp)
        rw [← this]
        have ad := addS [x] v.dropLast (by rw [List.length_dropLast]; simp; omega)
        have ad : addD (.str (S [x])) (.str (S v.dropLast)) = some (.str (S (x :: v.dropLast))) := ad
        rw [whileD]
        simp [e, lx, lz, q, e_var, ul, vl, cut_last, ad]
      · dsimp only
        rw [if_neg h]
        have q2 : (x == z) = false := beq_eq_false_iff_ne.mpr h
        rw [whileD]
        simp [e, lx, lz, q, q2]
  have h2 := loop u.length 3000 u (prim v) y (by omega) rfl hu hp.1 hp.2
  have rg : rgOk 1 = true := rfl
  have rg2 : rgOk ((v.length : Int) + 1) = true := rg_ok (v.length + 1) (by omega)
  unfold f_least_lasso b_least_lasso
  unfold prim at h2
  simp [runF, lv, rg, rg2, rng, h1, h2, e_var]
  exact ⟨rfl, rfl⟩
end K63

namespace K63
open PySem PySem.Spec L2 DL
/-! ### infinite words -/
def W (u v : List Nat) (i : Nat) : Nat := if i < u.length then u.getD i 0 else v.getD ((i - u.length) % v.length) 0
def Pd (f : Nat → Nat) (p N : Nat) : Prop := ∀ i, N ≤ i → f (i + p) = f i
theorem Pd.mul {f : Nat → Nat} {p N : Nat} (h : Pd f p N) : ∀ k, Pd f (k * p) N
  | 0 => fun i _ => by rw [Nat.zero_mul, Nat.add_zero]
  | k + 1 => fun i hi => by
    rw [Nat.succ_mul, ← Nat.add_assoc, h (i + k * p) (by omega), Pd.mul h k i hi]
theorem Pd.sub {f : Nat → Nat} {p q N : Nat} (h : Pd f p N) (k : Pd f q N) (l : p ≤ q) : Pd f (q - p) N := fun i hi => by
  have := h (i + (q - p)) (by omega)
  rw [← this, show i + (q - p) + p = i + q by omega, k i hi]
theorem Pd.gcd {f : Nat → Nat} {N : Nat} (p q : Nat) : Pd f p N → Pd f q N → Pd f (Nat.gcd p q) N := by
  refine Nat.gcd.induction (P := fun p q => Pd f p N → Pd f q N → Pd f (Nat.gcd p q) N) p q (fun n _ h => by rw [Nat.gcd_zero_left]; exact h) fun m n hm ih h k => ?_
  rw [Nat.gcd_rec]
  refine ih ?_ h
  have e : n % m = n - (n / m) * m := by
    have := Nat.div_add_mod n m
    rw [Nat.mul_comm] at this
    omega
  rw [e]
  exact (h.mul _).sub k (Nat.div_mul_le_self n m)
theorem W_per {u v : List Nat} : Pd (W u v) v.length u.length := fun i hi => by
  unfold W
  rw [if_neg (by omega), if_neg (by omega), show i + v.length - u.length = i - u.length + v.length by omega, Nat.add_mod_right]
theorem getD_app (a b : List Nat) (i : Nat) : (a ++ b).getD i 0 = if i < a.length then a.getD i 0 else b.getD (i - a.length) 0 := by
  rw [List.getD_eq_getElem?_getD, List.getD_eq_getElem?_getD, List.getD_eq_getElem?_getD]
  split
  · rename_i h
    rw [List.getElem?_append_left h]
  · rename_i h
    rw [List.getElem?_append_right (by omega)]
theorem getD_rep (w : List Nat) : ∀ (k i : Nat), i < k * w.length → (rep w k).getD i 0 = w.getD (i % w.length) 0
  | 0, i, h => by
    rw [Nat.zero_mul] at h
    exact absurd h (Nat.not_lt_zero _)
  | k + 1, i, h => by
    rw [rep, getD_app]
    split
    · rename_i hi
      rw [Nat.mod_eq_of_lt hi]
    · rename_i hi
      rw [Nat.succ_mul] at h
      rw [getD_rep w k (i - w.length) (by omega)]
      congr 1
      exact (Nat.mod_eq_sub_mod (by omega)).symm
theorem W_rep {u w : List Nat} {k : Nat} (hk : 0 < k) (hw : w ≠ []) : W u (rep w k) = W u w := by
  funext i
  unfold W
  split
  · rfl
  · have l : 0 < w.length := List.length_pos_iff.mpr hw
    have l2 : 0 < k * w.length := Nat.mul_pos hk l
    rw [rep_len, getD_rep w k _ (Nat.mod_lt _ l2), Nat.mod_mod_of_dvd _ (Nat.dvd_mul_left _ _)]
theorem W_roll (u v : List Nat) (x : Nat) : W (u ++ [x]) (v ++ [x]) = W u (x :: v) := by
  funext i
  unfold W
  simp only [List.length_append, List.length_cons, List.length_nil, Nat.zero_add]
  by_cases h1 : i < u.length
  · rw [if_pos (by omega), if_pos h1, getD_app, if_pos h1]
  · rw [if_neg h1]
    by_cases h2 : i = u.length
    · subst h2
      rw [if_pos (by omega), getD_app, if_neg (by omega), Nat.sub_self, Nat.zero_mod]
      rfl
    · rw [if_neg (by omega), getD_app]
      obtain ⟨j, rfl⟩ : ∃ j, i = u.length + 1 + j := ⟨i - u.length - 1, by omega⟩
      rw [show u.length + 1 + j - (u.length + 1) = j by omega, show u.length + 1 + j - u.length = j + 1 by omega]
      have l : j % (v.length + 1) < v.length + 1 := Nat.mod_lt _ (Nat.succ_pos _)
      by_cases e : j % (v.length + 1) = v.length
      · rw [if_neg (by omega), e, Nat.sub_self]
        have : (j + 1) % (v.length + 1) = 0 := by
          rw [Nat.add_mod, e]
          by_cases z : v.length = 0
          · rw [z]
          · rw [Nat.mod_eq_of_lt (show 1 < v.length + 1 by omega), Nat.mod_self]
        rw [this]
        rfl
      · rw [if_pos (by omega)]
        have : (j + 1) % (v.length + 1) = j % (v.length + 1) + 1 := by
          rw [Nat.add_mod]
          by_cases z : v.length = 0
          · rw [z] at l e
            omega
          · rw [Nat.mod_eq_of_lt (show 1 < v.length + 1 by omega), Nat.mod_eq_of_lt (by omega)]
        rw [this]
        rfl
/-- what the least lasso is -/
structure Cn (f : Nat → Nat) (u v : List Nat) : Prop where
  ne : v ≠ []
  w : W u v = f
  least : ∀ p N, 0 < p → Pd f p N → v.length ≤ p
  last : ∀ x, u.getLast? = some x → v.getLast? ≠ some x
theorem getLast_at (v : List Nat) (h : v ≠ []) : v.getLast? = some (v.getD (v.length - 1) 0) := by
  rw [List.getLast?_eq_getElem?, List.getD_eq_getElem?_getD]
  have : v.length - 1 < v.length := by
    have := List.length_pos_iff.mpr h
    omega
  rw [List.getElem?_eq_getElem this]
  rfl
theorem W_u {u v : List Nat} {i : Nat} (h : i < u.length) : W u v i = u.getD i 0 := if_pos h
theorem W_v {u v : List Nat} {i : Nat} (h : i < v.length) : W u v (u.length + i) = v.getD i 0 := by
  unfold W
  rw [if_neg (by omega), show u.length + i - u.length = i by omega, Nat.mod_eq_of_lt h]
theorem Cn.le {f : Nat → Nat} {u v u2 v2 : List Nat} (h : Cn f u v) (k : Cn f u2 v2) (e : v.length = v2.length) : u2.length ≤ u.length := by
  apply Classical.byContradiction
  intro n
  have n : u.length < u2.length := by omega
  have hv2 := List.length_pos_iff.mpr k.ne
  have hu2 : u2 ≠ [] := List.length_pos_iff.mp (by omega)
  have p1 : Pd f v.length u.length := by
    rw [← h.w]
    exact W_per
  have p2 := p1 (u2.length - 1) (by omega)
  rw [e, ← k.w, W_u (show u2.length - 1 < u2.length by omega), show u2.length - 1 + v2.length = u2.length + (v2.length - 1) by omega, W_v (by omega)] at p2
  refine k.last _ (getLast_at u2 hu2) ?_
  rw [getLast_at v2 k.ne, p2]
theorem Cn.uniq {f : Nat → Nat} {u v u2 v2 : List Nat} (h : Cn f u v) (k : Cn f u2 v2) : u = u2 ∧ v = v2 := by
  have hv := List.length_pos_iff.mpr h.ne
  have kv := List.length_pos_iff.mpr k.ne
  have e1 : v.length = v2.length := by
    have a := h.least v2.length u2.length kv (by rw [← k.w]; exact W_per)
    have b := k.least v.length u.length hv (by rw [← h.w]; exact W_per)
    omega
  have e2 : u.length = u2.length := by
    have a := h.le k e1
    have b := k.le h e1.symm
    omega
  have ew : ∀ i, W u v i = W u2 v2 i := fun i => by rw [h.w, k.w]
  constructor
  · refine List.ext_getElem e2 fun i h1 h2 => ?_
    have := ew i
    rw [W_u h1, W_u h2, List.getD_eq_getElem?_getD, List.getD_eq_getElem?_getD, List.getElem?_eq_getElem h1, List.getElem?_eq_getElem h2] at this
    exact this
  · refine List.ext_getElem e1 fun i h1 h2 => ?_
    have := ew (u.length + i)
    rw [W_v h1, e2, W_v h2, List.getD_eq_getElem?_getD, List.getD_eq_getElem?_getD, List.getElem?_eq_getElem h1, List.getElem?_eq_getElem h2] at this
    exact this
/-- the first size -/
theorem find_first {n : Nat} {p : Nat → Bool} {s : Nat} (h : (List.range' 1 n).find? p = some s) : p s = true ∧ 0 < s ∧ s ≤ n ∧ ∀ t, 0 < t → t < s → p t = false := by
  obtain ⟨h1, as, bs, h2, h3⟩ := List.find?_eq_some_iff_append.mp h
  have hm : s ∈ List.range' 1 n := by
    rw [h2]
    simp
  obtain ⟨i, hi, rfl⟩ := List.mem_range'.mp hm
  refine ⟨h1, by omega, by omega, fun t t0 ts => ?_⟩
  have ht : t ∈ List.range' 1 n := List.mem_range'.mpr ⟨t - 1, by omega, by omega⟩
  have pw := List.pairwise_lt_range' (s := 1) (n := n)
  rw [h2] at ht pw
  rcases List.mem_append.mp ht with z | z
  · simpa using h3 t z
  · exfalso
    have pw2 := (List.pairwise_append.mp pw).2.1
    rcases List.mem_cons.mp z with z | z
    · omega
    · have := (List.pairwise_cons.mp pw2).1 t z
      omega
theorem prim_ok {v : List Nat} (h0 : v ≠ []) : prim v ≠ [] ∧ (∃ k, 0 < k ∧ rep (prim v) k = v) ∧ ∀ u p N, 0 < p → Pd (W u v) p N → (prim v).length ≤ p := by
  have lv := List.length_pos_iff.mpr h0
  have full : okP v v.length = true := by
    unfold okP
    rw [Nat.mod_self, Nat.div_self lv, List.take_length, rep_one]
    simp
  cases hf : (List.range' 1 v.length).find? (okP v) with
  | none =>
    have := List.find?_eq_none.mp hf v.length (List.mem_range'.mpr ⟨v.length - 1, by omega, by omega⟩)
    exact absurd full this
  | some s =>
    obtain ⟨h1, h2, h3, h4⟩ := find_first hf
    have pe : prim v = v.take s := by
      unfold prim
      rw [hf]
    have pl : (v.take s).length = s := by
      rw [List.length_take]
      omega
    unfold okP at h1
    rw [Bool.and_eq_true] at h1
    have h5 : v.length % s = 0 := beq_iff_eq.mp h1.1
    have h6 : rep (v.take s) (v.length / s) = v := beq_iff_eq.mp h1.2
    rw [pe]
    have ne : v.take s ≠ [] := List.length_pos_iff.mp (by omega)
    have kp : 0 < v.length / s := Nat.div_pos h3 h2
    refine ⟨ne, ⟨_, kp, h6⟩, fun u p N hp hP => ?_⟩
    rw [pl]
    apply Classical.byContradiction
    intro n
    have n : p < s := by omega
    have per : Pd (W u v) s u.length := by
      have : W u v = W u (v.take s) := by
        conv => lhs; rw [← h6]
        exact W_rep kp ne
      rw [this]
      have := W_per (u := u) (v := v.take s)
      rwa [pl] at this
    have gp : 0 < Nat.gcd p s := Nat.gcd_pos_of_pos_left _ hp
    have gle : Nat.gcd p s ≤ p := Nat.gcd_le_left _ hp
    have pg0 : Pd (W u v) (Nat.gcd p s) (max N u.length) := Pd.gcd p s (fun i hi => hP i (by omega)) (fun i hi => per i (by omega))
    have pg : Pd (W u v) (Nat.gcd p s) u.length := fun i hi => by
      have m := per.mul (max N u.length)
      have l : max N u.length ≤ max N u.length * s := Nat.le_mul_of_pos_right _ h2
      rw [← m (i + Nat.gcd p s) (by omega), ← m i hi, show i + Nat.gcd p s + max N u.length * s = i + max N u.length * s + Nat.gcd p s by omega]
      exact pg0 _ (by omega)
    have gd : Nat.gcd p s ∣ v.length := Nat.dvd_trans (Nat.gcd_dvd_right p s) (Nat.dvd_of_mod_eq_zero h5)
    have bad : okP v (Nat.gcd p s) = true := by
      unfold okP
      rw [Bool.and_eq_true]
      refine ⟨beq_iff_eq.mpr (Nat.mod_eq_zero_of_dvd gd), beq_iff_eq.mpr ?_⟩
      have tl : (v.take (Nat.gcd p s)).length = Nat.gcd p s := by
        rw [List.length_take]
        omega
      have rl : (rep (v.take (Nat.gcd p s)) (v.length / Nat.gcd p s)).length = v.length := by
        rw [rep_len, tl, Nat.div_mul_cancel gd]
      refine List.ext_getElem rl fun i i1 i2 => ?_
      have a1 := getD_rep (v.take (Nat.gcd p s)) (v.length / Nat.gcd p s) i (by rw [tl, Nat.div_mul_cancel gd]; exact i2)
      rw [tl] at a1
      have mlt : i % Nat.gcd p s < Nat.gcd p s := Nat.mod_lt _ gp
      have a2 : (v.take (Nat.gcd p s)).getD (i % Nat.gcd p s) 0 = v.getD (i % Nat.gcd p s) 0 := by
        rw [List.getD_eq_getElem?_getD, List.getD_eq_getElem?_getD, List.getElem?_take_of_lt mlt]
      have a3 : W u v (u.length + i) = W u v (u.length + i % Nat.gcd p s) := by
        have := pg.mul (i / Nat.gcd p s) (u.length + i % Nat.gcd p s) (by omega)
        rw [← this]
        congr 1
        have := Nat.div_add_mod i (Nat.gcd p s)
        rw [Nat.mul_comm] at this
        omega
      rw [W_v i2, W_v (show i % Nat.gcd p s < v.length by omega)] at a3
      rw [a2, ← a3, List.getD_eq_getElem?_getD, List.getD_eq_getElem?_getD, List.getElem?_eq_getElem i1, List.getElem?_eq_getElem i2] at a1
      exact a1
    rw [h4 _ gp (by omega)] at bad
    cases bad
theorem roll_ok : ∀ (n : Nat) (u v : List Nat), u.length = n → v ≠ [] → (roll n u v).2 ≠ [] ∧ W (roll n u v).1 (roll n u v).2 = W u v ∧ (roll n u v).2.length = v.length ∧ ∀ x, (roll n u v).1.getLast? = some x → (roll n u v).2.getLast? ≠ some x
  | 0, u, v, hn, h0 => by
    have : u = [] := List.length_eq_zero_iff.mp hn
    subst this
    exact ⟨h0, rfl, rfl, fun x hx => by cases hx⟩
  | n + 1, u, v, hn, h0 => by
    have hu0 : u ≠ [] := fun z => by
      rw [z] at hn
      cases hn
    rw [roll, List.getLast?_eq_some_getLast hu0, List.getLast?_eq_some_getLast h0]
    dsimp only
    split
    · rename_i e
      obtain ⟨h1, h2, h3, h4⟩ := roll_ok n u.dropLast (v.getLast h0 :: v.dropLast) (by rw [List.length_dropLast]; omega) (by simp)
      refine ⟨h1, ?_, ?_, h4⟩
      · rw [h2, ← W_roll]
        have a := List.dropLast_concat_getLast hu0
        have b := List.dropLast_concat_getLast h0
        rw [e] at a
        rw [a, b]
      · rw [h3, List.length_cons, List.length_dropLast]
        have := List.length_pos_iff.mpr h0
        omega
    · rename_i e
      refine ⟨h0, rfl, rfl, fun x hx z => ?_⟩
      rw [List.getLast?_eq_some_getLast hu0] at hx
      rw [List.getLast?_eq_some_getLast h0] at z
      cases hx
      exact e (Option.some.inj z).symm
theorem least_cn {u v : List Nat} (h0 : v ≠ []) : Cn (W u v) (leastL u v).1 (leastL u v).2 := by
  obtain ⟨p1, ⟨k, hk, p2⟩, p3⟩ := prim_ok h0
  obtain ⟨r1, r2, r3, r4⟩ := roll_ok u.length u (prim v) rfl p1
  refine ⟨r1, ?_, fun p N hp hP => ?_, r4⟩
  · show W (roll _ _ _).1 (roll _ _ _).2 = _
    rw [r2, ← W_rep hk p1, p2]
  · show (roll _ _ _).2.length ≤ p
    rw [r3]
    exact p3 u p N hp hP
theorem least_iff {u v u2 v2 : List Nat} (h : v ≠ []) (k : v2 ≠ []) : leastL u v = leastL u2 v2 ↔ W u v = W u2 v2 := by
  constructor
  · intro e
    rw [← (least_cn (u := u) h).w, ← (least_cn (u := u2) k).w, e]
  · intro e
    have a := least_cn (u := u) h
    rw [e] at a
    obtain ⟨e1, e2⟩ := a.uniq (least_cn (u := u2) k)
    exact Prod.ext e1 e2
end K63

namespace K63
open PySem PySem.Spec L2 DL
/-! ### what is read hangs on the infinite word alone -/
theorem rep_add (w : List Nat) (a b : Nat) : rep w (a + b) = rep w a ++ rep w b := by
  induction a with
  | zero => rw [Nat.zero_add]; rfl
  | succ a ih => rw [Nat.succ_add, rep, rep, ih, List.append_assoc]
theorem rep_mul (w : List Nat) (a : Nat) : ∀ b, rep (rep w a) b = rep w (a * b)
  | 0 => rfl
  | b + 1 => by rw [rep, rep_mul w a b, Nat.mul_succ, Nat.add_comm, rep_add]
theorem rep_swap (v : List Nat) (x : List Nat) : ∀ m, x ++ rep (v ++ x) m = rep (x ++ v) m ++ x
  | 0 => by simp [rep]
  | m + 1 => by
    rw [rep, rep, List.append_assoc, List.append_assoc, rep_swap v x m, ← List.append_assoc, ← List.append_assoc]
def Rq (A : Au) (u v : List Nat) : Prop := ∃ s0 ∈ A.st, ∃ p m n, 0 < n ∧ Pth A (u ++ rep v m) s0 p ∧ Mk A (rep v n) p p
theorem rt_rep {A : Au} {v : List Nat} {a b : Nat} : RT (Pth A v) a b ↔ ∃ m, Pth A (rep v m) a b := by
  constructor
  · intro r
    induction r with
    | refl => exact ⟨0, rfl⟩
    | step _ e ih =>
      obtain ⟨m, h⟩ := ih
      exact ⟨m + 1, by rw [rep_add, rep_one]; exact pth_app.mpr ⟨_, h, e⟩⟩
  · rintro ⟨m, h⟩
    have key : ∀ (m : Nat) (a : Nat), Pth A (rep v m) a b → RT (Pth A v) a b := by
      intro m
      induction m with
      | zero =>
        intro a h
        cases h
        exact .refl _
      | succ m ih =>
        intro a h
        obtain ⟨c, h1, h2⟩ := pth_app.mp h
        exact (RT.one h1).trans (ih c h2)
    exact key m a h
theorem mk_rep {A : Au} {v : List Nat} {b : Nat} : ∀ (n : Nat) (a : Nat), Mk A (rep v n) a b → ∃ x y, RT (Pth A v) a x ∧ Mk A v x y ∧ RT (Pth A v) y b
  | 0, a, h => h.elim
  | n + 1, a, h => by
    obtain ⟨c, ⟨h1, h2⟩ | ⟨h1, h2⟩⟩ := mk_app.mp h
    · exact ⟨a, c, .refl _, h1, rt_rep.mpr ⟨n, h2⟩⟩
    · obtain ⟨x, y, r1, m, r2⟩ := mk_rep n c h2
      exact ⟨x, y, (RT.one h1).trans r1, m, r2⟩
theorem rd_rq {A : Au} {u v : List Nat} : Rd A u v ↔ Rq A u v := by
  constructor
  · rintro ⟨p, q, ⟨s0, hs0, p0, pth, r⟩, m, r2⟩
    obtain ⟨a, ha⟩ := rt_rep.mp r
    obtain ⟨b, hb⟩ := rt_rep.mp r2
    exact ⟨s0, hs0, p, a, b + 1, Nat.succ_pos _, pth_app.mpr ⟨p0, pth, ha⟩, mk_app.mpr ⟨q, .inl ⟨m, hb⟩⟩⟩
  · rintro ⟨s0, hs0, p, m, n, hn, pth, mk⟩
    obtain ⟨p0, h1, h2⟩ := pth_app.mp pth
    obtain ⟨x, y, r1, mk2, r2⟩ := mk_rep n p mk
    exact ⟨x, y, ⟨s0, hs0, p0, h1, (rt_rep.mpr ⟨m, h2⟩).trans r1⟩, mk2, r2.trans r1⟩
/-- a cycle, several times -/
theorem mk_times {A : Au} {v : List Nat} {p n : Nat} (h : Mk A (rep v n) p p) : ∀ k, 0 < k → Mk A (rep v (n * k)) p p
  | 1, _ => by rw [Nat.mul_one]; exact h
  | k + 2, _ => by
    rw [show n * (k + 2) = n * (k + 1) + n by rw [Nat.mul_succ], rep_add]
    exact mk_app.mpr ⟨p, .inl ⟨mk_times h (k + 1) (Nat.succ_pos _), mk_pth h⟩⟩
theorem rq_rep {A : Au} {u w : List Nat} {k : Nat} (hk : 0 < k) : Rq A u (rep w k) ↔ Rq A u w := by
  constructor
  · rintro ⟨s0, hs0, p, m, n, hn, pth, mk⟩
    rw [rep_mul] at pth mk
    exact ⟨s0, hs0, p, k * m, k * n, Nat.mul_pos hk hn, pth, mk⟩
  · rintro ⟨s0, hs0, p, m, n, hn, pth, mk⟩
    -- some rounds more, so that their number is right
    obtain ⟨t, ht⟩ : ∃ t, t = m * (k - 1) := ⟨_, rfl⟩
    have big : Mk A (rep w (n * (t + 1))) p p := mk_times mk (t + 1) (Nat.succ_pos _)
    have le : t ≤ n * (t + 1) := Nat.le_trans (Nat.le_succ t) (Nat.le_mul_of_pos_left _ hn)
    obtain ⟨r, hr⟩ : ∃ r, n * (t + 1) = t + r := ⟨n * (t + 1) - t, by omega⟩
    rw [hr, rep_add] at big
    obtain ⟨x, hx⟩ := mk_app.mp big
    have h1 : Pth A (rep w t) p x ∧ Pth A (rep w r) x p := by
      rcases hx with ⟨a, b⟩ | ⟨a, b⟩
      · exact ⟨mk_pth a, b⟩
      · exact ⟨a, mk_pth b⟩
    have loop : Mk A (rep w (r + t)) x x := by
      rw [rep_add]
      rcases hx with ⟨a, b⟩ | ⟨a, b⟩
      · exact mk_app.mpr ⟨p, .inr ⟨b, a⟩⟩
      · exact mk_app.mpr ⟨p, .inl ⟨b, a⟩⟩
    have pos : 0 < r + t := by
      have : 0 < n * (t + 1) := Nat.mul_pos hn (Nat.succ_pos _)
      omega
    refine ⟨s0, hs0, x, m, r + t, pos, ?_, ?_⟩
    · rw [rep_mul]
      have e : k * m = m + t := by
        rw [ht, Nat.mul_comm k m]
        obtain ⟨j, rfl⟩ : ∃ j, k = j + 1 := ⟨k - 1, by omega⟩
        rw [Nat.mul_succ, Nat.add_sub_cancel, Nat.add_comm]
      rw [e, rep_add, ← List.append_assoc]
      exact pth_app.mpr ⟨p, pth, h1.1⟩
    · rw [rep_mul, Nat.mul_comm]
      exact mk_times loop k hk
theorem rq_roll {A : Au} {u v : List Nat} {x : Nat} : Rq A (u ++ [x]) (v ++ [x]) ↔ Rq A u (x :: v) := by
  have sw : ∀ m, [x] ++ rep (v ++ [x]) m = rep (x :: v) m ++ [x] := fun m => rep_swap v [x] m
  constructor
  · rintro ⟨s0, hs0, p, m, n, hn, pth, mk⟩
    obtain ⟨n, rfl⟩ : ∃ j, n = j + 1 := ⟨n - 1, by omega⟩
    rw [List.append_assoc, sw] at pth
    -- the cycle ends with the letter
    have e : rep (v ++ [x]) (n + 1) = (v ++ rep (x :: v) n) ++ [x] := by
      rw [rep, List.append_assoc, sw, List.append_assoc]
    rw [e] at mk
    obtain ⟨r, hr⟩ := mk_app.mp mk
    have h1 : Pth A (v ++ rep (x :: v) n) p r ∧ Pth A [x] r p := by
      rcases hr with ⟨a, b⟩ | ⟨a, b⟩
      · exact ⟨mk_pth a, b⟩
      · exact ⟨a, mk_pth b⟩
    have e2 : rep (x :: v) (n + 1) = [x] ++ (v ++ rep (x :: v) n) := by
      rw [rep]
      simp
    refine ⟨s0, hs0, r, m + (n + 1), n + 1, Nat.succ_pos _, ?_, ?_⟩
    · rw [rep_add, e2]
      have : u ++ (rep (x :: v) m ++ ([x] ++ (v ++ rep (x :: v) n))) = (u ++ (rep (x :: v) m ++ [x])) ++ (v ++ rep (x :: v) n) := by simp
      rw [this]
      exact pth_app.mpr ⟨p, pth, h1.1⟩
    · rw [e2]
      rcases hr with ⟨a, b⟩ | ⟨a, b⟩
      · exact mk_app.mpr ⟨p, .inr ⟨b, a⟩⟩
      · exact mk_app.mpr ⟨p, .inl ⟨b, a⟩⟩
  · rintro ⟨s0, hs0, p, m, n, hn, pth, mk⟩
    obtain ⟨n, rfl⟩ : ∃ j, n = j + 1 := ⟨n - 1, by omega⟩
    have e2 : rep (x :: v) (n + 1) = [x] ++ (v ++ rep (x :: v) n) := by
      rw [rep]
      simp
    have e : rep (v ++ [x]) (n + 1) = (v ++ rep (x :: v) n) ++ [x] := by
      rw [rep, List.append_assoc, sw, List.append_assoc]
    rw [e2] at mk
    obtain ⟨r, hr⟩ := mk_app.mp mk
    have h1 : Pth A [x] p r := by
      rcases hr with ⟨a, b⟩ | ⟨a, b⟩
      · exact mk_pth a
      · exact a
    refine ⟨s0, hs0, r, m, n + 1, Nat.succ_pos _, ?_, ?_⟩
    · rw [List.append_assoc, sw, ← List.append_assoc]
      exact pth_app.mpr ⟨p, pth, h1⟩
    · rw [e]
      rcases hr with ⟨a, b⟩ | ⟨a, b⟩
      · exact mk_app.mpr ⟨p, .inr ⟨b, a⟩⟩
      · exact mk_app.mpr ⟨p, .inl ⟨b, a⟩⟩
theorem rq_rolls {A : Au} : ∀ (n : Nat) (u v : List Nat), u.length = n → v ≠ [] → (Rq A (roll n u v).1 (roll n u v).2 ↔ Rq A u v)
  | 0, u, v, _, _ => Iff.rfl
  | n + 1, u, v, hn, h0 => by
    have hu0 : u ≠ [] := fun z => by
      rw [z] at hn
      cases hn
    rw [roll, List.getLast?_eq_some_getLast hu0, List.getLast?_eq_some_getLast h0]
    dsimp only
    split
    · rename_i e
      rw [rq_rolls n u.dropLast (v.getLast h0 :: v.dropLast) (by rw [List.length_dropLast]; omega) (by simp), ← rq_roll]
      have a := List.dropLast_concat_getLast hu0
      have b := List.dropLast_concat_getLast h0
      rw [e] at a
      rw [a, b]
    · exact Iff.rfl
theorem rd_least {A : Au} {u v : List Nat} (h0 : v ≠ []) : Rd A u v ↔ Rd A (leastL u v).1 (leastL u v).2 := by
  obtain ⟨p1, ⟨k, hk, p2⟩, _⟩ := prim_ok h0
  rw [rd_rq, rd_rq]
  show _ ↔ Rq A (roll _ _ _).1 (roll _ _ _).2
  rw [rq_rolls _ _ _ rfl p1]
  have := rq_rep (A := A) (u := u) (w := prim v) hk
  rwa [p2] at this
theorem rd_same {A : Au} {u v u2 v2 : List Nat} (h : v ≠ []) (k : v2 ≠ []) (e : W u v = W u2 v2) : Rd A u v ↔ Rd A u2 v2 := by
  rw [rd_least h, rd_least k, (least_iff h k).mpr e]
/-! ### comparing -/
theorem sh_pair {a b : List Nat} (ha : Wd a) (hb : Wd b) : SeqAt.shaped (D.tup [.str (S a), .str (S b)]).py = true := by
  have h1 := py_S ha
  have h2 := py_S hb
  simp only [D.py] at h1 h2
  simp [SeqAt.shaped, D.py, D.pys, PyData.canLay0, PyData.canLayAll0, PyData.depth, PyData.depthAll] at h1 h2 ⊢
  exact ⟨h1, h2⟩
theorem eqv_pair (a b c d : List Nat) : PyData.eqv (D.tup [.str (S a), .str (S b)]).py (D.tup [.str (S c), .str (S d)]).py = decide ((a, b) = (c, d)) := by
  have e : PyData.eqv (D.tup [.str (S a), .str (S b)]).py (D.tup [.str (S c), .str (S d)]).py = ((S a == S c) && (S b == S d)) := by
    simp [D.py, D.pys, PyData.eqv, PyData.eqvAll]
  rw [e, S_eq, S_eq]
  by_cases h1 : a = c
  · by_cases h2 : b = d
    · subst h1
      subst h2
      simp
    · have : (b == d) = false := beq_eq_false_iff_ne.mpr h2
      rw [this]
      simp [h2]
  · have : (a == c) = false := beq_eq_false_iff_ne.mpr h1
    rw [this]
    simp [h1]
theorem eq_pair {a b c d : List Nat} (ha : Wd a) (hb : Wd b) (hc : Wd c) (hd : Wd d) : eqD (.tup [.str (S a), .str (S b)]) (.tup [.str (S c), .str (S d)]) = some (.bl (decide ((a, b) = (c, d)))) := by
  show (if SeqAt.shaped (D.tup [.str (S a), .str (S b)]).py && SeqAt.shaped (D.tup [.str (S c), .str (S d)]).py then some (PyData.eqv (D.tup [.str (S a), .str (S b)]).py (D.tup [.str (S c), .str (S d)]).py) else none).map D.bl = _
  rw [sh_pair ha hb, sh_pair hc hd, eqv_pair]
  rfl
theorem ne_pair {a b c d : List Nat} (ha : Wd a) (hb : Wd b) (hc : Wd c) (hd : Wd d) : neD (.tup [.str (S a), .str (S b)]) (.tup [.str (S c), .str (S d)]) = some (.bl (!decide ((a, b) = (c, d)))) := by
  show (if SeqAt.shaped (D.tup [.str (S a), .str (S b)]).py && SeqAt.shaped (D.tup [.str (S c), .str (S d)]).py then some (PyData.eqv (D.tup [.str (S a), .str (S b)]).py (D.tup [.str (S c), .str (S d)]).py) else none).map (fun b => D.bl (!b)) = _
  rw [sh_pair ha hb, sh_pair hc hd, eqv_pair]
  rfl
theorem wd_roll : ∀ (n : Nat) (u v : List Nat), Wd u → Wd v → Wd (roll n u v).1 ∧ Wd (roll n u v).2
  | 0, u, v, hu, hv => ⟨hu, hv⟩
  | n + 1, u, v, hu, hv => by
    rw [roll]
    split
    · rename_i x y hx hy
      split
      · refine wd_roll n _ _ (fun l hl => hu l (List.dropLast_subset _ hl)) fun l hl => ?_
        rcases List.mem_cons.mp hl with rfl | hl
        · exact hv _ (List.mem_of_getLast? hy)
        · exact hv l (List.dropLast_subset _ hl)
      · exact ⟨hu, hv⟩
    · exact ⟨hu, hv⟩
theorem wd_least {u v : List Nat} (hu : Wd u) (hv : Wd v) : Wd (leastL u v).1 ∧ Wd (leastL u v).2 := by
  refine wd_roll _ _ _ hu fun l hl => ?_
  unfold prim at hl
  split at hl
  · exact hv l (List.take_subset _ _ hl)
  · exact hv l hl
theorem same_ok {u v u2 v2 : List Nat} (hu : u.length ≤ 50) (hv : v.length ≤ 50) (hu2 : u2.length ≤ 50) (hv2 : v2.length ≤ 50) (h0 : v ≠ []) (k0 : v2 ≠ []) (wu : Wd u) (wv : Wd v) (wu2 : Wd u2) (wv2 : Wd v2) :
    f_same_lasso [.tup [.str (S u), .str (S v)], .tup [.str (S u2), .str (S v2)]] = some (.bl (decide (leastL u v = leastL u2 v2))) := by
  have a := least_ok u v hu hv h0
  have b := least_ok u2 v2 hu2 hv2 k0
  have w1 := wd_least wu wv
  have w2 := wd_least wu2 wv2
  have e := eq_pair w1.1 w1.2 w2.1 w2.2
  unfold f_same_lasso b_same_lasso
  simp [runF, a, b, e]
  rw [Bool.eq_iff_iff]
  simp [Prod.ext_iff]
/-! ### windows -/
def win (u v : List Nat) (n : Nat) : List Nat := (List.range n).map (W u v)
theorem win_ok (u v : List Nat) (n : Nat) (h0 : v ≠ []) : (u ++ rep v n).take n = win u v n := by
  have lv := List.length_pos_iff.mpr h0
  have ll : n ≤ n * v.length := Nat.le_mul_of_pos_right _ lv
  refine List.ext_getElem (by simp [win, rep_len]; omega) fun i h1 h2 => ?_
  have hi : i < n := by simpa [win] using h2
  have e1 : ((u ++ rep v n).take n)[i]? = (u ++ rep v n)[i]? := List.getElem?_take_of_lt hi
  have e2 : (u ++ rep v n).getD i 0 = W u v i := by
    rw [getD_app]
    unfold W
    split
    · rfl
    · exact getD_rep v n _ (by omega)
  rw [List.getD_eq_getElem?_getD, ← e1, List.getElem?_eq_getElem h1] at e2
  simp [win]
  simpa using e2
theorem infinite_ok (u v : List Nat) (n : Nat) (h0 : v ≠ []) (hn : n ≤ 100) (hu : u.length ≤ 50) (hv : v.length ≤ 50) : f_law_infinite [.str (S u), .str (S v), .int n] = some (.str (S (win u v n))) := by
  have m := mulS v n (by omega) (by omega)
  have nv : n * v.length ≤ 100 * 50 := Nat.mul_le_mul hn hv
  have ad := addS u (rep v n) (by rw [rep_len]; omega)
  have sl : (S (u ++ rep v n)).length ≤ 1000000 := by
    rw [S_len, List.length_append, rep_len]
    omega
  unfold f_law_infinite b_law_infinite
  simp [runF, m, ad, e_var, sl, cut_to, win_ok u v n h0]
theorem win_iff {u v u2 v2 : List Nat} (h0 : v ≠ []) (k0 : v2 ≠ []) (hu : u.length ≤ 8) (hv : v.length ≤ 4) (hu2 : u2.length ≤ 8) (hv2 : v2.length ≤ 9) : win u v 60 = win u2 v2 60 ↔ W u v = W u2 v2 := by
  constructor
  · intro e
    have base : ∀ i, i < 60 → W u v i = W u2 v2 i := fun i hi => by
      have := congrArg (fun l => l[i]?) e
      simp [win, hi] at this
      exact this
    have l1 := List.length_pos_iff.mpr h0
    have l2 := List.length_pos_iff.mpr k0
    have q1 : v.length * v2.length ≤ 36 := Nat.mul_le_mul hv hv2
    have q0 : 0 < v.length * v2.length := Nat.mul_pos l1 l2
    have p1 := (W_per (u := u) (v := v)).mul v2.length
    have p2 := (W_per (u := u2) (v := v2)).mul v.length
    rw [Nat.mul_comm] at p1
    funext i
    induction i using Nat.strongRecOn with
    | _ i ih =>
      by_cases hi : i < 60
      · exact base i hi
      · have a := p1 (i - v.length * v2.length) (by omega)
        have b := p2 (i - v.length * v2.length) (by omega)
        rw [show i - v.length * v2.length + v.length * v2.length = i by omega] at a b
        rw [a, b]
        exact ih _ (by omega)
  · intro e
    unfold win
    rw [e]
theorem wd_win {u v : List Nat} (h0 : v ≠ []) (hu : Wd u) (hv : Wd v) (n : Nat) : Wd (win u v n) := fun l hl => by
  rw [← win_ok u v n h0] at hl
  have hl := List.take_subset _ _ hl
  rcases List.mem_append.mp hl with z | z
  · exact hu l z
  · have key : ∀ k, l ∈ rep v k → l ∈ v := by
      intro k
      induction k with
      | zero => exact fun h => by cases h
      | succ k ih => exact fun h => (List.mem_append.mp h).elim id ih
    exact hv l (key n z)
end K63

namespace K63
open PySem PySem.Spec L2 DL
def Tst (f : Nat → Nat) (s b : Nat) : Bool := (List.range (40 - s - b)).all fun i => f (b + i) == f (b + i + s)
theorem tst_pd {u v : List Nat} (h0 : v ≠ []) (hu : u.length ≤ 4) (hv : v.length ≤ 4) {s b : Nat} (hs : s ≤ 4) (hb : b ≤ 4) : Tst (W u v) s b = true ↔ Pd (W u v) s b := by
  unfold Tst
  rw [List.all_eq_true]
  have lv := List.length_pos_iff.mpr h0
  constructor
  · intro h i hi
    induction i using Nat.strongRecOn with
    | _ i ih =>
      by_cases hl : i < 40 - s
      · have := h (i - b) (List.mem_range.mpr (by omega))
        rw [show b + (i - b) = i by omega] at this
        exact (beq_iff_eq.mp this).symm
      · have p := W_per (u := u) (v := v)
        have a := p (i - v.length) (by omega)
        have c := p (i + s - v.length) (by omega)
        rw [show i - v.length + v.length = i by omega] at a
        rw [show i + s - v.length + v.length = i + s by omega] at c
        rw [a, c, show i + s - v.length = i - v.length + s by omega]
        exact ih (i - v.length) (by omega) (by omega)
  · intro h i _
    exact beq_iff_eq.mpr (h (b + i) (by omega)).symm
theorem roll_le : ∀ (n : Nat) (u v : List Nat), (roll n u v).1.length ≤ u.length
  | 0, _, _ => Nat.le_refl _
  | n + 1, u, v => by
    rw [roll]
    split
    · split
      · refine Nat.le_trans (roll_le n _ _) ?_
        rw [List.length_dropLast]
        omega
      · exact Nat.le_refl _
    · exact Nat.le_refl _
theorem take_win {u v u2 v2 : List Nat} (k0 : v2 ≠ []) (e : W u v = W u2 v2) (h : u2.length ≤ 40) : (win u v 40).take u2.length = u2 := by
  have e1 : (win u v 40).take u2.length = win u2 v2 u2.length := by
    unfold win
    rw [e, ← List.map_take, List.take_range, Nat.min_eq_left h]
  rw [e1, ← win_ok u2 v2 _ k0, List.take_left']
  rfl
theorem drop_win {u v u2 v2 : List Nat} (e : W u v = W u2 v2) (h : u2.length + v2.length ≤ 40) : ((win u v 40).drop u2.length).take v2.length = v2 := by
  refine List.ext_getElem (by simp [win]; omega) fun i h1 h2 => ?_
  have : u2.length + i < 40 := by omega
  simp [win]
  rw [e, W_v h2, List.getD_eq_getElem?_getD, List.getElem?_eq_getElem h2]
  rfl
theorem law_least_ok (u v : List Nat) (hu : u.length ≤ 4) (hv : v.length ≤ 4) (h0 : v ≠ []) : f_law_least_lasso [.str (S u), .str (S v)] = some (.tup [.str (S (leastL u v).1), .str (S (leastL u v).2)]) := by
  have lvp := List.length_pos_iff.mpr h0
  have inf := infinite_ok u v 40 h0 (by decide) (by omega) (by omega)
  have inf : f_law_infinite [.str (S u), .str (S v), .int 40] = some (.str (S (win u v 40))) := inf
  have wl : (win u v 40).length = 40 := by simp [win]
  have wg : ∀ i, i < 40 → (win u v 40)[i]? = some (W u v i) := fun i hi => by simp [win, hi]
  have sl : (S (win u v 40)).length ≤ 1000000 := by
    rw [S_len, wl]
    decide
  -- one test
  have tst : ∀ s b : Nat, 0 < s → s ≤ 4 → b ≤ 4 → fRng2 (fCons (fVar 4) (fCons (fBin subD (fC (.int (40))) (fLook 3)) (fNil))) [.d (.str (S u)), .d (.str (S v)), .d (.str (S (win u v 40))), .d (.int s), .d (.int b), .no] = some ((List.range (40 - s - b)).map (fun i => D.int ((b + i : Nat) : Int)), [.d (.str (S u)), .d (.str (S v)), .d (.str (S (win u v 40))), .d (.int s), .d (.int b), .no]) ∧
      lcD (gSet 5) (fun ρ => some (true, ρ)) (fBin eqD (fBinN ixD 2 (fVar 5)) (fBinN ixD 2 (fBinN addD 5 (fLook 3)))) [5] ((List.range (40 - s - b)).map (fun i => D.int ((b + i : Nat) : Int))) [] [.d (.str (S u)), .d (.str (S v)), .d (.str (S (win u v 40))), .d (.int s), .d (.int b), .no] =
        some ((List.range (40 - s - b)).map (fun i => D.bl (W u v (b + i) == W u v (b + i + s))), [.d (.str (S u)), .d (.str (S v)), .d (.str (S (win u v 40))), .d (.int s), .d (.int b), .no]) := by
    intro s b s0 hs hb
    constructor
    · have g1 : rgOk (b : Int) = true := rg_ok b (by omega)
      have g2 : rgOk (40 - (s : Int)) = true := by
        have := rg_ok (40 - s) (by omega)
        rwa [show ((40 - s : Nat) : Int) = 40 - (s : Int) by omega] at this
      have e : rngD (b : Int) (40 - (s : Int)) = (List.range (40 - s - b)).map fun i => D.int ((b + i : Nat) : Int) := by
        unfold rngD
        rw [show (40 - (s : Int) - (b : Int)).toNat = 40 - s - b by omega]
        refine List.map_congr_left fun i _ => ?_
        rw [Int.natCast_add]
      simp [e_var, g1, g2]
      rw [e]
      exact List.map_congr_left fun i _ => by rw [Int.natCast_add]
    · have key : ∀ (xs : List Nat) (acc : List D), (∀ i ∈ xs, b + i + s < 40) → lcD (gSet 5) (fun ρ => some (true, ρ)) (fBin eqD (fBinN ixD 2 (fVar 5)) (fBinN ixD 2 (fBinN addD 5 (fLook 3)))) [5] (xs.map (fun i => D.int ((b + i : Nat) : Int))) acc [.d (.str (S u)), .d (.str (S v)), .d (.str (S (win u v 40))), .d (.int s), .d (.int b), .no] =
          some (acc ++ xs.map (fun i => D.bl (W u v (b + i) == W u v (b + i + s))), [.d (.str (S u)), .d (.str (S v)), .d (.str (S (win u v 40))), .d (.int s), .d (.int b), .no]) := by
        intro xs
        induction xs with
        | nil =>
          intro acc _
          simp [lcD]
        | cons i xs ih =>
          intro acc hx
          have hi := hx i List.mem_cons_self
          have x1 := ixS (win u v 40) (b + i) (by rw [wl]; decide)
          have x2 := ixS (win u v 40) (b + i + s) (by rw [wl]; decide)
          rw [wg _ (by omega)] at x1 x2
          have x1 : ixD (.str (S (win u v 40))) (.int ((b : Int) + (i : Int))) = some (.str (S [W u v (b + i)])) := x1
          have x2 : ixD (.str (S (win u v 40))) (.int ((b : Int) + (i : Int) + (s : Int))) = some (.str (S [W u v (b + i + s)])) := x2
          have q : (S [W u v (b + i)] == S [W u v (b + i + s)]) = (W u v (b + i) == W u v (b + i + s)) := by
            rw [S_eq]
            simp
          have ih' := fun acc => ih acc fun j hj => hx j (List.mem_cons_of_mem _ hj)
          rw [List.map_cons, lcD, List.map_cons]
          simp [e_var, x1, x2, q]
          have := ih' (acc ++ [D.bl (W u v (b + i) == W u v (b + i + s))])
          simpa using this
      have := key (List.range (40 - s - b)) [] fun i hi => by
        have := List.mem_range.mp hi
        omega
      rwa [List.nil_append] at this
  have body : ∀ (s b : Nat) (x : Sl), 0 < s → s ≤ 4 → b ≤ 4 → (fSeq (fIfS (fTru (fApp allD (fOfL (fLc (fRng2 (fCons (fVar 4) (fCons (fBin subD (fC (.int (40))) (fLook 3)) (fNil)))) (gSet 5) (fun ρ => some (true, ρ)) (fBin eqD (fBinN ixD 2 (fVar 5)) (fBinN ixD 2 (fBinN addD 5 (fLook 3)))) [5])))) (fSeq (fRet (fTup (fCons (fSlS (fVar 2) (fOno) (fOso (fVar 4))) (fCons (fSlS (fVar 2) (fOso (fVar 4)) (fOso (fBinN addD 4 (fLook 3)))) (fNil))))) (fNx)) (fNx)) (fNx)) [.d (.str (S u)), .d (.str (S v)), .d (.str (S (win u v 40))), .d (.int s), .d (.int b), .no] =
      some (if Tst (W u v) s b = true then .rt (.tup [.str (S ((win u v 40).take b)), .str (S (((win u v 40).drop b).take s))]) [.d (.str (S u)), .d (.str (S v)), .d (.str (S (win u v 40))), .d (.int s), .d (.int b), .no] else .nx [.d (.str (S u)), .d (.str (S v)), .d (.str (S (win u v 40))), .d (.int s), .d (.int b), .no]) := by
    intro s b x s0 hs hb
    obtain ⟨t1, t2⟩ := tst s b s0 hs hb
    have ll : (List.range (40 - s - b)).length ≤ 1000000 := by
      rw [List.length_range]
      omega
    have al := all_map (fun i => W u v (b + i) == W u v (b + i + s)) (List.range (40 - s - b))
    have c2 := cut_mid (win u v 40) b (b + s)
    rw [show b + s - b = s by omega] at c2
    have c2 : cutS (S (win u v 40)) (some (b : Int)) (some ((b : Int) + (s : Int))) = S (((win u v 40).drop b).take s) := c2
    have ts : Tst (W u v) s b = (List.range (40 - s - b)).all fun i => W u v (b + i) == W u v (b + i + s) := rfl
    rw [← ts] at al
    simp only [e_seq, e_ifS, e_tru, e_app, e_ofL, e_lc, t1, Option.bind_some, List.length_map, ll, if_true, e_wcons, e_wnil, List.set_cons_succ, List.set_cons_zero, t2, al, tru_bl]
    cases h : Tst (W u v) s b with
    | true => simp [e_var, sl, cut_to, c2]
    | false => simp
  have cn := least_cn (u := u) h0
  have cl := List.length_pos_iff.mpr cn.ne
  have sv : (leastL u v).2.length ≤ v.length := cn.least v.length u.length lvp W_per
  have su : (leastL u v).1.length ≤ u.length := roll_le _ _ _
  have good : Tst (W u v) (leastL u v).2.length (leastL u v).1.length = true := (tst_pd h0 hu hv (by omega) (by omega)).mpr (by
    have := W_per (u := (leastL u v).1) (v := (leastL u v).2)
    rwa [cn.w] at this)
  -- the loops
  have inner : ∀ (s : Nat), 0 < s → s ≤ 4 → ∀ y : Sl, (∃ y', forD (gSet 4) (fSeq (fIfS (fTru (fApp allD (fOfL (fLc (fRng2 (fCons (fVar 4) (fCons (fBin subD (fC (.int (40))) (fLook 3)) (fNil)))) (gSet 5) (fun ρ => some (true, ρ)) (fBin eqD (fBinN ixD 2 (fVar 5)) (fBinN ixD 2 (fBinN addD 5 (fLook 3)))) [5])))) (fSeq (fRet (fTup (fCons (fSlS (fVar 2) (fOno) (fOso (fVar 4))) (fCons (fSlS (fVar 2) (fOso (fVar 4)) (fOso (fBinN addD 4 (fLook 3)))) (fNil))))) (fNx)) (fNx)) (fNx)) (rngD 0 ((u.length + 1 : Nat) : Int)) [.d (.str (S u)), .d (.str (S v)), .d (.str (S (win u v 40))), .d (.int s), y, .no] = some (.nx [.d (.str (S u)), .d (.str (S v)), .d (.str (S (win u v 40))), .d (.int s), y', .no]) ∧ ∀ b, b ≤ u.length → Tst (W u v) s b = false) ∨
      ∃ x ρ, forD (gSet 4) (fSeq (fIfS (fTru (fApp allD (fOfL (fLc (fRng2 (fCons (fVar 4) (fCons (fBin subD (fC (.int (40))) (fLook 3)) (fNil)))) (gSet 5) (fun ρ => some (true, ρ)) (fBin eqD (fBinN ixD 2 (fVar 5)) (fBinN ixD 2 (fBinN addD 5 (fLook 3)))) [5])))) (fSeq (fRet (fTup (fCons (fSlS (fVar 2) (fOno) (fOso (fVar 4))) (fCons (fSlS (fVar 2) (fOso (fVar 4)) (fOso (fBinN addD 4 (fLook 3)))) (fNil))))) (fNx)) (fNx)) (fNx)) (rngD 0 ((u.length + 1 : Nat) : Int)) [.d (.str (S u)), .d (.str (S v)), .d (.str (S (win u v 40))), .d (.int s), y, .no] = some (.rt x ρ) ∧
        ∃ b, b ≤ u.length ∧ Tst (W u v) s b = true ∧ (∀ c, c < b → Tst (W u v) s c = false) ∧ x = .tup [.str (S ((win u v 40).take b)), .str (S (((win u v 40).drop b).take s))] := by
    intro s s0 hs y
    rcases forD_inv2 (g := gSet 4) (f := fSeq (fIfS (fTru (fApp allD (fOfL (fLc (fRng2 (fCons (fVar 4) (fCons (fBin subD (fC (.int (40))) (fLook 3)) (fNil)))) (gSet 5) (fun ρ => some (true, ρ)) (fBin eqD (fBinN ixD 2 (fVar 5)) (fBinN ixD 2 (fBinN addD 5 (fLook 3)))) [5])))) (fSeq (fRet (fTup (fCons (fSlS (fVar 2) (fOno) (fOso (fVar 4))) (fCons (fSlS (fVar 2) (fOso (fVar 4)) (fOso (fBinN addD 4 (fLook 3)))) (fNil))))) (fNx)) (fNx)) (fNx))
        (I := fun i ρ => ∃ y', ρ = [.d (.str (S u)), .d (.str (S v)), .d (.str (S (win u v 40))), .d (.int s), y', .no] ∧ ∀ b, b < i → Tst (W u v) s b = false)
        (R := fun x => ∃ b, b ≤ u.length ∧ Tst (W u v) s b = true ∧ (∀ c, c < b → Tst (W u v) s c = false) ∧ x = .tup [.str (S ((win u v 40).take b)), .str (S (((win u v 40).drop b).take s))])
        (rngD 0 ((u.length + 1 : Nat) : Int)) 0 (fun i d ρ hd hI => by
          obtain ⟨y', rfl, hI⟩ := hI
          rw [rng_nat, List.getElem?_map] at hd
          obtain ⟨j, hj, rfl⟩ := Option.map_eq_some_iff.mp hd
          obtain ⟨hj1, hj2⟩ := List.getElem?_eq_some_iff.mp hj
          rw [List.getElem_range] at hj2
          subst hj2
          rw [Nat.zero_add] at hI
          have hi : i < u.length + 1 := by simpa using hj1
          have bd := body s i .no s0 hs (by omega)
          refine ⟨_, rfl, ?_⟩
          cases h : Tst (W u v) s i with
          | true =>
            rw [h] at bd
            exact .inr ⟨_, _, bd, i, by omega, h, hI, rfl⟩
          | false =>
            rw [h] at bd
            refine .inl ⟨_, bd, _, rfl, fun b hb => ?_⟩
            by_cases e : b = i
            · rw [e]
              exact h
            · exact hI b (by omega)) [.d (.str (S u)), .d (.str (S v)), .d (.str (S (win u v 40))), .d (.int s), y, .no] ⟨y, rfl, fun b hb => absurd hb (Nat.not_lt_zero _)⟩ with ⟨ρ', k1, y', rfl, k2⟩ | ⟨x, ρ', k1, k2⟩
    · refine .inl ⟨y', k1, fun b hb => k2 b ?_⟩
      rw [rng_nat, List.length_map, List.length_range]
      omega
    · exact .inr ⟨x, ρ', k1, k2⟩
  have lu : lenD (.str (S u)) = some (.int u.length) := lenS u (by omega)
  have lv : lenD (.str (S v)) = some (.int v.length) := lenS v (by omega)
  have ru : rgOk ((u.length : Int) + 1) = true := rg_ok (u.length + 1) (by omega)
  have rv : rgOk ((v.length : Int) + 1) = true := rg_ok (v.length + 1) (by omega)
  have r1 : rgOk 1 = true := rfl
  have rng : rngD 1 ((v.length : Int) + 1) = nD (List.range' 1 v.length) := by
    unfold rngD nD
    rw [List.range'_eq_map_range, List.map_map]
    rw [show ((v.length : Int) + 1 - 1).toNat = v.length by omega]
    refine List.map_congr_left fun i _ => ?_
    show D.int (1 + (i : Int)) = .int ((1 + i : Nat) : Int)
    congr 1
  have outer := forD_inv2 (g := gSet 3) (f := fSeq (fFor (fRng1 (fCons (fBin addD (fApp lenD (fLook 0)) (fC (.int (1)))) (fNil))) (gSet 4) (fSeq (fIfS (fTru (fApp allD (fOfL (fLc (fRng2 (fCons (fVar 4) (fCons (fBin subD (fC (.int (40))) (fLook 3)) (fNil)))) (gSet 5) (fun ρ => some (true, ρ)) (fBin eqD (fBinN ixD 2 (fVar 5)) (fBinN ixD 2 (fBinN addD 5 (fLook 3)))) [5])))) (fSeq (fRet (fTup (fCons (fSlS (fVar 2) (fOno) (fOso (fVar 4))) (fCons (fSlS (fVar 2) (fOso (fVar 4)) (fOso (fBinN addD 4 (fLook 3)))) (fNil))))) (fNx)) (fNx)) (fNx))) (fNx))
      (I := fun i ρ => ∃ x y, ρ = [.d (.str (S u)), .d (.str (S v)), .d (.str (S (win u v 40))), x, y, .no] ∧ ∀ s, 0 < s → s < i + 1 → ∀ b, b ≤ u.length → Tst (W u v) s b = false)
      (R := fun x => ∃ s b, 0 < s ∧ s ≤ v.length ∧ (∀ t, 0 < t → t < s → ∀ b, b ≤ u.length → Tst (W u v) t b = false) ∧ b ≤ u.length ∧ Tst (W u v) s b = true ∧ (∀ c, c < b → Tst (W u v) s c = false) ∧ x = .tup [.str (S ((win u v 40).take b)), .str (S (((win u v 40).drop b).take s))])
      (nD (List.range' 1 v.length)) 0 (fun i d ρ hd hI => by
        obtain ⟨x, y, rfl, hI⟩ := hI
        unfold nD at hd
        rw [List.getElem?_map] at hd
        obtain ⟨j, hj, rfl⟩ := Option.map_eq_some_iff.mp hd
        obtain ⟨hj1, hj2⟩ := List.getElem?_eq_some_iff.mp hj
        rw [List.getElem_range'] at hj2
        have hi : i < v.length := by simpa using hj1
        have hj2 : j = i + 1 := by omega
        subst hj2
        rw [Nat.zero_add] at hI
        refine ⟨[.d (.str (S u)), .d (.str (S v)), .d (.str (S (win u v 40))), .d (.int ((i + 1 : Nat) : Int)), y, .no], rfl, ?_⟩
        rcases inner (i + 1) (by omega) (by omega) y with ⟨y', k1, k2⟩ | ⟨x, ρ, k1, b, k2, k3, k4, k5⟩
        · refine .inl ⟨[.d (.str (S u)), .d (.str (S v)), .d (.str (S (win u v 40))), .d (.int ((i + 1 : Nat) : Int)), y', .no], ?_, _, y', rfl, fun s s0 hs => ?_⟩
          · have k1 : forD (gSet 4) _ (rngD 0 ((u.length : Int) + 1)) _ = _ := k1
            simp only [e_seq, e_for, e_rng1, e_cons, e_bin, e_app, e_look, List.getElem?_cons_zero, Option.bind_some, w_d, Option.map_some, lu, e_c, add_int, e_nil, ru, if_true, k1, e_nx]
          · by_cases e : s = i + 1
            · rw [e]
              exact k2
            · exact hI s s0 (by omega)
        · refine .inr ⟨x, ρ, ?_, i + 1, b, by omega, by omega, fun t t0 ht => hI t t0 (by omega), k2, k3, k4, k5⟩
          have k1 : forD (gSet 4) _ (rngD 0 ((u.length : Int) + 1)) _ = _ := k1
          simp only [e_seq, e_for, e_rng1, e_cons, e_bin, e_app, e_look, List.getElem?_cons_zero, Option.bind_some, w_d, Option.map_some, lu, e_c, add_int, e_nil, ru, if_true, k1]) [.d (.str (S u)), .d (.str (S v)), .d (.str (S (win u v 40))), .no, .no, .no] ⟨.no, .no, rfl, fun s s0 hs => by omega⟩
  rcases outer with ⟨ρ', k1, x, y, rfl, k2⟩ | ⟨x, ρ', k1, s, b, s0, sl2, k2, bl, k3, k4, rfl⟩
  · have := k2 (leastL u v).2.length cl (by simp; omega) (leastL u v).1.length su
    rw [good] at this
    cases this
  · have pd := (tst_pd h0 hu hv (by omega) (by omega)).mp k3
    have es : s = (leastL u v).2.length := by
      have a := cn.least s b s0 pd
      apply Classical.byContradiction
      intro n
      have := k2 _ cl (by omega) _ su
      rw [good] at this
      cases this
    subst es
    have eb : b = (leastL u v).1.length := by
      apply Classical.byContradiction
      intro n
      by_cases l : (leastL u v).1.length < b
      · have := k4 _ l
        rw [good] at this
        cases this
      · have l2 : b < (leastL u v).1.length := by omega
        have hne : (leastL u v).1 ≠ [] := List.length_pos_iff.mp (by omega)
        refine cn.last _ (getLast_at _ hne) ?_
        have p2 := pd ((leastL u v).1.length - 1) (by omega)
        rw [← cn.w, W_u (show (leastL u v).1.length - 1 < (leastL u v).1.length by omega), show (leastL u v).1.length - 1 + (leastL u v).2.length = (leastL u v).1.length + ((leastL u v).2.length - 1) by omega, W_v (by omega)] at p2
        rw [getLast_at _ cn.ne, p2]
    subst eb
    rw [take_win cn.ne cn.w.symm (by omega), drop_win cn.w.symm (by omega)] at k1
    unfold f_law_least_lasso b_law_least_lasso
    simp [runF, e_var, inf, lv, r1, rv, rng, k1]
end K63

namespace K63
open PySem PySem.Spec L2 DL
/-! ### the order of words -/
def ltW (a b : List Nat) : Prop := a.length < b.length ∨ (a.length = b.length ∧ a < b)
instance (a b : List Nat) : Decidable (ltW a b) := inferInstanceAs (Decidable (_ ∨ _))
theorem ltW_irrefl (a : List Nat) : ¬ ltW a a := fun h => by
  rcases h with h | ⟨_, h⟩
  · omega
  · exact List.lt_irrefl a h
theorem ltW_trans {a b c : List Nat} (h : ltW a b) (k : ltW b c) : ltW a c := by
  rcases h with h | ⟨h1, h2⟩
  · rcases k with k | ⟨k1, k2⟩
    · exact .inl (by omega)
    · exact .inl (by omega)
  · rcases k with k | ⟨k1, k2⟩
    · exact .inl (by omega)
    · exact .inr ⟨by omega, List.lt_trans h2 k2⟩
theorem ltW_tri {a b : List Nat} (h : ¬ ltW a b) (k : ¬ ltW b a) : a = b := by
  have e : a.length = b.length := by
    have h1 : ¬ a.length < b.length := fun z => h (.inl z)
    have h2 : ¬ b.length < a.length := fun z => k (.inl z)
    omega
  exact List.le_antisymm (List.not_lt.mp fun z => k (.inr ⟨e.symm, z⟩)) (List.not_lt.mp fun z => h (.inr ⟨e, z⟩))
/-- b ≤ a, a ≤ c -/
theorem le_ltW {a b c : List Nat} (h : ¬ ltW b a) (k : ltW b c) : ltW a c := by
  by_cases e : ltW a b
  · exact ltW_trans e k
  · rw [ltW_tri e h]
    exact k
theorem lt_app : ∀ {a b : List Nat} (c d : List Nat), a.length = b.length → a < b → a ++ c < b ++ d
  | [], [], _, _, _, h => absurd h (List.lt_irrefl [])
  | [], _ :: _, _, _, e, _ => by cases e
  | _ :: _, [], _, _, e, _ => by cases e
  | x :: a, y :: b, c, d, e, h => by
    rw [List.cons_append, List.cons_append, List.cons_lt_cons_iff]
    rcases List.cons_lt_cons_iff.mp h with h1 | ⟨h1, h2⟩
    · exact .inl h1
    · exact .inr ⟨h1, lt_app c d (by simpa using e) h2⟩
theorem ltW_snoc {a b : List Nat} {l : Nat} (h : ltW a b) : ltW (a ++ [l]) (b ++ [l]) := by
  rcases h with h | ⟨h1, h2⟩
  · exact .inl (by simp; omega)
  · exact .inr ⟨by simp [h1], lt_app _ _ h1 h2⟩
theorem ltW_snoc_inv {a b : List Nat} {l : Nat} (h : ltW (a ++ [l]) (b ++ [l])) : ltW a b := by
  apply Classical.byContradiction
  intro n
  by_cases k : ltW b a
  · exact ltW_irrefl _ (ltW_trans h (ltW_snoc k))
  · rw [ltW_tri n k] at h
    exact ltW_irrefl _ h
theorem ltW_cons {a b : List Nat} {l : Nat} : ltW (l :: a) (l :: b) ↔ ltW a b := by
  unfold ltW
  rw [List.cons_lt_cons_self]
  simp
/-- the first word that leads from some states to one -/
structure IsF (A : Au) (ss : List Nat) (q k : Nat) (w : List Nat) : Prop where
  len : k ≤ w.length
  pth : ∃ p ∈ ss, Pth A w p q
  min : ∀ x, k ≤ x.length → (∃ p ∈ ss, Pth A x p q) → ¬ ltW x w
theorem IsF.uniq {A : Au} {ss : List Nat} {q k : Nat} {w v : List Nat} (h : IsF A ss q k w) (g : IsF A ss q k v) : w = v :=
  ltW_tri (g.min w h.len h.pth) (h.min v g.len g.pth)
theorem pth_wd {A : Au} (h : A.Ok) : ∀ {w : List Nat} {p q : Nat}, Pth A w p q → Wd w
  | [], _, _, _ => fun l hl => by cases hl
  | l :: w, p, q, ⟨r, h1, h2⟩ => fun m hm => by
    rcases List.mem_cons.mp hm with rfl | hm
    · exact h.lt (h.ed _ h1).2.1
    · exact pth_wd h h2 m hm
theorem IsF.wd {A : Au} (h : A.Ok) {ss : List Nat} {q k : Nat} {w : List Nat} (g : IsF A ss q k w) : Wd w := by
  obtain ⟨p, _, hp⟩ := g.pth
  exact pth_wd h hp
/-! ### the order as the program sees it -/
theorem place_ok (w : List Nat) (h : w.length ≤ 1000) : f_place [.str (S w)] = some (.tup [.int w.length, .str (S w)]) := by
  have l := lenS w h
  unfold f_place b_place
  simp [runF, l, e_var]
theorem lt_place {a b : List Nat} (ha : Wd a) (hb : Wd b) : ltD (.tup [.int a.length, .str (S a)]) (.tup [.int b.length, .str (S b)]) = some (.bl (decide (ltW a b))) := by
  have sh : ∀ {a : List Nat}, Wd a → SeqAt.shaped (D.tup [.int a.length, .str (S a)]).py = true := fun {a} h => by
    have h1 := py_S h
    simp only [D.py] at h1
    simp [SeqAt.shaped, D.py, D.pys, PyData.canLay0, PyData.canLayAll0, PyData.depth, PyData.depthAll] at h1 ⊢
    exact h1
  show (if SeqAt.shaped (D.tup [.int a.length, .str (S a)]).py && SeqAt.shaped (D.tup [.int b.length, .str (S b)]).py && PySem.W.alike (D.tup [.int a.length, .str (S a)]).py (D.tup [.int b.length, .str (S b)]).py then some (PySem.W.dataLt (D.tup [.int a.length, .str (S a)]).py (D.tup [.int b.length, .str (S b)]).py) else none).map D.bl = _
  rw [sh ha, sh hb]
  have al : PySem.W.alike (D.tup [.int a.length, .str (S a)]).py (D.tup [.int b.length, .str (S b)]).py = true := rfl
  rw [al]
  show some (D.bl _) = _
  congr 2
  show (decide ((1 : Int) < 1) || (!decide ((1 : Int) < 1) && (decide ((a.length : Int) < b.length) || (!decide ((b.length : Int) < a.length) && (decide ((1 : Int) < 1) || (!decide ((1 : Int) < 1) && (decide ((S a).cps.toList < (S b).cps.toList) || (!decide ((S b).cps.toList < (S a).cps.toList) && (decide ((0 : Int) < 0) || (!decide ((0 : Int) < 0) && false)))))))))) = _
  rw [S_cps, S_cps, Bool.eq_iff_iff, decide_eq_true_iff]
  simp
  unfold ltW
  constructor
  · rintro (h | ⟨h1, h2⟩)
    · exact .inl h
    · by_cases e : a.length < b.length
      · exact .inl e
      · exact .inr ⟨by omega, h2⟩
  · rintro (h | ⟨h1, h2⟩)
    · exact .inl h
    · exact .inr ⟨by omega, h2⟩
/-- a word with a state -/
def cdD (c : List Nat × Nat) : D := .tup [.str (S c.1), .int c.2]
theorem le_cd {c d : List Nat × Nat} (h : lePD (cdD c) (cdD d) = true) : ¬ d.1 < c.1 := by
  have e : lePD (cdD c) (cdD d) = !(decide ((1 : Int) < 1) || (!decide ((1 : Int) < 1) && (decide ((S d.1).cps.toList < (S c.1).cps.toList) || (!decide ((S c.1).cps.toList < (S d.1).cps.toList) && (decide ((1 : Int) < 1) || (!decide ((1 : Int) < 1) && (decide ((d.2 : Int) < c.2) || (!decide ((c.2 : Int) < d.2) && (decide ((0 : Int) < 0) || (!decide ((0 : Int) < 0) && false)))))))))) := rfl
  rw [e, S_cps, S_cps] at h
  intro z
  simp [z] at h
theorem cd_inj {c d : List Nat × Nat} (h : cdD c = cdD d) : c = d := by
  obtain ⟨a, b⟩ := c
  obtain ⟨x, y⟩ := d
  unfold cdD at h
  simp at h
  have h1 := S_inj h.1
  rw [h1, show b = y by omega]
theorem sort_cd (cs : List (List Nat × Nat)) (h : ∀ c ∈ cs, Wd c.1) : ∃ ds : List (List Nat × Nat), sortedD (.lst (cs.map cdD)) = some (ds.map cdD) ∧ (∀ c, c ∈ ds ↔ c ∈ cs) ∧ ds.length = cs.length ∧ ds.Pairwise fun c d => ¬ d.1 < c.1 := by
  have ok : srtOk (D.pys (cs.map cdD)) = true := by
    unfold srtOk
    rw [pys_map2, List.map_map]
    simp only [Bool.and_eq_true, List.all_eq_true, List.mem_map, Bool.or_eq_true]
    refine ⟨⟨?_, ?_⟩, .inl ?_⟩
    · rintro _ ⟨e, _, rfl⟩ _ ⟨f, _, rfl⟩
      rfl
    · rintro _ ⟨e, he, rfl⟩
      have h1 := py_S (h e he)
      simp only [D.py] at h1
      simp [cdD, SeqAt.shaped, D.py, D.pys, PyData.canLay0, PyData.canLayAll0, PyData.depth, PyData.depthAll] at h1 ⊢
      exact h1
    · rintro _ ⟨e, _, rfl⟩
      rfl
  have pm := List.mergeSort_perm (cs.map cdD) lePD
  have ex : ∀ {ys : List D}, (∀ y ∈ ys, ∃ c, y = cdD c) → ∃ ds : List (List Nat × Nat), ys = ds.map cdD := by
    intro ys
    induction ys with
    | nil => exact fun _ => ⟨[], rfl⟩
    | cons y ys ih =>
      intro hy
      obtain ⟨c, rfl⟩ := hy y List.mem_cons_self
      obtain ⟨ds, rfl⟩ := ih fun z hz => hy z (List.mem_cons_of_mem _ hz)
      exact ⟨c :: ds, rfl⟩
  obtain ⟨ds, hds⟩ := ex (ys := (cs.map cdD).mergeSort lePD) fun y hy => by
    obtain ⟨c, _, rfl⟩ := List.mem_map.mp (pm.mem_iff.mp hy)
    exact ⟨c, rfl⟩
  refine ⟨ds, ?_, fun c => ?_, ?_, ?_⟩
  · show srtD _ = _
    unfold srtD
    rw [if_pos ok, hds]
  · have : cdD c ∈ (cs.map cdD).mergeSort lePD ↔ cdD c ∈ cs.map cdD := pm.mem_iff
    rw [hds] at this
    have g : ∀ qs : List (List Nat × Nat), cdD c ∈ qs.map cdD ↔ c ∈ qs := fun qs => by
      rw [List.mem_map]
      exact ⟨fun ⟨y, hy, e⟩ => cd_inj e ▸ hy, fun h => ⟨c, h, rfl⟩⟩
    rw [g, g] at this
    exact this
  · have := pm.length_eq
    rw [hds, List.length_map, List.length_map] at this
    exact this
  · have tot := lePD_ok
    have pw := List.pairwise_mergeSort (le := lePD) tot.trans (fun a b => by simpa using tot.total a b) (cs.map cdD)
    rw [hds, List.pairwise_map] at pw
    exact pw.imp fun h => le_cd h
end K63

namespace K63
open PySem PySem.Spec L2 DL
/-! ### tables from states to words -/
abbrev Fm := List (Nat × List Nat)
def wdK (fm : Fm) : List (Key × D) := fm.map fun e => (.inl (e.1 : Int), .str (S e.2))
theorem get_wd {fm : Fm} (nd : (fm.map (·.1)).Nodup) {q : Nat} {w : List Nat} (h : (q, w) ∈ fm) : getK (wdK fm) (.inl (q : Int)) = some (.str (S w)) := by
  induction fm with
  | nil => cases h
  | cons e fm ih =>
    rw [List.map_cons, List.nodup_cons] at nd
    unfold getK wdK
    by_cases h1 : e.1 = q
    · rcases List.mem_cons.mp h with rfl | h2
      · simp
      · exact absurd (List.mem_map.mpr ⟨(q, w), h2, rfl⟩) (h1 ▸ nd.1)
    · have h2 : (q, w) ∈ fm := (List.mem_cons.mp h).resolve_left (fun z => h1 (by rw [← z]))
      have := ih nd.2 h2
      unfold getK wdK at this
      have h3 : ¬ (e.1 : Int) = q := by omega
      simp [h3]
      simpa using this
theorem get_wd_no {fm : Fm} {q : Nat} (h : ∀ w, (q, w) ∉ fm) : getK (wdK fm) (.inl (q : Int)) = none := by
  unfold getK wdK
  rw [Option.map_eq_none_iff, List.find?_eq_none]
  intro x hx
  obtain ⟨e, he, rfl⟩ := List.mem_map.mp hx
  have : ¬ (e.1 : Int) = q := fun z => h e.2 (by rw [show q = e.1 by omega]; exact he)
  simpa using this
theorem put_wd {fm : Fm} {q : Nat} {w : List Nat} (h : ∀ w, (q, w) ∉ fm) : putD (wdK fm) (.inl (q : Int)) (.str (S w)) = wdK (fm ++ [(q, w)]) := by
  have e : ¬ ((wdK fm).any fun kv => decide (kv.1 = .inl (q : Int))) = true := by
    unfold wdK
    rw [List.any_map, List.any_eq_true]
    rintro ⟨x, hx, z⟩
    have z : (x.1 : Int) = q := by simpa using z
    exact h x.2 (by rw [show q = x.1 by omega]; exact hx)
  unfold putD
  rw [if_neg e]
  unfold wdK
  simp
theorem wd_len (fm : Fm) : (wdK fm).length = fm.length := by simp [wdK]
/-! ### level by level -/
structure Bw (A : Au) (ss : List Nat) (fm : Fm) (lvl : List Nat) (i : Nat) : Prop where
  nd : (fm.map (·.1)).Nodup
  lt : ∀ e ∈ fm, e.1 < A.n
  first : ∀ e ∈ fm, IsF A ss e.1 0 e.2
  full : ∀ q x, x.length ≤ i → (∃ p ∈ ss, Pth A x p q) → ∃ w, (q, w) ∈ fm
  ml : ∀ q, q ∈ lvl ↔ ∃ w, (q, w) ∈ fm ∧ w.length = i
  le : ∀ e ∈ fm, e.2.length ≤ i
  ndl : lvl.Nodup
  sz : i + (if lvl = [] then 0 else 1) ≤ fm.length
theorem fm_len {A : Au} {fm : Fm} (nd : (fm.map (·.1)).Nodup) (lt : ∀ e ∈ fm, e.1 < A.n) : fm.length ≤ A.n := by
  have := len_le A.n _ nd fun q hq => by
    obtain ⟨e, he, rfl⟩ := List.mem_map.mp hq
    exact lt e he
  rwa [List.length_map] at this
theorem key_word {fm : Fm} (nd : (fm.map (·.1)).Nodup) {q : Nat} {w v : List Nat} (h : (q, w) ∈ fm) (k : (q, v) ∈ fm) : w = v := by
  have a := get_wd nd h
  have b := get_wd nd k
  rw [a] at b
  exact S_inj (D.str.inj (Option.some.inj b))
/-- within a level: what is new, and who has been gone through -/
structure Bs (A : Au) (ss : List Nat) (fm0 : Fm) (i : Nat) (fm : Fm) (new : List Nat) (dn : List Nat × Nat → Nat → Prop) : Prop where
  nd : (fm.map (·.1)).Nodup
  lt : ∀ e ∈ fm, e.1 < A.n
  first : ∀ e ∈ fm, IsF A ss e.1 0 e.2
  old : ∀ e ∈ fm0, e ∈ fm
  mn : ∀ q, q ∈ new ↔ ∃ w, (q, w) ∈ fm ∧ w.length = i + 1
  ndn : new.Nodup
  len : ∀ e ∈ fm, e ∈ fm0 ∨ e.2.length = i + 1
  md : ∀ c o, dn c o → ∃ w, (o, w) ∈ fm
  sz : fm.length = fm0.length + new.length
/-- the candidates of a level, in order -/
structure Cd (A : Au) (fm0 : Fm) (lvl : List Nat) (cs : List (List Nat × Nat)) : Prop where
  mem : ∀ c, c ∈ cs ↔ ∃ w l, l ∈ A.L ∧ c.2 ∈ lvl ∧ (c.2, w) ∈ fm0 ∧ c.1 = w ++ [l]
  ord : cs.Pairwise fun c d => ¬ d.1 < c.1
theorem Bs.put {A : Au} (h : A.Ok) {ss : List Nat} {fm0 : Fm} {lvl : List Nat} {i : Nat} (B0 : Bw A ss fm0 lvl i) {cs : List (List Nat × Nat)} (C : Cd A fm0 lvl cs) {fm : Fm} {new : List Nat} {j : Nat} {c : List Nat × Nat} (hj : cs[j]? = some c)
    {dn : List Nat × Nat → Nat → Prop} (B : Bs A ss fm0 i fm new dn) (hdn : ∀ j' c', j' < j → cs[j']? = some c' → ∀ w l, c'.1 = w ++ [l] → ∀ o, (c'.2, l, o) ∈ A.ed → dn c' o)
    {w : List Nat} {l o : Nat} (hc : c.1 = w ++ [l]) (e : (c.2, l, o) ∈ A.ed) (no : ∀ w, (o, w) ∉ fm) :
    Bs A ss fm0 i (fm ++ [(o, c.1)]) (new ++ [o]) (fun c' o' => dn c' o' ∨ (c' = c ∧ o' = o)) := by
  obtain ⟨w', l', hl, hlv, hw, hc'⟩ := (C.mem c).mp (List.mem_of_getElem? hj)
  have e1 : w = w' ∧ l = l' := by
    rw [hc] at hc'
    have := List.append_inj' hc' rfl
    exact ⟨this.1, by simpa using this.2⟩
  obtain ⟨rfl, rfl⟩ := e1
  have hon : o < A.n := (h.ed _ e).2.2
  obtain ⟨w2, hw2, hwl⟩ := (B0.ml c.2).mp hlv
  have e2 := key_word B0.nd hw hw2
  subst e2
  have fo : IsF A ss o 0 c.1 := by
    rw [hc]
    obtain ⟨p, hp, pw⟩ := (B0.first _ hw).pth
    refine ⟨Nat.zero_le _, ⟨p, hp, pth_app.mpr ⟨c.2, pw, o, e, rfl⟩⟩, fun x _ hx lt => ?_⟩
    obtain ⟨p2, hp2, px⟩ := hx
    have noF : ∀ y, y.length ≤ i → (∃ p ∈ ss, Pth A y p o) → False := fun y hy hp => by
      obtain ⟨v, hv⟩ := B0.full o y hy hp
      exact no v (B.old _ hv)
    have xl : x.length = i + 1 := by
      have a : ¬ x.length ≤ i := fun z => noF x z ⟨p2, hp2, px⟩
      rcases lt with z | ⟨z, _⟩
      · rw [List.length_append, hwl] at z
        simp at z
        omega
      · rw [List.length_append, hwl] at z
        exact z
    have xne : x ≠ [] := fun z => by
      rw [z] at xl
      cases xl
    obtain ⟨x0, m, rfl⟩ : ∃ a b, x = a ++ [b] := ⟨x.dropLast, x.getLast xne, (List.dropLast_concat_getLast xne).symm⟩
    have x0l : x0.length = i := by
      rw [List.length_append] at xl
      simpa using xl
    obtain ⟨r, pr, s, er, es⟩ := pth_app.mp px
    have es : s = o := es
    subst es
    obtain ⟨wr, hwr⟩ := B0.full r x0 (by omega) ⟨p2, hp2, pr⟩
    have fr := B0.first _ hwr
    have wrl : wr.length = i := by
      have a := B0.le _ hwr
      have a : wr.length ≤ i := a
      by_cases z : wr.length = i
      · exact z
      · exfalso
        obtain ⟨p3, hp3, pq⟩ := fr.pth
        exact noF (wr ++ [m]) (by rw [List.length_append]; simp; omega) ⟨p3, hp3, pth_app.mpr ⟨r, pq, s, er, rfl⟩⟩
    have cm : (wr ++ [m], r) ∈ cs := (C.mem _).mpr ⟨wr, m, (h.ed _ er).2.1, (B0.ml r).mpr ⟨wr, hwr, wrl⟩, hwr, rfl⟩
    have l1 : ¬ ltW (x0 ++ [m]) (wr ++ [m]) := fun z => fr.min x0 (Nat.zero_le _) ⟨p2, hp2, pr⟩ (ltW_snoc_inv z)
    have l2 : ltW (wr ++ [m]) c.1 := by
      rw [hc]
      exact le_ltW l1 lt
    have l3 : wr ++ [m] < c.1 := by
      rcases l2 with z | z
      · rw [hc, List.length_append, List.length_append, wrl, hwl] at z
        simp at z
      · exact z.2
    obtain ⟨j', hj', ej'⟩ := List.getElem_of_mem cm
    have jl : j' < j := by
      obtain ⟨hjl, hjc⟩ := List.getElem?_eq_some_iff.mp hj
      by_cases z : j' = j
      · subst z
        rw [hjc] at ej'
        rw [ej'] at l3
        exact absurd l3 (List.lt_irrefl _)
      · apply Classical.byContradiction
        intro n
        have := List.pairwise_iff_getElem.mp C.ord j j' hjl hj' (by omega)
        rw [hjc, ej'] at this
        exact this l3
    have gj : cs[j']? = some (wr ++ [m], r) := by rw [List.getElem?_eq_getElem hj', ej']
    have dd := hdn j' _ jl gj wr m rfl s er
    obtain ⟨v, hv⟩ := B.md _ _ dd
    exact no v hv
  refine ⟨?_, fun e he => ?_, fun e he => ?_, fun e he => List.mem_append_left _ (B.old e he), fun q => ?_, ?_, fun e he => ?_, fun c' o' hd => ?_, ?_⟩
  · rw [List.map_append]
    refine List.nodup_append.mpr ⟨B.nd, by simp, fun x hx y hy z => ?_⟩
    have hy : y = o := by simpa using hy
    obtain ⟨e, he, h3⟩ := List.mem_map.mp hx
    have h3 : e.1 = x := h3
    refine no e.2 ?_
    rw [← hy, ← z, ← h3]
    exact he
  · rcases List.mem_append.mp he with he | he
    · exact B.lt e he
    · cases List.mem_singleton.mp he
      exact hon
  · rcases List.mem_append.mp he with he | he
    · exact B.first e he
    · cases List.mem_singleton.mp he
      exact fo
  · rw [List.mem_append, B.mn, List.mem_singleton]
    constructor
    · rintro (⟨v, hv, hl⟩ | rfl)
      · exact ⟨v, List.mem_append_left _ hv, hl⟩
      · exact ⟨c.1, by simp, by rw [hc, List.length_append, hwl]; rfl⟩
    · rintro ⟨v, hv, hl⟩
      rcases List.mem_append.mp hv with hv | hv
      · exact .inl ⟨v, hv, hl⟩
      · cases List.mem_singleton.mp hv
        exact .inr rfl
  · refine List.nodup_append.mpr ⟨B.ndn, by simp, fun x hx y hy z => ?_⟩
    cases List.mem_singleton.mp hy
    obtain ⟨v, hv, _⟩ := (B.mn x).mp hx
    exact no v (z ▸ hv)
  · rcases List.mem_append.mp he with he | he
    · exact B.len e he
    · cases List.mem_singleton.mp he
      exact .inr (by show c.1.length = _; rw [hc, List.length_append, hwl]; rfl)
  · rcases hd with hd | ⟨_, rfl⟩
    · obtain ⟨v, hv⟩ := B.md _ _ hd
      exact ⟨v, List.mem_append_left _ hv⟩
    · exact ⟨c.1, by simp⟩
  · rw [List.length_append, List.length_append, B.sz]
    simp
    omega
theorem Bs.skip {A : Au} {ss : List Nat} {fm0 : Fm} {i : Nat} {fm : Fm} {new : List Nat} {dn : List Nat × Nat → Nat → Prop} (B : Bs A ss fm0 i fm new dn) {c : List Nat × Nat} {o : Nat} {w : List Nat} (h : (o, w) ∈ fm) :
    Bs A ss fm0 i fm new (fun c' o' => dn c' o' ∨ (c' = c ∧ o' = o)) :=
  ⟨B.nd, B.lt, B.first, B.old, B.mn, B.ndn, B.len, fun c' o' hd => by
    rcases hd with hd | ⟨_, rfl⟩
    · exact B.md _ _ hd
    · exact ⟨w, h⟩, B.sz⟩
theorem Bs.congr {A : Au} {ss : List Nat} {fm0 : Fm} {i : Nat} {fm : Fm} {new : List Nat} {dn dn' : List Nat × Nat → Nat → Prop} (B : Bs A ss fm0 i fm new dn) (e : ∀ c o, dn' c o → dn c o) : Bs A ss fm0 i fm new dn' :=
  ⟨B.nd, B.lt, B.first, B.old, B.mn, B.ndn, B.len, fun c o h => B.md c o (e c o h), B.sz⟩
theorem Bs.done {A : Au} (h : A.Ok) {ss : List Nat} {fm0 : Fm} {lvl : List Nat} {i : Nat} (B0 : Bw A ss fm0 lvl i) (ne : lvl ≠ []) {cs : List (List Nat × Nat)} (C : Cd A fm0 lvl cs) {fm : Fm} {new : List Nat} {dn : List Nat × Nat → Nat → Prop} (B : Bs A ss fm0 i fm new dn)
    (hdn : ∀ c ∈ cs, ∀ w l, c.1 = w ++ [l] → ∀ o, (c.2, l, o) ∈ A.ed → dn c o) : Bw A ss fm new (i + 1) := by
  refine ⟨B.nd, B.lt, B.first, fun q x hx hp => ?_, B.mn, fun e he => ?_, B.ndn, ?_⟩
  · by_cases z : x.length ≤ i
    · obtain ⟨w, hw⟩ := B0.full q x z hp
      exact ⟨w, B.old _ hw⟩
    · obtain ⟨p, hp, px⟩ := hp
      have xne : x ≠ [] := fun z2 => z (by rw [z2]; exact Nat.zero_le _)
      obtain ⟨x0, m, rfl⟩ : ∃ a b, x = a ++ [b] := ⟨x.dropLast, x.getLast xne, (List.dropLast_concat_getLast xne).symm⟩
      have x0l : x0.length = i := by
        rw [List.length_append] at hx z
        simp at hx z
        omega
      obtain ⟨r, pr, s, er, es⟩ := pth_app.mp px
      have es : s = q := es
      subst es
      obtain ⟨wr, hwr⟩ := B0.full r x0 (by omega) ⟨p, hp, pr⟩
      by_cases wl : wr.length = i
      · have cm : (wr ++ [m], r) ∈ cs := (C.mem _).mpr ⟨wr, m, (h.ed _ er).2.1, (B0.ml r).mpr ⟨wr, hwr, wl⟩, hwr, rfl⟩
        exact B.md _ _ (hdn _ cm wr m rfl s er)
      · have a : wr.length ≤ i := B0.le _ hwr
        obtain ⟨p3, hp3, pq⟩ := (B0.first _ hwr).pth
        obtain ⟨w, hw⟩ := B0.full s (wr ++ [m]) (by rw [List.length_append]; simp; omega) ⟨p3, hp3, pth_app.mpr ⟨r, pq, s, er, rfl⟩⟩
        exact ⟨w, B.old _ hw⟩
  · rcases B.len e he with z | z
    · exact Nat.le_succ_of_le (B0.le e z)
    · omega
  · have a := B0.sz
    rw [if_neg ne] at a
    rw [B.sz]
    split
    · omega
    · rename_i hn
      have := List.length_pos_iff.mpr hn
      omega
/-- the end -/
theorem Bw.all {A : Au} (h : A.Ok) {ss : List Nat} {fm : Fm} {i : Nat} (B : Bw A ss fm [] i) (q : Nat) (x : List Nat) (hx : ∃ p ∈ ss, Pth A x p q) : ∃ w, (q, w) ∈ fm := by
  have key : ∀ (m : Nat) (x : List Nat) (q : Nat), x.length = m → (∃ p ∈ ss, Pth A x p q) → ∃ w, (q, w) ∈ fm := by
    intro m
    induction m with
    | zero => exact fun x q hm hx => B.full q x (by omega) hx
    | succ m ih =>
      intro x q hm hx
      obtain ⟨p, hp, px⟩ := hx
      have xne : x ≠ [] := fun z => by
        rw [z] at hm
        cases hm
      obtain ⟨x0, l, rfl⟩ : ∃ a b, x = a ++ [b] := ⟨x.dropLast, x.getLast xne, (List.dropLast_concat_getLast xne).symm⟩
      rw [List.length_append] at hm
      obtain ⟨r, pr, s, er, es⟩ := pth_app.mp px
      have es : s = q := es
      subst es
      obtain ⟨wr, hwr⟩ := ih x0 r (by simpa using hm) ⟨p, hp, pr⟩
      have a : wr.length ≤ i := B.le _ hwr
      have b : wr.length ≠ i := fun z => by
        have := (B.ml r).mpr ⟨wr, hwr, z⟩
        cases this
      obtain ⟨p3, hp3, pq⟩ := (B.first _ hwr).pth
      exact B.full s (wr ++ [l]) (by rw [List.length_append]; simp; omega) ⟨p3, hp3, pth_app.mpr ⟨r, pq, s, er, rfl⟩⟩
  exact key _ x q rfl hx
end K63

namespace K63
open PySem PySem.Spec L2 DL
def oB : FS := fSeq (fIfS (fTest (fNotIn (fVar 8) (fLook 4))) (fSeq (fPut 4 (fVar 8) (fVar 7)) (fSeq (fAppend 6 (fVar 8)) (fNx))) (fNx)) (fNx)
def pB : FS := fSeq (fFor (fItems (fGet2 (fBinN ixD 0 (fVar 3)) (fBinN ixD 7 (fC (.int (-1)))) (fOfL (fLst (fNil))))) (gSet 8) oB) (fNx)
def cF : FL := fDc (fItems (fVar 5)) (gSet 3) (fun ρ => some (true, ρ)) (bodyIn (fItems (fVar 2)) (gSet 7) (fun ρ => some (true, ρ)) (bodyL (fTup (fCons (fBin addD (fBinN ixD 4 (fVar 3)) (fLook 7)) (fCons (fVar 3) (fNil))))) [7]) [3, 7] []
def wB : FS := fSeq (fSetL (fLst (fNil)) 6) (fSeq (fFor (fItems (fOfL (fAppL sortedD (fOfL cF)))) (gTupD 2 (gsCons (gSet 7) (gsCons (gSet 3) (gsNil)))) pB) (fSeq (fAsg (fVar 6) (gSet 5)) (fNx)))
theorem fw_eq : b_first_words = fSeq (fSetK (fDc (fItems (fVar 1)) (gSet 3) (fun ρ => some (true, ρ)) (bodyK (fVar 3) (fC (.str ""))) [3] []) 4) (fSeq (fSetL (fAppL listD0 (fLook 1)) 5) (fSeq (fun ρ => whileD (fTru (fLook 5)) wB 3000 ρ) (fSeq (fRet (fVar 4)) (fNx)))) := rfl
section
variable {A : Au} {ss : List Nat}
theorem oB_old {fm : Fm} {c5 : Sl} {new : List Nat} {s o : Nat} {w v : List Nat} (nd : (fm.map (·.1)).Nodup) (hv : (o, v) ∈ fm) :
    oB [.d (stepsD A), .d (.tup (nD ss)), .d (.str (S A.L)), .d (.int s), .mK (wdK fm), c5, .ml (nD new), .d (.str (S w)), .d (.int o)] = some (.nx [.d (stepsD A), .d (.tup (nD ss)), .d (.str (S A.L)), .d (.int s), .mK (wdK fm), c5, .ml (nD new), .d (.str (S w)), .d (.int o)]) := by
  have g := get_wd nd hv
  unfold oB
  simp [e_var, g]
theorem oB_new {fm : Fm} {c5 : Sl} {new : List Nat} {s o : Nat} {w : List Nat} (no : ∀ v, (o, v) ∉ fm) (l1 : fm.length < 1000) (l2 : new.length < 1000) :
    oB [.d (stepsD A), .d (.tup (nD ss)), .d (.str (S A.L)), .d (.int s), .mK (wdK fm), c5, .ml (nD new), .d (.str (S w)), .d (.int o)] = some (.nx [.d (stepsD A), .d (.tup (nD ss)), .d (.str (S A.L)), .d (.int s), .mK (wdK (fm ++ [(o, w)])), c5, .ml (nD (new ++ [o])), .d (.str (S w)), .d (.int o)]) := by
  have g := get_wd_no no
  have p := put_wd (w := w) no
  have l1' : (wdK fm).length < 1000000 := by
    rw [wd_len]
    omega
  have l2' : new.length < 1000000 := by omega
  unfold oB
  simp [e_var, g, l1', p, nD_snoc, l2']
theorem pB_ok (h : A.Ok) {fm0 : Fm} {lvl : List Nat} {i : Nat} (B0 : Bw A ss fm0 lvl i) {cs : List (List Nat × Nat)} (C : Cd A fm0 lvl cs) {j : Nat} {c : List Nat × Nat} (hj : cs[j]? = some c) {w : List Nat} {l : Nat} (hc : c.1 = w ++ [l]) (hs : c.2 < A.n) (hwl : w.length < 100)
    {dn : List Nat × Nat → Nat → Prop} (hdn : ∀ j' c', j' < j → cs[j']? = some c' → ∀ w l, c'.1 = w ++ [l] → ∀ o, (c'.2, l, o) ∈ A.ed → dn c' o) {fm : Fm} {new : List Nat} (B : Bs A ss fm0 i fm new dn) (c5 c8 : Sl) :
    ∃ fm' new' c8', pB [.d (stepsD A), .d (.tup (nD ss)), .d (.str (S A.L)), .d (.int c.2), .mK (wdK fm), c5, .ml (nD new), .d (.str (S c.1)), c8] = some (.nx [.d (stepsD A), .d (.tup (nD ss)), .d (.str (S A.L)), .d (.int c.2), .mK (wdK fm'), c5, .ml (nD new'), .d (.str (S c.1)), c8']) ∧
      Bs A ss fm0 i fm' new' (fun c' o' => dn c' o' ∨ (c' = c ∧ (c.2, l, o') ∈ A.ed)) := by
  have n4 := h.n4
  obtain ⟨row, r1, r2⟩ := steps_get (A := A) (l := l) hs
  have ll := ixLast c.1 (by rw [hc, List.length_append]; simp; omega)
  have gl : c.1.getLast? = some l := by rw [hc]; simp
  rw [gl] at ll
  have ll : ixD (.str (S c.1)) (.int (-1)) = some (.str (S [l])) := ll
  obtain ⟨ρ', k1, fm', new', c8', rfl, B'⟩ := forD_inv (g := gSet 8) (f := oB) (I := fun m ρ => ∃ fm' new' c8', ρ = [.d (stepsD A), .d (.tup (nD ss)), .d (.str (S A.L)), .d (.int c.2), .mK (wdK fm'), c5, .ml (nD new'), .d (.str (S c.1)), c8'] ∧
      Bs A ss fm0 i fm' new' (fun c' o' => dn c' o' ∨ (c' = c ∧ o' ∈ (succ A c.2 l).take m))) (nD (succ A c.2 l)) 0 (fun m d ρ hd hI => by
      obtain ⟨fm', new', c8', rfl, B'⟩ := hI
      unfold nD at hd
      rw [List.getElem?_map] at hd
      obtain ⟨o, ho, rfl⟩ := Option.map_eq_some_iff.mp hd
      have he := mem_succ.mp (List.mem_of_getElem? ho)
      have cg : ∀ {fm new}, Bs A ss fm0 i fm new (fun c' o' => (dn c' o' ∨ (c' = c ∧ o' ∈ (succ A c.2 l).take (0 + m))) ∨ (c' = c ∧ o' = o)) → Bs A ss fm0 i fm new (fun c' o' => dn c' o' ∨ (c' = c ∧ o' ∈ (succ A c.2 l).take (0 + m + 1))) := fun hh => hh.congr fun c' o' z => by
        rw [Nat.zero_add, List.take_add_one, ho] at z
        rcases z with z | ⟨z1, z2⟩
        · exact .inl (.inl z)
        · rcases List.mem_append.mp z2 with z2 | z2
          · exact .inl (.inr ⟨z1, by rw [Nat.zero_add]; exact z2⟩)
          · exact .inr ⟨z1, by simpa using z2⟩
      by_cases ex : ∃ v, (o, v) ∈ fm'
      · obtain ⟨v, hv⟩ := ex
        exact ⟨_, _, rfl, oB_old B'.nd hv, fm', new', _, rfl, cg (B'.skip hv)⟩
      · have no : ∀ v, (o, v) ∉ fm' := fun v hv => ex ⟨v, hv⟩
        have fl := fm_len B'.nd B'.lt
        have sz := B'.sz
        exact ⟨_, _, rfl, oB_new no (by omega) (by omega), _, _, _, rfl, cg (B'.put h B0 C hj (fun j' c' a b w l e o f => .inl (hdn j' c' a b w l e o f)) hc he no)⟩) _ ⟨fm, new, c8, rfl, B.congr fun c' o' z => by
        rcases z with z | ⟨_, z⟩
        · exact z
        · simp at z⟩
  rw [Nat.zero_add, List.take_of_length_le (by simp)] at B'
  refine ⟨fm', new', c8', ?_, B'.congr fun c' o' z => ?_⟩
  · unfold pB
    simp [e_var, r1, ll, r2, k1]
  · rcases z with z | ⟨z1, z2⟩
    · exact .inl z
    · exact .inr ⟨z1, mem_succ.mpr z2⟩
theorem cF_ok (h : A.Ok) {fm0 : Fm} {lvl : List Nat} {i : Nat} (B0 : Bw A ss fm0 lvl i) (s5 : Sl) (h5 : s5 = .ml (nD lvl) ∨ s5 = .d (.lst (nD lvl))) (c3 c6 c7 c8 : Sl) :
    ∃ cs : List (List Nat × Nat), cF [.d (stepsD A), .d (.tup (nD ss)), .d (.str (S A.L)), c3, .mK (wdK fm0), s5, c6, c7, c8] = some (cs.map cdD, [.d (stepsD A), .d (.tup (nD ss)), .d (.str (S A.L)), .no, .mK (wdK fm0), .d (.lst (nD lvl)), c6, .no, c8]) ∧
      (∀ c, c ∈ cs ↔ ∃ w l, l ∈ A.L ∧ c.2 ∈ lvl ∧ (c.2, w) ∈ fm0 ∧ c.1 = w ++ [l]) := by
  have n4 := h.n4
  have hL : A.L.length ≤ 2 := by rcases h.L with e | e <;> rw [e] <;> decide
  have fl := fm_len B0.nd B0.lt
  have sz := B0.sz
  have lvn : ∀ s ∈ lvl, s < A.n := fun s hs => by
    obtain ⟨w, hw, _⟩ := (B0.ml s).mp hs
    exact B0.lt _ hw
  have lvl4 := len_le A.n lvl B0.ndl lvn
  have inner : ∀ (s : Nat) (w : List Nat), (s, w) ∈ fm0 → ∀ (L2 : List Nat) (cs0 : List (List Nat × Nat)), cs0.length + L2.length < 1000 → itD (gSet 7) (fun ρ => some (true, ρ)) (bodyL (fTup (fCons (fBin addD (fBinN ixD 4 (fVar 3)) (fLook 7)) (fCons (fVar 3) (fNil))))) [7] (L2.map fun c => D.str (S [c])) (cs0.map cdD)
      [.d (stepsD A), .d (.tup (nD ss)), .d (.str (S A.L)), .d (.int s), .mK (wdK fm0), .d (.lst (nD lvl)), c6, .no, c8] = some ((cs0 ++ L2.map fun l => (w ++ [l], s)).map cdD, [.d (stepsD A), .d (.tup (nD ss)), .d (.str (S A.L)), .d (.int s), .mK (wdK fm0), .d (.lst (nD lvl)), c6, .no, c8]) := by
    intro s w hw L2
    induction L2 with
    | nil =>
      intro cs0 _
      simp [itD]
    | cons l L2 ih =>
      intro cs0 hl
      rw [List.length_cons] at hl
      have g := get_wd B0.nd hw
      have wl : w.length ≤ i := B0.le _ hw
      have ad := addS w [l] (by simp; omega)
      have l1 : cs0.length < 1000000 := by omega
      have := ih (cs0 ++ [(w ++ [l], s)]) (by rw [List.length_append]; simp; omega)
      have cd : D.tup [.str (S (w ++ [l])), .int s] = cdD (w ++ [l], s) := rfl
      rw [List.map_cons, itD]
      simp [e_var, g, ad, l1, cd]
      simpa using this
  obtain ⟨acc, k1, cs, rfl, k2, k3⟩ := itD_inv (g := gSet 3) (c := fun ρ => some (true, ρ)) (b := bodyIn (fItems (fVar 2)) (gSet 7) (fun ρ => some (true, ρ)) (bodyL (fTup (fCons (fBin addD (fBinN ixD 4 (fVar 3)) (fLook 7)) (fCons (fVar 3) (fNil))))) [7]) (vs := [3, 7]) (ρ0 := [.d (stepsD A), .d (.tup (nD ss)), .d (.str (S A.L)), .no, .mK (wdK fm0), .d (.lst (nD lvl)), c6, .no, c8])
    (I := fun j acc => ∃ cs : List (List Nat × Nat), acc = cs.map cdD ∧ cs.length ≤ 2 * j ∧ ∀ c, c ∈ cs ↔ ∃ w l, l ∈ A.L ∧ c.2 ∈ lvl.take j ∧ (c.2, w) ∈ fm0 ∧ c.1 = w ++ [l]) (nD lvl) 0 (fun j d acc hd hI => by
      obtain ⟨cs, rfl, hl, hI⟩ := hI
      unfold nD at hd
      rw [List.getElem?_map] at hd
      obtain ⟨s, hs, rfl⟩ := Option.map_eq_some_iff.mp hd
      have hsm := List.mem_of_getElem? hs
      have jl : j < lvl.length := (List.getElem?_eq_some_iff.mp hs).1
      obtain ⟨w, hw, _⟩ := (B0.ml s).mp hsm
      have k := inner s w hw A.L cs (by omega)
      refine ⟨_, true, _, rfl, rfl, fun z => (by cases z), fun _ => ⟨(cs ++ A.L.map fun l => (w ++ [l], s)).map cdD, [.d (stepsD A), .d (.tup (nD ss)), .d (.str (S A.L)), .d (.int s), .mK (wdK fm0), .d (.lst (nD lvl)), c6, .no, c8], ?_, rfl, _, rfl, ?_, fun c => ?_⟩⟩
      · simp [e_var, itemsS]
        simpa using k
      · rw [List.length_append, List.length_map]
        omega
      · rw [List.mem_append, hI, Nat.zero_add, List.take_add_one, hs]
        constructor
        · rintro (⟨w, l, a, b, c1, d⟩ | z)
          · exact ⟨w, l, a, List.mem_append_left _ b, c1, d⟩
          · obtain ⟨l, hl, rfl⟩ := List.mem_map.mp z
            exact ⟨w, l, hl, by simp, hw, rfl⟩
        · rintro ⟨w2, l, a, b, c1, d⟩
          rcases List.mem_append.mp b with b | b
          · exact .inl ⟨w2, l, a, b, c1, d⟩
          · have b : c.2 = s := by simpa using b
            rw [b] at c1
            have := key_word B0.nd c1 hw
            subst this
            exact .inr (List.mem_map.mpr ⟨l, a, by rw [← d, ← b]⟩)) [] ⟨[], rfl, Nat.zero_le _, fun c => by simp⟩
  rw [Nat.zero_add, List.take_of_length_le (by simp)] at k3
  refine ⟨cs, ?_, k3⟩
  unfold cF
  rcases h5 with rfl | rfl
  · simp [e_var, k1]
  · simp [e_var, k1]
theorem wB_ok (h : A.Ok) {fm0 : Fm} {lvl : List Nat} {i : Nat} (B0 : Bw A ss fm0 lvl i) (ne : lvl ≠ []) (s5 : Sl) (h5 : s5 = .ml (nD lvl) ∨ s5 = .d (.lst (nD lvl))) (c3 c6 c7 c8 : Sl) :
    ∃ fm new c3' c6' c7' c8', wB [.d (stepsD A), .d (.tup (nD ss)), .d (.str (S A.L)), c3, .mK (wdK fm0), s5, c6, c7, c8] = some (.nx [.d (stepsD A), .d (.tup (nD ss)), .d (.str (S A.L)), c3', .mK (wdK fm), .d (.lst (nD new)), c6', c7', c8']) ∧
      Bw A ss fm new (i + 1) ∧ fm.length = fm0.length + new.length := by
  have n4 := h.n4
  have fl := fm_len B0.nd B0.lt
  have sz := B0.sz
  obtain ⟨cs0, k1, k2⟩ := cF_ok h B0 s5 h5 c3 (.ml []) c7 c8
  obtain ⟨cs, k3, k4, k5, k6⟩ := sort_cd cs0 (fun c hc => by
    obtain ⟨w, l, hl, _, hw, e⟩ := (k2 c).mp hc
    rw [e]
    exact ((B0.first _ hw).wd h).app fun m hm => by
      cases List.mem_singleton.mp hm
      exact h.lt hl)
  have C : Cd A fm0 lvl cs := ⟨fun c => by rw [k4, k2], k6⟩
  obtain ⟨ρ', q1, fm, new, d3, d7, d8, rfl, B⟩ := forD_inv (g := gTupD 2 (gsCons (gSet 7) (gsCons (gSet 3) (gsNil)))) (f := pB) (I := fun j ρ => ∃ fm new d3 d7 d8, ρ = [.d (stepsD A), .d (.tup (nD ss)), .d (.str (S A.L)), d3, .mK (wdK fm), .d (.lst (nD lvl)), .ml (nD new), d7, d8] ∧
      Bs A ss fm0 i fm new (fun c o => ∃ j', j' < j ∧ cs[j']? = some c ∧ ∃ w l, c.1 = w ++ [l] ∧ (c.2, l, o) ∈ A.ed)) (cs.map cdD) 0 (fun j d ρ hd hI => by
      obtain ⟨fm, new, d3, d7, d8, rfl, B⟩ := hI
      rw [List.getElem?_map] at hd
      obtain ⟨c, hc, rfl⟩ := Option.map_eq_some_iff.mp hd
      obtain ⟨w, l, hl, hlv, hw, e⟩ := (C.mem c).mp (List.mem_of_getElem? hc)
      have wl : w.length ≤ i := B0.le _ hw
      obtain ⟨fm', new', d8', g1, g2⟩ := pB_ok h B0 C hc e (B0.lt _ hw) (by omega) (dn := fun c o => ∃ j', j' < 0 + j ∧ cs[j']? = some c ∧ ∃ w l, c.1 = w ++ [l] ∧ (c.2, l, o) ∈ A.ed) (fun j' c' a b w l e o f => ⟨j', by omega, b, w, l, e, f⟩) B (.d (.lst (nD lvl))) d8
      refine ⟨_, _, rfl, g1, fm', new', _, _, d8', rfl, g2.congr fun c' o' z => ?_⟩
      obtain ⟨j', a, b, w2, l2, e2, f⟩ := z
      by_cases z : j' = j
      · subst z
        rw [hc] at b
        cases b
        rw [e] at e2
        have := (List.append_inj' e2 rfl).2
        have : l = l2 := by simpa using this
        subst this
        exact .inr ⟨rfl, f⟩
      · exact .inl ⟨j', by omega, b, w2, l2, e2, f⟩) [.d (stepsD A), .d (.tup (nD ss)), .d (.str (S A.L)), .no, .mK (wdK fm0), .d (.lst (nD lvl)), .ml (nD []), .no, c8]
      ⟨fm0, [], _, _, _, rfl, B0.nd, B0.lt, B0.first, fun e he => he, fun q => ⟨fun z => (by cases z), fun ⟨w, hw, z⟩ => by
        have : w.length ≤ i := B0.le _ hw
        omega⟩, List.nodup_nil, fun e he => .inl he, fun c o ⟨j', a, _⟩ => absurd a (Nat.not_lt_zero _), rfl⟩
  have Bd := B.done h B0 ne C (fun c hc w l e o f => by
    obtain ⟨j, hj, ej⟩ := List.getElem_of_mem hc
    exact ⟨j, by simp; exact hj, by rw [List.getElem?_eq_getElem hj, ej], w, l, e, f⟩)
  have q1 : forD (gTupD 2 (gsCons (gSet 7) (gsCons (gSet 3) (gsNil)))) pB (cs.map cdD) [.d (stepsD A), .d (.tup (nD ss)), .d (.str (S A.L)), .no, .mK (wdK fm0), .d (.lst (nD lvl)), .ml [], .no, c8] = _ := q1
  refine ⟨fm, new, d3, .d (.lst (nD new)), d7, d8, ?_, Bd, B.sz⟩
  unfold wB
  simp only [e_seq, e_setL, e_lst, e_nil, Option.bind_some, List.length_nil, Nat.zero_le, if_true, e_for, e_items, e_ofL, e_appL, List.set_cons_succ, List.set_cons_zero, k1, k3, it_lst, q1, e_asg, e_var, List.getElem?_cons_succ, List.getElem?_cons_zero, e_gset, e_nx]
theorem first_words_ok (h : A.Ok) (hs : ∀ p ∈ ss, p < A.n) (nd : ss.Nodup) : ∃ fm i, f_first_words [stepsD A, .tup (nD ss), .str (S A.L)] = some (.dk (wdK fm)) ∧ Bw A ss fm [] i := by
  have n4 := h.n4
  have sl := len_le A.n ss nd hs
  obtain ⟨kvs, k1, rfl⟩ := itD_inv (g := gSet 3) (c := fun ρ => some (true, ρ)) (b := bodyK (fVar 3) (fC (.str ""))) (vs := [3]) (ρ0 := [.d (stepsD A), .d (.tup (nD ss)), .d (.str (S A.L)), .no, .no, .no, .no, .no, .no])
    (I := fun i kvs => kvs = wdK ((ss.map fun p => (p, ([] : List Nat))).take i)) (nD ss) 0 (fun i d acc hd hI => by
      rw [Nat.zero_add] at hI ⊢
      subst hI
      unfold nD at hd
      rw [List.getElem?_map] at hd
      obtain ⟨p, hp, rfl⟩ := Option.map_eq_some_iff.mp hd
      have l1 : (wdK ((ss.map fun p => (p, ([] : List Nat))).take i)).length < 1000000 := by
        rw [wd_len, List.length_take, List.length_map]
        omega
      have gi : (ss.map fun p => (p, ([] : List Nat)))[i]? = some (p, []) := by
        rw [List.getElem?_map, hp]
        rfl
      have no : ∀ v, (p, v) ∉ (ss.map fun p => (p, ([] : List Nat))).take i := fun v hv => by
        rw [← List.map_take] at hv
        obtain ⟨r, hr, e⟩ := List.mem_map.mp hv
        cases e
        obtain ⟨j, hj, e⟩ := List.mem_take_iff_getElem.mp hr
        obtain ⟨hi, e2⟩ := List.getElem?_eq_some_iff.mp hp
        exact (List.pairwise_iff_getElem.mp nd) j i (by omega) hi (by omega) (e.trans e2.symm)
      have pw := put_wd (w := []) no
      have pw : putD (wdK ((ss.map fun p => (p, ([] : List Nat))).take i)) (.inl (p : Int)) (.str "") = _ := pw
      refine ⟨_, true, _, rfl, rfl, fun z => (by cases z), fun _ => ⟨wdK ((ss.map fun p => (p, ([] : List Nat))).take i ++ [(p, [])]), [.d (stepsD A), .d (.tup (nD ss)), .d (.str (S A.L)), .d (.int p), .no, .no, .no, .no, .no], ?_, rfl, ?_⟩⟩
      · simp [e_var, l1, pw]
      · rw [List.take_add_one, gi]
        rfl) (wdK []) (by rw [List.take_zero])
  rw [Nat.zero_add, List.take_of_length_le (by simp)] at k1
  have B0 : Bw A ss (ss.map fun p => (p, [])) ss 0 := by
    refine ⟨by rw [List.map_map, show ((fun x : Nat × List Nat => x.1) ∘ fun p => (p, [])) = id from rfl, List.map_id]; exact nd, fun e he => ?_, fun e he => ?_, fun q x hx hp => ?_, fun q => ?_, fun e he => ?_, nd, ?_⟩
    · obtain ⟨p, hp, rfl⟩ := List.mem_map.mp he
      exact hs p hp
    · obtain ⟨p, hp, rfl⟩ := List.mem_map.mp he
      refine ⟨Nat.le_refl _, ⟨p, hp, rfl⟩, fun x _ _ lt => ?_⟩
      rcases lt with z | ⟨z, z2⟩
      · simp at z
      · have : x = [] := List.length_eq_zero_iff.mp z
        subst this
        exact List.lt_irrefl _ z2
    · have : x = [] := List.length_eq_zero_iff.mp (by omega)
      subst this
      obtain ⟨p, hp, e⟩ := hp
      cases e
      exact ⟨[], List.mem_map.mpr ⟨_, hp, rfl⟩⟩
    · constructor
      · exact fun hq => ⟨[], List.mem_map.mpr ⟨q, hq, rfl⟩, rfl⟩
      · rintro ⟨w, hw, _⟩
        obtain ⟨p, hp, e⟩ := List.mem_map.mp hw
        cases e
        exact hp
    · obtain ⟨p, hp, rfl⟩ := List.mem_map.mp he
      exact Nat.le_refl _
    · rw [List.length_map]
      split
      · omega
      · rename_i hn
        have := List.length_pos_iff.mpr hn
        omega
  have loop : ∀ (m fuel : Nat) (fm : Fm) (lvl : List Nat) (i : Nat) (s5 c3 c6 c7 c8 : Sl), m < fuel → 2 * (A.n - fm.length) + (if lvl = [] then 0 else 1) ≤ m → (s5 = .ml (nD lvl) ∨ s5 = .d (.lst (nD lvl))) → Bw A ss fm lvl i →
      ∃ ρ', whileD (fTru (fLook 5)) wB fuel [.d (stepsD A), .d (.tup (nD ss)), .d (.str (S A.L)), c3, .mK (wdK fm), s5, c6, c7, c8] = some (.nx ρ') ∧ ∃ fm' i' d3 d5 d6 d7 d8, ρ' = [.d (stepsD A), .d (.tup (nD ss)), .d (.str (S A.L)), d3, .mK (wdK fm'), d5, d6, d7, d8] ∧ Bw A ss fm' [] i' := by
    intro m
    induction m with
    | zero =>
      intro fuel fm lvl i s5 c3 c6 c7 c8 hf hm h5 B
      obtain ⟨fuel, rfl⟩ : ∃ f, fuel = f + 1 := ⟨fuel - 1, by omega⟩
      have e : lvl = [] := by
        apply Classical.byContradiction
        intro n
        rw [if_neg n] at hm
        omega
      subst e
      refine ⟨_, ?_, fm, i, c3, s5, c6, c7, c8, rfl, B⟩
      rcases h5 with rfl | rfl <;> simp [whileD]
    | succ m ih =>
      intro fuel fm lvl i s5 c3 c6 c7 c8 hf hm h5 B
      obtain ⟨fuel, rfl⟩ : ∃ f, fuel = f + 1 := ⟨fuel - 1, by omega⟩
      by_cases e : lvl = []
      · subst e
        refine ⟨_, ?_, fm, i, c3, s5, c6, c7, c8, rfl, B⟩
        rcases h5 with rfl | rfl <;> simp [whileD]
      · obtain ⟨fm', new, d3, d6, d7, d8, q1, B', q2⟩ := wB_ok h B e s5 h5 c3 c6 c7 c8
        have fl := fm_len B'.nd B'.lt
        rw [if_neg e] at hm
        obtain ⟨ρ', q3, q4⟩ := ih fuel fm' new (i + 1) (.d (.lst (nD new))) d3 d6 d7 d8 (by omega) (by
          split
          · rename_i z
            subst z
            simp at q2
            omega
          · rename_i z
            have := List.length_pos_iff.mpr z
            omega) (.inr rfl) B'
        refine ⟨ρ', ?_, q4⟩
        have en : (nD lvl).isEmpty = false := by
          cases lvl with
          | nil => exact absurd rfl e
          | cons _ _ => rfl
        rw [whileD]
        rcases h5 with rfl | rfl
        · simp [en, q1, q3]
        · simp [en, q1, q3]
  obtain ⟨ρ', q1, fm, i, d3, d5, d6, d7, d8, rfl, B⟩ := loop 100 3000 (ss.map fun p => (p, [])) ss 0 (.ml (nD ss)) .no .no .no .no (by decide) (by split <;> omega) (.inl rfl) B0
  refine ⟨fm, i, ?_, B⟩
  have k1 : itD (gSet 3) (fun ρ => some (true, ρ)) (bodyK (fVar 3) (fC (.str ""))) [3] (nD ss) [] [.d (stepsD A), .d (.tup (nD ss)), .d (.str (S A.L)), .no, .no, .no, .no, .no, .no] = _ := k1
  have ld : listD0 (.tup (nD ss)) = some (nD ss) := rfl
  unfold f_first_words
  rw [fw_eq]
  simp [runF, e_var, k1, ld, q1]
end
end K63

namespace K63
open PySem PySem.Spec L2 DL
def encO : Option (List Nat) → D
  | none => .non
  | some b => .str (S b)
/-- the least of some words -/
def Bst (P : List Nat → Prop) : Option (List Nat) → Prop
  | none => ∀ x, ¬ P x
  | some b => P b ∧ ∀ x, P x → ¬ ltW x b
theorem Bst.congr {P Q : List Nat → Prop} (e : ∀ x, P x ↔ Q x) : ∀ {o : Option (List Nat)}, Bst P o → Bst Q o
  | none, h => fun x z => h x ((e x).mpr z)
  | some b, h => ⟨(e b).mp h.1, fun x z => h.2 x ((e x).mpr z)⟩
def upB (c : List Nat) : Option (List Nat) → Option (List Nat)
  | none => some c
  | some b => if ltW c b then some c else some b
theorem Bst.up {P : List Nat → Prop} {c : List Nat} : ∀ {o : Option (List Nat)}, Bst P o → Bst (fun x => P x ∨ x = c) (upB c o)
  | none, h => ⟨.inr rfl, fun x hx => by
    rcases hx with hx | rfl
    · exact absurd hx (h x)
    · exact ltW_irrefl _⟩
  | some b, h => by
    by_cases l : ltW c b
    · have e : upB c (some b) = some c := if_pos l
      rw [e]
      refine ⟨.inr rfl, fun x hx => ?_⟩
      rcases hx with hx | rfl
      · exact fun z => h.2 x hx (ltW_trans z l)
      · exact ltW_irrefl _
    · have e : upB c (some b) = some b := if_neg l
      rw [e]
      refine ⟨.inl h.1, fun x hx => ?_⟩
      rcases hx with hx | rfl
      · exact h.2 x hx
      · exact l
def bB : FS := fSeq (fAsg (fCall f_first_words (fCons (fVar 0) (fCons (fTup (fCons (fVar 5) (fNil))) (fCons (fVar 2) (fNil))))) (gSet 6)) (fSeq (fIfS (fTest (fIn (fVar 1) (fLook 6))) (fSeq (fAsg (fBinN addD 4 (fBinN ixD 6 (fVar 1))) (gSet 7)) (fSeq (fIfS (fOrT (fTest (fIsN false (fVar 3))) (fTest (fBin ltD (fCall f_place (fCons (fVar 7) (fNil))) (fCall f_place (fCons (fVar 3) (fNil)))))) (fSeq (fAsg (fVar 7) (gSet 3)) (fNx)) (fNx)) (fNx))) (fNx)) (fNx))
theorem fb_eq : b_first_back = fSeq (fAsg (fC .non) (gSet 3)) (fSeq (fFor (fItems (fVar 2)) (gSet 4) (fSeq (fFor (fItems (fGet2 (fBinN ixD 0 (fVar 1)) (fVar 4) (fOfL (fLst (fNil))))) (gSet 5) bB) (fNx))) (fSeq (fRet (fVar 3)) (fNx))) := rfl
section
variable {A : Au} {s : Nat}
theorem IsF.len_le {ss : List Nat} {fm : Fm} {i : Nat} {lvl : List Nat} (B : Bw A ss fm lvl i) {q : Nat} {w : List Nat} (h : (q, w) ∈ fm) : w.length ≤ A.n := by
  have a : w.length ≤ i := B.le _ h
  have b := B.sz
  have c := fm_len B.nd B.lt
  omega
/-- words that begin with an edge, and come back as soon as may be -/
def Bk1 (A : Au) (s : Nat) (E : Nat → Nat → Prop) (x : List Nat) : Prop := ∃ l o w, E l o ∧ x = l :: w ∧ IsF A [o] s 0 w
theorem bB_ok (h : A.Ok) (hs : s < A.n) {l o : Nat} (he : (s, l, o) ∈ A.ed) {P : List Nat → Prop} (hP : ∀ x, P x → Wd x ∧ x.length ≤ 100) {b : Option (List Nat)} (hb : Bst P b) (c6 c7 : Sl) :
    ∃ b' c6' c7', bB [.d (stepsD A), .d (.int s), .d (.str (S A.L)), .d (encO b), .d (.str (S [l])), .d (.int o), c6, c7] = some (.nx [.d (stepsD A), .d (.int s), .d (.str (S A.L)), .d (encO b'), .d (.str (S [l])), .d (.int o), c6', c7']) ∧
      Bst (fun x => P x ∨ ∃ w, x = l :: w ∧ IsF A [o] s 0 w) b' := by
  have n4 := h.n4
  have ho := (h.ed _ he).2.2
  obtain ⟨fm, i, k1, B⟩ := first_words_ok (ss := [o]) h (fun p hp => by cases List.mem_singleton.mp hp; exact ho) (by simp)
  have k1 : f_first_words [stepsD A, .tup [.int o], .str (S A.L)] = some (.dk (wdK fm)) := k1
  by_cases ex : ∃ w, (s, w) ∈ fm
  · obtain ⟨w, hw⟩ := ex
    have f := B.first _ hw
    have wl := IsF.len_le B hw
    have wd := f.wd h
    have wd2 : Wd (l :: w) := fun m hm => by
      rcases List.mem_cons.mp hm with rfl | hm
      · exact h.lt (h.ed _ he).2.1
      · exact wd m hm
    have g := get_wd B.nd hw
    have ad := addS [l] w (by simp; omega)
    have ad : addD (.str (S [l])) (.str (S w)) = some (.str (S (l :: w))) := ad
    have p1 := place_ok (l :: w) (by simp; omega)
    have B' := hb.up (c := l :: w)
    have cg : ∀ {o'}, Bst (fun x => P x ∨ x = l :: w) o' → Bst (fun x => P x ∨ ∃ w, x = l :: w ∧ IsF A [o] s 0 w) o' := Bst.congr fun x => by
      constructor
      · rintro (z | z)
        · exact .inl z
        · exact .inr ⟨w, z, f⟩
      · rintro (z | ⟨v, z, f2⟩)
        · exact .inl z
        · rw [f2.uniq f] at z
          exact .inr z
    cases b with
    | none =>
      refine ⟨some (l :: w), .d (.dk (wdK fm)), .d (.str (S (l :: w))), ?_, cg B'⟩
      unfold bB
      simp [e_var, k1, g, ad, encO]
    | some b =>
      obtain ⟨wb, lb⟩ := hP b hb.1
      have p2 := place_ok b (by omega)
      have lt := lt_place wd2 wb
      by_cases z : ltW (l :: w) b
      · refine ⟨some (l :: w), .d (.dk (wdK fm)), .d (.str (S (l :: w))), ?_, cg (by have e : upB (l :: w) (some b) = some (l :: w) := if_pos z; rw [e] at B'; exact B')⟩
        rw [decide_eq_true z, List.length_cons] at lt
        unfold bB
        simp only [e_seq, e_asg, e_call, e_cons, e_tup, e_nil, e_var, List.getElem?_cons_succ, List.getElem?_cons_zero, Option.bind_some, List.length_cons, List.length_nil, Nat.reduceAdd, Nat.reduceLeDiff, if_true, k1, e_gset, List.set_cons_succ, List.set_cons_zero, e_ifS, e_test, e_in, e_bin, e_look, w_d, Option.map_some, mem_dk, ko_int, g, Option.isSome_some, e_binN, ix_dk, ad, e_orT, e_isN, encO, Bool.false_eq_true, if_false, p1, p2, lt, e_nx]
      · refine ⟨some b, .d (.dk (wdK fm)), .d (.str (S (l :: w))), ?_, cg (by have e : upB (l :: w) (some b) = some b := if_neg z; rw [e] at B'; exact B')⟩
        rw [decide_eq_false z, List.length_cons] at lt
        unfold bB
        simp only [e_seq, e_asg, e_call, e_cons, e_tup, e_nil, e_var, List.getElem?_cons_succ, List.getElem?_cons_zero, Option.bind_some, List.length_cons, List.length_nil, Nat.reduceAdd, Nat.reduceLeDiff, if_true, k1, e_gset, List.set_cons_succ, List.set_cons_zero, e_ifS, e_test, e_in, e_bin, e_look, w_d, Option.map_some, mem_dk, ko_int, g, Option.isSome_some, e_binN, ix_dk, ad, e_orT, e_isN, encO, Bool.false_eq_true, if_false, p1, p2, lt, e_nx]
  · have no : ∀ w, (s, w) ∉ fm := fun w hw => ex ⟨w, hw⟩
    have g := get_wd_no no
    refine ⟨b, .d (.dk (wdK fm)), c7, ?_, hb.congr fun x => ⟨.inl, fun z => ?_⟩⟩
    · unfold bB
      simp [e_var, k1, g]
    · rcases z with z | ⟨w, _, f⟩
      · exact z
      · obtain ⟨v, hv⟩ := B.all h s w f.pth
        exact absurd hv (no v)
theorem first_back_ok (h : A.Ok) (hs : s < A.n) : ∃ b, f_first_back [stepsD A, .int s, .str (S A.L)] = some (encO b) ∧ match b with
    | none => ∀ x, x ≠ [] → ¬ Pth A x s s
    | some w => IsF A [s] s 1 w ∧ w.length ≤ 5 := by
  have n4 := h.n4
  have wdB : ∀ {E : Nat → Nat → Prop}, (∀ l o, E l o → (s, l, o) ∈ A.ed) → ∀ x, Bk1 A s E x → Wd x ∧ x.length ≤ 100 := fun {E} hE x hx => by
    obtain ⟨l, o, w, e, rfl, f⟩ := hx
    have he := hE l o e
    have ho := (h.ed _ he).2.2
    obtain ⟨fm, i, k1, B⟩ := first_words_ok (ss := [o]) h (fun p hp => by cases List.mem_singleton.mp hp; exact ho) (by simp)
    obtain ⟨v, hv⟩ := B.all h s w f.pth
    have fv := B.first _ hv
    have ev := f.uniq fv
    have vl := IsF.len_le B hv
    refine ⟨fun m hm => ?_, ?_⟩
    · rcases List.mem_cons.mp hm with rfl | hm
      · exact h.lt (h.ed _ he).2.1
      · exact f.wd h m hm
    · rw [List.length_cons, ev]
      show v.length + 1 ≤ 100
      omega
  have inner : ∀ (l : Nat) (E : Nat → Nat → Prop), (∀ l o, E l o → (s, l, o) ∈ A.ed) → ∀ (b : Option (List Nat)) (c5 c6 c7 : Sl), Bst (Bk1 A s E) b → ∃ b' c5' c6' c7', forD (gSet 5) bB (nD (succ A s l)) [.d (stepsD A), .d (.int s), .d (.str (S A.L)), .d (encO b), .d (.str (S [l])), c5, c6, c7] =
      some (.nx [.d (stepsD A), .d (.int s), .d (.str (S A.L)), .d (encO b'), .d (.str (S [l])), c5', c6', c7']) ∧ Bst (Bk1 A s fun l' o' => E l' o' ∨ (l' = l ∧ (s, l, o') ∈ A.ed)) b' := by
    intro l E hE b c5 c6 c7 hb
    obtain ⟨ρ', k1, b', c5', c6', c7', rfl, k2⟩ := forD_inv (g := gSet 5) (f := bB) (I := fun i ρ => ∃ b' c5 c6 c7, ρ = [.d (stepsD A), .d (.int s), .d (.str (S A.L)), .d (encO b'), .d (.str (S [l])), c5, c6, c7] ∧ Bst (Bk1 A s fun l' o' => E l' o' ∨ (l' = l ∧ o' ∈ (succ A s l).take i)) b') (nD (succ A s l)) 0 (fun i d ρ hd hI => by
        obtain ⟨b', c5, c6, c7, rfl, hB⟩ := hI
        unfold nD at hd
        rw [List.getElem?_map] at hd
        obtain ⟨o, ho, rfl⟩ := Option.map_eq_some_iff.mp hd
        have he := mem_succ.mp (List.mem_of_getElem? ho)
        rw [Nat.zero_add] at hB ⊢
        obtain ⟨b2, d6, d7, g1, g2⟩ := bB_ok h hs he (wdB fun l' o' z => by
          rcases z with z | ⟨rfl, z⟩
          · exact hE _ _ z
          · exact mem_succ.mp (List.take_subset _ _ z)) hB c6 c7
        refine ⟨_, _, rfl, g1, b2, _, d6, d7, rfl, g2.congr fun x => ?_⟩
        rw [List.take_add_one, ho]
        constructor
        · rintro (⟨l', o', w, e, z, f⟩ | ⟨w, z, f⟩)
          · refine ⟨l', o', w, ?_, z, f⟩
            rcases e with e | ⟨e1, e2⟩
            · exact .inl e
            · exact .inr ⟨e1, List.mem_append_left _ e2⟩
          · exact ⟨l, o, w, .inr ⟨rfl, by simp⟩, z, f⟩
        · rintro ⟨l', o', w, e, z, f⟩
          rcases e with e | ⟨e1, e2⟩
          · exact .inl ⟨l', o', w, .inl e, z, f⟩
          · rcases List.mem_append.mp e2 with e2 | e2
            · exact .inl ⟨l', o', w, .inr ⟨e1, e2⟩, z, f⟩
            · have e2 : o' = o := by simpa using e2
              rw [e1] at z
              rw [e2] at f
              exact .inr ⟨w, z, f⟩) _ ⟨b, c5, c6, c7, rfl, hb.congr fun x => by simp [Bk1]⟩
    rw [Nat.zero_add, List.take_of_length_le (by simp)] at k2
    refine ⟨b', c5', c6', c7', k1, k2.congr fun x => ?_⟩
    constructor
    · rintro ⟨l', o', w, e, z, f⟩
      refine ⟨l', o', w, ?_, z, f⟩
      rcases e with e | ⟨e1, e2⟩
      · exact .inl e
      · exact .inr ⟨e1, mem_succ.mp e2⟩
    · rintro ⟨l', o', w, e, z, f⟩
      refine ⟨l', o', w, ?_, z, f⟩
      rcases e with e | ⟨e1, e2⟩
      · exact .inl e
      · exact .inr ⟨e1, mem_succ.mpr e2⟩
  obtain ⟨ρ', k1, b, c4, c5, c6, c7, rfl, k2⟩ := forD_inv (g := gSet 4) (f := fSeq (fFor (fItems (fGet2 (fBinN ixD 0 (fVar 1)) (fVar 4) (fOfL (fLst (fNil))))) (gSet 5) bB) (fNx)) (I := fun i ρ => ∃ b c4 c5 c6 c7, ρ = [.d (stepsD A), .d (.int s), .d (.str (S A.L)), .d (encO b), c4, c5, c6, c7] ∧ Bst (Bk1 A s fun l o => l ∈ A.L.take i ∧ (s, l, o) ∈ A.ed) b) (A.L.map fun c => D.str (S [c])) 0 (fun i d ρ hd hI => by
      obtain ⟨b, c4, c5, c6, c7, rfl, hB⟩ := hI
      rw [List.getElem?_map] at hd
      obtain ⟨l, hl, rfl⟩ := Option.map_eq_some_iff.mp hd
      rw [Nat.zero_add] at hB ⊢
      obtain ⟨b', d5, d6, d7, g1, g2⟩ := inner l _ (fun l' o' z => z.2) b c5 c6 c7 hB
      obtain ⟨row, r1, r2⟩ := steps_get (A := A) (l := l) hs
      refine ⟨[.d (stepsD A), .d (.int s), .d (.str (S A.L)), .d (encO b), .d (.str (S [l])), c5, c6, c7], [.d (stepsD A), .d (.int s), .d (.str (S A.L)), .d (encO b'), .d (.str (S [l])), d5, d6, d7], rfl, ?_, b', .d (.str (S [l])), d5, d6, d7, rfl, g2.congr fun x => ?_⟩
      · simp [e_var, r1, r2, g1]
      · rw [List.take_add_one, hl]
        constructor
        · rintro ⟨l', o', w, e, z, f⟩
          refine ⟨l', o', w, ?_, z, f⟩
          rcases e with e | ⟨e1, e2⟩
          · exact ⟨List.mem_append_left _ e.1, e.2⟩
          · subst e1
            exact ⟨by simp, e2⟩
        · rintro ⟨l', o', w, e, z, f⟩
          refine ⟨l', o', w, ?_, z, f⟩
          rcases List.mem_append.mp e.1 with e1 | e1
          · exact .inl ⟨e1, e.2⟩
          · have e1 : l' = l := by simpa using e1
            subst e1
            exact .inr ⟨rfl, e.2⟩) [.d (stepsD A), .d (.int s), .d (.str (S A.L)), .d .non, .no, .no, .no, .no] ⟨none, .no, .no, .no, .no, rfl, fun x ⟨l, o, w, e, _⟩ => by simp at e⟩
  rw [Nat.zero_add, List.take_of_length_le (by simp)] at k2
  have cand : ∀ x, x ≠ [] → Pth A x s s → ∃ c, Bk1 A s (fun l o => l ∈ A.L ∧ (s, l, o) ∈ A.ed) c ∧ ¬ ltW x c := fun x hx hp => by
    cases x with
    | nil => exact absurd rfl hx
    | cons l x =>
      obtain ⟨o, he, hp⟩ := hp
      have ho := (h.ed _ he).2.2
      obtain ⟨fm, i, _, B⟩ := first_words_ok (ss := [o]) h (fun p hp => by cases List.mem_singleton.mp hp; exact ho) (by simp)
      obtain ⟨w, hw⟩ := B.all h s x ⟨o, by simp, hp⟩
      have f := B.first _ hw
      exact ⟨l :: w, ⟨l, o, w, ⟨(h.ed _ he).2.1, he⟩, rfl, f⟩, fun z => f.min x (Nat.zero_le _) ⟨o, by simp, hp⟩ (ltW_cons.mp z)⟩
  refine ⟨b, ?_, ?_⟩
  · unfold f_first_back
    rw [fb_eq]
    simp [runF, e_var, itemsS, k1]
  · cases b with
    | none =>
      intro x hx hp
      obtain ⟨c, hc, _⟩ := cand x hx hp
      exact k2 c hc
    | some b =>
      obtain ⟨⟨l, o, w, ⟨_, he⟩, rfl, f⟩, k3⟩ := k2
      have ho := (h.ed _ he).2.2
      obtain ⟨fm, i, _, B⟩ := first_words_ok (ss := [o]) h (fun p hp => by cases List.mem_singleton.mp hp; exact ho) (by simp)
      obtain ⟨v, hv⟩ := B.all h s w f.pth
      have vl := IsF.len_le B hv
      have ev := f.uniq (B.first _ hv)
      have ev : w = v := ev
      obtain ⟨p, hp, pw⟩ := f.pth
      cases List.mem_singleton.mp hp
      refine ⟨⟨by simp, ⟨s, by simp, _, he, pw⟩, fun x hx hp => ?_⟩, by rw [List.length_cons, ev]; omega⟩
      obtain ⟨q, hq, hp⟩ := hp
      cases List.mem_singleton.mp hq
      obtain ⟨c, hc, n⟩ := cand x (fun z => by rw [z] at hx; simp at hx) hp
      exact fun z => k3 c hc (le_ltW n z)
end
end K63

namespace K63
open PySem PySem.Spec L2 DL
/-! ### the first word, by sets -/
def lB2 : FS := fSeq (fAsg (fCall f_law_led (fCons (fVar 0) (fCons (fVar 9) (fCons (fVar 10) (fNil))))) (gSet 11)) (fSeq (fIfS (fTest (fNotIn (fVar 11) (fLook 5))) (fSeq (fPut 5 (fVar 11) (fC (.bl true))) (fSeq (fAppend 7 (fTup (fCons (fBinN addD 8 (fLook 10)) (fCons (fVar 11) (fNil))))) (fNx))) (fNx)) (fNx))
def wB2 : FS := fSeq (fIfS (fAndT (fTest (fBin geD (fApp lenD (fLook 8)) (fLook 3))) (fTru (fApp anyD (fOfL (fLc (fItems (fVar 9)) (gSet 12) (fun ρ => some (true, ρ)) (fIn (fVar 12) (fLook 2)) [12]))))) (fSeq (fRet (fVar 8)) (fNx)) (fNx)) (fSeq (fFor (fItems (fBinN ixD 0 (fC (.int (1))))) (gSet 10) lB2) (fNx))
def tB2 : FS := fSeq (fSetL (fLst (fNil)) 7) (fSeq (fFor (fItems (fVar 4)) (gTupD 2 (gsCons (gSet 8) (gsCons (gSet 9) (gsNil)))) wB2) (fSeq (fAsg (fVar 7) (gSet 4)) (fNx)))
theorem lf_eq : b_law_first = fSeq (fPar 4 5 (nL (fLst (fCons (fTup (fCons (fC (.str "")) (fCons (fVar 1) (fNil)))) (fNil)))) (nT (fun ρ => some ([], ρ)))) (fSeq (fFor (fRng1 (fCons (fC (.int (40))) (fNil))) (gSet 6) tB2) (fSeq (fRet (fC .non)) (fNx))) := rfl
def sK (T : List Nat) : List Key := T.map fun (q : Nat) => .inl (q : Int)
def setS (kn : List (List Nat)) : List (List Key × D) := kn.map fun T => (sK T, .bl true)
theorem sK_inj : ∀ {a b : List Nat}, sK a = sK b → a = b
  | [], [], _ => rfl
  | [], _ :: _, h => by cases h
  | _ :: _, [], h => by cases h
  | x :: a, y :: b, h => by
    have h' : (Sum.inl (x : Int) : Key) :: sK a = .inl (y : Int) :: sK b := h
    have e := List.cons.inj h'
    have e1 := Sum.inl.inj e.1
    rw [sK_inj e.2, show x = y by omega]
theorem keys_n (T : List Nat) : keysOf (nD T) = some (sK T) := by
  induction T with
  | nil => rfl
  | cons q T ih =>
    rw [nD_cons, kos_cons, ih]
    rfl
theorem get_setS (kn : List (List Nat)) (T : List Nat) : (getK (setS kn) (sK T)).isSome = decide (T ∈ kn) := by
  unfold getK setS
  induction kn with
  | nil => rfl
  | cons y kn ih =>
    by_cases h : y = T
    · simp [h]
    · have h' : ¬ sK y = sK T := fun z => h (sK_inj z)
      have h2 : ¬ T = y := fun z => h z.symm
      simp [h', h2] at ih ⊢
      rw [ih]
theorem put_setS {kn : List (List Nat)} {T : List Nat} (h : T ∉ kn) : putD (setS kn) (sK T) (.bl true) = setS (kn ++ [T]) := by
  have e : ¬ ((setS kn).any fun kv => decide (kv.1 = sK T)) = true := by
    unfold setS
    rw [List.any_map, List.any_eq_true]
    rintro ⟨y, hy, e⟩
    exact h (sK_inj (of_decide_eq_true e) ▸ hy)
  unfold putD
  rw [if_neg e]
  unfold setS
  simp
theorem setS_len (kn : List (List Nat)) : (setS kn).length = kn.length := by simp [setS]
/-- how many sets there are -/
def code (T : List Nat) : Nat := (if 0 ∈ T then 1 else 0) + (if 1 ∈ T then 2 else 0) + (if 2 ∈ T then 4 else 0) + (if 3 ∈ T then 8 else 0)
theorem code_lt (T : List Nat) : code T < 16 := by
  unfold code
  split <;> split <;> split <;> split <;> omega
theorem code_inj {n : Nat} (hn : n ≤ 4) {P Q : Nat → Bool} (h : code (setL n P) = code (setL n Q)) : setL n P = setL n Q := by
  have m : ∀ q, q < 4 → (q ∈ setL n P ↔ q ∈ setL n Q) := by
    unfold code at h
    have key : ∀ (a b c d x y z w : Prop) [Decidable a] [Decidable b] [Decidable c] [Decidable d] [Decidable x] [Decidable y] [Decidable z] [Decidable w],
        (if a then 1 else 0) + (if b then 2 else 0) + (if c then 4 else 0) + (if d then 8 else 0) = (if x then 1 else 0) + (if y then 2 else 0) + (if z then 4 else 0) + (if w then 8 else 0) → (a ↔ x) ∧ (b ↔ y) ∧ (c ↔ z) ∧ (d ↔ w) := by
      intro a b c d x y z w _ _ _ _ _ _ _ _ h
      by_cases a <;> by_cases b <;> by_cases c <;> by_cases d <;> by_cases x <;> by_cases y <;> by_cases z <;> by_cases w <;> simp_all
    obtain ⟨k0, k1, k2, k3⟩ := key _ _ _ _ _ _ _ _ h
    intro q hq
    rcases (by omega : q = 0 ∨ q = 1 ∨ q = 2 ∨ q = 3) with rfl | rfl | rfl | rfl
    · exact k0
    · exact k1
    · exact k2
    · exact k3
  unfold setL
  refine List.filter_congr fun q hq => ?_
  have hq := List.mem_range.mp hq
  have := m q (by omega)
  rw [mem_setL, mem_setL] at this
  rw [Bool.eq_iff_iff]
  constructor
  · exact fun z => (this.mp ⟨hq, z⟩).2
  · exact fun z => (this.mpr ⟨hq, z⟩).2
theorem sets_len {n : Nat} (hn : n ≤ 4) {kn : List (List Nat)} (nd : kn.Nodup) (h : ∀ T ∈ kn, ∃ P, T = setL n P) : kn.length ≤ 16 := by
  have h2 : (kn.map code).Nodup := by
    refine List.Pairwise.map _ ?_ (List.Pairwise.imp_of_mem (S := fun a b : List Nat => a ≠ b ∧ (∃ P, a = setL n P) ∧ ∃ P, b = setL n P) (fun {a b} ha hb hab => ⟨hab, h a ha, h b hb⟩) nd)
    rintro a b ⟨h1, ⟨P, rfl⟩, ⟨Q, rfl⟩⟩ z
    exact h1 (code_inj hn z)
  have := len_le 16 _ h2 fun q hq => by
    obtain ⟨T, _, rfl⟩ := List.mem_map.mp hq
    exact code_lt T
  rwa [List.length_map] at this
section
variable {A : Au} {ss : List Nat} {s k : Nat}
/-- words over the letters -/
def InL (A : Au) (x : List Nat) : Prop := ∀ l ∈ x, l ∈ A.L
def Hit (A : Au) (ss : List Nat) (s k : Nat) (x : List Nat) : Prop := InL A x ∧ k ≤ x.length ∧ s ∈ beh A ss x
/-- shorter, but not empty, and as good -/
def Sh (A : Au) (ss : List Nat) (i : Nat) (T : List Nat) : Prop := ∃ y, y ≠ [] ∧ y.length ≤ i ∧ InL A y ∧ beh A ss y = T
structure Lv2 (A : Au) (ss : List Nat) (s k i : Nat) (ws : List (List Nat)) (kn : List (List Nat)) : Prop where
  len : ∀ w ∈ ws, w.length = i ∧ InL A w
  ord : ws.Pairwise ltW
  full : ∀ x, x.length = i → InL A x → (∃ w ∈ ws, beh A ss w = beh A ss x ∧ ¬ ltW x w) ∨ ∃ y, y ≠ [] ∧ y.length < i ∧ InL A y ∧ beh A ss y = beh A ss x
  no : ∀ x, x.length < i → ¬ Hit A ss s k x
  hk : ∀ T ∈ kn, Sh A ss i T
  knd : kn.Nodup
  sz : ws.length ≤ kn.length + 1
def lvD (A : Au) (ss : List Nat) (ws : List (List Nat)) : List D := ws.map fun w => .tup [.str (S w), .tup (nD (beh A ss w))]
/-- within a level -/
structure Nx2 (A : Au) (ss : List Nat) (i : Nat) (lo kn : List (List Nat)) (done : List Nat → Nat → Prop) : Prop where
  len : ∀ w ∈ lo, w.length = i + 1 ∧ InL A w
  ord : lo.Pairwise ltW
  src : ∀ w ∈ lo, ∃ v l, w = v ++ [l] ∧ done v l
  hk : ∀ T ∈ kn, Sh A ss i T ∨ ∃ w ∈ lo, beh A ss w = T
  knd : kn.Nodup
  dn : ∀ v l, done v l → Sh A ss i (beh A ss (v ++ [l])) ∨ ∃ w ∈ lo, beh A ss w = beh A ss (v ++ [l]) ∧ ¬ ltW (v ++ [l]) w
  sz : lo.length ≤ kn.length
theorem Nx2.form {i : Nat} {lo kn : List (List Nat)} {done : List Nat → Nat → Prop} (N : Nx2 A ss i lo kn done) : ∀ T ∈ kn, ∃ P, T = setL A.n P := fun T hT => by
  have key : ∀ y : List Nat, y ≠ [] → ∃ P, beh A ss y = setL A.n P := fun y hy => by
    obtain ⟨y0, l, rfl⟩ : ∃ a b, y = a ++ [b] := ⟨y.dropLast, y.getLast hy, (List.dropLast_concat_getLast hy).symm⟩
    have : beh A ss (y0 ++ [l]) = led A (beh A ss y0) l := by simp [beh]
    rw [this]
    exact ⟨_, rfl⟩
  rcases N.hk T hT with ⟨y, h1, _, _, rfl⟩ | ⟨w, hw, rfl⟩
  · exact key y h1
  · refine key w fun z => ?_
    have := (N.len w hw).1
    rw [z] at this
    cases this
theorem beh_snoc (w : List Nat) (l : Nat) : beh A ss (w ++ [l]) = led A (beh A ss w) l := by simp [beh]
theorem lB2_ok (h : A.Ok) {i : Nat} {lo kn : List (List Nat)} {done : List Nat → Nat → Prop} (N : Nx2 A ss i lo kn done) {w : List Nat} {l : Nat} (hw : w.length = i) (hwl : InL A w) (hl : l ∈ A.L) (hi : i < 100) (hd : ∀ v m, done v m → ltW (v ++ [m]) (w ++ [l])) (c1 c2 c3 c4 c6 c11 c12 : Sl) :
    ∃ lo' kn' c11', lB2 [.d A.enc, c1, c2, c3, c4, .mT (setS kn), c6, .ml (lvD A ss lo), .d (.str (S w)), .d (.tup (nD (beh A ss w))), .d (.str (S [l])), c11, c12] =
      some (.nx [.d A.enc, c1, c2, c3, c4, .mT (setS kn'), c6, .ml (lvD A ss lo'), .d (.str (S w)), .d (.tup (nD (beh A ss w))), .d (.str (S [l])), c11', c12]) ∧ Nx2 A ss i lo' kn' (fun v m => done v m ∨ (v = w ∧ m = l)) := by
  have lk := led_ok h (beh A ss w) l
  rw [← beh_snoc] at lk
  have kl := sets_len h.n4 N.knd N.form
  have kk := keys_n (beh A ss (w ++ [l]))
  have g := get_setS kn (beh A ss (w ++ [l]))
  by_cases hk : beh A ss (w ++ [l]) ∈ kn
  · refine ⟨lo, kn, .d (.tup (nD (beh A ss (w ++ [l])))), ?_, ⟨N.len, N.ord, fun v hv => ?_, N.hk, N.knd, fun v m z => ?_, N.sz⟩⟩
    · unfold lB2
      simp [e_var, lk, kk, g, hk]
    · obtain ⟨a, b, c, d⟩ := N.src v hv
      exact ⟨a, b, c, .inl d⟩
    · rcases z with z | ⟨rfl, rfl⟩
      · exact N.dn v m z
      · rcases N.hk _ hk with z | ⟨v2, hv2, e⟩
        · exact .inl z
        · obtain ⟨a, b, rfl, d⟩ := N.src v2 hv2
          exact .inr ⟨_, hv2, e, fun z => ltW_irrefl _ (ltW_trans z (hd a b d))⟩
  · have ad := addS w [l] (by simp; omega)
    have pt := put_setS hk
    have l1 : (setS kn).length < 1000000 := by
      rw [setS_len]
      omega
    have l2 : (lvD A ss lo).length < 1000000 := by
      have := N.sz
      simp [lvD]
      omega
    refine ⟨lo ++ [w ++ [l]], kn ++ [beh A ss (w ++ [l])], .d (.tup (nD (beh A ss (w ++ [l])))), ?_, ⟨fun v hv => ?_, ?_, fun v hv => ?_, fun T hT => ?_, ?_, fun v m z => ?_, ?_⟩⟩
    · have e : lvD A ss (lo ++ [w ++ [l]]) = lvD A ss lo ++ [.tup [.str (S (w ++ [l])), .tup (nD (beh A ss (w ++ [l])))]] := by simp [lvD]
      rw [e]
      unfold lB2
      simp [e_var, lk, kk, g, hk, l1, pt, ad, l2]
    · rcases List.mem_append.mp hv with hv | hv
      · exact N.len v hv
      · cases List.mem_singleton.mp hv
        refine ⟨by simp [hw], fun m hm => ?_⟩
        rcases List.mem_append.mp hm with hm | hm
        · exact hwl m hm
        · cases List.mem_singleton.mp hm
          exact hl
    · refine List.pairwise_append.mpr ⟨N.ord, by simp, fun x hx y hy => ?_⟩
      cases List.mem_singleton.mp hy
      obtain ⟨a, b, rfl, d⟩ := N.src x hx
      exact hd a b d
    · rcases List.mem_append.mp hv with hv | hv
      · obtain ⟨a, b, c, d⟩ := N.src v hv
        exact ⟨a, b, c, .inl d⟩
      · cases List.mem_singleton.mp hv
        exact ⟨w, l, rfl, .inr ⟨rfl, rfl⟩⟩
    · rcases List.mem_append.mp hT with hT | hT
      · rcases N.hk T hT with z | ⟨v, hv, e⟩
        · exact .inl z
        · exact .inr ⟨v, List.mem_append_left _ hv, e⟩
      · cases List.mem_singleton.mp hT
        exact .inr ⟨_, by simp, rfl⟩
    · refine List.nodup_append.mpr ⟨N.knd, by simp, fun x hx y hy z => ?_⟩
      cases List.mem_singleton.mp hy
      exact hk (z ▸ hx)
    · rcases z with z | ⟨rfl, rfl⟩
      · rcases N.dn v m z with z | ⟨v2, hv2, e, n⟩
        · exact .inl z
        · exact .inr ⟨v2, List.mem_append_left _ hv2, e, n⟩
      · exact .inr ⟨_, by simp, rfl, ltW_irrefl _⟩
    · rw [List.length_append, List.length_append]
      have := N.sz
      simp
      exact this
end
end K63

namespace K63
open PySem PySem.Spec L2 DL
section
variable {A : Au} {ss : List Nat} {s k : Nat}
theorem Au.Ok.ord {A : Au} (h : A.Ok) : A.L.Pairwise (· < ·) := by
  rcases h.L with e | e <;> rw [e] <;> decide
theorem wB2_ok (h : A.Ok) {i : Nat} {lo kn : List (List Nat)} {done : List Nat → Nat → Prop} (N : Nx2 A ss i lo kn done) {w : List Nat} (hw : w.length = i) (hwl : InL A w) (hi : i < 100) (hss : ∀ p ∈ ss, p < A.n) (hsl : (beh A ss w).length ≤ 100) (hd : ∀ v m, done v m → v.length = i ∧ v < w) (c1 c4 c6 c10 c11 c12 : Sl) :
    (Hit A ss s k w ∧ ∃ ρ, wB2 [.d A.enc, c1, .d (.tup (nD [s])), .d (.int k), c4, .mT (setS kn), c6, .ml (lvD A ss lo), .d (.str (S w)), .d (.tup (nD (beh A ss w))), c10, c11, c12] = some (.rt (.str (S w)) ρ)) ∨
    (¬ Hit A ss s k w ∧ ∃ lo' kn' c10' c11' c12', wB2 [.d A.enc, c1, .d (.tup (nD [s])), .d (.int k), c4, .mT (setS kn), c6, .ml (lvD A ss lo), .d (.str (S w)), .d (.tup (nD (beh A ss w))), c10, c11, c12] =
      some (.nx [.d A.enc, c1, .d (.tup (nD [s])), .d (.int k), c4, .mT (setS kn'), c6, .ml (lvD A ss lo'), .d (.str (S w)), .d (.tup (nD (beh A ss w))), c10', c11', c12']) ∧ Nx2 A ss i lo' kn' (fun v m => done v m ∨ (v = w ∧ m ∈ A.L))) := by
  have lw := lenS w (by omega)
  have a1 : ixD A.enc (.int 1) = some (.str (S A.L)) := rfl
  have T1 : (beh A ss w).length ≤ 1000000 := by omega
  have lc : lcD (gSet 12) (fun ρ => some (true, ρ)) (fIn (fVar 12) (fLook 2)) [12] (nD (beh A ss w)) [] [.d A.enc, c1, .d (.tup (nD [s])), .d (.int k), c4, .mT (setS kn), c6, .ml (lvD A ss lo), .d (.str (S w)), .d (.tup (nD (beh A ss w))), c10, c11, .no] =
      some ((beh A ss w).map (fun q => D.bl (decide (q ∈ [s]))), [.d A.enc, c1, .d (.tup (nD [s])), .d (.int k), c4, .mT (setS kn), c6, .ml (lvD A ss lo), .d (.str (S w)), .d (.tup (nD (beh A ss w))), c10, c11, .no]) := by
    have key : ∀ (T : List Nat) (acc : List D), lcD (gSet 12) (fun ρ => some (true, ρ)) (fIn (fVar 12) (fLook 2)) [12] (nD T) acc [.d A.enc, c1, .d (.tup (nD [s])), .d (.int k), c4, .mT (setS kn), c6, .ml (lvD A ss lo), .d (.str (S w)), .d (.tup (nD (beh A ss w))), c10, c11, .no] =
        some (acc ++ T.map (fun q => D.bl (decide (q ∈ [s]))), [.d A.enc, c1, .d (.tup (nD [s])), .d (.int k), c4, .mT (setS kn), c6, .ml (lvD A ss lo), .d (.str (S w)), .d (.tup (nD (beh A ss w))), c10, c11, .no]) := by
      intro T
      induction T with
      | nil =>
        intro acc
        simp [lcD]
      | cons q T ih =>
        intro acc
        have m := mem_ints q [s]
        rw [nD_cons, lcD, List.map_cons]
        simp only [e_gset, Option.bind_some, List.set_cons_succ, List.set_cons_zero, if_true, e_in, e_bin, e_var, List.getElem?_cons_succ, List.getElem?_cons_zero, e_look, w_d, Option.map_some, m, e_wcons, e_wnil]
        rw [ih]
        simp
    have := key (beh A ss w) []
    rwa [List.nil_append] at this
  have an := any_map (fun q => decide (q ∈ [s])) (beh A ss w)
  have an2 : ((beh A ss w).any fun q => decide (q ∈ [s])) = decide (s ∈ beh A ss w) := by
    rw [Bool.eq_iff_iff, List.any_eq_true, decide_eq_true_iff]
    constructor
    · rintro ⟨q, hq, e⟩
      have : q = s := by simpa using e
      exact this ▸ hq
    · intro z
      exact ⟨s, z, by simp⟩
  rw [an2] at an
  by_cases ht : Hit A ss s k w
  · obtain ⟨_, h1, h2⟩ := ht
    refine .inl ⟨⟨hwl, h1, h2⟩, [.d A.enc, c1, .d (.tup (nD [s])), .d (.int k), c4, .mT (setS kn), c6, .ml (lvD A ss lo), .d (.str (S w)), .d (.tup (nD (beh A ss w))), c10, c11, .no], ?_⟩
    have d1 : decide ((k : Int) ≤ (w.length : Int)) = true := decide_eq_true (by omega)
    rw [decide_eq_true h2] at an
    unfold wB2
    simp only [e_seq, e_ifS, e_andT, e_test, e_bin, e_app, e_look, List.getElem?_cons_succ, List.getElem?_cons_zero, Option.bind_some, w_d, Option.map_some, lw, ge_int, d1, if_true, e_tru, e_ofL, e_lc, e_items, e_var, it_tup, w_lst_n, T1, e_wcons, e_wnil, List.set_cons_succ, List.set_cons_zero, lc, an, tru_bl, e_ret]
  · refine .inr ⟨ht, ?_⟩
    have loop : ∀ (c10 c11 c12 : Sl), ∃ lo' kn' c10' c11' c12', forD (gSet 10) lB2 (A.L.map fun c => D.str (S [c])) [.d A.enc, c1, .d (.tup (nD [s])), .d (.int k), c4, .mT (setS kn), c6, .ml (lvD A ss lo), .d (.str (S w)), .d (.tup (nD (beh A ss w))), c10, c11, c12] =
        some (.nx [.d A.enc, c1, .d (.tup (nD [s])), .d (.int k), c4, .mT (setS kn'), c6, .ml (lvD A ss lo'), .d (.str (S w)), .d (.tup (nD (beh A ss w))), c10', c11', c12']) ∧ Nx2 A ss i lo' kn' (fun v m => done v m ∨ (v = w ∧ m ∈ A.L)) := by
      intro c10 c11 c12
      obtain ⟨ρ', k1, lo', kn', d10, d11, d12, rfl, N'⟩ := forD_inv (g := gSet 10) (f := lB2) (I := fun j ρ => ∃ lo' kn' d10 d11 d12, ρ = [.d A.enc, c1, .d (.tup (nD [s])), .d (.int k), c4, .mT (setS kn'), c6, .ml (lvD A ss lo'), .d (.str (S w)), .d (.tup (nD (beh A ss w))), d10, d11, d12] ∧
          Nx2 A ss i lo' kn' (fun v m => done v m ∨ (v = w ∧ m ∈ A.L.take j))) (A.L.map fun c => D.str (S [c])) 0 (fun j d ρ hd' hI => by
          obtain ⟨lo', kn', d10, d11, d12, rfl, N'⟩ := hI
          rw [List.getElem?_map] at hd'
          obtain ⟨l, hl, rfl⟩ := Option.map_eq_some_iff.mp hd'
          rw [Nat.zero_add] at N' ⊢
          obtain ⟨hj, ej⟩ := List.getElem?_eq_some_iff.mp hl
          have lt1 : ∀ v m, (done v m ∨ (v = w ∧ m ∈ A.L.take j)) → ltW (v ++ [m]) (w ++ [l]) := fun v m z => by
            rcases z with z | ⟨rfl, z⟩
            · obtain ⟨z1, z2⟩ := hd v m z
              exact .inr ⟨by simp [z1, hw], lt_app _ _ (by omega) z2⟩
            · refine .inr ⟨by simp, List.append_left_lt ?_⟩
              obtain ⟨j', hj', e'⟩ := List.mem_take_iff_getElem.mp z
              have := List.pairwise_iff_getElem.mp h.ord j' j (by omega) hj (by omega)
              rw [e', ej] at this
              exact List.cons_lt_cons_iff.mpr (.inl this)
          obtain ⟨lo2, kn2, e11, g1, g2⟩ := lB2_ok h N' hw hwl (List.mem_of_getElem? hl) hi lt1 c1 (.d (.tup (nD [s]))) (.d (.int k)) c4 c6 d11 d12
          refine ⟨_, _, rfl, g1, lo2, kn2, _, e11, d12, rfl, ⟨g2.len, g2.ord, fun v hv => ?_, g2.hk, g2.knd, fun v m z => g2.dn v m ?_, g2.sz⟩⟩
          · obtain ⟨a, b, c, z⟩ := g2.src v hv
            refine ⟨a, b, c, ?_⟩
            rw [List.take_add_one, hl]
            rcases z with (z | ⟨z1, z2⟩) | ⟨z1, z2⟩
            · exact .inl z
            · exact .inr ⟨z1, List.mem_append_left _ z2⟩
            · exact .inr ⟨z1, by simp [z2]⟩
          · rw [List.take_add_one, hl] at z
            rcases z with z | ⟨z1, z2⟩
            · exact .inl (.inl z)
            · rcases List.mem_append.mp z2 with z2 | z2
              · exact .inl (.inr ⟨z1, z2⟩)
              · exact .inr ⟨z1, by simpa using z2⟩) _ ⟨lo, kn, c10, c11, c12, rfl, ⟨N.len, N.ord, fun v hv => by
            obtain ⟨a, b, c, z⟩ := N.src v hv
            exact ⟨a, b, c, .inl z⟩, N.hk, N.knd, fun v m z => N.dn v m (by
            rcases z with z | ⟨_, z⟩
            · exact z
            · simp at z), N.sz⟩⟩
      rw [Nat.zero_add, List.take_of_length_le (by simp)] at N'
      exact ⟨lo', kn', d10, d11, d12, k1, N'⟩
    by_cases hk : k ≤ w.length
    · have h2 : ¬ s ∈ beh A ss w := fun z => ht ⟨hwl, hk, z⟩
      obtain ⟨lo', kn', d10, d11, d12, k1, N'⟩ := loop c10 c11 .no
      have d1 : decide ((k : Int) ≤ (w.length : Int)) = true := decide_eq_true (by omega)
      rw [decide_eq_false h2] at an
      refine ⟨lo', kn', d10, d11, d12, ?_, N'⟩
      unfold wB2
      simp only [e_seq, e_ifS, e_andT, e_test, e_bin, e_app, e_look, List.getElem?_cons_succ, List.getElem?_cons_zero, Option.bind_some, w_d, Option.map_some, lw, ge_int, d1, if_true, e_tru, e_ofL, e_lc, e_items, e_var, it_tup, w_lst_n, T1, e_wcons, e_wnil, List.set_cons_succ, List.set_cons_zero, lc, an, tru_bl, Bool.false_eq_true, if_false, e_nx, e_for, e_binN, e_c, a1, itemsS, k1]
    · obtain ⟨lo', kn', d10, d11, d12, k1, N'⟩ := loop c10 c11 c12
      have d1 : decide ((k : Int) ≤ (w.length : Int)) = false := decide_eq_false (by omega)
      refine ⟨lo', kn', d10, d11, d12, ?_, N'⟩
      unfold wB2
      simp only [e_seq, e_ifS, e_andT, e_test, e_bin, e_app, e_look, List.getElem?_cons_succ, List.getElem?_cons_zero, Option.bind_some, w_d, Option.map_some, lw, ge_int, d1, Bool.false_eq_true, if_false, e_nx, e_for, e_items, e_binN, e_c, a1, itemsS, k1]
theorem pth_inL (h : A.Ok) : ∀ {w : List Nat} {p q : Nat}, Pth A w p q → InL A w
  | [], _, _, _ => fun l hl => by cases hl
  | l :: w, p, q, ⟨r, h1, h2⟩ => fun m hm => by
    rcases List.mem_cons.mp hm with rfl | hm
    · exact (h.ed _ h1).2.1
    · exact pth_inL h h2 m hm
theorem beh_len (h : A.Ok) (hl : ss.length ≤ 4) : ∀ w, (beh A ss w).length ≤ 4 := by
  intro w
  have n4 := h.n4
  induction w generalizing ss with
  | nil => exact hl
  | cons l w ih =>
    refine ih (ss := led A ss l) ?_
    unfold led setL
    exact Nat.le_trans (List.length_filter_le _ _) (by simpa)
theorem tB2_ok (h : A.Ok) (hss : ∀ p ∈ ss, p < A.n) (hl : ss.length ≤ 4) (hk : k ≤ 1) {i : Nat} (hi : i < 100) {ws kn : List (List Nat)} (L : Lv2 A ss s k i ws kn) (s4 : Sl) (h4 : s4 = .ml (lvD A ss ws) ∨ s4 = .d (.lst (lvD A ss ws))) (c6 c7 c8 c9 c10 c11 c12 : Sl) :
    (∃ ws' kn' c7' c8' c9' c10' c11' c12', tB2 [.d A.enc, .d (.tup (nD ss)), .d (.tup (nD [s])), .d (.int k), s4, .mT (setS kn), c6, c7, c8, c9, c10, c11, c12] = some (.nx [.d A.enc, .d (.tup (nD ss)), .d (.tup (nD [s])), .d (.int k), .d (.lst (lvD A ss ws')), .mT (setS kn'), c6, c7', c8', c9', c10', c11', c12']) ∧ Lv2 A ss s k (i + 1) ws' kn') ∨
    ∃ x ρ, tB2 [.d A.enc, .d (.tup (nD ss)), .d (.tup (nD [s])), .d (.int k), s4, .mT (setS kn), c6, c7, c8, c9, c10, c11, c12] = some (.rt x ρ) ∧ ∃ w, x = .str (S w) ∧ IsF A ss s k w := by
  have hit_beh : ∀ {x y : List Nat}, beh A ss y = beh A ss x → InL A y → k ≤ y.length → Hit A ss s k x → Hit A ss s k y := fun e a b c => ⟨a, b, by rw [e]; exact c.2.2⟩
  have step : ∀ ρ, tB2 [.d A.enc, .d (.tup (nD ss)), .d (.tup (nD [s])), .d (.int k), s4, .mT (setS kn), c6, c7, c8, c9, c10, c11, c12] = ρ ↔ (match forD (gTupD 2 (gsCons (gSet 8) (gsCons (gSet 9) (gsNil)))) wB2 (lvD A ss ws) [.d A.enc, .d (.tup (nD ss)), .d (.tup (nD [s])), .d (.int k), .d (.lst (lvD A ss ws)), .mT (setS kn), c6, .ml [], c8, c9, c10, c11, c12] with
      | some (.nx ρ1) => (fAsg (fVar 7) (gSet 4) ρ1).bind (fun o => match o with | .nx ρ1 => some (.nx ρ1) | o => some o)
      | o => o) = ρ := fun ρ => by
    unfold tB2
    rcases h4 with rfl | rfl
    · simp only [e_seq, e_setL, e_lst, e_nil, Option.bind_some, List.length_nil, Nat.zero_le, if_true, e_for, e_items, e_var, List.getElem?_cons_succ, List.getElem?_cons_zero, List.set_cons_succ, List.set_cons_zero, it_lst]
      cases forD (gTupD 2 (gsCons (gSet 8) (gsCons (gSet 9) (gsNil)))) wB2 (lvD A ss ws) [.d A.enc, .d (.tup (nD ss)), .d (.tup (nD [s])), .d (.int k), .d (.lst (lvD A ss ws)), .mT (setS kn), c6, .ml [], c8, c9, c10, c11, c12] with
      | none => simp
      | some o => cases o <;> first | (simp; done) | (simp; exact Iff.rfl)
    · simp only [e_seq, e_setL, e_lst, e_nil, Option.bind_some, List.length_nil, Nat.zero_le, if_true, e_for, e_items, e_var, List.getElem?_cons_succ, List.getElem?_cons_zero, List.set_cons_succ, List.set_cons_zero, it_lst]
      cases forD (gTupD 2 (gsCons (gSet 8) (gsCons (gSet 9) (gsNil)))) wB2 (lvD A ss ws) [.d A.enc, .d (.tup (nD ss)), .d (.tup (nD [s])), .d (.int k), .d (.lst (lvD A ss ws)), .mT (setS kn), c6, .ml [], c8, c9, c10, c11, c12] with
      | none => simp
      | some o => cases o <;> first | (simp; done) | (simp; exact Iff.rfl)
  rcases forD_inv2 (g := gTupD 2 (gsCons (gSet 8) (gsCons (gSet 9) (gsNil)))) (f := wB2) (I := fun j ρ => ∃ lo kn' c8 c9 c10 c11 c12, ρ = [.d A.enc, .d (.tup (nD ss)), .d (.tup (nD [s])), .d (.int k), .d (.lst (lvD A ss ws)), .mT (setS kn'), c6, .ml (lvD A ss lo), c8, c9, c10, c11, c12] ∧
      Nx2 A ss i lo kn' (fun v l => (∃ j', j' < j ∧ ws[j']? = some v) ∧ l ∈ A.L) ∧ ∀ j' v, j' < j → ws[j']? = some v → ¬ Hit A ss s k v) (R := fun x => ∃ w, x = .str (S w) ∧ IsF A ss s k w) (lvD A ss ws) 0 (fun j d ρ hd hI => by
      obtain ⟨lo, kn', c8, c9, c10, c11, c12, rfl, N, nh⟩ := hI
      unfold lvD at hd
      rw [List.getElem?_map] at hd
      obtain ⟨w, hw, rfl⟩ := Option.map_eq_some_iff.mp hd
      rw [Nat.zero_add] at N nh ⊢
      obtain ⟨hj, ej⟩ := List.getElem?_eq_some_iff.mp hw
      have hwm := List.mem_of_getElem? hw
      obtain ⟨wl, wi⟩ := L.len w hwm
      refine ⟨[.d A.enc, .d (.tup (nD ss)), .d (.tup (nD [s])), .d (.int k), .d (.lst (lvD A ss ws)), .mT (setS kn'), c6, .ml (lvD A ss lo), .d (.str (S w)), .d (.tup (nD (beh A ss w))), c10, c11, c12], rfl, ?_⟩
      rcases wB2_ok (s := s) (k := k) h N wl wi hi hss (Nat.le_trans (beh_len h hl w) (by decide)) (fun v m z => by
          obtain ⟨⟨j', a, b⟩, _⟩ := z
          obtain ⟨hj', ej'⟩ := List.getElem?_eq_some_iff.mp b
          have := List.pairwise_iff_getElem.mp L.ord j' j hj' hj a
          rw [ej', ej] at this
          have vl := (L.len v (List.mem_of_getElem? b)).1
          refine ⟨vl, ?_⟩
          rcases this with z | z
          · omega
          · exact z.2) (.d (.tup (nD ss))) (.d (.lst (lvD A ss ws))) c6 c10 c11 c12 with ⟨ht, ρ, g1⟩ | ⟨ht, lo', kn2, d10, d11, d12, g1, g2⟩
      · refine .inr ⟨_, ρ, g1, w, rfl, ht.2.1, (mem_beh hss h).mp ht.2.2, fun x hx hp => ?_⟩
        obtain ⟨p, hp, px⟩ := hp
        have hx2 : Hit A ss s k x := ⟨pth_inL h px, hx, (mem_beh hss h).mpr ⟨p, hp, px⟩⟩
        intro lt
        have xl : x.length ≤ i := by
          rcases lt with z | z
          · omega
          · omega
        by_cases xi : x.length = i
        · rcases L.full x xi hx2.1 with ⟨w', hw', e, n⟩ | ⟨y, y1, y2, y3, y4⟩
          · have hw2 := hit_beh e (L.len w' hw').2 (by rw [(L.len w' hw').1, ← xi]; exact hx) hx2
            obtain ⟨j', hj', ej'⟩ := List.getElem_of_mem hw'
            have jj : j ≤ j' := by
              apply Classical.byContradiction
              intro z
              exact nh j' w' (by omega) (by rw [List.getElem?_eq_getElem hj', ej']) hw2
            by_cases z : j' = j
            · subst z
              rw [ej] at ej'
              rw [ej'] at lt
              exact n lt
            · have := List.pairwise_iff_getElem.mp L.ord j j' hj hj' (by omega)
              rw [ej, ej'] at this
              exact n (ltW_trans lt this)
          · have := List.length_pos_iff.mpr y1
            exact L.no y (by omega) (hit_beh y4 y3 (by omega) hx2)
        · exact L.no x (by omega) hx2
      · refine .inl ⟨_, g1, lo', kn2, _, _, d10, d11, d12, rfl, ⟨g2.len, g2.ord, fun v hv => ?_, g2.hk, g2.knd, fun v l z => g2.dn v l ?_, g2.sz⟩, fun j' v a b => ?_⟩
        · obtain ⟨a, b, c, z⟩ := g2.src v hv
          refine ⟨a, b, c, ?_⟩
          rcases z with ⟨⟨j', z1, z2⟩, z3⟩ | ⟨z1, z2⟩
          · exact ⟨⟨j', by omega, z2⟩, z3⟩
          · exact ⟨⟨j, by omega, by rw [z1]; exact hw⟩, z2⟩
        · obtain ⟨⟨j', z1, z2⟩, z3⟩ := z
          by_cases e : j' = j
          · subst e
            rw [hw] at z2
            cases z2
            exact .inr ⟨rfl, z3⟩
          · exact .inl ⟨⟨j', by omega, z2⟩, z3⟩
        · by_cases e : j' = j
          · subst e
            rw [hw] at b
            cases b
            exact ht
          · exact nh j' v (by omega) b) [.d A.enc, .d (.tup (nD ss)), .d (.tup (nD [s])), .d (.int k), .d (.lst (lvD A ss ws)), .mT (setS kn), c6, .ml (lvD A ss []), c8, c9, c10, c11, c12]
      ⟨[], kn, c8, c9, c10, c11, c12, rfl, ⟨fun w hw => (by cases hw), List.Pairwise.nil, fun w hw => (by cases hw), fun T hT => .inl (L.hk T hT), L.knd, fun v l z => by
        obtain ⟨⟨j', a, _⟩, _⟩ := z
        omega, Nat.zero_le _⟩, fun j' v a _ => by omega⟩ with ⟨ρ', k1, lo, kn', d8, d9, d10, d11, d12, rfl, N, nh⟩ | ⟨x, ρ', k1, w, rfl, f⟩
  · refine .inl ⟨lo, kn', .d (.lst (lvD A ss lo)), d8, d9, d10, d11, d12, (step _).mpr ?_, ?_⟩
    · have k1 : forD (gTupD 2 (gsCons (gSet 8) (gsCons (gSet 9) (gsNil)))) wB2 (lvD A ss ws) [.d A.enc, .d (.tup (nD ss)), .d (.tup (nD [s])), .d (.int k), .d (.lst (lvD A ss ws)), .mT (setS kn), c6, .ml [], c8, c9, c10, c11, c12] = _ := k1
      rw [k1]
      simp [e_var]
    · have ll : (lvD A ss ws).length = ws.length := by simp [lvD]
      rw [Nat.zero_add, ll] at N nh
      have nh2 : ∀ w ∈ ws, ¬ Hit A ss s k w := fun w hw => by
        obtain ⟨j, hj, e⟩ := List.getElem_of_mem hw
        exact nh j w hj (by rw [List.getElem?_eq_getElem hj, e])
      refine ⟨N.len, N.ord, fun x hx xi => ?_, fun x hx ht => ?_, fun T hT => ?_, N.knd, by have := N.sz; omega⟩
      · have xne : x ≠ [] := fun z => by
          rw [z] at hx
          cases hx
        obtain ⟨x0, l, rfl⟩ : ∃ a b, x = a ++ [b] := ⟨x.dropLast, x.getLast xne, (List.dropLast_concat_getLast xne).symm⟩
        have x0l : x0.length = i := by
          rw [List.length_append] at hx
          simpa using hx
        have x0i : InL A x0 := fun m hm => xi m (List.mem_append_left _ hm)
        have hlL : l ∈ A.L := xi l (by simp)
        rcases L.full x0 x0l x0i with ⟨w', hw', e, n⟩ | ⟨y, y1, y2, y3, y4⟩
        · obtain ⟨j, hj, ej⟩ := List.getElem_of_mem hw'
          have e2 : beh A ss (w' ++ [l]) = beh A ss (x0 ++ [l]) := by rw [beh_snoc, beh_snoc, e]
          rcases N.dn w' l ⟨⟨j, hj, by rw [List.getElem?_eq_getElem hj, ej]⟩, hlL⟩ with ⟨y, y1, y2, y3, y4⟩ | ⟨v, hv, e3, n3⟩
          · exact .inr ⟨y, y1, by omega, y3, by rw [y4, e2]⟩
          · refine .inl ⟨v, hv, by rw [e3, e2], fun z => n3 (le_ltW (fun z2 => n (ltW_snoc_inv z2)) z)⟩
        · refine .inr ⟨y ++ [l], by simp, by rw [List.length_append]; simp; omega, fun m hm => ?_, by rw [beh_snoc, beh_snoc, y4]⟩
          rcases List.mem_append.mp hm with hm | hm
          · exact y3 m hm
          · cases List.mem_singleton.mp hm
            exact hlL
      · by_cases z : x.length = i
        · rcases L.full x z ht.1 with ⟨w', hw', e, n⟩ | ⟨y, y1, y2, y3, y4⟩
          · exact nh2 w' hw' (hit_beh e (L.len w' hw').2 (by rw [(L.len w' hw').1, ← z]; exact ht.2.1) ht)
          · have := List.length_pos_iff.mpr y1
            exact L.no y (by omega) (hit_beh y4 y3 (by omega) ht)
        · exact L.no x (by omega) ht
      · rcases N.hk T hT with ⟨y, y1, y2, y3, y4⟩ | ⟨w, hw, e⟩
        · exact ⟨y, y1, by omega, y3, y4⟩
        · obtain ⟨a, b⟩ := N.len w hw
          exact ⟨w, fun z => (by rw [z] at a; cases a), by omega, b, e⟩
  · have k1 : forD (gTupD 2 (gsCons (gSet 8) (gsCons (gSet 9) (gsNil)))) wB2 (lvD A ss ws) [.d A.enc, .d (.tup (nD ss)), .d (.tup (nD [s])), .d (.int k), .d (.lst (lvD A ss ws)), .mT (setS kn), c6, .ml [], c8, c9, c10, c11, c12] = _ := k1
    exact .inr ⟨_, ρ', (step _).mpr (by rw [k1]), w, rfl, f⟩
theorem law_first_ok (h : A.Ok) (hss : ∀ p ∈ ss, p < A.n) (hl : ss.length ≤ 4) (hk : k ≤ 1) : (∃ w, f_law_first [A.enc, .tup (nD ss), .tup (nD [s]), .int k] = some (.str (S w)) ∧ IsF A ss s k w) ∨
    (f_law_first [A.enc, .tup (nD ss), .tup (nD [s]), .int k] = some .non ∧ ∀ x, x.length < 40 → k ≤ x.length → ¬ ∃ p ∈ ss, Pth A x p s) := by
  have L0 : Lv2 A ss s k 0 [[]] [] := by
    refine ⟨fun w hw => ?_, by simp, fun x hx _ => ?_, fun x hx => absurd hx (Nat.not_lt_zero _), fun T hT => (by cases hT), List.nodup_nil, Nat.le_refl _⟩
    · cases List.mem_singleton.mp hw
      exact ⟨rfl, fun l hl => by cases hl⟩
    · have : x = [] := List.length_eq_zero_iff.mp hx
      subst this
      exact .inl ⟨[], by simp, rfl, ltW_irrefl _⟩
  have rg : rgOk 40 = true := rfl
  have r40 : rngD 0 40 = (List.range 40).map fun i => D.int (i : Nat) := rng_nat 40
  have lv0 : lvD A ss [[]] = [.tup [.str (S []), .tup (nD ss)]] := rfl
  rcases forD_inv2 (g := gSet 6) (f := tB2) (I := fun i ρ => ∃ ws kn s4 c6 c7 c8 c9 c10 c11 c12, ρ = [.d A.enc, .d (.tup (nD ss)), .d (.tup (nD [s])), .d (.int k), s4, .mT (setS kn), c6, c7, c8, c9, c10, c11, c12] ∧ (s4 = .ml (lvD A ss ws) ∨ s4 = .d (.lst (lvD A ss ws))) ∧ Lv2 A ss s k i ws kn) (R := fun x => ∃ w, x = .str (S w) ∧ IsF A ss s k w) (rngD 0 40) 0 (fun i d ρ hd hI => by
      obtain ⟨ws, kn, s4, c6, c7, c8, c9, c10, c11, c12, rfl, h4, L⟩ := hI
      rw [Nat.zero_add] at L ⊢
      have hi : i < 40 := by
        obtain ⟨hj, _⟩ := List.getElem?_eq_some_iff.mp hd
        rw [r40] at hj
        simpa using hj
      refine ⟨_, rfl, ?_⟩
      rcases tB2_ok h hss hl hk (by omega) L s4 h4 (.d d) c7 c8 c9 c10 c11 c12 with ⟨ws', kn', d7, d8, d9, d10, d11, d12, g1, g2⟩ | ⟨x, ρ, g1, g2⟩
      · exact .inl ⟨_, g1, ws', kn', _, _, d7, d8, d9, d10, d11, d12, rfl, .inr rfl, g2⟩
      · exact .inr ⟨x, ρ, g1, g2⟩) [.d A.enc, .d (.tup (nD ss)), .d (.tup (nD [s])), .d (.int k), .ml (lvD A ss [[]]), .mT (setS []), .no, .no, .no, .no, .no, .no, .no] ⟨[[]], [], _, _, _, _, _, _, _, _, rfl, .inl rfl, L0⟩ with ⟨ρ', k1, ws, kn, s4, c6, c7, c8, c9, c10, c11, c12, rfl, _, L⟩ | ⟨x, ρ', k1, w, rfl, f⟩
  · have k1 : forD (gSet 6) tB2 (rngD 0 40) [.d A.enc, .d (.tup (nD ss)), .d (.tup (nD [s])), .d (.int k), .ml [.tup [.str (S []), .tup (nD ss)]], .mT [], .no, .no, .no, .no, .no, .no, .no] = _ := k1
    refine .inr ⟨?_, fun x hx hkx hp => ?_⟩
    · unfold f_law_first
      rw [lf_eq]
      simp [runF, e_var, rg, S_e, k1, -nD_cons]
    · have rl : (rngD 0 40).length = 40 := by rw [r40]; simp
      rw [Nat.zero_add, rl] at L
      obtain ⟨p, hp, px⟩ := hp
      exact L.no x hx ⟨pth_inL h px, hkx, (mem_beh hss h).mpr ⟨p, hp, px⟩⟩
  · have k1 : forD (gSet 6) tB2 (rngD 0 40) [.d A.enc, .d (.tup (nD ss)), .d (.tup (nD [s])), .d (.int k), .ml [.tup [.str (S []), .tup (nD ss)]], .mT [], .no, .no, .no, .no, .no, .no, .no] = _ := k1
    refine .inl ⟨w, ?_, f⟩
    unfold f_law_first
    rw [lf_eq]
    simp [runF, e_var, rg, S_e, k1, -nD_cons]
end
end K63

namespace K63
open PySem PySem.Spec L2 DL
/-! ### the rows -/
abbrev Rw := List Nat × List Nat
inductive RowsOf (A : Au) : List Nat → List Rw → Prop
  | nil : RowsOf A [] []
  | yes {s : Nat} {ms : List Nat} {rows : List Rw} {u w : List Nat} : IsF A A.st s 0 u → IsF A [s] s 1 w → RowsOf A ms rows → RowsOf A (s :: ms) ((u, w) :: rows)
  | no {s : Nat} {ms : List Nat} {rows : List Rw} : ((¬ ∃ x, ∃ p ∈ A.st, Pth A x p s) ∨ ¬ ∃ x, x ≠ [] ∧ Pth A x s s) → RowsOf A ms rows → RowsOf A (s :: ms) rows
theorem back_pth {A : Au} {s : Nat} {w : List Nat} (h : IsF A [s] s 1 w) : w ≠ [] ∧ Pth A w s s := by
  obtain ⟨p, hp, px⟩ := h.pth
  cases List.mem_singleton.mp hp
  exact ⟨fun z => by have := h.len; rw [z] at this; simp at this, px⟩
theorem RowsOf.uniq {A : Au} {ms : List Nat} {r1 r2 : List Rw} (h : RowsOf A ms r1) : RowsOf A ms r2 → r1 = r2 := by
  induction h generalizing r2 with
  | nil =>
    intro k
    cases k
    rfl
  | @yes s ms rows u w h1 h2 h3 ih =>
    intro k
    cases k with
    | yes k1 k2 k3 => rw [h1.uniq k1, h2.uniq k2, ih k3]
    | no k1 k2 =>
      rcases k1 with z | z
      · exact absurd ⟨u, h1.pth⟩ z
      · exact absurd ⟨w, back_pth h2⟩ z
  | @no s ms rows h1 h2 ih =>
    intro k
    cases k with
    | yes k1 k2 k3 =>
      rcases h1 with z | z
      · exact absurd ⟨_, k1.pth⟩ z
      · exact absurd ⟨_, back_pth k2⟩ z
    | no k1 k2 => exact ih k2
theorem RowsOf.mem {A : Au} {ms : List Nat} {rows : List Rw} (h : RowsOf A ms rows) : ∀ r ∈ rows, ∃ s ∈ ms, IsF A A.st s 0 r.1 ∧ IsF A [s] s 1 r.2 := by
  induction h with
  | nil => exact fun r hr => by cases hr
  | yes h1 h2 h3 ih =>
    intro r hr
    rcases List.mem_cons.mp hr with rfl | hr
    · exact ⟨_, List.mem_cons_self, h1, h2⟩
    · obtain ⟨s, hs, k⟩ := ih r hr
      exact ⟨s, List.mem_cons_of_mem _ hs, k⟩
  | no h1 h2 ih =>
    intro r hr
    obtain ⟨s, hs, k⟩ := ih r hr
    exact ⟨s, List.mem_cons_of_mem _ hs, k⟩
theorem RowsOf.none {A : Au} {ms : List Nat} {rows : List Rw} (h : RowsOf A ms rows) (e : rows = []) : ∀ s ∈ ms, (¬ ∃ x, ∃ p ∈ A.st, Pth A x p s) ∨ ¬ ∃ x, x ≠ [] ∧ Pth A x s s := by
  induction h with
  | nil => exact fun s hs => by cases hs
  | yes h1 h2 h3 ih => cases e
  | no h1 h2 ih =>
    intro s hs
    rcases List.mem_cons.mp hs with rfl | hs
    · exact h1
    · exact ih e s hs
theorem exF {A : Au} (h : A.Ok) {s : Nat} (hp : ∃ x, ∃ p ∈ A.st, Pth A x p s) : ∃ u, IsF A A.st s 0 u ∧ u.length ≤ 4 := by
  obtain ⟨fm, i, _, B⟩ := first_words_ok h h.st h.stn
  obtain ⟨x, hx⟩ := hp
  obtain ⟨u, hu⟩ := B.all h s x hx
  exact ⟨u, B.first _ hu, Nat.le_trans (IsF.len_le B hu) h.n4⟩
theorem exB {A : Au} (h : A.Ok) {s : Nat} (hs : s < A.n) (hp : ∃ x, x ≠ [] ∧ Pth A x s s) : ∃ w, IsF A [s] s 1 w ∧ w.length ≤ 5 := by
  obtain ⟨b, _, k⟩ := first_back_ok h hs
  obtain ⟨x, hx, px⟩ := hp
  cases b with
  | none => exact absurd px (k x hx)
  | some w => exact ⟨w, k⟩
def rwD (r : Rw) : D := .tup [.int ((r.1.length : Int) + r.2.length), .tup [.int r.1.length, .str (S r.1)], .tup [.int r.2.length, .str (S r.2)]]
def rowLt (r b : Rw) : Bool := PySem.W.dataLt (rwD r).py (rwD b).py
theorem sh_rw {r : Rw} (h : Wd r.1 ∧ Wd r.2) : SeqAt.shaped (rwD r).py = true := by
  have h1 := py_S h.1
  have h2 := py_S h.2
  simp only [D.py] at h1 h2
  simp [rwD, SeqAt.shaped, D.py, D.pys, PyData.canLay0, PyData.canLayAll0, PyData.depth, PyData.depthAll] at h1 h2 ⊢
  exact ⟨h1, h2⟩
theorem lt_rw {r b : Rw} (h : Wd r.1 ∧ Wd r.2) (k : Wd b.1 ∧ Wd b.2) : ltD (rwD r) (rwD b) = some (.bl (rowLt r b)) := by
  show (if SeqAt.shaped (rwD r).py && SeqAt.shaped (rwD b).py && PySem.W.alike (rwD r).py (rwD b).py then some (PySem.W.dataLt (rwD r).py (rwD b).py) else none).map D.bl = _
  rw [sh_rw h, sh_rw k]
  rfl
theorem srt_rw {rows : List Rw} (h : ∀ r ∈ rows, Wd r.1 ∧ Wd r.2) : srtOk (D.pys (rows.map rwD)) = true := by
  unfold srtOk
  rw [pys_map2, List.map_map]
  simp only [Bool.and_eq_true, List.all_eq_true, List.mem_map, Bool.or_eq_true]
  refine ⟨⟨?_, ?_⟩, .inl ?_⟩
  · rintro _ ⟨e, _, rfl⟩ _ ⟨f, _, rfl⟩
    rfl
  · rintro _ ⟨e, he, rfl⟩
    exact sh_rw (h e he)
  · rintro _ ⟨e, _, rfl⟩
    rfl
def mnR (a y : Rw) : Rw := if rowLt y a = true then y else a
theorem minF_rw (rows : List Rw) : ∀ r : Rw, minF (rwD r) (rows.map rwD) = rwD (rows.foldl mnR r) := by
  induction rows with
  | nil => exact fun _ => rfl
  | cons y rows ih =>
    intro r
    rw [List.map_cons, List.foldl_cons, ← ih]
    show (rows.map rwD).foldl _ (if PySem.W.dataLt (rwD y).py (rwD r).py = true then rwD y else rwD r) = (rows.map rwD).foldl _ (rwD (mnR r y))
    congr 1
    unfold mnR rowLt
    split <;> rfl
theorem min_rw (r : Rw) (rows : List Rw) (h : ∀ x ∈ r :: rows, Wd x.1 ∧ Wd x.2) : minLD (.lst ((r :: rows).map rwD)) = some (rwD (rows.foldl mnR r)) := by
  have ok := srt_rw h
  show (if srtOk (D.pys ((r :: rows).map rwD)) = true ∧ (((r :: rows).map rwD).all fun x => match x with | .non => false | _ => true) = true then some (minF (rwD r) (rows.map rwD)) else none) = _
  have al : (((r :: rows).map rwD).all fun x => match x with | .non => false | _ => true) = true := by
    rw [List.all_eq_true]
    intro x hx
    obtain ⟨y, _, rfl⟩ := List.mem_map.mp hx
    rfl
  rw [if_pos ⟨ok, al⟩, minF_rw]
def isNon : D → Bool
  | .non => true
  | _ => false
theorem e_isN2 (b : Bool) (f : FE) (ρ : Sls) : fIsN b f ρ = (f ρ).bind fun r => some (.bl (if isNon r.1 = true then !b else b), r.2) := by
  rw [e_isN]
  congr 1
  funext r
  obtain ⟨d, ρ'⟩ := r
  cases d <;> rfl
theorem isN_rw (r : Rw) : isNon (rwD r) = false := rfl
theorem isN_str (r : Str) : isNon (.str r) = false := rfl
def upR : Option Rw → Rw → Option Rw
  | none, r => some r
  | some b, r => some (mnR b r)
theorem upR_some (rows : List Rw) : ∀ b : Rw, rows.foldl upR (some b) = some (rows.foldl mnR b) := by
  induction rows with
  | nil => exact fun _ => rfl
  | cons y rows ih => exact fun b => ih (mnR b y)
def encR : Option Rw → D
  | none => .non
  | some r => rwD r
def OkR : Option Rw → Prop
  | none => True
  | some r => Wd r.1 ∧ Wd r.2
def mB : FS := fSeq (fIfS (fTest (fIn (fVar 9) (fLook 7))) (fSeq (fAsg (fCall f_first_back (fCons (fVar 6) (fCons (fVar 9) (fCons (fVar 2) (fNil))))) (gSet 10)) (fSeq (fIfS (fTest (fIsN true (fVar 10))) (fSeq (fAsg (fTup (fCons (fBin addD (fApp lenD (fBinN ixD 7 (fVar 9))) (fApp lenD (fLook 10))) (fCons (fCall f_place (fCons (fBinN ixD 7 (fVar 9)) (fNil))) (fCons (fCall f_place (fCons (fVar 10) (fNil))) (fNil))))) (gSet 11)) (fSeq (fIfS (fOrT (fTest (fIsN false (fVar 8))) (fTest (fBinN ltD 11 (fLook 8)))) (fSeq (fAsg (fVar 11) (gSet 8)) (fNx)) (fNx)) (fNx))) (fNx)) (fNx))) (fNx)) (fNx)
theorem sl_eq : b_some_lasso = fSeq (fAsg (fVar 0) (gTupD 5 (gsCons (gSet 1) (gsCons (gSet 2) (gsCons (gSet 3) (gsCons (gSet 4) (gsCons (gSet 5) (gsNil)))))))) (fSeq (fAsg (fCall f_steps_of (fCons (fVar 0) (fNil))) (gSet 6)) (fSeq (fAsg (fCall f_first_words (fCons (fVar 6) (fCons (fVar 3) (fCons (fVar 2) (fNil))))) (gSet 7)) (fSeq (fAsg (fC .non) (gSet 8)) (fSeq (fFor (fItems (fVar 5)) (gSet 9) mB) (fSeq (fIfS (fTest (fIsN false (fVar 8))) (fSeq (fRet (fTup (fCons (fC (.str "empty")) (fNil)))) (fNx)) (fNx)) (fSeq (fRet (fTup (fCons (fC (.str "some")) (fCons (fBin ixD (fBinN ixD 8 (fC (.int (1)))) (fC (.int (1)))) (fCons (fBin ixD (fBinN ixD 8 (fC (.int (2)))) (fC (.int (1)))) (fNil)))))) (fNx))))))) := rfl
section
variable {A : Au}
theorem mB_ok (h : A.Ok) {fm : Fm} {i : Nat} (B : Bw A A.st fm [] i) {s : Nat} (hs : s < A.n) {b : Option Rw} (hb : OkR b) (c1 c3 c4 c5 c10 c11 : Sl) :
    ∃ b' c10' c11', mB [.d A.enc, c1, .d (.str (S A.L)), c3, c4, c5, .d (stepsD A), .d (.dk (wdK fm)), .d (encR b), .d (.int s), c10, c11] = some (.nx [.d A.enc, c1, .d (.str (S A.L)), c3, c4, c5, .d (stepsD A), .d (.dk (wdK fm)), .d (encR b'), .d (.int s), c10', c11']) ∧
      ((b' = b ∧ ((¬ ∃ x, ∃ p ∈ A.st, Pth A x p s) ∨ ¬ ∃ x, x ≠ [] ∧ Pth A x s s)) ∨ ∃ u w, IsF A A.st s 0 u ∧ IsF A [s] s 1 w ∧ b' = upR b (u, w)) := by
  have n4 := h.n4
  by_cases ex : ∃ u, (s, u) ∈ fm
  · obtain ⟨u, hu⟩ := ex
    have g := get_wd B.nd hu
    have fu := B.first _ hu
    have fu : IsF A A.st s 0 u := fu
    have ul := IsF.len_le B hu
    obtain ⟨bk, k1, k2⟩ := first_back_ok h hs
    cases bk with
    | none =>
      have k1 : f_first_back [stepsD A, .int s, .str (S A.L)] = some .non := k1
      refine ⟨b, .d .non, c11, ?_, .inl ⟨rfl, .inr fun ⟨x, hx, px⟩ => k2 x hx px⟩⟩
      unfold mB
      simp [e_var, g, k1]
    | some w =>
      obtain ⟨fw, wl⟩ := k2
      have k1 : f_first_back [stepsD A, .int s, .str (S A.L)] = some (.str (S w)) := k1
      have l1 := lenS u (by omega)
      have l2 := lenS w (by omega)
      have p1 := place_ok u (by omega)
      have p2 := place_ok w (by omega)
      have rd : D.tup [.int ((u.length : Int) + w.length), .tup [.int u.length, .str (S u)], .tup [.int w.length, .str (S w)]] = rwD (u, w) := rfl
      cases b with
      | none =>
        refine ⟨some (u, w), .d (.str (S w)), .d (rwD (u, w)), ?_, .inr ⟨u, w, fu, fw, rfl⟩⟩
        unfold mB
        simp [e_var, g, k1, l1, l2, p1, p2, rd, encR]
      | some b =>
        have lt := lt_rw (r := (u, w)) (b := b) ⟨fu.wd h, fw.wd h⟩ hb
        have nb : ∃ ds, rwD b = .tup ds := ⟨_, rfl⟩
        refine ⟨some (mnR b (u, w)), .d (.str (S w)), .d (rwD (u, w)), ?_, .inr ⟨u, w, fu, fw, rfl⟩⟩
        unfold mB mnR
        cases z : rowLt (u, w) b with
        | true =>
          rw [z] at lt
          simp [e_var, g, k1, l1, l2, p1, p2, rd, encR, lt, -e_isN, e_isN2, isN_rw, isN_str]
        | false =>
          rw [z] at lt
          simp [e_var, g, k1, l1, l2, p1, p2, rd, encR, lt, -e_isN, e_isN2, isN_rw, isN_str]
  · have no : ∀ u, (s, u) ∉ fm := fun u hu => ex ⟨u, hu⟩
    have g := get_wd_no no
    refine ⟨b, c10, c11, ?_, .inl ⟨rfl, .inl fun ⟨x, hx⟩ => ?_⟩⟩
    · unfold mB
      simp [e_var, g]
    · obtain ⟨u, hu⟩ := B.all h s x hx
      exact no u hu
/-- what is told -/
def tellD : Option Rw → D
  | none => .tup [.str "empty"]
  | some r => .tup [.str "some", .str (S r.1), .str (S r.2)]
theorem some_ok (h : A.Ok) : ∃ rows, RowsOf A A.en rows ∧ f_some_lasso [A.enc] = some (tellD (rows.foldl upR none)) := by
  obtain ⟨fm, i, k1, B⟩ := first_words_ok h h.st h.stn
  have okU : ∀ {b : Option Rw} {r : Rw}, OkR b → Wd r.1 ∧ Wd r.2 → OkR (upR b r) := fun {b r} hb hr => by
    cases b with
    | none => exact hr
    | some b =>
      show OkR (some (mnR b r))
      unfold mnR
      split
      · exact hr
      · exact hb
  have loop : ∀ (ms : List Nat) (b : Option Rw) (c1 c3 c4 c5 c9 c10 c11 : Sl), (∀ s ∈ ms, s < A.n) → OkR b → ∃ rows c9' c10' c11', RowsOf A ms rows ∧ forD (gSet 9) mB (nD ms) [.d A.enc, c1, .d (.str (S A.L)), c3, c4, c5, .d (stepsD A), .d (.dk (wdK fm)), .d (encR b), c9, c10, c11] =
      some (.nx [.d A.enc, c1, .d (.str (S A.L)), c3, c4, c5, .d (stepsD A), .d (.dk (wdK fm)), .d (encR (rows.foldl upR b)), c9', c10', c11']) := by
    intro ms
    induction ms with
    | nil =>
      intro b c1 c3 c4 c5 c9 c10 c11 _ _
      exact ⟨[], c9, c10, c11, .nil, rfl⟩
    | cons s ms ih =>
      intro b c1 c3 c4 c5 c9 c10 c11 hs hb
      obtain ⟨b', d10, d11, g1, g2⟩ := mB_ok h B (hs s List.mem_cons_self) hb c1 c3 c4 c5 c10 c11
      have hs' := fun t ht => hs t (List.mem_cons_of_mem _ ht)
      rcases g2 with ⟨rfl, g2⟩ | ⟨u, w, fu, fw, rfl⟩
      · obtain ⟨rows, d9, e10, e11, k2, k3⟩ := ih b' c1 c3 c4 c5 (.d (.int s)) d10 d11 hs' hb
        refine ⟨rows, d9, e10, e11, .no g2 k2, ?_⟩
        rw [nD_cons, forD]
        simp [g1, k3]
      · obtain ⟨rows, d9, e10, e11, k2, k3⟩ := ih (upR b (u, w)) c1 c3 c4 c5 (.d (.int s)) d10 d11 hs' (okU hb ⟨fu.wd h, fw.wd h⟩)
        refine ⟨(u, w) :: rows, d9, e10, e11, .yes fu fw k2, ?_⟩
        rw [nD_cons, forD]
        simp [g1, k3]
  obtain ⟨rows, d9, d10, d11, k2, k3⟩ := loop A.en none (.d (.int A.n)) (.d (.tup (nD A.st))) (.d (.tup (A.ed.map edD))) (.d (.tup (nD A.en))) .no .no .no h.en trivial
  refine ⟨rows, k2, ?_⟩
  have en : A.enc = .tup [.int A.n, .str (S A.L), .tup (nD A.st), .tup (A.ed.map edD), .tup (nD A.en)] := rfl
  have k3 : forD (gSet 9) mB (nD A.en) [.d A.enc, .d (.int A.n), .d (.str (S A.L)), .d (.tup (nD A.st)), .d (.tup (A.ed.map edD)), .d (.tup (nD A.en)), .d (stepsD A), .d (.dk (wdK fm)), .d .non, .no, .no, .no] = _ := k3
  have st := steps_ok h
  unfold f_some_lasso
  rw [sl_eq]
  cases hb : rows.foldl upR none with
  | none =>
    rw [hb] at k3
    rw [en] at k3 st ⊢
    simp [runF, e_var, st, k1, k3, encR, tellD]
  | some r =>
    rw [hb] at k3
    rw [en] at k3 st ⊢
    have x1 : ixD (rwD r) (.int 1) = some (.tup [.int r.1.length, .str (S r.1)]) := rfl
    have x2 : ixD (rwD r) (.int 2) = some (.tup [.int r.2.length, .str (S r.2)]) := rfl
    simp [runF, e_var, st, k1, k3, encR, tellD, -e_isN, e_isN2, isN_rw, x1, x2]
def nB : FS := fSeq (fPar 3 4 (nE (fCall f_law_first (fCons (fVar 0) (fCons (fBinN ixD 0 (fC (.int (2)))) (fCons (fTup (fCons (fVar 2) (fNil))) (fCons (fC (.int (0))) (fNil))))))) (nE (fCall f_law_first (fCons (fVar 0) (fCons (fTup (fCons (fVar 2) (fNil))) (fCons (fTup (fCons (fVar 2) (fNil))) (fCons (fC (.int (1))) (fNil)))))))) (fSeq (fIfS (fAndT (fTest (fIsN true (fVar 3))) (fTest (fIsN true (fVar 4)))) (fSeq (fAppend 1 (fTup (fCons (fBin addD (fApp lenD (fLook 3)) (fApp lenD (fLook 4))) (fCons (fTup (fCons (fApp lenD (fLook 3)) (fCons (fVar 3) (fNil)))) (fCons (fTup (fCons (fApp lenD (fLook 4)) (fCons (fVar 4) (fNil)))) (fNil)))))) (fNx)) (fNx)) (fNx))
theorem ls_eq : b_law_some = fSeq (fSetL (fLst (fNil)) 1) (fSeq (fFor (fItems (fBinN ixD 0 (fC (.int (4))))) (gSet 2) nB) (fSeq (fIfS (fNotT (fTru (fLook 1))) (fSeq (fRet (fTup (fCons (fC (.str "empty")) (fNil)))) (fNx)) (fNx)) (fSeq (fAsg (fApp minLD (fLook 1)) (gTupD 3 (gsCons (gSet 5) (gsCons (gSet 6) (gsCons (gSet 7) (gsNil)))))) (fSeq (fRet (fTup (fCons (fC (.str "some")) (fCons (fBinN ixD 6 (fC (.int (1)))) (fCons (fBinN ixD 7 (fC (.int (1)))) (fNil)))))) (fNx))))) := rfl
theorem nB_ok (h : A.Ok) {s : Nat} (hs : s < A.n) (acc : List Rw) (hl : acc.length < 100) (c3 c4 c5 c6 c7 : Sl) :
    ∃ acc' c3' c4', nB [.d A.enc, .ml (acc.map rwD), .d (.int s), c3, c4, c5, c6, c7] = some (.nx [.d A.enc, .ml (acc'.map rwD), .d (.int s), c3', c4', c5, c6, c7]) ∧
      ((acc' = acc ∧ ((¬ ∃ x, ∃ p ∈ A.st, Pth A x p s) ∨ ¬ ∃ x, x ≠ [] ∧ Pth A x s s)) ∨ ∃ u w, IsF A A.st s 0 u ∧ IsF A [s] s 1 w ∧ acc' = acc ++ [(u, w)]) := by
  have n4 := h.n4
  have a2 : ixD A.enc (.int 2) = some (.tup (nD A.st)) := rfl
  have hu := law_first_ok (A := A) (ss := A.st) (s := s) (k := 0) h h.st h.stl (by decide)
  have hw := law_first_ok (A := A) (ss := [s]) (s := s) (k := 1) h (fun p hp => by cases List.mem_singleton.mp hp; exact hs) (by simp) (by decide)
  rcases hu with ⟨u, u1, fu⟩ | ⟨u1, u2⟩
  · have u1 : f_law_first [A.enc, .tup (nD A.st), .tup [.int s], .int 0] = some (.str (S u)) := u1
    rcases hw with ⟨w, w1, fw⟩ | ⟨w1, w2⟩
    · have w1 : f_law_first [A.enc, .tup [.int s], .tup [.int s], .int 1] = some (.str (S w)) := w1
      obtain ⟨u', fu', ul⟩ := exF h ⟨u, fu.pth⟩
      obtain ⟨w', fw', wl⟩ := exB h hs ⟨w, back_pth fw⟩
      have eu := fu.uniq fu'
      have ew := fw.uniq fw'
      subst eu
      subst ew
      have l1 := lenS u (by omega)
      have l2 := lenS w (by omega)
      have hl2 : acc.length < 1000000 := by omega
      have rd : D.tup [.int ((u.length : Int) + w.length), .tup [.int u.length, .str (S u)], .tup [.int w.length, .str (S w)]] = rwD (u, w) := rfl
      refine ⟨acc ++ [(u, w)], .d (.str (S u)), .d (.str (S w)), ?_, .inr ⟨u, w, fu, fw, rfl⟩⟩
      unfold nB
      simp [e_var, a2, u1, w1, l1, l2, hl2, rd]
    · have w1 : f_law_first [A.enc, .tup [.int s], .tup [.int s], .int 1] = some .non := w1
      refine ⟨acc, .d (.str (S u)), .d .non, ?_, .inl ⟨rfl, .inr fun z => ?_⟩⟩
      · unfold nB
        simp [e_var, a2, u1, w1]
      · obtain ⟨w, fw, wl⟩ := exB h hs z
        exact w2 w (by omega) fw.len fw.pth
  · have u1 : f_law_first [A.enc, .tup (nD A.st), .tup [.int s], .int 0] = some .non := u1
    have nou : ¬ ∃ x, ∃ p ∈ A.st, Pth A x p s := fun z => by
      obtain ⟨u, fu, ul⟩ := exF h z
      exact u2 u (by omega) fu.len fu.pth
    rcases hw with ⟨w, w1, fw⟩ | ⟨w1, w2⟩
    · have w1 : f_law_first [A.enc, .tup [.int s], .tup [.int s], .int 1] = some (.str (S w)) := w1
      refine ⟨acc, .d .non, .d (.str (S w)), ?_, .inl ⟨rfl, .inl nou⟩⟩
      unfold nB
      simp [e_var, a2, u1, w1]
    · have w1 : f_law_first [A.enc, .tup [.int s], .tup [.int s], .int 1] = some .non := w1
      refine ⟨acc, .d .non, .d .non, ?_, .inl ⟨rfl, .inl nou⟩⟩
      unfold nB
      simp [e_var, a2, u1, w1]
theorem law_some_ok (h : A.Ok) : ∃ rows, RowsOf A A.en rows ∧ f_law_some [A.enc] = some (tellD (rows.foldl upR none)) := by
  have loop : ∀ (ms : List Nat) (acc : List Rw) (c2 c3 c4 : Sl), (∀ s ∈ ms, s < A.n) → acc.length + ms.length < 100 → ∃ rows c2' c3' c4', RowsOf A ms rows ∧ forD (gSet 2) nB (nD ms) [.d A.enc, .ml (acc.map rwD), c2, c3, c4, .no, .no, .no] =
      some (.nx [.d A.enc, .ml ((acc ++ rows).map rwD), c2', c3', c4', .no, .no, .no]) := by
    intro ms
    induction ms with
    | nil =>
      intro acc c2 c3 c4 _ _
      exact ⟨[], c2, c3, c4, .nil, by simp [forD]⟩
    | cons s ms ih =>
      intro acc c2 c3 c4 hs hl
      rw [List.length_cons] at hl
      obtain ⟨acc', d3, d4, g1, g2⟩ := nB_ok h (hs s List.mem_cons_self) acc (by omega) c3 c4 .no .no .no
      have hs' := fun t ht => hs t (List.mem_cons_of_mem _ ht)
      rcases g2 with ⟨rfl, g2⟩ | ⟨u, w, fu, fw, rfl⟩
      · obtain ⟨rows, e2, e3, e4, k2, k3⟩ := ih acc' (.d (.int s)) d3 d4 hs' (by omega)
        refine ⟨rows, e2, e3, e4, .no g2 k2, ?_⟩
        rw [nD_cons, forD, e_gset]
        simp only [Option.bind_some, List.set_cons_succ, List.set_cons_zero, g1, k3]
      · obtain ⟨rows, e2, e3, e4, k2, k3⟩ := ih (acc ++ [(u, w)]) (.d (.int s)) d3 d4 hs' (by rw [List.length_append]; simp; omega)
        refine ⟨(u, w) :: rows, e2, e3, e4, .yes fu fw k2, ?_⟩
        rw [nD_cons, forD, e_gset]
        simp only [Option.bind_some, List.set_cons_succ, List.set_cons_zero, g1, k3]
        simp
  obtain ⟨rows, d2, d3, d4, k2, k3⟩ := loop A.en [] .no .no .no h.en (by have := h.enl; simp; omega)
  have a4 : ixD A.enc (.int 4) = some (.tup (nD A.en)) := rfl
  have k3 : forD (gSet 2) nB (nD A.en) [.d A.enc, .ml [], .no, .no, .no, .no, .no, .no] = some (.nx [.d A.enc, .ml (rows.map rwD), d2, d3, d4, .no, .no, .no]) := k3
  refine ⟨rows, k2, ?_⟩
  unfold f_law_some
  rw [ls_eq]
  cases rows with
  | nil => simp [runF, a4, k3, tellD]
  | cons r rows =>
    have mn := min_rw r rows fun x hx => by
      obtain ⟨s, _, f1, f2⟩ := k2.mem x hx
      exact ⟨f1.wd h, f2.wd h⟩
    have up : (r :: rows).foldl upR none = some (rows.foldl mnR r) := upR_some rows r
    rw [up]
    generalize rows.foldl mnR r = m at mn
    have rd : rwD m = .tup [.int ((m.1.length : Int) + m.2.length), .tup [.int m.1.length, .str (S m.1)], .tup [.int m.2.length, .str (S m.2)]] := rfl
    rw [rd] at mn
    simp only [List.map_cons] at mn k3
    simp [runF, a4, k3, mn, tellD]
end
end K63

namespace K63
open PySem PySem.Spec L2 DL
theorem strs_w (w : List Nat) : strsD (w.map fun l => D.str (S [l])) = some (w.map fun l => S [l]) := by
  induction w with
  | nil => rfl
  | cons l w ih =>
    show (strsD (w.map fun l => D.str (S [l]))).bind _ = _
    rw [ih]
    rfl
theorem join_ok (w : List Nat) (h : w.length ≤ 1000) : joinD (.str "") (.lst (w.map fun l => D.str (S [l]))) = some (.str (S w)) := by
  show (strsD _).bind _ = _
  rw [strs_w]
  have fold : ∀ (v : List Nat) (acc : Array Nat), (v.map fun l => S [l]).foldl (fun acc p => acc ++ ("" : Str).cps ++ p.cps) acc = acc ++ v.toArray := by
    intro v
    induction v with
    | nil =>
      intro acc
      simp
    | cons l v ih =>
      intro acc
      rw [List.map_cons, List.foldl_cons, ih]
      have e : ("" : Str).cps = #[] := rfl
      rw [e]
      simp [S]
  have sm : ((w.map fun l => S [l]).map (·.length)).sum = w.length := by
    clear h
    induction w with
    | nil => rfl
    | cons l w ih =>
      rw [List.map_cons, List.map_cons, List.sum_cons, ih, S_len, List.length_cons]
      simp
      omega
  have el : ("" : Str).length = 0 := rfl
  show (if ((w.map fun l => S [l]).map (·.length)).sum + (w.map fun l => S [l]).length * ("" : Str).length ≤ 1000000 then some (D.str (Txt.join "" (w.map fun l => S [l]))) else none) = _
  rw [sm, el, if_pos (by omega)]
  congr 2
  show (⟨((w.map fun l => S [l]).drop 1).foldl (fun acc p => acc ++ ("" : Str).cps ++ p.cps) ((w.map fun l => S [l]).headD Str.empty).cps⟩ : Str) = S w
  cases w with
  | nil => rfl
  | cons l w =>
    rw [List.map_cons, List.drop_one, List.tail_cons, fold, List.headD_cons]
    simp [S]
theorem mk_end {A : Au} {q : Nat} (hq : q ∈ A.en) : ∀ {w : List Nat} {p : Nat}, w ≠ [] → Pth A w p q → Mk A w p q
  | [], _, h, _ => absurd rfl h
  | [l], p, _, ⟨r, h1, h2⟩ => by
    cases h2
    exact ⟨_, h1, .inl ⟨hq, rfl⟩⟩
  | l :: m :: w, p, _, ⟨r, h1, h2⟩ => ⟨r, h1, .inr (mk_end hq (by simp) h2)⟩
theorem mk_mid {A : Au} {q : Nat} : ∀ {w : List Nat} {p : Nat}, Mk A w p q → ∃ r ∈ A.en, ∃ w1 w2, w1 ≠ [] ∧ Pth A w1 p r ∧ Pth A w2 r q
  | l :: w, p, ⟨r, h1, h2⟩ => by
    rcases h2 with ⟨h2, h3⟩ | h2
    · exact ⟨r, h2, [l], w, by simp, ⟨r, h1, rfl⟩, h3⟩
    · obtain ⟨t, ht, w1, w2, _, a, b⟩ := mk_mid h2
      exact ⟨t, ht, l :: w1, w2, by simp, ⟨r, h1, a⟩, b⟩
theorem rd_row {A : Au} {s : Nat} {u w : List Nat} (hs : s ∈ A.en) (fu : IsF A A.st s 0 u) (fw : IsF A [s] s 1 w) : Rd A u w := by
  obtain ⟨p, hp, px⟩ := fu.pth
  obtain ⟨ne, pw⟩ := back_pth fw
  exact ⟨s, s, ⟨p, hp, s, px, .refl _⟩, mk_end hs ne pw, .refl _⟩
theorem rd_empty {A : Au} (h : RowsOf A A.en []) {u v : List Nat} : ¬ Rd A u v := by
  rintro ⟨p, q, ⟨s0, hs0, p0, px, r1⟩, mk, r2⟩
  obtain ⟨r, hr, w1, w2, ne, a, b⟩ := mk_mid mk
  obtain ⟨m1, k1⟩ := rt_rep.mp r1
  obtain ⟨m2, k2⟩ := rt_rep.mp r2
  rcases h.none rfl r hr with z | z
  · exact z ⟨u ++ (rep v m1 ++ w1), s0, hs0, pth_app.mpr ⟨p0, px, pth_app.mpr ⟨p, k1, a⟩⟩⟩
  · exact z ⟨w2 ++ (rep v m2 ++ w1), by simp [ne], pth_app.mpr ⟨q, b, pth_app.mpr ⟨p, k2, a⟩⟩⟩
theorem mn_mem (rows : List Rw) : ∀ r : Rw, rows.foldl mnR r ∈ r :: rows := by
  induction rows with
  | nil => exact fun r => List.mem_cons_self
  | cons y rows ih =>
    intro r
    have := ih (mnR r y)
    rw [List.foldl_cons]
    rcases List.mem_cons.mp this with e | e
    · rw [e]
      unfold mnR
      split
      · simp
      · simp
    · simp [e]
theorem ne_tell {o : Option Rw} (h : OkR o) : neD (tellD o) (tellD o) = some (.bl false) := by
  cases o with
  | none =>
    have sh : SeqAt.shaped (D.tup [.str "empty"]).py = true := by decide +kernel
    have eq : PyData.eqv (D.tup [.str "empty"]).py (D.tup [.str "empty"]).py = true := by decide +kernel
    show (if SeqAt.shaped (D.tup [.str "empty"]).py && SeqAt.shaped (D.tup [.str "empty"]).py then some (PyData.eqv (D.tup [.str "empty"]).py (D.tup [.str "empty"]).py) else none).map (fun b => D.bl (!b)) = _
    rw [sh, eq]
    rfl
  | some r =>
    have h1 := py_S h.1
    have h2 := py_S h.2
    have sh : SeqAt.shaped (D.tup [.str "some", .str (S r.1), .str (S r.2)]).py = true := by
      simp only [D.py] at h1 h2
      simp [SeqAt.shaped, D.py, D.pys, PyData.canLay0, PyData.canLayAll0, PyData.depth, PyData.depthAll] at h1 h2 ⊢
      exact ⟨by decide +kernel, h1, h2⟩
    have eq : PyData.eqv (D.tup [.str "some", .str (S r.1), .str (S r.2)]).py (D.tup [.str "some", .str (S r.1), .str (S r.2)]).py = true := by
      simp [D.py, D.pys, PyData.eqv, PyData.eqvAll]
    show (if SeqAt.shaped (D.tup [.str "some", .str (S r.1), .str (S r.2)]).py && SeqAt.shaped (D.tup [.str "some", .str (S r.1), .str (S r.2)]).py then some (PyData.eqv (D.tup [.str "some", .str (S r.1), .str (S r.2)]).py (D.tup [.str "some", .str (S r.1), .str (S r.2)]).py) else none).map (fun b => D.bl (!b)) = _
    rw [sh, eq]
    rfl
/-- letters drawn for a word -/
theorem draw_ok {L : List Nat} (L1 : 0 < L.length) (L2 : L.length ≤ 2) (a0 a3 a4 a5 a6 a7 a8 a9 a10 a11 a12 : Sl) : ∀ (ds : List D) (w : List Nat) (c : List D), CSt c → (∀ l ∈ w, l ∈ L) → ∃ (w' : List Nat) (c' : List D), lcD (gSet 13) (fun ρ => some (true, ρ)) (fBinN ixD 2 (fCallIO f_law_take 1 (fCons (fApp lenD (fLook 2)) (fNil)))) [13] ds (w.map fun l => D.str (S [l])) [a0, .ml c, .d (.str (S L)), a3, a4, a5, a6, a7, a8, a9, a10, a11, a12, .no] =
      some (w'.map (fun l => D.str (S [l])), [a0, .ml c', .d (.str (S L)), a3, a4, a5, a6, a7, a8, a9, a10, a11, a12, .no]) ∧ CSt c' ∧ (∀ l ∈ w', l ∈ L) ∧ w'.length = w.length + ds.length
  | [], w, c, hc, hw => ⟨w, c, rfl, hc, hw, rfl⟩
  | d :: ds, w, c, hc, hw => by
    obtain ⟨⟨_, c1⟩, g1, ⟨k, hk, rfl⟩, t1⟩ := take_ok hc L.length L1 (by omega)
    have lx : ixD (.str (S L)) (.int k) = some (.str (S [L[k]])) := by
      rw [ixS L k (by omega), List.getElem?_eq_getElem hk]
      rfl
    obtain ⟨w', c', k1, k2, k3, k4⟩ := draw_ok L1 L2 a0 a3 a4 a5 a6 a7 a8 a9 a10 a11 a12 ds (w ++ [L[k]]) c1 t1 (fun l hl => by
      rcases List.mem_append.mp hl with hl | hl
      · exact hw l hl
      · cases List.mem_singleton.mp hl
        exact List.getElem_mem _)
    refine ⟨w', c', ?_, k2, k3, by rw [k4, List.length_append, List.length_cons]; simp; omega⟩
    have lL := lenS L (by omega)
    rw [lcD]
    rw [List.map_append] at k1
    simp [fCallIO, lL, g1, lx]
    simpa using k1
theorem r_ev {b : FS} {np ex : Nat} {ds : List D} {d : D} (hl : ds.length = np) (h : ∃ o, b (ds.map Sl.d ++ List.replicate ex .no) = some o ∧ ∃ ρ, o = .rt d ρ) : runF np ex b ds = some d := by
  obtain ⟨o, h1, ρ, rfl⟩ := h
  unfold runF
  rw [if_pos hl, h1]
  rfl
theorem ltr {L : List Nat} (hL : L = [97, 98] ∨ L = [97]) {w : List Nat} (h : ∀ l ∈ w, l ∈ L) : Wd w := fun l hl => by
  have := h l hl
  rcases hL with e | e <;> rw [e] at this
  · simpa [Lt] using this
  · exact .inl (by simpa using this)
theorem ct_ff (b : Bool) : (b == b) = true := by cases b <;> rfl
theorem law_ok (ns : List Int) (hn : ns.length ≤ 63) : f_law [.scr ns] = some (.bl true) := by
  unfold f_law b_law
  refine r_ev rfl ?_
  -- the draws begin
  obtain ⟨c0, hc0, s0⟩ := start_ok ns hn
  refine seq_ev (I := fun ρ => ρ = [.d (.scr ns), .ml c0, .no, .no, .no, .no, .no, .no, .no, .no, .no, .no, .no, .no]) ⟨_, by simp [e_var, hc0], rfl⟩ ?_
  rintro _ rfl
  -- the letters
  refine seq_ev (I := fun ρ => ∃ c L, CSt c ∧ (L = [97, 98] ∨ L = [97]) ∧ ρ = [.d (.scr ns), .ml c, .d (.str (S L)), .no, .no, .no, .no, .no, .no, .no, .no, .no, .no, .no]) ?_ ?_
  · obtain ⟨⟨_, c1⟩, g1, ⟨k, hk, rfl⟩, t1⟩ := take_ok s0 4 (by decide) (by decide)
    have g1 : f_law_take c0 [.int 4] = some (.int k, c1) := g1
    by_cases z : k = 0
    · subst z
      refine ⟨_, ?_, c1, [97], t1, .inr rfl, rfl⟩
      simp [fCallIO, g1]
      rfl
    · have z' : ((k : Int) == 0) = false := beq_eq_false_iff_ne.mpr (by omega)
      refine ⟨_, ?_, c1, [97, 98], t1, .inl rfl, rfl⟩
      simp [fCallIO, g1, z']
      rfl
  rintro _ ⟨c, L, s1, hL, rfl⟩
  have L12 : 0 < L.length ∧ L.length ≤ 2 := by rcases hL with e | e <;> rw [e] <;> decide
  -- the automaton
  refine seq_ev (I := fun ρ => ∃ c A, CSt c ∧ Au.Ok A ∧ A.L = L ∧ ρ = [.d (.scr ns), .ml c, .d (.str (S L)), .d A.enc, .no, .no, .no, .no, .no, .no, .no, .no, .no, .no]) ?_ ?_
  · obtain ⟨⟨_, c1⟩, g1, ⟨A, hA, eL, rfl⟩, t1⟩ := automaton_ok s1 hL
    refine ⟨_, ?_, c1, A, t1, hA, eL, rfl⟩
    simp [fCallIO, e_var, g1]
  rintro _ ⟨c, A, s2, hA, eL, rfl⟩
  -- u
  refine seq_ev (I := fun ρ => ∃ c u, CSt c ∧ Wd u ∧ u.length ≤ 4 ∧ ρ = [.d (.scr ns), .ml c, .d (.str (S L)), .d A.enc, .d (.str (S u)), .no, .no, .no, .no, .no, .no, .no, .no, .no]) ?_ ?_
  · obtain ⟨⟨_, c1⟩, g1, ⟨k, hk, rfl⟩, t1⟩ := take_ok s2 5 (by decide) (by decide)
    have g1 : f_law_take c [.int 5] = some (.int k, c1) := g1
    obtain ⟨u, c2, g2, t2, u1, u2⟩ := draw_ok L12.1 L12.2 (.d (.scr ns)) (.d A.enc) .no .no .no .no .no .no .no .no .no (rngD 0 k) [] c1 t1 (fun l hl => by cases hl)
    have rl : (rngD 0 (k : Int)).length = k := by rw [rng_nat, List.length_map, List.length_range]
    rw [rl] at u2
    have ul : u.length ≤ 4 := by simp at u2; omega
    have j := join_ok u (by omega)
    have rk : rgOk (k : Int) = true := rg_ok k (by omega)
    have rl2 : (rngD 0 (k : Int)).length ≤ 1000000 := by rw [rl]; omega
    have g2 : lcD (gSet 13) (fun ρ => some (true, ρ)) (fBinN ixD 2 (fCallIO f_law_take 1 (fCons (fApp lenD (fLook 2)) (fNil)))) [13] (rngD 0 k) [] [.d (.scr ns), .ml c1, .d (.str (S L)), .d A.enc, .no, .no, .no, .no, .no, .no, .no, .no, .no, .no] = _ := g2
    refine ⟨_, ?_, c2, u, t2, ltr hL u1, ul, rfl⟩
    simp [fCallIO, g1, rk, rl2, g2, j]
  rintro _ ⟨c, u, s3, wu, lu, rfl⟩
  -- v
  refine seq_ev (I := fun ρ => ∃ c v, CSt c ∧ Wd v ∧ v.length ≤ 4 ∧ v ≠ [] ∧ ρ = [.d (.scr ns), .ml c, .d (.str (S L)), .d A.enc, .d (.str (S u)), .d (.str (S v)), .no, .no, .no, .no, .no, .no, .no, .no]) ?_ ?_
  · obtain ⟨⟨_, c1⟩, g1, ⟨k, hk, rfl⟩, t1⟩ := take_ok s3 4 (by decide) (by decide)
    have g1 : f_law_take c [.int 4] = some (.int k, c1) := g1
    obtain ⟨v, c2, g2, t2, u1, u2⟩ := draw_ok L12.1 L12.2 (.d (.scr ns)) (.d A.enc) (.d (.str (S u))) .no .no .no .no .no .no .no .no (rngD 0 ((1 + k : Nat) : Int)) [] c1 t1 (fun l hl => by cases hl)
    have rl : (rngD 0 ((1 + k : Nat) : Int)).length = 1 + k := by rw [rng_nat, List.length_map, List.length_range]
    rw [rl] at u2
    have ul : v.length = 1 + k := by simpa using u2
    have j := join_ok v (by omega)
    have rk : rgOk (1 + (k : Int)) = true := rg_ok (1 + k) (by omega)
    have rl2 : (rngD 0 (1 + (k : Int))).length ≤ 1000000 := by
      have : (rngD 0 (1 + (k : Int))).length = 1 + k := rl
      omega
    have g2 : lcD (gSet 13) (fun ρ => some (true, ρ)) (fBinN ixD 2 (fCallIO f_law_take 1 (fCons (fApp lenD (fLook 2)) (fNil)))) [13] (rngD 0 (1 + (k : Int))) [] [.d (.scr ns), .ml c1, .d (.str (S L)), .d A.enc, .d (.str (S u)), .no, .no, .no, .no, .no, .no, .no, .no, .no] = _ := g2
    refine ⟨_, ?_, c2, v, t2, ltr hL u1, by omega, List.length_pos_iff.mp (by omega), rfl⟩
    simp [fCallIO, g1, rk, rl2, g2, j]
  rintro _ ⟨c, v, s4, wv, lv, v0, rfl⟩
  have lvp := List.length_pos_iff.mpr v0
  -- least_lasso
  have lo := least_ok u v (by omega) (by omega) v0
  have llo := law_least_ok u v lu lv v0
  have wl := wd_least wu wv
  have np := ne_pair wl.1 wl.2 wl.1 wl.2
  refine seq_ev (I := fun ρ => ρ = [.d (.scr ns), .ml c, .d (.str (S L)), .d A.enc, .d (.str (S u)), .d (.str (S v)), .no, .no, .no, .no, .no, .no, .no, .no]) ⟨_, by simp [e_var, lo, llo, np], rfl⟩ ?_
  rintro _ rfl
  -- k, times
  refine seq_ev (I := fun ρ => ∃ (c : List D) (k t : Nat), CSt c ∧ k < 5 ∧ 0 < t ∧ t ≤ 2 ∧ ρ = [.d (.scr ns), .ml c, .d (.str (S L)), .d A.enc, .d (.str (S u)), .d (.str (S v)), .d (.int k), .d (.int t), .no, .no, .no, .no, .no, .no]) ?_ ?_
  · obtain ⟨⟨_, c1⟩, g1, ⟨k, hk, rfl⟩, t1⟩ := take_ok s4 5 (by decide) (by decide)
    obtain ⟨⟨_, c2⟩, g2, ⟨t, ht, rfl⟩, t2⟩ := take_ok t1 2 (by decide) (by decide)
    have g1 : f_law_take c [.int 5] = some (.int k, c1) := g1
    have g2 : f_law_take c1 [.int 2] = some (.int t, c2) := g2
    refine ⟨[.d (.scr ns), .ml c2, .d (.str (S L)), .d A.enc, .d (.str (S u)), .d (.str (S v)), .d (.int k), .d (.int ((1 + t : Nat) : Int)), .no, .no, .no, .no, .no, .no], ?_, c2, k, 1 + t, t2, hk, by omega, by omega, rfl⟩
    simp [fCallIO, g1, g2]
  rintro _ ⟨c, k, t, s5, hk, t0, t2, rfl⟩
  -- whole
  have inf := infinite_ok u v 60 v0 (by decide) (by omega) (by omega)
  have inf : f_law_infinite [.str (S u), .str (S v), .int 60] = some (.str (S (win u v 60))) := inf
  refine seq_ev (I := fun ρ => ρ = [.d (.scr ns), .ml c, .d (.str (S L)), .d A.enc, .d (.str (S u)), .d (.str (S v)), .d (.int k), .d (.int t), .d (.str (S (win u v 60))), .no, .no, .no, .no, .no]) ⟨_, by simp [e_var, inf], rfl⟩ ?_
  rintro _ rfl
  -- other
  have lnu := lenS u (by omega)
  have lnv := lenS v (by omega)
  have vt : v.length * t ≤ 8 := Nat.mul_le_mul lv t2
  have vt0 : 0 < v.length * t := Nat.mul_pos lvp t0
  have wl60 : (win u v 60).length = 60 := by simp [win]
  obtain ⟨o0, ho0⟩ : ∃ o, o = (win u v 60).take (u.length + k) := ⟨_, rfl⟩
  obtain ⟨o1, ho1⟩ : ∃ o, o = ((win u v 60).drop (u.length + k)).take (v.length * t) := ⟨_, rfl⟩
  have wo0 : Wd o0 := fun l hl => wd_win v0 wu wv 60 l (by rw [ho0] at hl; exact List.take_subset _ _ hl)
  have wo1 : Wd o1 := fun l hl => wd_win v0 wu wv 60 l (by rw [ho1] at hl; exact List.drop_subset _ _ (List.take_subset _ _ hl))
  have lo0 : o0.length ≤ 8 := by rw [ho0, List.length_take]; omega
  have lo1 : o1.length = v.length * t := by rw [ho1, List.length_take, List.length_drop, wl60]; omega
  refine seq_ev (I := fun ρ => ρ = [.d (.scr ns), .ml c, .d (.str (S L)), .d A.enc, .d (.str (S u)), .d (.str (S v)), .d (.int k), .d (.int t), .d (.str (S (win u v 60))), .d (.tup [.str (S o0), .str (S o1)]), .no, .no, .no, .no]) ⟨_, ?_, rfl⟩ ?_
  · have c1 := cut_to (win u v 60) (u.length + k)
    rw [← ho0] at c1
    have c1 : cutS (S (win u v 60)) none (some ((u.length : Int) + (k : Int))) = S o0 := c1
    have c2 := cut_mid (win u v 60) (u.length + k) (u.length + k + v.length * t)
    rw [show u.length + k + v.length * t - (u.length + k) = v.length * t by omega, ← ho1] at c2
    have c2 : cutS (S (win u v 60)) (some ((u.length : Int) + (k : Int))) (some ((u.length : Int) + (k : Int) + (v.length : Int) * (t : Int))) = S o1 := by
      rw [← c2]
      congr 2
    have ml : mulD (.int v.length) (.int t) = some (.int ((v.length : Int) * t)) := mul_small _ _ (by omega)
    have sl : (S (win u v 60)).length ≤ 1000000 := by
      rw [S_len, wl60]
      decide
    simp [e_var, lnu, lnv, ml, sl, c1, c2]
  rintro _ rfl
  refine seq_ev (I := fun ρ => ∃ (c : List D) (o : List Nat), CSt c ∧ Wd o ∧ o ≠ [] ∧ o.length ≤ 9 ∧ ρ = [.d (.scr ns), .ml c, .d (.str (S L)), .d A.enc, .d (.str (S u)), .d (.str (S v)), .d (.int k), .d (.int t), .d (.str (S (win u v 60))), .d (.tup [.str (S o0), .str (S o)]), .no, .no, .no, .no]) ?_ ?_
  · obtain ⟨⟨_, c1⟩, g1, ⟨d, hd, rfl⟩, t1⟩ := take_ok s5 3 (by decide) (by decide)
    have g1 : f_law_take c [.int 3] = some (.int d, c1) := g1
    by_cases z : d = 0
    · subst z
      obtain ⟨⟨_, c2⟩, g2, ⟨e, he, rfl⟩, t3⟩ := take_ok t1 L.length L12.1 (by omega)
      have lx : ixD (.str (S L)) (.int e) = some (.str (S [L[e]])) := by
        rw [ixS L e (by omega), List.getElem?_eq_getElem he]
        rfl
      have lL := lenS L (by omega)
      have ad := addS o1 [L[e]] (by simp; omega)
      refine ⟨_, ?_, c2, o1 ++ [L[e]], t3, wo1.app (ltr hL fun l hl => by cases List.mem_singleton.mp hl; exact List.getElem_mem _), by simp, by rw [List.length_append]; simp; omega, rfl⟩
      simp [fCallIO, g1, g2, lx, lL, ad]
    · have z' : ((d : Int) == 0) = false := beq_eq_false_iff_ne.mpr (by omega)
      refine ⟨_, ?_, c1, o1, t1, wo1, List.length_pos_iff.mp (by omega), by omega, rfl⟩
      simp [fCallIO, g1, z']
  rintro _ ⟨c, o, s6, wo, o0', lo, rfl⟩
  -- due
  have inf2 := infinite_ok o0 o 60 o0' (by decide) (by omega) (by omega)
  have inf2 : f_law_infinite [.str (S o0), .str (S o), .int 60] = some (.str (S (win o0 o 60))) := inf2
  have wi := win_iff (u := u) (v := v) (u2 := o0) (v2 := o) v0 o0' (by omega) lv lo0 lo
  obtain ⟨due, hdue⟩ : ∃ b : Bool, b = (win u v 60 == win o0 o 60) := ⟨_, rfl⟩
  have due_iff : due = true ↔ W u v = W o0 o := by rw [hdue, beq_iff_eq, wi]
  have q : (S (win u v 60) == S (win o0 o 60)) = due := by rw [S_eq, hdue]
  refine seq_ev (I := fun ρ => ρ = [.d (.scr ns), .ml c, .d (.str (S L)), .d A.enc, .d (.str (S u)), .d (.str (S v)), .d (.int k), .d (.int t), .d (.str (S (win u v 60))), .d (.tup [.str (S o0), .str (S o)]), .d (.bl due), .no, .no, .no]) ⟨_, by simp [e_var, inf, inf2, q], rfl⟩ ?_
  rintro _ rfl
  -- same_lasso
  have sm := same_ok (u := u) (v := v) (u2 := o0) (v2 := o) (by omega) (by omega) (by omega) (by omega) v0 o0' wu wv wo0 wo
  have sd : decide (leastL u v = leastL o0 o) = due := by
    rw [Bool.eq_iff_iff, decide_eq_true_iff, least_iff v0 o0', due_iff]
  rw [sd] at sm
  refine seq_ev (I := fun ρ => ρ = [.d (.scr ns), .ml c, .d (.str (S L)), .d A.enc, .d (.str (S u)), .d (.str (S v)), .d (.int k), .d (.int t), .d (.str (S (win u v 60))), .d (.tup [.str (S o0), .str (S o)]), .d (.bl due), .no, .no, .no]) ⟨_, by simp [e_var, sm], rfl⟩ ?_
  rintro _ rfl
  -- reads_lasso
  obtain ⟨_, r1, b1, rfl, rb1⟩ := reads_ok hA u v
  obtain ⟨_, r2, b2, rfl, rb2⟩ := law_reads_ok hA u v
  obtain ⟨_, r3, b3, rfl, rb3⟩ := reads_ok hA o0 o
  have e12 : b2 = b1 := by rw [Bool.eq_iff_iff, rb1, rb2]
  subst e12
  refine seq_ev (I := fun ρ => ρ = [.d (.scr ns), .ml c, .d (.str (S L)), .d A.enc, .d (.str (S u)), .d (.str (S v)), .d (.int k), .d (.int t), .d (.str (S (win u v 60))), .d (.tup [.str (S o0), .str (S o)]), .d (.bl due), .d (.bl b2), .no, .no]) ⟨_, by simp [e_var, r1], rfl⟩ ?_
  rintro _ rfl
  refine seq_ev (I := fun ρ => ρ = [.d (.scr ns), .ml c, .d (.str (S L)), .d A.enc, .d (.str (S u)), .d (.str (S v)), .d (.int k), .d (.int t), .d (.str (S (win u v 60))), .d (.tup [.str (S o0), .str (S o)]), .d (.bl due), .d (.bl b2), .no, .no]) ⟨_, ?_, rfl⟩ ?_
  · cases hd : due with
    | false => simp [e_var, r2]
    | true =>
      have e3 : b3 = b2 := by
        rw [Bool.eq_iff_iff, rb3, rb2]
        exact (rd_same v0 o0' (due_iff.mp hd)).symm
      subst e3
      simp [e_var, r2, r3]
  rintro _ rfl
  -- some_lasso
  obtain ⟨rows, ro, so⟩ := some_ok hA
  obtain ⟨rows2, ro2, so2⟩ := law_some_ok hA
  have er := ro2.uniq ro
  subst er
  refine seq_ev (I := fun ρ => ρ = [.d (.scr ns), .ml c, .d (.str (S L)), .d A.enc, .d (.str (S u)), .d (.str (S v)), .d (.int k), .d (.int t), .d (.str (S (win u v 60))), .d (.tup [.str (S o0), .str (S o)]), .d (.bl due), .d (.bl b2), .d (tellD (rows2.foldl upR none)), .no]) ⟨_, by simp [e_var, so], rfl⟩ ?_
  rintro _ rfl
  have okr : OkR (rows2.foldl upR none) := by
    cases rows2 with
    | nil => trivial
    | cons r rows2 =>
      have up : (r :: rows2).foldl upR none = some (rows2.foldl mnR r) := upR_some rows2 r
      rw [up]
      obtain ⟨s, _, f1, f2⟩ := ro.mem _ (mn_mem rows2 r)
      exact ⟨f1.wd hA, f2.wd hA⟩
  have nt := ne_tell okr
  refine seq_ev (I := fun ρ => ρ = [.d (.scr ns), .ml c, .d (.str (S L)), .d A.enc, .d (.str (S u)), .d (.str (S v)), .d (.int k), .d (.int t), .d (.str (S (win u v 60))), .d (.tup [.str (S o0), .str (S o)]), .d (.bl due), .d (.bl b2), .d (tellD (rows2.foldl upR none)), .no]) ⟨_, by simp [e_var, so2, nt], rfl⟩ ?_
  rintro _ rfl
  -- the end
  cases rows2 with
  | nil =>
    have nb : b2 = false := by
      cases hb : b2 with
      | false => rfl
      | true => exact absurd (rb2.mp hb) (rd_empty ro)
    subst nb
    have x0 : ixD (tellD (([] : List Rw).foldl upR none)) (.int 0) = some (.str "empty") := rfl
    have e1 : (("empty" : Str) == "some") = false := by decide +kernel
    have e2 : (("empty" : Str) == "empty") = true := by decide +kernel
    refine ⟨.rt (.bl true) [.d (.scr ns), .ml c, .d (.str (S L)), .d A.enc, .d (.str (S u)), .d (.str (S v)), .d (.int k), .d (.int t), .d (.str (S (win u v 60))), .d (.tup [.str (S o0), .str (S o)]), .d (.bl due), .d (.bl false), .d (tellD (([] : List Rw).foldl upR none)), .no], ?_, _, rfl⟩
    simp [e_var, x0, e1, e2]
    try rfl
  | cons r rows2 =>
    have up : (r :: rows2).foldl upR none = some (rows2.foldl mnR r) := upR_some rows2 r
    obtain ⟨s, hs, f1, f2⟩ := ro.mem _ (mn_mem rows2 r)
    rw [up]
    generalize rows2.foldl mnR r = m at f1 f2
    obtain ⟨_, r4, b4, rfl, rb4⟩ := law_reads_ok hA m.1 m.2
    have hb4 : b4 = true := rb4.mpr (rd_row hs f1 f2)
    subst hb4
    have x0 : ixD (tellD (some m)) (.int 0) = some (.str "some") := rfl
    have x1 : ixD (tellD (some m)) (.int 1) = some (.str (S m.1)) := rfl
    have x2 : ixD (tellD (some m)) (.int 2) = some (.str (S m.2)) := rfl
    have e1 : (("some" : Str) == "some") = true := by decide +kernel
    refine ⟨.rt (.bl true) [.d (.scr ns), .ml c, .d (.str (S L)), .d A.enc, .d (.str (S u)), .d (.str (S v)), .d (.int k), .d (.int t), .d (.str (S (win u v 60))), .d (.tup [.str (S o0), .str (S o)]), .d (.bl due), .d (.bl b2), .d (tellD (some m)), .no], ?_, _, rfl⟩
    simp [e_var, x0, x1, x2, e1, r4]
    try rfl
end K63

open PySem PySem.W PyProof.Rows
set_option maxHeartbeats 0 in
theorem PySem.Challenge.cw_longletters_k63_lassos_holds : PySem.Challenge.rw_longletters_k63_lassos.Holds := by
  w_on; o_law; k_head; (case hw => w_witness2)
  k_fill
  refine L2.walk_of (l := PySem.Challenge.rw_longletters_k63_lassos) (n := 63) (k := 4) (x := "script") (CX := fun _ => L2.CX0) (sp := fun w => K63.spLaw _) rfl (by decide) rfl ⟨rfl, by decide, by decide⟩ (fun w h Y => PySem.W.kIn_of Y) ?F (fun _ _ a ns hl _ hS => ⟨a, ns, rfl, hS, hl, fun _ => rfl⟩) (fun _ _ _ _ _ h => h)
  case F =>
    intro w mg fa h KX G hmg
    refine' K63.all_mk K63.law_ok KX G hmg ?a0 ?l0 ?c0 ?k0 ?a1 ?l1 ?c1 ?k1 ?a2 ?l2 ?c2 ?k2 ?a3 ?l3 ?c3 ?k3 ?a4 ?l4 ?c4 ?k4 ?a5 ?l5 ?c5 ?k5 ?a6 ?l6 ?c6 ?k6 ?a7 ?l7 ?c7 ?k7 ?a8 ?l8 ?c8 ?k8 ?a9 ?l9 ?c9 ?k9 ?a10 ?l10 ?c10 ?k10 ?a11 ?l11 ?c11 ?k11 ?a12 ?l12 ?c12 ?k12 ?a13 ?l13 ?c13 ?k13 ?a14 ?l14 ?c14 ?k14 ?a15 ?l15 ?c15 ?k15 ?a16 ?l16 ?c16 ?k16 ?a17 ?l17 ?c17 ?k17 ?a18 ?l18 ?c18 ?k18 ?a19 ?l19 ?c19 ?k19 ?a20 ?l20 ?c20 ?k20 ?a21 ?l21 ?c21 ?k21 ?a22 ?l22 ?c22 ?k22 ?a23 ?l23 ?c23 ?k23 ?a24 ?l24 ?c24 ?k24 ?a25 ?l25 ?c25 ?k25 ?a26 ?l26 ?c26 ?k26 ?z_all ?z_any ?z_dict ?z_enumerate ?z_int ?z_len ?z_list ?z_max ?z_min ?z_range ?z_set ?z_sorted ?z_tuple
    (case a0 => k_is)
    (case l0 => k_is)
    (case c0 => k_is)
    (case k0 => k_is)
    (case a1 => k_is)
    (case l1 => k_is)
    (case c1 => k_is)
    (case k1 => k_is)
    (case a2 => k_is)
    (case l2 => k_is)
    (case c2 => k_is)
    (case k2 => k_is)
    (case a3 => k_is)
    (case l3 => k_is)
    (case c3 => k_is)
    (case k3 => k_is)
    (case a4 => k_is)
    (case l4 => k_is)
    (case c4 => k_is)
    (case k4 => k_is)
    (case a5 => k_is)
    (case l5 => k_is)
    (case c5 => k_is)
    (case k5 => k_is)
    (case a6 => k_is)
    (case l6 => k_is)
    (case c6 => k_is)
    (case k6 => k_is)
    (case a7 => k_is)
    (case l7 => k_is)
    (case c7 => k_is)
    (case k7 => k_is)
    (case a8 => k_is)
    (case l8 => k_is)
    (case c8 => k_is)
    (case k8 => k_is)
    (case a9 => k_is)
    (case l9 => k_is)
    (case c9 => k_is)
    (case k9 => k_is)
    (case a10 => k_is)
    (case l10 => k_is)
    (case c10 => k_is)
    (case k10 => k_is)
    (case a11 => k_is)
    (case l11 => k_is)
    (case c11 => k_is)
    (case k11 => k_is)
    (case a12 => k_is)
    (case l12 => k_is)
    (case c12 => k_is)
    (case k12 => k_is)
    (case a13 => k_is)
    (case l13 => k_is)
    (case c13 => k_is)
    (case k13 => k_is)
    (case a14 => k_is)
    (case l14 => k_is)
    (case c14 => k_is)
    (case k14 => k_is)
    (case a15 => k_is)
    (case l15 => k_is)
    (case c15 => k_is)
    (case k15 => k_is)
    (case a16 => k_is)
    (case l16 => k_is)
    (case c16 => k_is)
    (case k16 => k_is)
    (case a17 => k_is)
    (case l17 => k_is)
    (case c17 => k_is)
    (case k17 => k_is)
    (case a18 => k_is)
    (case l18 => k_is)
    (case c18 => k_is)
    (case k18 => k_is)
    (case a19 => k_is)
    (case l19 => k_is)
    (case c19 => k_is)
    (case k19 => k_is)
    (case a20 => k_is)
    (case l20 => k_is)
    (case c20 => k_is)
    (case k20 => k_is)
    (case a21 => k_is)
    (case l21 => k_is)
    (case c21 => k_is)
    (case k21 => k_is)
    (case a22 => k_is)
    (case l22 => k_is)
    (case c22 => k_is)
    (case k22 => k_is)
    (case a23 => k_is)
    (case l23 => k_is)
    (case c23 => k_is)
    (case k23 => k_is)
    (case a24 => k_is)
    (case l24 => k_is)
    (case c24 => k_is)
    (case k24 => k_is)
    (case a25 => k_is)
    (case l25 => k_is)
    (case c25 => k_is)
    (case k25 => k_is)
    (case a26 => k_is)
    (case l26 => k_is)
    (case c26 => k_is)
    (case k26 => k_is)
    (case z_all => k_is)
    (case z_any => k_is)
    (case z_dict => k_is)
    (case z_enumerate => k_is)
    (case z_int => k_is)
    (case z_len => k_is)
    (case z_list => k_is)
    (case z_max => k_is)
    (case z_min => k_is)
    (case z_range => k_is)
    (case z_set => k_is)
    (case z_sorted => k_is)
    (case z_tuple => k_is)
