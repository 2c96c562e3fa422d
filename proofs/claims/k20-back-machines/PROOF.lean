import PyProof.Rows.All
import HandS.ForMost
import HandS.ForExc
import HandS.Nested
import HandS.Wide
import HandS.Defaults
import HandS.HeadHook2
import HandS.Zip
import HandS.SetKeys
import HandS.TupLen
import HandS.More
import HandS.TupAny
import HandS.Text
import HandS.IsInst
import HandS.Deep
import KE.GoesMore
import HandS.ExcInit
import HandS.ExcField
import HandS.ExcIs
import HandS.TryOnly
import HandS.TryMany
import HandS.HeadHook4
import HandS.HeadEnd
import HandS.HeadWalk
import HandS.Head0
import HandS.Head1
import HandS.Head2
import HandS.ExcBuiltin
import PySem.Challenge.RW_figurewheel_k20_back_machines_made
section
set_option Elab.async false
set_option linter.all false
set_option autoImplicit false
set_option maxRecDepth 100000
set_option maxHeartbeats 4000000
/-! Fw1: a layer over HandS that speaks of plain data: D, what stands for it in a heap, the judgements DE, DT, DS. -/
namespace Fw
open PySem PySem.Spec PyProof.Rows L2

/-! ### plain data -/
inductive D where
  | non | bl (b : Bool) | int (i : Int) | str (x : Str) | tup (l : List D) | lst (l : List D) | dic (l : List (Key × D)) | obj (c : Str) (fs : List (Str × D))
instance : Inhabited D := ⟨.non⟩
/-- the heap grows -/
def Ex (H H' : Hp) : Prop := ∀ a o, H a = some o → H' a = some o
theorem Ex.refl (H : Hp) : Ex H H := fun _ _ h => h
theorem Ex.trans {H H1 H2 : Hp} (a : Ex H H1) (b : Ex H1 H2) : Ex H H2 := fun x o h => b x o (a x o h)
theorem Ex.new {H : Hp} {p : Addr} {o : HO} (h : H p = none) : Ex H (upd H p o) := fun a u e => by
  rw [upd_ne (ne_of_none e h)]
  exact e
theorem Ex.mut {H H' : Hp} {p : Addr} {o : HO} (e : Ex H H') (h : H p = none) : Ex H (upd H' p o) := fun a u ha => by
  rw [upd_ne (ne_of_none ha h)]
  exact e a u ha
theorem Ex.back {H H' : Hp} {p : Addr} (e : Ex H H') (h : H' p = none) : H p = none := by
  cases h1 : H p with
  | none => rfl
  | some o =>
    rw [e p o h1] at h
    cases h
theorem Ex.upd {H H' : Hp} {p : Addr} {o : HO} (e : Ex H H') : Ex (upd H p o) (L2.upd H' p o) := fun a u ha => by
  by_cases h : a = p
  · subst h
    rw [upd_same] at ha
    rw [upd_same]
    exact ha
  · rw [upd_ne h] at ha
    rw [upd_ne h]
    exact e a u ha
theorem Ex.rd {H H' : Hp} {a : Addr} {u : HO} (e : Ex H H') (h : Rd H a u) : Rd H' a u := by
  rcases h with h | ⟨o, h⟩
  · exact Or.inl (e a _ h)
  · exact Or.inr ⟨o, e a _ h⟩
theorem Ex.l {K : PySem.W.Frag} {H H' : Hp} {a : Addr} {xs : List V} (e : Ex H H') (h : SqL K H a xs) : SqL K H' a xs := by
  rcases h with h | h
  · exact Or.inl (e.rd h)
  · exact Or.inr h
theorem Ex.t {K : PySem.W.Frag} {H H' : Hp} {a : Addr} {xs : List V} (e : Ex H H') (h : SqT K H a xs) : SqT K H' a xs := by
  rcases h with h | h
  · exact Or.inl (e.rd h)
  · exact Or.inr h

/-! ### what stands for a datum -/
mutual
inductive Rp (K : PySem.W.Frag) (H : Hp) : V → D → Prop
  | non : Rp K H .non .non
  | bl (b : Bool) : Rp K H (.bl b) (.bl b)
  | int (i : Int) : Rp K H (.int i) (.int i)
  | str (x : Str) : Rp K H (.str x) (.str x)
  | tup {a : Addr} {xs : List V} {ds : List D} : H a = some (.tup xs) → RpL K H xs ds → Rp K H (.ref a) (.tup ds)
  | lst {a : Addr} {xs : List V} {ds : List D} : SqL K H a xs → RpL K H xs ds → Rp K H (.ref a) (.lst ds)
  | dic {a : Addr} {kvs : List (Key × V)} {ds : List (Key × D)} : H a = some (.dK kvs) → RpA K H Key kvs ds → Rp K H (.ref a) (.dic ds)
  | obj {a dx : Addr} {c : Str} {fs : List (Str × V)} {ds : List (Str × D)} : H a = some (.ins (He.ga K c) dx fs) → RpA K H Str fs ds → Rp K H (.ref a) (.obj c ds)
inductive RpL (K : PySem.W.Frag) (H : Hp) : List V → List D → Prop
  | nil : RpL K H [] []
  | cons {v : V} {vs : List V} {d : D} {ds : List D} : Rp K H v d → RpL K H vs ds → RpL K H (v :: vs) (d :: ds)
inductive RpA (K : PySem.W.Frag) (H : Hp) : (κ : Type) → List (κ × V) → List (κ × D) → Prop
  | nil {κ : Type} : RpA K H κ [] []
  | cons {κ : Type} {k : κ} {v : V} {vs : List (κ × V)} {d : D} {ds : List (κ × D)} : Rp K H v d → RpA K H κ vs ds → RpA K H κ ((k, v) :: vs) ((k, d) :: ds)
end
section
variable {K : PySem.W.Frag} {H H' : Hp}
mutual
theorem Rp.mono (e : Ex H H') : ∀ {v : V} {d : D}, Rp K H v d → Rp K H' v d
  | _, _, .non => .non
  | _, _, .bl b => .bl b
  | _, _, .int i => .int i
  | _, _, .str x => .str x
  | _, _, .tup h1 h2 => .tup (e _ _ h1) (RpL.mono e h2)
  | _, _, .lst h1 h2 => .lst (e.l h1) (RpL.mono e h2)
  | _, _, .dic h1 h2 => .dic (e _ _ h1) (RpA.mono e h2)
  | _, _, .obj h1 h2 => .obj (e _ _ h1) (RpA.mono e h2)
theorem RpL.mono (e : Ex H H') : ∀ {v : List V} {d : List D}, RpL K H v d → RpL K H' v d
  | _, _, .nil => .nil
  | _, _, .cons h1 h2 => .cons (Rp.mono e h1) (RpL.mono e h2)
theorem RpA.mono (e : Ex H H') : ∀ {κ : Type} {v : List (κ × V)} {d : List (κ × D)}, RpA K H κ v d → RpA K H' κ v d
  | _, _, _, .nil => .nil
  | _, _, _, .cons h1 h2 => .cons (Rp.mono e h1) (RpA.mono e h2)
end
theorem RpL.len {xs : List V} {ds : List D} (h : RpL K H xs ds) : xs.length = ds.length := by
  induction xs generalizing ds with
  | nil => cases h; rfl
  | cons x xs ih => cases h with | cons h1 h2 => simp [ih h2]
theorem RpL.get {xs : List V} {ds : List D} (h : RpL K H xs ds) {i : Nat} {d : D} (e : ds[i]? = some d) : ∃ v, xs[i]? = some v ∧ Rp K H v d := by
  induction xs generalizing ds i with
  | nil => cases h; simp at e
  | cons x xs ih =>
    cases h with
    | cons h1 h2 =>
      cases i with
      | zero => simp at e; subst e; exact ⟨x, rfl, h1⟩
      | succ i => simpa using ih h2 (i := i) (by simpa using e)
theorem RpL.getV {xs : List V} {ds : List D} (h : RpL K H xs ds) {i : Nat} {v : V} (e : xs[i]? = some v) : ∃ d, ds[i]? = some d ∧ Rp K H v d := by
  induction xs generalizing ds i with
  | nil => simp at e
  | cons x xs ih =>
    cases h with
    | cons h1 h2 =>
      cases i with
      | zero => simp at e; subst e; exact ⟨_, rfl, h1⟩
      | succ i => simpa using ih h2 (i := i) (by simpa using e)
theorem RpL.append {xs ys : List V} {ds es : List D} (h : RpL K H xs ds) (h' : RpL K H ys es) : RpL K H (xs ++ ys) (ds ++ es) := by
  induction xs generalizing ds with
  | nil => cases h; exact h'
  | cons x xs ih => cases h with | cons h1 h2 => exact .cons h1 (ih h2)
theorem RpL.take {xs : List V} {ds : List D} (h : RpL K H xs ds) (n : Nat) : RpL K H (xs.take n) (ds.take n) := by
  induction xs generalizing ds n with
  | nil => cases h; simp; exact .nil
  | cons x xs ih =>
    cases h with
    | cons h1 h2 =>
      cases n with
      | zero => exact .nil
      | succ n => exact .cons h1 (ih h2 n)
theorem RpL.drop {xs : List V} {ds : List D} (h : RpL K H xs ds) (n : Nat) : RpL K H (xs.drop n) (ds.drop n) := by
  induction xs generalizing ds n with
  | nil => cases h; simp; exact .nil
  | cons x xs ih =>
    cases h with
    | cons h1 h2 =>
      cases n with
      | zero => exact .cons h1 h2
      | succ n => exact ih h2 n
theorem RpL.set {xs : List V} {ds : List D} (h : RpL K H xs ds) (i : Nat) {v : V} {d : D} (r : Rp K H v d) : RpL K H (xs.set i v) (ds.set i d) := by
  induction xs generalizing ds i with
  | nil => cases h; exact .nil
  | cons x xs ih =>
    cases h with
    | cons h1 h2 =>
      cases i with
      | zero => exact .cons r h2
      | succ n => exact .cons h1 (ih h2 n)
theorem RpL.one {v : V} {d : D} (h : Rp K H v d) : RpL K H [v] [d] := .cons h .nil
end

/-! ### the names' values -/
/-- an exception by its class's name and its fields -/
inductive Er where
  | mk (c : Str) (fs : List (Str × D))
/-- an object of one's own: a list, a dict by ints and texts, by tuples of these, an instance -/
inductive OV where
  | l (ds : List D)
  | dk (kvs : List (Key × D))
  | dt (kvs : List (List Key × D))
  | ob (c : Str) (fs : List (Str × D))
  | ld (dss : List (List D))
inductive SV where
  | un
  | sh (d : D)
  | ow (t : Option Addr) (o : OV)
abbrev PEnv := List SV
/-- lists at as -/
inductive LdL (K : PySem.W.Frag) (Hs : Hp) : List Addr → List (List D) → Prop
  | nil : LdL K Hs [] []
  | cons {a : Addr} {as : List Addr} {xs : List V} {ds : List D} {dss : List (List D)} : Hs a = some (.lst xs) → RpL K Hs xs ds → LdL K Hs as dss → LdL K Hs (a :: as) (ds :: dss)
theorem LdL.mono {K : PySem.W.Frag} {H H' : Hp} (e : Ex H H') {as : List Addr} {dss : List (List D)} (h : LdL K H as dss) : LdL K H' as dss := by
  induction h with
  | nil => exact .nil
  | cons h1 h2 _ ih => exact .cons (e _ _ h1) (h2.mono e) ih
theorem LdL.rpl {K : PySem.W.Frag} {H : Hp} {as : List Addr} {dss : List (List D)} (h : LdL K H as dss) : RpL K H (as.map V.ref) (dss.map D.lst) := by
  induction h with
  | nil => exact .nil
  | cons h1 h2 _ ih => exact .cons (.lst (.inl (.inl h1)) h2) ih
theorem LdL.mem {K : PySem.W.Frag} {H : Hp} {as : List Addr} {dss : List (List D)} (h : LdL K H as dss) : ∀ a ∈ as, ∃ o, H a = some o := by
  induction h with
  | nil => intro a h; cases h
  | cons h1 h2 _ ih =>
    intro a h
    rcases List.mem_cons.mp h with e | e
    · subst e; exact ⟨_, h1⟩
    · exact ih a e
theorem LdL.snoc {K : PySem.W.Frag} {H : Hp} {as : List Addr} {dss : List (List D)} {a : Addr} {xs : List V} {ds : List D} (h : LdL K H as dss) (h1 : H a = some (.lst xs)) (h2 : RpL K H xs ds) : LdL K H (as ++ [a]) (dss ++ [ds]) := by
  induction h with
  | nil => exact .cons h1 h2 .nil
  | cons g1 g2 _ ih => exact .cons g1 g2 ih
/-- what others own; what is old -/
structure FrT where
  hp : Hp
  od : Addr → Prop
def FrT.no (F : FrT) (a : Addr) : Prop := F.hp a = none ∧ ¬ F.od a
def FrT.put (F : FrT) (a : Addr) (o : HO) : FrT := ⟨upd F.hp a o, F.od⟩
/-- an object of one's own at a, its items in the stable heap -/
def RpO (K : PySem.W.Frag) (od : Addr → Prop) (Hs H : Hp) (a : Addr) : OV → Prop
  | .l ds => ∃ xs, H a = some (.lst xs) ∧ RpL K Hs xs ds
  | .dk ds => ∃ kvs, H a = some (.dK kvs) ∧ RpA K Hs Key kvs ds
  | .dt ds => ∃ kvs, H a = some (.dT kvs) ∧ RpA K Hs (List Key) kvs ds
  | .ob c ds => ∃ dx fs, H a = some (.ins (He.ga K c) dx fs) ∧ RpA K Hs Str fs ds
  | .ld dss => ∃ as, H a = some (.lst (as.map V.ref)) ∧ as.Nodup ∧ (∀ b ∈ as, ¬ od b) ∧ LdL K Hs as dss
theorem RpO.mono {K : PySem.W.Frag} {Fr : FrT} {Hs Hs' H H' : Hp} {a : Addr} {o : OV} (e : Ex Hs Hs') (h : H' a = H a) (r : RpO K Fr.od Hs H a o) : RpO K Fr.od Hs' H' a o := by
  cases o
  · obtain ⟨xs, h1, h2⟩ := r
    exact ⟨xs, h.trans h1, h2.mono e⟩
  · obtain ⟨xs, h1, h2⟩ := r
    exact ⟨xs, h.trans h1, h2.mono e⟩
  · obtain ⟨xs, h1, h2⟩ := r
    exact ⟨xs, h.trans h1, h2.mono e⟩
  · obtain ⟨dx, fs, h1, h2⟩ := r
    exact ⟨dx, fs, h.trans h1, h2.mono e⟩
  · obtain ⟨as, h1, h2, hy, h3⟩ := r
    exact ⟨as, h.trans h1, h2, hy, h3.mono e⟩
theorem RpO.some {K : PySem.W.Frag} {Fr : FrT} {Hs H : Hp} {a : Addr} {o : OV} (r : RpO K Fr.od Hs H a o) : ∃ u, H a = some u := by
  cases o
  · obtain ⟨xs, h1, h2⟩ := r
    exact ⟨_, h1⟩
  · obtain ⟨xs, h1, h2⟩ := r
    exact ⟨_, h1⟩
  · obtain ⟨xs, h1, h2⟩ := r
    exact ⟨_, h1⟩
  · obtain ⟨dx, fs, h1, h2⟩ := r
    exact ⟨_, h1⟩
  · obtain ⟨as, h1, _⟩ := r
    exact ⟨_, h1⟩
def SlotOk (K : PySem.W.Frag) (Hs : Hp) (Fr : FrT) (H : Hp) (o : Option (Option V)) : SV → Prop
  | .un => True
  | .sh d => ∃ v, o = some (some v) ∧ Rp K Hs v d
  | .ow t w => ∃ a, o = some (some (.ref a)) ∧ Hs a = none ∧ Fr.no a ∧ RpO K Fr.od Hs H a w ∧ ∀ b, t = some b → a = b
def isOw : SV → Bool
  | .ow _ _ => true
  | _ => false
/-- the names' pure values ρ, told by the slots σ and the heap H; Hs: what never changes again; Fr: what others own -/
structure Rel (K : PySem.W.Frag) (ρ : PEnv) (Hs : Hp) (Fr : FrT) (σ : L2.St) (H : Hp) : Prop where
  len : ρ.length = σ.length
  hs : Ex Hs H
  fr : Ex Fr.hp H
  dis : ∀ a o, Hs a = some o → Fr.hp a = none
  od : ∀ a, Fr.od a → ∃ o, H a = some o
  sl : ∀ (i : Nat) (s : SV), ρ[i]? = some s → SlotOk K Hs Fr H (σ[i]?) s
  ap : ∀ (i j : Nat) (s t : SV) (a : Addr), ρ[i]? = some s → ρ[j]? = some t → isOw s = true → isOw t = true → σ[i]? = some (some (.ref a)) → σ[j]? = some (some (.ref a)) → i = j
/-- growth that changes nothing -/
structure Gw (Hs H Hs' H' : Hp) : Prop where
  s : Ex Hs Hs'
  i : Ex Hs' H'
  h : Ex H H'
  n : ∀ a o, H a = some o → Hs a = none → Hs' a = none
theorem Gw.refl {Hs H : Hp} (e : Ex Hs H) : Gw Hs H Hs H := ⟨Ex.refl _, e, Ex.refl _, fun _ _ _ h => h⟩
theorem Gw.trans {A B A1 B1 A2 B2 : Hp} (x : Gw A B A1 B1) (y : Gw A1 B1 A2 B2) : Gw A B A2 B2 :=
  ⟨x.s.trans y.s, y.i, x.h.trans y.h, fun a o e n => y.n a o (x.h a o e) (x.n a o e n)⟩
theorem Gw.new {Hs H : Hp} {p : Addr} {o : HO} (e : Ex Hs H) (n : H p = none) : Gw Hs H (upd Hs p o) (upd H p o) :=
  ⟨Ex.new (e.back n), e.upd, Ex.new n, fun a u h h' => by rw [upd_ne (ne_of_none h n)]; exact h'⟩
/-- new, and not stable -/
theorem Gw.own {Hs H : Hp} {p : Addr} {o : HO} (e : Ex Hs H) (n : H p = none) : Gw Hs H Hs (upd H p o) :=
  ⟨Ex.refl _, e.trans (Ex.new n), Ex.new n, fun _ _ _ h => h⟩
section
variable {K : PySem.W.Frag} {ρ : PEnv} {Hs Hs' H' : Hp} {Fr : FrT} {σ : L2.St} {H : Hp}
theorem Rel.grow (r : Rel K ρ Hs Fr σ H) (g : Gw Hs H Hs' H') : Rel K ρ Hs' Fr σ H' := by
  refine ⟨r.len, g.i, r.fr.trans g.h, fun a o e => ?_, fun a h => let ⟨o, ho⟩ := r.od a h; ⟨o, g.h a o ho⟩, fun i s e => ?_, r.ap⟩
  · cases hf : Fr.hp a with
    | none => rfl
    | some u =>
      have h1 : Hs a = none := by
        cases h2 : Hs a with
        | none => rfl
        | some v =>
          have := r.dis a v h2
          rw [hf] at this
          cases this
      rw [g.n a u (r.fr a u hf) h1] at e
      cases e
  · have q := r.sl i s e
    cases s with
    | un => trivial
    | sh d =>
      obtain ⟨v, h1, h2⟩ := q
      exact ⟨v, h1, h2.mono g.s⟩
    | ow t w =>
      obtain ⟨a, h1, h2, h3, h4, h5⟩ := q
      obtain ⟨o, ho⟩ := h4.some
      exact ⟨a, h1, g.n a o ho h2, h3, h4.mono g.s ((g.h a o ho).trans ho.symm), h5⟩
theorem get_set_ne {α : Type} {l : List α} {i j : Nat} {x : α} (h : i ≠ j) : (l.set i x)[j]? = l[j]? := List.getElem?_set_ne h
/-- a name gets a stable value -/
theorem Rel.put (r : Rel K ρ Hs Fr σ H) {i : Nat} {v : V} {d : D} (h : Rp K Hs v d) : Rel K (ρ.set i (.sh d)) Hs Fr (σ.set i (some v)) H := by
  refine ⟨by simp [r.len], r.hs, r.fr, r.dis, r.od, fun j s e => ?_, fun j k s t a e1 e2 o1 o2 a1 a2 => ?_⟩
  · by_cases hj : i = j
    · subst hj
      by_cases hl : i < ρ.length
      · rw [List.getElem?_set_self hl] at e
        cases e
        exact ⟨v, by rw [List.getElem?_set_self (by rw [← r.len]; exact hl)], h⟩
      · rw [List.getElem?_eq_none (by simpa using hl)] at e
        cases e
    · rw [get_set_ne hj] at e ⊢
      exact r.sl j s e
  · by_cases hj : i = j
    · subst hj
      by_cases hl : i < ρ.length
      · rw [List.getElem?_set_self hl] at e1
        cases e1
        cases o1
      · rw [List.getElem?_eq_none (by simpa using hl)] at e1
        cases e1
    · by_cases hk : i = k
      · subst hk
        by_cases hl : i < ρ.length
        · rw [List.getElem?_set_self hl] at e2
          cases e2
          cases o2
        · rw [List.getElem?_eq_none (by simpa using hl)] at e2
          cases e2
      · rw [get_set_ne hj] at e1 a1
        rw [get_set_ne hk] at e2 a2
        exact r.ap j k s t a e1 e2 o1 o2 a1 a2
/-- a name gets an object of its own -/
theorem Rel.putO (r : Rel K ρ Hs Fr σ H) {i : Nat} {a : Addr} {w : OV} (hn : Hs a = none) (hf : Fr.no a) (h : RpO K Fr.od Hs H a w)
    (new : ∀ (j : Nat) (s : SV), ρ[j]? = some s → isOw s = true → σ[j]? ≠ some (some (.ref a))) : Rel K (ρ.set i (.ow none w)) Hs Fr (σ.set i (some (.ref a))) H := by
  refine ⟨by simp [r.len], r.hs, r.fr, r.dis, r.od, fun j s e => ?_, fun j l s t b e1 e2 o1 o2 a1 a2 => ?_⟩
  · by_cases hj : i = j
    · subst hj
      by_cases hl : i < ρ.length
      · rw [List.getElem?_set_self hl] at e
        cases e
        exact ⟨a, by rw [List.getElem?_set_self (by rw [← r.len]; exact hl)], hn, hf, h, fun b z => by cases z⟩
      · rw [List.getElem?_eq_none (by simpa using hl)] at e
        cases e
    · rw [get_set_ne hj] at e ⊢
      exact r.sl j s e
  · by_cases hj : i = j
    · subst hj
      by_cases hk : i = l
      · exact hk
      · rw [get_set_ne hk] at e2 a2
        by_cases hl : i < ρ.length
        · rw [List.getElem?_set_self (by rw [← r.len]; exact hl)] at a1
          cases a1
          exact absurd a2 (new l t e2 o2)
        · rw [List.getElem?_eq_none (by simpa using hl)] at e1
          cases e1
    · by_cases hk : i = l
      · subst hk
        rw [get_set_ne hj] at e1 a1
        by_cases hl : i < ρ.length
        · rw [List.getElem?_set_self (by rw [← r.len]; exact hl)] at a2
          cases a2
          exact absurd a1 (new j s e1 o1)
        · rw [List.getElem?_eq_none (by simpa using hl)] at e2
          cases e2
      · rw [get_set_ne hj] at e1 a1
        rw [get_set_ne hk] at e2 a2
        exact r.ap j l s t b e1 e2 o1 o2 a1 a2
theorem Rel.own_some (r : Rel K ρ Hs Fr σ H) {j : Nat} {s : SV} {a : Addr} (e : ρ[j]? = some s) (o : isOw s = true) (h : σ[j]? = some (some (.ref a))) : ∃ u, H a = some u := by
  have q := r.sl j s e
  cases s with
  | un => cases o
  | sh d => cases o
  | ow t w =>
    obtain ⟨b, h1, _, _, h4, _⟩ := q
    rw [h] at h1
    cases h1
    exact h4.some
/-- a name is forgotten -/
theorem Rel.drop (r : Rel K ρ Hs Fr σ H) {i : Nat} {o : Option V} : Rel K (ρ.set i .un) Hs Fr (σ.set i o) H := by
  refine ⟨by simp [r.len], r.hs, r.fr, r.dis, r.od, fun j s e => ?_, fun j k s t a e1 e2 o1 o2 a1 a2 => ?_⟩
  · by_cases hj : i = j
    · subst hj
      by_cases hl : i < ρ.length
      · rw [List.getElem?_set_self hl] at e
        cases e
        trivial
      · rw [List.getElem?_eq_none (by simpa using hl)] at e
        cases e
    · rw [get_set_ne hj] at e ⊢
      exact r.sl j s e
  · by_cases hj : i = j
    · subst hj
      by_cases hl : i < ρ.length
      · rw [List.getElem?_set_self hl] at e1
        cases e1
        cases o1
      · rw [List.getElem?_eq_none (by simpa using hl)] at e1
        cases e1
    · by_cases hk : i = k
      · subst hk
        by_cases hl : i < ρ.length
        · rw [List.getElem?_set_self hl] at e2
          cases e2
          cases o2
        · rw [List.getElem?_eq_none (by simpa using hl)] at e2
          cases e2
      · rw [get_set_ne hj] at e1 a1
        rw [get_set_ne hk] at e2 a2
        exact r.ap j k s t a e1 e2 o1 o2 a1 a2
/-- an object of one's own changes -/
theorem Rel.change (r : Rel K ρ Hs Fr σ H) {i : Nat} {a : Addr} {tg : Option Addr} {w w' : OV} {u : HO} (e : ρ[i]? = some (.ow tg w)) (hs : σ[i]? = some (some (.ref a))) (n : RpO K Fr.od Hs (upd H a u) a w') : Rel K (ρ.set i (.ow tg w')) Hs Fr σ (upd H a u) := by
  obtain ⟨b, h1, h2, h3, h4, h5⟩ := r.sl i _ e
  rw [hs] at h1
  cases h1
  refine ⟨by simp [r.len], r.hs.mut h2, r.fr.mut h3.1, r.dis, fun b hb => (let ⟨o, ho⟩ := r.od b hb; ⟨o, by rw [upd_ne (fun z => by subst z; exact h3.2 hb)]; exact ho⟩), fun j s ej => ?_, fun j k s t b e1 e2 o1 o2 a1 a2 => ?_⟩
  · by_cases hj : i = j
    · subst hj
      by_cases hl : i < ρ.length
      · rw [List.getElem?_set_self hl] at ej
        cases ej
        exact ⟨a, hs, h2, h3, n, h5⟩
      · rw [List.getElem?_eq_none (by simpa using hl)] at ej
        cases ej
    · rw [get_set_ne hj] at ej
      have q := r.sl j s ej
      cases s with
      | un => trivial
      | sh d => exact q
      | ow t2 w2 =>
        obtain ⟨c, g1, g2, g3, g4, g5⟩ := q
        refine ⟨c, g1, g2, g3, g4.mono (Ex.refl _) (upd_ne fun z => ?_), g5⟩
        subst z
        exact hj (r.ap i j _ _ c e ej rfl rfl hs g1)
  · have key : ∀ j s, (ρ.set i (.ow tg w'))[j]? = some s → isOw s = true → ∃ t, ρ[j]? = some t ∧ isOw t = true := fun j s ej o => by
      by_cases hj : i = j
      · subst hj
        exact ⟨_, e, rfl⟩
      · rw [get_set_ne hj] at ej
        exact ⟨s, ej, o⟩
    obtain ⟨s', f1, f2⟩ := key j s e1 o1
    obtain ⟨t', f3, f4⟩ := key k t e2 o2
    exact r.ap j k s' t' b f1 f3 f2 f4 a1 a2
/-- an object of one's own becomes stable -/
def frzV : SV → SV
  | .ow _ (.l ds) => .sh (.lst ds)
  | .ow _ (.dk kvs) => .sh (.dic kvs)
  | .ow _ (.ob c fs) => .sh (.obj c fs)
  | .ow _ (.dt _) => .un
  | .ow _ (.ld dss) => .sh (.lst (dss.map .lst))
  | s => s
theorem RpO.rp {K : PySem.W.Frag} {Fr : FrT} {Hs H : Hp} {a : Addr} {tg : Option Addr} {w : OV} {u : HO} (r : RpO K Fr.od Hs H a w) (e : H a = Option.some u) (n : Hs a = none) : match frzV (.ow tg w) with
    | .sh d => Rp K (upd Hs a u) (.ref a) d
    | _ => True := by
  have ex : Ex Hs (upd Hs a u) := Ex.new n
  cases w with
  | l ds =>
    obtain ⟨xs, h1, h2⟩ := r
    rw [e] at h1
    cases h1
    exact .lst (.inl (.inl upd_same)) (h2.mono ex)
  | dk ds =>
    obtain ⟨xs, h1, h2⟩ := r
    rw [e] at h1
    cases h1
    exact .dic upd_same (h2.mono ex)
  | dt ds => trivial
  | ob c ds =>
    obtain ⟨dx, xs, h1, h2⟩ := r
    rw [e] at h1
    cases h1
    exact .obj upd_same (h2.mono ex)
  | ld dss =>
    obtain ⟨as, h1, h2, hy, h3⟩ := r
    rw [e] at h1
    cases h1
    exact .lst (.inl (.inl upd_same)) (h3.rpl.mono ex)
def frz (i : Nat) (ρ : PEnv) : PEnv := match ρ[i]? with
  | some (.ow tg w) => ρ.set i (frzV (.ow tg w))
  | _ => ρ
theorem Rel.frz (r : Rel K ρ Hs Fr σ H) (i : Nat) : ∃ Hs', Ex Hs Hs' ∧ Rel K (frz i ρ) Hs' Fr σ H := by
  unfold Fw.frz
  split
  · rename_i tg w e
    obtain ⟨a, h1, h2, h3, h4, h5⟩ := r.sl i _ e
    obtain ⟨u, hu⟩ := h4.some
    have ex : Ex Hs (upd Hs a u) := Ex.new h2
    refine ⟨upd Hs a u, ex, by simp [r.len], fun b o hb => ?_, r.fr, fun b o hb => ?_, r.od, fun j s ej => ?_, fun j k s t b e1 e2 o1 o2 a1 a2 => ?_⟩
    · by_cases hba : b = a
      · subst hba
        rw [upd_same] at hb
        rw [hu]
        exact hb
      · rw [upd_ne hba] at hb
        exact r.hs b o hb
    · by_cases hba : b = a
      · subst hba
        exact h3.1
      · rw [upd_ne hba] at hb
        exact r.dis b o hb
    · by_cases hj : i = j
      · subst hj
        by_cases hl : i < ρ.length
        · rw [List.getElem?_set_self hl] at ej
          cases ej
          have q := h4.rp (tg := tg) hu h2
          cases hz : frzV (.ow tg w) with
          | un => trivial
          | sh d =>
            rw [hz] at q
            exact ⟨_, h1, q⟩
          | ow t' w' => cases w <;> cases hz
        · rw [List.getElem?_eq_none (by simpa using hl)] at ej
          cases ej
      · rw [get_set_ne hj] at ej
        have q := r.sl j s ej
        cases s with
        | un => trivial
        | sh d =>
          obtain ⟨v, g1, g2⟩ := q
          exact ⟨v, g1, g2.mono ex⟩
        | ow t2 w2 =>
          obtain ⟨c, g1, g2, g3, g4, g5⟩ := q
          refine ⟨c, g1, ?_, g3, g4.mono ex rfl, g5⟩
          rw [upd_ne fun z => ?_]
          · exact g2
          · subst z
            exact hj (r.ap i j _ _ c e ej rfl rfl h1 g1)
    · have key : ∀ j s, (ρ.set i (frzV (.ow tg w)))[j]? = some s → isOw s = true → ρ[j]? = some s := fun j s ej o => by
        by_cases hj : i = j
        · subst hj
          by_cases hl : i < ρ.length
          · rw [List.getElem?_set_self hl] at ej
            cases ej
            cases w <;> cases o
          · rw [List.getElem?_eq_none (by simpa using hl)] at ej
            cases ej
        · rw [get_set_ne hj] at ej
          exact ej
      exact r.ap j k s t b (key j s e1 o1) (key k t e2 o2) o1 o2 a1 a2
  · exact ⟨Hs, Ex.refl _, r⟩
end
end Fw
end

section
set_option Elab.async false
set_option linter.all false
set_option autoImplicit false
set_option maxRecDepth 100000
set_option maxHeartbeats 4000000
/-! Fw2: the judgements over plain data. -/
namespace Fw
open PySem PySem.Spec PyProof.Rows L2

/-! ### results -/
inductive R (α : Type) where
  | ok (a : α) (ρ : PEnv)
  | er (e : Er) (ρ : PEnv)
  | no
inductive RS where
  | nx (ρ : PEnv)
  | rt (d : D) (ρ : PEnv)
  | er (e : Er) (ρ : PEnv)
  | no
@[reducible] def R.bind {α β : Type} (r : R α) (k : α → PEnv → R β) : R β := match r with
  | .ok a ρ => k a ρ
  | .er e ρ => .er e ρ
  | .no => .no
@[reducible] def R.then {α : Type} (r : R α) (k : α → PEnv → RS) : RS := match r with
  | .ok a ρ => k a ρ
  | .er e ρ => .er e ρ
  | .no => .no
def liftO {α : Type} (o : Option α) (ρ : PEnv) : R α := match o with
  | some a => .ok a ρ
  | none => .no
abbrev FE (α : Type) := PEnv → R α
abbrev FS := PEnv → RS
/-- an exception as it lies in the heap -/
def ErOk (K : PySem.W.Frag) (Hs : Hp) : Er → Value → Option Addr → Prop
  | .mk c fs, cls, dd => cls = .ref (He.ga K c) ∧ ((fs = [] ∧ dd = none) ∨ ∃ d xs, dd = some d ∧ Hs d = some (.xd xs) ∧ RpA K Hs Str xs fs)
theorem ErOk.mono {K : PySem.W.Frag} {Hs Hs' : Hp} (e : Ex Hs Hs') {er : Er} {c : Value} {dd : Option Addr} (h : ErOk K Hs er c dd) : ErOk K Hs' er c dd := by
  cases er with
  | mk c fs =>
    obtain ⟨h1, h2⟩ := h
    refine ⟨h1, ?_⟩
    rcases h2 with h2 | ⟨d, xs, h2, h3, h4⟩
    · exact .inl h2
    · exact .inr ⟨d, xs, h2, e _ _ h3, h4.mono e⟩

/-- what is wanted behind an expression -/
def Pst {α β : Type} (K : PySem.W.Frag) (W : WX) (Fr : FrT) (σ : L2.St) (Hs : Hp) (rep : Hp → β → α → Prop) (Q : β → Hp → Prop) : R α → Prop
  | .ok d ρ' => ∀ v Hs' H', Ex Hs Hs' → Rel K ρ' Hs' Fr σ H' → rep Hs' v d → Q v H'
  | .er e ρ' => ∀ c dd Hs' H', Ex Hs Hs' → Rel K ρ' Hs' Fr σ H' → ErOk K Hs' e c dd → W c dd σ H'
  | .no => False
section
variable {α β γ δ : Type} {K : PySem.W.Frag} {W : WX} {Fr : FrT} {σ : L2.St} {Hs Hs1 : Hp} {rep : Hp → β → α → Prop} {rep2 : Hp → δ → γ → Prop} {Q : β → Hp → Prop} {Q2 : δ → Hp → Prop}
theorem Pst.mono {r : R α} (h : Pst K W Fr σ Hs rep Q r) (e : Ex Hs Hs1) : Pst K W Fr σ Hs1 rep Q r := by
  cases r with
  | ok d ρ' => exact fun v Hs' H' e' => h v Hs' H' (e.trans e')
  | er x ρ' => exact fun c dd Hs' H' e' => h c dd Hs' H' (e.trans e')
  | no => exact h
theorem Pst.bnd {r : R α} {g : α → PEnv → R γ} (h : Pst K W Fr σ Hs rep2 Q2 (r.bind g))
    (k : ∀ d ρ1 v Hs1 H1, Ex Hs Hs1 → Rel K ρ1 Hs1 Fr σ H1 → rep Hs1 v d → Pst K W Fr σ Hs1 rep2 Q2 (g d ρ1) → Q v H1) : Pst K W Fr σ Hs rep Q r := by
  cases r with
  | ok d ρ' => exact fun v Hs' H' e' rl rp => k d ρ' v Hs' H' e' rl rp (Pst.mono h e')
  | er x ρ' => exact h
  | no => exact h
end
abbrev rB : Hp → Bool → Bool → Prop := fun _ b c => b = c
def DE (X : Cx) (W : WX) (e : Expr) (f : FE D) : Prop := ∃ t, PE X e t ∧ ∀ (ρ : PEnv) (Hs : Hp) (Fr : FrT) (σ : L2.St) (H : Hp) (Q : VK), Rel X.K ρ Hs Fr σ H → Pst X.K W Fr σ Hs (Rp X.K) Q (f ρ) → t σ H Q
def DT (X : Cx) (W : WX) (e : Expr) (f : FE Bool) : Prop := ∃ t, PT X e t ∧ ∀ (ρ : PEnv) (Hs : Hp) (Fr : FrT) (σ : L2.St) (H : Hp) (Q : Bool → Hp → Prop), Rel X.K ρ Hs Fr σ H → Pst X.K W Fr σ Hs rB Q (f ρ) → t σ H Q
def DA (X : Cx) (W : WX) (es : List Expr) (f : FE (List D)) : Prop := ∃ t, PA X es t ∧ ∀ (ρ : PEnv) (Hs : Hp) (Fr : FrT) (σ : L2.St) (H : Hp) (Q : List V → Hp → Prop), Rel X.K ρ Hs Fr σ H → Pst X.K W Fr σ Hs (RpL X.K) Q (f ρ) → t σ H Q
/-- an expression that makes an object of one's own: it is not stable yet -/
structure OwnAt (K : PySem.W.Frag) (ρ : PEnv) (Fr : FrT) (σ : L2.St) (Hs H : Hp) (v : V) (w : OV) : Prop where
  at_ : ∃ a, v = .ref a ∧ Hs a = none ∧ Fr.no a ∧ RpO K Fr.od Hs H a w ∧ ∀ (j : Nat) (s : SV), ρ[j]? = some s → isOw s = true → σ[j]? ≠ some (some (.ref a))
def PstO (K : PySem.W.Frag) (W : WX) (Fr : FrT) (σ : L2.St) (Hs : Hp) (Q : VK) : R OV → Prop
  | .ok d ρ' => ∀ v Hs' H', Ex Hs Hs' → Rel K ρ' Hs' Fr σ H' → OwnAt K ρ' Fr σ Hs' H' v d → Q v H'
  | .er e ρ' => ∀ c dd Hs' H', Ex Hs Hs' → Rel K ρ' Hs' Fr σ H' → ErOk K Hs' e c dd → W c dd σ H'
  | .no => False
def DO (X : Cx) (W : WX) (e : Expr) (f : FE OV) : Prop := ∃ t, PE X e t ∧ ∀ (ρ : PEnv) (Hs : Hp) (Fr : FrT) (σ : L2.St) (H : Hp) (Q : VK), Rel X.K ρ Hs Fr σ H → PstO X.K W Fr σ Hs Q (f ρ) → t σ H Q
/-- behind a statement -/
def PstS (K : PySem.W.Frag) (W : WX) (Fr : FrT) (σ : L2.St) (Hs : Hp) (Dn : Ends) : RS → Prop
  | .nx ρ' => ∀ σ' Hs' H', Ex Hs Hs' → Rel K ρ' Hs' Fr σ' H' → Dn.nx σ' H'
  | .rt d ρ' => ∀ v σ' Hs' H', Ex Hs Hs' → Rel K ρ' Hs' Fr σ' H' → Rp K Hs' v d → Dn.rt v H'
  | .er e ρ' => ∀ c dd σ' Hs' H', Ex Hs Hs' → Rel K ρ' Hs' Fr σ' H' → ErOk K Hs' e c dd → W c dd σ' H'
  | .no => False
theorem PstS.mono {K : PySem.W.Frag} {W : WX} {Fr : FrT} {σ σ1 : L2.St} {Hs Hs1 : Hp} {Dn : Ends} {r : RS} (h : PstS K W Fr σ Hs Dn r) (e : Ex Hs Hs1) : PstS K W Fr σ1 Hs1 Dn r := by
  cases r with
  | nx ρ' => exact fun σ' Hs' H' e' => h σ' Hs' H' (e.trans e')
  | rt d ρ' => exact fun v σ' Hs' H' e' => h v σ' Hs' H' (e.trans e')
  | er x ρ' => exact fun c dd σ' Hs' H' e' => h c dd σ' Hs' H' (e.trans e')
  | no => exact h
theorem PstS.thn {α β : Type} {K : PySem.W.Frag} {W : WX} {Fr : FrT} {σ : L2.St} {Hs : Hp} {Dn : Ends} {rep : Hp → β → α → Prop} {Q : β → Hp → Prop} {r : R α} {g : α → PEnv → RS} (h : PstS K W Fr σ Hs Dn (r.then g))
    (k : ∀ d ρ1 v Hs1 H1, Ex Hs Hs1 → Rel K ρ1 Hs1 Fr σ H1 → rep Hs1 v d → PstS K W Fr σ Hs1 Dn (g d ρ1) → Q v H1) : Pst K W Fr σ Hs rep Q r := by
  cases r with
  | ok d ρ' => exact fun v Hs' H' e' rl rp => k d ρ' v Hs' H' e' rl rp (PstS.mono h e')
  | er x ρ' => exact fun c dd Hs' H' e' rl eo => h c dd σ Hs' H' e' rl eo
  | no => exact h
def DS (X : Cx) (W : WX) (st : Stmt) (f : FS) : Prop := ∃ t, PS X st t ∧ ∀ (ρ : PEnv) (Hs : Hp) (Fr : FrT) (σ : L2.St) (H : Hp) (Dn : Ends), Rel X.K ρ Hs Fr σ H → PstS X.K W Fr σ Hs Dn (f ρ) → t Dn σ H
def DSs (X : Cx) (W : WX) (st : List Stmt) (f : FS) : Prop := ∃ t, PSs X st t ∧ ∀ (ρ : PEnv) (Hs : Hp) (Fr : FrT) (σ : L2.St) (H : Hp) (Dn : Ends), Rel X.K ρ Hs Fr σ H → PstS X.K W Fr σ Hs Dn (f ρ) → t Dn σ H
/-- what every rule may ask of where it stands -/
structure Gd (X : Cx) (W : WX) : Prop where
  tk : Takes X W
  hp : PassesOwn (model X.prog X.w) X.A X.env X.xe
  calm : X.calm = true
  nd : X.N.Nodup
  hu : X.A.units + 64 < cLine

section
variable {X : Cx} {W : WX} {pos : Pos}
/-! ### names, constants -/
def eV (i : Nat) : FE D := fun ρ => match ρ[i]? with
  | some (.sh d) => .ok d ρ
  | _ => .no
theorem de_var (i : Nat) {x : Str} (h : PE X (.Name x pos) (tVar i)) : DE X W (.Name x pos) (eV i) := by
  refine ⟨_, h, fun ρ Hs Fr σ H Q r q => ?_⟩
  unfold eV at q
  cases e : ρ[i]? with
  | none => rw [e] at q; exact q.elim
  | some s =>
    rw [e] at q
    cases s with
    | sh d =>
      obtain ⟨v, h1, h2⟩ := r.sl i _ e
      exact ⟨v, h1, q v Hs H (Ex.refl _) r h2⟩
    | un => exact q.elim
    | ow t w => exact q.elim
def eC (d : D) : FE D := fun ρ => .ok d ρ
theorem de_int {i : Int} {j : Nat} : DE X W (.Constant (.int i) j pos) (eC (.int i)) := ⟨_, pe_int, fun ρ Hs Fr σ H Q r q => q _ Hs H (Ex.refl _) r (.int i)⟩
theorem de_str {x : Str} {j : Nat} : DE X W (.Constant (.str x) j pos) (eC (.str x)) := ⟨_, pe_str, fun ρ Hs Fr σ H Q r q => q _ Hs H (Ex.refl _) r (.str x)⟩
theorem de_bl {b : Bool} {j : Nat} : DE X W (.Constant (.bool b) j pos) (eC (.bl b)) := ⟨_, pe_bl, fun ρ Hs Fr σ H Q r q => q _ Hs H (Ex.refl _) r (.bl b)⟩
theorem de_non {j : Nat} : DE X W (.Constant .none j pos) (eC .non) := ⟨_, pe_non, fun ρ Hs Fr σ H Q r q => q _ Hs H (Ex.refl _) r .non⟩
/-- a module's constant -/
theorem de_glob {x : Str} {v : V} {d : D} (h : PE X (.Name x pos) (tC v)) (r : ∀ H, Rp X.K H v d) : DE X W (.Name x pos) (eC d) := ⟨_, h, fun ρ Hs Fr σ H Q rl q => q _ Hs H (Ex.refl _) rl (r Hs)⟩

/-! ### operators by values -/
/-- what an operator, a call on values makes -/
def Op2 (K : PySem.W.Frag) (r : R2) (op : D → D → Option D) : Prop := ∀ (a b c : D), op a b = some c → ∀ (Hs H : Hp) (x y : V), Ex Hs H → Rp K Hs x a → Rp K Hs y b → ∀ Q : VK, (∀ v Hs' H', Gw Hs H Hs' H' → Rp K Hs' v c → Q v H') → r x y H Q
def Op1 (K : PySem.W.Frag) (r : V → Hp → VK → Prop) (op : D → Option D) : Prop := ∀ (a c : D), op a = some c → ∀ (Hs H : Hp) (x : V), Ex Hs H → Rp K Hs x a → ∀ Q : VK, (∀ v Hs' H', Gw Hs H Hs' H' → Rp K Hs' v c → Q v H') → r x H Q
def OpL (K : PySem.W.Frag) (r : List V → Hp → VK → Prop) (op : List D → Option D) : Prop := ∀ (as : List D) (c : D), op as = some c → ∀ (Hs H : Hp) (xs : List V), Ex Hs H → RpL K Hs xs as → ∀ Q : VK, (∀ v Hs' H', Gw Hs H Hs' H' → Rp K Hs' v c → Q v H') → r xs H Q
def e2 (op : D → D → Option D) (f g : FE D) : FE D := fun ρ => (f ρ).bind fun a ρ => (g ρ).bind fun b ρ => liftO (op a b) ρ
def e1 (op : D → Option D) (f : FE D) : FE D := fun ρ => (f ρ).bind fun a ρ => liftO (op a) ρ
def eL (op : List D → Option D) (f : FE (List D)) : FE D := fun ρ => (f ρ).bind fun a ρ => liftO (op a) ρ
theorem fin_op {K : PySem.W.Frag} {Fr : FrT} {σ : L2.St} {Hs H : Hp} {ρ : PEnv} {Q : VK} {o : Option D} (r : Rel K ρ Hs Fr σ H) (q : Pst K W Fr σ Hs (Rp K) Q (liftO o ρ)) (k : ∀ c, o = some c → (∀ v Hs' H', Gw Hs H Hs' H' → Rp K Hs' v c → Q v H') → Prop) : True := trivial
theorem op2_run {r : R2} {op : D → D → Option D} {ta tb : TE} {f g : FE D} (ho : Op2 X.K r op) (ha : ∀ (ρ : PEnv) (Hs : Hp) (Fr : FrT) (σ : L2.St) (H : Hp) (Q : VK), Rel X.K ρ Hs Fr σ H → Pst X.K W Fr σ Hs (Rp X.K) Q (f ρ) → ta σ H Q)
    (hb : ∀ (ρ : PEnv) (Hs : Hp) (Fr : FrT) (σ : L2.St) (H : Hp) (Q : VK), Rel X.K ρ Hs Fr σ H → Pst X.K W Fr σ Hs (Rp X.K) Q (g ρ) → tb σ H Q) :
    ∀ (ρ : PEnv) (Hs : Hp) (Fr : FrT) (σ : L2.St) (H : Hp) (Q : VK), Rel X.K ρ Hs Fr σ H → Pst X.K W Fr σ Hs (Rp X.K) Q (e2 op f g ρ) → tOp r ta tb σ H Q := by
  intro ρ Hs Fr σ H Q rl q
  refine ha ρ Hs Fr σ H _ rl (Pst.bnd q fun a ρ1 x Hs1 H1 e1 r1 p1 q1 => ?_)
  refine hb ρ1 Hs1 Fr σ H1 _ r1 (Pst.bnd q1 fun b ρ2 y Hs2 H2 e2 r2 p2 q2 => ?_)
  cases hc : op a b with
  | none => rw [hc] at q2; exact q2.elim
  | some c =>
    rw [hc] at q2
    exact ho a b c hc Hs2 H2 x y r2.hs (p1.mono e2) p2 Q fun v Hs' H' gw pv => q2 v Hs' H' gw.s (r2.grow gw) pv
theorem de_op {op : Operator} {r : R2} {o : D → D → Option D} {a b : Expr} {f g : FE D} (hr : OpR X (binaryOp op) r) (ho : Op2 X.K r o) (ha : DE X W a f) (hb : DE X W b g) : DE X W (.BinOp a op b pos) (e2 o f g) := by
  obtain ⟨ta, pa, qa⟩ := ha
  obtain ⟨tb, pb, qb⟩ := hb
  exact ⟨_, pe_op hr pa pb, op2_run ho qa qb⟩
theorem de_cmp {op : CmpOp} {r : R2} {o : D → D → Option D} {a b : Expr} {f g : FE D} (hr : OpR X (compareOp op) r) (ho : Op2 X.K r o) (hm : behindInMarks op b = false) (ha : DE X W a f) (hb : DE X W b g) : DE X W (.Compare a [op] [b] pos) (e2 o f g) := by
  obtain ⟨ta, pa, qa⟩ := ha
  obtain ⟨tb, pb, qb⟩ := hb
  exact ⟨_, pe_cmpR hr pa pb hm, op2_run ho qa qb⟩
theorem de_ix {r : R2} {o : D → D → Option D} {a b : Expr} {f g : FE D} (hr : IxR X r) (ho : Op2 X.K r o) (hs : PlainIx b) (ha : DE X W a f) (hb : DE X W b g) : DE X W (.Subscript a b pos) (e2 o f g) := by
  obtain ⟨ta, pa, qa⟩ := ha
  obtain ⟨tb, pb, qb⟩ := hb
  exact ⟨_, pe_ix hr pa pb hs, op2_run ho qa qb⟩
theorem de_un {op : UnaryOp} {r : V → Hp → VK → Prop} {o : D → Option D} {a : Expr} {f : FE D} (hr : UnR X (unaryOp op) r) (ho : Op1 X.K r o) (ha : DE X W a f) : DE X W (.UnaryOp op a pos) (e1 o f) := by
  obtain ⟨ta, pa, qa⟩ := ha
  refine ⟨_, pe_un hr pa, fun ρ Hs Fr σ H Q rl q => ?_⟩
  refine qa ρ Hs Fr σ H _ rl (Pst.bnd q fun a ρ1 x Hs1 H1 e1 r1 p1 q1 => ?_)
  cases hc : o a with
  | none => rw [hc] at q1; exact q1.elim
  | some c =>
    rw [hc] at q1
    exact ho a c hc Hs1 H1 x r1.hs p1 Q fun v Hs' H' gw pv => q1 v Hs' H' gw.s (r1.grow gw) pv
/-! ### argument lists -/
def aN : FE (List D) := fun ρ => .ok [] ρ
def aC (f : FE D) (g : FE (List D)) : FE (List D) := fun ρ => (f ρ).bind fun a ρ => (g ρ).bind fun as ρ => .ok (a :: as) ρ
theorem da_nil : DA X W [] aN := ⟨_, pa_nil, fun ρ Hs Fr σ H Q r q => q [] Hs H (Ex.refl _) r .nil⟩
theorem da_cons {e : Expr} {es : List Expr} {f : FE D} {g : FE (List D)} (ha : DE X W e f) (hr : DA X W es g) (hs : starEach (e :: es) X.env = (false, eval e X.env) :: starEach es X.env := by rfl) : DA X W (e :: es) (aC f g) := by
  obtain ⟨ta, pa, qa⟩ := ha
  obtain ⟨tb, pb, qb⟩ := hr
  refine ⟨_, pa_cons pa pb hs, fun ρ Hs Fr σ H Q rl q => ?_⟩
  refine qa ρ Hs Fr σ H _ rl (Pst.bnd q fun a ρ1 x Hs1 H1 e1 r1 p1 q1 => ?_)
  refine qb ρ1 Hs1 Fr σ H1 _ r1 (Pst.bnd q1 fun b ρ2 y Hs2 H2 e2 r2 p2 q2 => ?_)
  exact q2 (x :: y) Hs2 H2 (Ex.refl _) r2 (.cons (p1.mono e2) p2)
theorem opL_run {r : List V → Hp → VK → Prop} {op : List D → Option D} {ta : TA} {f : FE (List D)} (ho : OpL X.K r op) (ha : ∀ (ρ : PEnv) (Hs : Hp) (Fr : FrT) (σ : L2.St) (H : Hp) (Q : List V → Hp → Prop), Rel X.K ρ Hs Fr σ H → Pst X.K W Fr σ Hs (RpL X.K) Q (f ρ) → ta σ H Q) :
    ∀ (ρ : PEnv) (Hs : Hp) (Fr : FrT) (σ : L2.St) (H : Hp) (Q : VK), Rel X.K ρ Hs Fr σ H → Pst X.K W Fr σ Hs (Rp X.K) Q (eL op f ρ) → tCB r ta σ H Q := by
  intro ρ Hs Fr σ H Q rl q
  refine ha ρ Hs Fr σ H _ rl (Pst.bnd q fun a ρ1 x Hs1 H1 e1 r1 p1 q1 => ?_)
  cases hc : op a with
  | none => rw [hc] at q1; exact q1.elim
  | some c =>
    rw [hc] at q1
    exact ho a c hc Hs1 H1 x r1.hs p1 Q fun v Hs' H' gw pv => q1 v Hs' H' gw.s (r1.grow gw) pv
theorem de_callB {x : Str} {p : Pos} {id : String} {r : List V → Hp → VK → Prop} {op : List D → Option D} {e : Expr} {es : List Expr} {f : FE (List D)} (hc : CallR X (.builtin id) r) (ho : OpL X.K r op) (hg : Gl X x) (hm : X.mg x = none) (hv : bootBuiltins x = some (.builtin id)) (ha : DA X W (e :: es) f)
    (hn : x ≠ "__name__" := by decide) (hdb : (x == ("__debug__" : Str)) = false := by decide) (he : starEach (e :: es) X.env = (false, eval e X.env) :: starEach es X.env := by rfl) (hpl : (backTo pos (starEach es X.env)).any (·.1) = false := by rfl) :
    DE X W (.Call (.Name x p) (e :: es) [] pos) (eL op f) := by
  obtain ⟨ta, pa, qa⟩ := ha
  exact ⟨_, pe_callB hc hg hm hv pa hn hdb he hpl, opL_run ho qa⟩
theorem de_callT {x : Str} {p : Pos} {T : String} {r : List V → Hp → VK → Prop} {op : List D → Option D} {e : Expr} {es : List Expr} {f : FE (List D)} (hc : CallR X (.type T) r) (ho : OpL X.K r op) (hg : Gl X x) (hm : X.mg x = none) (hv : bootBuiltins x = some (.type T)) (ha : DA X W (e :: es) f)
    (hn : x ≠ "__name__" := by decide) (hdb : (x == ("__debug__" : Str)) = false := by decide) (he : starEach (e :: es) X.env = (false, eval e X.env) :: starEach es X.env := by rfl) (hpl : (backTo pos (starEach es X.env)).any (·.1) = false := by rfl) :
    DE X W (.Call (.Name x p) (e :: es) [] pos) (eL op f) := by
  obtain ⟨ta, pa, qa⟩ := ha
  exact ⟨_, pe_callTy hc hg hm hv pa hn hdb he hpl, opL_run ho qa⟩
/-! ### displays -/
def LIM : Nat := 1000000
theorem lim_le {n : Nat} (h : n ≤ LIM) : n ≤ sizeLine := Nat.le_trans h (by decide)
theorem lim_lt {n : Nat} (h : n < LIM) : n < sizeLine := Nat.lt_of_lt_of_le h (by decide)
def lim (ds : List D) (d : D) : Option D := if ds.length ≤ LIM then some d else none
def eTup (f : FE (List D)) : FE D := fun ρ => (f ρ).bind fun as ρ => liftO (lim as (.tup as)) ρ
def oLst (f : FE (List D)) : FE OV := fun ρ => (f ρ).bind fun as ρ => liftO (if as.length ≤ LIM then some (.l as) else none) ρ
def eLst (f : FE (List D)) : FE D := fun ρ => (f ρ).bind fun as ρ => liftO (lim as (.lst as)) ρ
theorem de_tup {es : List Expr} {k : Nat} {f : FE (List D)} (ha : DA X W es f) : DE X W (.Tuple es k pos) (eTup f) := by
  obtain ⟨ta, pa, qa⟩ := ha
  refine ⟨_, pe_tup pa, fun ρ Hs Fr σ H Q rl q => ?_⟩
  refine qa ρ Hs Fr σ H _ rl (Pst.bnd q fun as ρ1 xs Hs1 H1 e1 r1 p1 q1 => ?_)
  unfold lim at q1
  split at q1
  · rename_i hl
    refine ⟨lim_le (by rw [p1.len]; exact hl), fun p hp => ?_⟩
    have gw : Gw Hs1 H1 (upd Hs1 p (.tup xs)) (upd H1 p (.tup xs)) := .new r1.hs hp
    exact q1 _ _ _ gw.s (r1.grow gw) (.tup upd_same (p1.mono gw.s))
  · exact q1.elim
theorem de_lst {es : List Expr} {f : FE (List D)} (ha : DA X W es f) : DE X W (.List es pos) (eLst f) := by
  obtain ⟨ta, pa, qa⟩ := ha
  refine ⟨_, pe_lst pa, fun ρ Hs Fr σ H Q rl q => ?_⟩
  refine qa ρ Hs Fr σ H _ rl (Pst.bnd q fun as ρ1 xs Hs1 H1 e1 r1 p1 q1 => ?_)
  unfold lim at q1
  split at q1
  · rename_i hl
    refine ⟨lim_le (by rw [p1.len]; exact hl), fun p hp => ?_⟩
    have gw : Gw Hs1 H1 (upd Hs1 p (.lst xs)) (upd H1 p (.lst xs)) := .new r1.hs hp
    exact q1 _ _ _ gw.s (r1.grow gw) (.lst (.inl (.inl upd_same)) (p1.mono gw.s))
  · exact q1.elim
theorem fr_none {K : PySem.W.Frag} {ρ : PEnv} {Hs : Hp} {Fr : FrT} {σ : L2.St} {H : Hp} {p : Addr} (r : Rel K ρ Hs Fr σ H) (hp : H p = none) : Hs p = none ∧ Fr.no p ∧ ∀ (j : Nat) (s : SV), ρ[j]? = some s → isOw s = true → σ[j]? ≠ some (some (.ref p)) :=
  ⟨r.hs.back hp, ⟨r.fr.back hp, fun z => by obtain ⟨o, ho⟩ := r.od p z; rw [hp] at ho; cases ho⟩, fun j s e o h => by
    obtain ⟨u, hu⟩ := r.own_some e o h
    rw [hu] at hp
    cases hp⟩
theorem do_lst {es : List Expr} {f : FE (List D)} (ha : DA X W es f) : DO X W (.List es pos) (oLst f) := by
  obtain ⟨ta, pa, qa⟩ := ha
  refine ⟨_, pe_lst pa, fun ρ Hs Fr σ H Q rl q => ?_⟩
  refine qa ρ Hs Fr σ H _ rl ?_
  unfold oLst at q
  cases hf : f ρ with
  | no =>
    rw [hf] at q
    exact q.elim
  | er e ρ1 =>
    rw [hf] at q
    exact q
  | ok as ρ1 =>
    rw [hf] at q
    intro xs Hs1 H1 e1 r1 p1
    have q1 : PstO X.K W Fr σ Hs Q (liftO (if as.length ≤ LIM then some (.l as) else none) ρ1) := q
    split at q1
    · rename_i hl
      refine ⟨lim_le (by rw [p1.len]; exact hl), fun p hp => ?_⟩
      obtain ⟨n1, n2, n3⟩ := fr_none r1 hp
      have gw : Gw Hs1 H1 Hs1 (upd H1 p (.lst xs)) := .own r1.hs hp
      exact q1 _ _ _ e1 (r1.grow gw) ⟨p, rfl, n1, n2, ⟨xs, upd_same, p1⟩, n3⟩
    · exact q1.elim
/-! ### tests -/
def tV (f : FE D) : FE Bool := fun ρ => (f ρ).bind fun d ρ => match d with
  | .bl b => .ok b ρ
  | _ => .no
theorem rp_bl {K : PySem.W.Frag} {H : Hp} {v : V} {b : Bool} (h : Rp K H v (.bl b)) : v = .bl b := by cases h; rfl
theorem rp_int {K : PySem.W.Frag} {H : Hp} {v : V} {i : Int} (h : Rp K H v (.int i)) : v = .int i := by cases h; rfl
theorem rp_str {K : PySem.W.Frag} {H : Hp} {v : V} {i : Str} (h : Rp K H v (.str i)) : v = .str i := by cases h; rfl
theorem rp_non {K : PySem.W.Frag} {H : Hp} {v : V} (h : Rp K H v .non) : v = .non := by cases h; rfl
theorem dt_val {e : Expr} {f : FE D} (h : DE X W e f) (he : ∀ whole, isTrue e X.env whole = (do let v ← whole; standAt e.pos; holding [v] (truthy v)) := by intro _; rfl) : DT X W e (tV f) := by
  obtain ⟨ta, pa, qa⟩ := h
  refine ⟨_, pt_val pa he, fun ρ Hs Fr σ H Q rl q => ?_⟩
  refine qa ρ Hs Fr σ H _ rl (Pst.bnd q fun d ρ1 x Hs1 H1 e1 r1 p1 q1 => ?_)
  cases d with
  | bl b => exact ⟨b, rp_bl p1, q1 b Hs1 H1 (Ex.refl _) r1 rfl⟩
  | _ => exact q1.elim
theorem dt_cmp {op : CmpOp} {r : R2} {o : D → D → Option D} {a b : Expr} {f g : FE D} (hr : OpR X (compareOp op) r) (ho : Op2 X.K r o) (hm : behindInMarks op b = false) (ha : DE X W a f) (hb : DE X W b g) : DT X W (.Compare a [op] [b] pos) (tV (e2 o f g)) := by
  obtain ⟨ta, pa, qa⟩ := ha
  obtain ⟨tb, pb, qb⟩ := hb
  refine ⟨_, pt_cmpR hr pa pb hm, fun ρ Hs Fr σ H Q rl q => ?_⟩
  refine op2_run ho qa qb ρ Hs Fr σ H _ rl (Pst.bnd q fun d ρ1 x Hs1 H1 e1 r1 p1 q1 => ?_)
  cases d with
  | bl b => exact ⟨b, rp_bl p1, q1 b Hs1 H1 (Ex.refl _) r1 rfl⟩
  | _ => exact q1.elim
/-- and, or as tests: lists of tests -/
def DW (X : Cx) (W : WX) (e : Expr) (f : FE Bool) : Prop := ∃ t, PW X e t ∧ ∀ (ρ : PEnv) (Hs : Hp) (Fr : FrT) (σ : L2.St) (H : Hp) (Q : Bool → Hp → Prop), Rel X.K ρ Hs Fr σ H → Pst X.K W Fr σ Hs rB Q (f ρ) → t σ H Q
theorem DW.dt {e : Expr} {f : FE Bool} (h : DW X W e f) : DT X W e f := by
  obtain ⟨t, p, q⟩ := h
  exact ⟨t, p.pt, q⟩
def tA (f g : FE Bool) : FE Bool := fun ρ => (f ρ).bind fun b ρ => match b with
  | true => g ρ
  | false => .ok false ρ
def tO (f g : FE Bool) : FE Bool := fun ρ => (f ρ).bind fun b ρ => match b with
  | true => .ok true ρ
  | false => g ρ
def tN (f : FE Bool) : FE Bool := fun ρ => (f ρ).bind fun b ρ => .ok (!b) ρ
theorem dw_and1 {a : Expr} {f : FE Bool} (h : DT X W a f) : DW X W (.BoolOp .And [a] pos) f := by
  obtain ⟨t, p, q⟩ := h
  exact ⟨t, pw_and1 p, q⟩
theorem dw_or1 {a : Expr} {f : FE Bool} (h : DT X W a f) : DW X W (.BoolOp .Or [a] pos) f := by
  obtain ⟨t, p, q⟩ := h
  exact ⟨t, pw_or1 p, q⟩
theorem dw_and {a b : Expr} {rest : List Expr} {f g : FE Bool} (ha : DT X W a f) (hb : DW X W (.BoolOp .And (b :: rest) pos) g) : DW X W (.BoolOp .And (a :: b :: rest) pos) (tA f g) := by
  obtain ⟨ta, pa, qa⟩ := ha
  obtain ⟨tb, pb, qb⟩ := hb
  refine ⟨_, pw_and pa pb, fun ρ Hs Fr σ H Q rl q => ?_⟩
  refine qa ρ Hs Fr σ H _ rl (Pst.bnd q fun c ρ1 x Hs1 H1 e1 r1 p1 q1 => ?_)
  have p1 : x = c := p1
  subst p1
  cases x with
  | true => exact qb ρ1 Hs1 Fr σ H1 Q r1 q1
  | false => exact q1 false Hs1 H1 (Ex.refl _) r1 rfl
theorem dw_or {a b : Expr} {rest : List Expr} {f g : FE Bool} (ha : DT X W a f) (hb : DW X W (.BoolOp .Or (b :: rest) pos) g) : DW X W (.BoolOp .Or (a :: b :: rest) pos) (tO f g) := by
  obtain ⟨ta, pa, qa⟩ := ha
  obtain ⟨tb, pb, qb⟩ := hb
  refine ⟨_, pw_or pa pb, fun ρ Hs Fr σ H Q rl q => ?_⟩
  refine qa ρ Hs Fr σ H _ rl (Pst.bnd q fun c ρ1 x Hs1 H1 e1 r1 p1 q1 => ?_)
  have p1 : x = c := p1
  subst p1
  cases x with
  | true => exact q1 true Hs1 H1 (Ex.refl _) r1 rfl
  | false => exact qb ρ1 Hs1 Fr σ H1 Q r1 q1
theorem dt_not {a : Expr} {f : FE Bool} (ha : DT X W a f) : DT X W (.UnaryOp .Not a pos) (tN f) := by
  obtain ⟨ta, pa, qa⟩ := ha
  refine ⟨_, pt_not pa, fun ρ Hs Fr σ H Q rl q => ?_⟩
  refine qa ρ Hs Fr σ H _ rl (Pst.bnd q fun c ρ1 x Hs1 H1 e1 r1 p1 q1 => ?_)
  have p1 : x = c := p1
  subst p1
  exact q1 _ Hs1 H1 (Ex.refl _) r1 rfl
/-- as values, of truth values -/
def vA (f g : FE D) : FE D := fun ρ => (f ρ).bind fun d ρ => match d with
  | .bl true => g ρ
  | .bl false => .ok (.bl false) ρ
  | _ => .no
def vO (f g : FE D) : FE D := fun ρ => (f ρ).bind fun d ρ => match d with
  | .bl true => .ok (.bl true) ρ
  | .bl false => g ρ
  | _ => .no
def vN (f : FE D) : FE D := fun ρ => (f ρ).bind fun d ρ => match d with
  | .bl b => .ok (.bl (!b)) ρ
  | _ => .no
theorem de_one {op : BoolOp} {a : Expr} {f : FE D} (h : DE X W a f) : DE X W (.BoolOp op [a] pos) f := by
  obtain ⟨t, p, q⟩ := h
  exact ⟨t, pe_one p, q⟩
theorem de_and {a b : Expr} {rest : List Expr} {f g : FE D} (ha : DE X W a f) (hb : DE X W (.BoolOp .And (b :: rest) pos) g) : DE X W (.BoolOp .And (a :: b :: rest) pos) (vA f g) := by
  obtain ⟨ta, pa, qa⟩ := ha
  obtain ⟨tb, pb, qb⟩ := hb
  refine ⟨_, pe_and pa pb, fun ρ Hs Fr σ H Q rl q => ?_⟩
  refine qa ρ Hs Fr σ H _ rl (Pst.bnd q fun c ρ1 x Hs1 H1 e1 r1 p1 q1 => ?_)
  cases c with
  | bl b =>
    refine ⟨b, rp_bl p1, ?_⟩
    cases b with
    | true => exact qb ρ1 Hs1 Fr σ H1 Q r1 q1
    | false => exact q1 _ Hs1 H1 (Ex.refl _) r1 (.bl false)
  | _ => exact q1.elim
theorem de_or {a b : Expr} {rest : List Expr} {f g : FE D} (ha : DE X W a f) (hb : DE X W (.BoolOp .Or (b :: rest) pos) g) : DE X W (.BoolOp .Or (a :: b :: rest) pos) (vO f g) := by
  obtain ⟨ta, pa, qa⟩ := ha
  obtain ⟨tb, pb, qb⟩ := hb
  refine ⟨_, pe_or pa pb, fun ρ Hs Fr σ H Q rl q => ?_⟩
  refine qa ρ Hs Fr σ H _ rl (Pst.bnd q fun c ρ1 x Hs1 H1 e1 r1 p1 q1 => ?_)
  cases c with
  | bl b =>
    refine ⟨b, rp_bl p1, ?_⟩
    cases b with
    | true => exact q1 _ Hs1 H1 (Ex.refl _) r1 (.bl true)
    | false => exact qb ρ1 Hs1 Fr σ H1 Q r1 q1
  | _ => exact q1.elim
theorem de_not {a : Expr} {f : FE D} (ha : DE X W a f) : DE X W (.UnaryOp .Not a pos) (vN f) := by
  obtain ⟨ta, pa, qa⟩ := ha
  refine ⟨_, pe_not pa, fun ρ Hs Fr σ H Q rl q => ?_⟩
  refine qa ρ Hs Fr σ H _ rl (Pst.bnd q fun c ρ1 x Hs1 H1 e1 r1 p1 q1 => ?_)
  cases c with
  | bl b => exact ⟨b, rp_bl p1, q1 _ Hs1 H1 (Ex.refl _) r1 (.bl (!b))⟩
  | _ => exact q1.elim
def eIf (t : FE Bool) (f g : FE D) : FE D := fun ρ => (t ρ).bind fun b ρ => match b with
  | true => f ρ
  | false => g ρ
theorem de_if {c a b : Expr} {t : FE Bool} {f g : FE D} (hc : DT X W c t) (ha : DE X W a f) (hb : DE X W b g) : DE X W (.IfExp c a b pos) (eIf t f g) := by
  obtain ⟨tc, pc, qc⟩ := hc
  obtain ⟨ta, pa, qa⟩ := ha
  obtain ⟨tb, pb, qb⟩ := hb
  refine ⟨_, pe_ifExp pc pa pb, fun ρ Hs Fr σ H Q rl q => ?_⟩
  refine qc ρ Hs Fr σ H _ rl (Pst.bnd q fun c ρ1 x Hs1 H1 e1 r1 p1 q1 => ?_)
  have p1 : x = c := p1
  subst p1
  cases x with
  | true => exact qa ρ1 Hs1 Fr σ H1 Q r1 q1
  | false => exact qb ρ1 Hs1 Fr σ H1 Q r1 q1
/-! ### statements -/
def sNx : FS := fun ρ => .nx ρ
def sSeq (f g : FS) : FS := fun ρ => match f ρ with
  | .nx ρ => g ρ
  | r => r
theorem dss_nil : DSs X W [] sNx := ⟨_, pss_nil, fun ρ Hs Fr σ H Dn r q => q σ Hs H (Ex.refl _) r⟩
theorem dss_cons {st : Stmt} {rest : List Stmt} {f g : FS} (h1 : DS X W st f) (h2 : DSs X W rest g) : DSs X W (st :: rest) (sSeq f g) := by
  obtain ⟨ta, pa, qa⟩ := h1
  obtain ⟨tb, pb, qb⟩ := h2
  refine ⟨_, pss_cons pa pb, fun ρ Hs Fr σ H Dn rl q => ?_⟩
  refine qa ρ Hs Fr σ H _ rl ?_
  unfold sSeq at q
  cases hf : f ρ with
  | nx ρ1 =>
    rw [hf] at q
    exact fun σ1 Hs1 H1 e1 r1 => qb ρ1 Hs1 Fr σ1 H1 Dn r1 (PstS.mono q e1)
  | rt d ρ1 => rw [hf] at q; exact q
  | er e ρ1 => rw [hf] at q; exact q
  | no => rw [hf] at q; exact q
theorem dss_one {st : Stmt} {f : FS} (h1 : DS X W st f) : DSs X W [st] f := by
  obtain ⟨ta, pa, qa⟩ := h1
  exact ⟨_, pss_one pa, qa⟩
def sIf (t : FE Bool) (f g : FS) : FS := fun ρ => (t ρ).then fun b ρ => match b with
  | true => f ρ
  | false => g ρ
theorem ds_if {c : Expr} {a b : List Stmt} {t : FE Bool} {f g : FS} (hc : DT X W c t) (ha : DSs X W a f) (hb : DSs X W b g) : DS X W (.If c a b pos) (sIf t f g) := by
  obtain ⟨tc, pc, qc⟩ := hc
  obtain ⟨ta, pa, qa⟩ := ha
  obtain ⟨tb, pb, qb⟩ := hb
  refine ⟨_, ps_if pc pa pb, fun ρ Hs Fr σ H Dn rl q => ?_⟩
  refine qc ρ Hs Fr σ H _ rl (PstS.thn q fun c ρ1 x Hs1 H1 e1 r1 p1 q1 => ?_)
  have p1 : x = c := p1
  subst p1
  cases x with
  | true => exact qa ρ1 Hs1 Fr σ H1 Dn r1 q1
  | false => exact qb ρ1 Hs1 Fr σ H1 Dn r1 q1
def sRet (f : FE D) : FS := fun ρ => (f ρ).then fun d ρ => .rt d ρ
theorem ds_ret {e : Expr} {f : FE D} (h : DE X W e f) : DS X W (.Return (some e) pos) (sRet f) := by
  obtain ⟨ta, pa, qa⟩ := h
  refine ⟨_, ps_ret pa, fun ρ Hs Fr σ H Dn rl q => ?_⟩
  exact qa ρ Hs Fr σ H _ rl (PstS.thn q fun d ρ1 x Hs1 H1 e1 r1 p1 q1 => q1 x σ Hs1 H1 (Ex.refl _) r1 p1)
def sDrop (f : FE D) : FS := fun ρ => (f ρ).then fun _ ρ => .nx ρ
theorem ds_expr {e : Expr} {f : FE D} (h : DE X W e f) (hs : swapsWith e none pos.line X.env = pure false := by rfl) : DS X W (.Expr e pos) (sDrop f) := by
  obtain ⟨ta, pa, qa⟩ := h
  refine ⟨_, ps_expr pa hs, fun ρ Hs Fr σ H Dn rl q => ?_⟩
  exact qa ρ Hs Fr σ H _ rl (PstS.thn q fun d ρ1 x Hs1 H1 e1 r1 p1 q1 => q1 σ Hs1 H1 (Ex.refl _) r1)
theorem ds_pass : DS X W (.Pass pos) sNx := ⟨_, ps_pass, fun ρ Hs Fr σ H Dn r q => q σ Hs H (Ex.refl _) r⟩
/-- name = e, stable -/
def sSet (i : Nat) (f : FE D) : FS := fun ρ => (f ρ).then fun d ρ => .nx (ρ.set i (.sh d))
theorem ds_set (i : Nat) {x : Str} {e : Expr} {f : FE D} {pos' : Pos} (g : Gd X W) (h : DE X W e f) (hi : X.N[i]? = some x := by rfl) (hx : Loc X.env.scope x := by first | exact Or.inl rfl | exact Or.inr rfl) (hs : swapsWith e (some (.Name x pos')) pos.line X.env = pure false := by rfl)
    (hf : X.fn x = true ∨ X.env.scope.names.lookup x = some .local := by first | exact .inl rfl | exact .inr rfl) : DS X W (.Assign [.Name x pos'] e pos) (sSet i f) := by
  obtain ⟨ta, pa, qa⟩ := h
  refine ⟨_, ps_set g.nd hi hx pa hs hf, fun ρ Hs Fr σ H Dn rl q => ?_⟩
  exact qa ρ Hs Fr σ H _ rl (PstS.thn q fun d ρ1 x Hs1 H1 e1 r1 p1 q1 => q1 _ Hs1 H1 (Ex.refl _) (r1.put p1))
/-- name = e, an object of one's own -/
def sSetO (i : Nat) (f : FE OV) : FS := fun ρ => (f ρ).then fun w ρ => .nx (ρ.set i (.ow none w))
theorem ds_setO (i : Nat) {x : Str} {e : Expr} {f : FE OV} {pos' : Pos} (g : Gd X W) (h : DO X W e f) (hi : X.N[i]? = some x := by rfl) (hx : Loc X.env.scope x := by first | exact Or.inl rfl | exact Or.inr rfl) (hs : swapsWith e (some (.Name x pos')) pos.line X.env = pure false := by rfl)
    (hf : X.fn x = true ∨ X.env.scope.names.lookup x = some .local := by first | exact .inl rfl | exact .inr rfl) : DS X W (.Assign [.Name x pos'] e pos) (sSetO i f) := by
  obtain ⟨ta, pa, qa⟩ := h
  refine ⟨_, ps_set g.nd hi hx pa hs hf, fun ρ Hs Fr σ H Dn rl q => ?_⟩
  refine qa ρ Hs Fr σ H _ rl ?_
  unfold sSetO at q
  cases hf : f ρ with
  | no => rw [hf] at q; exact q
  | er e ρ1 => rw [hf] at q; exact fun c dd Hs' H' e' rl eo => q c dd σ Hs' H' e' rl eo
  | ok d ρ1 =>
    rw [hf] at q
    intro v Hs1 H1 e1 r1 o
    obtain ⟨a, rfl, h1, h2, h3, h4⟩ := o.at_
    exact q _ Hs1 H1 e1 (r1.putO h1 h2 h3 h4)
end
end Fw
end

section
set_option Elab.async false
set_option linter.all false
set_option autoImplicit false
set_option maxRecDepth 100000
set_option maxHeartbeats 4000000
/-! Fw3: loops, comprehensions, targets, objects of one's own. -/
namespace Fw
open PySem PySem.Spec PyProof.Rows L2

/-! ### what is walked -/
/-- the iterator J yields what stands for ds, over the stable heap Hs -/
structure Yields (K : PySem.W.Frag) (J : It) (ds : List D) (Hs : Hp) : Prop where
  go : ∀ (i : Nat) (d : D), ds[i]? = some d → ∀ H, Ex Hs H → J.go i H
  yld : ∀ (i : Nat) (d : D), ds[i]? = some d → ∀ Hs2 H x H', Ex Hs Hs2 → Ex Hs2 H → J.yld i H x H' → ∃ Hs3, Gw Hs2 H Hs3 H' ∧ Rp K Hs3 x d
  stop : ∀ i, ds.length ≤ i → ∀ H, Ex Hs H → J.stop i H
def PstI (K : PySem.W.Frag) (W : WX) (Fr : FrT) (σ : L2.St) (Hs : Hp) (Q : It → Hp → Prop) : R (List D) → Prop
  | .ok ds ρ' => ∀ J Hs' H', Ex Hs Hs' → Rel K ρ' Hs' Fr σ H' → Yields K J ds Hs' → Q J H'
  | .er e ρ' => ∀ c dd Hs' H', Ex Hs Hs' → Rel K ρ' Hs' Fr σ H' → ErOk K Hs' e c dd → W c dd σ H'
  | .no => False
def DI (X : Cx) (W : WX) (tg iter : Expr) (f : FE (List D)) : Prop := ∃ t, PI X tg iter t ∧ ∀ (ρ : PEnv) (Hs : Hp) (Fr : FrT) (σ : L2.St) (H : Hp) (Q : It → Hp → Prop), Rel X.K ρ Hs Fr σ H → PstI X.K W Fr σ Hs Q (f ρ) → t σ H Q
section
variable {K : PySem.W.Frag} {Hs : Hp}
theorem yields_list {a : Addr} {xs : List V} {ds : List D} (h : SqL K Hs a xs) (r : RpL K Hs xs ds) : Yields K (Itl K a) ds Hs where
  go := fun i d e H ex => by
    obtain ⟨v, hv, _⟩ := r.get e
    exact ⟨xs, v, ex.l h, hv⟩
  yld := fun i d e Hs2 H x H' ex ex2 y => by
    obtain ⟨rfl, y⟩ := y
    obtain ⟨v, hv, rv⟩ := r.get e
    have := y xs ((ex.trans ex2).l h)
    rw [hv] at this
    cases this
    exact ⟨Hs2, .refl ex2, rv.mono ex⟩
  stop := fun i hi H ex => ⟨xs, ex.l h, by rw [r.len]; exact hi⟩
theorem yields_tup {a : Addr} {xs : List V} {ds : List D} (h : SqT K Hs a xs) (r : RpL K Hs xs ds) : Yields K (Itt K a) ds Hs where
  go := fun i d e H ex => by
    obtain ⟨v, hv, _⟩ := r.get e
    exact ⟨xs, v, ex.t h, hv⟩
  yld := fun i d e Hs2 H x H' ex ex2 y => by
    obtain ⟨rfl, y⟩ := y
    obtain ⟨v, hv, rv⟩ := r.get e
    have := y xs ((ex.trans ex2).t h)
    rw [hv] at this
    cases this
    exact ⟨Hs2, .refl ex2, rv.mono ex⟩
  stop := fun i hi H ex => ⟨xs, ex.t h, by rw [r.len]; exact hi⟩
def rng (lo : Int) (n : Nat) : List D := (List.range n).map fun k => .int (lo + (k : Nat))
theorem rng_get {lo : Int} {n i : Nat} {d : D} (e : (rng lo n)[i]? = some d) : i < n ∧ d = .int (lo + i) := by
  unfold rng at e
  rw [List.getElem?_map] at e
  by_cases h : i < n
  · rw [List.getElem?_range h] at e
    exact ⟨h, (Option.some.inj e).symm⟩
  · rw [List.getElem?_eq_none (by simp; omega)] at e
    cases e
theorem yields_rng {lo : Int} {n : Nat} : Yields K (Itr lo n) (rng lo n) Hs where
  go := fun i d e H ex => (rng_get e).1
  yld := fun i d e Hs2 H x H' ex ex2 y => by
    obtain ⟨rfl, rfl⟩ := y
    obtain ⟨_, rfl⟩ := rng_get e
    exact ⟨Hs2, .refl ex2, .int _⟩
  stop := fun i hi H ex => by
    have : (rng lo n).length = n := by unfold rng; simp
    show n ≤ i
    omega
end
section
variable {X : Cx} {W : WX} {tg : Expr} {pos : Pos}
theorem PstI.of {K : PySem.W.Frag} {Fr : FrT} {σ : L2.St} {Hs : Hp} {Q2 : It → Hp → Prop} {β α : Type} {rep : Hp → β → α → Prop} {Q : β → Hp → Prop} {r : R α} {g : α → PEnv → R (List D)} (h : PstI K W Fr σ Hs Q2 (r.bind g))
    (k : ∀ d ρ1 v Hs1 H1, Ex Hs Hs1 → Rel K ρ1 Hs1 Fr σ H1 → rep Hs1 v d → PstI K W Fr σ Hs1 Q2 (g d ρ1) → Q v H1) : Pst K W Fr σ Hs rep Q r := by
  cases r with
  | ok d ρ' =>
    intro v Hs' H' e' rl rp
    refine k d ρ' v Hs' H' e' rl rp ?_
    have h2 : PstI K W Fr σ Hs Q2 (g d ρ') := h
    cases hg : g d ρ' with
    | ok ds ρ2 => rw [hg] at h2; exact fun J Hs2 H2 e2 => h2 J Hs2 H2 (e'.trans e2)
    | er e ρ2 => rw [hg] at h2; exact fun c dd Hs2 H2 e2 => h2 c dd Hs2 H2 (e'.trans e2)
    | no => rw [hg] at h2; exact h2
  | er x ρ' => exact h
  | no => exact h
def iL (f : FE D) : FE (List D) := fun ρ => (f ρ).bind fun d ρ => match d with
  | .lst ds => .ok ds ρ
  | _ => .no
def iT (f : FE D) : FE (List D) := fun ρ => (f ρ).bind fun d ρ => match d with
  | .tup ds => .ok ds ρ
  | _ => .no
theorem di_list {e : Expr} {f : FE D} (h : DE X W e f) : DI X W tg e (iL f) := by
  obtain ⟨t, p, q⟩ := h
  refine ⟨_, pi_list p, fun ρ Hs Fr σ H Q rl qq => ?_⟩
  refine q ρ Hs Fr σ H _ rl (PstI.of qq fun d ρ1 v Hs1 H1 e1 r1 p1 q1 => ?_)
  cases d with
  | lst ds =>
    cases p1 with
    | lst h1 h2 => exact ⟨_, rfl, ⟨_, r1.hs.l h1⟩, q1 _ Hs1 H1 (Ex.refl _) r1 (yields_list h1 h2)⟩
  | _ => exact q1.elim
theorem di_tup {e : Expr} {f : FE D} (h : DE X W e f) : DI X W tg e (iT f) := by
  obtain ⟨t, p, q⟩ := h
  refine ⟨_, pi_tup p, fun ρ Hs Fr σ H Q rl qq => ?_⟩
  refine q ρ Hs Fr σ H _ rl (PstI.of qq fun d ρ1 v Hs1 H1 e1 r1 p1 q1 => ?_)
  cases d with
  | tup ds =>
    cases p1 with
    | tup h1 h2 => exact ⟨_, rfl, ⟨_, SqT.of (r1.hs _ _ h1)⟩, q1 _ Hs1 H1 (Ex.refl _) r1 (yields_tup (SqT.of h1) h2)⟩
  | _ => exact q1.elim
def iR1 (f : FE (List D)) : FE (List D) := fun ρ => (f ρ).bind fun as ρ => match as with
  | [.int j] => if -(2 ^ 62) ≤ j ∧ j < 2 ^ 62 then .ok (rng 0 j.toNat) ρ else .no
  | _ => .no
def iR2 (f : FE (List D)) : FE (List D) := fun ρ => (f ρ).bind fun as ρ => match as with
  | [.int i, .int j] => if -(2 ^ 62) ≤ i ∧ i < 2 ^ 62 ∧ -(2 ^ 62) ≤ j ∧ j < 2 ^ 62 then .ok (rng i (j - i).toNat) ρ else .no
  | _ => .no
theorem rpl1 {K : PySem.W.Frag} {H : Hp} {xs : List V} {a : D} (h : RpL K H xs [a]) : ∃ x, xs = [x] ∧ Rp K H x a := by
  cases h with | cons h1 h2 => cases h2; exact ⟨_, rfl, h1⟩
theorem rpl2 {K : PySem.W.Frag} {H : Hp} {xs : List V} {a b : D} (h : RpL K H xs [a, b]) : ∃ x y, xs = [x, y] ∧ Rp K H x a ∧ Rp K H y b := by
  cases h with | cons h1 h2 => cases h2 with | cons h2 h3 => cases h3; exact ⟨_, _, rfl, h1, h2⟩
theorem di_rng1 {a : Expr} {f : FE (List D)} {p : Pos} (hg : Gl X "range") (hm : X.mg "range" = none) (ha : DA X W [a] f) (hs : starEach [a] X.env = [(false, eval a X.env)] := by rfl) : DI X W tg (.Call (.Name "range" p) [a] [] pos) (iR1 f) := by
  obtain ⟨t, p, q⟩ := ha
  refine ⟨_, pi_range1 hg hm p hs, fun ρ Hs Fr σ H Q rl qq => ?_⟩
  refine q ρ Hs Fr σ H _ rl (PstI.of qq fun as ρ1 vs Hs1 H1 e1 r1 p1 q1 => ?_)
  split at q1
  · rename_i j
    split at q1
    · rename_i hb
      obtain ⟨x, rfl, hx⟩ := rpl1 p1
      have := rp_int hx
      subst this
      exact ⟨j, rfl, hb.1, hb.2, q1 _ Hs1 H1 (Ex.refl _) r1 yields_rng⟩
    · exact q1.elim
  · exact q1.elim
theorem di_rng2 {a b : Expr} {f : FE (List D)} {p : Pos} (hg : Gl X "range") (hm : X.mg "range" = none) (ha : DA X W [a, b] f) (hs : starEach [a, b] X.env = [(false, eval a X.env), (false, eval b X.env)] := by rfl) (hs2 : starEach [b] X.env = [(false, eval b X.env)] := by rfl) :
    DI X W tg (.Call (.Name "range" p) [a, b] [] pos) (iR2 f) := by
  obtain ⟨t, p, q⟩ := ha
  refine ⟨_, pi_range2 hg hm p hs hs2, fun ρ Hs Fr σ H Q rl qq => ?_⟩
  refine q ρ Hs Fr σ H _ rl (PstI.of qq fun as ρ1 vs Hs1 H1 e1 r1 p1 q1 => ?_)
  split at q1
  · rename_i i j
    split at q1
    · rename_i hb
      obtain ⟨x, y, rfl, hx, hy⟩ := rpl2 p1
      have := rp_int hx
      subst this
      have := rp_int hy
      subst this
      exact ⟨i, j, rfl, hb, q1 _ Hs1 H1 (Ex.refl _) r1 yields_rng⟩
    · exact q1.elim
  · exact q1.elim
/-! ### targets -/
theorem wipe_get (σ : L2.St) : ∀ (vs : List Nat) (j : Nat), (wipe σ vs)[j]? = if j ∈ vs then (if j < σ.length then some none else none) else σ[j]?
  | [], j => by simp [wipe]
  | v :: vs, j => by
    unfold wipe
    rw [List.getElem?_set, wipe_get σ vs j, wipe_length]
    by_cases h1 : v = j
    · subst h1
      simp
    · have : j ≠ v := fun e => h1 e.symm
      simp [h1, this]
theorem wipe_set (σ : L2.St) (vs : List Nat) (i : Nat) (o : Option V) (h : i ∈ vs) : wipe (σ.set i o) vs = wipe σ vs := by
  apply List.ext_getElem?
  intro j
  rw [wipe_get, wipe_get, List.length_set]
  by_cases hj : j ∈ vs
  · simp [hj]
  · have : i ≠ j := fun e => hj (e ▸ h)
    simp [hj, this]
theorem wipe_wipe (σ : L2.St) (vs : List Nat) : wipe (wipe σ vs) vs = wipe σ vs := by
  apply List.ext_getElem?
  intro j
  rw [wipe_get, wipe_length, wipe_get]
  by_cases hj : j ∈ vs <;> simp [hj]
/-- the slots that a target sets -/
def Only' (is : List Nat) (σ σ' : L2.St) : Prop := ∀ vs : List Nat, (∀ i ∈ is, i ∈ vs) → wipe σ' vs = wipe σ vs
def DG (X : Cx) (tg : Expr) (is : List Nat) (g : D → PEnv → Option PEnv) : Prop := ∃ t : TG, PG X tg t ∧ ∀ (ρ ρ' : PEnv) (d : D) (Hs : Hp) (Fr : FrT) (σ : L2.St) (H : Hp) (v : V) (Q : L2.St → Hp → Prop), Rel X.K ρ Hs Fr σ H → Rp X.K Hs v d → g d ρ = some ρ' → (∀ σ', Rel X.K ρ' Hs Fr σ' H → Only' is σ σ' → Q σ' H) → t v σ H Q
def DGs (X : Cx) (ts : List Expr) (is : List Nat) (g : List D → PEnv → Option PEnv) : Prop := ∃ t : TGs, PGs X ts t ∧ ∀ (ρ ρ' : PEnv) (d : List D) (Hs : Hp) (Fr : FrT) (σ : L2.St) (H : Hp) (v : List V) (Q : L2.St → Hp → Prop), Rel X.K ρ Hs Fr σ H → RpL X.K Hs v d → g d ρ = some ρ' → (∀ σ', Rel X.K ρ' Hs Fr σ' H → Only' is σ σ' → Q σ' H) → t v σ H Q
def tgN (i : Nat) : D → PEnv → Option PEnv := fun d ρ => some (ρ.set i (.sh d))
theorem dg_name (i : Nat) {x : Str} (nd : X.N.Nodup) (hi : X.N[i]? = some x := by rfl) (hx : Loc X.env.scope x := by first | exact Or.inl rfl | exact Or.inr rfl) (hf : X.fn x = true ∨ X.env.scope.names.lookup x = some .local := by first | exact .inl rfl | exact .inr rfl) : DG X (.Name x pos) [i] (tgN i) :=
  ⟨_, pg_name nd hi hx hf, fun ρ ρ' d Hs Fr σ H v Q r rp e k => by
    cases e
    exact k _ (r.put rp) fun vs h => wipe_set σ vs i _ (h i (by simp))⟩
def tgNil : List D → PEnv → Option PEnv := fun ds ρ => match ds with
  | [] => some ρ
  | _ => none
def tgCons (g : D → PEnv → Option PEnv) (gs : List D → PEnv → Option PEnv) : List D → PEnv → Option PEnv := fun ds ρ => match ds with
  | d :: ds => (g d ρ).bind (gs ds)
  | [] => none
theorem dgs_nil : DGs X [] [] tgNil := ⟨_, pgs_nil, fun ρ ρ' d Hs Fr σ H v Q r rp e k => by
  cases d with
  | nil =>
    cases e
    cases rp
    exact ⟨rfl, k σ r fun vs h => rfl⟩
  | cons _ _ => cases e⟩
theorem dgs_cons {e : Expr} {es : List Expr} {i1 i2 : List Nat} {g : D → PEnv → Option PEnv} {gs : List D → PEnv → Option PEnv} (h1 : DG X e i1 g) (h2 : DGs X es i2 gs) (hs : (assignEach (e :: es) X.env).map (·.2) = assign e X.env :: (assignEach es X.env).map (·.2) := by rfl) : DGs X (e :: es) (i1 ++ i2) (tgCons g gs) := by
  obtain ⟨t1, p1, q1⟩ := h1
  obtain ⟨t2, p2, q2⟩ := h2
  refine ⟨_, pgs_cons p1 p2 hs, fun ρ ρ' d Hs Fr σ H v Q r rp e k => ?_⟩
  cases d with
  | nil => cases e
  | cons d ds =>
    cases rp with
    | cons r1 r2 =>
      obtain ⟨ρ1, h1, h2⟩ := Option.bind_eq_some_iff.mp (show (g d ρ).bind (gs ds) = some ρ' from e)
      exact ⟨_, _, rfl, q1 ρ ρ1 d Hs Fr σ H _ _ r r1 h1 fun σ1 rl1 o1 => q2 ρ1 ρ' ds Hs Fr σ1 H _ Q rl1 r2 h2 fun σ2 rl2 o2 => k σ2 rl2 fun vs hv =>
        (o2 vs fun i hi => hv i (List.mem_append_right _ hi)).trans (o1 vs fun i hi => hv i (List.mem_append_left _ hi))⟩
/-- (a, b) = a tuple -/
def tgT (n : Nat) (gs : List D → PEnv → Option PEnv) : D → PEnv → Option PEnv := fun d ρ => match d with
  | .tup ds => if ds.length = n then gs ds ρ else none
  | _ => none
theorem dg_tup {es : List Expr} {k n : Nat} {is : List Nat} {gs : List D → PEnv → Option PEnv} (hc : X.calm = true) (h : DGs X es is gs) (hn : (assignEach es X.env).length = n := by rfl) (hst : (assignEach es X.env).findIdx? (·.1) = none := by rfl) : DG X (.Tuple es k pos) is (tgT n gs) := by
  obtain ⟨t, p, q⟩ := h
  refine ⟨_, pg_tup hc p hn hst, fun ρ ρ' d Hs Fr σ H v Q r rp e k => ?_⟩
  cases d with
  | tup ds =>
    cases rp with
    | tup h1 h2 =>
      have e2 : (if ds.length = n then gs ds ρ else none) = some ρ' := e
      split at e2
      · rename_i hl
        exact ⟨_, _, rfl, SqT.of (r.hs _ _ h1), h2.len.trans hl, q ρ ρ' ds Hs Fr σ H _ Q r h2 e2 k⟩
      · cases e2
  | _ => cases e
/-- target = e -/
def sAsg (g : D → PEnv → Option PEnv) (f : FE D) : FS := fun ρ => (f ρ).then fun d ρ => match g d ρ with
  | some ρ => .nx ρ
  | none => .no
theorem ds_asg {e : Expr} {f : FE D} {is : List Nat} {g : D → PEnv → Option PEnv} (he : DE X W e f) (hg : DG X tg is g) (hs : swapsWithSole [tg] e pos.line X.env = pure false := by rfl) (hw : swappedStores [tg] e X.env = pure none := by rfl)
    (h1 : (assignEach [tg] X.env).map (·.2) = [assign tg X.env] := by rfl) : DS X W (.Assign [tg] e pos) (sAsg g f) := by
  obtain ⟨t, p, q⟩ := he
  obtain ⟨t2, p2, q2⟩ := hg
  refine ⟨_, ps_asg p p2 hs hw h1, fun ρ Hs Fr σ H Dn rl qq => ?_⟩
  refine q ρ Hs Fr σ H _ rl (PstS.thn qq fun d ρ1 x Hs1 H1 e1 r1 p1 q1 => ?_)
  cases hg : g d ρ1 with
  | none => rw [hg] at q1; exact q1.elim
  | some ρ2 =>
    rw [hg] at q1
    exact q2 ρ1 ρ2 d Hs1 Fr σ H1 x _ r1 p1 hg fun σ2 r2 _ => q1 σ2 Hs1 H1 (Ex.refl _) r2
/-! ### for -/
def forF (g : D → PEnv → Option PEnv) (b : FS) : List D → FS
  | [], ρ => .nx ρ
  | d :: ds, ρ => match g d ρ with
    | none => .no
    | some ρ => match b ρ with
      | .nx ρ => forF g b ds ρ
      | r => r
def sFor (g : D → PEnv → Option PEnv) (b : FS) (f : FE (List D)) : FS := fun ρ => (f ρ).then fun ds ρ => forF g b ds ρ
theorem ds_for {iter : Expr} {body : List Stmt} {f : FE (List D)} {g : D → PEnv → Option PEnv} {is : List Nat} {b : FS} (gd : Gd X W) (hi : DI X W tg iter f) (hg : DG X tg is g) (hb : DSs X W body b)
    (hs : ∀ x, foldedSetIterable iter X.env x = pure x := by intro _; rfl) : DS X W (.For tg iter body [] pos) (sFor g b f) := by
  obtain ⟨ti, pi, qi⟩ := hi
  obtain ⟨tgr, pg, qg⟩ := hg
  obtain ⟨tb, pb, qb⟩ := hb
  refine ⟨_, ps_for gd.hp gd.calm pi pg pb hs, fun ρ Hs Fr σ H Dn rl q => ?_⟩
  refine qi ρ Hs Fr σ H _ rl ?_
  unfold sFor at q
  cases hf : f ρ with
  | no => rw [hf] at q; exact q
  | er e ρ1 => rw [hf] at q; exact fun c dd Hs' H' e' rl eo => q c dd σ Hs' H' e' rl eo
  | ok ds ρ1 =>
    rw [hf] at q
    intro J Hs0 H0 e0 r0 Y
    have q : PstS X.K W Fr σ Hs0 Dn (forF g b ds ρ1) := PstS.mono (show PstS X.K W Fr σ Hs Dn (forF g b ds ρ1) from q) e0
    refine ⟨fun i m σ' H' => m = ds.length - i ∧ i ≤ ds.length ∧ ∃ ρ' Hs', Ex Hs0 Hs' ∧ Rel X.K ρ' Hs' Fr σ' H' ∧ PstS X.K W Fr σ' Hs' Dn (forF g b (ds.drop i) ρ'), ⟨ds.length, by simp, Nat.zero_le _, ρ1, Hs0, Ex.refl _, r0, by simpa using q⟩, ?_⟩
    rintro i m σ' H' ⟨rfl, hi, ρ', Hs', ex', r', q'⟩
    by_cases hlt : i < ds.length
    · have ed : ds[i]? = some ds[i] := List.getElem?_eq_getElem hlt
      have edr : ds.drop i = ds[i] :: ds.drop (i + 1) := by rw [List.drop_eq_getElem_cons hlt]
      rw [edr] at q'
      refine .inr ⟨Y.go i _ ed H' (ex'.trans r'.hs), fun σ2 H2 => ∃ ρ2 Hs2, Ex Hs0 Hs2 ∧ Rel X.K ρ2 Hs2 Fr σ2 H2 ∧ PstS X.K W Fr σ2 Hs2 Dn (forF g b (ds.drop (i + 1)) ρ2), fun σ2 H2 hN => ⟨ds.length - (i + 1), by omega, rfl, hlt, hN⟩, fun x H2 y => ?_⟩
      obtain ⟨Hs2, gw, rx⟩ := Y.yld i _ ed Hs' H' x H2 ex' r'.hs y
      have r2 := r'.grow gw
      unfold forF at q'
      cases hgd : g ds[i] ρ' with
      | none => rw [hgd] at q'; exact q'.elim
      | some ρ2 =>
        rw [hgd] at q'
        refine qg ρ' ρ2 ds[i] Hs2 Fr σ' H2 x _ r2 rx hgd fun σ3 r3 _ => ?_
        refine qb ρ2 Hs2 Fr σ3 H2 _ r3 ?_
        have q2 : PstS X.K W Fr σ3 Hs2 Dn (match b ρ2 with
          | .nx ρ => forF g b (ds.drop (i + 1)) ρ
          | r => r) := PstS.mono q' gw.s
        cases hb : b ρ2 with
        | nx ρ3 =>
          rw [hb] at q2
          exact fun σ4 Hs4 H4 e4 r4 => ⟨ρ3, Hs4, (ex'.trans gw.s).trans e4, r4, PstS.mono q2 e4⟩
        | rt d ρ3 => rw [hb] at q2; exact q2
        | er e ρ3 => rw [hb] at q2; exact q2
        | no => rw [hb] at q2; exact q2
    · have ei : i = ds.length := by omega
      subst ei
      rw [List.drop_length] at q'
      exact .inl ⟨Y.stop _ (Nat.le_refl _) H' (ex'.trans r'.hs), q' σ' Hs' H' (Ex.refl _) r'⟩
/-! ### while -/
def whF (t : FE Bool) (b : FS) : Nat → FS
  | 0, _ => .no
  | n + 1, ρ => (t ρ).then fun c ρ => match c with
    | false => .nx ρ
    | true => match b ρ with
      | .nx ρ => whF t b n ρ
      | r => r
def sWh (fuel : PEnv → Nat) (t : FE Bool) (b : FS) : FS := fun ρ => whF t b (fuel ρ) ρ
theorem ds_while {c : Expr} {body : List Stmt} {t : FE Bool} {b : FS} (fuel : PEnv → Nat) (gd : Gd X W) (hc : DT X W c t) (hb : DSs X W body b) : DS X W (.While c body [] pos) (sWh fuel t b) := by
  obtain ⟨tc, pc, qc⟩ := hc
  obtain ⟨tb, pb, qb⟩ := hb
  refine ⟨_, ps_while gd.hp pc pb, fun ρ Hs Fr σ H Dn rl q => ?_⟩
  refine ⟨fun m σ' H' => ∃ ρ' Hs', Ex Hs Hs' ∧ Rel X.K ρ' Hs' Fr σ' H' ∧ PstS X.K W Fr σ' Hs' Dn (whF t b m ρ'), ⟨fuel ρ, ρ, Hs, Ex.refl _, rl, q⟩, ?_⟩
  rintro m σ' H' ⟨ρ', Hs', ex', r', q'⟩
  cases m with
  | zero => exact q'.elim
  | succ n =>
    unfold whF at q'
    refine qc ρ' Hs' Fr σ' H' _ r' (PstS.thn q' fun cc ρ1 x Hs1 H1 e1 r1 p1 q1 => ?_)
    have p1 : x = cc := p1
    subst p1
    cases x with
    | false => exact q1 σ' Hs1 H1 (Ex.refl _) r1
    | true =>
      refine ⟨fun σ2 H2 => ∃ ρ2 Hs2, Ex Hs Hs2 ∧ Rel X.K ρ2 Hs2 Fr σ2 H2 ∧ PstS X.K W Fr σ2 Hs2 Dn (whF t b n ρ2), fun σ2 H2 h => ⟨n, Nat.lt_succ_self n, h⟩, ?_⟩
      refine qb ρ1 Hs1 Fr σ' H1 _ r1 ?_
      have q1 : PstS X.K W Fr σ' Hs1 Dn (match b ρ1 with
          | .nx ρ => whF t b n ρ
          | r => r) := q1
      cases hb : b ρ1 with
      | nx ρ3 =>
        rw [hb] at q1
        exact fun σ4 Hs4 H4 e4 r4 => ⟨ρ3, Hs4, (ex'.trans e1).trans e4, r4, PstS.mono q1 e4⟩
      | rt d ρ3 => rw [hb] at q1; exact q1
      | er e ρ3 => rw [hb] at q1; exact q1
      | no => rw [hb] at q1; exact q1
end
end Fw
end

section
set_option Elab.async false
set_option linter.all false
set_option autoImplicit false
set_option maxRecDepth 100000
set_option maxHeartbeats 4000000
/-! Fw4: comprehensions; objects of one's own read and changed; what becomes stable. -/
namespace Fw
open PySem PySem.Spec PyProof.Rows L2

/-! ### canonical readings -/
def tE (K : PySem.W.Frag) (W : WX) (f : FE D) : TE := fun σ H Q => ∃ ρ Hs Fr, Rel K ρ Hs Fr σ H ∧ Pst K W Fr σ Hs (Rp K) Q (f ρ)
def tTs (K : PySem.W.Frag) (W : WX) (f : FE Bool) : TT := fun σ H Q => ∃ ρ Hs Fr, Rel K ρ Hs Fr σ H ∧ Pst K W Fr σ Hs rB Q (f ρ)
def tGt (K : PySem.W.Frag) (is : List Nat) (g : D → PEnv → Option PEnv) : TG := fun v σ H Q => ∃ ρ ρ' d Hs Fr, Rel K ρ Hs Fr σ H ∧ Rp K Hs v d ∧ g d ρ = some ρ' ∧ ∀ σ', Rel K ρ' Hs Fr σ' H → Only' is σ σ' → Q σ' H
section
variable {X : Cx} {W : WX}
theorem DE.can {e : Expr} {f : FE D} (h : DE X W e f) : PE X e (tE X.K W f) := by
  obtain ⟨t, p, q⟩ := h
  exact ⟨fun pins s σ H Q I ⟨ρ, Hs, Fr, r, k⟩ => p.run pins s σ H Q I (q ρ Hs Fr σ H Q r k)⟩
theorem DT.can {e : Expr} {f : FE Bool} (h : DT X W e f) : PT X e (tTs X.K W f) := by
  obtain ⟨t, p, q⟩ := h
  exact ⟨fun pins s σ H Q I ⟨ρ, Hs, Fr, r, k⟩ => p.run pins s σ H Q I (q ρ Hs Fr σ H Q r k)⟩
theorem DG.can {e : Expr} {is : List Nat} {g : D → PEnv → Option PEnv} (h : DG X e is g) : PG X e (tGt X.K is g) := by
  obtain ⟨t, p, q⟩ := h
  exact ⟨fun pins s σ H v u Q I rv ⟨ρ, ρ', d, Hs, Fr, r, rp, hg, k⟩ => p.run pins s σ H v u Q I rv (q ρ ρ' d Hs Fr σ H v Q r rp hg k)⟩
end
abbrev W0 : WX := fun _ _ _ _ => False

/-! ### comprehensions -/
def wipeP (ρ : PEnv) : List Nat → PEnv
  | [] => ρ
  | v :: vs => (wipeP ρ vs).set v .un
def noOw (ρ : PEnv) (vs : List Nat) : Bool := vs.all fun v => match ρ[v]? with
  | some s => !isOw s
  | none => true
/-- the block's own names as they were -/
def backP (ρ0 ρ : PEnv) : List Nat → PEnv
  | [] => ρ
  | v :: vs => match ρ0[v]? with
    | some s => (backP ρ0 ρ vs).set v s
    | none => backP ρ0 ρ vs
theorem Rel.wipe {K : PySem.W.Frag} {ρ : PEnv} {Hs : Hp} {Fr : FrT} {σ : L2.St} {H : Hp} (r : Rel K ρ Hs Fr σ H) : ∀ vs : List Nat, Rel K (wipeP ρ vs) Hs Fr (L2.wipe σ vs) H
  | [] => r
  | v :: vs => (Rel.wipe r vs).drop
def lcF (g : D → PEnv → Option PEnv) (t : FE Bool) (f : FE D) (vs : List Nat) : List D → FE (List D)
  | [], ρ => .ok [] ρ
  | d :: ds, ρ => match g d (wipeP ρ vs) with
    | none => .no
    | some ρ1 => match t ρ1 with
      | .ok true ρ2 => match f ρ2 with
        | .ok v ρ3 => match lcF g t f vs ds ρ3 with
          | .ok us ρ4 => .ok (v :: us) ρ4
          | _ => .no
        | _ => .no
      | .ok false ρ2 => lcF g t f vs ds ρ2
      | _ => .no
def tYs : FE Bool := fun ρ => .ok true ρ
def eLc (wi : FE (List D)) (g : D → PEnv → Option PEnv) (t : FE Bool) (f : FE D) (vs : List Nat) : FE (List D) := fun ρ => (wi ρ).bind fun ds ρ1 =>
  if ds.length ≤ LIM ∧ noOw ρ1 vs = true then match lcF g t f vs ds ρ1 with
    | .ok us ρ2 => .ok us (backP ρ1 ρ2 vs)
    | _ => .no
  else .no
theorem wipeP_len (ρ : PEnv) : ∀ vs, (wipeP ρ vs).length = ρ.length
  | [] => rfl
  | v :: vs => by unfold wipeP; rw [List.length_set, wipeP_len ρ vs]
/-- back to the names ahead of the block -/
theorem Rel.back {K : PySem.W.Frag} {ρ0 ρ : PEnv} {Hs Hs1 : Hp} {Fr : FrT} {σ : L2.St} {H H1 : Hp} (r0 : Rel K ρ0 Hs Fr σ H) (ex : Ex Hs Hs1) : ∀ (vs : List Nat), noOw ρ0 vs = true → Rel K ρ Hs1 Fr (L2.wipe σ vs) H1 → Rel K (backP ρ0 ρ vs) Hs1 Fr σ H1
  | [], _, r => r
  | v :: vs, no, r => by
    have no2 : noOw ρ0 vs = true := by
      unfold noOw at no ⊢
      rw [List.all_cons, Bool.and_eq_true] at no
      exact no.2
    have nov : ∀ s, ρ0[v]? = some s → isOw s = false := fun s e => by
      unfold noOw at no
      rw [List.all_cons, Bool.and_eq_true] at no
      have := no.1
      rw [e] at this
      simpa using this
    -- first v is wiped too late: put it back in σ
    have step : ∀ {ρ' : PEnv}, Rel K ρ' Hs1 Fr ((L2.wipe σ vs).set v none) H1 → Rel K (ρ'.set v .un) Hs1 Fr (L2.wipe σ vs) H1 := fun {ρ'} r' => by
      refine ⟨by rw [List.length_set, r'.len, List.length_set], r'.hs, r'.fr, r'.dis, r'.od, fun j s e => ?_, fun j k s t a e1 e2 o1 o2 a1 a2 => ?_⟩
      · by_cases hj : v = j
        · subst hj
          by_cases hl : v < ρ'.length
          · rw [List.getElem?_set_self hl] at e
            cases e
            trivial
          · rw [List.getElem?_eq_none (by simpa using hl)] at e
            cases e
        · rw [get_set_ne hj] at e
          have q := r'.sl j s e
          rw [get_set_ne hj] at q
          exact q
      · have nv : ∀ j s, (ρ'.set v .un)[j]? = some s → isOw s = true → v ≠ j := fun j s e o z => by
          subst z
          by_cases hl : v < ρ'.length
          · rw [List.getElem?_set_self hl] at e
            cases e
            cases o
          · rw [List.getElem?_eq_none (by simpa using hl)] at e
            cases e
        have h1 := nv j s e1 o1
        have h2 := nv k t e2 o2
        rw [get_set_ne h1] at e1
        rw [get_set_ne h2] at e2
        exact r'.ap j k s t a e1 e2 o1 o2 (by rw [get_set_ne h1]; exact a1) (by rw [get_set_ne h2]; exact a2)
    have r1 : Rel K (ρ.set v .un) Hs1 Fr (L2.wipe σ vs) H1 := step r
    have r2 := Rel.back r0 ex vs no2 r1
    unfold backP
    have keepb : ∀ (ws : List Nat) (ρ' : PEnv), ∀ j, j ∉ ws → (backP ρ0 ρ' ws)[j]? = ρ'[j]? := by
      intro ws ρ'
      induction ws with
      | nil => intro j _; rfl
      | cons w ws ih =>
        intro j hj
        unfold backP
        have h1 : w ≠ j := fun e => hj (by simp [e])
        have h2 : j ∉ ws := fun e => hj (by simp [e])
        cases ρ0[w]? with
        | none => exact ih j h2
        | some s =>
          show ((backP ρ0 ρ' ws).set w s)[j]? = _
          rw [get_set_ne h1]
          exact ih j h2
    have lenb : ∀ (ws : List Nat) (ρ' : PEnv), (backP ρ0 ρ' ws).length = ρ'.length := by
      intro ws ρ'
      induction ws with
      | nil => rfl
      | cons w ws ih =>
        unfold backP
        cases ρ0[w]? with
        | none => exact ih
        | some s => show ((backP ρ0 ρ' ws).set w s).length = _; rw [List.length_set]; exact ih
    -- the name v as it was
    have back_eq : ∀ (ws : List Nat) (ρ' : PEnv) (s : SV), ρ0[v]? = some s → (backP ρ0 (ρ'.set v .un) ws).set v s = (backP ρ0 ρ' ws).set v s := by
      intro ws ρ' s es
      apply List.ext_getElem?
      intro j
      by_cases hj : v = j
      · subst hj
        rw [List.getElem?_set, List.getElem?_set, lenb, lenb, List.length_set]
        simp
      · rw [get_set_ne hj, get_set_ne hj]
        have : ∀ ws : List Nat, (backP ρ0 (ρ'.set v .un) ws)[j]? = (backP ρ0 ρ' ws)[j]? := by
          intro ws
          induction ws with
          | nil => exact get_set_ne hj
          | cons w ws ih =>
            unfold backP
            cases ρ0[w]? with
            | none => exact ih
            | some s2 =>
              show ((backP ρ0 (ρ'.set v .un) ws).set w s2)[j]? = ((backP ρ0 ρ' ws).set w s2)[j]?
              rw [List.getElem?_set, List.getElem?_set, lenb, lenb, List.length_set, ih]
        exact this ws
    cases es : ρ0[v]? with
    | none =>
      have hv : ¬ v < ρ0.length := by
        intro h
        rw [List.getElem?_eq_getElem h] at es
        cases es
      show Rel K (backP ρ0 ρ vs) Hs1 Fr σ H1
      have hlen : ρ.length = ρ0.length := by
        have a := r.len
        unfold L2.wipe at a
        rw [List.length_set, wipe_length] at a
        rw [a, r0.len]
      have e1 : ρ.set v .un = ρ := List.set_eq_of_length_le (by omega)
      rw [e1] at r2
      exact r2
    | some s =>
      show Rel K ((backP ρ0 ρ vs).set v s) Hs1 Fr σ H1
      rw [← back_eq vs ρ s es]
      have q0 := r0.sl v s es
      cases s with
      | un =>
        have := r2.drop (i := v) (o := none)
        refine ⟨by rw [List.length_set, r2.len], r2.hs, r2.fr, r2.dis, r2.od, fun j s e => ?_, fun j k s t a e1 e2 o1 o2 a1 a2 => ?_⟩
        · by_cases hj : v = j
          · subst hj
            by_cases hl : v < (backP ρ0 (ρ.set v .un) vs).length
            · rw [List.getElem?_set_self hl] at e
              cases e
              trivial
            · rw [List.getElem?_eq_none (by simpa using hl)] at e
              cases e
          · rw [get_set_ne hj] at e
            exact r2.sl j s e
        · have nv : ∀ j s, ((backP ρ0 (ρ.set v .un) vs).set v .un)[j]? = some s → isOw s = true → v ≠ j := fun j s e o z => by
            subst z
            by_cases hl : v < (backP ρ0 (ρ.set v .un) vs).length
            · rw [List.getElem?_set_self hl] at e
              cases e
              cases o
            · rw [List.getElem?_eq_none (by simpa using hl)] at e
              cases e
          have h1 := nv j s e1 o1
          have h2 := nv k t e2 o2
          rw [get_set_ne h1] at e1
          rw [get_set_ne h2] at e2
          exact r2.ap j k s t a e1 e2 o1 o2 a1 a2
      | sh d =>
        obtain ⟨x, hx, rx⟩ := q0
        have := r2.put (i := v) (v := x) (d := d) (rx.mono ex)
        have e2 : σ.set v (some x) = σ := by
          apply List.ext_getElem?
          intro j
          by_cases hj : v = j
          · subst hj
            obtain ⟨hl, e3⟩ := List.getElem?_eq_some_iff.mp hx
            rw [List.getElem?_set_self hl, List.getElem?_eq_getElem hl, e3]
          · rw [get_set_ne hj]
        rw [e2] at this
        exact this
      | ow tt0 w => have := nov _ es; cases this
section
variable {X : Cx} {W : WX} {tg iter elt : Expr} {pos : Pos}
/-- values that stand for data in some way -/
inductive RpLr (rep : Hp → V → D → Prop) (H : Hp) : List V → List D → Prop
  | nil : RpLr rep H [] []
  | cons {v : V} {vs : List V} {d : D} {ds : List D} : rep H v d → RpLr rep H vs ds → RpLr rep H (v :: vs) (d :: ds)
theorem RpLr.mono {rep : Hp → V → D → Prop} {H H' : Hp} {vs : List V} {ds : List D} (r : RpLr rep H vs ds) (hm : ∀ {Hs Hs' : Hp} {v : V} {d : D}, Ex Hs Hs' → rep Hs v d → rep Hs' v d) (e : Ex H H') : RpLr rep H' vs ds := by
  induction r with
  | nil => exact .nil
  | cons h _ ih => exact .cons (hm e h) ih
theorem RpLr.len {rep : Hp → V → D → Prop} {H : Hp} {vs : List V} {ds : List D} (r : RpLr rep H vs ds) : vs.length = ds.length := by
  induction r with
  | nil => rfl
  | cons _ _ ih => simp [ih]
theorem RpLr.snoc {rep : Hp → V → D → Prop} {H : Hp} {vs : List V} {ds : List D} {v : V} {d : D} (r : RpLr rep H vs ds) (h : rep H v d) : RpLr rep H (vs ++ [v]) (ds ++ [d]) := by
  induction r with
  | nil => exact .cons h .nil
  | cons g _ ih => exact .cons g ih
theorem RpLr.rpl {K : PySem.W.Frag} {H : Hp} {vs : List V} {ds : List D} (r : RpLr (Rp K) H vs ds) : RpL K H vs ds := by
  induction r with
  | nil => exact .nil
  | cons g _ ih => exact .cons g ih
theorem lc_runR {K : PySem.W.Frag} {rep : Hp → V → D → Prop} (hm : ∀ {Hs Hs' : Hp} {v : V} {d : D}, Ex Hs Hs' → rep Hs v d → rep Hs' v d) {wi : TI} {g : TG} {tt : TT} {te : TE} {vs : List Nat} {fi : FE (List D)} {gf : D → PEnv → Option PEnv} {is : List Nat} {ft : FE Bool} {fe : FE D} (hsub : ∀ i ∈ is, i ∈ vs)
    (qi : ∀ (ρ : PEnv) (Hs : Hp) (Fr : FrT) (σ : L2.St) (H : Hp) (Q : It → Hp → Prop), Rel K ρ Hs Fr σ H → PstI K W Fr σ Hs Q (fi ρ) → wi σ H Q)
    (qg : ∀ (ρ ρ' : PEnv) (d : D) (Hs : Hp) (Fr : FrT) (σ : L2.St) (H : Hp) (v : V) (Q : L2.St → Hp → Prop), Rel K ρ Hs Fr σ H → Rp K Hs v d → gf d ρ = some ρ' → (∀ σ', Rel K ρ' Hs Fr σ' H → Only' is σ σ' → Q σ' H) → g v σ H Q)
    (qt : ∀ (ρ : PEnv) (Hs : Hp) (Fr : FrT) (σ : L2.St) (H : Hp) (Q : Bool → Hp → Prop), Rel K ρ Hs Fr σ H → Pst K W0 Fr σ Hs rB Q (ft ρ) → tt σ H Q)
    (ρ : PEnv) (Hs : Hp) (Fr : FrT) (σ : L2.St) (H : Hp) (Q : VK)
    (qe : ∀ (ρ : PEnv) (Hs : Hp) (Fr' : FrT) (σ : L2.St) (H : Hp) (Q : VK), Fr'.od = Fr.od → Rel K ρ Hs Fr' σ H → Pst K W0 Fr' σ Hs rep Q (fe ρ) → te σ H Q)
    (rl : Rel K ρ Hs Fr σ H)
    (k : match eLc fi gf ft fe vs ρ with
      | .ok us ρ' => ∀ (Dl : Addr) Hs' H', Ex Hs Hs' → Rel K ρ' Hs' Fr σ H' → (∃ xs, H' Dl = some (.lst xs) ∧ RpLr rep Hs' xs us) → Hs' Dl = none → Fr.no Dl → (∀ (j : Nat) (s : SV), ρ'[j]? = some s → isOw s = true → σ[j]? ≠ some (some (.ref Dl))) → Q (.ref Dl) H'
      | .er e ρ' => ∀ c dd Hs' H', Ex Hs Hs' → Rel K ρ' Hs' Fr σ H' → ErOk K Hs' e c dd → W c dd σ H'
      | .no => False) : tLc wi g tt te vs σ H Q := by
  refine qi ρ Hs Fr σ H _ rl ?_
  unfold eLc at k
  cases hf : fi ρ with
  | no => rw [hf] at k; exact k
  | er e ρ1 => rw [hf] at k; exact k
  | ok ds ρ1 =>
    rw [hf] at k
    intro J Hs0 H0 e0 r0 Y
    dsimp only [R.bind] at k
    by_cases hc : ds.length ≤ LIM ∧ noOw ρ1 vs = true
    · rw [if_pos hc] at k
      obtain ⟨hlim, hno⟩ := hc
      intro Dl hD
      obtain ⟨n1, n2, n3⟩ := fr_none r0 hD
      have r0w := (r0.grow (.own (o := .lst []) r0.hs hD)).wipe vs
      -- the state between two turns: the list so far, what is still to come
      refine ⟨fun i m H' => m = ds.length - i ∧ i ≤ ds.length ∧ ∃ (ρ' : PEnv) (Hs' : Hp) (acc : List D) (xs : List V), Ex Hs0 Hs' ∧ Rel K (wipeP ρ' vs) Hs' Fr (L2.wipe σ vs) H' ∧ H' Dl = some (.lst xs) ∧ RpLr rep Hs' xs acc ∧ Hs' Dl = none ∧ acc.length ≤ i ∧
        (∀ (j : Nat) (s : SV), (wipeP ρ' vs)[j]? = some s → isOw s = true → (L2.wipe σ vs)[j]? ≠ some (some (.ref Dl))) ∧
        ∃ us ρ2, lcF gf ft fe vs (ds.drop i) ρ' = .ok us ρ2 ∧ (match lcF gf ft fe vs ds ρ1 with
          | .ok us ρ2 => R.ok us (backP ρ1 ρ2 vs)
          | _ => R.no) = .ok (acc ++ us) (backP ρ1 ρ2 vs), ?_, ?_⟩
      · cases hl : lcF gf ft fe vs ds ρ1 with
        | no => rw [hl] at k; exact k.elim
        | er e ρ2 => rw [hl] at k; exact k.elim
        | ok us ρ2 =>
          refine ⟨ds.length, by simp, Nat.zero_le _, ρ1, Hs0, [], [], Ex.refl _, r0w, upd_same, .nil, n1, Nat.le_refl _, ?_, us, ρ2, by simpa using hl, by simp [hl]⟩
          intro j s ej o hj
          obtain ⟨u, hu⟩ := r0w.own_some ej o hj
          have q := r0w.sl j s ej
          cases s with
          | un => cases o
          | sh d => cases o
          | ow tt0 w =>
            -- an owned name of ρ1 stands elsewhere
            have hjv : j ∉ vs := fun hv => by
              have z : (L2.wipe σ vs)[j]? = some (some (.ref Dl)) := hj
              rw [wipe_get, if_pos hv] at z
              split at z <;> cases z
            have e1 : ∀ ws : List Nat, j ∉ ws → (wipeP ρ1 ws)[j]? = ρ1[j]? := by
              intro ws
              induction ws with
              | nil => intro _; rfl
              | cons w ws ih =>
                intro hw
                unfold wipeP
                rw [get_set_ne (fun e => hw (by simp [e])), ih (fun e => hw (by simp [e]))]
            rw [e1 vs hjv] at ej
            rw [wipe_get, if_neg hjv] at hj
            exact n3 j _ ej rfl hj
      · rintro i m H' ⟨rfl, hi, ρ', Hs', acc, xs, ex', r', hDl, ra, nD, hal, nj, us, ρ2, hl, hfull⟩
        by_cases hlt : i < ds.length
        · have ed : ds[i]? = some ds[i] := List.getElem?_eq_getElem hlt
          have edr : ds.drop i = ds[i] :: ds.drop (i + 1) := by rw [List.drop_eq_getElem_cons hlt]
          rw [edr] at hl
          unfold lcF at hl
          refine .inr ⟨Y.go i _ ed H' (ex'.trans r'.hs), fun H' => ∃ (ρ' : PEnv) (Hs' : Hp) (acc : List D) (xs : List V), Ex Hs0 Hs' ∧ Rel K (wipeP ρ' vs) Hs' Fr (L2.wipe σ vs) H' ∧ H' Dl = some (.lst xs) ∧ RpLr rep Hs' xs acc ∧ Hs' Dl = none ∧ acc.length ≤ i + 1 ∧
            (∀ (j : Nat) (s : SV), (wipeP ρ' vs)[j]? = some s → isOw s = true → (L2.wipe σ vs)[j]? ≠ some (some (.ref Dl))) ∧
            ∃ us ρ2, lcF gf ft fe vs (ds.drop (i + 1)) ρ' = .ok us ρ2 ∧ (match lcF gf ft fe vs ds ρ1 with
              | .ok us ρ2 => R.ok us (backP ρ1 ρ2 vs)
              | _ => R.no) = .ok (acc ++ us) (backP ρ1 ρ2 vs), fun H2 hN => ⟨ds.length - (i + 1), by omega, rfl, hlt, hN⟩, fun x H2 y => ?_⟩
          obtain ⟨Hs2, gw, rx⟩ := Y.yld i _ ed Hs' H' x H2 ex' r'.hs y
          -- the list is in the frame while the turn runs
          have fresh2 : Hs2 Dl = none := gw.n Dl _ hDl nD
          have hDl2 : H2 Dl = some (.lst xs) := gw.h _ _ hDl
          have r2 := r'.grow gw
          have frD : Fr.no Dl := n2
          have rF : Rel K (wipeP ρ' vs) Hs2 (Fr.put Dl (.lst xs)) (L2.wipe σ vs) H2 := by
            refine ⟨r2.len, r2.hs, fun a o ha => ?_, fun a o ha => ?_, r2.od, fun j s ej => ?_, r2.ap⟩
            · replace ha : upd Fr.hp Dl (.lst xs) a = some o := ha
              by_cases hz : a = Dl
              · subst hz
                rw [upd_same] at ha
                rw [hDl2]
                exact ha
              · rw [upd_ne hz] at ha
                exact r2.fr a o ha
            · show upd Fr.hp Dl (.lst xs) a = none
              rw [upd_ne (fun z => by subst z; rw [fresh2] at ha; cases ha)]
              exact r2.dis a o ha
            · have q := r2.sl j s ej
              cases s with
              | un => trivial
              | sh d => exact q
              | ow tt0 w =>
                obtain ⟨a, g1, g2, g3, g4, g5⟩ := q
                refine ⟨a, g1, g2, ⟨?_, g3.2⟩, g4, g5⟩
                show upd Fr.hp Dl (.lst xs) a = none
                rw [upd_ne (fun z => by subst z; exact nj j _ ej rfl g1)]
                exact g3.1
          have back : ∀ {ρ3 : PEnv} {Hs3 : Hp} {H3 : Hp} {σ3 : L2.St}, Rel K ρ3 Hs3 (Fr.put Dl (.lst xs)) σ3 H3 → Rel K ρ3 Hs3 Fr σ3 H3 ∧ Hs3 Dl = none ∧ H3 Dl = some (.lst xs) ∧ (∀ (j : Nat) (s : SV), ρ3[j]? = some s → isOw s = true → σ3[j]? ≠ some (some (.ref Dl))) := fun {ρ3 Hs3 H3 σ3} r3 => by
            have h1 : Hs3 Dl = none := by
              cases hh : Hs3 Dl with
              | none => rfl
              | some o =>
                have : upd Fr.hp Dl (.lst xs) Dl = none := r3.dis Dl o hh
                rw [upd_same] at this
                cases this
            refine ⟨⟨r3.len, r3.hs, fun a o ha => r3.fr a o ?_, fun a o ha => ?_, r3.od, fun j s ej => ?_, r3.ap⟩, h1, r3.fr Dl _ upd_same, fun j s ej o hj => ?_⟩
            · show upd Fr.hp Dl (.lst xs) a = some o
              rw [upd_ne (fun z => by subst z; rw [frD.1] at ha; cases ha)]
              exact ha
            · have q : upd Fr.hp Dl (.lst xs) a = none := r3.dis a o ha
              by_cases hz : a = Dl
              · subst hz
                rw [h1] at ha
                cases ha
              · rw [upd_ne hz] at q
                exact q
            · have q := r3.sl j s ej
              cases s with
              | un => trivial
              | sh d => exact q
              | ow tt0 w =>
                obtain ⟨a, g1, g2, g3, g4, g5⟩ := q
                refine ⟨a, g1, g2, ⟨?_, g3.2⟩, g4, g5⟩
                by_cases hz : a = Dl
                · subst hz
                  exact frD.1
                · have g6 : upd Fr.hp Dl (.lst xs) a = none := g3.1
                  rw [upd_ne hz] at g6
                  exact g6
            · have q := r3.sl j s ej
              cases s with
              | un => cases o
              | sh d => cases o
              | ow tt0 w =>
                obtain ⟨a, g1, g2, g3, g4, g5⟩ := q
                rw [hj] at g1
                cases g1
                have g6 : upd Fr.hp Dl (.lst xs) Dl = none := g3.1
                rw [upd_same] at g6
                cases g6
          cases hgd : gf ds[i] (wipeP ρ' vs) with
          | none => rw [hgd] at hl; cases hl
          | some ρ3 =>
            rw [hgd] at hl
            refine qg _ ρ3 ds[i] Hs2 _ _ H2 x _ rF rx hgd fun σ3 r3 on3 => ⟨(on3 vs hsub).trans (wipe_wipe σ vs), ?_⟩
            refine qt ρ3 Hs2 _ σ3 H2 _ r3 ?_
            dsimp only at hl
            cases ht : ft ρ3 with
            | no => rw [ht] at hl; cases hl
            | er e ρ4 => rw [ht] at hl; cases hl
            | ok c ρ4 =>
              rw [ht] at hl
              intro b Hs4 H4 e4 r4 hb
              have hb : b = c := hb
              subst hb
              have wip4 : L2.wipe σ3 vs = L2.wipe σ vs := (on3 vs hsub).trans (wipe_wipe σ vs)
              have wown : ∀ {ρ5 : PEnv} {σ5 : L2.St}, (∀ (j : Nat) (s : SV), ρ5[j]? = some s → isOw s = true → σ5[j]? ≠ some (some (.ref Dl))) → ∀ (j : Nat) (s : SV), (wipeP ρ5 vs)[j]? = some s → isOw s = true → (L2.wipe σ5 vs)[j]? ≠ some (some (.ref Dl)) := fun {ρ5 σ5} h j s ej o hj => by
                have hjv : j ∉ vs := fun hv => by
                  rw [wipe_get, if_pos hv] at hj
                  split at hj <;> cases hj
                have e1 : ∀ ws : List Nat, j ∉ ws → (wipeP ρ5 ws)[j]? = ρ5[j]? := by
                  intro ws
                  induction ws with
                  | nil => intro _; rfl
                  | cons w ws ih =>
                    intro hw
                    unfold wipeP
                    rw [get_set_ne (fun e => hw (by simp [e])), ih (fun e => hw (by simp [e]))]
                rw [e1 vs hjv] at ej
                rw [wipe_get, if_neg hjv] at hj
                exact h j s ej o hj
              cases b with
              | false =>
                rw [if_neg Bool.false_ne_true]
                obtain ⟨r5, f5, d5, j5⟩ := back r4
                have r6 := r5.wipe vs
                have j6 := wown j5
                rw [wip4] at r6 j6
                exact ⟨ρ4, Hs4, acc, xs, (ex'.trans gw.s).trans e4, r6, d5, (ra.mono hm gw.s).mono hm e4, f5, Nat.le_succ_of_le hal, j6, us, ρ2, hl, hfull⟩
              | true =>
                rw [if_pos rfl]
                refine qe ρ4 Hs4 (Fr.put Dl (.lst xs)) σ3 H4 _ rfl r4 ?_
                dsimp only at hl
                cases he : fe ρ4 with
                | no => rw [he] at hl; cases hl
                | er e ρ5 => rw [he] at hl; cases hl
                | ok v ρ5 =>
                  rw [he] at hl
                  intro yv Hs5 H5 e5 r5 rv
                  dsimp only at hl
                  cases hrest : lcF gf ft fe vs (ds.drop (i + 1)) ρ5 with
                  | no => rw [hrest] at hl; cases hl
                  | er e ρ6 => rw [hrest] at hl; cases hl
                  | ok us2 ρ6 =>
                    rw [hrest] at hl
                    cases hl
                    obtain ⟨r6, f6, d6, j6⟩ := back r5
                    have r7 := r6.wipe vs
                    have j7 := wown j6
                    rw [wip4] at r7 j7
                    have ra2 := ((ra.mono hm gw.s).mono hm e4).mono hm e5
                    refine ⟨xs, d6, lim_lt (by rw [ra2.len]; unfold LIM at *; omega), ρ5, Hs5, acc ++ [v], xs ++ [yv], ((ex'.trans gw.s).trans e4).trans e5, ?_, upd_same, ra2.snoc rv, f6, by simp; omega, j7, us2, _, hrest, by rw [hfull]; simp⟩
                    -- the list grows: nobody else's
                    refine ⟨r7.len, r7.hs.mut f6, r7.fr.mut frD.1, r7.dis, fun b hb => (let ⟨o, ho⟩ := r7.od b hb; ⟨o, by rw [upd_ne (fun z => by subst z; exact frD.2 hb)]; exact ho⟩), fun j s ej => ?_, r7.ap⟩
                    have q := r7.sl j s ej
                    cases s with
                    | un => trivial
                    | sh d => exact q
                    | ow tt0 w =>
                      obtain ⟨a, g1, g2, g3, g4, g5⟩ := q
                      exact ⟨a, g1, g2, g3, g4.mono (Ex.refl _) (upd_ne fun z => by subst z; exact j7 j _ ej rfl g1), g5⟩
        · have ei : i = ds.length := by omega
          subst ei
          rw [List.drop_length] at hl
          cases hl
          refine .inl ⟨Y.stop _ (Nat.le_refl _) H' (ex'.trans r'.hs), ?_⟩
          rw [hfull] at k
          rw [List.append_nil] at k
          -- back to the names ahead of the block
          have wp : ∀ ws : List Nat, ∀ ρ5 : PEnv, backP ρ1 (wipeP ρ5 vs) vs = backP ρ1 (wipeP ρ5 vs) vs := fun _ _ => rfl
          have hlen : (wipeP ρ' vs).length = ρ1.length := by rw [r'.len, wipe_length, r0.len]
          have eqb : backP ρ1 (wipeP ρ' vs) vs = backP ρ1 ρ' vs := by
            have lenb : ∀ (ws : List Nat) (ρ5 : PEnv), (backP ρ1 ρ5 ws).length = ρ5.length := by
              intro ws ρ5
              induction ws with
              | nil => rfl
              | cons w ws ih =>
                unfold backP
                cases ρ1[w]? with
                | none => exact ih
                | some s => show ((backP ρ1 ρ5 ws).set w s).length = _; rw [List.length_set]; exact ih
            have getb : ∀ (ws : List Nat) (ρ5 : PEnv) (j : Nat), ρ5.length = ρ1.length → (backP ρ1 ρ5 ws)[j]? = if j ∈ ws then ρ1[j]? else ρ5[j]? := by
              intro ws ρ5 j hl
              induction ws with
              | nil => simp [backP]
              | cons w ws ih =>
                unfold backP
                cases hw : ρ1[w]? with
                | none =>
                  show (backP ρ1 ρ5 ws)[j]? = _
                  rw [ih]
                  by_cases hj : j = w
                  · subst hj
                    have hlt2 : ¬ j < ρ1.length := fun h => by rw [List.getElem?_eq_getElem h] at hw; cases hw
                    have h5 : ρ5[j]? = none := List.getElem?_eq_none (by omega)
                    simp [hw, h5]
                  · simp [hj]
                | some s =>
                  show ((backP ρ1 ρ5 ws).set w s)[j]? = _
                  rw [List.getElem?_set, lenb, ih]
                  by_cases hj : w = j
                  · subst hj
                    have hlt2 : w < ρ1.length := (List.getElem?_eq_some_iff.mp hw).1
                    have hlt3 : w < ρ5.length := by omega
                    rw [if_pos rfl, if_pos hlt3, if_pos (by simp), hw]
                  · have : j ≠ w := fun e => hj e.symm
                    simp [hj, this]
            have getw : ∀ (ws : List Nat) (j : Nat), j ∉ ws → (wipeP ρ' ws)[j]? = ρ'[j]? := by
              intro ws j
              induction ws with
              | nil => intro _; rfl
              | cons w ws ih =>
                intro hw
                unfold wipeP
                rw [get_set_ne (fun e => hw (by simp [e])), ih (fun e => hw (by simp [e]))]
            apply List.ext_getElem?
            intro j
            rw [getb _ _ _ hlen, getb _ _ _ (by rw [← hlen, wipeP_len])]
            by_cases hj : j ∈ vs
            · simp [hj]
            · simp [hj, getw vs j hj]
          have r8 := Rel.back r0 ex' vs hno r'
          rw [eqb] at r8
          refine k Dl Hs' H' (e0.trans ex') r8 ⟨xs, hDl, ra⟩ nD n2 fun j s ej o hj => ?_
          by_cases hjv : j ∈ vs
          · -- a block's own name is nobody's object
            have q := hno
            unfold noOw at q
            have := List.all_eq_true.mp q j hjv
            have getb : ∀ (ws : List Nat) (ρ5 : PEnv), j ∈ ws → ρ5.length = ρ1.length → (backP ρ1 ρ5 ws)[j]? = some s → ρ1[j]? = some s := by
              intro ws ρ5
              induction ws with
              | nil => intro h; simp at h
              | cons w ws ih =>
                intro h hl hs
                unfold backP at hs
                by_cases hw : w = j
                · subst hw
                  cases h1 : ρ1[w]? with
                  | none =>
                    rw [h1] at hs
                    have hlt2 : ¬ w < ρ1.length := fun h => by rw [List.getElem?_eq_getElem h] at h1; cases h1
                    have lenb : ∀ (ws : List Nat) (ρ5 : PEnv), (backP ρ1 ρ5 ws).length = ρ5.length := by
                      intro ws ρ5
                      induction ws with
                      | nil => rfl
                      | cons w ws ih =>
                        unfold backP
                        cases ρ1[w]? with
                        | none => exact ih
                        | some s => show ((backP ρ1 ρ5 ws).set w s).length = _; rw [List.length_set]; exact ih
                    have hs : (backP ρ1 ρ5 ws)[w]? = some s := hs
                    rw [List.getElem?_eq_none (by rw [lenb]; omega)] at hs
                    cases hs
                  | some s2 =>
                    rw [h1] at hs
                    have hs : ((backP ρ1 ρ5 ws).set w s2)[w]? = some s := hs
                    rw [List.getElem?_set] at hs
                    split at hs
                    · split at hs
                      · exact hs
                      · cases hs
                    · exact absurd rfl ‹_›
                · have hmem : j ∈ ws := by
                    rcases List.mem_cons.mp h with z | z
                    · exact absurd z.symm hw
                    · exact z
                  cases h1 : ρ1[w]? with
                  | none => rw [h1] at hs; exact ih hmem hl hs
                  | some s2 =>
                    rw [h1] at hs
                    have hs : ((backP ρ1 ρ5 ws).set w s2)[j]? = some s := hs
                    rw [get_set_ne hw] at hs
                    exact ih hmem hl hs
            have e9 := getb vs ρ' hjv (by rw [← hlen, wipeP_len]) ej
            rw [e9] at this
            have this : (!isOw s) = true := this
            rw [o] at this
            cases this
          · have getb : ∀ (ws : List Nat) (ρ5 : PEnv), j ∉ ws → (backP ρ1 ρ5 ws)[j]? = ρ5[j]? := by
              intro ws ρ5
              induction ws with
              | nil => intro _; rfl
              | cons w ws ih =>
                intro h
                unfold backP
                cases ρ1[w]? with
                | none => exact ih fun e => h (by simp [e])
                | some s2 =>
                  show ((backP ρ1 ρ5 ws).set w s2)[j]? = _
                  rw [get_set_ne (fun e => h (by simp [e]))]
                  exact ih fun e => h (by simp [e])
            rw [← eqb, getb vs _ hjv] at ej
            refine nj j s ej o ?_
            rw [wipe_get, if_neg hjv]
            exact hj
    · rw [if_neg hc] at k
      exact k.elim
theorem lc_run {K : PySem.W.Frag} {wi : TI} {g : TG} {tt : TT} {te : TE} {vs : List Nat} {fi : FE (List D)} {gf : D → PEnv → Option PEnv} {is : List Nat} {ft : FE Bool} {fe : FE D} (hsub : ∀ i ∈ is, i ∈ vs)
    (qi : ∀ (ρ : PEnv) (Hs : Hp) (Fr : FrT) (σ : L2.St) (H : Hp) (Q : It → Hp → Prop), Rel K ρ Hs Fr σ H → PstI K W Fr σ Hs Q (fi ρ) → wi σ H Q)
    (qg : ∀ (ρ ρ' : PEnv) (d : D) (Hs : Hp) (Fr : FrT) (σ : L2.St) (H : Hp) (v : V) (Q : L2.St → Hp → Prop), Rel K ρ Hs Fr σ H → Rp K Hs v d → gf d ρ = some ρ' → (∀ σ', Rel K ρ' Hs Fr σ' H → Only' is σ σ' → Q σ' H) → g v σ H Q)
    (qt : ∀ (ρ : PEnv) (Hs : Hp) (Fr : FrT) (σ : L2.St) (H : Hp) (Q : Bool → Hp → Prop), Rel K ρ Hs Fr σ H → Pst K W0 Fr σ Hs rB Q (ft ρ) → tt σ H Q)
    (qe : ∀ (ρ : PEnv) (Hs : Hp) (Fr : FrT) (σ : L2.St) (H : Hp) (Q : VK), Rel K ρ Hs Fr σ H → Pst K W0 Fr σ Hs (Rp K) Q (fe ρ) → te σ H Q)
    (ρ : PEnv) (Hs : Hp) (Fr : FrT) (σ : L2.St) (H : Hp) (Q : VK) (rl : Rel K ρ Hs Fr σ H)
    (k : match eLc fi gf ft fe vs ρ with
      | .ok us ρ' => ∀ (Dl : Addr) Hs' H', Ex Hs Hs' → Rel K ρ' Hs' Fr σ H' → (∃ xs, H' Dl = some (.lst xs) ∧ RpL K Hs' xs us) → Hs' Dl = none → Fr.no Dl → (∀ (j : Nat) (s : SV), ρ'[j]? = some s → isOw s = true → σ[j]? ≠ some (some (.ref Dl))) → Q (.ref Dl) H'
      | .er e ρ' => ∀ c dd Hs' H', Ex Hs Hs' → Rel K ρ' Hs' Fr σ H' → ErOk K Hs' e c dd → W c dd σ H'
      | .no => False) : tLc wi g tt te vs σ H Q := by
  refine lc_runR (rep := Rp K) (fun e r => r.mono e) hsub qi qg qt ρ Hs Fr σ H Q (fun ρ Hs Fr' σ H Q _ => qe ρ Hs Fr' σ H Q) rl ?_
  cases hl : eLc fi gf ft fe vs ρ with
  | no => rw [hl] at k; exact k
  | er e ρ1 => rw [hl] at k; exact k
  | ok us ρ1 =>
    rw [hl] at k
    intro Dl Hs' H' e r h
    obtain ⟨xs, h1, h2⟩ := h
    exact k Dl Hs' H' e r ⟨xs, h1, h2.rpl⟩
theorem PstI.mono {K : PySem.W.Frag} {Fr : FrT} {σ : L2.St} {Hs Hs1 : Hp} {Q : It → Hp → Prop} {r : R (List D)} (h : PstI K W Fr σ Hs Q r) (e : Ex Hs Hs1) : PstI K W Fr σ Hs1 Q r := by
  cases r with
  | ok ds ρ' => exact fun J Hs' H' e' => h J Hs' H' (e.trans e')
  | er x ρ' => exact fun c dd Hs' H' e' => h c dd Hs' H' (e.trans e')
  | no => exact h
/-- a list made so, stable -/
def vLc (f : FE (List D)) : FE D := fun ρ => (f ρ).bind fun us ρ => .ok (.lst us) ρ
def oLc (f : FE (List D)) : FE OV := fun ρ => (f ρ).bind fun us ρ => .ok (.l us) ρ
theorem lc_e {wi : TI} {g : TG} {tt : TT} {te : TE} {vs : List Nat} {f : FE (List D)}
    (h : ∀ (ρ : PEnv) (Hs : Hp) (Fr : FrT) (σ : L2.St) (H : Hp) (Q : VK), Rel X.K ρ Hs Fr σ H → (match f ρ with
      | .ok us ρ' => ∀ (Dl : Addr) Hs' H', Ex Hs Hs' → Rel X.K ρ' Hs' Fr σ H' → (∃ xs, H' Dl = some (.lst xs) ∧ RpL X.K Hs' xs us) → Hs' Dl = none → Fr.no Dl → (∀ (j : Nat) (s : SV), ρ'[j]? = some s → isOw s = true → σ[j]? ≠ some (some (.ref Dl))) → Q (.ref Dl) H'
      | .er e ρ' => ∀ c dd Hs' H', Ex Hs Hs' → Rel X.K ρ' Hs' Fr σ H' → ErOk X.K Hs' e c dd → W c dd σ H'
      | .no => False) → tLc wi g tt te vs σ H Q) :
    (∀ (ρ : PEnv) (Hs : Hp) (Fr : FrT) (σ : L2.St) (H : Hp) (Q : VK), Rel X.K ρ Hs Fr σ H → Pst X.K W Fr σ Hs (Rp X.K) Q (vLc f ρ) → tLc wi g tt te vs σ H Q) ∧
    (∀ (ρ : PEnv) (Hs : Hp) (Fr : FrT) (σ : L2.St) (H : Hp) (Q : VK), Rel X.K ρ Hs Fr σ H → PstO X.K W Fr σ Hs Q (oLc f ρ) → tLc wi g tt te vs σ H Q) := by
  refine ⟨fun ρ Hs Fr σ H Q rl q => h ρ Hs Fr σ H Q rl ?_, fun ρ Hs Fr σ H Q rl q => h ρ Hs Fr σ H Q rl ?_⟩
  · unfold vLc at q
    cases hf : f ρ with
    | no => rw [hf] at q; exact q
    | er e ρ1 => rw [hf] at q; exact q
    | ok us ρ1 =>
      rw [hf] at q
      intro Dl Hs1 H1 e1 r1 ⟨xs, hD, ra⟩ n1 n2 n3
      have ex : Ex Hs1 (upd Hs1 Dl (.lst xs)) := Ex.new n1
      have r2 : Rel X.K ρ1 (upd Hs1 Dl (.lst xs)) Fr σ H1 := by
        refine ⟨r1.len, fun b o hb => ?_, r1.fr, fun b o hb => ?_, r1.od, fun j s ej => ?_, r1.ap⟩
        · by_cases hz : b = Dl
          · subst hz
            rw [upd_same] at hb
            rw [hD]
            exact hb
          · rw [upd_ne hz] at hb
            exact r1.hs b o hb
        · by_cases hz : b = Dl
          · subst hz
            exact n2.1
          · rw [upd_ne hz] at hb
            exact r1.dis b o hb
        · have q := r1.sl j s ej
          cases s with
          | un => trivial
          | sh d =>
            obtain ⟨v, g1, g2⟩ := q
            exact ⟨v, g1, g2.mono ex⟩
          | ow tt0 w =>
            obtain ⟨a, g1, g2, g3, g4, g5⟩ := q
            refine ⟨a, g1, ?_, g3, g4.mono ex rfl, g5⟩
            rw [upd_ne (fun z => by subst z; exact n3 j _ ej rfl g1)]
            exact g2
      exact q _ _ H1 (e1.trans ex) r2 (.lst (.inl (.inl upd_same)) (ra.mono ex))
  · unfold oLc at q
    cases hf : f ρ with
    | no => rw [hf] at q; exact q
    | er e ρ1 => rw [hf] at q; exact q
    | ok us ρ1 =>
      rw [hf] at q
      intro Dl Hs1 H1 e1 r1 ⟨xs, hD, ra⟩ n1 n2 n3
      exact q _ Hs1 H1 e1 r1 ⟨Dl, rfl, n1, n2, ⟨xs, hD, ra⟩, n3⟩
/-- the context of a comprehension's block -/
abbrev Bk (X : Cx) (scope : Scope) (s : Shared) (H : Hp) (C : Addr) (cl : List (Str × Addr)) (fp : List Addr) : Cx := X.blk s H scope (compEnvC scope cl C X.env) fp
theorem Gd.blk (g : Gd X W) (scope : Scope) (s : Shared) (H : Hp) (C : Addr) (cl : List (Str × Addr)) (fp : List Addr) : Gd (Bk X scope s H C cl fp) W0 :=
  ⟨fun u s' ⟨_, _, _, _, _, _, _, _, _, _, _, _, _, _, _, _, z⟩ => z.elim, PassesOwn.never, g.calm, g.nd, g.hu⟩
section
variable {scope : Scope} {own : List (Str × Nat)} {is : List Nat} {fi : FE (List D)} {gf : D → PEnv → Option PEnv} {fe : FE D} {ft : FE Bool} {c : Expr}
/-- [elt for tg in iter] -/
theorem lc_all (g : Gd X W) (hi : DI X W tg iter fi) (ok : BlkOk X.N X.env.scope scope own) (hsub : ∀ i ∈ is, i ∈ own.map (·.2))
    (hg : ∀ s H C cl fp, Gd (Bk X scope s H C cl fp) W0 → DG (Bk X scope s H C cl fp) tg is gf)
    (he : ∀ s H C cl fp, Gd (Bk X scope s H C cl fp) W0 → DE (Bk X scope s H C cl fp) W0 elt fe) (hs : ∀ x, foldedSetIterable iter X.env x = pure x) :
    ∃ t, PE X (.ListComp elt [⟨tg, iter, [], 0⟩] scope pos) t ∧
    (∀ (ρ : PEnv) (Hs : Hp) (Fr : FrT) (σ : L2.St) (H : Hp) (Q : VK), Rel X.K ρ Hs Fr σ H → Pst X.K W Fr σ Hs (Rp X.K) Q (vLc (eLc fi gf tYs fe (own.map (·.2))) ρ) → t σ H Q) ∧
    (∀ (ρ : PEnv) (Hs : Hp) (Fr : FrT) (σ : L2.St) (H : Hp) (Q : VK), Rel X.K ρ Hs Fr σ H → PstO X.K W Fr σ Hs Q (oLc (eLc fi gf tYs fe (own.map (·.2))) ρ) → t σ H Q) := by
  obtain ⟨ti, pi, qi⟩ := hi
  refine ⟨_, pe_lc (te := tE X.K W0 fe) (g := tGt X.K is gf) g.calm g.nd pi ok (fun s H C cl fp => (hg s H C cl fp (g.blk ..)).can) (fun _ _ _ _ _ => pts_nil) (fun s H C cl fp => (he s H C cl fp (g.blk ..)).can) hs, ?_⟩
  exact lc_e fun ρ Hs Fr σ H Q rl k => lc_run (ft := tYs) hsub qi (fun ρ ρ' d Hs Fr σ H v Q r rp hg k => ⟨ρ, ρ', d, Hs, Fr, r, rp, hg, k⟩)
    (fun ρ Hs Fr σ H Q r q => q true Hs H (Ex.refl _) r rfl) (fun ρ Hs Fr σ H Q r q => ⟨ρ, Hs, Fr, r, q⟩) ρ Hs Fr σ H Q rl k
/-- [elt for tg in iter if c] -/
theorem lc_if (g : Gd X W) (hi : DI X W tg iter fi) (ok : BlkOk X.N X.env.scope scope own) (hsub : ∀ i ∈ is, i ∈ own.map (·.2))
    (hg : ∀ s H C cl fp, Gd (Bk X scope s H C cl fp) W0 → DG (Bk X scope s H C cl fp) tg is gf)
    (ht : ∀ s H C cl fp, Gd (Bk X scope s H C cl fp) W0 → DT (Bk X scope s H C cl fp) W0 c ft)
    (he : ∀ s H C cl fp, Gd (Bk X scope s H C cl fp) W0 → DE (Bk X scope s H C cl fp) W0 elt fe) (hs : ∀ x, foldedSetIterable iter X.env x = pure x) :
    ∃ t, PE X (.ListComp elt [⟨tg, iter, [c], 0⟩] scope pos) t ∧
    (∀ (ρ : PEnv) (Hs : Hp) (Fr : FrT) (σ : L2.St) (H : Hp) (Q : VK), Rel X.K ρ Hs Fr σ H → Pst X.K W Fr σ Hs (Rp X.K) Q (vLc (eLc fi gf ft fe (own.map (·.2))) ρ) → t σ H Q) ∧
    (∀ (ρ : PEnv) (Hs : Hp) (Fr : FrT) (σ : L2.St) (H : Hp) (Q : VK), Rel X.K ρ Hs Fr σ H → PstO X.K W Fr σ Hs Q (oLc (eLc fi gf ft fe (own.map (·.2))) ρ) → t σ H Q) := by
  obtain ⟨ti, pi, qi⟩ := hi
  refine ⟨_, pe_lc (te := tE X.K W0 fe) (tt := tTs X.K W0 ft) (g := tGt X.K is gf) g.calm g.nd pi ok (fun s H C cl fp => (hg s H C cl fp (g.blk ..)).can) (fun s H C cl fp => pts_one (ht s H C cl fp (g.blk ..)).can) (fun s H C cl fp => (he s H C cl fp (g.blk ..)).can) hs, ?_⟩
  exact lc_e fun ρ Hs Fr σ H Q rl k => lc_run hsub qi (fun ρ ρ' d Hs Fr σ H v Q r rp hg k => ⟨ρ, ρ', d, Hs, Fr, r, rp, hg, k⟩)
    (fun ρ Hs Fr σ H Q r q => ⟨ρ, Hs, Fr, r, q⟩) (fun ρ Hs Fr σ H Q r q => ⟨ρ, Hs, Fr, r, q⟩) ρ Hs Fr σ H Q rl k
end
theorem de_of {e : Expr} {f : FE D} {g : FE OV} (h : ∃ t, PE X e t ∧ (∀ (ρ : PEnv) (Hs : Hp) (Fr : FrT) (σ : L2.St) (H : Hp) (Q : VK), Rel X.K ρ Hs Fr σ H → Pst X.K W Fr σ Hs (Rp X.K) Q (f ρ) → t σ H Q) ∧
    (∀ (ρ : PEnv) (Hs : Hp) (Fr : FrT) (σ : L2.St) (H : Hp) (Q : VK), Rel X.K ρ Hs Fr σ H → PstO X.K W Fr σ Hs Q (g ρ) → t σ H Q)) : DE X W e f := by
  obtain ⟨t, p, q, _⟩ := h
  exact ⟨t, p, q⟩
theorem do_of {e : Expr} {f : FE D} {g : FE OV} (h : ∃ t, PE X e t ∧ (∀ (ρ : PEnv) (Hs : Hp) (Fr : FrT) (σ : L2.St) (H : Hp) (Q : VK), Rel X.K ρ Hs Fr σ H → Pst X.K W Fr σ Hs (Rp X.K) Q (f ρ) → t σ H Q) ∧
    (∀ (ρ : PEnv) (Hs : Hp) (Fr : FrT) (σ : L2.St) (H : Hp) (Q : VK), Rel X.K ρ Hs Fr σ H → PstO X.K W Fr σ Hs Q (g ρ) → t σ H Q)) : DO X W e g := by
  obtain ⟨t, p, _, q⟩ := h
  exact ⟨t, p, q⟩
end
end Fw
end

section
set_option Elab.async false
set_option linter.all false
set_option autoImplicit false
set_option maxRecDepth 100000
set_option maxHeartbeats 4000000
/-! Fw5: names set by a comprehension; objects of one's own read and changed; what becomes stable. -/
namespace Fw
open PySem PySem.Spec PyProof.Rows L2
section
variable {X : Cx} {W : WX} {tg iter elt : Expr} {pos spos : Pos}
/-! ### name = [..] on one line, the name a local -/
theorem asg_of {t : TE} {i : Nat} {f : FE D} (h : ∀ (ρ : PEnv) (Hs : Hp) (Fr : FrT) (σ : L2.St) (H : Hp) (Q : VK), Rel X.K ρ Hs Fr σ H → Pst X.K W Fr σ Hs (Rp X.K) Q (f ρ) → t σ H Q) :
    ∀ (ρ : PEnv) (Hs : Hp) (Fr : FrT) (σ : L2.St) (H : Hp) (Dn : Ends), Rel X.K ρ Hs Fr σ H → PstS X.K W Fr σ Hs Dn (sSet i f ρ) → tAsg t (gName i) Dn σ H := by
  intro ρ Hs Fr σ H Dn rl q
  exact h ρ Hs Fr σ H _ rl (PstS.thn q fun d ρ1 x Hs1 H1 e1 r1 p1 q1 => q1 _ Hs1 H1 (Ex.refl _) (r1.put p1))
theorem asgO_of {t : TE} {i : Nat} {f : FE OV} (h : ∀ (ρ : PEnv) (Hs : Hp) (Fr : FrT) (σ : L2.St) (H : Hp) (Q : VK), Rel X.K ρ Hs Fr σ H → PstO X.K W Fr σ Hs Q (f ρ) → t σ H Q) :
    ∀ (ρ : PEnv) (Hs : Hp) (Fr : FrT) (σ : L2.St) (H : Hp) (Dn : Ends), Rel X.K ρ Hs Fr σ H → PstS X.K W Fr σ Hs Dn (sSetO i f ρ) → tAsg t (gName i) Dn σ H := by
  intro ρ Hs Fr σ H Dn rl q
  refine h ρ Hs Fr σ H _ rl ?_
  unfold sSetO at q
  cases hf : f ρ with
  | no => rw [hf] at q; exact q
  | er e ρ1 => rw [hf] at q; exact fun c dd Hs' H' e' rl eo => q c dd σ Hs' H' e' rl eo
  | ok d ρ1 =>
    rw [hf] at q
    intro v Hs1 H1 e1 r1 o
    obtain ⟨a, rfl, h1, h2, h3, h4⟩ := o.at_
    exact q _ Hs1 H1 e1 (r1.putO h1 h2 h3 h4)
section
variable {scope : Scope} {own : List (Str × Nat)} {is : List Nat} {fi : FE (List D)} {gf : D → PEnv → Option PEnv} {fe : FE D} {ft : FE Bool} {c : Expr} {y : Str} {py : Pos}
theorem slc_all (i : Nat) (g : Gd X W) (hi : DI X W tg iter fi) (ok : BlkOk X.N X.env.scope scope own) (hsub : ∀ i ∈ is, i ∈ own.map (·.2))
    (hg : ∀ s H C cl fp, Gd (Bk X scope s H C cl fp) W0 → DG (Bk X scope s H C cl fp) tg is gf)
    (he : ∀ s H C cl fp, Gd (Bk X scope s H C cl fp) W0 → DE (Bk X scope s H C cl fp) W0 elt fe)
    (hy : X.N[i]? = some y) (hyl : X.env.scope.names.lookup y = some .local) (hsw : swapsWith (.ListComp elt [⟨tg, iter, [], 0⟩] scope pos) (some (.Name y py)) spos.line X.env = pure true) (hs : ∀ x, foldedSetIterable iter X.env x = pure x) :
    DS X W (.Assign [.Name y py] (.ListComp elt [⟨tg, iter, [], 0⟩] scope pos) spos) (sSet i (vLc (eLc fi gf tYs fe (own.map (·.2))))) ∧
    DS X W (.Assign [.Name y py] (.ListComp elt [⟨tg, iter, [], 0⟩] scope pos) spos) (sSetO i (oLc (eLc fi gf tYs fe (own.map (·.2))))) := by
  obtain ⟨ti, pi, qi⟩ := hi
  have P := ps_setLc (te := tE X.K W0 fe) (g := tGt X.K is gf) (i := i) g.calm g.nd hy hyl hsw pi ok (fun s H C cl fp => (hg s H C cl fp (g.blk ..)).can) (fun _ _ _ _ _ => pts_nil) (fun s H C cl fp => (he s H C cl fp (g.blk ..)).can) hs
  have q := lc_e (X := X) (W := W) (wi := ti) (g := tGt X.K is gf) (tt := tYes) (te := tE X.K W0 fe) (vs := own.map (·.2)) (f := eLc fi gf tYs fe (own.map (·.2))) fun ρ Hs Fr σ H Q rl k => lc_run (ft := tYs) hsub qi (fun ρ ρ' d Hs Fr σ H v Q r rp hg k => ⟨ρ, ρ', d, Hs, Fr, r, rp, hg, k⟩)
    (fun ρ Hs Fr σ H Q r q => q true Hs H (Ex.refl _) r rfl) (fun ρ Hs Fr σ H Q r q => ⟨ρ, Hs, Fr, r, q⟩) ρ Hs Fr σ H Q rl k
  exact ⟨⟨_, P, asg_of q.1⟩, ⟨_, P, asgO_of q.2⟩⟩
theorem slc_if (i : Nat) (g : Gd X W) (hi : DI X W tg iter fi) (ok : BlkOk X.N X.env.scope scope own) (hsub : ∀ i ∈ is, i ∈ own.map (·.2))
    (hg : ∀ s H C cl fp, Gd (Bk X scope s H C cl fp) W0 → DG (Bk X scope s H C cl fp) tg is gf)
    (ht : ∀ s H C cl fp, Gd (Bk X scope s H C cl fp) W0 → DT (Bk X scope s H C cl fp) W0 c ft)
    (he : ∀ s H C cl fp, Gd (Bk X scope s H C cl fp) W0 → DE (Bk X scope s H C cl fp) W0 elt fe)
    (hy : X.N[i]? = some y) (hyl : X.env.scope.names.lookup y = some .local) (hsw : swapsWith (.ListComp elt [⟨tg, iter, [c], 0⟩] scope pos) (some (.Name y py)) spos.line X.env = pure true) (hs : ∀ x, foldedSetIterable iter X.env x = pure x) :
    DS X W (.Assign [.Name y py] (.ListComp elt [⟨tg, iter, [c], 0⟩] scope pos) spos) (sSet i (vLc (eLc fi gf ft fe (own.map (·.2))))) ∧
    DS X W (.Assign [.Name y py] (.ListComp elt [⟨tg, iter, [c], 0⟩] scope pos) spos) (sSetO i (oLc (eLc fi gf ft fe (own.map (·.2))))) := by
  obtain ⟨ti, pi, qi⟩ := hi
  have P := ps_setLc (te := tE X.K W0 fe) (tt := tTs X.K W0 ft) (g := tGt X.K is gf) (i := i) g.calm g.nd hy hyl hsw pi ok (fun s H C cl fp => (hg s H C cl fp (g.blk ..)).can) (fun s H C cl fp => pts_one (ht s H C cl fp (g.blk ..)).can) (fun s H C cl fp => (he s H C cl fp (g.blk ..)).can) hs
  have q := lc_e (X := X) (W := W) (wi := ti) (g := tGt X.K is gf) (tt := tTs X.K W0 ft) (te := tE X.K W0 fe) (vs := own.map (·.2)) (f := eLc fi gf ft fe (own.map (·.2))) fun ρ Hs Fr σ H Q rl k => lc_run hsub qi (fun ρ ρ' d Hs Fr σ H v Q r rp hg k => ⟨ρ, ρ', d, Hs, Fr, r, rp, hg, k⟩)
    (fun ρ Hs Fr σ H Q r q => ⟨ρ, Hs, Fr, r, q⟩) (fun ρ Hs Fr σ H Q r q => ⟨ρ, Hs, Fr, r, q⟩) ρ Hs Fr σ H Q rl k
  exact ⟨⟨_, P, asg_of q.1⟩, ⟨_, P, asgO_of q.2⟩⟩
end
/-! ### what becomes stable ahead of an expression, a statement -/
theorem de_frz (i : Nat) {e : Expr} {f : FE D} (h : DE X W e f) : DE X W e (fun ρ => f (frz i ρ)) := by
  obtain ⟨t, p, q⟩ := h
  refine ⟨t, p, fun ρ Hs Fr σ H Q rl k => ?_⟩
  obtain ⟨Hs', ex, r'⟩ := rl.frz i
  exact q _ Hs' Fr σ H Q r' (Pst.mono k ex)
theorem ds_frz (i : Nat) {st : Stmt} {f : FS} (h : DS X W st f) : DS X W st (fun ρ => f (frz i ρ)) := by
  obtain ⟨t, p, q⟩ := h
  refine ⟨t, p, fun ρ Hs Fr σ H Dn rl k => ?_⟩
  obtain ⟨Hs', ex, r'⟩ := rl.frz i
  exact q _ Hs' Fr σ H Dn r' (PstS.mono k ex)
theorem dss_frz (i : Nat) {st : List Stmt} {f : FS} (h : DSs X W st f) : DSs X W st (fun ρ => f (frz i ρ)) := by
  obtain ⟨t, p, q⟩ := h
  refine ⟨t, p, fun ρ Hs Fr σ H Dn rl k => ?_⟩
  obtain ⟨Hs', ex, r'⟩ := rl.frz i
  exact q _ Hs' Fr σ H Dn r' (PstS.mono k ex)
/-! ### objects of one's own: length, items, in -/
def getO (i : Nat) (ρ : PEnv) : Option OV := match ρ[i]? with
  | some (.ow _ w) => some w
  | _ => none
def setO (i : Nat) (w : OV) (ρ : PEnv) : PEnv := match ρ[i]? with
  | some (.ow t _) => ρ.set i (.ow t w)
  | _ => ρ
theorem getO_some {i : Nat} {ρ : PEnv} {w : OV} (h : getO i ρ = some w) : ∃ t, ρ[i]? = some (.ow t w) ∧ ∀ w', setO i w' ρ = ρ.set i (.ow t w') := by
  unfold getO at h
  split at h
  · rename_i t w' e
    cases h
    exact ⟨t, e, fun w' => by unfold setO; rw [e]⟩
  · cases h
def lenO (i : Nat) : FE D := fun ρ => match getO i ρ with
  | some (.l ds) => .ok (.int ds.length) ρ
  | some (.dk ds) => .ok (.int ds.length) ρ
  | some (.dt ds) => .ok (.int ds.length) ρ
  | some (.ld ds) => .ok (.int ds.length) ρ
  | _ => .no
theorem rpa_len {K : PySem.W.Frag} {H : Hp} {κ : Type} {xs : List (κ × V)} {ds : List (κ × D)} (h : RpA K H κ xs ds) : xs.length = ds.length := by
  induction xs generalizing ds with
  | nil => cases h; rfl
  | cons x xs ih => cases h with | cons h1 h2 => simp [ih h2]
def rLenA (K : PySem.W.Frag) : List V → Hp → VK → Prop := fun xs H Q => (∃ x n, xs = [x] ∧ LenV K x H n ∧ Q (.int n) H) ∨ (∃ a kvs, xs = [V.ref a] ∧ H a = some (.dK kvs) ∧ Q (.int kvs.length) H) ∨ rLenT xs H Q
theorem call_lenA : CallR X (.builtin "len") (rLenA X.K) := call_len.or (call_lenD.or call_len_dT)
theorem de_lenO (i : Nat) {x : Str} {p q : Pos} (hv : PE X (.Name x p) (tVar i)) (hg : Gl X "len") (hm : X.mg "len" = none) (he : starEach [(.Name x p : Expr)] X.env = (false, eval (.Name x p) X.env) :: starEach [] X.env := by rfl) (hpl : (backTo pos (starEach [] X.env)).any (·.1) = false := by rfl) :
    DE X W (.Call (.Name "len" q) [.Name x p] [] pos) (lenO i) := by
  refine ⟨_, pe_callB call_lenA hg hm PySem.boot_len (pa_cons hv pa_nil he) (by decide) (by decide) he hpl, fun ρ Hs Fr σ H Q rl k => ?_⟩
  unfold lenO at k
  cases hw : getO i ρ with
  | none => rw [hw] at k; exact k.elim
  | some w =>
    rw [hw] at k
    obtain ⟨a, h1, h2, h3, h4, _⟩ := rl.sl i _ (getO_some hw).choose_spec.1
    cases w with
    | l ds =>
      obtain ⟨xs, g1, g2⟩ := h4
      exact ⟨_, h1, .inl ⟨_, xs.length, rfl, .inl ⟨xs, .inl (.inl g1), rfl⟩, by rw [g2.len]; exact k _ Hs H (Ex.refl _) rl (.int _)⟩⟩
    | dk ds =>
      obtain ⟨xs, g1, g2⟩ := h4
      exact ⟨_, h1, .inr (.inl ⟨_, xs, rfl, g1, by rw [rpa_len g2]; exact k _ Hs H (Ex.refl _) rl (.int _)⟩)⟩
    | dt ds =>
      obtain ⟨xs, g1, g2⟩ := h4
      exact ⟨_, h1, .inr (.inr ⟨_, xs, rfl, g1, by rw [rpa_len g2]; exact k _ Hs H (Ex.refl _) rl (.int _)⟩)⟩
    | ob c fs => exact k.elim
    | ld dss =>
      obtain ⟨as, g1, g2, gy, g3⟩ := h4
      have e : (as.map V.ref).length = dss.length := by rw [g3.rpl.len, List.length_map]
      refine ⟨_, h1, .inl ⟨_, (as.map V.ref).length, rfl, .inl ⟨_, .inl (.inl g1), rfl⟩, ?_⟩⟩
      rw [e]
      exact k _ Hs H (Ex.refl _) rl (.int _)
def atD (ds : List D) (i : Int) : Option D := atI ds i
theorem rpl_atI {K : PySem.W.Frag} {H : Hp} {xs : List V} {ds : List D} (h : RpL K H xs ds) {i : Int} {d : D} (e : atD ds i = some d) : ∃ v, atI xs i = some v ∧ Rp K H v d := by
  unfold atD atI at e
  obtain ⟨j, h1, h2⟩ := Option.bind_eq_some_iff.mp e
  obtain ⟨v, h3, h4⟩ := h.get h2
  refine ⟨v, ?_, h4⟩
  unfold atI
  rw [h.len, h1]
  exact h3
/-- the name stands for an object of one's own; then f; then what is made of both -/
def withO {α : Type} (i : Nat) (f : FE D) (k : OV → D → Option α) : FE α := fun ρ => match getO i ρ with
  | none => .no
  | some _ => (f ρ).bind fun d ρ => match getO i ρ with
    | none => .no
    | some w => liftO (k w d) ρ
theorem own_at {K : PySem.W.Frag} {ρ : PEnv} {Hs : Hp} {Fr : FrT} {σ : L2.St} {H : Hp} (r : Rel K ρ Hs Fr σ H) {i : Nat} {w : OV} (h : getO i ρ = some w) : ∃ a, σ[i]? = some (some (.ref a)) ∧ Hs a = none ∧ Fr.no a ∧ RpO K Fr.od Hs H a w := by
  obtain ⟨a, h1, h2, h3, h4, _⟩ := r.sl i _ (getO_some h).choose_spec.1
  exact ⟨a, h1, h2, h3, h4⟩
theorem Rel.chg {K : PySem.W.Frag} {ρ : PEnv} {Hs : Hp} {Fr : FrT} {σ : L2.St} {H : Hp} (r : Rel K ρ Hs Fr σ H) {i : Nat} {a : Addr} {w w' : OV} {u : HO} (h : getO i ρ = some w) (hs : σ[i]? = some (some (.ref a))) (n : RpO K Fr.od Hs (upd H a u) a w') : Rel K (setO i w' ρ) Hs Fr σ (upd H a u) := by
  obtain ⟨t, e1, e2⟩ := getO_some h
  rw [e2]
  exact r.change e1 hs n
/-- x[e], x a list of one's own -/
def ixL (w : OV) (d : D) : Option D := match w, d with
  | .l ds, .int j => atD ds j
  | _, _ => none
theorem withO_run {α β : Type} {K : PySem.W.Frag} {rep : Hp → β → α → Prop} {i : Nat} {f : FE D} {kk : OV → D → Option α} {t : TE} {Q : β → Hp → Prop} {T : V → V → Hp → Prop} {ρ : PEnv} {Hs : Hp} {Fr : FrT} {σ : L2.St} {H : Hp}
    (qf : ∀ (ρ : PEnv) (Hs : Hp) (Fr : FrT) (σ : L2.St) (H : Hp) (Q : VK), Rel K ρ Hs Fr σ H → Pst K W Fr σ Hs (Rp K) Q (f ρ) → t σ H Q) (rl : Rel K ρ Hs Fr σ H) (k : Pst K W Fr σ Hs rep Q (withO i f kk ρ))
    (fin : ∀ a y w d c ρ1 Hs1 H1, σ[i]? = some (some (.ref a)) → Ex Hs Hs1 → Rel K ρ1 Hs1 Fr σ H1 → getO i ρ1 = some w → Hs1 a = none → Fr.no a → RpO K Fr.od Hs1 H1 a w → Rp K Hs1 y d → kk w d = some c → Pst K W Fr σ Hs1 rep Q (.ok c ρ1) → T (.ref a) y H1) :
    ∃ v, σ[i]? = some (some v) ∧ t σ H fun y H1 => T v y H1 := by
  unfold withO at k
  cases hw : getO i ρ with
  | none => rw [hw] at k; exact k.elim
  | some w0 =>
    rw [hw] at k
    obtain ⟨a, h1, _, _, _⟩ := own_at rl hw
    refine ⟨_, h1, qf ρ Hs Fr σ H _ rl (Pst.bnd k fun d ρ1 y Hs1 H1 e1 r1 p1 q1 => ?_)⟩
    cases hw1 : getO i ρ1 with
    | none => rw [hw1] at q1; exact q1.elim
    | some w =>
      rw [hw1] at q1
      cases hc : kk w d with
      | none => simp only [hc] at q1; exact q1.elim
      | some c =>
        simp only [hc] at q1
        obtain ⟨b, g1, g2, g3, g4⟩ := own_at r1 hw1
        rw [h1] at g1
        cases g1
        exact fin a y w d c ρ1 Hs1 H1 h1 e1 r1 hw1 g2 g3 g4 p1 hc q1
theorem de_ixO (i : Nat) {x : Str} {p : Pos} {e : Expr} {f : FE D} (hv : PE X (.Name x p) (tVar i)) (h : DE X W e f) (hs : PlainIx e) : DE X W (.Subscript (.Name x p) e pos) (withO i f ixL) := by
  obtain ⟨t, pe, q⟩ := h
  refine ⟨_, pe_ix ix_list hv pe hs, fun ρ Hs Fr σ H Q rl k => ?_⟩
  refine withO_run (T := fun v y H1 => rIxL X.K v y H1 Q) q rl k fun a y w d c ρ1 Hs1 H1 hσ e1 r1 hw n1 n2 ro p1 hc q1 => ?_
  unfold ixL at hc
  split at hc
  · rename_i ds j
    obtain ⟨xs, g1, g2⟩ := ro
    obtain ⟨v, hv1, hv2⟩ := rpl_atI g2 hc
    exact ⟨a, xs, j, v, rfl, rp_int p1, .inl (.inl g1), hv1, q1 v Hs1 H1 (Ex.refl _) r1 hv2⟩
  · cases hc
/-! ### keys -/
def toKey : D → Option Key
  | .int i => some (.inl i)
  | .str x => some (.inr x)
  | _ => none
def toKeys : List D → Option (List Key)
  | [] => some []
  | d :: ds => (toKey d).bind fun k => (toKeys ds).bind fun ks => some (k :: ks)
theorem rp_key {K : PySem.W.Frag} {H : Hp} {v : V} {d : D} {k : Key} (r : Rp K H v d) (h : toKey d = some k) : v = kV k := by
  cases d with
  | int i => cases h; exact rp_int r
  | str x => cases h; exact rp_str r
  | _ => cases h
theorem rpl_keys {K : PySem.W.Frag} {H : Hp} : ∀ {vs : List V} {ds : List D} {ks : List Key}, RpL K H vs ds → toKeys ds = some ks → vs = ks.map kV
  | _, [], _, .nil, h => by cases h; rfl
  | _, d :: ds, _, .cons r rs, h => by
    unfold toKeys at h
    obtain ⟨k, h1, h2⟩ := Option.bind_eq_some_iff.mp h
    obtain ⟨ks, h3, h4⟩ := Option.bind_eq_some_iff.mp h2
    cases h4
    rw [List.map_cons, rp_key r h1, rpl_keys rs h3]
def valD {κ : Type} [DecidableEq κ] (kvs : List (κ × D)) (k : κ) : Option D := (kvs.find? fun kv => decide (kv.1 = k)).map (·.2)
def putD {κ : Type} [DecidableEq κ] (kvs : List (κ × D)) (k : κ) (v : D) : List (κ × D) :=
  if (kvs.any fun kv => decide (kv.1 = k)) = true then kvs.map (fun kv => if kv.1 = k then (kv.1, v) else kv) else kvs ++ [(k, v)]
theorem rpa_val {K : PySem.W.Frag} {H : Hp} {κ : Type} [DecidableEq κ] {k : κ} : ∀ {xs : List (κ × V)} {ds : List (κ × D)}, RpA K H κ xs ds → (valV xs k = none ∧ valD ds k = none) ∨ ∃ v d, valV xs k = some v ∧ valD ds k = some d ∧ Rp K H v d
  | _, _, .nil => .inl ⟨rfl, rfl⟩
  | _, _, .cons (k := k') (v := v) (d := d) r rs => by
    by_cases h : k' = k
    · refine .inr ⟨v, d, ?_, ?_, r⟩
      · exact valV_pos h
      · simp [valD, List.find?_cons, h]
    · rcases rpa_val rs with ⟨h1, h2⟩ | ⟨v2, d2, h1, h2, h3⟩
      · refine .inl ⟨by rw [valV_neg h]; exact h1, ?_⟩
        unfold valD at h2 ⊢
        rw [List.find?_cons]
        simp only [h, decide_false]
        exact h2
      · refine .inr ⟨v2, d2, by rw [valV_neg h]; exact h1, ?_, h3⟩
        unfold valD at h2 ⊢
        rw [List.find?_cons]
        simp only [h, decide_false]
        exact h2
theorem rpa_any {K : PySem.W.Frag} {H : Hp} {κ : Type} [DecidableEq κ] {k : κ} : ∀ {xs : List (κ × V)} {ds : List (κ × D)}, RpA K H κ xs ds → (xs.any fun kv => decide (kv.1 = k)) = ds.any fun kv => decide (kv.1 = k)
  | _, _, .nil => rfl
  | _, _, .cons r rs => by rw [List.any_cons, List.any_cons, rpa_any rs]
theorem rpa_map {K : PySem.W.Frag} {H : Hp} {κ : Type} [DecidableEq κ] {k : κ} {v : V} {d : D} (rv : Rp K H v d) : ∀ {xs : List (κ × V)} {ds : List (κ × D)}, RpA K H κ xs ds → RpA K H κ (xs.map fun kv => if kv.1 = k then (kv.1, v) else kv) (ds.map fun kv => if kv.1 = k then (kv.1, d) else kv)
  | _, _, .nil => .nil
  | _, _, .cons (k := k') r rs => by
    rw [List.map_cons, List.map_cons]
    by_cases h : k' = k
    · simp only [h, if_true]
      exact .cons rv (rpa_map rv rs)
    · simp only [h, if_false]
      exact .cons r (rpa_map rv rs)
theorem rpa_app {K : PySem.W.Frag} {H : Hp} {κ : Type} {k : κ} {v : V} {d : D} (rv : Rp K H v d) : ∀ {xs : List (κ × V)} {ds : List (κ × D)}, RpA K H κ xs ds → RpA K H κ (xs ++ [(k, v)]) (ds ++ [(k, d)])
  | _, _, .nil => .cons rv .nil
  | _, _, .cons r rs => .cons r (rpa_app rv rs)
theorem rpa_put {K : PySem.W.Frag} {H : Hp} {κ : Type} [DecidableEq κ] {k : κ} {v : V} {d : D} (rv : Rp K H v d) {xs : List (κ × V)} {ds : List (κ × D)} (r : RpA K H κ xs ds) : RpA K H κ (putK xs k v) (putD ds k d) := by
  unfold putK putD
  rw [rpa_any r]
  split
  · exact rpa_map rv r
  · exact rpa_app rv r
/-- a dict of one's own at a key -/
def dicAt (w : OV) (d : D) : Option (Option D) := match w with
  | .dk kvs => (toKey d).map fun k => valD kvs k
  | .dt kvs => match d with
    | .tup ds => (toKeys ds).map fun k => valD kvs k
    | _ => none
  | _ => none
theorem dget_of {K : PySem.W.Frag} {od : Addr → Prop} {Hs H : Hp} {a : Addr} {w : OV} {y : V} {d : D} {o : Option D} (ex : Ex Hs H) (ro : RpO K od Hs H a w) (r : Rp K Hs y d) (h : dicAt w d = some o) : ∃ ov, DGet H a y ov ∧ ((ov = none ∧ o = none) ∨ ∃ v d, ov = some v ∧ o = some d ∧ Rp K Hs v d) := by
  cases w with
  | l ds => cases h
  | ob c fs => cases h
  | ld dss => cases h
  | dk kvs =>
    obtain ⟨k, h1, h2⟩ := Option.map_eq_some_iff.mp (show (toKey d).map (fun k => valD kvs k) = some o from h)
    obtain ⟨xs, g1, g2⟩ := ro
    refine ⟨valV xs k, by rw [rp_key r h1]; exact DGet.k g1, ?_⟩
    rcases rpa_val (k := k) g2 with ⟨z1, z2⟩ | ⟨v, d2, z1, z2, z3⟩
    · exact .inl ⟨z1, by rw [← h2, z2]⟩
    · exact .inr ⟨v, d2, z1, by rw [← h2, z2], z3⟩
  | dt kvs =>
    cases d with
    | tup ds =>
      obtain ⟨k, h1, h2⟩ := Option.map_eq_some_iff.mp (show (toKeys ds).map (fun k => valD kvs k) = some o from h)
      obtain ⟨xs, g1, g2⟩ := ro
      cases r with
      | tup t1 t2 =>
        have e := rpl_keys t2 h1
        subst e
        refine ⟨valV xs k, DGet.t g1 (ex _ _ t1), ?_⟩
        rcases rpa_val (k := k) g2 with ⟨z1, z2⟩ | ⟨v, d2, z1, z2, z3⟩
        · exact .inl ⟨z1, by rw [← h2, z2]⟩
        · exact .inr ⟨v, d2, z1, by rw [← h2, z2], z3⟩
    | _ => cases h
def getD (w : OV) (d : D) : Option D := (dicAt w d).bind id
theorem de_getO (i : Nat) {x : Str} {p : Pos} {e : Expr} {f : FE D} (g : Gd X W) (hv : PE X (.Name x p) (tVar i)) (h : DE X W e f) (hs : NoSl e) : DE X W (.Subscript (.Name x p) e pos) (withO i f getD) := by
  obtain ⟨t, pe, q⟩ := h
  refine ⟨_, pe_dget (by have := g.hu; omega) hv pe hs, fun ρ Hs Fr σ H Q rl k => ?_⟩
  refine withO_run (T := fun x y H2 => ∃ a v, x = .ref a ∧ DGet H2 a y (some v) ∧ Q v H2) q rl k fun a y w d c ρ1 Hs1 H1 hσ e1 r1 hw n1 n2 ro p1 hc q1 => ?_
  unfold getD at hc
  obtain ⟨o, h1, h2⟩ := Option.bind_eq_some_iff.mp hc
  obtain ⟨ov, h3, h4⟩ := dget_of r1.hs ro p1 h1
  have h2 : o = some c := h2
  subst h2
  rcases h4 with ⟨_, z⟩ | ⟨v, d2, rfl, z, rv⟩
  · cases z
  · cases z
    exact ⟨a, v, rfl, h3, q1 v Hs1 H1 (Ex.refl _) r1 rv⟩
/-- e in x, e not in x; x a dict of one's own -/
def inO (neg : Bool) (i : Nat) (f : FE D) : FE D := fun ρ => (f ρ).bind fun d ρ => match getO i ρ with
  | none => .no
  | some w => match dicAt w d with
    | some o => .ok (.bl (if neg then !o.isSome else o.isSome)) ρ
    | none => .no
theorem inO_run {neg : Bool} {i : Nat} {f : FE D} {t : TE} (qf : ∀ (ρ : PEnv) (Hs : Hp) (Fr : FrT) (σ : L2.St) (H : Hp) (Q : VK), Rel X.K ρ Hs Fr σ H → Pst X.K W Fr σ Hs (Rp X.K) Q (f ρ) → t σ H Q) :
    ∀ (ρ : PEnv) (Hs : Hp) (Fr : FrT) (σ : L2.St) (H : Hp) (Q : VK), Rel X.K ρ Hs Fr σ H → Pst X.K W Fr σ Hs (Rp X.K) Q (inO neg i f ρ) → t σ H fun y H1 => tVar i σ H1 fun x H2 => ∃ a o, x = .ref a ∧ DGet H2 a y o ∧ Q (.bl (if neg then !o.isSome else o.isSome)) H2 := by
  intro ρ Hs Fr σ H Q rl k
  refine qf ρ Hs Fr σ H _ rl (Pst.bnd k fun d ρ1 y Hs1 H1 e1 r1 p1 q1 => ?_)
  cases hw : getO i ρ1 with
  | none => simp only [hw] at q1; exact q1.elim
  | some w =>
    simp only [hw] at q1
    obtain ⟨a, g1, g2, g3, g4⟩ := own_at r1 hw
    cases hd : dicAt w d with
    | none => simp only [hd] at q1; exact q1.elim
    | some o =>
      simp only [hd] at q1
      obtain ⟨ov, h3, h4⟩ := dget_of r1.hs g4 p1 hd
      refine ⟨_, g1, a, ov, rfl, h3, ?_⟩
      have e : ov.isSome = o.isSome := by
        rcases h4 with ⟨rfl, rfl⟩ | ⟨v, d2, rfl, rfl, _⟩ <;> rfl
      rw [e]
      exact q1 _ Hs1 H1 (Ex.refl _) r1 (.bl _)
theorem de_inO (i : Nat) {x : Str} {p : Pos} {e : Expr} {f : FE D} (g : Gd X W) (hv : PE X (.Name x p) (tVar i)) (h : DE X W e f) (h1 : behindInMarks .In (.Name x p) = false := by rfl) : DE X W (.Compare e [.In] [.Name x p] pos) (inO false i f) := by
  obtain ⟨t, pe, q⟩ := h
  exact ⟨_, pe_cmp (pc_din (by have := g.hu; omega) pe hv) h1, inO_run q⟩
theorem de_notInO (i : Nat) {x : Str} {p : Pos} {e : Expr} {f : FE D} (g : Gd X W) (hv : PE X (.Name x p) (tVar i)) (h : DE X W e f) (h1 : behindInMarks .NotIn (.Name x p) = false := by rfl) : DE X W (.Compare e [.NotIn] [.Name x p] pos) (inO true i f) := by
  obtain ⟨t, pe, q⟩ := h
  exact ⟨_, pe_cmp (pc_dnotin (by have := g.hu; omega) pe hv) h1, inO_run q⟩
theorem tB_run {t : TE} {f : FE D} (qf : ∀ (ρ : PEnv) (Hs : Hp) (Fr : FrT) (σ : L2.St) (H : Hp) (Q : VK), Rel X.K ρ Hs Fr σ H → Pst X.K W Fr σ Hs (Rp X.K) Q (f ρ) → t σ H Q) :
    ∀ (ρ : PEnv) (Hs : Hp) (Fr : FrT) (σ : L2.St) (H : Hp) (Q : Bool → Hp → Prop), Rel X.K ρ Hs Fr σ H → Pst X.K W Fr σ Hs rB Q (tV f ρ) → tB t σ H Q := by
  intro ρ Hs Fr σ H Q rl q
  refine qf ρ Hs Fr σ H _ rl (Pst.bnd q fun d ρ1 x Hs1 H1 e1 r1 p1 q1 => ?_)
  cases d with
  | bl b => exact ⟨b, rp_bl p1, q1 b Hs1 H1 (Ex.refl _) r1 rfl⟩
  | _ => exact q1.elim
theorem dt_inO (i : Nat) {x : Str} {p : Pos} {e : Expr} {f : FE D} (g : Gd X W) (hv : PE X (.Name x p) (tVar i)) (h : DE X W e f) (h1 : behindInMarks .In (.Name x p) = false := by rfl) : DT X W (.Compare e [.In] [.Name x p] pos) (tV (inO false i f)) := by
  obtain ⟨t, pe, q⟩ := h
  exact ⟨_, pt_cmp (pc_din (by have := g.hu; omega) pe hv) h1, tB_run (inO_run q)⟩
theorem dt_notInO (i : Nat) {x : Str} {p : Pos} {e : Expr} {f : FE D} (g : Gd X W) (hv : PE X (.Name x p) (tVar i)) (h : DE X W e f) (h1 : behindInMarks .NotIn (.Name x p) = false := by rfl) : DT X W (.Compare e [.NotIn] [.Name x p] pos) (tV (inO true i f)) := by
  obtain ⟨t, pe, q⟩ := h
  exact ⟨_, pt_cmp (pc_dnotin (by have := g.hu; omega) pe hv) h1, tB_run (inO_run q)⟩
/-! ### changes -/
def isL : OV → Bool
  | .l _ => true
  | _ => false
/-- x.append(e) -/
def appL (w : OV) (as : List D) : Option (OV × D) := match w, as with
  | .l ds, [d] => if ds.length < LIM then some (.l (ds ++ [d]), .non) else none
  | _, _ => none
/-- x.insert(i, e), i not below 0 -/
def insL (w : OV) (as : List D) : Option (OV × D) := match w, as with
  | .l ds, [.int i, d] => if ds.length < LIM ∧ 0 ≤ i ∧ i < 2 ^ 63 then some (.l (ds.take i.toNat ++ [d] ++ ds.drop i.toNat), .non) else none
  | _, _ => none
/-- x.pop(i) -/
def popL (w : OV) (as : List D) : Option (OV × D) := match w, as with
  | .l ds, [.int i] => if -(2 ^ 63) ≤ i ∧ i < 2 ^ 63 then match seqIndex? i ds.length with
      | some k => match ds[k]? with
        | some d => some (.l (ds.eraseIdx k), d)
        | none => none
      | none => none
    else none
  | _, _ => none
/-- a method of the list that the name i has of its own -/
def mL (i : Nat) (f : FE (List D)) (kk : OV → List D → Option (OV × D)) : FE D := fun ρ => match getO i ρ with
  | some (.l _) => (f ρ).bind fun as ρ => match getO i ρ with
    | none => .no
    | some w => match kk w as with
      | none => .no
      | some (w', d) => .ok d (setO i w' ρ)
  | _ => .no
theorem mL_run {i : Nat} {f : FE (List D)} {kk : OV → List D → Option (OV × D)} {r : V → List V → Hp → VK → Prop} {ta : TA} {tv : TE} (hv : tv = tVar i)
    (qf : ∀ (ρ : PEnv) (Hs : Hp) (Fr : FrT) (σ : L2.St) (H : Hp) (Q : List V → Hp → Prop), Rel X.K ρ Hs Fr σ H → Pst X.K W Fr σ Hs (RpL X.K) Q (f ρ) → ta σ H Q)
    (fin : ∀ (od : Addr → Prop) a ys w as w' d Hs1 H1 (Q : VK), Ex Hs1 H1 → RpO X.K od Hs1 H1 a w → RpL X.K Hs1 ys as → kk w as = some (w', d) → (∀ u v, RpO X.K od Hs1 (upd H1 a u) a w' → Rp X.K Hs1 v d → Q v (upd H1 a u)) → r (.ref a) ys H1 Q) :
    ∀ (ρ : PEnv) (Hs : Hp) (Fr : FrT) (σ : L2.St) (H : Hp) (Q : VK), Rel X.K ρ Hs Fr σ H → Pst X.K W Fr σ Hs (Rp X.K) Q (mL i f kk ρ) → tBM X.K "list" r tv ta σ H Q := by
  subst hv
  intro ρ Hs Fr σ H Q rl k
  unfold mL at k
  cases hw : getO i ρ with
  | none => rw [hw] at k; exact k.elim
  | some w0 =>
    rw [hw] at k
    obtain ⟨a, h1, _, _, h4⟩ := own_at rl hw
    cases w0 with
    | l ds =>
      obtain ⟨xs, g1, _⟩ := h4
      refine ⟨_, h1, .inl ⟨rfl, xs, .inl (.inl g1)⟩, qf ρ Hs Fr σ H _ rl (Pst.bnd k fun as ρ1 ys Hs1 H1 e1 r1 p1 q1 => ?_)⟩
      cases hw1 : getO i ρ1 with
      | none => simp only [hw1] at q1; exact q1.elim
      | some w =>
        simp only [hw1] at q1
        cases hc : kk w as with
        | none => simp only [hc] at q1; exact q1.elim
        | some wd =>
          obtain ⟨w', d⟩ := wd
          simp only [hc] at q1
          obtain ⟨b, g1, g2, g3, g4⟩ := own_at r1 hw1
          rw [h1] at g1
          cases g1
          exact fin _ a ys w as w' d Hs1 H1 Q r1.hs g4 p1 hc fun u v hu rv => q1 v Hs1 _ (Ex.refl _) (r1.chg hw1 h1 hu) rv
    | _ => exact k.elim
theorem fin_app : ∀ (od : Addr → Prop) a ys w as w' d Hs1 H1 (Q : VK), Ex Hs1 H1 → RpO X.K od Hs1 H1 a w → RpL X.K Hs1 ys as → appL w as = some (w', d) → (∀ u v, RpO X.K od Hs1 (upd H1 a u) a w' → Rp X.K Hs1 v d → Q v (upd H1 a u)) → rAppend (.ref a) ys H1 Q := by
  intro od a ys w as w' d Hs1 H1 Q ex ro rs hc fin
  unfold appL at hc
  split at hc
  · rename_i ds d0
    split at hc
    · rename_i hl
      cases hc
      obtain ⟨xs, g1, g2⟩ := ro
      obtain ⟨y, rfl, ry⟩ := rpl1 rs
      exact ⟨a, xs, y, rfl, rfl, g1, lim_lt (by rw [g2.len]; exact hl), fin _ _ ⟨_, upd_same, g2.append (.one ry)⟩ .non⟩
    · cases hc
  · cases hc
abbrev rIns : V → List V → Hp → VK → Prop := fun x vs H Q => ∃ (l : Addr) (xs : List V) (i : Int) (y : V), x = .ref l ∧ vs = [.int i, y] ∧ H l = some (.lst xs) ∧ xs.length < sizeLine ∧ 0 ≤ i ∧ i < 2 ^ 63 ∧
    Q .non (upd H l (.lst (xs.take i.toNat ++ [y] ++ xs.drop i.toNat)))
theorem fin_ins : ∀ (od : Addr → Prop) a ys w as w' d Hs1 H1 (Q : VK), Ex Hs1 H1 → RpO X.K od Hs1 H1 a w → RpL X.K Hs1 ys as → insL w as = some (w', d) → (∀ u v, RpO X.K od Hs1 (upd H1 a u) a w' → Rp X.K Hs1 v d → Q v (upd H1 a u)) → rIns (.ref a) ys H1 Q := by
  intro od a ys w as w' d Hs1 H1 Q ex ro rs hc fin
  unfold insL at hc
  split at hc
  · rename_i ds i d0
    split at hc
    · rename_i hl
      cases hc
      obtain ⟨xs, g1, g2⟩ := ro
      obtain ⟨x, y, rfl, rx, ry⟩ := rpl2 rs
      have := rp_int rx
      subst this
      exact ⟨a, xs, i, y, rfl, rfl, g1, lim_lt (by rw [g2.len]; exact hl.1), hl.2.1, hl.2.2, fin _ _ ⟨_, upd_same, ((g2.take _).append (.one ry)).append (g2.drop _)⟩ .non⟩
    · cases hc
  · cases hc
theorem rpl_erase {K : PySem.W.Frag} {H : Hp} {xs : List V} {ds : List D} (h : RpL K H xs ds) (n : Nat) : RpL K H (xs.eraseIdx n) (ds.eraseIdx n) := by
  induction xs generalizing ds n with
  | nil => cases h; exact .nil
  | cons x xs ih =>
    cases h with
    | cons h1 h2 =>
      cases n with
      | zero => exact h2
      | succ n => exact .cons h1 (ih h2 n)
theorem fin_pop : ∀ (od : Addr → Prop) a ys w as w' d Hs1 H1 (Q : VK), Ex Hs1 H1 → RpO X.K od Hs1 H1 a w → RpL X.K Hs1 ys as → popL w as = some (w', d) → (∀ u v, RpO X.K od Hs1 (upd H1 a u) a w' → Rp X.K Hs1 v d → Q v (upd H1 a u)) → rPopAt (.ref a) ys H1 Q := by
  intro od a ys w as w' d Hs1 H1 Q ex ro rs hc fin
  unfold popL at hc
  split at hc
  · rename_i ds i
    split at hc
    · rename_i hl
      split at hc
      · rename_i k hk
        split at hc
        · rename_i d0 hd
          cases hc
          obtain ⟨xs, g1, g2⟩ := ro
          obtain ⟨x, rfl, rx⟩ := rpl1 rs
          have := rp_int rx
          subst this
          obtain ⟨v, hv, rv⟩ := g2.get hd
          exact ⟨a, xs, i, k, v, rfl, rfl, g1, hl.1, hl.2, by rw [g2.len]; exact hk, hv, fin _ _ ⟨_, upd_same, rpl_erase g2 k⟩ rv⟩
        · cases hc
      · cases hc
    · cases hc
  · cases hc
section
variable {i : Nat} {x : Str} {p apos cpos : Pos} {e : Expr} {es : List Expr} {f : FE (List D)}
theorem de_app (i : Nat) (hv : PE X (.Name x p) (tVar i)) (h : DA X W (e :: es) f)
    (hbase : attributeBase (.Name x p) "append" X.env (eval (.Name x p) X.env) = eval (.Name x p) X.env := by rfl)
    (hfew : ((backTo cpos (starEach (e :: es) X.env)).all (fun x => !x.1) && (backToKw cpos (keywordEach [] X.env)).all (fun x => x.1.isSome)
      && decide ((e :: es).length + ([] : List Keyword).length + (if ([] : List Keyword).isEmpty then 0 else 1) < 30)) = true := by rfl)
    (hline : (apos.endLine == cpos.line) = true := by rfl) (hs : starEach (e :: es) X.env = (false, eval e X.env) :: starEach es X.env := by rfl) (hplain : (backTo cpos (starEach es X.env)).any (·.1) = false := by rfl) :
    DE X W (.Call (.Attribute (.Name x p) "append" apos) (e :: es) [] cpos) (mL i f appL) := by
  obtain ⟨t, pe, q⟩ := h
  exact ⟨_, pe_bm PySem.F.plainAttrs_list PySem.F.slot_list_append PySem.F.type_list_append mt_append hv pe hbase hfew hline hs hplain, mL_run rfl q fin_app⟩
theorem de_ins (i : Nat) (hv : PE X (.Name x p) (tVar i)) (h : DA X W (e :: es) f)
    (hbase : attributeBase (.Name x p) "insert" X.env (eval (.Name x p) X.env) = eval (.Name x p) X.env := by rfl)
    (hfew : ((backTo cpos (starEach (e :: es) X.env)).all (fun x => !x.1) && (backToKw cpos (keywordEach [] X.env)).all (fun x => x.1.isSome)
      && decide ((e :: es).length + ([] : List Keyword).length + (if ([] : List Keyword).isEmpty then 0 else 1) < 30)) = true := by rfl)
    (hline : (apos.endLine == cpos.line) = true := by rfl) (hs : starEach (e :: es) X.env = (false, eval e X.env) :: starEach es X.env := by rfl) (hplain : (backTo cpos (starEach es X.env)).any (·.1) = false := by rfl) :
    DE X W (.Call (.Attribute (.Name x p) "insert" apos) (e :: es) [] cpos) (mL i f insL) := by
  obtain ⟨t, pe, q⟩ := h
  exact ⟨_, pe_bm PySem.F.plainAttrs_list PySem.F.slot_list_insert PySem.F.type_list_insert mt_insert hv pe hbase hfew hline hs hplain, mL_run rfl q fin_ins⟩
theorem de_pop (i : Nat) (hv : PE X (.Name x p) (tVar i)) (h : DA X W (e :: es) f)
    (hbase : attributeBase (.Name x p) "pop" X.env (eval (.Name x p) X.env) = eval (.Name x p) X.env := by rfl)
    (hfew : ((backTo cpos (starEach (e :: es) X.env)).all (fun x => !x.1) && (backToKw cpos (keywordEach [] X.env)).all (fun x => x.1.isSome)
      && decide ((e :: es).length + ([] : List Keyword).length + (if ([] : List Keyword).isEmpty then 0 else 1) < 30)) = true := by rfl)
    (hline : (apos.endLine == cpos.line) = true := by rfl) (hs : starEach (e :: es) X.env = (false, eval e X.env) :: starEach es X.env := by rfl) (hplain : (backTo cpos (starEach es X.env)).any (·.1) = false := by rfl) :
    DE X W (.Call (.Attribute (.Name x p) "pop" apos) (e :: es) [] cpos) (mL i f popL) := by
  obtain ⟨t, pe, q⟩ := h
  exact ⟨_, pe_bm PySem.F.plainAttrs_list PySem.F.slot_list_pop PySem.F.type_list_pop mt_popAt hv pe hbase hfew hline hs hplain, mL_run rfl q fin_pop⟩
end
/-! ### x[i] = e -/
/-- the value, then the name's object, then the place -/
def sPut (i : Nat) (fv fi : FE D) (kk : OV → D → D → Option OV) : FS := fun ρ => (fv ρ).then fun d ρ => match getO i ρ with
  | none => .no
  | some _ => (fi ρ).then fun j ρ => match getO i ρ with
    | none => .no
    | some w => match kk w j d with
      | none => .no
      | some w' => .nx (setO i w' ρ)
theorem sPut_run {i : Nat} {fv fi : FE D} {kk : OV → D → D → Option OV} {tv ti : TE} {T : V → V → V → Hp → (Hp → Prop) → Prop}
    (qv : ∀ (ρ : PEnv) (Hs : Hp) (Fr : FrT) (σ : L2.St) (H : Hp) (Q : VK), Rel X.K ρ Hs Fr σ H → Pst X.K W Fr σ Hs (Rp X.K) Q (fv ρ) → tv σ H Q)
    (qi : ∀ (ρ : PEnv) (Hs : Hp) (Fr : FrT) (σ : L2.St) (H : Hp) (Q : VK), Rel X.K ρ Hs Fr σ H → Pst X.K W Fr σ Hs (Rp X.K) Q (fi ρ) → ti σ H Q)
    (fin : ∀ (od : Addr → Prop) a y v w j d w' Hs1 H1 (Q : Hp → Prop), Ex Hs1 H1 → RpO X.K od Hs1 H1 a w → Rp X.K Hs1 y j → Rp X.K Hs1 v d → kk w j d = some w' → (∀ u, RpO X.K od Hs1 (upd H1 a u) a w' → Q (upd H1 a u)) → T (.ref a) y v H1 Q) :
    ∀ (ρ : PEnv) (Hs : Hp) (Fr : FrT) (σ : L2.St) (H : Hp) (Dn : Ends), Rel X.K ρ Hs Fr σ H → PstS X.K W Fr σ Hs Dn (sPut i fv fi kk ρ) → tv σ H fun v H1 => tVar i σ H1 fun o H2 => ti σ H2 fun y H3 => T o y v H3 fun H4 => Dn.nx σ H4 := by
  intro ρ Hs Fr σ H Dn rl k
  refine qv ρ Hs Fr σ H _ rl (PstS.thn k fun d ρ1 v Hs1 H1 e1 r1 p1 q1 => ?_)
  cases hw : getO i ρ1 with
  | none => rw [hw] at q1; exact q1.elim
  | some w0 =>
    rw [hw] at q1
    obtain ⟨a, h1, _, _, _⟩ := own_at r1 hw
    refine ⟨_, h1, qi ρ1 Hs1 Fr σ H1 _ r1 (PstS.thn q1 fun j ρ2 y Hs2 H2 e2 r2 p2 q2 => ?_)⟩
    cases hw1 : getO i ρ2 with
    | none => rw [hw1] at q2; exact q2.elim
    | some w =>
      rw [hw1] at q2
      cases hc : kk w j d with
      | none => simp only [hc] at q2; exact q2.elim
      | some w' =>
        simp only [hc] at q2
        obtain ⟨b, g1, g2, g3, g4⟩ := own_at r2 hw1
        rw [h1] at g1
        cases g1
        exact fin _ a y v w j d w' Hs2 H2 _ r2.hs g4 p2 (p1.mono e2) hc fun u hu => q2 σ Hs2 _ (Ex.refl _) (r2.chg hw1 h1 hu)
def setL (w : OV) (j d : D) : Option OV := match w, j with
  | .l ds, .int i => (ixN ds.length i).map fun k => .l (ds.set k d)
  | _, _ => none
theorem ds_setL (i : Nat) {x : Str} {p pos' : Pos} {e ie : Expr} {fv fi : FE D} (hv : PE X (.Name x p) (tVar i)) (he : DE X W e fv) (hi : DE X W ie fi)
    (ha : ∀ v, assign (.Subscript (.Name x p) ie pos') X.env v = (do
      let ov ← holding [v] (eval (.Name x p) X.env)
      let iv ← holding [v, ov] (eval ie X.env)
      standAt pos'
      holding [v, ov, iv] (setItem ov iv v)
      release [v, ov, iv] []) := by intro _; rfl)
    (hs : swapsWithSole [.Subscript (.Name x p) ie pos'] e pos.line X.env = pure false := by rfl) (hw : swappedStores [.Subscript (.Name x p) ie pos'] e X.env = pure none := by rfl)
    (h1 : (assignEach [.Subscript (.Name x p) ie pos'] X.env).map (·.2) = [assign (.Subscript (.Name x p) ie pos') X.env] := by rfl) :
    DS X W (.Assign [.Subscript (.Name x p) ie pos'] e pos) (sPut i fv fi setL) := by
  obtain ⟨te, pe, qe⟩ := he
  obtain ⟨ti, pi, qi⟩ := hi
  refine ⟨_, ps_asg pe (pg_sub hv pi set_list ha) hs hw h1, fun ρ Hs Fr σ H Dn rl k => ?_⟩
  refine sPut_run (T := fun o y v H Q => rSetL o y v H Q) qe qi (fun od a y v w j d w' Hs1 H1 Q ex ro rj rv hc fin => ?_) ρ Hs Fr σ H Dn rl k
  unfold setL at hc
  split at hc
  · rename_i ds j
    obtain ⟨kx, hk, rfl⟩ := Option.map_eq_some_iff.mp hc
    obtain ⟨xs, g1, g2⟩ := ro
    have := rp_int rj
    subst this
    exact ⟨a, xs, j, kx, rfl, rfl, g1, by rw [g2.len]; exact hk, fin _ ⟨_, upd_same, g2.set kx rv⟩⟩
  · cases hc
def putO (w : OV) (j d : D) : Option OV := match w with
  | .dk kvs => if kvs.length < LIM then (toKey j).map fun k => .dk (putD kvs k d) else none
  | .dt kvs => match j with
    | .tup ds => if kvs.length < LIM then (toKeys ds).map fun k => .dt (putD kvs k d) else none
    | _ => none
  | _ => none
theorem ds_put (i : Nat) {x : Str} {p pos' : Pos} {e ie : Expr} {fv fi : FE D} (g : Gd X W) (hv : PE X (.Name x p) (tVar i)) (he : DE X W e fv) (hi : DE X W ie fi)
    (hs : swapsWith e (some (.Subscript (.Name x p) ie pos')) pos.line X.env = pure false := by rfl) :
    DS X W (.Assign [.Subscript (.Name x p) ie pos'] e pos) (sPut i fv fi putO) := by
  obtain ⟨te, pe, qe⟩ := he
  obtain ⟨ti, pi, qi⟩ := hi
  refine ⟨_, ps_dput (by have := g.hu; omega) hv pi pe hs, fun ρ Hs Fr σ H Dn rl k => ?_⟩
  refine sPut_run (T := fun o y v H Q => ∃ a H4, o = .ref a ∧ DPut H a y v H4 ∧ Q H4) qe qi (fun od a y v w j d w' Hs1 H1 Q ex ro rj rv hc fin => ?_) ρ Hs Fr σ H Dn rl k
  cases w with
  | l ds => cases hc
  | ob c fs => cases hc
  | ld dss => cases hc
  | dk kvs =>
    have hc : (if kvs.length < LIM then (toKey j).map fun k => OV.dk (putD kvs k d) else none) = some w' := hc
    split at hc
    · rename_i hl
      obtain ⟨kx, hk, rfl⟩ := Option.map_eq_some_iff.mp hc
      obtain ⟨xs, g1, g2⟩ := ro
      have := rp_key rj hk
      subst this
      exact ⟨a, _, rfl, DPut.k g1 (lim_lt (by rw [rpa_len g2]; exact hl)), fin _ ⟨_, upd_same, rpa_put rv g2⟩⟩
    · cases hc
  | dt kvs =>
    cases j with
    | tup ds =>
      have hc : (if kvs.length < LIM then (toKeys ds).map fun k => OV.dt (putD kvs k d) else none) = some w' := hc
      split at hc
      · rename_i hl
        obtain ⟨kx, hk, rfl⟩ := Option.map_eq_some_iff.mp hc
        obtain ⟨xs, g1, g2⟩ := ro
        cases rj with
        | tup t1 t2 =>
          have := rpl_keys t2 hk
          subst this
          exact ⟨a, _, rfl, DPut.t g1 (ex _ _ t1) (lim_lt (by rw [rpa_len g2]; exact hl)), fin _ ⟨_, upd_same, rpa_put rv g2⟩⟩
      · cases hc
    | _ => cases hc
/-! ### new dicts of one's own -/
def oDk : FE OV := fun ρ => .ok (.dk []) ρ
def oDt : FE OV := fun ρ => .ok (.dt []) ρ
theorem do_dk : DO X W (.Dict [] [] pos) oDk := ⟨_, pe_dnewK, fun ρ Hs Fr σ H Q rl k => fun p hp => by
  obtain ⟨n1, n2, n3⟩ := fr_none rl hp
  exact k _ _ _ (Ex.refl _) (rl.grow (.own rl.hs hp)) ⟨p, rfl, n1, n2, ⟨_, upd_same, .nil⟩, n3⟩⟩
theorem do_dt : DO X W (.Dict [] [] pos) oDt := ⟨_, pe_dnewT, fun ρ Hs Fr σ H Q rl k => fun p hp => by
  obtain ⟨n1, n2, n3⟩ := fr_none rl hp
  exact k _ _ _ (Ex.refl _) (rl.grow (.own rl.hs hp)) ⟨p, rfl, n1, n2, ⟨_, upd_same, .nil⟩, n3⟩⟩
end
end Fw
end

section
set_option Elab.async false
set_option linter.all false
set_option autoImplicit false
set_option maxRecDepth 100000
set_option maxHeartbeats 4000000
/-! Fw6: defs and their promises over plain data, calls. -/
namespace Fw
open PySem PySem.Spec PyProof.Rows L2

/-! ### promises -/
inductive Rd where
  | ok (d : D)
  | er (e : Er)
  | no
inductive Ro where
  | ok (d : D) (w : OV)
  | er (e : Er) (w : OV)
  | no
/-- behind a call: what was stable is so, what others own stands -/
structure Aft (Hs : Hp) (Fr : FrT) (Hs' H' : Hp) : Prop where
  s : Ex Hs Hs'
  i : Ex Hs' H'
  f : Ex Fr.hp H'
  d : ∀ a o, Hs' a = some o → Fr.hp a = none
structure Bef (Hs : Hp) (Fr : FrT) (H : Hp) : Prop where
  i : Ex Hs H
  f : Ex Fr.hp H
  d : ∀ a o, Hs a = some o → Fr.hp a = none
  o : ∀ a, Fr.od a → ∃ o, H a = some o
/-- a def of stable arguments -/
def SpD (K : PySem.W.Frag) (n : Nat) (g : List D → Rd) : Sp := fun vs H Q E => ∃ ds Hs Fr, RpL K Hs vs ds ∧ ds.length = n ∧ Bef Hs Fr H ∧ match g ds with
  | .ok d => ∀ v Hs' H', Aft Hs Fr Hs' H' → Rp K Hs' v d → Q v H'
  | .er e => ∀ c dd Hs' H', Aft Hs Fr Hs' H' → ErOk K Hs' e c dd → E c dd H'
  | .no => False
/-- a def whose first argument is an object of the caller's own -/
def SpO (K : PySem.W.Frag) (n : Nat) (g : OV → List D → Ro) : Sp := fun vs H Q E => ∃ a vs' w ds Hs Fr, vs = .ref a :: vs' ∧ RpL K Hs vs' ds ∧ ds.length = n ∧ Bef Hs Fr H ∧ Hs a = none ∧ Fr.no a ∧ RpO K Fr.od Hs H a w ∧ match g w ds with
  | .ok d w' => ∀ v Hs' H', Aft Hs Fr Hs' H' → Hs' a = none → RpO K Fr.od Hs' H' a w' → Rp K Hs' v d → Q v H'
  | .er e w' => ∀ c dd Hs' H', Aft Hs Fr Hs' H' → Hs' a = none → RpO K Fr.od Hs' H' a w' → ErOk K Hs' e c dd → E c dd H'
  | .no => False
/-- all that is not stable, as the caller's -/
def frOf (H Hs : Hp) : Hp := fun a => match Hs a with
  | none => H a
  | some _ => none
/-- .. but one -/
def frBut (H Hs : Hp) (b : Addr) : Hp := fun a => if a = b then none else frOf H Hs a
theorem frOf_bef {H Hs : Hp} {od : Addr → Prop} (e : Ex Hs H) (oh : ∀ a, od a → ∃ o, H a = some o) : Bef Hs ⟨frOf H Hs, od⟩ H := by
  refine ⟨e, fun a o h => ?_, fun a o h => ?_, oh⟩
  · replace h : frOf H Hs a = some o := h
    unfold frOf at h
    split at h
    · exact h
    · cases h
  · show frOf H Hs a = none
    unfold frOf
    rw [h]
theorem frBut_bef {H Hs : Hp} {od : Addr → Prop} {b : Addr} (e : Ex Hs H) (oh : ∀ a, od a → ∃ o, H a = some o) : Bef Hs ⟨frBut H Hs b, od⟩ H := by
  refine ⟨e, fun a o h => ?_, fun a o h => ?_, oh⟩
  · replace h : frBut H Hs b a = some o := h
    unfold frBut at h
    split at h
    · cases h
    · exact (frOf_bef (od := od) e oh).f a o h
  · show frBut H Hs b a = none
    unfold frBut
    split
    · rfl
    · exact (frOf_bef (od := od) e oh).d a o h
theorem frOf_aft {H Hs Hs' H' : Hp} {od : Addr → Prop} (e : Ex Hs H) (a : Aft Hs ⟨frOf H Hs, od⟩ Hs' H') : Gw Hs H Hs' H' := by
  refine ⟨a.s, a.i, fun b o h => ?_, fun b o h n => ?_⟩
  · cases hb : Hs b with
    | none => exact a.f b o (by show frOf H Hs b = some o; unfold frOf; rw [hb]; exact h)
    | some u =>
      have := e b u hb
      rw [h] at this
      cases this
      exact a.i b o (a.s b o hb)
  · cases hb : Hs' b with
    | none => rfl
    | some u =>
      have : frOf H Hs b = none := a.d b u hb
      unfold frOf at this
      rw [n] at this
      rw [h] at this
      cases this
section
variable {K : PySem.W.Frag} {ρ : PEnv} {Hs Hs' H' : Hp} {Fr : FrT} {σ : L2.St} {H : Hp}
/-- behind a call that was handed the object of the name i -/
theorem Rel.callO (r : Rel K ρ Hs Fr σ H) {i : Nat} {a : Addr} {w w' : OV} (e0 : getO i ρ = some w) (hs : σ[i]? = some (some (.ref a))) (af : Aft Hs ⟨frBut H Hs a, Fr.od⟩ Hs' H') (n : Hs' a = none) (ro : RpO K Fr.od Hs' H' a w') : Rel K (setO i w' ρ) Hs' Fr σ H' := by
  obtain ⟨tg, e, eset⟩ := getO_some e0
  rw [eset]
  obtain ⟨b, h1, h2, h3, h4, h5⟩ := r.sl i _ e
  rw [hs] at h1
  cases h1
  have keep : ∀ b o, H b = some o → b ≠ a → H' b = some o := fun b o h hb => by
    cases hh : Hs b with
    | none => exact af.f b o (by show frBut H Hs a b = some o; unfold frBut frOf; rw [if_neg hb, hh]; exact h)
    | some u =>
      have := r.hs b u hh
      rw [h] at this
      cases this
      exact af.i b o (af.s b o hh)
  have new : ∀ b o, H b = some o → b ≠ a → Hs b = none → Hs' b = none := fun b o h hb n => by
    cases hh : Hs' b with
    | none => rfl
    | some u =>
      have : frBut H Hs a b = none := af.d b u hh
      unfold frBut frOf at this
      rw [if_neg hb, n] at this
      rw [h] at this
      cases this
  refine ⟨by simp [r.len], af.i, fun b o h => keep b o (r.fr b o h) (fun z => by subst z; rw [h3.1] at h; cases h), fun b o h => ?_, fun b hb => (let ⟨o, ho⟩ := r.od b hb; ⟨o, keep b o ho (fun z => by subst z; exact h3.2 hb)⟩), fun j s ej => ?_, fun j k s t b e1 e2 o1 o2 a1 a2 => ?_⟩
  · cases hf : Fr.hp b with
    | none => rfl
    | some u =>
      have hb : b ≠ a := fun z => by subst z; rw [h3.1] at hf; cases hf
      have h5 : Hs b = none := by
        cases hh : Hs b with
        | none => rfl
        | some v =>
          have := r.dis b v hh
          rw [hf] at this
          cases this
      rw [new b u (r.fr b u hf) hb h5] at h
      cases h
  · by_cases hj : i = j
    · subst hj
      by_cases hl : i < ρ.length
      · rw [List.getElem?_set_self hl] at ej
        cases ej
        exact ⟨a, hs, n, h3, ro, h5⟩
      · rw [List.getElem?_eq_none (by simpa using hl)] at ej
        cases ej
    · rw [get_set_ne hj] at ej
      have q := r.sl j s ej
      cases s with
      | un => trivial
      | sh d =>
        obtain ⟨v, g1, g2⟩ := q
        exact ⟨v, g1, g2.mono af.s⟩
      | ow t2 w2 =>
        obtain ⟨c, g1, g2, g3, g4, g5⟩ := q
        have hc : c ≠ a := fun z => by
          subst z
          exact hj (r.ap i j _ _ c e ej rfl rfl hs g1)
        obtain ⟨u, hu⟩ := g4.some
        exact ⟨c, g1, new c u hu hc g2, g3, g4.mono af.s ((keep c u hu hc).trans hu.symm), g5⟩
  · have key : ∀ j s, (ρ.set i (.ow tg w'))[j]? = some s → isOw s = true → ∃ t, ρ[j]? = some t ∧ isOw t = true := fun j s ej o => by
      by_cases hj : i = j
      · subst hj
        exact ⟨_, e, rfl⟩
      · rw [get_set_ne hj] at ej
        exact ⟨s, ej, o⟩
    obtain ⟨s', f1, f2⟩ := key j s e1 o1
    obtain ⟨t', f3, f4⟩ := key k t e2 o2
    exact r.ap j k s' t' b f1 f3 f2 f4 a1 a2
end
/-! ### calls that may raise, with defaults -/
section
variable {X : Cx} {W : WX} {CX : CXT} {k : Nat} {f C : Addr} {fd : FuncData} {ps : List Str} {sp : Sp} {dvs : List V} {ds : List Value} {E : L2.St → XK} {x m : Str} {p pos apos : Pos} {e o : Expr} {es : List Expr} {ta : TE} {t : TA}
theorem run_fnSD {pins : List (Addr × Obj)} {σ : L2.St} {H : Hp} {s : Shared} {Q : VK} {us : List Value} {vs : List V} (F : FnOk X.prog X.w X.K X.mg X.base CX k f fd ps sp) (hr : Room k X.A) (hb : Binds X.K fd ps ds) (hd : Vals dvs ds) (hx : PassesAt CX X σ (E σ))
    (I : Inv X pins σ H s) (r : Vals vs us) (h : sp (vs ++ dvs) H Q (E σ)) : wpAny (model X.prog X.w) X.A (call (.ref f) us) (EP X pins σ Q) X.xe s := by
  have r2 : Vals (vs ++ dvs) (us ++ ds) := r.append hd
  have hl : (us ++ ds).length = ps.length := by rw [← r2.length]; exact F.len _ _ _ _ h
  refine wpAny_call (codeAny_mono (F.run X.A X.stack s H ⟨us, []⟩ (us ++ ds) (vs ++ dvs) Q (E σ) hr I.env0 (hb s us I.kIn hl) r2 h) fun r s' hq => ?_)
  cases r with
  | error e => exact hx pins H s e s' I hq
  | ok fl =>
    cases fl with
    | ret u => exact I.after hq
    | next => exact False.elim hq
    | brk => exact False.elim hq
    | cont => exact False.elim hq
def tCallSD (sp : Sp) (dvs : List V) (E : L2.St → XK) (t : TA) : TE := fun σ H Q => t σ H fun vs H1 => sp (vs ++ dvs) H1 Q (E σ)
theorem pe_callSD (F : FnOk X.prog X.w X.K X.mg X.base CX k f fd ps sp) (hr : Room k X.A) (hg : Gl X x) (hm : X.mg x = some (.ref f)) (hk : PySem.W.keepIn X.K (.ref f) = true) (hb : Binds X.K fd ps ds) (hd : Vals dvs ds) (hx : ∀ σ, PassesAt CX X σ (E σ))
    (ha : PA X (e :: es) t) (hdb : (x == ("__debug__" : Str)) = false := by decide) (he : starEach (e :: es) X.env = (false, eval e X.env) :: starEach es X.env := by rfl) (hpl : (backTo pos (starEach es X.env)).any (·.1) = false := by rfl) :
    PE X (.Call (.Name x p) (e :: es) [] pos) (tCallSD sp dvs E t) := by
  refine ⟨fun pins s σ H Q I h => ?_⟩
  refine wpAny_Call_Name_kw (ld_glob I hg hm ?_ hdb)
  refine PySem.W.callWith_K (h₀ := X.base) I.ok.mod.kin hk (thn (ha.run pos pins s σ H _ I h) fun us s1 ⟨vs, H1, I1, r, q⟩ => ⟨I1.kIn, ?_⟩) he hpl
  exact run_fnSD F hr hb hd (hx σ) I1 r q
theorem pe_callSD0 (F : FnOk X.prog X.w X.K X.mg X.base CX k f fd ps sp) (hr : Room k X.A) (hg : Gl X x) (hm : X.mg x = some (.ref f)) (hk : PySem.W.keepIn X.K (.ref f) = true) (hb : Binds X.K fd ps ds) (hd : Vals dvs ds) (hx : ∀ σ, PassesAt CX X σ (E σ))
    (hdb : (x == ("__debug__" : Str)) = false := by decide) : PE X (.Call (.Name x p) [] [] pos) (tCallSD sp dvs E tNil) := by
  refine ⟨fun pins s σ H Q I h => ?_⟩
  refine wpAny_Call_Name_kw (ld_glob I hg hm ?_ hdb)
  exact PySem.W.callWith_K0 I.kIn hk (run_fnSD (us := []) F hr hb hd (hx σ) I .nil h)
/-- a method of an instance whose class is told by a name -/
structure MethAt (X : Cx) (CX : CXT) (k : Nat) (c m : Str) (sp : Sp) (dvs : List V) : Prop where
  ex : ∃ (f : Addr) (fd : FuncData) (ps : List Str) (ds : List Value), Cls X.K (He.ga X.K c) ∧ Meth X.K (He.ga X.K c) m f ∧ FnOk X.prog X.w X.K X.mg X.base CX k f fd ps sp ∧ Binds X.K fd ps ds ∧ Vals dvs ds
def tMethSD (K : PySem.W.Frag) (m : Str) (sp : Str → Option Sp) (dvs : List V) (E : L2.St → XK) (ta : TE) (t : TA) : TE := fun σ H Q => ta σ H fun x H1 => ∃ a c dx fs sc, x = .ref a ∧ H1 a = some (.ins (He.ga K c) dx fs) ∧ fs.lookup m = none ∧ sp c = some sc ∧
  t σ H1 fun vs H2 => sc (x :: (vs ++ dvs)) H2 Q (E σ)
theorem pe_methSD {sc : Str → Option Sp} {pl : Sem Bool} (he : PE X o ta) (M : ∀ c s, sc c = some s → MethAt X CX k c m s dvs) (hr : Room k X.A) (hx : ∀ σ, PassesAt CX X σ (E σ)) (ha : PA X (e :: es) t)
    (hst : starEach (e :: es) X.env = (false, eval e X.env) :: starEach es X.env := by rfl) (hpl : (backTo pos (starEach es X.env)).any (·.1) = false := by rfl)
    (ht : eval (.Call (.Attribute o m apos) (e :: es) [] pos) X.env = (do
      let ov ← eval o X.env
      standAt apos.atName
      let (f, first) ← holding [ov] (getMethod ov m pl)
      callWith pos f first (backTo pos (starEach (e :: es) X.env)) (backToKw pos (keywordEach [] X.env))) := by rfl) :
    PE X (.Call (.Attribute o m apos) (e :: es) [] pos) (tMethSD X.K m sc dvs E ta t) := by
  refine ⟨fun pins s σ H Q I h => ?_⟩
  refine PySem.W.methodCall_KW (pl := pl) (thn (he.run pins s σ H _ I h) fun u s1 ⟨x, H1, I1, rx, a, c, dx, fs, s0, ex, ea, l, hsc, q⟩ => ?_) ht
  subst ex
  obtain rfl : u = Value.ref a := rx
  obtain ⟨f, fd, ps, ds, hc, hm, F, hb, hd⟩ := (M c s0 hsc).ex
  refine getmeth_ok I1 ea hc hm l ?_
  refine PySem.W.callWith_K (first := [.ref a]) (h₀ := X.base) I.ok.mod.kin hm.kp (thn (ha.run pos pins s1 σ H1 _ I1 q) fun us s2 ⟨vs, H2, I2, r, q2⟩ => ⟨I2.kIn, ?_⟩) hst hpl
  exact run_fnSD (us := .ref a :: us) (vs := .ref a :: vs) F hr hb hd (hx σ) I2 (.cons rfl r) q2
theorem pe_methSD0 {sc : Str → Option Sp} {pl : Sem Bool} (he : PE X o ta) (M : ∀ c s, sc c = some s → MethAt X CX k c m s dvs) (hr : Room k X.A) (hx : ∀ σ, PassesAt CX X σ (E σ))
    (ht : eval (.Call (.Attribute o m apos) [] [] pos) X.env = (do
      let ov ← eval o X.env
      standAt apos.atName
      let (f, first) ← holding [ov] (getMethod ov m pl)
      callWith pos f first (backTo pos (starEach [] X.env)) (backToKw pos (keywordEach [] X.env))) := by rfl) :
    PE X (.Call (.Attribute o m apos) [] [] pos) (tMethSD X.K m sc dvs E ta tNil) := by
  refine ⟨fun pins s σ H Q I h => ?_⟩
  refine PySem.W.methodCall_KW (pl := pl) (thn (he.run pins s σ H _ I h) fun u s1 ⟨x, H1, I1, rx, a, c, dx, fs, s0, ex, ea, l, hsc, q⟩ => ?_) ht
  subst ex
  obtain rfl : u = Value.ref a := rx
  obtain ⟨f, fd, ps, ds, hc, hm, F, hb, hd⟩ := (M c s0 hsc).ex
  refine getmeth_ok I1 ea hc hm l ?_
  exact PySem.W.callWith_K0 (first := [.ref a]) I1.kIn hm.kp (run_fnSD (us := [.ref a]) (vs := [.ref a]) F hr hb hd (hx σ) I1 (.cons rfl .nil) q)
end
/-! ### calls over plain data -/
section
variable {X : Cx} {W : WX} {k : Nat} {fa : Addr} {fd : FuncData} {ps : List Str} {n : Nat} {g : List D → Rd} {go : OV → List D → Ro} {dvs : List V} {dd : List D} {ds : List Value} {x y : Str} {p py pos : Pos} {e : Expr} {es : List Expr} {f : FE (List D)}
def eCall (g : List D → Rd) (dd : List D) (f : FE (List D)) : FE D := fun ρ => (f ρ).bind fun as ρ => match g (as ++ dd) with
  | .ok d => .ok d ρ
  | .er e => .er e ρ
  | .no => .no
theorem sp_callD {ρ : PEnv} {Hs : Hp} {Fr : FrT} {σ : L2.St} {H : Hp} {Q : VK} {as : List D} {vs : List V} (hn : (as ++ dd).length = n) (hdd : ∀ H, RpL X.K H dvs dd) (rl : Rel X.K ρ Hs Fr σ H) (rv : RpL X.K Hs vs as)
    (q : Pst X.K W Fr σ Hs (Rp X.K) Q (match g (as ++ dd) with
      | .ok d => R.ok d ρ
      | .er e => .er e ρ
      | .no => .no)) : SpD X.K n g (vs ++ dvs) H Q (WE W σ) := by
  refine ⟨as ++ dd, Hs, ⟨frOf H Hs, Fr.od⟩, rv.append (hdd Hs), hn, frOf_bef rl.hs rl.od, ?_⟩
  cases hg : g (as ++ dd) with
  | no => rw [hg] at q; exact q
  | ok d =>
    rw [hg] at q
    intro v Hs' H' af rp
    have gw := frOf_aft rl.hs af
    exact q v Hs' H' gw.s (rl.grow gw) rp
  | er er =>
    rw [hg] at q
    intro c d2 Hs' H' af eo
    have gw := frOf_aft rl.hs af
    exact q c d2 Hs' H' gw.s (rl.grow gw) eo
/-- the lengths fit, or nothing is asked -/
def lenG (n : Nat) (g : List D → Rd) : List D → Rd := fun ds => if ds.length = n then g ds else .no
theorem de_call (gd : Gd X W) (F : FnOk X.prog X.w X.K X.mg X.base (L2.CX X.prog X.w) k fa fd ps (SpD X.K n g)) (hr : Room k X.A) (hg : Gl X x) (hm : X.mg x = some (.ref fa)) (hk : PySem.W.keepIn X.K (.ref fa) = true) (hb : Binds X.K fd ps ds) (hd : Vals dvs ds) (hdd : ∀ H, RpL X.K H dvs dd)
    (ha : DA X W (e :: es) f) (hdb : (x == ("__debug__" : Str)) = false := by decide) (he : starEach (e :: es) X.env = (false, eval e X.env) :: starEach es X.env := by rfl) (hpl : (backTo pos (starEach es X.env)).any (·.1) = false := by rfl) :
    DE X W (.Call (.Name x p) (e :: es) [] pos) (eCall (lenG n g) dd f) := by
  obtain ⟨t, pa, qa⟩ := ha
  refine ⟨_, pe_callSD (E := WE W) F hr hg hm hk hb hd (passAt gd.tk) pa hdb he hpl, fun ρ Hs Fr σ H Q rl q => ?_⟩
  refine qa ρ Hs Fr σ H _ rl (Pst.bnd q fun as ρ1 vs Hs1 H1 e1 r1 p1 q1 => ?_)
  unfold lenG at q1
  by_cases hn : (as ++ dd).length = n
  · rw [if_pos hn] at q1
    exact sp_callD hn hdd r1 p1 q1
  · rw [if_neg hn] at q1
    exact q1.elim
theorem de_call0 (gd : Gd X W) (F : FnOk X.prog X.w X.K X.mg X.base (L2.CX X.prog X.w) k fa fd ps (SpD X.K n g)) (hr : Room k X.A) (hg : Gl X x) (hm : X.mg x = some (.ref fa)) (hk : PySem.W.keepIn X.K (.ref fa) = true) (hb : Binds X.K fd ps ds) (hd : Vals dvs ds) (hdd : ∀ H, RpL X.K H dvs dd)
    (hdb : (x == ("__debug__" : Str)) = false := by decide) : DE X W (.Call (.Name x p) [] [] pos) (eCall (lenG n g) dd aN) := by
  refine ⟨_, pe_callSD0 (E := WE W) F hr hg hm hk hb hd (passAt gd.tk) hdb, fun ρ Hs Fr σ H Q rl q => ?_⟩
  have q : Pst X.K W Fr σ Hs (Rp X.K) Q (match lenG n g ([] ++ dd) with
      | .ok d => R.ok d ρ
      | .er e => .er e ρ
      | .no => .no) := q
  unfold lenG at q
  by_cases hn : ([] ++ dd).length = n
  · rw [if_pos hn] at q
    exact sp_callD (vs := []) hn hdd rl .nil q
  · rw [if_neg hn] at q
    exact q.elim
/-- f(y, ..), y an object of one's own -/
def eCallO (i : Nat) (g : OV → List D → Ro) (dd : List D) (f : FE (List D)) : FE D := fun ρ => match getO i ρ with
  | none => .no
  | some _ => (f ρ).bind fun as ρ => match getO i ρ with
    | none => .no
    | some w => match g w (as ++ dd) with
      | .ok d w' => .ok d (setO i w' ρ)
      | .er e w' => .er e (setO i w' ρ)
      | .no => .no
def lenGo (n : Nat) (g : OV → List D → Ro) : OV → List D → Ro := fun w ds => if ds.length = n then g w ds else .no
theorem sp_callO {i : Nat} {a : Addr} {w : OV} {ρ : PEnv} {Hs : Hp} {Fr : FrT} {σ : L2.St} {H : Hp} {Q : VK} {as : List D} {vs : List V} (hs : σ[i]? = some (some (.ref a))) (hw : getO i ρ = some w) (hdd : ∀ H, RpL X.K H dvs dd) (rl : Rel X.K ρ Hs Fr σ H) (rv : RpL X.K Hs vs as)
    (q : Pst X.K W Fr σ Hs (Rp X.K) Q (match lenGo n go w (as ++ dd) with
      | .ok d w' => R.ok d (setO i w' ρ)
      | .er e w' => .er e (setO i w' ρ)
      | .no => .no)) : SpO X.K n go (.ref a :: (vs ++ dvs)) H Q (WE W σ) := by
  obtain ⟨b, g1, g2, g3, g4⟩ := own_at rl hw
  rw [hs] at g1
  cases g1
  unfold lenGo at q
  by_cases hn : (as ++ dd).length = n
  · rw [if_pos hn] at q
    refine ⟨a, vs ++ dvs, w, as ++ dd, Hs, ⟨frBut H Hs a, Fr.od⟩, rfl, rv.append (hdd Hs), hn, frBut_bef rl.hs rl.od, g2, ⟨by show frBut H Hs a a = none; unfold frBut; rw [if_pos rfl], g3.2⟩, g4, ?_⟩
    cases hg : go w (as ++ dd) with
    | no => rw [hg] at q; exact q
    | ok d w' =>
      rw [hg] at q
      intro v Hs' H' af nn ro rp
      exact q v Hs' H' af.s (rl.callO hw hs af nn ro) rp
    | er er w' =>
      rw [hg] at q
      intro c d2 Hs' H' af nn ro eo
      exact q c d2 Hs' H' af.s (rl.callO hw hs af nn ro) eo
  · rw [if_neg hn] at q
    exact q.elim
theorem de_callO (i : Nat) (gd : Gd X W) (F : FnOk X.prog X.w X.K X.mg X.base (L2.CX X.prog X.w) k fa fd ps (SpO X.K n go)) (hr : Room k X.A) (hg : Gl X x) (hm : X.mg x = some (.ref fa)) (hk : PySem.W.keepIn X.K (.ref fa) = true) (hb : Binds X.K fd ps ds) (hd : Vals dvs ds) (hdd : ∀ H, RpL X.K H dvs dd)
    (hv : PE X (.Name y py) (tVar i)) (ha : DA X W es f) (hdb : (x == ("__debug__" : Str)) = false := by decide) (he : starEach ((.Name y py : Expr) :: es) X.env = (false, eval (.Name y py) X.env) :: starEach es X.env := by rfl) (hpl : (backTo pos (starEach es X.env)).any (·.1) = false := by rfl) :
    DE X W (.Call (.Name x p) (.Name y py :: es) [] pos) (eCallO i (lenGo n go) dd f) := by
  obtain ⟨t, pa, qa⟩ := ha
  refine ⟨_, pe_callSD (E := WE W) F hr hg hm hk hb hd (passAt gd.tk) (pa_cons hv pa he) hdb he hpl, fun ρ Hs Fr σ H Q rl q => ?_⟩
  unfold eCallO at q
  cases hw : getO i ρ with
  | none => rw [hw] at q; exact q.elim
  | some w0 =>
    rw [hw] at q
    obtain ⟨a, h1, _, _, _⟩ := own_at rl hw
    refine ⟨_, h1, qa ρ Hs Fr σ H _ rl (Pst.bnd q fun as ρ1 vs Hs1 H1 e1 r1 p1 q1 => ?_)⟩
    cases hw1 : getO i ρ1 with
    | none => simp only [hw1] at q1; exact q1.elim
    | some w =>
      simp only [hw1] at q1
      exact sp_callO h1 hw1 hdd r1 p1 q1
/-- o.m(..), o an instance, by its class's name; stable -/
def eMeth (g : Str → List D → Rd) (dd : List D) (fo : FE D) (f : FE (List D)) : FE D := fun ρ => (fo ρ).bind fun o ρ => match o with
  | .obj c fs => (f ρ).bind fun as ρ => match g c (o :: (as ++ dd)) with
    | .ok d => .ok d ρ
    | .er e => .er e ρ
    | .no => .no
  | _ => .no
end
/-! ### a def by its body -/
def startP (N : List Str) (ss : List SV) : PEnv := ss ++ List.replicate (N.length - ss.length) .un
/-- what a body's end is worth -/
def fit (r : RS) : Rd := match r with
  | .nx _ => .ok .non
  | .rt d _ => .ok d
  | .er e _ => .er e
  | .no => .no
def getT (a : Addr) (ρ : PEnv) : Option OV := match ρ[(0 : Nat)]? with
  | some (.ow (some b) w) => if a = b then some w else none
  | _ => none
def fitO (a : Addr) (r : RS) : Ro := match r with
  | .nx ρ => match getT a ρ with
    | some w => .ok .non w
    | none => .no
  | .rt d ρ => match getT a ρ with
    | some w => .ok d w
    | none => .no
  | .er e ρ => match getT a ρ with
    | some w => .er e w
    | none => .no
  | .no => .no
theorem getT_at {K : PySem.W.Frag} {ρ : PEnv} {Hs H : Hp} {Fr : FrT} {σ : L2.St} (r : Rel K ρ Hs Fr σ H) {a : Addr} {w : OV} (h : getT a ρ = some w) : Hs a = none ∧ RpO K Fr.od Hs H a w := by
  unfold getT at h
  split at h
  · rename_i b w' e
    split at h
    · rename_i hab
      cases h
      obtain ⟨c, h1, h2, h3, h4, h5⟩ := r.sl 0 _ e
      have := h5 b rfl
      subst this
      subst hab
      exact ⟨h2, h4⟩
    · cases h
  · cases h
theorem rel_start {K : PySem.W.Frag} {Hs H : Hp} {Fr : FrT} {N : List Str} {vs : List V} {ds : List D} (hl : vs.length ≤ N.length) (b : Bef Hs Fr H) (r : RpL K Hs vs ds) : Rel K (startP N (ds.map .sh)) Hs Fr (L2.start N vs) H := by
  have e := r.len
  have get : ∀ (j : Nat) (s : SV), (startP N (ds.map .sh))[j]? = some s → (∃ d, ds[j]? = some d ∧ s = .sh d) ∨ s = .un := fun j s hs => by
    unfold startP at hs
    by_cases hj : j < ds.length
    · rw [List.getElem?_append_left (by simpa using hj), List.getElem?_map, List.getElem?_eq_getElem hj] at hs
      exact .inl ⟨_, List.getElem?_eq_getElem hj, (Option.some.inj hs).symm⟩
    · rw [List.getElem?_append_right (by simpa using hj), List.getElem?_replicate] at hs
      split at hs
      · exact .inr (Option.some.inj hs).symm
      · cases hs
  refine ⟨?_, b.i, b.f, b.d, b.o, fun j s hs => ?_, fun j k s t a e1 e2 o1 o2 a1 a2 => ?_⟩
  · unfold startP L2.start
    simp only [List.length_append, List.length_map, List.length_replicate]
    omega
  · rcases get j s hs with ⟨d, hd, rfl⟩ | rfl
    · obtain ⟨v, hv, rv⟩ := r.get hd
      refine ⟨v, ?_, rv⟩
      unfold L2.start
      have hj : j < vs.length := (List.getElem?_eq_some_iff.mp hv).1
      rw [List.getElem?_append_left (by simpa using hj), List.getElem?_map, hv]
      rfl
    · trivial
  · rcases get j s e1 with ⟨d, _, rfl⟩ | rfl <;> cases o1
theorem rel_startO {K : PySem.W.Frag} {Hs H : Hp} {Fr : FrT} {N : List Str} {a : Addr} {wv : OV} {vs : List V} {ds : List D} (hl : vs.length + 1 ≤ N.length) (b : Bef Hs Fr H) (r : RpL K Hs vs ds) (n1 : Hs a = none) (n2 : Fr.no a) (ro : RpO K Fr.od Hs H a wv) :
    Rel K (startP N (.ow (some a) wv :: ds.map .sh)) Hs Fr (L2.start N (.ref a :: vs)) H := by
  have e := r.len
  have get : ∀ (j : Nat) (s : SV), (startP N (.ow (some a) wv :: ds.map .sh))[j]? = some s → (j = 0 ∧ s = .ow (some a) wv) ∨ (∃ k d, j = k + 1 ∧ ds[k]? = some d ∧ s = .sh d) ∨ s = .un := fun j s hs => by
    unfold startP at hs
    cases j with
    | zero => simp at hs; exact .inl ⟨rfl, hs.symm⟩
    | succ k =>
      rw [List.cons_append, List.getElem?_cons_succ] at hs
      by_cases hj : k < ds.length
      · rw [List.getElem?_append_left (by simpa using hj), List.getElem?_map, List.getElem?_eq_getElem hj] at hs
        exact .inr (.inl ⟨k, _, rfl, List.getElem?_eq_getElem hj, (Option.some.inj hs).symm⟩)
      · rw [List.getElem?_append_right (by simpa using hj), List.getElem?_replicate] at hs
        split at hs
        · exact .inr (.inr (Option.some.inj hs).symm)
        · cases hs
  refine ⟨?_, b.i, b.f, b.d, b.o, fun j s hs => ?_, fun j k s t c e1 e2 o1 o2 a1 a2 => ?_⟩
  · unfold startP L2.start
    simp only [List.length_append, List.length_map, List.length_replicate, List.length_cons]
    omega
  · rcases get j s hs with ⟨rfl, rfl⟩ | ⟨k, d, rfl, hd, rfl⟩ | rfl
    · exact ⟨a, rfl, n1, n2, ro, fun b z => Option.some.inj z⟩
    · obtain ⟨v, hv, rv⟩ := r.get hd
      refine ⟨v, ?_, rv⟩
      unfold L2.start
      have hj : k < vs.length := (List.getElem?_eq_some_iff.mp hv).1
      rw [List.map_cons, List.cons_append, List.getElem?_cons_succ, List.getElem?_append_left (by simpa using hj), List.getElem?_map, hv]
      rfl
    · trivial
  · have h0 : ∀ j s, (startP N (.ow (some a) wv :: ds.map .sh))[j]? = some s → isOw s = true → j = 0 := fun j s ej o => by
      rcases get j s ej with ⟨rfl, _⟩ | ⟨k, d, rfl, hd, rfl⟩ | rfl
      · rfl
      · cases o
      · cases o
    rw [h0 j s e1 o1, h0 k t e2 o2]
section
variable {P : Program} {w : World} {K : PySem.W.Frag} {mg : Str → Option Value} {base : Heap} {x qual : Str} {params : Arguments} {body : List Stmt} {scope : Scope} {dvs : List V} {kws : List (Str × V)} {f : Addr} {fd : FuncData}
/-- the context of a def's body -/
abbrev Bx (P : Program) (w : World) (K : PySem.W.Frag) (mg : Str → Option Value) (base : Heap) (N : List Str) (qual : Str) (scope : Scope) (f : Addr) (cdv : Value) (A : Around) (outer : List Env) (s : Shared) (H : Hp) (E : XK) : Cx :=
  cxOf (L2.CX P w) P w K mg base N qual scope f cdv A outer s H E
theorem gd_body {N ps : List Str} {k : Nat} {cdv : Value} {A : Around} {outer : List Env} {s : Shared} {H : Hp} {E : XK} (S : FnScope N ps scope) (hr : Room k (A.deeper (envOfC qual scope s.heap.objs.size f cdv))) :
    Gd (Bx P w K mg base N qual scope f cdv A outer s H E) (fun cls d _ H => E cls d H) :=
  ⟨takes_of rfl rfl rfl rfl, passes_of rfl, rfl, S.nd, hr.units⟩
/-- THE RULE: a def of stable arguments -/
theorem okD {N ps : List Str} {k : Nat} {sem : FS} {g : List D → Rd} (F : FunD K x qual params body scope dvs kws f fd) (S : FnScope N ps scope)
    (hbody : ∀ (cdv : Value) (A : Around) (outer : List Env) (s : Shared) (H : Hp) (E : XK), Room k (A.deeper (envOfC qual scope s.heap.objs.size f cdv)) → Gd (Bx P w K mg base N qual scope f cdv A outer s H E) (fun cls d _ H => E cls d H) →
      DSs (Bx P w K mg base N qual scope f cdv A outer s H E) (fun cls d _ H => E cls d H) body sem)
    (hg : ∀ ds, ds.length = ps.length → g ds ≠ .no → fit (sem (startP N (ds.map .sh))) = g ds) : FnOk P w K mg base (L2.CX P w) (k + 1) f fd ps (SpD K ps.length g) := by
  refine F.ok S (fun vs H Q E h => ?_) fun cdv A outer s H vs Q E hr h => ?_
  · obtain ⟨ds, Hs, Fr, r, hl, _⟩ := h
    rw [r.len, hl]
  · obtain ⟨ds, Hs, Fr, r, hl, bf, q⟩ := h
    obtain ⟨t, pt, qt⟩ := hbody cdv A outer s H E hr (gd_body S hr)
    refine ⟨t, pt, ?_⟩
    have hpl : ps.length ≤ N.length := by have := congrArg List.length S.pre; rw [List.length_take] at this; omega
    refine qt _ Hs Fr _ H _ (rel_start (by rw [r.len, hl]; exact hpl) bf r) ?_
    have hne : g ds ≠ .no := fun z => by rw [z] at q; exact q
    have e := hg ds hl hne
    cases hs : sem (startP N (ds.map .sh)) with
    | nx ρ' =>
      rw [hs] at e
      have e : Rd.ok .non = g ds := e
      rw [← e] at q
      exact fun σ' Hs' H' ex rl => q .non Hs' H' ⟨ex, rl.hs, rl.fr, rl.dis⟩ .non
    | rt d ρ' =>
      rw [hs] at e
      have e : Rd.ok d = g ds := e
      rw [← e] at q
      exact fun v σ' Hs' H' ex rl rp => q v Hs' H' ⟨ex, rl.hs, rl.fr, rl.dis⟩ rp
    | er er ρ' =>
      rw [hs] at e
      have e : Rd.er er = g ds := e
      rw [← e] at q
      exact fun c dd σ' Hs' H' ex rl eo => q c dd Hs' H' ⟨ex, rl.hs, rl.fr, rl.dis⟩ eo
    | no =>
      rw [hs] at e
      exact hne e.symm
/-- THE RULE: a def whose first argument is an object of the caller's own -/
theorem okO {N : List Str} {ps : List Str} {n : Nat} {k : Nat} {sem : FS} {g : OV → List D → Ro} (F : FunD K x qual params body scope dvs kws f fd) (S : FnScope N ps scope) (hn : ps.length = n + 1)
    (hbody : ∀ (cdv : Value) (A : Around) (outer : List Env) (s : Shared) (H : Hp) (E : XK), Room k (A.deeper (envOfC qual scope s.heap.objs.size f cdv)) → Gd (Bx P w K mg base N qual scope f cdv A outer s H E) (fun cls d _ H => E cls d H) →
      DSs (Bx P w K mg base N qual scope f cdv A outer s H E) (fun cls d _ H => E cls d H) body sem)
    (hg : ∀ a wv ds, ds.length = n → g wv ds ≠ .no → fitO a (sem (startP N (.ow (some a) wv :: ds.map .sh))) = g wv ds) : FnOk P w K mg base (L2.CX P w) (k + 1) f fd ps (SpO K n g) := by
  refine F.ok S (fun vs H Q E h => ?_) fun cdv A outer s H vs Q E hr h => ?_
  · obtain ⟨a, vs', wv, ds, Hs, Fr, rfl, r, hl, _⟩ := h
    rw [List.length_cons, r.len, hl, hn]
  · obtain ⟨a, vs', wv, ds, Hs, Fr, rfl, r, hl, bf, n1, n2, ro, q⟩ := h
    obtain ⟨t, pt, qt⟩ := hbody cdv A outer s H E hr (gd_body S hr)
    refine ⟨t, pt, ?_⟩
    have hpl : ps.length ≤ N.length := by have := congrArg List.length S.pre; rw [List.length_take] at this; omega
    refine qt _ Hs Fr _ H _ (rel_startO (by rw [r.len, hl, ← hn]; exact hpl) bf r n1 n2 ro) ?_
    have hne : g wv ds ≠ .no := fun z => by rw [z] at q; exact q
    have e := hg a wv ds hl hne
    cases hs : sem (startP N (.ow (some a) wv :: ds.map .sh)) with
    | nx ρ' =>
      rw [hs] at e
      unfold fitO at e
      dsimp only at e
      cases ht : getT a ρ' with
      | none => rw [ht] at e; exact absurd e.symm hne
      | some w' =>
        rw [ht] at e
        have e : Ro.ok .non w' = g wv ds := e
        rw [← e] at q
        exact fun σ' Hs' H' ex rl => q .non Hs' H' ⟨ex, rl.hs, rl.fr, rl.dis⟩ (getT_at rl ht).1 (getT_at rl ht).2 .non
    | rt d ρ' =>
      rw [hs] at e
      unfold fitO at e
      dsimp only at e
      cases ht : getT a ρ' with
      | none => rw [ht] at e; exact absurd e.symm hne
      | some w' =>
        rw [ht] at e
        have e : Ro.ok d w' = g wv ds := e
        rw [← e] at q
        exact fun v σ' Hs' H' ex rl rp => q v Hs' H' ⟨ex, rl.hs, rl.fr, rl.dis⟩ (getT_at rl ht).1 (getT_at rl ht).2 rp
    | er er ρ' =>
      rw [hs] at e
      unfold fitO at e
      dsimp only at e
      cases ht : getT a ρ' with
      | none => rw [ht] at e; exact absurd e.symm hne
      | some w' =>
        rw [ht] at e
        have e : Ro.er er w' = g wv ds := e
        rw [← e] at q
        exact fun c dd σ' Hs' H' ex rl eo => q c dd Hs' H' ⟨ex, rl.hs, rl.fr, rl.dis⟩ (getT_at rl ht).1 (getT_at rl ht).2 eo
    | no =>
      rw [hs] at e
      exact absurd e.symm hne
end
end Fw
end

section
set_option Elab.async false
set_option linter.all false
set_option autoImplicit false
set_option maxRecDepth 100000
set_option maxHeartbeats 4000000
/-! Fw7: the operators over plain data. -/
namespace Fw
open PySem PySem.Spec PyProof.Rows L2

/-! ### arithmetic -/
def CMulX (i j : Int) : Prop := i.natAbs.log2 + j.natAbs.log2 < 100000000
instance (i j : Int) : Decidable (CMulX i j) := by unfold CMulX; infer_instance
theorem CMulX.ok {i j : Int} (h : CMulX i j) : IntMulOk i j := by
  have b : ∀ x : Int, Builtin.Int.intBits x ≤ x.natAbs.log2 + 1 := fun x => by
    unfold Builtin.Int.intBits
    split <;> omega
  have h1 := b i
  have h2 := b j
  have h3 : i.natAbs.log2 + j.natAbs.log2 < 100000000 := h
  have e : bitsLine = 134217728 := by decide
  unfold IntMulOk
  intro z
  rw [Bool.and_eq_true] at z
  have z2 := z.2
  unfold Builtin.Int.intTooBig at z2
  have z3 := of_decide_eq_true z2
  rw [e] at z3
  omega
section
variable {X : Cx}
theorem op_mulX : OpR X (binaryOp .Mult) (rI CMulX fun i j => .int (i * j)) := opI fun _ _ _ _ _ _ _ hc q => mul_int q hc.ok
instance (i j : Int) : Decidable (CDivW i j) := by unfold CDivW; infer_instance
/-! ### + -/
def rCatR (K : PySem.W.Frag) : R2 := fun x y H Q => ∃ l b xs zs, x = .ref l ∧ y = .ref b ∧ SqL K H l xs ∧ SqL K H b zs ∧ xs.length + zs.length ≤ sizeLine ∧ ∀ p, H p = none → Q (.ref p) (upd H p (.lst (xs ++ zs)))
theorem op_catR : OpR X (binaryOp .Add) (rCatR X.K) := by
  intro pins s σ H x y v u Q I rx ry h
  obtain ⟨l, b, xs, zs, rfl, rfl, hH, hB, hz, q⟩ := h
  cases rx
  cases ry
  obtain ⟨its, r, ⟨⟨cls, dd, data, sl⟩, n, ho, hc, hdd, hd⟩, _⟩ := I.list hH
  obtain ⟨its2, r2, ⟨⟨cls2, dd2, data2, sl2⟩, n2, ho2, hc2, hdd2, hd2⟩, _⟩ := I.list hB
  dsimp only at hc hd hc2 hd2
  subst hc hd hc2 hd2
  have hl := r.length
  have hl2 := r2.length
  refine concat_meets ⟨_, ho, rfl⟩ ⟨_, ho2, rfl⟩ noFill_list_add seq_list_add PySem.F.slot_list_add PySem.F.entry_list_add (PySem.F.args_list_add_2 _ _) (list_addW l b its.toArray its2.toArray n n2 dd dd2 sl sl2 (by rw [List.size_toArray, List.size_toArray]; omega)) ⟨ho, ho2, ?_⟩
  have ea : its.toArray ++ its2.toArray = (its ++ its2).toArray := by simp
  rw [ea]
  exact ⟨.ref _, _, I.lnew (t' := s.toks) (r.append r2) (by rw [List.length_append]; omega), rfl, q _ I.fresh⟩
def rAddS : R2 := fun x y H Q => ∃ i j, x = .str i ∧ y = .str j ∧ i.length + j.length ≤ sizeLine ∧ Q (.str (i ++ j)) H
def rAddA (K : PySem.W.Frag) : R2 := fun x y H Q => rI0 (fun i j => .int (i + j)) x y H Q ∨ rAddS x y H Q ∨ rCatR K x y H Q ∨ rCatA K x y H Q
theorem op_addA : OpR X (binaryOp .Add) (rAddA X.K) := op_add.or (op_add_str.or (op_catR.or op_catA))
end
def dAdd : D → D → Option D
  | .int i, .int j => some (.int (i + j))
  | .str a, .str b => if a.length + b.length ≤ LIM then some (.str (a ++ b)) else none
  | .lst a, .lst b => if a.length + b.length ≤ LIM then some (.lst (a ++ b)) else none
  | .tup a, .tup b => if a.length + b.length ≤ LIM then some (.tup (a ++ b)) else none
  | _, _ => none
section
variable {K : PySem.W.Frag}
theorem gw0 {Hs H : Hp} (e : Ex Hs H) : Gw Hs H Hs H := .refl e
theorem gw_lst {Hs H : Hp} {p : Addr} {xs : List V} {ds : List D} {Q : VK} (e : Ex Hs H) (n : H p = none) (r : RpL K Hs xs ds)
    (k : ∀ v Hs' H', Gw Hs H Hs' H' → Rp K Hs' v (.lst ds) → Q v H') : Q (.ref p) (upd H p (.lst xs)) :=
  k _ (upd Hs p (.lst xs)) _ (.new e n) (.lst (.inl (.inl upd_same)) (r.mono (Gw.new e n).s))
theorem gw_tup {Hs H : Hp} {p : Addr} {xs : List V} {ds : List D} {Q : VK} (e : Ex Hs H) (n : H p = none) (r : RpL K Hs xs ds)
    (k : ∀ v Hs' H', Gw Hs H Hs' H' → Rp K Hs' v (.tup ds) → Q v H') : Q (.ref p) (upd H p (.tup xs)) :=
  k _ (upd Hs p (.tup xs)) _ (.new e n) (.tup upd_same (r.mono (Gw.new e n).s))
theorem op2_add : Op2 K (rAddA K) dAdd := by
  intro a b c hc Hs H x y ex ra rb Q k
  unfold dAdd at hc
  split at hc
  · rename_i i j
    cases hc
    exact .inl ⟨i, j, rp_int ra, rp_int rb, k _ Hs H (gw0 ex) (.int _)⟩
  · rename_i i j
    split at hc
    · rename_i hl
      cases hc
      exact .inr (.inl ⟨i, j, rp_str ra, rp_str rb, lim_le hl, k _ Hs H (gw0 ex) (.str _)⟩)
    · cases hc
  · rename_i i j
    split at hc
    · rename_i hl
      cases hc
      cases ra with
      | lst h1 h2 =>
        cases rb with
        | lst g1 g2 =>
          refine .inr (.inr (.inl ⟨_, _, _, _, rfl, rfl, ex.l h1, ex.l g1, lim_le (by rw [h2.len, g2.len]; exact hl), fun p hp => ?_⟩))
          exact gw_lst ex hp (h2.append g2) k
    · cases hc
  · rename_i i j
    split at hc
    · rename_i hl
      cases hc
      cases ra with
      | tup h1 h2 =>
        cases rb with
        | tup g1 g2 =>
          have hL : i.length + j.length ≤ LIM := hl
          refine .inr (.inr (.inr ⟨_, _, _, _, rfl, rfl, SqT.of (ex _ _ h1), SqT.of (ex _ _ g1), lim_le (by rw [h2.len, g2.len]; exact hl), fun e => ?_, fun e e2 => ?_, fun _ _ p hp => ?_⟩))
          · subst e
            cases h2
            exact k _ Hs H (gw0 ex) (.tup g1 g2)
          · subst e2
            cases g2
            have e2 : i ++ [] = i := List.append_nil i
            rw [e2] at k
            exact k _ Hs H (gw0 ex) (.tup h1 h2)
          · exact gw_tup ex hp (h2.append g2) k
    · cases hc
  · cases hc
def dSub : D → D → Option D
  | .int i, .int j => some (.int (i - j))
  | _, _ => none
theorem op2_sub : Op2 K (rI0 fun i j => .int (i - j)) dSub := by
  intro a b c hc Hs H x y ex ra rb Q k
  unfold dSub at hc
  split at hc
  · cases hc
    exact ⟨_, _, rp_int ra, rp_int rb, k _ Hs H (gw0 ex) (.int _)⟩
  · cases hc
def dMul : D → D → Option D
  | .int i, .int j => if CMulX i j then some (.int (i * j)) else none
  | _, _ => none
theorem op2_mul : Op2 K (rI CMulX fun i j => .int (i * j)) dMul := by
  intro a b c hc Hs H x y ex ra rb Q k
  unfold dMul at hc
  split at hc
  · split at hc
    · rename_i hm
      cases hc
      exact ⟨_, _, rp_int ra, rp_int rb, hm, k _ Hs H (gw0 ex) (.int _)⟩
    · cases hc
  · cases hc
def dDiv : D → D → Option D
  | .int i, .int j => if CDivW i j then some (.int (i / j)) else none
  | _, _ => none
theorem op2_div : Op2 K (rI CDivW fun i j => .int (i / j)) dDiv := by
  intro a b c hc Hs H x y ex ra rb Q k
  unfold dDiv at hc
  split at hc
  · split at hc
    · rename_i hm
      cases hc
      exact ⟨_, _, rp_int ra, rp_int rb, hm, k _ Hs H (gw0 ex) (.int _)⟩
    · cases hc
  · cases hc
def dMod : D → D → Option D
  | .int i, .int j => if 0 < j then some (.int (i % j)) else none
  | _, _ => none
theorem op2_mod : Op2 K (rI (fun _ j => 0 < j) fun i j => .int (i % j)) dMod := by
  intro a b c hc Hs H x y ex ra rb Q k
  unfold dMod at hc
  split at hc
  · split at hc
    · rename_i hm
      cases hc
      exact ⟨_, _, rp_int ra, rp_int rb, hm, k _ Hs H (gw0 ex) (.int _)⟩
    · cases hc
  · cases hc
instance (i j : Int) : Decidable (CPow i j) := by unfold CPow; infer_instance
def dPow : D → D → Option D
  | .int i, .int j => if CPow i j then some (.int (i ^ j.toNat)) else none
  | _, _ => none
theorem op2_pow : Op2 K (rI CPow fun i j => .int (i ^ j.toNat)) dPow := by
  intro a b c hc Hs H x y ex ra rb Q k
  unfold dPow at hc
  split at hc
  · split at hc
    · rename_i hm
      cases hc
      exact ⟨_, _, rp_int ra, rp_int rb, hm, k _ Hs H (gw0 ex) (.int _)⟩
    · cases hc
  · cases hc
def dShr : D → D → Option D
  | .int i, .int j => if 0 ≤ j then some (.int (i / 2 ^ j.toNat)) else none
  | _, _ => none
theorem op2_shr : Op2 K (rI (fun _ j => 0 ≤ j) fun i j => .int (i / 2 ^ j.toNat)) dShr := by
  intro a b c hc Hs H x y ex ra rb Q k
  unfold dShr at hc
  split at hc
  · split at hc
    · rename_i hm
      cases hc
      exact ⟨_, _, rp_int ra, rp_int rb, hm, k _ Hs H (gw0 ex) (.int _)⟩
    · cases hc
  · cases hc
def dShl : D → D → Option D
  | .int i, .int j => if CPow i j then some (.int (i * 2 ^ j.toNat)) else none
  | _, _ => none
theorem op2_shl : Op2 K (rI CPow fun i j => .int (i * 2 ^ j.toNat)) dShl := by
  intro a b c hc Hs H x y ex ra rb Q k
  unfold dShl at hc
  split at hc
  · split at hc
    · rename_i hm
      cases hc
      exact ⟨_, _, rp_int ra, rp_int rb, hm, k _ Hs H (gw0 ex) (.int _)⟩
    · cases hc
  · cases hc
def dNeg : D → Option D
  | .int i => some (.int (-i))
  | _ => none
theorem op1_neg : Op1 K (rU fun i => .int (-i)) dNeg := by
  intro a c hc Hs H x ex ra Q k
  unfold dNeg at hc
  split at hc
  · cases hc
    exact ⟨_, rp_int ra, k _ Hs H (gw0 ex) (.int _)⟩
  · cases hc
/-! ### comparisons -/
def dCmp (p : Int → Int → Bool) : D → D → Option D
  | .int i, .int j => some (.bl (p i j))
  | _, _ => none
theorem op2_cmp (p : Int → Int → Bool) : Op2 K (rI0 fun i j => .bl (p i j)) (dCmp p) := by
  intro a b c hc Hs H x y ex ra rb Q k
  unfold dCmp at hc
  split at hc
  · cases hc
    exact ⟨_, _, rp_int ra, rp_int rb, k _ Hs H (gw0 ex) (.bl _)⟩
  · cases hc
def iLt (i j : Int) : Bool := decide (i < j)
def iLe (i j : Int) : Bool := decide (i ≤ j)
def iGt (i j : Int) : Bool := decide (j < i)
def iGe (i j : Int) : Bool := decide (j ≤ i)
mutual
/-- a datum as the library's -/
def toP : D → PyData
  | .non => .none
  | .bl b => .bool b
  | .int i => .int i
  | .str x => .str x
  | .tup l => .tuple (toPs l)
  | .lst l => .list (toPs l)
  | .dic _ => .dict []
  | .obj _ _ => .dict []
def toPs : List D → List PyData
  | [] => []
  | d :: ds => toP d :: toPs ds
end
mutual
theorem rp_dp {H : Hp} : ∀ {v : V} {d : D}, (toP d).canLay0 = true → Rp K H v d → Dp K H v (toP d)
  | _, .non, _, .non => .non
  | _, .bl b, _, .bl _ => .bl b
  | _, .int i, _, .int _ => .int i
  | _, .str x, _, .str _ => .str x
  | _, .tup l, h, .tup h1 h2 => .tup (SqT.of h1) (rpl_dp h h2)
  | _, .lst l, h, .lst h1 h2 => .lst h1 (rpl_dp h h2)
  | _, .dic _, h, _ => nomatch h
  | _, .obj _ _, h, _ => nomatch h
theorem rpl_dp {H : Hp} : ∀ {v : List V} {d : List D}, PyData.canLayAll0 (toPs d) = true → RpL K H v d → DpAll K H v (toPs d)
  | _, [], _, .nil => .nil
  | _, d :: ds, h, .cons h1 h2 => by
    have h' : (toP d).canLay0 = true ∧ PyData.canLayAll0 (toPs ds) = true := by simpa [toPs, PyData.canLayAll0] using h
    exact .cons (rp_dp h'.1 h1) (rpl_dp h'.2 h2)
end
theorem lay_of {d : PyData} (h : SeqAt.shaped d = true) : d.canLay0 = true := SeqAt.canLay_of_shaped h
def dEq (a b : D) : Option D := if SeqAt.shaped (toP a) && SeqAt.shaped (toP b) then some (.bl (PyData.eqv (toP a) (toP b))) else none
def dNe (a b : D) : Option D := if SeqAt.shaped (toP a) && SeqAt.shaped (toP b) then some (.bl (!PyData.eqv (toP a) (toP b))) else none
theorem op2_eq : Op2 K (rEqD K) dEq := by
  intro a b c hc Hs H x y ex ra rb Q k
  unfold dEq at hc
  split at hc
  · rename_i h
    obtain ⟨h1, h2⟩ := Bool.and_eq_true_iff.mp h
    cases hc
    exact ⟨_, _, rp_dp (lay_of h1) (ra.mono ex), rp_dp (lay_of h2) (rb.mono ex), h1, h2, k _ Hs H (gw0 ex) (.bl _)⟩
  · cases hc
theorem op2_ne : Op2 K (rNeD K) dNe := by
  intro a b c hc Hs H x y ex ra rb Q k
  unfold dNe at hc
  split at hc
  · rename_i h
    obtain ⟨h1, h2⟩ := Bool.and_eq_true_iff.mp h
    cases hc
    exact ⟨_, _, rp_dp (lay_of h1) (ra.mono ex), rp_dp (lay_of h2) (rb.mono ex), h1, h2, k _ Hs H (gw0 ex) (.bl _)⟩
  · cases hc
/-- is None, is not None -/
def isNon : D → Bool
  | .non => true
  | _ => false
def dIsN (a b : D) : Option D := match b with
  | .non => some (.bl (isNon a))
  | _ => none
def dNotN (a b : D) : Option D := match b with
  | .non => some (.bl (!isNon a))
  | _ => none
theorem rp_non_iff {H : Hp} {v : V} {d : D} (r : Rp K H v d) : decide (v = .non) = isNon d := by
  cases r <;> rfl
theorem op2_isN : Op2 K (fun x y H Q => y = .non ∧ Q (.bl (decide (x = .non))) H) dIsN := by
  intro a b c hc Hs H x y ex ra rb Q k
  unfold dIsN at hc
  split at hc
  · cases hc
    refine ⟨rp_non rb, ?_⟩
    rw [rp_non_iff ra]
    exact k _ Hs H (gw0 ex) (.bl _)
  · cases hc
theorem op2_notN : Op2 K (fun x y H Q => y = .non ∧ Q (.bl (!decide (x = .non))) H) dNotN := by
  intro a b c hc Hs H x y ex ra rb Q k
  unfold dNotN at hc
  split at hc
  · cases hc
    refine ⟨rp_non rb, ?_⟩
    rw [rp_non_iff ra]
    exact k _ Hs H (gw0 ex) (.bl _)
  · cases hc
/-! ### items -/
def dIx : D → D → Option D
  | .lst ds, .int i => atD ds i
  | .tup ds, .int i => atD ds i
  | .str z, .int i => if z.length ≤ LIM then (atI z.cps.toList i).map fun c => .str ⟨#[c]⟩ else none
  | _, _ => none
theorem op2_ix : Op2 K (rIx K) dIx := by
  intro a b c hc Hs H x y ex ra rb Q k
  unfold dIx at hc
  split at hc
  · rename_i ds i
    cases ra with
    | lst h1 h2 =>
      obtain ⟨v, hv, rv⟩ := rpl_atI h2 hc
      exact .inl ⟨_, _, i, v, rfl, rp_int rb, (ex.l h1), hv, k _ Hs H (gw0 ex) rv⟩
  · rename_i ds i
    cases ra with
    | tup h1 h2 =>
      obtain ⟨v, hv, rv⟩ := rpl_atI h2 hc
      exact .inr (.inl ⟨_, _, i, v, rfl, rp_int rb, SqT.of (ex _ _ h1), hv, k _ Hs H (gw0 ex) rv⟩)
  · rename_i z i
    split at hc
    · rename_i hl
      obtain ⟨ch, h1, rfl⟩ := Option.map_eq_some_iff.mp hc
      exact .inr (.inr ⟨z, i, ch, rp_str ra, rp_int rb, lim_le hl, h1, k _ Hs H (gw0 ex) (.str _)⟩)
    · cases hc
  · cases hc
/-! ### built-ins -/
def dLen : List D → Option D
  | [.lst ds] => some (.int ds.length)
  | [.tup ds] => some (.int ds.length)
  | [.str z] => if z.length ≤ LIM then some (.int z.length) else none
  | [.dic ds] => some (.int ds.length)
  | _ => none
theorem opL_len : OpL K (rLenA K) dLen := by
  intro as c hc Hs H xs ex rs Q k
  unfold dLen at hc
  split at hc
  · cases hc
    obtain ⟨x, rfl, rx⟩ := rpl1 rs
    cases rx with
    | lst h1 h2 => exact .inl ⟨_, _, rfl, .inl ⟨_, (ex.l h1), rfl⟩, by rw [h2.len]; exact k _ Hs H (gw0 ex) (.int _)⟩
  · cases hc
    obtain ⟨x, rfl, rx⟩ := rpl1 rs
    cases rx with
    | tup h1 h2 => exact .inl ⟨_, _, rfl, .inr ⟨_, SqT.of (ex _ _ h1), rfl⟩, by rw [h2.len]; exact k _ Hs H (gw0 ex) (.int _)⟩
  · split at hc
    · rename_i z hl
      cases hc
      obtain ⟨x, rfl, rx⟩ := rpl1 rs
      have := rp_str rx
      subst this
      exact .inl ⟨_, _, rfl, ⟨lim_le hl, rfl⟩, k _ Hs H (gw0 ex) (.int _)⟩
    · cases hc
  · cases hc
    obtain ⟨x, rfl, rx⟩ := rpl1 rs
    cases rx with
    | dic h1 h2 => exact .inr (.inl ⟨_, _, rfl, ex _ _ h1, by rw [rpa_len h2]; exact k _ Hs H (gw0 ex) (.int _)⟩)
  · cases hc
def dMax2 : List D → Option D
  | [.int i, .int j] => some (.int (if j > i then j else i))
  | _ => none
theorem opL_max2 : OpL K (fun xs H Q => ∃ i j, xs = [.int i, .int j] ∧ Q (.int (if j > i then j else i)) H) dMax2 := by
  intro as c hc Hs H xs ex rs Q k
  unfold dMax2 at hc
  split at hc
  · cases hc
    obtain ⟨x, y, rfl, rx, ry⟩ := rpl2 rs
    have := rp_int rx
    subst this
    have := rp_int ry
    subst this
    exact ⟨_, _, rfl, k _ Hs H (gw0 ex) (.int _)⟩
  · cases hc
def dMin2 : List D → Option D
  | [.int i, .int j] => some (.int (if j < i then j else i))
  | _ => none
theorem opL_min2 : OpL K (fun xs H Q => ∃ i j, xs = [.int i, .int j] ∧ Q (.int (if j < i then j else i)) H) dMin2 := by
  intro as c hc Hs H xs ex rs Q k
  unfold dMin2 at hc
  split at hc
  · cases hc
    obtain ⟨x, y, rfl, rx, ry⟩ := rpl2 rs
    have := rp_int rx
    subst this
    have := rp_int ry
    subst this
    exact ⟨_, _, rfl, k _ Hs H (gw0 ex) (.int _)⟩
  · cases hc
def dList : List D → Option D
  | [.lst ds] => some (.lst ds)
  | [.tup ds] => some (.lst ds)
  | _ => none
abbrev rListOf (K : PySem.W.Frag) : List V → Hp → VK → Prop := fun xs H Q => ∃ p ys, xs = [.ref p] ∧ (SqL K H p ys ∨ SqT K H p ys) ∧ ∀ l, H l = none → Q (.ref l) (upd H l (.lst ys))
theorem opL_list : OpL K (rListOf K) dList := by
  intro as c hc Hs H xs ex rs Q k
  unfold dList at hc
  split at hc
  · cases hc
    obtain ⟨x, rfl, rx⟩ := rpl1 rs
    cases rx with
    | lst h1 h2 =>
      refine ⟨_, _, rfl, .inl ((ex.l h1)), fun p hp => ?_⟩
      exact gw_lst ex hp h2 k
  · cases hc
    obtain ⟨x, rfl, rx⟩ := rpl1 rs
    cases rx with
    | tup h1 h2 =>
      refine ⟨_, _, rfl, .inr (SqT.of (ex _ _ h1)), fun p hp => ?_⟩
      exact gw_lst ex hp h2 k
  · cases hc
def dTuple : List D → Option D
  | [.lst ds] => some (.tup ds)
  | [.tup ds] => some (.tup ds)
  | _ => none
abbrev rTupOf (K : PySem.W.Frag) : List V → Hp → VK → Prop := fun xs H Q => ∃ p ys, xs = [.ref p] ∧ ((SqL K H p ys ∧ ∀ l, H l = none → Q (.ref l) (upd H l (.tup ys))) ∨ (SqT K H p ys ∧ Q (.ref p) H))
theorem opL_tuple : OpL K (rTupOf K) dTuple := by
  intro as c hc Hs H xs ex rs Q k
  unfold dTuple at hc
  split at hc
  · cases hc
    obtain ⟨x, rfl, rx⟩ := rpl1 rs
    cases rx with
    | lst h1 h2 =>
      refine ⟨_, _, rfl, .inl ⟨(ex.l h1), fun p hp => ?_⟩⟩
      exact gw_tup ex hp h2 k
  · cases hc
    obtain ⟨x, rfl, rx⟩ := rpl1 rs
    cases rx with
    | tup h1 h2 => exact ⟨_, _, rfl, .inr ⟨SqT.of (ex _ _ h1), k _ Hs H (gw0 ex) (.tup h1 h2)⟩⟩
  · cases hc
def dInt1 : List D → Option D
  | [.int i] => some (.int i)
  | [.bl b] => some (.int (if b then 1 else 0))
  | _ => none
theorem opL_int1 : OpL K (fun xs H Q => (∃ i, xs = [.int i] ∧ Q (.int i) H) ∨ ∃ k, xs = [.bl k] ∧ Q (.int (if k then 1 else 0)) H) dInt1 := by
  intro as c hc Hs H xs ex rs Q k
  unfold dInt1 at hc
  split at hc
  · cases hc
    obtain ⟨x, rfl, rx⟩ := rpl1 rs
    exact .inl ⟨_, by rw [rp_int rx], k _ Hs H (gw0 ex) (.int _)⟩
  · cases hc
    obtain ⟨x, rfl, rx⟩ := rpl1 rs
    exact .inr ⟨_, by rw [rp_bl rx], k _ Hs H (gw0 ex) (.int _)⟩
  · cases hc
def dDivmod : List D → Option D
  | [.int i, .int j] => if 0 < j ∧ j < 1073741824 then some (.tup [.int (i / j), .int (i % j)]) else none
  | _ => none
theorem opL_divmod : OpL K (fun xs H Q => ∃ i j, xs = [.int i, .int j] ∧ CDiv i j ∧ ∀ p, H p = none → Q (.ref p) (upd H p (.tup [.int (i / j), .int (i % j)]))) dDivmod := by
  intro as c hc Hs H xs ex rs Q k
  unfold dDivmod at hc
  split at hc
  · split at hc
    · rename_i hj
      cases hc
      obtain ⟨x, y, rfl, rx, ry⟩ := rpl2 rs
      have := rp_int rx
      subst this
      have := rp_int ry
      subst this
      refine ⟨_, _, rfl, hj, fun p hp => ?_⟩
      exact gw_tup ex hp (.cons (.int _) (.cons (.int _) .nil)) k
    · cases hc
  · cases hc
/-- all of truth values -/
def bools : List D → Option (List Bool)
  | [] => some []
  | .bl b :: ds => (bools ds).map (b :: ·)
  | _ => none
theorem rpl_bools {H : Hp} : ∀ {vs : List V} {ds : List D} {bs : List Bool}, RpL K H vs ds → bools ds = some bs → vs = bs.map V.bl
  | _, [], _, .nil, h => by cases h; rfl
  | _, d :: ds, _, .cons r rs, h => by
    cases d with
    | bl b =>
      obtain ⟨bs, h1, rfl⟩ := Option.map_eq_some_iff.mp (show (bools ds).map (b :: ·) = some _ from h)
      rw [List.map_cons, rp_bl r, rpl_bools rs h1]
    | _ => cases h
def dAll : List D → Option D
  | [.lst ds] => (bools ds).map fun bs => .bl (bs.all id)
  | _ => none
theorem opL_all : OpL K (rAll K) dAll := by
  intro as c hc Hs H xs ex rs Q k
  unfold dAll at hc
  split at hc
  · obtain ⟨bs, h1, rfl⟩ := Option.map_eq_some_iff.mp hc
    obtain ⟨x, rfl, rx⟩ := rpl1 rs
    cases rx with
    | lst g1 g2 =>
      have := rpl_bools g2 h1
      subst this
      exact ⟨_, bs, rfl, (ex.l g1), k _ Hs H (gw0 ex) (.bl _)⟩
  · cases hc
def intsD : List D → Option (List Int)
  | [] => some []
  | .int b :: ds => (intsD ds).map (b :: ·)
  | _ => none
theorem rpl_intsD {H : Hp} : ∀ {vs : List V} {ds : List D} {bs : List Int}, RpL K H vs ds → intsD ds = some bs → vs = bs.map V.int
  | _, [], _, .nil, h => by cases h; rfl
  | _, d :: ds, _, .cons r rs, h => by
    cases d with
    | int b =>
      obtain ⟨bs, h1, rfl⟩ := Option.map_eq_some_iff.mp (show (intsD ds).map (b :: ·) = some _ from h)
      rw [List.map_cons, rp_int r, rpl_intsD rs h1]
    | _ => cases h
def dSum : List D → Option D
  | [.lst ds] => (intsD ds).map fun bs => .int bs.sum
  | _ => none
theorem opL_sum : OpL K (rSum K) dSum := by
  intro as c hc Hs H xs ex rs Q k
  unfold dSum at hc
  split at hc
  · obtain ⟨bs, h1, rfl⟩ := Option.map_eq_some_iff.mp hc
    obtain ⟨x, rfl, rx⟩ := rpl1 rs
    cases rx with
    | lst g1 g2 =>
      have := rpl_intsD g2 h1
      subst this
      exact ⟨_, bs, rfl, (ex.l g1), k _ Hs H (gw0 ex) (.int _)⟩
  · cases hc
/-! ### isinstance against a built-in type -/
def tyN : D → Option String
  | .non => some "NoneType"
  | .bl _ => some "bool"
  | .int _ => some "int"
  | .str _ => some "str"
  | .tup _ => some "tuple"
  | .lst _ => some "list"
  | .dic _ => some "dict"
  | .obj _ _ => none
end
end Fw
end

section
set_option Elab.async false
set_option linter.all false
set_option autoImplicit false
set_option maxRecDepth 100000
set_option maxHeartbeats 4000000
/-! FwT: enumerate of a tuple. -/
namespace PySem
open Sem (wp)
open AutoSeq1 (wpAny_loadPart')
theorem fw_enumerate_newT (l : Addr) (items : Array Value) (n : Nat) (dct : Option Addr) (sl : Array (Option Value)) :
    Meets (Builtin.«enumerate.__new__» ⟨[.type "enumerate", .ref l], []⟩) (fun _ R s => s.heap.get? l = some { cls := .type "tuple", dict := dct, data := .seq items n, slots := sl } ∧
      R (.ok (.ret (.ref (s.heap.push { cls := .type "tuple_iterator", data := .fields #[.ref l, .int 0 0] }).objs.size)))
        { s with heap := (s.heap.push { cls := .type "tuple_iterator", data := .fields #[.ref l, .int 0 0] }).push { cls := .type "enumerate", data := .fields #[.none, .bool false, .ref s.heap.objs.size, rawInt 0, .none, .none] } }) :=
  .of_wp fun prog w A R s h => by
    obtain ⟨hp, g, d, tk, os⟩ := s; obtain ⟨hl, h⟩ := h
    have hsub := sub_enumerate
    have hL : Heap.IsTuple (Shared.heap ⟨hp, g, d, tk, os⟩) l items := ⟨_, hl, rfl, n, rfl⟩
    wp_walk using wpAny_loadPart' hl
    refine wpAny_stack_any fun st => wpAny_pure ?_
    split
    · rename_i c _ _ _ _ _
      cases (c == Value.type "enumerate")
      · wp_walk using wpAny_loadPart' hl, wpAny_pyIter_tuple hL
        exact ⟨_, rfl, h⟩
      · wp_walk using wpAny_loadPart' hl, wpAny_pyIter_tuple hL
        exact ⟨_, rfl, h⟩
    · wp_walk using wpAny_loadPart' hl, wpAny_pyIter_tuple hL
      exact ⟨_, rfl, h⟩
section
variable {prog : Program} {w : World} {A : Around} {E : Value → Shared → Prop} {s : Shared}
theorem fw_enumerate_tuple {l : Addr} {items : Array Value} {Q : Value → Shared → Prop} (hL : s.heap.IsTuple l items)
    (h : ∀ h', IsEnum h' (s.heap.objs.size + 1) s.heap.objs.size 0 .none → h'.IsTupleIter s.heap.objs.size l 0 → h'.objs.size = s.heap.objs.size + 2 →
      (∀ b o, s.heap.get? b = some o → h'.get? b = some o) → Q (.ref (s.heap.objs.size + 1)) { s with heap := h' }) :
    wpAny (model prog w) A (call (.type "enumerate") [.ref l]) Q E s := by
  obtain ⟨⟨c, dct, dt, sl⟩, hl, hc, n, hd⟩ := hL
  replace hc : c = .type "tuple" := hc
  replace hd : dt = .seq items n := hd
  subst hc hd
  refine callType_new F.called_enumerate (by decide) (F.typeCall_enumerate_1 _) (F.newCall_enumerate_1 _) (fun obj => F.args_object_init_2 obj _) F.entry_enumerate_new
    (fw_enumerate_newT l items n dct sl) ⟨hl, ?_⟩
  have hz : (s.heap.push { cls := .type "tuple_iterator", data := .fields #[.ref l, .int 0 0] }).objs.size = s.heap.objs.size + 1 := Heap.size_push ..
  show _ ∧ _
  rw [hz]
  have he : IsEnum ((s.heap.push { cls := .type "tuple_iterator", data := .fields #[.ref l, .int 0 0] }).push
      { cls := .type "enumerate", data := .fields #[.none, .bool false, .ref s.heap.objs.size, rawInt 0, .none, .none] }) (s.heap.objs.size + 1) s.heap.objs.size 0 .none := by
    have := Heap.get?_push_size (s.heap.push { cls := .type "tuple_iterator", data := .fields #[.ref l, .int 0 0] })
      (o := { cls := .type "enumerate", data := .fields #[.none, .bool false, .ref s.heap.objs.size, rawInt 0, .none, .none] }) rfl
    rw [hz] at this; exact this
  refine ⟨⟨_, he, rfl⟩, h _ he ⟨_, Heap.get?_push_of_some _ (Heap.get?_push_size _ rfl), rfl, rfl⟩ (by rw [Heap.size_push, hz]) fun b o x => Heap.get?_push_of_some _ (Heap.get?_push_of_some _ x)⟩
end
end PySem
namespace Fw
open PySem PySem.Spec PyProof.Rows L2
/-- the tuple at a, each item in a new pair -/
def IteT (K : PySem.W.Frag) (a : Addr) : It :=
  ⟨fun i H => ∃ (xs : List V) (x : V), SqT K H a xs ∧ xs[i]? = some x, fun i H v H' => ∃ T x, v = .ref T ∧ H T = none ∧ H' = upd H T (.tup [.int (i : Nat), x]) ∧ ∀ xs, SqT K H a xs → xs[i]? = some x, fun i H => ∃ xs : List V, SqT K H a xs ∧ xs.length ≤ i⟩
theorem turn_enumT {P : Program} {w : World} {K : PySem.W.Frag} {elts : List Expr} {kk : Nat} {tpos : Pos} (a e it : Addr) :
    Turn P w K (.Tuple elts kk tpos) (IteT K a) [e, it] e (fun i h => (∃ old, IsEnum h e it ((i : Nat) : Int) old) ∧ h.IsTupleIter it a i ∧ e ≠ it) where
  mem := by simp
  obj := fun i h st b hb => by
    obtain ⟨⟨old, he⟩, ⟨o, ho, hc, hd⟩, _⟩ := st
    have e' : b = e ∨ b = it := by simpa using hb
    rcases e' with z | z
    · rw [z]; exact ⟨_, he, fun v q => nomatch q⟩
    · rw [z]; exact ⟨o, ho, fun v q => by rw [hd] at q; cases q⟩
  keep := fun i h h' st k => let ⟨⟨old, he⟩, hi, hne⟩ := st; ⟨⟨old, k e (by simp) _ he⟩, hi.at fun o q => k it (by simp) o q, hne⟩
  item := by
    intro X hP hw hK hc i pins s σ H E I hf st hg
    subst hP hw hK
    obtain ⟨⟨old, he⟩, hit, hne⟩ := st
    obtain ⟨xs, x, hq, hx⟩ := hg
    obtain ⟨its, rv, p, hz⟩ := I.tuple hq
    obtain ⟨u, hu, ru⟩ := rv.get hx
    have hel : e < s.heap.objs.size := Heap.lt_size he
    have hil : it < s.heap.objs.size := by obtain ⟨_, q, _⟩ := hit; exact Heap.lt_size q
    have hp : s.heap.IsTuple a its.toArray := p
    have hai : a ≠ it := fun z => by
      subst z
      obtain ⟨o, ho, hc1, _⟩ := hp
      obtain ⟨o2, ho2, hc2, _⟩ := hit
      rw [ho] at ho2
      cases ho2
      rw [hc1] at hc2
      exact absurd hc2 (by simp)
    have hae : e ≠ a := fun z => by
      subst z
      obtain ⟨o, ho, hc1, _⟩ := hp
      have he2 : s.heap.get? e = some _ := he
      rw [ho] at he2
      cases he2
      exact absurd hc1 (by simp)
    have hi : i < its.toArray.size := by
      rw [List.size_toArray]
      exact (List.getElem?_eq_some_iff.mp hu).1
    refine wpAny_pyNext_enum_itemD (Draws.tuple (A := X.A.in1) (show X.A.in1.handled = none from I.ok.hd hc) it a hai its.toArray) he ⟨hit, hp⟩ hi hne (by simp [hne, hae]) fun y h' tk hy ho st' hT hsz hk => ?_
    have hyu : y = u := by
      have : its[i]? = some y := by simpa using hy
      rw [hu] at this
      exact (Option.some.inj this).symm
    subst hyu
    refine ⟨_, rfl, wpAny_letOwnedTupleGo_enum (s := { s with heap := h', toks := tk + 1 }) ho fun h'' he' sb => ?_⟩
    have hT2 : h''.get? s.heap.objs.size = some { cls := .type "tuple", data := .seq #[.int i tk, y] } := (sb.2 _ (Nat.ne_of_gt hel)).trans hT
    have new : ObjOk X.prog X.w (upd H s.heap.objs.size (.tup [.int (i : Nat), x])) h'' s.heap.objs.size (.tup [.int (i : Nat), x]) :=
      ⟨by show 2 ≤ sizeLine; decide, [.int i tk, y], .cons ⟨_, rfl⟩ (.cons ru .nil), ⟨_, hT2, rfl, _, rfl⟩⟩
    have I1 : Inv X pins σ (upd H s.heap.objs.size (.tup [.int (i : Nat), x])) { s with heap := h'', toks := tk + 1 } :=
      I.turnedNew (ch := [e, it]) (fun b ob hb q => (sb.2 b (fun z => hb (by simp [z]))).trans (hk b ob (fun z => hb (by simp [z])) (fun z => hb (by simp [z])) q)) hf (Nat.le_refl _) new
    refine ⟨.ref s.heap.objs.size, _, I1, rfl, ⟨_, x, rfl, I.hok.fresh (Nat.le_refl _), rfl, fun ys hy => by rw [I.tuple_inj hy hq]; exact hx⟩, ⟨⟨y, ?_⟩, st'.1.at fun o q => (sb.2 it (Ne.symm hne)).trans q, hne⟩, fun b hb => ?_⟩
    · have e1 : ((i + 1 : Nat) : Int) = (i : Int) + 1 := by omega
      rw [e1]; exact he'
    · have hb' : b < s.heap.objs.size := by
        have e' : b = e ∨ b = it := by simpa using hb
        rcases e' with z | z
        · rw [z]; exact hel
        · rw [z]; exact hil
      rw [upd_ne (Nat.ne_of_lt hb')]
      exact (hf b hb).1
  done := by
    intro X hP hw hK hc i pins s σ H E I hf st hg
    subst hP hw hK
    obtain ⟨⟨old, he⟩, hit, hne⟩ := st
    obtain ⟨xs, hq, hx⟩ := hg
    obtain ⟨its, rv, p, hz⟩ := I.tuple hq
    have hp : s.heap.IsTuple a its.toArray := p
    obtain ⟨f0, f1, f2, f3, f4, f5⟩ := hf it (by simp)
    have hl := rv.length
    have hai : a ≠ it := fun z => by
      subst z
      obtain ⟨o, ho, hc1, _⟩ := hp
      obtain ⟨o2, ho2, hc2, _⟩ := hit
      rw [ho] at ho2
      cases ho2
      rw [hc1] at hc2
      exact absurd hc2 (by simp)
    have hT : s.TypeIs (.ref e) "enumerate" := ⟨_, he, rfl⟩
    unfold pyNext
    refine wpAny_bind (wpAny_attempt (wpAny_callSpecial?_slot (name := Str.ofString "__next__") hT PySem.F.slot_enumerate_next
      (wpAny_call_entry PySem.F.slot_enumerate_next hT PySem.F.entry_enumerate_next ?_ (PySem.F.args_enumerate_next_1 _))))
    show wpAny _ _ (field (.ref e) 2 >>= _) _ _ _
    refine wpAny_bind (wpAny_field he rfl (x := .ref it) rfl ?_)
    refine wpAny_bind (wpAny_nextOf_tuple_end (show X.A.in1.handled = none from I.ok.hd hc) hit hp (by simp; omega) fun h' x he' hx' => ?_)
    obtain ⟨o, ho, hc⟩ := hx'
    refine wpAny_bind (wpAny_isInstance (T := "StopIteration") (b := true) ⟨o, ho, hc⟩ isSubtype_stop ?_)
    exact wpAny_pure ⟨rfl, I.turned (t' := s.toks) (fun b o hb e => he' b o hb e) f0 f1 f3 f4 f5⟩
  self := fun A i s Q E st h => let ⟨⟨_, he⟩, _⟩ := st; wpAny_pyIter_enum he h
def iEnumTt (K : PySem.W.Frag) (ta : TA) : TI := fun σ H R => ta σ H fun vs H1 => ∃ a xs, vs = [.ref a] ∧ SqT K H1 a xs ∧ R (IteT K a) H1
theorem pi_enumT {X : Cx} {e : Expr} {ta : TA} {p pos tpos : Pos} {elts : List Expr} {kk : Nat} (hg : Gl X "enumerate") (hm : X.mg "enumerate" = none) (ha : PA X [e] ta) (hs : starEach [e] X.env = [(false, eval e X.env)] := by rfl) :
    PI X (.Tuple elts kk tpos) (.Call (.Name "enumerate" p) [e] [] pos) (iEnumTt X.K ta) := by
  refine ⟨fun pins s σ H R I h => ?_⟩
  refine Call_ (ld_blt I hg hm boot_enumerate (PyProof.Rows.callWith_type1 (thn (ha.run pos pins s σ H _ I h) fun us s1 ⟨vs, H1, I1, r1, q1⟩ => ?_) hs rfl))
  obtain ⟨a, xs, ex, hq, q⟩ := q1
  subst ex
  cases r1 with
  | cons r rr =>
    cases rr
    cases r
    obtain ⟨its, rv, p', hz⟩ := I1.tuple hq
    refine fw_enumerate_tuple (show s1.heap.IsTuple a its.toArray from p') fun h' he hit hsz hk => wpAny_pyIter_enum he ?_
    have I2 : Inv X pins σ H1 { s1 with heap := h' } := I1.kept (t' := s1.toks) hk
    refine ⟨s1.heap.objs.size + 1, [s1.heap.objs.size + 1, s1.heap.objs.size], _, _, H1, rfl, I2, turn_enumT a (s1.heap.objs.size + 1) s1.heap.objs.size, ⟨⟨.none, he⟩, hit, Nat.succ_ne_self _⟩, fun b hb => ?_, q⟩
    have e' : b = s1.heap.objs.size + 1 ∨ b = s1.heap.objs.size := by simpa using hb
    have hle : s1.heap.objs.size ≤ b := by
      rcases e' with z | z
      · rw [z]; exact Nat.le_add_right _ _
      · rw [z]; exact Nat.le_refl _
    exact I1.fpOk hle (I1.hok.fresh hle)
end Fw
end

section
set_option Elab.async false
set_option linter.all false
set_option autoImplicit false
set_option maxRecDepth 100000
set_option maxHeartbeats 4000000
/-! Fw8: enumerate, chains, slices, isinstance. -/
namespace Fw
open PySem PySem.Spec PyProof.Rows L2
/-! ### enumerate of a list -/
def numD (ds : List D) : List D := ds.mapIdx fun i d => .tup [.int (i : Nat), d]
theorem numD_get {ds : List D} {i : Nat} {e : D} (h : (numD ds)[i]? = some e) : ∃ d, ds[i]? = some d ∧ e = .tup [.int (i : Nat), d] := by
  unfold numD at h
  rw [List.getElem?_mapIdx] at h
  obtain ⟨d, h1, h2⟩ := Option.map_eq_some_iff.mp h
  exact ⟨d, h1, h2.symm⟩
theorem numD_len {ds : List D} : (numD ds).length = ds.length := List.length_mapIdx
section
variable {K : PySem.W.Frag} {Hs : Hp}
theorem yields_enum {a : Addr} {xs : List V} {ds : List D} (h : SqL K Hs a xs) (r : RpL K Hs xs ds) : Yields K (Ite K a) (numD ds) Hs where
  go := fun i d e H ex => by
    obtain ⟨d', h1, rfl⟩ := numD_get e
    obtain ⟨v, hv, _⟩ := r.get h1
    exact ⟨xs, v, ex.l h, hv⟩
  yld := fun i d e Hs2 H x H' ex ex2 y => by
    obtain ⟨d', h1, rfl⟩ := numD_get e
    obtain ⟨v, hv, rv⟩ := r.get h1
    obtain ⟨T, u, rfl, hT, rfl, q⟩ := y
    have := q xs ((ex.trans ex2).l h)
    rw [hv] at this
    cases this
    refine ⟨upd Hs2 T (.tup [.int (i : Nat), v]), .new ex2 hT, .tup upd_same (.cons (.int _) (.cons ?_ .nil))⟩
    exact rv.mono (ex.trans (Gw.new ex2 hT).s)
  stop := fun i hi H ex => ⟨xs, ex.l h, by rw [numD_len] at hi; rw [r.len]; exact hi⟩
end
theorem yields_enumT {K : PySem.W.Frag} {Hs : Hp} {a : Addr} {xs : List V} {ds : List D} (h : SqT K Hs a xs) (r : RpL K Hs xs ds) : Yields K (IteT K a) (numD ds) Hs where
  go := fun i d e H ex => by
    obtain ⟨d', h1, rfl⟩ := numD_get e
    obtain ⟨v, hv, _⟩ := r.get h1
    exact ⟨xs, v, ex.t h, hv⟩
  yld := fun i d e Hs2 H x H' ex ex2 y => by
    obtain ⟨d', h1, rfl⟩ := numD_get e
    obtain ⟨v, hv, rv⟩ := r.get h1
    obtain ⟨T, u, rfl, hT, rfl, q⟩ := y
    have := q xs ((ex.trans ex2).t h)
    rw [hv] at this
    cases this
    refine ⟨upd Hs2 T (.tup [.int (i : Nat), v]), .new ex2 hT, .tup upd_same (.cons (.int _) (.cons ?_ .nil))⟩
    exact rv.mono (ex.trans (Gw.new ex2 hT).s)
  stop := fun i hi H ex => ⟨xs, ex.t h, by rw [numD_len] at hi; rw [r.len]; exact hi⟩
theorem PI.orr {X : Cx} {tg iter : Expr} {t u : TI} (h : PI X tg iter t) (k : PI X tg iter u) : PI X tg iter (fun σ H R => t σ H R ∨ u σ H R) := ⟨fun pins s σ H R I q => by
  rcases q with q | q
  · exact h.run pins s σ H R I q
  · exact k.run pins s σ H R I q⟩
section
variable {X : Cx} {W : WX} {pos : Pos}
def enumK (as : List D) (ρ : PEnv) : R (List D) := match as with
  | [.lst ds] => .ok (numD ds) ρ
  | [.tup ds] => .ok (numD ds) ρ
  | _ => .no
def iEnumL (f : FE (List D)) : FE (List D) := fun ρ => (f ρ).bind enumK
theorem di_enum {a : Expr} {elts : List Expr} {kk : Nat} {f : FE (List D)} {p tpos : Pos} (hg : Gl X "enumerate") (hm : X.mg "enumerate" = none) (ha : DA X W [a] f) (hs : starEach [a] X.env = [(false, eval a X.env)] := by rfl) :
    DI X W (.Tuple elts kk tpos) (.Call (.Name "enumerate" p) [a] [] pos) (iEnumL f) := by
  obtain ⟨ta, pa, qa⟩ := ha
  refine ⟨_, PI.orr (pi_enum hg hm pa hs) (pi_enumT hg hm pa hs), fun ρ Hs Fr σ H Q rl qq => ?_⟩
  have fin : ∀ as ρ1 vs Hs1 H1, Ex Hs Hs1 → Rel X.K ρ1 Hs1 Fr σ H1 → RpL X.K Hs1 vs as → PstI X.K W Fr σ Hs1 Q (enumK as ρ1) →
      (∃ ds, as = [.lst ds] ∧ ∃ a xs, vs = [.ref a] ∧ SqL X.K H1 a xs ∧ Q (Ite X.K a) H1) ∨ (∃ ds, as = [.tup ds] ∧ ∃ a xs, vs = [.ref a] ∧ SqT X.K H1 a xs ∧ Q (IteT X.K a) H1) := by
    intro as ρ1 vs Hs1 H1 e1 r1 p1 q1
    unfold enumK at q1
    split at q1
    · rename_i ds
      obtain ⟨x, rfl, rx⟩ := rpl1 p1
      cases rx with
      | lst h1 h2 => exact .inl ⟨_, rfl, _, _, rfl, r1.hs.l h1, q1 _ Hs1 H1 (Ex.refl _) r1 (yields_enum h1 h2)⟩
    · rename_i ds
      obtain ⟨x, rfl, rx⟩ := rpl1 p1
      cases rx with
      | tup h1 h2 => exact .inr ⟨_, rfl, _, _, rfl, SqT.of (r1.hs _ _ h1), q1 _ Hs1 H1 (Ex.refl _) r1 (yields_enumT (SqT.of h1) h2)⟩
    · exact q1.elim
  have isT : (∃ ds ρ1, f ρ = .ok [.tup ds] ρ1) ∨ ¬ ∃ ds ρ1, f ρ = .ok [.tup ds] ρ1 := Classical.em _
  rcases isT with ⟨ds, ρ1', hf⟩ | hn
  · refine .inr (qa ρ Hs Fr σ H _ rl ?_)
    unfold iEnumL at qq
    rw [hf] at qq ⊢
    intro vs Hs1 H1 e1 r1 p1
    rcases fin _ _ vs Hs1 H1 e1 r1 p1 (PstI.mono qq e1) with ⟨_, e, _⟩ | ⟨_, _, z⟩
    · cases e
    · exact z
  · refine .inl (qa ρ Hs Fr σ H _ rl ?_)
    unfold iEnumL at qq
    cases hf : f ρ with
    | no => rw [hf] at qq; exact qq
    | er e ρ1 => rw [hf] at qq; exact qq
    | ok as ρ1 =>
      rw [hf] at qq
      intro vs Hs1 H1 e1 r1 p1
      rcases fin _ _ vs Hs1 H1 e1 r1 p1 (PstI.mono qq e1) with ⟨_, _, z⟩ | ⟨ds, e, _⟩
      · exact z
      · subst e
        exact absurd ⟨ds, ρ1, hf⟩ hn
/-! ### a chain of two comparisons -/
def eChain (o o' : D → D → Option D) (f g h : FE D) : FE D := fun ρ => (f ρ).bind fun a ρ => (g ρ).bind fun b ρ => match o a b with
  | some (.bl true) => (h ρ).bind fun c ρ => liftO (o' b c) ρ
  | some (.bl false) => .ok (.bl false) ρ
  | _ => .no
theorem chain_run {r r' : R2} {o o' : D → D → Option D} {ta tb tc : TE} {f g h : FE D} (ho : Op2 X.K r o) (ho' : Op2 X.K r' o')
    (qa : ∀ (ρ : PEnv) (Hs : Hp) (Fr : FrT) (σ : L2.St) (H : Hp) (Q : VK), Rel X.K ρ Hs Fr σ H → Pst X.K W Fr σ Hs (Rp X.K) Q (f ρ) → ta σ H Q)
    (qb : ∀ (ρ : PEnv) (Hs : Hp) (Fr : FrT) (σ : L2.St) (H : Hp) (Q : VK), Rel X.K ρ Hs Fr σ H → Pst X.K W Fr σ Hs (Rp X.K) Q (g ρ) → tb σ H Q)
    (qc : ∀ (ρ : PEnv) (Hs : Hp) (Fr : FrT) (σ : L2.St) (H : Hp) (Q : VK), Rel X.K ρ Hs Fr σ H → Pst X.K W Fr σ Hs (Rp X.K) Q (h ρ) → tc σ H Q) :
    ∀ (ρ : PEnv) (Hs : Hp) (Fr : FrT) (σ : L2.St) (H : Hp) (Q : VK), Rel X.K ρ Hs Fr σ H → Pst X.K W Fr σ Hs (Rp X.K) Q (eChain o o' f g h ρ) → tChain r r' ta tb tc σ H Q := by
  intro ρ Hs Fr σ H Q rl q
  refine qa ρ Hs Fr σ H _ rl (Pst.bnd q fun a ρ1 x Hs1 H1 e1 r1 p1 q1 => ?_)
  refine qb ρ1 Hs1 Fr σ H1 _ r1 (Pst.bnd q1 fun b ρ2 y Hs2 H2 e2 r2 p2 q2 => ?_)
  cases hc : o a b with
  | none => rw [hc] at q2; exact q2.elim
  | some c =>
    refine ho a b c hc Hs2 H2 x y r2.hs (p1.mono e2) p2 _ fun v Hs3 H3 gw pv => ?_
    rw [hc] at q2
    split at q2
    · rename_i e
      cases e
      refine ⟨true, rp_bl pv, ?_⟩
      rw [if_pos rfl]
      refine qc ρ2 Hs3 Fr σ H3 _ (r2.grow gw) (Pst.bnd (q2.mono gw.s) fun c ρ4 z Hs4 H4 e4 r4 p4 q4 => ?_)
      cases hc2 : o' b c with
      | none => rw [hc2] at q4; exact q4.elim
      | some c2 =>
        rw [hc2] at q4
        exact ho' b c c2 hc2 Hs4 H4 y z r4.hs (p2.mono (gw.s.trans e4)) p4 Q fun v Hs' H' gw' pv => q4 v Hs' H' gw'.s (r4.grow gw') pv
    · rename_i e
      cases e
      refine ⟨false, rp_bl pv, ?_⟩
      rw [if_neg Bool.false_ne_true]
      exact q2 _ Hs3 H3 gw.s (r2.grow gw) (.bl false)
    · exact q2.elim
theorem de_chain {op op' : CmpOp} {r r' : R2} {o o' : D → D → Option D} {a b c : Expr} {f g h : FE D} (hr : OpR X (compareOp op) r) (ho : Op2 X.K r o) (hr' : OpR X (compareOp op') r') (ho' : Op2 X.K r' o')
    (ha : DE X W a f) (hb : DE X W b g) (hc : DE X W c h) (hm : lastMarks [op, op'] [b, c] = false := by with_unfolding_all rfl) : DE X W (.Compare a [op, op'] [b, c] pos) (eChain o o' f g h) := by
  obtain ⟨ta, pa, qa⟩ := ha
  obtain ⟨tb, pb, qb⟩ := hb
  obtain ⟨tc, pc, qc⟩ := hc
  exact ⟨_, pe_chain hr hr' pa pb pc hm, chain_run ho ho' qa qb qc⟩
theorem dt_chain {op op' : CmpOp} {r r' : R2} {o o' : D → D → Option D} {a b c : Expr} {f g h : FE D} (hr : OpR X (compareOp op) r) (ho : Op2 X.K r o) (hr' : OpR X (compareOp op') r') (ho' : Op2 X.K r' o')
    (ha : DE X W a f) (hb : DE X W b g) (hc : DE X W c h) (hm : lastMarks [op, op'] [b, c] = false := by with_unfolding_all rfl) : DT X W (.Compare a [op, op'] [b, c] pos) (tV (eChain o o' f g h)) := by
  obtain ⟨ta, pa, qa⟩ := ha
  obtain ⟨tb, pb, qb⟩ := hb
  obtain ⟨tc, pc, qc⟩ := hc
  refine ⟨_, pt_chain hr hr' pa pb pc hm, fun ρ Hs Fr σ H Q rl q => ?_⟩
  refine chain_run ho ho' qa qb qc ρ Hs Fr σ H _ rl (Pst.bnd q fun d ρ1 v Hs1 H1 e1 r1 p1 q1 => ?_)
  split at q1
  · exact ⟨_, rp_bl p1, q1 _ Hs1 H1 (Ex.refl _) r1 rfl⟩
  · exact q1.elim
/-! ### slices -/
/-- a part of a slice -/
def DPt (X : Cx) (W : WX) (e : Option Expr) (f : FE (Option Int)) : Prop := ∃ t, PO X e t ∧ ∀ (ρ : PEnv) (Hs : Hp) (Fr : FrT) (σ : L2.St) (H : Hp) (Q : Option Int → Hp → Prop), Rel X.K ρ Hs Fr σ H → Pst X.K W Fr σ Hs (fun _ (b c : Option Int) => b = c) Q (f ρ) → t σ H Q
def pNo : FE (Option Int) := fun ρ => .ok none ρ
def pSo (f : FE D) : FE (Option Int) := fun ρ => (f ρ).bind fun d ρ => match d with
  | .int i => .ok (some i) ρ
  | _ => .no
theorem dp_no : DPt X W none pNo := ⟨_, po_none, fun ρ Hs Fr σ H Q rl q => q none Hs H (Ex.refl _) rl rfl⟩
theorem dp_so {e : Expr} {f : FE D} (h : DE X W e f) : DPt X W (some e) (pSo f) := by
  obtain ⟨t, p, qf⟩ := h
  refine ⟨_, po_some p, fun ρ Hs Fr σ H Q rl q => ?_⟩
  refine qf ρ Hs Fr σ H _ rl (Pst.bnd q fun d ρ1 v Hs1 H1 e1 r1 p1 q1 => ?_)
  split at q1
  · exact ⟨_, rp_int p1, q1 _ Hs1 H1 (Ex.refl _) r1 rfl⟩
  · exact q1.elim
def cutD (xs : List D) (lo hi : Option Int) : List D := (xs.drop (HT.sIx xs.length 0 lo)).take (HT.sIx xs.length xs.length hi - HT.sIx xs.length 0 lo)
theorem rpl_cut {K : PySem.W.Frag} {H : Hp} {xs : List V} {ds : List D} (r : RpL K H xs ds) (lo hi : Option Int) : RpL K H (cutV xs lo hi) (cutD ds lo hi) := by
  unfold cutV cutD
  rw [r.len]
  exact (r.drop _).take _
def slD (d : D) (lo hi : Option Int) : Option D := match d with
  | .lst ds => some (.lst (cutD ds lo hi))
  | .tup ds => some (.tup (cutD ds lo hi))
  | .str z => if z.length ≤ LIM then some (.str (cutS z lo hi)) else none
  | _ => none
def eSl (f : FE D) (g h : FE (Option Int)) : FE D := fun ρ => (f ρ).bind fun d ρ => (g ρ).bind fun lo ρ => (h ρ).bind fun hi ρ => liftO (slD d lo hi) ρ
def rSlX (K : PySem.W.Frag) : V → Option Int → Option Int → Hp → VK → Prop := fun x lo hi H Q => rSlL K x lo hi H Q ∨ rSlA K x lo hi H Q ∨ rSlS x lo hi H Q
theorem sl_X : SlR X (rSlX X.K) := sl_list.or (sl_tupA.or sl_str)
theorem cut_whole {xs : List D} {lo hi : Option Int} (h : HT.sIx xs.length 0 lo = 0 ∧ HT.sIx xs.length xs.length hi = xs.length) : cutD xs lo hi = xs := by
  unfold cutD
  rw [h.1, h.2]
  simp
theorem de_slice {e : Expr} {lo hi : Option Expr} {f : FE D} {g h : FE (Option Int)} {p2 : Pos} (he : DE X W e f) (hl : DPt X W lo g) (hu : DPt X W hi h) : DE X W (.Subscript e (.Slice lo hi none p2) pos) (eSl f g h) := by
  obtain ⟨te, pe, qe⟩ := he
  obtain ⟨tl, pl, ql⟩ := hl
  obtain ⟨tu, pu, qu⟩ := hu
  refine ⟨_, pe_slice sl_X pe pl pu, fun ρ Hs Fr σ H Q rl q => ?_⟩
  refine qe ρ Hs Fr σ H _ rl (Pst.bnd q fun d ρ1 x Hs1 H1 e1 r1 p1 q1 => ?_)
  refine ql ρ1 Hs1 Fr σ H1 _ r1 (Pst.bnd q1 fun l ρ2 l' Hs2 H2 e2 r2 p2 q2 => ?_)
  refine qu ρ2 Hs2 Fr σ H2 _ r2 (Pst.bnd q2 fun u ρ3 u' Hs3 H3 e3 r3 p3 q3 => ?_)
  subst p2 p3
  have p1' := p1.mono (e2.trans e3)
  cases hs : slD d l' u' with
  | none => rw [hs] at q3; exact q3.elim
  | some c =>
    rw [hs] at q3
    have fin : ∀ v Hs' H', Gw Hs3 H3 Hs' H' → Rp X.K Hs' v c → Q v H' := fun v Hs' H' gw pv => q3 v Hs' H' gw.s (r3.grow gw) pv
    unfold slD at hs
    split at hs
    · cases hs
      cases p1' with
      | lst h1 h2 => exact .inl ⟨_, _, rfl, r3.hs.l h1, fun p hp => gw_lst r3.hs hp (rpl_cut h2 _ _) fin⟩
    · cases hs
      cases p1' with
      | tup h1 h2 =>
        refine .inr (.inl ⟨_, _, rfl, SqT.of (r3.hs _ _ h1), fun hw => ?_, fun _ p hp => gw_tup r3.hs hp (rpl_cut h2 _ _) fin⟩)
        rw [h2.len] at hw
        refine fin _ Hs3 H3 (gw0 r3.hs) ?_
        rw [cut_whole hw]
        exact .tup h1 h2
    · split at hs
      · rename_i hl
        cases hs
        exact .inr (.inr ⟨_, rp_str p1', lim_le hl, fin _ Hs3 H3 (gw0 r3.hs) (.str _)⟩)
      · cases hs
    · cases hs
/-! ### isinstance(e, T), T a built-in type -/
theorem tyx_of {K : PySem.W.Frag} {Hs H : Hp} {v : V} {d : D} {T : String} (ex : Ex Hs H) (r : Rp K Hs v d) (h : tyN d = some T) : TyX K H v (.type T) := by
  cases r with
  | non => cases h; exact .base .non
  | bl b => cases h; exact .base (.bl b)
  | int i => cases h; exact .base (.int i)
  | str x => cases h; exact .base (.str x)
  | tup h1 h2 => cases h; exact .base (.tup (ex _ _ h1))
  | lst h1 h2 =>
    cases h
    rcases h1 with (h1 | ⟨o, h1⟩) | ⟨o, its, n, h1, h2, _⟩
    · exact .base (.lst (ex _ _ h1))
    · exact .base (.frz (ex _ _ h1))
    · exact .kList h1 h2
  | dic h1 h2 => cases h; exact .base (.dK (ex _ _ h1))
  | obj h1 h2 => cases h
def isD (T : String) (d : D) : Option D := (tyN d).bind fun t => (kitB t T).map .bl
def rIsiV (K : PySem.W.Frag) (T : String) : List V → Hp → VK → Prop := fun xs H Q => ∃ x, xs = [x, .ty T] ∧ ∃ (t : String) (b : Bool), TyX K H x (.type t) ∧ kitB t T = some b ∧ Q (.bl b) H
theorem call_isiV (T : String) : CallR X (.builtin "isinstance") (rIsiV X.K T) := fun pins s σ H xs us Q I r ⟨x, e, t, b, h1, h2, q⟩ => call_isi pins s σ H xs us Q I r ⟨x, .ty T, .type t, .type T, b, e, .ty T, h1, kit_ty h2, q⟩
def eIsi (T : String) (f : FE D) : FE D := fun ρ => (f ρ).bind fun d ρ => liftO (isD T d) ρ
theorem de_isi {T : String} {x : Str} {e : Expr} {f : FE D} {p p2 : Pos} (hg : Gl X "isinstance") (hm : X.mg "isinstance" = none) (hx : PE X (.Name x p2) (tC (.ty T))) (he : DE X W e f)
    (h1 : starEach [e, .Name x p2] X.env = (false, eval e X.env) :: starEach [.Name x p2] X.env := by rfl) (h2 : starEach [.Name x p2] X.env = (false, eval (.Name x p2) X.env) :: starEach [] X.env := by rfl) (hpl : (backTo pos (starEach [.Name x p2] X.env)).any (·.1) = false := by rfl) :
    DE X W (.Call (.Name "isinstance" p) [e, .Name x p2] [] pos) (eIsi T f) := by
  obtain ⟨t, pe, qe⟩ := he
  refine ⟨_, pe_callB (call_isiV T) hg hm (by decide) (pa_cons pe (pa_cons hx pa_nil h2) h1) (by decide) (by decide) h1 hpl, fun ρ Hs Fr σ H Q rl q => ?_⟩
  refine qe ρ Hs Fr σ H _ rl (Pst.bnd q fun d ρ1 v Hs1 H1 e1 r1 p1 q1 => ?_)
  cases hd : isD T d with
  | none => rw [hd] at q1; exact q1.elim
  | some c =>
    rw [hd] at q1
    unfold isD at hd
    obtain ⟨t', h3, h4⟩ := Option.bind_eq_some_iff.mp hd
    obtain ⟨b, h5, rfl⟩ := Option.map_eq_some_iff.mp h4
    exact ⟨_, rfl, t', b, tyx_of r1.hs p1 h3, h5, q1 _ Hs1 H1 (Ex.refl _) r1 (.bl b)⟩
end
end Fw
end

section
set_option Elab.async false
set_option linter.all false
set_option autoImplicit false
set_option maxRecDepth 100000
set_option maxHeartbeats 4000000
/-! Fw9: exceptions: made, raised, caught. -/
namespace Fw
open PySem PySem.Spec PyProof.Rows L2
def tSsC (K : PySem.W.Frag) (W : WX) (f : FS) : TS := fun Dn σ H => ∃ ρ Hs Fr, Rel K ρ Hs Fr σ H ∧ PstS K W Fr σ Hs Dn (f ρ)
section
variable {X : Cx} {W : WX}
theorem DSs.can {st : List Stmt} {f : FS} (h : DSs X W st f) : PSs X st (tSsC X.K W f) := by
  obtain ⟨t, p, q⟩ := h
  exact ⟨fun pins s σ H D I ⟨ρ, Hs, Fr, r, k⟩ => p.run pins s σ H D I (q ρ Hs Fr σ H D r k)⟩
end
/-! ### an own class's __init__ that sets its fields from its arguments -/
/-- the promise: the fields, the last one first -/
def SpI (C : Addr) (ns : List Str) : Sp := fun vs H Q _ => ∃ a ws, vs = .ref a :: ws ∧ ws.length = ns.length ∧ H a = some (exo a C none) ∧
  ∀ d H', H d = none → d ≠ a → H' a = some (exo a C (some d)) → H' d = some (exd d (ns.zip ws).reverse) → (∀ b, b ≠ a → b ≠ d → H' b = H b) → Q .non H'
section
variable {P : Program} {w : World} {K : PySem.W.Frag} {mg : Str → Option Value} {base : Heap} {x qual : Str} {params : Arguments} {scope : Scope} {dvs : List V} {kws : List (Str × V)} {f : Addr} {fd : FuncData}
theorem okI1 {C : Addr} {f1 y1 : Str} {k : Nat} {p0 p1 p2 p3 : Pos} (F : FunD K x qual params [.Assign [.Attribute (.Name "self" p0) f1 p1] (.Name y1 p2) p3] scope dvs kws f fd) (S : FnScope ["self", y1] ["self", y1] scope) (T : OexC K C)
    (n1 : PySem.W.findIn K (.ref C) f1 = some none) (hv0 : Vis scope "self") (hv1 : Vis scope y1) (hd1 : (y1 == ("__debug__" : Str)) = false) (hc1 : (y1 == ("__classdict__" : Str)) = false) : FnOk P w K mg base (L2.CX P w) (k + 1) f fd ["self", y1] (SpI C [f1]) := by
  refine F.ok S (fun vs H Q E h => ?_) fun cdv A outer s H vs Q E hr h => ?_
  · obtain ⟨a, ws, rfl, hl, _⟩ := h
    show ws.length + 1 = 2
    rw [hl]; rfl
  · obtain ⟨a, ws, rfl, hl, ha, q⟩ := h
    match ws, hl with
    | [v1], _ =>
      refine ⟨_, pss_one (ps_ost (pe_var (i := 0) rfl hv0) (pe_var (i := 1) rfl hv1 hd1 hc1)), ?_⟩
      refine ⟨v1, rfl, .ref a, rfl, a, C, rfl, T, n1, .inl ⟨ha, fun dx hdx hne => ?_⟩⟩
      refine q dx _ hdx hne upd_same ?_ fun b h1 h2 => ?_
      · rw [upd_ne hne, upd_same]; rfl
      · rw [upd_ne h1, upd_ne h2]
theorem okI2 {C : Addr} {f1 f2 y1 y2 : Str} {k : Nat} {p0 p1 p2 p3 q0 q1 q2 q3 : Pos} (F : FunD K x qual params [.Assign [.Attribute (.Name "self" p0) f1 p1] (.Name y1 p2) p3, .Assign [.Attribute (.Name "self" q0) f2 q1] (.Name y2 q2) q3] scope dvs kws f fd)
    (S : FnScope ["self", y1, y2] ["self", y1, y2] scope) (T : OexC K C)
    (n1 : PySem.W.findIn K (.ref C) f1 = some none) (n2 : PySem.W.findIn K (.ref C) f2 = some none) (hv0 : Vis scope "self") (hv1 : Vis scope y1) (hv2 : Vis scope y2) (hd1 : (y1 == ("__debug__" : Str)) = false) (hc1 : (y1 == ("__classdict__" : Str)) = false)
    (hd2 : (y2 == ("__debug__" : Str)) = false) (hc2 : (y2 == ("__classdict__" : Str)) = false) : FnOk P w K mg base (L2.CX P w) (k + 1) f fd ["self", y1, y2] (SpI C [f1, f2]) := by
  refine F.ok S (fun vs H Q E h => ?_) fun cdv A outer s H vs Q E hr h => ?_
  · obtain ⟨a, ws, rfl, hl, _⟩ := h
    show ws.length + 1 = 3
    rw [hl]; rfl
  · obtain ⟨a, ws, rfl, hl, ha, q⟩ := h
    match ws, hl with
    | [v1, v2], _ =>
      refine ⟨_, pss_cons (ps_ost (pe_var (i := 0) rfl hv0) (pe_var (i := 1) rfl hv1 hd1 hc1)) (pss_one (ps_ost (pe_var (i := 0) rfl hv0) (pe_var (i := 2) rfl hv2 hd2 hc2))), ?_⟩
      refine ⟨v1, rfl, .ref a, rfl, a, C, rfl, T, n1, .inl ⟨ha, fun dx hdx hne => ?_⟩⟩
      refine ⟨v2, rfl, .ref a, rfl, a, C, rfl, T, n2, .inr ⟨dx, [(f1, v1)], upd_same, ?_, Nat.le_add_left _ _, ?_⟩⟩
      · rw [upd_ne hne, upd_same]
      refine q dx _ hdx hne ?_ upd_same fun b h1 h2 => ?_
      · rw [upd_ne (Ne.symm hne), upd_same]
      · rw [upd_ne h2, upd_ne h1, upd_ne h2]
end
/-! ### raise C(e, ..) -/
section
variable {X : Cx} {W : WX} {pos : Pos}
def sRaise (c : Str) (ns : List Str) (f : FE (List D)) : FS := fun ρ => (f ρ).then fun as ρ => if as.length = ns.length then .er (.mk c (ns.zip as).reverse) ρ else .no
theorem rpa_zip {K : PySem.W.Frag} {H : Hp} : ∀ {ns : List Str} {vs : List V} {ds : List D}, RpL K H vs ds → RpA K H Str (ns.zip vs) (ns.zip ds)
  | [], _, _, _ => by simpa using RpA.nil
  | n :: ns, _, _, .nil => by simpa using RpA.nil
  | n :: ns, _, _, .cons r rs => .cons r (rpa_zip rs)
theorem rpa_append {K : PySem.W.Frag} {H : Hp} {κ : Type} : ∀ {xs ys : List (κ × V)} {ds es : List (κ × D)}, RpA K H κ xs ds → RpA K H κ ys es → RpA K H κ (xs ++ ys) (ds ++ es)
  | _, _, _, _, .nil, r => r
  | _, _, _, _, .cons r rs, r2 => .cons r (rpa_append rs r2)
theorem rpa_rev {K : PySem.W.Frag} {H : Hp} {κ : Type} : ∀ {xs : List (κ × V)} {ds : List (κ × D)}, RpA K H κ xs ds → RpA K H κ xs.reverse ds.reverse
  | _, _, .nil => .nil
  | _, _, .cons r rs => by
    rw [List.reverse_cons, List.reverse_cons]
    exact rpa_append (rpa_rev rs) (.cons r .nil)
/-- the exception is made and let go -/
theorem gone_eq {H1 H2 : Hp} {a d : Addr} {o : HO} (h1 : H1 a = none) (hd : H1 d = none) (hda : d ≠ a) (k : ∀ b, b ≠ a → b ≠ d → H2 b = upd H1 a o b) (u : HO) : upd (del H2 a) d u = upd H1 d u := by
  funext b
  by_cases hb2 : b = d
  · subst hb2
    rw [upd_same, upd_same]
  · rw [upd_ne hb2, upd_ne hb2]
    by_cases hb : b = a
    · subst hb
      rw [del_same, h1]
    · rw [del_ne hb, k b hb hb2, upd_ne hb]
theorem ds_raise {x : Str} {c : Str} {fI : Addr} {k : Nat} {fd : FuncData} {ps ns : List Str} {ds : List Value} {e : Expr} {es : List Expr} {f : FE (List D)} {p cp : Pos} (gd : Gd X W) (T : OexC X.K (He.ga X.K c)) (iC : PySem.W.findIn X.K (.ref (He.ga X.K c)) "__init__" = some (some (.ref fI)))
    (tI : PySem.W.typeIn X.K (.ref fI) = some (.type "function")) (F1 : FnOk X.prog X.w X.K X.mg X.base (L2.CX X.prog X.w) k fI fd ps (SpI (He.ga X.K c) ns)) (hr : Room (k + 1) X.A) (hb : Binds X.K fd ps ds) (hd : Vals ([] : List V) ds)
    (hg : Gl X x) (hm : X.mg x = some (.ref (He.ga X.K c))) (ha : DA X W (e :: es) f) (hns : ns.length ≤ 1000)
    (hdb : (x == ("__debug__" : Str)) = false := by decide) (he : starEach (e :: es) X.env = (false, eval e X.env) :: starEach es X.env := by rfl) (hpl : (backTo cp (starEach es X.env)).any (·.1) = false := by rfl) :
    DS X W (.Raise (some (.Call (.Name x p) (e :: es) [] cp)) none pos) (sRaise c ns f) := by
  obtain ⟨ta, pa, qa⟩ := ha
  have hx : Passes (L2.CX X.prog X.w) X (fun _ _ _ => False) := fun pins σ H s e s' I c => gd.tk e s' ((XE.of_call (W := W) I (fun _ _ _ z => z.elim) c))
  refine ⟨_, ps_raise gd.calm gd.tk (pmk_oex T iC tI F1 hr hb hd hx hg hm pa hdb he hpl), fun ρ Hs Fr σ H Dn rl q => ?_⟩
  refine qa ρ Hs Fr σ H _ rl (PstS.thn q fun as ρ1 vs Hs1 H1 e1 r1 p1 q1 => ?_)
  split at q1
  · rename_i hn
    have hv : vs.length = ns.length := by rw [p1.len]; exact hn
    refine ⟨by omega, fun a ha => ?_⟩
    rw [List.append_nil]
    refine ⟨a, vs, rfl, hv, upd_same, fun d H2 hd1 hda h1 h2 h3 => ?_⟩
    have hd0 : H1 d = none := by rw [upd_ne hda] at hd1; exact hd1
    refine ⟨rfl, d, _, h1, h2, hd0, ?_⟩
    rw [gone_eq (o := exo a (He.ga X.K c) none) ha hd0 hda h3 (.xd (ns.zip vs).reverse)]
    have gw : Gw Hs1 H1 (upd Hs1 d (.xd (ns.zip vs).reverse)) (upd H1 d (.xd (ns.zip vs).reverse)) := .new r1.hs hd0
    exact q1 _ _ _ _ _ gw.s (r1.grow gw) ⟨rfl, .inr ⟨d, _, rfl, upd_same, rpa_rev (rpa_zip (p1.mono gw.s))⟩⟩
  · exact q1.elim
end
end Fw
end

section
set_option Elab.async false
set_option linter.all false
set_option autoImplicit false
set_option maxRecDepth 100000
set_option maxHeartbeats 4000000
/-! Fw10: try, except. -/
namespace PySem.W
open PySem PySem.Spec PySem.Calls PyProof.Rows
section
variable {prog : Program} {w : World} {A : Around} {E : Value → Shared → Prop} {s : Shared} {K : Frag} {x D : Addr} {ox : Obj} {od : Option Obj}
theorem fw_findObj {C : Addr} {name : Str} {a g : Value} (hc : (clsIn K C).isSome = true) (ha : findIn K (.ref C) name = some (some a)) (hg : specialIn K a "__get__" = some (some g)) (ht : takesIn K a = some true) : findObj K C od name = some (.bind g a) := by
  obtain ⟨cd, hc⟩ := Option.isSome_iff_exists.mp hc
  unfold findObj
  rw [hc, Option.bind_some, ha, Option.bind_some]
  simp [hg, ht]
/-- e.__class__, e an exception of an own class, with a dict or without -/
theorem fw_classE {Q : Option Value → Shared → Prop} (hga : findIn K (.ref D) "__getattribute__" = some (some (.builtin "BaseException.__getattribute__"))) (hgt : findIn K (.ref D) "__getattr__" = some none) (hsub : subIn K (.ref D) (.type "BaseException") = some true)
    (hdct : hasDictIn K D = true) (ha : findIn K (.ref D) "__class__" = some (some (.builtin "object.__class__")))
    (hn : specialIn K (.builtin "object.__class__") "__get__" = some (some (.builtin "getset_descriptor.__get__"))) (htk : takesIn K (.builtin "object.__class__") = some true) (hm : mroIn K D (.type "object") = some true)
    (X : K.In s.heap) (I : InstAt s.heap x ox D od) (h : Q (some (.ref D)) { s with toks := s.toks + 1 }) : wpAny (model prog w) A (getAttr? (.ref x) "__class__") Q E s := by
  have hf : findObj K D od "__class__" = some (.bind (.builtin "getset_descriptor.__get__") (.builtin "object.__class__")) := fw_findObj (by obtain ⟨cd, hc, _⟩ := any_some hdct; rw [hc]; rfl) ha hn htk
  obtain ⟨hp, g, d, t, os⟩ := s
  have L0 := I.type (M := model prog w)
  have L1 := looks_findIn (M := model prog w) X hga
  have L2 := looks_findIn (M := model prog w) X hgt
  have L3 := looks_find (M := model prog w) X I hf
  have sub : Looks (model prog w) hp (isInstance (.ref x) (.type "BaseException")) true := L0.andThen (looks_subIn X hsub)
  have hx0 : (false && onTheHeap (Value.builtin "BaseException.__getattribute__")) = false := rfl
  have hx2 : (Value.builtin "BaseException.__getattribute__" == Value.builtin "object.__getattribute__") = false := by decide +kernel
  have hx1 : (onTheHeap (Value.ref D) && Value.builtin "BaseException.__getattribute__" == Value.builtin "object.__getattribute__") = false := by rw [hx2]; rfl
  unfold getAttr? getAttrBy? getAttrBy
  refine wpAny_bind (wpAny_mkText (wpAny_bind (wpAny_attempt (wpAny_holding (wpAny_bind (L0.at (wpAny_bind (L1.at ?_))))))))
  show wpAny _ _ (if (onTheHeap (Value.ref D) && Value.builtin "BaseException.__getattribute__" == Value.builtin "object.__getattribute__") = true then _ else _) _ _ _
  rw [hx1, if_neg Bool.false_ne_true]
  unfold getAttrByItsOwn hookBefore
  refine wpAny_bind ?_
  rw [if_pos (show onTheHeap (Value.ref D) = true from rfl)]
  refine L2.at ?_
  refine wpAny_bind (wpAny_attempt (wpAny_holding ?_))
  unfold callGetattribute
  rw [hx0, if_neg Bool.false_ne_true]
  unfold boundAndCalled
  rw [PySem.F.excAttr_ValueError.ga.bind (.ref x)]
  refine wpAny_bind (wpAny_pure ?_)
  show wpAny _ _ (call (.builtin "BaseException.__getattribute__") [.ref x, .str "__class__" t]) _ _ _
  refine wpAny_call (codeAny_call_builtin PySem.F.excAttr_ValueError.ga.plain PySem.F.entry_bexc_ga ?_)
  refine @check_slot (model prog w) _ _ ⟨hp, g, d, t + 1, os⟩ "BaseException.__getattribute__" "BaseException" "__getattribute__" (.ref x) [.str "__class__" t] [] _ (by decide +kernel) (by decide +kernel) sub (PySem.F.args_bexc_ga (.ref x) (.str "__class__" t)) ?_
  unfold Builtin.«object.__getattribute__»
  refine wpAny_bind (wpAny_of_eq (a := ((Value.ref x : Value), [Value.str "__class__" t])) (by first | rfl | (simp only [slotArgs]; rfl)) ?_)
  refine wpAny_bind (wpAny_pure (wpAny_bind (L0.at (wpAny_bind (L3.at ?_)))))
  show wpAny _ _ (holding [Value.builtin "object.__class__"] (call (.builtin "getset_descriptor.__get__") [.builtin "object.__class__", .ref x, .ref D]) >>= ret) _ _ _
  refine wpAny_bind (wpAny_holding (wpAny_call (class_get (s := ⟨hp, g, d, t + 1, os⟩) (ox := ox) (od := od) X I hm ?_)))
  refine wpAny_pure ?_
  show wpAny _ _ (handedOut (.ref D)) _ _ _
  rw [handedOut_of (v := .ref D) rfl]
  first
    | exact wpAny_pure (wpAny_pure h)
    | exact wpAny_pure h
    | exact wpAny_pure (wpAny_bind (wpAny_pure (wpAny_pure h)))
theorem fw_kitx_exc (hga : findIn K (.ref D) "__getattribute__" = some (some (.builtin "BaseException.__getattribute__"))) (hgt : findIn K (.ref D) "__getattr__" = some none) (hsub : subIn K (.ref D) (.type "BaseException") = some true) (hdct : hasDictIn K D = true) (ha : findIn K (.ref D) "__class__" = some (some (.builtin "object.__class__")))
    (hn : specialIn K (.builtin "object.__class__") "__get__" = some (some (.builtin "getset_descriptor.__get__"))) (htk : takesIn K (.builtin "object.__class__") = some true) (hm : mroIn K D (.type "object") = some true) :
    KitX K (.ref x) (.ref D) (fun h => InstAt h x ox D od) where
  ty := fun _ _ _ I => I.type
  it := fun _ _ X _ => by
    obtain ⟨cdD, hcD, _⟩ := any_some hdct
    unfold clsIn at hcD
    split at hcD
    · rename_i c' d' cd' sl' ho
      intro A' Q' E' s' k q
      unfold isType loadHead
      exact wpAny_bind (wpAny_loadPart (k _ _ (X _ _ ho)) (wpAny_pure q))
    · cases hcD
  ne := fun h tp dd its n sl X htp => by
    obtain ⟨cdD, hcD, _⟩ := any_some hdct
    refine Bool.eq_false_iff.mpr fun q => ?_
    have e : D = tp := Value.ref.inj (beq_iff_eq.mp q)
    subst e
    unfold clsIn at hcD
    split at hcD
    · rename_i c' d' cd' sl' ho
      have z := (X _ _ ho).symm.trans htp
      cases z
    · cases hcD
  ca := fun X I k => fw_classE hga hgt hsub hdct ha hn htk hm X I k
end
end PySem.W
namespace Fw
open PySem PySem.Spec PyProof.Rows L2
/-! ### expressions of an except suite: the exception is the name i's -/
def HasX (i : Option Nat) (σ : L2.St) (a : Addr) : Prop := ∀ j, i = some j → σ[j]? = some (some (.ref a))
def DX (X : Cx) (i : Option Nat) (e : Expr) (f : Er → FE D) : Prop := ∀ (a : Addr) (oe : Obj) (cls : Value) (d : Option Addr) (pn : List (Addr × Obj)), Zc cls d oe → (∃ vs, oe.data = .fields vs) → ∃ t, PE (X.suite a ((a, oe) :: pn)) e t ∧
  ∀ (er : Er) (ρ : PEnv) (Hs : Hp) (Fr : FrT) (σ : L2.St) (H : Hp) (Q : VK), Rel X.K ρ Hs Fr σ H → HasX i σ a → ErOk X.K Hs er cls d → Pst X.K W0 Fr σ Hs (Rp X.K) Q (f er ρ) → t σ H Q
def DXA (X : Cx) (i : Option Nat) (es : List Expr) (f : Er → FE (List D)) : Prop := ∀ (a : Addr) (oe : Obj) (cls : Value) (d : Option Addr) (pn : List (Addr × Obj)), Zc cls d oe → (∃ vs, oe.data = .fields vs) → ∃ t, PA (X.suite a ((a, oe) :: pn)) es t ∧
  ∀ (er : Er) (ρ : PEnv) (Hs : Hp) (Fr : FrT) (σ : L2.St) (H : Hp) (Q : List V → Hp → Prop), Rel X.K ρ Hs Fr σ H → HasX i σ a → ErOk X.K Hs er cls d → Pst X.K W0 Fr σ Hs (RpL X.K) Q (f er ρ) → t σ H Q
def DXs (X : Cx) (i : Option Nat) (st : List Stmt) (f : Er → FS) : Prop := ∀ (a : Addr) (oe : Obj) (cls : Value) (d : Option Addr) (pn : List (Addr × Obj)), Zc cls d oe → (∃ vs, oe.data = .fields vs) → ∃ t, PSs (X.suite a ((a, oe) :: pn)) st t ∧
  ∀ (er : Er) (ρ : PEnv) (Hs : Hp) (Fr : FrT) (σ : L2.St) (H : Hp) (Dn : Ends), Rel X.K ρ Hs Fr σ H → HasX i σ a → ErOk X.K Hs er cls d → PstS X.K W0 Fr σ Hs Dn (f er ρ) → t Dn σ H
section
variable {X : Cx} {W : WX} {i : Option Nat} {pos : Pos}
theorem dx_lift {e : Expr} {f : FE D} (h : ∀ a pn, DE (X.suite a pn) W0 e f) : DX X i e (fun _ => f) := fun a oe cls d pn _ _ => by
  obtain ⟨t, p, q⟩ := h a ((a, oe) :: pn)
  exact ⟨t, p, fun er ρ Hs Fr σ H Q rl _ _ k => q ρ Hs Fr σ H Q rl k⟩
theorem dxa_nil : DXA X i [] (fun _ => aN) := fun a oe cls d pn _ _ => ⟨_, pa_nil, fun er ρ Hs Fr σ H Q r _ _ q => q [] Hs H (Ex.refl _) r .nil⟩
theorem dxa_cons {e : Expr} {es : List Expr} {f : Er → FE D} {g : Er → FE (List D)} (ha : DX X i e f) (hr : DXA X i es g) (hs : starEach (e :: es) X.env = (false, eval e X.env) :: starEach es X.env := by rfl) : DXA X i (e :: es) (fun er => aC (f er) (g er)) := fun a oe cls d pn hz hf => by
  obtain ⟨ta, pa, qa⟩ := ha a oe cls d pn hz hf
  obtain ⟨tb, pb, qb⟩ := hr a oe cls d pn hz hf
  refine ⟨_, pa_cons pa pb hs, fun er ρ Hs Fr σ H Q rl hx eo q => ?_⟩
  refine qa er ρ Hs Fr σ H _ rl hx eo (Pst.bnd q fun a ρ1 x Hs1 H1 e1 r1 p1 q1 => ?_)
  refine qb er ρ1 Hs1 Fr σ H1 _ r1 hx (eo.mono e1) (Pst.bnd q1 fun b ρ2 y Hs2 H2 e2 r2 p2 q2 => ?_)
  exact q2 (x :: y) Hs2 H2 (Ex.refl _) r2 (.cons (p1.mono e2) p2)
theorem dx_tup {es : List Expr} {k : Nat} {f : Er → FE (List D)} (ha : DXA X i es f) : DX X i (.Tuple es k pos) (fun er => eTup (f er)) := fun a oe cls d pn hz hf => by
  obtain ⟨ta, pa, qa⟩ := ha a oe cls d pn hz hf
  refine ⟨_, pe_tup pa, fun er ρ Hs Fr σ H Q rl hx eo q => ?_⟩
  refine qa er ρ Hs Fr σ H _ rl hx eo (Pst.bnd q fun as ρ1 xs Hs1 H1 e1 r1 p1 q1 => ?_)
  unfold lim at q1
  split at q1
  · rename_i hl
    refine ⟨lim_le (by rw [p1.len]; exact hl), fun p hp => ?_⟩
    have gw : Gw Hs1 H1 (upd Hs1 p (.tup xs)) (upd H1 p (.tup xs)) := .new r1.hs hp
    exact q1 _ _ _ gw.s (r1.grow gw) (.tup upd_same (p1.mono gw.s))
  · exact q1.elim
theorem dx_one {op : BoolOp} {a : Expr} {f : Er → FE D} (h : DX X i a f) : DX X i (.BoolOp op [a] pos) f := fun a oe cls d pn hz hf => by
  obtain ⟨t, p, q⟩ := h a oe cls d pn hz hf
  exact ⟨t, pe_one p, q⟩
theorem dx_and {a b : Expr} {rest : List Expr} {f g : Er → FE D} (ha : DX X i a f) (hb : DX X i (.BoolOp .And (b :: rest) pos) g) : DX X i (.BoolOp .And (a :: b :: rest) pos) (fun er => vA (f er) (g er)) := fun a oe cls d pn hz hf => by
  obtain ⟨ta, pa, qa⟩ := ha a oe cls d pn hz hf
  obtain ⟨tb, pb, qb⟩ := hb a oe cls d pn hz hf
  refine ⟨_, pe_and pa pb, fun er ρ Hs Fr σ H Q rl hx eo q => ?_⟩
  refine qa er ρ Hs Fr σ H _ rl hx eo (Pst.bnd q fun c ρ1 x Hs1 H1 e1 r1 p1 q1 => ?_)
  cases c with
  | bl b =>
    refine ⟨b, rp_bl p1, ?_⟩
    cases b with
    | true => exact qb er ρ1 Hs1 Fr σ H1 Q r1 hx (eo.mono e1) q1
    | false => exact q1 _ Hs1 H1 (Ex.refl _) r1 (.bl false)
  | _ => exact q1.elim
theorem dx_not {a : Expr} {f : Er → FE D} (ha : DX X i a f) : DX X i (.UnaryOp .Not a pos) (fun er => vN (f er)) := fun a oe cls d pn hz hf => by
  obtain ⟨ta, pa, qa⟩ := ha a oe cls d pn hz hf
  refine ⟨_, pe_not pa, fun er ρ Hs Fr σ H Q rl hx eo q => ?_⟩
  refine qa er ρ Hs Fr σ H _ rl hx eo (Pst.bnd q fun c ρ1 x Hs1 H1 e1 r1 p1 q1 => ?_)
  cases c with
  | bl b => exact ⟨b, rp_bl p1, q1 _ Hs1 H1 (Ex.refl _) r1 (.bl (!b))⟩
  | _ => exact q1.elim
/-! ### e.f -/
def xfE (c0 f : Str) : Er → FE D
  | .mk c fs => fun ρ => if c = c0 then liftO (fs.lookup f) ρ else .no
theorem rpa_lookup {K : PySem.W.Frag} {H : Hp} {f : Str} : ∀ {xs : List (Str × V)} {ds : List (Str × D)} {d : D}, RpA K H Str xs ds → ds.lookup f = some d → ∃ v, xs.lookup f = some v ∧ Rp K H v d
  | _, _, _, .nil, h => by cases h
  | _, _, _, .cons (k := k) (v := v) (d := d) r rs, h => by
    rw [List.lookup_cons] at h ⊢
    cases hk : (f == k) with
    | true =>
      rw [hk] at h
      cases h
      exact ⟨v, rfl, r⟩
    | false =>
      rw [hk] at h
      exact rpa_lookup rs h
theorem dx_xf {c0 f : Str} {j : Nat} {x : Str} {p : Pos} (T : XfC X.K (He.ga X.K c0)) (hno : PySem.W.findIn X.K (.ref (He.ga X.K c0)) f = some none) (hv : ∀ a pn, PE (X.suite a pn) (.Name x p) (tVar j))
    (hb : attributeBase (.Name x p) f X.env (eval (.Name x p) X.env) = eval (.Name x p) X.env := by rfl) : DX X (some j) (.Attribute (.Name x p) f pos) (xfE c0 f) := fun a oe cls d pn hz hf => by
  refine ⟨_, pe_xf (pos := pos) (n := f) T hno hz hf (hv a ((a, oe) :: pn)) hb, fun er ρ Hs Fr σ H Q rl hx eo q => ?_⟩
  obtain ⟨c, fs⟩ := er
  obtain ⟨hc, he⟩ := eo
  refine ⟨_, hx j rfl, rfl, ?_⟩
  replace q : Pst X.K W0 Fr σ Hs (Rp X.K) Q (if c = c0 then liftO (fs.lookup f) ρ else .no) := q
  split at q
  · rename_i hcc
    subst hcc
    refine ⟨hc, ?_⟩
    cases hl : fs.lookup f with
    | none => rw [hl] at q; exact q.elim
    | some v =>
      rw [hl] at q
      rcases he with ⟨rfl, _⟩ | ⟨dd, xs, hd, hx2, rx⟩
      · cases hl
      · obtain ⟨u, h1, h2⟩ := rpa_lookup rx hl
        exact ⟨dd, xs, u, hd, rl.hs _ _ hx2, h1, q u Hs H (Ex.refl _) rl h2⟩
  · exact q.elim
/-! ### isinstance(e, C) -/
def rIsEx (K : PySem.W.Frag) (D a : Addr) (d : Option Addr) (cv : V) (b : Bool) : List V → Hp → VK → Prop := fun xs H Q => xs = [.ref a, cv] ∧ (∀ dd, d = some dd → ∃ fs, H dd = some (.xd fs)) ∧ Q (.bl b) H
theorem call_isEx {a D : Addr} {oe : Obj} {pn : List (Addr × Obj)} {d : Option Addr} {cv : V} {cu : Value} {b : Bool} (C : ExcC X.K D) (hz : Zc (.ref D) d oe) (hf : ∃ vs, oe.data = .fields vs) (hcv : ∀ u, RelV cv u → u = cu) (e : PySem.W.kitOne X.K (.ref D) cu = some b) :
    CallR (X.suite a ((a, oe) :: pn)) (.builtin "isinstance") (rIsEx X.K D a d cv b) := by
  intro pins s σ H xs us Q I r h
  obtain ⟨rfl, hd, q⟩ := h
  cases r with
  | cons rx rr =>
    cases rr with
    | cons rt rr =>
      cases rr
      cases rx
      have ec := hcv _ rt
      subst ec
      obtain ⟨hget, _⟩ := I.pin (a, oe) (List.mem_append.mpr (.inl List.mem_cons_self))
      obtain ⟨vs, hv⟩ := hf
      have J : ∃ od, PySem.W.InstAt s.heap a oe D od := by
        cases d with
        | none => exact ⟨none, hget, hz.1, by unfold PySem.W.notCls; rw [hv] <;> rfl, by rw [hz.2]; trivial⟩
        | some dd =>
          obtain ⟨fs, hfs⟩ := hd dd rfl
          obtain ⟨mA, hns, hr⟩ := (I.hok dd _ hfs : ObjOk X.prog X.w H s.heap dd (.xd fs))
          obtain ⟨od, ho, hl⟩ := lookIn_ns hns
          exact ⟨some od, hget, hz.1, by unfold PySem.W.notCls; rw [hv] <;> rfl, by rw [hz.2]; exact ho⟩
      obtain ⟨od, J⟩ := J
      exact PySem.W.kia_one (PySem.W.fw_kitx_exc C.hg C.hk C.hs C.hd C.ha C.hn C.ht C.hm) I.kIn J e (fun z => nomatch z) fun tk => ⟨.bl b, H, I.kept (t' := tk) fun _ _ z => z, rfl, q⟩
def isX (tab : Str → Option Bool) : Er → FE D
  | .mk c _ => fun ρ => liftO ((tab c).map .bl) ρ
theorem dx_isE {tab : Str → Option Bool} {cv : V} {cu : Value} {x y : Str} {j : Nat} {p p1 p2 : Pos} (hg : Gl X "isinstance") (hm : X.mg "isinstance" = none) (hv : ∀ a pn, PE (X.suite a pn) (.Name x p1) (tVar j)) (hy : ∀ a pn, PE (X.suite a pn) (.Name y p2) (tC cv))
    (hcv : ∀ u, RelV cv u → u = cu) (ht : ∀ c b, tab c = some b → ExcC X.K (He.ga X.K c) ∧ PySem.W.kitOne X.K (.ref (He.ga X.K c)) cu = some b)
    (h1 : starEach [.Name x p1, .Name y p2] X.env = (false, eval (.Name x p1) X.env) :: starEach [.Name y p2] X.env := by rfl) (h2 : starEach [.Name y p2] X.env = (false, eval (.Name y p2) X.env) :: starEach [] X.env := by rfl) (hpl : (backTo pos (starEach [.Name y p2] X.env)).any (·.1) = false := by rfl) :
    DX X (some j) (.Call (.Name "isinstance" p) [.Name x p1, .Name y p2] [] pos) (isX tab) := fun a oe cls d pn hz hf => by
  by_cases hc : ∃ c b, cls = .ref (He.ga X.K c) ∧ tab c = some b
  · obtain ⟨c, b, rfl, hb⟩ := hc
    obtain ⟨hC, hk⟩ := ht c b hb
    refine ⟨_, pe_callB (call_isEx (pn := pn) hC hz hf hcv hk) hg hm (by decide) (pa_cons (hv a _) (pa_cons (hy a _) pa_nil h2) h1) (by decide) (by decide) h1 hpl, fun er ρ Hs Fr σ H Q rl hx eo q => ?_⟩
    obtain ⟨c', fs⟩ := er
    obtain ⟨hcc, he⟩ := eo
    replace q : Pst X.K W0 Fr σ Hs (Rp X.K) Q (liftO ((tab c').map .bl) ρ) := q
    cases hb' : tab c' with
    | none => rw [hb'] at q; exact q.elim
    | some b' =>
      rw [hb'] at q
      have hk' := (ht c' b' hb').2
      rw [← hcc, hk] at hk'
      cases hk'
      refine ⟨_, hx j rfl, rfl, fun dd hd => ?_, q _ Hs H (Ex.refl _) rl (.bl b)⟩
      rcases he with ⟨_, he⟩ | ⟨dd', xs, hd', hx2, _⟩
      · rw [hd] at he; cases he
      · rw [hd] at hd'
        cases hd'
        exact ⟨xs, rl.hs _ _ hx2⟩
  · refine ⟨fun _ _ _ => False, ⟨fun _ _ _ _ _ _ h => h.elim⟩, fun er ρ Hs Fr σ H Q rl hx eo q => ?_⟩
    obtain ⟨c', fs⟩ := er
    replace q : Pst X.K W0 Fr σ Hs (Rp X.K) Q (liftO ((tab c').map .bl) ρ) := q
    cases hb' : tab c' with
    | none => rw [hb'] at q; exact q.elim
    | some b' => exact hc ⟨c', b', eo.1, hb'⟩
/-! ### statements of the suite: names set -/
def xSet (j : Nat) (f : Er → FE D) : Er → FS := fun er ρ => (f er ρ).then fun d ρ => .nx (ρ.set j (.sh d))
def xSetC (j : Nat) (f : Er → FE D) (g : Er → FS) : Er → FS := fun er ρ => (f er ρ).then fun d ρ => g er (ρ.set j (.sh d))
theorem HasX.set {i : Option Nat} {σ : L2.St} {a : Addr} {j : Nat} {o : Option V} (h : HasX i σ a) (hj : i ≠ some j) : HasX i (σ.set j o) a := fun k hk => by
  rw [List.getElem?_set_ne (fun z => hj (by rw [hk, z]))]
  exact h k hk
theorem dxs_set (j : Nat) {x : Str} {e : Expr} {f : Er → FE D} {pos' : Pos} (nd : X.N.Nodup) (h : DX X i e f) (hi : X.N[j]? = some x := by rfl) (hx : Loc X.env.scope x := by first | exact Or.inl rfl | exact Or.inr rfl) (hs : swapsWith e (some (.Name x pos')) pos.line X.env = pure false := by rfl)
    (hf : X.fn x = true ∨ X.env.scope.names.lookup x = some .local := by first | exact .inl rfl | exact .inr rfl) : DXs X i [.Assign [.Name x pos'] e pos] (xSet j f) := fun a oe cls d pn hz hff => by
  obtain ⟨t, p, q⟩ := h a oe cls d pn hz hff
  refine ⟨_, pss_one (ps_set nd hi hx p hs hf), fun er ρ Hs Fr σ H Dn rl hxx eo k => ?_⟩
  exact q er ρ Hs Fr σ H _ rl hxx eo (PstS.thn k fun d ρ1 x Hs1 H1 e1 r1 p1 q1 => q1 _ Hs1 H1 (Ex.refl _) (r1.put p1))
theorem dxs_setC (j : Nat) {x : Str} {e : Expr} {f : Er → FE D} {g : Er → FS} {pos' : Pos} {rest : List Stmt} (nd : X.N.Nodup) (h : DX X i e f) (hr : DXs X i rest g) (hij : i ≠ some j := by decide) (hi : X.N[j]? = some x := by rfl) (hx : Loc X.env.scope x := by first | exact Or.inl rfl | exact Or.inr rfl) (hs : swapsWith e (some (.Name x pos')) pos.line X.env = pure false := by rfl)
    (hf : X.fn x = true ∨ X.env.scope.names.lookup x = some .local := by first | exact .inl rfl | exact .inr rfl) : DXs X i (.Assign [.Name x pos'] e pos :: rest) (xSetC j f g) := fun a oe cls d pn hz hff => by
  obtain ⟨t, p, q⟩ := h a oe cls d pn hz hff
  obtain ⟨t2, p2, q2⟩ := hr a oe cls d pn hz hff
  refine ⟨_, pss_cons (ps_set nd hi hx p hs hf) p2, fun er ρ Hs Fr σ H Dn rl hxx eo k => ?_⟩
  exact q er ρ Hs Fr σ H _ rl hxx eo (PstS.thn k fun d ρ1 x Hs1 H1 e1 r1 p1 q1 => q2 er _ Hs1 Fr _ H1 Dn (r1.put p1) (hxx.set hij) (eo.mono e1) (PstS.mono q1 (Ex.refl _)))
/-! ### try: .. except C as x: .. -/
def clr (i : Nat) : RS → RS
  | .nx ρ => .nx (ρ.set i .un)
  | .rt d ρ => .rt d (ρ.set i .un)
  | _ => .no
def sTryAs (i : Nat) (cm : Str → Option Bool) (body : FS) (suite : Er → FS) : FS := fun ρ => match body ρ with
  | .er (.mk c fs) ρ1 => match cm c with
    | some true => if i < ρ1.length then clr i (suite (.mk c fs) (ρ1.set i .un)) else .no
    | some false => .er (.mk c fs) ρ1
    | none => .no
  | r => r
def tXs (K : PySem.W.Frag) (i : Option Nat) (f : Er → FS) (a : Addr) (cls : Value) (d : Option Addr) : TS := fun Dn σ H => ∃ er ρ Hs Fr, Rel K ρ Hs Fr σ H ∧ HasX i σ a ∧ ErOk K Hs er cls d ∧ PstS K W0 Fr σ Hs Dn (f er ρ)
theorem DXs.can {st : List Stmt} {f : Er → FS} (h : DXs X i st f) : ∀ (a : Addr) (oe : Obj) (cls : Value) (d : Option Addr) (pn : List (Addr × Obj)), Zc cls d oe → (∃ vs, oe.data = .fields vs) → PSs (X.suite a ((a, oe) :: pn)) st (tXs X.K i f a cls d) := fun a oe cls d pn hz hf => by
  obtain ⟨t, p, q⟩ := h a oe cls d pn hz hf
  exact ⟨fun pins s σ H D I ⟨er, ρ, Hs, Fr, r, hx, eo, k⟩ => p.run pins s σ H D I (q er ρ Hs Fr σ H D r hx eo k)⟩
theorem Gd.tr (g : Gd X W) {W' : WX} {pn : List (Addr × Obj)} {xe : Value → Shared → Prop} (tk : Takes (X.tr pn xe) W') (hp : PassesOwn (model X.prog X.w) X.A X.env xe) : Gd (X.tr pn xe) W' := ⟨tk, hp, g.calm, g.nd, g.hu⟩
theorem ds_try_as (i : Nat) {x n : Str} {c : Value} {cm : Str → Option Bool} {body suite : List Stmt} {b₀ : Stmt} {np pos' : Pos} {fb : FS} {fs : Er → FS} (g : Gd X W) (hs : X.stack = X.env :: X.outer) (hf : X.env.frame = some X.env.locals) (hi : X.N[i]? = some n) (hln : X.env.kindOf n = some .local) (hc : Names X x c)
    (hcm : ∀ y b, cm y = some b → PySem.W.exmOne X.K (.ref (He.ga X.K y)) c = some b)
    (hb : ∀ (W' : WX) (pn : List (Addr × Obj)) (xe : Value → Shared → Prop), Gd (X.tr pn xe) W' → DSs (X.tr pn xe) W' body fb)
    (hsu : DXs X (some i) (b₀ :: suite) fs) :
    DS X W (.Try body [.ExceptHandler (some (.Name x np)) (some n) (b₀ :: suite) pos'] [] [] pos) (sTryAs i cm fb fs) := by
  refine ⟨_, ps_try_as (tb := fun W' => tSsC X.K W' fb) hs hf g.nd hi hln hc g.tk (fun W' pn xe tk hp => (hb W' pn xe (g.tr tk hp)).can) hsu.can, fun ρ Hs Fr σ H Dn rl q => ?_⟩
  refine ⟨ρ, Hs, Fr, rl, ?_⟩
  unfold sTryAs at q
  cases hr : fb ρ with
  | nx ρ1 => rw [hr] at q; exact q
  | rt d ρ1 => rw [hr] at q; exact q
  | no => rw [hr] at q; exact q
  | er er ρ1 =>
    obtain ⟨y, fds⟩ := er
    rw [hr] at q
    dsimp only at q
    cases hy : cm y with
    | none => rw [hy] at q; exact q.elim
    | some b =>
      rw [hy] at q
      intro c' dd σ' Hs' H' ex r1 eo
      have hcls := eo.1
      subst hcls
      refine ⟨b, hcm y b hy, fun hbt a ha => ?_, fun hbf => ?_⟩
      · subst hbt
        have rl2 : Rel X.K (ρ1.set i .un) Hs' Fr (σ'.set i (some (.ref a))) H' := r1.drop
        dsimp only at q
        split at q
        · rename_i hl
          rw [r1.len] at hl
          refine ⟨.mk y fds, _, Hs', Fr, rl2, fun j hj => ?_, eo, ?_⟩
          · cases hj
            rw [List.getElem?_set_self hl]
          · cases hs2 : fs (.mk y fds) (ρ1.set i .un) with
            | nx ρ2 =>
              rw [hs2] at q
              exact fun σ2 Hs2 H2 e2 r2 => q _ Hs2 H2 (ex.trans e2) r2.drop
            | rt d ρ2 =>
              rw [hs2] at q
              exact fun v σ2 Hs2 H2 e2 r2 p2 => q v (σ2.set i none) Hs2 H2 (ex.trans e2) r2.drop p2
            | er e2 ρ2 => rw [hs2] at q; exact q.elim
            | no => rw [hs2] at q; exact q.elim
        · exact q.elim
      · subst hbf
        exact q _ _ _ _ _ ex r1 eo
end
end Fw
end

section
set_option Elab.async false
set_option linter.all false
set_option autoImplicit false
set_option maxRecDepth 100000
set_option maxHeartbeats 4000000
/-! Fw11: the head's facts. -/
namespace Fw
open PySem PySem.Spec PyProof.Rows L2
def oexO (K : PySem.W.Frag) (C : Addr) : Bool := match K.lookup C with
  | some ⟨.type "type", _, .cls cd, sl⟩ => (match cd.mro, sl.toList with
    | .ref C' :: bm, [_, _, _, _, some (.builtin n), _] => C' == C && n == "ValueError.__new__" && !cd.hasDel && cd.hasDict && PySem.HandSPX.refsVE bm
    | _, _ => false)
  | _ => false
theorem oexO_ok {K : PySem.W.Frag} {C : Addr} (h : oexO K C = true) : ∃ nm q N bs bm sn sub ab col dd k0 k1 k2 k3 k5, K.lookup C = some (excClassObj nm q C N bs bm true sn sub ab col dd k0 k1 k2 k3 k5 "ValueError.__new__") ∧ PySem.HandSPX.refsVE bm = true := by
  unfold oexO at h
  split at h
  · rename_i dd cd sl hl
    split at h
    · rename_i C' bm k0 k1 k2 k3 n k5 hm hs
      simp only [Bool.and_eq_true, beq_iff_eq, Bool.not_eq_true'] at h
      obtain ⟨⟨⟨⟨h1, h2⟩, h3⟩, h4⟩, h5⟩ := h
      subst h1 h2
      obtain ⟨nm, bs, mro, N, q, hd, sn, sub, ab, col, del⟩ := cd
      dsimp only at hm h3 h4
      subst hm h3 h4
      have : sl = #[k0, k1, k2, k3, some (.builtin "ValueError.__new__"), k5] := by
        rw [← Array.toArray_toList (xs := sl), hs]
      subst this
      exact ⟨nm, q, N, bs, bm, sn, sub, ab, col, dd, k0, k1, k2, k3, k5, hl, h5⟩
    · cases h
  · cases h
inductive F2 where
  | oex (c : Str)
  | xf (c : Str)
  | isx (c : Str)
  | kit (c y : Str) (b : Bool)
  | kitT (c : Str) (T : String) (b : Bool)
  | ini (c : Str)
def F2.ok (K : PySem.W.Frag) : F2 → Bool
  | .oex c => oexO K (He.ga K c) && (He.eqO (PySem.W.findIn K (.ref (He.ga K c)) "__setattr__") (some (some (.builtin "object.__setattr__"))) && (decide (PySem.W.subIn K (.ref (He.ga K c)) (.type "BaseException") = some true) && (decide (PySem.W.typeIn K (.ref (He.ga K c)) = some (.type "type")) && PySem.W.keepIn K (.ref (He.ga K c)))))
  | .xf c => xfB K (He.ga K c)
  | .isx c => He.eqO (PySem.W.findIn K (.ref (He.ga K c)) "__getattribute__") (some (some (.builtin "BaseException.__getattribute__"))) && (He.eqO (PySem.W.findIn K (.ref (He.ga K c)) "__getattr__") (some none) && (decide (PySem.W.subIn K (.ref (He.ga K c)) (.type "BaseException") = some true) && (PySem.W.hasDictIn K (He.ga K c) &&
      (He.eqO (PySem.W.findIn K (.ref (He.ga K c)) "__class__") (some (some (.builtin "object.__class__"))) && (He.eqO (PySem.W.specialIn K (.builtin "object.__class__") "__get__") (some (some (.builtin "getset_descriptor.__get__"))) && (decide (PySem.W.takesIn K (.builtin "object.__class__") = some true) && decide (PySem.W.mroIn K (He.ga K c) (.type "object") = some true)))))))
  | .kit c y b => decide (PySem.W.kitOne K (.ref (He.ga K c)) (.ref (He.ga K y)) = some b)
  | .kitT c T b => decide (PySem.W.kitOne K (.ref (He.ga K c)) (.type T) = some b)
  | .ini c => He.eqO (PySem.W.findIn K (.ref (He.ga K c)) "__init__") (some (some (.ref (He.ma K (He.ga K c) "__init__")))) && decide (PySem.W.typeIn K (.ref (He.ma K (He.ga K c) "__init__")) = some (.type "function"))
section
variable {K : PySem.W.Frag}
theorem oex_ok {c : Str} (h : (F2.oex c).ok K = true) : OexC K (He.ga K c) := by
  obtain ⟨h1, h⟩ := He.ba h
  obtain ⟨h2, h⟩ := He.ba h
  obtain ⟨h3, h⟩ := He.ba h
  obtain ⟨h4, h5⟩ := He.ba h
  exact ⟨oexO_ok h1, He.eqO_ok h2, of_decide_eq_true h3, of_decide_eq_true h4, h5⟩
theorem xf_ok {c : Str} (h : (F2.xf c).ok K = true) : XfC K (He.ga K c) := xfB_ok h
theorem isx_ok {c : Str} (h : (F2.isx c).ok K = true) : ExcC K (He.ga K c) := by
  obtain ⟨h1, h⟩ := He.ba h
  obtain ⟨h2, h⟩ := He.ba h
  obtain ⟨h3, h⟩ := He.ba h
  obtain ⟨h4, h⟩ := He.ba h
  obtain ⟨h5, h⟩ := He.ba h
  obtain ⟨h6, h⟩ := He.ba h
  obtain ⟨h7, h8⟩ := He.ba h
  exact ⟨He.eqO_ok h1, He.eqO_ok h2, of_decide_eq_true h3, h4, He.eqO_ok h5, He.eqO_ok h6, of_decide_eq_true h7, of_decide_eq_true h8⟩
theorem kit_ok {c y : Str} {b : Bool} (h : (F2.kit c y b).ok K = true) : PySem.W.kitOne K (.ref (He.ga K c)) (.ref (He.ga K y)) = some b := of_decide_eq_true h
theorem kitT_ok {c : Str} {T : String} {b : Bool} (h : (F2.kitT c T b).ok K = true) : PySem.W.kitOne K (.ref (He.ga K c)) (.type T) = some b := of_decide_eq_true h
theorem ini_ok {c : Str} (h : (F2.ini c).ok K = true) : PySem.W.findIn K (.ref (He.ga K c)) "__init__" = some (some (.ref (He.ma K (He.ga K c) "__init__"))) ∧ PySem.W.typeIn K (.ref (He.ma K (He.ga K c) "__init__")) = some (.type "function") := by
  obtain ⟨h1, h2⟩ := He.ba h
  exact ⟨He.eqO_ok h1, of_decide_eq_true h2⟩
end
/-- all that the head tells -/
structure Say (fa : List He.Fa) (fn : List He.DefD) (f2 : List F2) (K : PySem.W.Frag) (h : Heap) (mg : Str → Option Value) : Prop where
  kin : K.In h
  ns : h.Ns mainGlobals mg
  c : He.SaysD fa fn K
  m : (f2.all fun f => f.ok K) = true
section
variable {fa : List He.Fa} {fn : List He.DefD} {f2 : List F2} {K : PySem.W.Frag} {h : Heap} {mg : Str → Option Value}
theorem Say.glo (Y : Say fa fn f2 K h mg) (i : Nat) {x : Str} (e : fa[i]? = some (.glo x) := by rfl) : mg x = some (.ref (He.ga K x)) := He.glo_ok Y.kin Y.ns (Y.c.fact i e)
theorem Say.free (Y : Say fa fn f2 K h mg) (i : Nat) {x : Str} (e : fa[i]? = some (.free x) := by rfl) : mg x = none := He.free_ok Y.kin Y.ns (Y.c.fact i e)
theorem Say.int (Y : Say fa fn f2 K h mg) (i : Nat) {x : Str} {n : Int} (e : fa[i]? = some (.int x n) := by rfl) : ∃ t, mg x = some (.int n t) := He.int_ok Y.kin Y.ns (Y.c.fact i e)
theorem Say.noat (Y : Say fa fn f2 K h mg) (i : Nat) {x f : Str} (e : fa[i]? = some (.noat x f) := by rfl) : PySem.W.findIn K (.ref (He.ga K x)) f = some none := He.noat_ok (Y.c.fact i e)
theorem Say.exm (Y : Say fa fn f2 K h mg) (i : Nat) {x y : Str} {b : Bool} (e : fa[i]? = some (.exm x y b) := by rfl) : PySem.W.exmOne K (.ref (He.ga K x)) (.ref (He.ga K y)) = some b := He.exm_ok (Y.c.fact i e)
theorem Say.g2 (Y : Say fa fn f2 K h mg) (i : Nat) {f : F2} (e : f2[i]? = some f := by rfl) : f.ok K = true := List.all_eq_true.mp Y.m f (List.mem_of_getElem? e)
theorem Say.def_ (Y : Say fa fn f2 K h mg) (i : Nat) {d : He.DefD} (e : fn[i]? = some d := by rfl) : ∃ fd, FunD K d.name d.qual d.params d.body d.scope (d.dvs K) (d.kws K) (He.fAd K d.at_) fd := Y.c.def_ i e
end
end Fw
end

section
set_option Elab.async false
set_option linter.all false
set_option autoImplicit false
set_option maxRecDepth 100000
set_option maxHeartbeats 4000000
/-! Fw12: the rules as the printed walks call them. -/
namespace Fw
open PySem PySem.Spec PyProof.Rows L2
section
variable {X : Cx} {W : WX} {pos p : Pos} {a b e : Expr} {es : List Expr} {f g : FE D} {fl : FE (List D)}
theorem de_add (ha : DE X W a f) (hb : DE X W b g) : DE X W (.BinOp a .Add b pos) (e2 dAdd f g) := de_op op_addA op2_add ha hb
theorem de_sub (ha : DE X W a f) (hb : DE X W b g) : DE X W (.BinOp a .Sub b pos) (e2 dSub f g) := de_op op_sub op2_sub ha hb
theorem de_mul (ha : DE X W a f) (hb : DE X W b g) : DE X W (.BinOp a .Mult b pos) (e2 dMul f g) := de_op op_mulX op2_mul ha hb
theorem de_div (ha : DE X W a f) (hb : DE X W b g) : DE X W (.BinOp a .FloorDiv b pos) (e2 dDiv f g) := de_op op_fdivW op2_div ha hb
theorem de_mod (ha : DE X W a f) (hb : DE X W b g) : DE X W (.BinOp a .Mod b pos) (e2 dMod f g) := de_op op_mod op2_mod ha hb
theorem de_pow (ha : DE X W a f) (hb : DE X W b g) : DE X W (.BinOp a .Pow b pos) (e2 dPow f g) := de_op op_pow op2_pow ha hb
theorem de_neg (ha : DE X W a f) : DE X W (.UnaryOp .USub a pos) (e1 dNeg f) := de_un un_neg op1_neg ha
theorem de_lt (ha : DE X W a f) (hb : DE X W b g) : DE X W (.Compare a [.Lt] [b] pos) (e2 (dCmp iLt) f g) := de_cmp op_lt (op2_cmp iLt) (nomark _) ha hb
theorem de_le (ha : DE X W a f) (hb : DE X W b g) : DE X W (.Compare a [.LtE] [b] pos) (e2 (dCmp iLe) f g) := de_cmp op_le (op2_cmp iLe) (nomark _) ha hb
theorem de_gt (ha : DE X W a f) (hb : DE X W b g) : DE X W (.Compare a [.Gt] [b] pos) (e2 (dCmp iGt) f g) := de_cmp op_gt (op2_cmp iGt) (nomark _) ha hb
theorem de_ge (ha : DE X W a f) (hb : DE X W b g) : DE X W (.Compare a [.GtE] [b] pos) (e2 (dCmp iGe) f g) := de_cmp op_ge (op2_cmp iGe) (nomark _) ha hb
theorem de_eq (gd : Gd X W) (ha : DE X W a f) (hb : DE X W b g) : DE X W (.Compare a [.Eq] [b] pos) (e2 dEq f g) := de_cmp (op_eqD gd.hu) op2_eq (nomark _) ha hb
theorem de_ne (gd : Gd X W) (ha : DE X W a f) (hb : DE X W b g) : DE X W (.Compare a [.NotEq] [b] pos) (e2 dNe f g) := de_cmp (op_neD gd.hu) op2_ne (nomark _) ha hb
theorem de_isN (ha : DE X W a f) (hb : DE X W b g) : DE X W (.Compare a [.Is] [b] pos) (e2 dIsN f g) := de_cmp op_isN op2_isN (nomark _) ha hb
theorem de_notN (ha : DE X W a f) (hb : DE X W b g) : DE X W (.Compare a [.IsNot] [b] pos) (e2 dNotN f g) := de_cmp op_notN op2_notN (nomark _) ha hb
theorem dt_lt (ha : DE X W a f) (hb : DE X W b g) : DT X W (.Compare a [.Lt] [b] pos) (tV (e2 (dCmp iLt) f g)) := dt_cmp op_lt (op2_cmp iLt) (nomark _) ha hb
theorem dt_le (ha : DE X W a f) (hb : DE X W b g) : DT X W (.Compare a [.LtE] [b] pos) (tV (e2 (dCmp iLe) f g)) := dt_cmp op_le (op2_cmp iLe) (nomark _) ha hb
theorem dt_gt (ha : DE X W a f) (hb : DE X W b g) : DT X W (.Compare a [.Gt] [b] pos) (tV (e2 (dCmp iGt) f g)) := dt_cmp op_gt (op2_cmp iGt) (nomark _) ha hb
theorem dt_ge (ha : DE X W a f) (hb : DE X W b g) : DT X W (.Compare a [.GtE] [b] pos) (tV (e2 (dCmp iGe) f g)) := dt_cmp op_ge (op2_cmp iGe) (nomark _) ha hb
theorem dt_eq (gd : Gd X W) (ha : DE X W a f) (hb : DE X W b g) : DT X W (.Compare a [.Eq] [b] pos) (tV (e2 dEq f g)) := dt_cmp (op_eqD gd.hu) op2_eq (nomark _) ha hb
theorem dt_ne (gd : Gd X W) (ha : DE X W a f) (hb : DE X W b g) : DT X W (.Compare a [.NotEq] [b] pos) (tV (e2 dNe f g)) := dt_cmp (op_neD gd.hu) op2_ne (nomark _) ha hb
theorem dt_isN (ha : DE X W a f) (hb : DE X W b g) : DT X W (.Compare a [.Is] [b] pos) (tV (e2 dIsN f g)) := dt_cmp op_isN op2_isN (nomark _) ha hb
theorem dt_notN (ha : DE X W a f) (hb : DE X W b g) : DT X W (.Compare a [.IsNot] [b] pos) (tV (e2 dNotN f g)) := dt_cmp op_notN op2_notN (nomark _) ha hb
theorem de_item (ha : DE X W a f) (hb : DE X W b g) (hs : PlainIx b := by exact fun _ _ => rfl) : DE X W (.Subscript a b pos) (e2 dIx f g) := de_ix ix_seq op2_ix hs ha hb
theorem de_len (hm : X.mg "len" = none) (ha : DA X W (e :: es) fl) (hg : Gl X "len" := by rfl) (he : starEach (e :: es) X.env = (false, eval e X.env) :: starEach es X.env := by rfl) (hpl : (backTo pos (starEach es X.env)).any (·.1) = false := by rfl) :
    DE X W (.Call (.Name "len" p) (e :: es) [] pos) (eL dLen fl) := de_callB call_lenA opL_len hg hm boot_len ha (by decide) (by decide) he hpl
theorem de_max (gd : Gd X W) (hm : X.mg "max" = none) (ha : DA X W (e :: es) fl) (hg : Gl X "max" := by rfl) (he : starEach (e :: es) X.env = (false, eval e X.env) :: starEach es X.env := by rfl) (hpl : (backTo pos (starEach es X.env)).any (·.1) = false := by rfl) :
    DE X W (.Call (.Name "max" p) (e :: es) [] pos) (eL dMax2 fl) := de_callB (call_max2 gd.calm) opL_max2 hg hm boot_max ha (by decide) (by decide) he hpl
theorem de_min (gd : Gd X W) (hm : X.mg "min" = none) (ha : DA X W (e :: es) fl) (hg : Gl X "min" := by rfl) (he : starEach (e :: es) X.env = (false, eval e X.env) :: starEach es X.env := by rfl) (hpl : (backTo pos (starEach es X.env)).any (·.1) = false := by rfl) :
    DE X W (.Call (.Name "min" p) (e :: es) [] pos) (eL dMin2 fl) := de_callB (call_min2 gd.calm) opL_min2 hg hm boot_min ha (by decide) (by decide) he hpl
theorem de_list (hm : X.mg "list" = none) (ha : DA X W (e :: es) fl) (hg : Gl X "list" := by rfl) (he : starEach (e :: es) X.env = (false, eval e X.env) :: starEach es X.env := by rfl) (hpl : (backTo pos (starEach es X.env)).any (·.1) = false := by rfl) :
    DE X W (.Call (.Name "list" p) (e :: es) [] pos) (eL dList fl) := de_callT call_list_of opL_list hg hm PyProof.Rows.boot_list ha (by decide) (by decide) he hpl
theorem de_tuple (hm : X.mg "tuple" = none) (ha : DA X W (e :: es) fl) (hg : Gl X "tuple" := by rfl) (he : starEach (e :: es) X.env = (false, eval e X.env) :: starEach es X.env := by rfl) (hpl : (backTo pos (starEach es X.env)).any (·.1) = false := by rfl) :
    DE X W (.Call (.Name "tuple" p) (e :: es) [] pos) (eL dTuple fl) := de_callT call_tuple_of opL_tuple hg hm PyProof.Rows.boot_tuple ha (by decide) (by decide) he hpl
theorem de_sum (gd : Gd X W) (hm : X.mg "sum" = none) (ha : DA X W (e :: es) fl) (hg : Gl X "sum" := by rfl) (he : starEach (e :: es) X.env = (false, eval e X.env) :: starEach es X.env := by rfl) (hpl : (backTo pos (starEach es X.env)).any (·.1) = false := by rfl) :
    DE X W (.Call (.Name "sum" p) (e :: es) [] pos) (eL dSum fl) := de_callB (cr_sum gd.calm) opL_sum hg hm boot_sum ha (by decide) (by decide) he hpl
theorem de_all (gd : Gd X W) (hm : X.mg "all" = none) (ha : DA X W (e :: es) fl) (hg : Gl X "all" := by rfl) (he : starEach (e :: es) X.env = (false, eval e X.env) :: starEach es X.env := by rfl) (hpl : (backTo pos (starEach es X.env)).any (·.1) = false := by rfl) :
    DE X W (.Call (.Name "all" p) (e :: es) [] pos) (eL dAll fl) := de_callB (cr_all gd.calm) opL_all hg hm boot_all ha (by decide) (by decide) he hpl
/-! ### a walk over a list or a tuple -/
def iS (f : FE D) : FE (List D) := fun ρ => (f ρ).bind fun d ρ => match d with
  | .lst ds => .ok ds ρ
  | .tup ds => .ok ds ρ
  | _ => .no
theorem di_seq {tg : Expr} (h : DE X W e f) : DI X W tg e (iS f) := by
  obtain ⟨t1, p1, q1⟩ := di_list (tg := tg) h
  obtain ⟨t2, p2, q2⟩ := di_tup (tg := tg) h
  refine ⟨_, PI.orr p1 p2, fun ρ Hs Fr σ H Q rl q => ?_⟩
  cases hf : f ρ with
  | no => unfold iS at q; rw [hf] at q; exact q.elim
  | er e ρ1 =>
    refine .inl (q1 ρ Hs Fr σ H Q rl ?_)
    unfold iS at q
    unfold iL
    rw [hf] at q ⊢
    exact q
  | ok d ρ1 =>
    cases d with
    | lst ds =>
      refine .inl (q1 ρ Hs Fr σ H Q rl ?_)
      unfold iS at q
      unfold iL
      rw [hf] at q ⊢
      exact q
    | tup ds =>
      refine .inr (q2 ρ Hs Fr σ H Q rl ?_)
      unfold iS at q
      unfold iT
      rw [hf] at q ⊢
      exact q
    | _ => unfold iS at q; rw [hf] at q; exact q.elim
/-- a constant of the module's, an int -/
theorem de_gint {x : Str} {i : Int} (h : ∃ t, X.mg x = some (.int i t)) (hg : Gl X x := by rfl) (hd : (x == ("__debug__" : Str)) = false := by decide) : DE X W (.Name x p) (eC (.int i)) := by
  obtain ⟨t, ht⟩ := h
  exact de_glob (v := .int i) (pe_glob hg ht ⟨t, rfl⟩ hd) fun _ => .int i
/-! ### list(x), an object of one's own -/
def oListK (as : List D) (ρ : PEnv) : R OV := match as with
  | [.lst ds] => .ok (.l ds) ρ
  | [.tup ds] => .ok (.l ds) ρ
  | _ => .no
def oList (f : FE (List D)) : FE OV := fun ρ => (f ρ).bind oListK
theorem own_done {K : PySem.W.Frag} {ρ1 : PEnv} {Hs Hs1 H1 : Hp} {Fr : FrT} {σ : L2.St} {Q : VK} {xs : List V} {ds : List D} {l : Addr} (e1 : Ex Hs Hs1) (r1 : Rel K ρ1 Hs1 Fr σ H1) (hl : H1 l = none) (h2 : RpL K Hs1 xs ds)
    (q : PstO K W Fr σ Hs Q (.ok (.l ds) ρ1)) : Q (.ref l) (upd H1 l (.lst xs)) := by
  obtain ⟨n1, n2, n3⟩ := fr_none r1 hl
  have gw : Gw Hs1 H1 Hs1 (upd H1 l (.lst xs)) := .own r1.hs hl
  exact q _ _ _ (e1.trans gw.s) (r1.grow gw) ⟨l, rfl, n1, n2, ⟨_, upd_same, h2⟩, n3⟩
theorem do_list (hm : X.mg "list" = none) (ha : DA X W (e :: es) fl) (hg : Gl X "list" := by rfl) (he : starEach (e :: es) X.env = (false, eval e X.env) :: starEach es X.env := by rfl) (hpl : (backTo pos (starEach es X.env)).any (·.1) = false := by rfl) :
    DO X W (.Call (.Name "list" p) (e :: es) [] pos) (oList fl) := by
  obtain ⟨ta, pa, qa⟩ := ha
  refine ⟨_, pe_callTy call_list_of hg hm PyProof.Rows.boot_list pa (by decide) (by decide) he hpl, fun ρ Hs Fr σ H Q rl q => ?_⟩
  refine qa ρ Hs Fr σ H _ rl ?_
  unfold oList at q
  cases hf : fl ρ with
  | no => rw [hf] at q; exact q.elim
  | er e ρ1 => rw [hf] at q; exact q
  | ok as ρ1 =>
    rw [hf] at q
    intro vs Hs1 H1 e1 r1 p1
    replace q : PstO X.K W Fr σ Hs Q (oListK as ρ1) := q
    unfold oListK at q
    split at q
    · rename_i ds
      obtain ⟨x, rfl, rx⟩ := rpl1 p1
      cases rx with
      | lst h1 h2 =>
        refine ⟨_, _, rfl, .inl (r1.hs.l h1), fun l hl => ?_⟩
        obtain ⟨n1, n2, n3⟩ := fr_none r1 hl
        exact own_done e1 r1 hl h2 q
    · rename_i ds
      obtain ⟨x, rfl, rx⟩ := rpl1 p1
      cases rx with
      | tup h1 h2 =>
        refine ⟨_, _, rfl, .inr (SqT.of (r1.hs _ _ h1)), fun l hl => ?_⟩
        obtain ⟨n1, n2, n3⟩ := fr_none r1 hl
        exact own_done e1 r1 hl h2 q
    · exact q.elim
/-! ### a comprehension's block, by a Bool -/
def blkB (N : List Str) (sc scope : Scope) (own : List (Str × Nat)) : Bool :=
  decide (scope.kind = .function) && ((scope.names.all fun y => decide (scope.names.lookup y.1 = some y.2)) && ((own.all fun p => decide (N[p.2]? = some p.1)) &&
    ((scope.names.all fun y => !decide (y.2 = .free) || (decide (sc.names.lookup y.1 = some .cell) || decide (sc.names.lookup y.1 = some .free))) &&
    (scope.names.all fun y => !(decide (y.2 = .local) || decide (y.2 = .cell)) || (decide (y.1 ∈ own.map (·.1)) || decide (y.1 ∉ N))))))
theorem blk_ok {N : List Str} {sc scope : Scope} {own : List (Str × Nat)} (h : blkB N sc scope own = true) : BlkOk N sc scope own := by
  obtain ⟨h1, h⟩ := He.ba h
  obtain ⟨h2, h⟩ := He.ba h
  obtain ⟨h3, h⟩ := He.ba h
  obtain ⟨h4, h5⟩ := He.ba h
  refine ⟨of_decide_eq_true h1, fun y hy => of_decide_eq_true (List.all_eq_true.mp h2 y hy), fun p hp => of_decide_eq_true (List.all_eq_true.mp h3 p hp), fun y hy e => ?_, fun y hy e => ?_⟩
  · have z := List.all_eq_true.mp h4 y hy
    simpa [e] using z
  · have z := List.all_eq_true.mp h5 y hy
    rcases e with e | e
    · simpa [e] using z
    · simpa [e] using z
/-! ### tables by names -/
def tab (l : List (Str × Bool)) (c : Str) : Option Bool := l.lookup c
theorem tab_ok {P : Str → Bool → Prop} {l : List (Str × Bool)} (h : ∀ y b, (y, b) ∈ l → P y b) : ∀ y b, tab l y = some b → P y b := by
  induction l with
  | nil => intro y b e; cases e
  | cons q r ih =>
    obtain ⟨k, v⟩ := q
    intro y b e
    unfold tab at e
    rw [List.lookup_cons] at e
    cases hk : (y == k) with
    | true =>
      rw [hk] at e
      cases e
      rw [beq_iff_eq.mp hk]
      exact h k v List.mem_cons_self
    | false =>
      rw [hk] at e
      exact ih (fun y b m => h y b (List.mem_cons_of_mem _ m)) y b e
theorem tabN {P : Str → Bool → Prop} : ∀ y b, (y, b) ∈ ([] : List (Str × Bool)) → P y b := fun _ _ h => by cases h
theorem tabC {P : Str → Bool → Prop} {k : Str} {v : Bool} {l : List (Str × Bool)} (h : P k v) (hs : ∀ y b, (y, b) ∈ l → P y b) : ∀ y b, (y, b) ∈ (k, v) :: l → P y b := fun y b m => by
  rcases List.mem_cons.mp m with e | e
  · cases e
    exact h
  · exact hs y b e
theorem dx_isO {tb : Str → Option Bool} {x y : Str} {j : Nat} {p1 p2 : Pos} (hm : X.mg "isinstance" = none) (hv : ∀ a pn, PE (X.suite a pn) (.Name x p1) (tVar j)) (hy : X.mg y = some (.ref (He.ga X.K y)))
    (ht : ∀ c b, tb c = some b → ExcC X.K (He.ga X.K c) ∧ PySem.W.kitOne X.K (.ref (He.ga X.K c)) (.ref (He.ga X.K y)) = some b) (hg : Gl X "isinstance" := by rfl) (hgy : Gl X y := by rfl) (hdb : (y == ("__debug__" : Str)) = false := by decide)
    (h1 : starEach [.Name x p1, .Name y p2] X.env = (false, eval (.Name x p1) X.env) :: starEach [.Name y p2] X.env := by rfl) (h2 : starEach [.Name y p2] X.env = (false, eval (.Name y p2) X.env) :: starEach [] X.env := by rfl) (hpl : (backTo pos (starEach [.Name y p2] X.env)).any (·.1) = false := by rfl) :
    DX X (some j) (.Call (.Name "isinstance" p) [.Name x p1, .Name y p2] [] pos) (isX tb) :=
  dx_isE (cv := .ref (He.ga X.K y)) (cu := .ref (He.ga X.K y)) hg hm hv (fun _ _ => pe_glob hgy hy rfl hdb) (fun _ h => h) ht h1 h2 hpl
theorem dx_isT {tb : Str → Option Bool} {x y : Str} {T : String} {j : Nat} {p1 p2 : Pos} (hm : X.mg "isinstance" = none) (hv : ∀ a pn, PE (X.suite a pn) (.Name x p1) (tVar j)) (hy : X.mg y = none) (hb : bootBuiltins y = some (.type T))
    (ht : ∀ c b, tb c = some b → ExcC X.K (He.ga X.K c) ∧ PySem.W.kitOne X.K (.ref (He.ga X.K c)) (.type T) = some b) (hg : Gl X "isinstance" := by rfl) (hgy : Gl X y := by rfl) (hn : y ≠ "__name__" := by decide) (hdb : (y == ("__debug__" : Str)) = false := by decide)
    (h1 : starEach [.Name x p1, .Name y p2] X.env = (false, eval (.Name x p1) X.env) :: starEach [.Name y p2] X.env := by rfl) (h2 : starEach [.Name y p2] X.env = (false, eval (.Name y p2) X.env) :: starEach [] X.env := by rfl) (hpl : (backTo pos (starEach [.Name y p2] X.env)).any (·.1) = false := by rfl) :
    DX X (some j) (.Call (.Name "isinstance" p) [.Name x p1, .Name y p2] [] pos) (isX tb) :=
  dx_isE (cv := .ty T) (cu := .type T) hg hm hv (fun _ _ => pe_bltn hgy hy hb rfl hn hdb) (fun _ h => h) ht h1 h2 hpl
end
end Fw
end

section
set_option Elab.async false
set_option linter.all false
set_option autoImplicit false
set_option maxRecDepth 100000
set_option maxHeartbeats 4000000
/-! Fw13: a list of lists of one's own. -/
namespace Fw
open PySem PySem.Spec PyProof.Rows L2
theorem Rel.give {K : PySem.W.Frag} {ρ : PEnv} {Hs : Hp} {Fr : FrT} {σ : L2.St} {H : Hp} (r : Rel K ρ Hs Fr σ H) {a : Addr} {u : HO} (h : H a = some u) (hs : Hs a = none) (hf : Fr.no a) (hn : ∀ (j : Nat) (s : SV), ρ[j]? = some s → isOw s = true → σ[j]? ≠ some (some (.ref a))) : Rel K ρ (upd Hs a u) Fr σ H := by
  have ex : Ex Hs (upd Hs a u) := Ex.new hs
  refine ⟨r.len, fun b o e => ?_, r.fr, fun b o e => ?_, r.od, fun j s e => ?_, r.ap⟩
  · by_cases hb : b = a
    · subst hb
      rw [upd_same] at e
      rw [h]
      exact e
    · rw [upd_ne hb] at e
      exact r.hs b o e
  · by_cases hb : b = a
    · subst hb
      exact hf.1
    · rw [upd_ne hb] at e
      exact r.dis b o e
  · have q := r.sl j s e
    cases s with
    | un => trivial
    | sh d =>
      obtain ⟨v, h1, h2⟩ := q
      exact ⟨v, h1, h2.mono ex⟩
    | ow t w =>
      obtain ⟨b, h1, h2, h3, h4, h5⟩ := q
      refine ⟨b, h1, ?_, h3, h4.mono ex rfl, h5⟩
      rw [upd_ne fun z => ?_]
      · exact h2
      · subst z
        exact hn j _ e rfl h1
section
variable {X : Cx} {W : WX} {pos : Pos}
def oLd : FE OV := fun ρ => .ok (.ld []) ρ
theorem do_ld : DO X W (.List [] pos) oLd := by
  refine ⟨_, pe_lst pa_nil, fun ρ Hs Fr σ H Q rl q => ?_⟩
  refine ⟨Nat.zero_le _, fun p hp => ?_⟩
  obtain ⟨n1, n2, n3⟩ := fr_none rl hp
  have gw : Gw Hs H Hs (upd H p (.lst [])) := .own rl.hs hp
  exact q _ _ _ gw.s (rl.grow gw) ⟨p, rfl, n1, n2, ⟨[], upd_same, List.nodup_nil, (fun _ h => by cases h), .nil⟩, n3⟩
/-- the object that the name has is moved out of it -/
def oMv (j : Nat) : FE OV := fun ρ => match getO j ρ with
  | some w => .ok w (ρ.set j .un)
  | none => .no
theorem do_mv (j : Nat) {x : Str} (hv : PE X (.Name x pos) (tVar j)) : DO X W (.Name x pos) (oMv j) := by
  refine ⟨_, hv, fun ρ Hs Fr σ H Q rl q => ?_⟩
  unfold oMv at q
  cases hw : getO j ρ with
  | none => rw [hw] at q; exact q.elim
  | some w =>
    rw [hw] at q
    obtain ⟨a, h1, h2, h3, h4⟩ := own_at rl hw
    refine ⟨_, h1, q _ Hs H (Ex.refl _) ?_ ⟨a, rfl, h2, h3, h4, fun k s e o hk => ?_⟩⟩
    · have z := rl.drop (i := j) (o := some (.ref a))
      have e : σ.set j (some (.ref a)) = σ := by
        apply List.ext_getElem?
        intro k
        by_cases hk : j = k
        · subst hk
          have hl : j < σ.length := by
            by_cases hl : j < σ.length
            · exact hl
            · rw [List.getElem?_eq_none (by omega)] at h1
              cases h1
          rw [List.getElem?_set_self hl, h1]
        · rw [List.getElem?_set_ne hk]
      rw [e] at z
      exact z
    · by_cases hjk : j = k
      · subst hjk
        by_cases hl : j < ρ.length
        · rw [List.getElem?_set_self hl] at e
          cases e
          cases o
        · rw [List.getElem?_eq_none (by simpa using hl)] at e
          cases e
      · rw [get_set_ne hjk] at e
        obtain ⟨t, ht, _⟩ := getO_some hw
        exact hjk (rl.ap j k _ _ a ht e rfl o h1 hk)
/-- x.append(e): x a list of lists of one's own, e makes a list of one's own -/
def mLd (i : Nat) (fo : FE OV) : FE D := fun ρ => match getO i ρ with
  | some (.ld _) => match fo ρ with
    | .ok (.l ds) ρ1 => match getO i ρ1 with
      | some (.ld dss) => if dss.length < LIM then .ok .non (setO i (.ld (dss ++ [ds])) ρ1) else .no
      | _ => .no
    | .er e ρ1 => .er e ρ1
    | _ => .no
  | _ => .no
theorem de_appO (i : Nat) {x : Str} {p apos cpos : Pos} {e : Expr} {fo : FE OV} (hv : PE X (.Name x p) (tVar i)) (h : DO X W e fo)
    (hbase : attributeBase (.Name x p) "append" X.env (eval (.Name x p) X.env) = eval (.Name x p) X.env := by rfl)
    (hfew : ((backTo cpos (starEach [e] X.env)).all (fun x => !x.1) && (backToKw cpos (keywordEach [] X.env)).all (fun x => x.1.isSome)
      && decide ([e].length + ([] : List Keyword).length + (if ([] : List Keyword).isEmpty then 0 else 1) < 30)) = true := by rfl)
    (hline : (apos.endLine == cpos.line) = true := by rfl) (hs : starEach [e] X.env = (false, eval e X.env) :: starEach [] X.env := by rfl) (hplain : (backTo cpos (starEach [] X.env)).any (·.1) = false := by rfl) :
    DE X W (.Call (.Attribute (.Name x p) "append" apos) [e] [] cpos) (mLd i fo) := by
  obtain ⟨t, pe, qe⟩ := h
  refine ⟨_, pe_bm PySem.F.plainAttrs_list PySem.F.slot_list_append PySem.F.type_list_append mt_append hv (pa_cons pe pa_nil hs) hbase hfew hline hs hplain, fun ρ Hs Fr σ H Q rl k => ?_⟩
  unfold mLd at k
  cases hw : getO i ρ with
  | none => rw [hw] at k; exact k.elim
  | some w0 =>
    rw [hw] at k
    obtain ⟨l, h1, _, _, h4⟩ := own_at rl hw
    cases w0 with
    | ld dss0 =>
      obtain ⟨as0, g1, _⟩ := h4
      refine ⟨_, h1, .inl ⟨rfl, _, .inl (.inl g1)⟩, qe ρ Hs Fr σ H _ rl ?_⟩
      cases hf : fo ρ with
      | no => simp only [hf] at k; exact k.elim
      | er er ρ1 => simp only [hf] at k; exact k
      | ok w ρ1 =>
        intro v Hs1 H1 e1 r1 own
        obtain ⟨a, rfl, n1, n2, ro, n3⟩ := own.at_
        cases w with
        | l ds =>
          simp only [hf] at k
          obtain ⟨xs, x1, x2⟩ := ro
          cases hw1 : getO i ρ1 with
          | none => simp only [hw1] at k; exact k.elim
          | some w1 =>
            cases w1 with
            | ld dss =>
              simp only [hw1] at k
              split at k
              · rename_i hl
                obtain ⟨b, b1, b2, b3, as, y1, y2, yo, y3⟩ := own_at r1 hw1
                rw [h1] at b1
                cases b1
                have hne : a ≠ l := fun z => by
                  subst z
                  obtain ⟨t, ht, _⟩ := getO_some hw1
                  exact n3 i _ ht rfl h1
                have r2 := r1.give x1 n1 n2 n3
                have ex := Ex.new (o := .lst xs) n1
                have hlen : (as.map V.ref).length < sizeLine := lim_lt (by rw [y3.rpl.len, List.length_map]; exact hl)
                refine ⟨l, as.map V.ref, .ref a, rfl, rfl, y1, hlen, ?_⟩
                refine k .non (upd Hs1 a (.lst xs)) _ (e1.trans ex) (r2.chg hw1 h1 ⟨as ++ [a], ?_, ?_, ?_, ?_⟩) .non
                · rw [upd_same, List.map_append]; rfl
                · rw [List.nodup_append]
                  refine ⟨y2, by simp, fun c hc d hd => ?_⟩
                  rw [List.mem_singleton] at hd
                  subst hd
                  intro z
                  subst z
                  obtain ⟨o, ho⟩ := y3.mem _ hc
                  rw [n1] at ho
                  cases ho
                · intro c hc
                  rcases List.mem_append.mp hc with hc | hc
                  · exact yo c hc
                  · rw [List.mem_singleton] at hc
                    subst hc
                    exact n2.2
                · exact (y3.mono ex).snoc upd_same (x2.mono ex)
              · exact k.elim
            | _ => simp only [hw1] at k; exact k.elim
        | _ => simp only [hf] at k; exact k.elim
    | _ => exact k.elim
end
end Fw
end

section
set_option Elab.async false
set_option linter.all false
set_option autoImplicit false
set_option maxRecDepth 100000
set_option maxHeartbeats 4000000
/-! Fw14: x[0][0] = 0; what is stable may be told anew behind it. -/
namespace Fw
open PySem PySem.Spec PyProof.Rows L2
/-- what was old stands -/
def ExO (od : Addr → Prop) (Hs Hs' : Hp) : Prop := ∀ a o, Hs a = some o → od a → Hs' a = some o
def PstN (K : PySem.W.Frag) (Hs : Hp) (Fr : FrT) (Dn : Ends) : RS → Prop
  | .rt d ρ' => ∀ v σ' Hs' H', ExO Fr.od Hs Hs' → Rel K ρ' Hs' Fr σ' H' → Rp K Hs' v d → Dn.rt v H'
  | _ => False
def DN (X : Cx) (W : WX) (st : List Stmt) (f : FS) : Prop := ∃ t, PSs X st t ∧ ∀ (ρ : PEnv) (Hs : Hp) (Fr : FrT) (σ : L2.St) (H : Hp) (Dn : Ends), Rel X.K ρ Hs Fr σ H → PstN X.K Hs Fr Dn (f ρ) → t Dn σ H
theorem PstN.mono {K : PySem.W.Frag} {Hs Hs1 : Hp} {Fr : FrT} {Dn : Ends} {r : RS} (h : PstN K Hs Fr Dn r) (e : ExO Fr.od Hs Hs1) : PstN K Hs1 Fr Dn r := by
  cases r with
  | rt d ρ => exact fun v σ' Hs' H' e' rl rp => h v σ' Hs' H' (fun a o ha hod => e' a o (e a o ha hod) hod) rl rp
  | _ => exact h
section
variable {X : Cx} {W : WX} {pos : Pos}
/-- the last part: it ends by a return -/
def onlyRt : RS → RS
  | .rt d ρ => .rt d ρ
  | _ => .no
theorem dn_of {st : List Stmt} {f : FS} (h : DSs X W st f) : DN X W st (fun ρ => onlyRt (f ρ)) := by
  obtain ⟨t, p, q⟩ := h
  refine ⟨t, p, fun ρ Hs Fr σ H Dn rl k => q ρ Hs Fr σ H Dn rl ?_⟩
  dsimp only at k
  cases hf : f ρ with
  | rt d ρ' =>
    rw [hf] at k
    exact fun v σ' Hs' H' ex r rp => k v σ' Hs' H' (fun a o ha _ => ex a o ha) r rp
  | _ => rw [hf] at k; exact k.elim
theorem dn_cons {st : Stmt} {rest : List Stmt} {f g : FS} (h1 : DS X W st f) (h2 : DN X W rest g) : DN X W (st :: rest) (sSeq f g) := by
  obtain ⟨ta, pa, qa⟩ := h1
  obtain ⟨tb, pb, qb⟩ := h2
  refine ⟨_, pss_cons pa pb, fun ρ Hs Fr σ H Dn rl q => ?_⟩
  refine qa ρ Hs Fr σ H _ rl ?_
  unfold sSeq at q
  cases hf : f ρ with
  | nx ρ1 =>
    rw [hf] at q
    exact fun σ1 Hs1 H1 e1 r1 => qb ρ1 Hs1 Fr σ1 H1 Dn r1 (PstN.mono q fun a o ha _ => e1 a o ha)
  | rt d ρ1 =>
    rw [hf] at q
    exact fun v σ' Hs' H' ex r rp => q v σ' Hs' H' (fun a o ha _ => ex a o ha) r rp
  | er e ρ1 => rw [hf] at q; exact q.elim
  | no => rw [hf] at q; exact q.elim
/-! ### scalars -/
def scal : D → Bool
  | .non => true
  | .bl _ => true
  | .int _ => true
  | .str _ => true
  | _ => false
theorem rp_scal {K : PySem.W.Frag} {H H' : Hp} {v : V} {d : D} (h : scal d = true) (r : Rp K H v d) : Rp K H' v d := by
  cases r with
  | non => exact .non
  | bl b => exact .bl b
  | int i => exact .int i
  | str x => exact .str x
  | _ => cases h
theorem rpl_scal {K : PySem.W.Frag} {H H' : Hp} {vs : List V} {ds : List D} (h : ds.all scal = true) (r : RpL K H vs ds) : RpL K H' vs ds := by
  induction ds generalizing vs with
  | nil => cases r; exact .nil
  | cons d ds ih =>
    cases r with
    | cons r1 r2 =>
      rw [List.all_cons, Bool.and_eq_true] at h
      exact .cons (rp_scal h.1 r1) (ih h.2 r2)
def scalS : SV → SV
  | .sh d => if scal d then .sh d else .un
  | .ow t (.l ds) => if ds.all scal then .ow t (.l ds) else .un
  | _ => .un
theorem scalS_ow {s : SV} (h : isOw (scalS s) = true) : ∃ t ds, s = .ow t (.l ds) ∧ ds.all scal = true := by
  cases s with
  | un => exact absurd h (by decide)
  | sh d =>
    have e : isOw (scalS (.sh d)) = false := by
      show isOw (if scal d then .sh d else .un) = false
      split <;> rfl
    rw [e] at h
    cases h
  | ow t w =>
    cases w with
    | l ds =>
      by_cases hs : ds.all scal = true
      · exact ⟨t, ds, rfl, hs⟩
      · have e : isOw (scalS (.ow t (.l ds))) = false := by
          show isOw (if ds.all scal then .ow t (.l ds) else .un) = false
          rw [if_neg hs]
          rfl
        rw [e] at h
        cases h
    | _ => exact absurd (show false = true from h) (by decide)
def zeroP (i : Nat) (ρ : PEnv) : Option PEnv := match getO i ρ with
  | some (.ld ((d0 :: r0) :: rest)) => if ((d0 :: r0) :: rest).all (fun ds => ds.all scal) then some ((ρ.map scalS).set i (.sh (.lst (.lst (.int 0 :: r0) :: rest.map .lst)))) else none
  | _ => none
open Classical in
theorem Rel.zero {K : PySem.W.Frag} {ρ ρ' : PEnv} {Hs : Hp} {Fr : FrT} {σ : L2.St} {H : Hp} (r : Rel K ρ Hs Fr σ H) {i : Nat} (h : zeroP i ρ = some ρ') : ∃ l a as x0 xs, σ[i]? = some (some (.ref l)) ∧ H l = some (.lst (.ref a :: as)) ∧ H a = some (.lst (x0 :: xs)) ∧
    ∃ Hs', ExO Fr.od Hs Hs' ∧ Rel K ρ' Hs' Fr σ (upd H a (.lst (.int 0 :: xs))) := by
  unfold zeroP at h
  split at h
  · rename_i d0 r0 rest hw
    split at h
    · rename_i hsc
      cases h
      obtain ⟨tg, hi, _⟩ := getO_some hw
      obtain ⟨l, h1, h2, h3, ⟨as, g1, g2, g3, g4⟩, h5⟩ := r.sl i _ hi
      cases g4 with
      | cons k1 k2 k3 =>
        rename_i a as xs
        cases k2 with
        | cons k4 k5 =>
          rename_i x0 xs
          rw [List.all_cons, Bool.and_eq_true, List.all_cons, Bool.and_eq_true] at hsc
          obtain ⟨⟨hs0, hsr⟩, hrest⟩ := hsc
          have ha : H a = some (.lst (x0 :: xs)) := r.hs _ _ k1
          have hla : l ≠ a := fun z => by rw [← z, h2] at k1; cases k1
          have hnd := List.nodup_cons.mp g2
          refine ⟨l, a, as.map V.ref, x0, xs, h1, by rw [g1]; rfl, ha, ?_⟩
          let N : Hp := fun b => if b = l then some (.lst ((a :: as).map V.ref)) else if b = a then some (.lst (.int 0 :: xs)) else if b ∈ as then Hs b else if Fr.od b then Hs b else none
          have Nl : N l = some (.lst ((a :: as).map V.ref)) := if_pos rfl
          have Na : N a = some (.lst (.int 0 :: xs)) := by
            show (if a = l then _ else _) = _
            rw [if_neg (Ne.symm hla), if_pos rfl]
          have Nas : ∀ b ∈ as, N b = Hs b := fun b hb => by
            have hbl : b ≠ l := fun z => by
              subst z
              obtain ⟨o, ho⟩ := k3.mem b hb
              rw [h2] at ho; cases ho
            have hba : b ≠ a := fun z => by subst z; exact hnd.1 hb
            show (if b = l then _ else _) = _
            rw [if_neg hbl, if_neg hba, if_pos hb]
          have Nin : ∀ b o, N b = some o → b = l ∨ b = a ∨ Hs b = some o := fun b o hb => by
            by_cases z1 : b = l
            · exact .inl z1
            · by_cases z2 : b = a
              · exact .inr (.inl z2)
              · have hb : (if b = l then _ else _) = _ := hb
                rw [if_neg z1, if_neg z2] at hb
                split at hb
                · exact .inr (.inr hb)
                · split at hb
                  · exact .inr (.inr hb)
                  · cases hb
          refine ⟨N, fun b o hb hod => ?_, ?_⟩
          · have z1 : b ≠ l := fun z => by subst z; exact h3.2 hod
            have z2 : b ≠ a := fun z => by subst z; exact g3 b List.mem_cons_self hod
            show (if b = l then some (HO.lst ((a :: as).map V.ref)) else if b = a then some (.lst (.int 0 :: xs)) else if b ∈ as then Hs b else if Fr.od b then Hs b else none) = some o
            rw [if_neg z1, if_neg z2, if_pos hod, ite_self]
            exact hb
          · have dis' : ∀ b o, N b = some o → Fr.hp b = none := fun b o hb => by
              rcases Nin b o hb with z | z | z
              · subst z; exact h3.1
              · subst z; exact r.dis _ _ k1
              · exact r.dis _ _ z
            refine ⟨by simp [r.len], fun b o hb => ?_, r.fr.mut (r.dis _ _ k1), dis', fun b hb => ?_, fun j s ej => ?_, fun j k s t b e1 e2 o1 o2 a1 a2 => ?_⟩
            · by_cases zb : b = a
              · subst zb
                rw [Na] at hb
                rw [upd_same]; exact hb
              · rw [upd_ne zb]
                rcases Nin b o hb with z | z | z
                · subst z
                  rw [Nl] at hb
                  rw [g1]; exact hb
                · exact absurd z zb
                · exact r.hs _ _ z
            · obtain ⟨o, ho⟩ := r.od b hb
              refine ⟨o, ?_⟩
              rw [upd_ne fun z => by subst z; exact g3 b List.mem_cons_self hb]
              exact ho
            · by_cases hj : i = j
              · subst hj
                have hl : i < (ρ.map scalS).length := by
                  by_cases hl : i < (ρ.map scalS).length
                  · exact hl
                  · rw [List.getElem?_eq_none (by simpa using hl)] at ej; cases ej
                rw [List.getElem?_set_self hl] at ej
                cases ej
                refine ⟨.ref l, h1, .lst (.inl (.inl Nl)) (.cons (.lst (.inl (.inl Na)) (.cons (.int 0) (rpl_scal hsr k5))) ?_)⟩
                have key : ∀ (bs : List Addr) (dss : List (List D)), (∀ b ∈ bs, N b = Hs b) → dss.all (fun ds => ds.all scal) = true → LdL K Hs bs dss → RpL K N (bs.map V.ref) (dss.map D.lst) := by
                  intro bs dss hb hd q
                  induction q with
                  | nil => exact .nil
                  | cons q1 q2 _ ih =>
                    rw [List.all_cons, Bool.and_eq_true] at hd
                    exact .cons (.lst (.inl (.inl ((hb _ List.mem_cons_self).trans q1))) (rpl_scal hd.1 q2)) (ih (fun b hm => hb b (List.mem_cons_of_mem _ hm)) hd.2)
                exact key as rest Nas hrest k3
              · rw [get_set_ne hj, List.getElem?_map] at ej
                obtain ⟨s0, e0, rfl⟩ := Option.map_eq_some_iff.mp ej
                have q := r.sl j s0 e0
                cases s0 with
                | un => trivial
                | sh d =>
                  by_cases hd : scal d = true
                  · have e : scalS (.sh d) = .sh d := if_pos hd
                    rw [e]
                    obtain ⟨v, q1, q2⟩ := q
                    exact ⟨v, q1, rp_scal hd q2⟩
                  · have e : scalS (.sh d) = .un := if_neg hd
                    rw [e]
                    trivial
                | ow t w =>
                  cases w with
                  | l ds =>
                    by_cases hd : ds.all scal = true
                    · have e : scalS (.ow t (.l ds)) = .ow t (.l ds) := if_pos hd
                      rw [e]
                      obtain ⟨c, q1, q2, q3, ⟨ys, q4, q6⟩, q5⟩ := q
                      have cl : c ≠ l := fun z => by subst z; exact hj (r.ap i j _ _ c hi e0 rfl rfl h1 q1)
                      have ca : c ≠ a := fun z => by subst z; rw [q2] at k1; cases k1
                      refine ⟨c, q1, ?_, q3, ⟨ys, by rw [upd_ne ca]; exact q4, rpl_scal hd q6⟩, q5⟩
                      cases hN : N c with
                      | none => rfl
                      | some o =>
                        rcases Nin c o hN with z | z | z
                        · exact absurd z cl
                        · exact absurd z ca
                        · rw [q2] at z; cases z
                    · have e : scalS (.ow t (.l ds)) = .un := if_neg hd
                      rw [e]
                      trivial
                  | _ => trivial
            · have key : ∀ j s, ((ρ.map scalS).set i (.sh (.lst (.lst (.int 0 :: r0) :: rest.map .lst))))[j]? = some s → isOw s = true → ∃ t, ρ[j]? = some t ∧ isOw t = true := fun j s ej o => by
                by_cases hj : i = j
                · subst hj
                  by_cases hl : i < (ρ.map scalS).length
                  · rw [List.getElem?_set_self hl] at ej
                    cases ej
                    cases o
                  · rw [List.getElem?_eq_none (by simpa using hl)] at ej
                    cases ej
                · rw [get_set_ne hj, List.getElem?_map] at ej
                  obtain ⟨s0, e0, rfl⟩ := Option.map_eq_some_iff.mp ej
                  obtain ⟨t, ds, rfl, _⟩ := scalS_ow o
                  exact ⟨_, e0, rfl⟩
              obtain ⟨s', f1, f2⟩ := key j s e1 o1
              obtain ⟨t', f3, f4⟩ := key k t e2 o2
              exact r.ap j k s' t' b f1 f3 f2 f4 a1 a2
    · cases h
  · cases h
theorem ixN_zero (n : Nat) : ixN (n + 1) 0 = some 0 := by
  unfold ixN
  rw [if_pos (Int.le_refl 0), if_pos (by omega)]
  rfl
theorem atI_zero {α : Type} (x : α) (xs : List α) : atI (x :: xs) 0 = some x := by
  unfold atI
  rw [List.length_cons, ixN_zero]
  rfl
theorem dn_zero (i : Nat) {x : Str} {p q pos' c1 c2 c3 : Pos} {j1 j2 j3 : Nat} {rest : List Stmt} {g : FS} (hv : PE X (.Name x p) (tVar i)) (h2 : DN X W rest g)
    (ha : ∀ v, assign (.Subscript (.Subscript (.Name x p) (.Constant (.int 0) j1 c1) q) (.Constant (.int 0) j2 c2) pos') X.env v = (do
      let ov ← holding [v] (eval (.Subscript (.Name x p) (.Constant (.int 0) j1 c1) q) X.env)
      let iv ← holding [v, ov] (eval (.Constant (.int 0) j2 c2) X.env)
      standAt pos'
      holding [v, ov, iv] (setItem ov iv v)
      release [v, ov, iv] []) := by intro _; rfl)
    (hs : swapsWithSole [.Subscript (.Subscript (.Name x p) (.Constant (.int 0) j1 c1) q) (.Constant (.int 0) j2 c2) pos'] (.Constant (.int 0) j3 c3) pos.line X.env = pure false := by rfl)
    (hw : swappedStores [.Subscript (.Subscript (.Name x p) (.Constant (.int 0) j1 c1) q) (.Constant (.int 0) j2 c2) pos'] (.Constant (.int 0) j3 c3) X.env = pure none := by rfl)
    (h1 : (assignEach [.Subscript (.Subscript (.Name x p) (.Constant (.int 0) j1 c1) q) (.Constant (.int 0) j2 c2) pos'] X.env).map (·.2) = [assign (.Subscript (.Subscript (.Name x p) (.Constant (.int 0) j1 c1) q) (.Constant (.int 0) j2 c2) pos') X.env] := by rfl)
    (hpl : PlainIx (.Constant (.int 0) j1 c1) := by exact fun _ _ => rfl) :
    DN X W (.Assign [.Subscript (.Subscript (.Name x p) (.Constant (.int 0) j1 c1) q) (.Constant (.int 0) j2 c2) pos'] (.Constant (.int 0) j3 c3) pos :: rest) (fun ρ => match zeroP i ρ with
      | some ρ1 => g ρ1
      | none => .no) := by
  obtain ⟨t, pt, qt⟩ := h2
  refine ⟨_, pss_cons (ps_asg pe_int (pg_sub (pe_ix ix_seq hv pe_int hpl) pe_int set_list ha) hs hw h1) pt, fun ρ Hs Fr σ H Dn rl k => ?_⟩
  cases hz : zeroP i ρ with
  | none => simp only [hz] at k; exact k.elim
  | some ρ1 =>
    simp only [hz] at k
    obtain ⟨l, a, as, x0, xs, e1, e2, e3, Hs', ex, r'⟩ := rl.zero hz
    refine ⟨.ref l, e1, .inl ⟨l, _, 0, .ref a, rfl, rfl, .inl (.inl e2), atI_zero _ _, ?_⟩⟩
    exact ⟨a, _, 0, 0, rfl, rfl, e3, ixN_zero _, qt ρ1 Hs' Fr σ _ Dn r' (PstN.mono k ex)⟩
end
/-! ### a def whose body ends so -/
def fitN (r : RS) : Rd := match r with
  | .rt d _ => .ok d
  | _ => .no
section
variable {P : Program} {w : World} {K : PySem.W.Frag} {mg : Str → Option Value} {base : Heap} {x qual : Str} {params : Arguments} {body : List Stmt} {scope : Scope} {dvs : List V} {kws : List (Str × V)} {f : Addr} {fd : FuncData}
theorem okN {N ps : List Str} {k : Nat} {sem : FS} {g : List D → Rd} (F : FunD K x qual params body scope dvs kws f fd) (S : FnScope N ps scope)
    (hbody : ∀ (cdv : Value) (A : Around) (outer : List Env) (s : Shared) (H : Hp) (E : XK), Room k (A.deeper (envOfC qual scope s.heap.objs.size f cdv)) → Gd (Bx P w K mg base N qual scope f cdv A outer s H E) (fun cls d _ H => E cls d H) →
      DN (Bx P w K mg base N qual scope f cdv A outer s H E) (fun cls d _ H => E cls d H) body sem)
    (hg : ∀ ds, ds.length = ps.length → g ds ≠ .no → fitN (sem (startP N (ds.map .sh))) = g ds) : FnOk P w K mg base (L2.CX P w) (k + 1) f fd ps (SpD K ps.length g) := by
  refine F.ok S (fun vs H Q E h => ?_) fun cdv A outer s H vs Q E hr h => ?_
  · obtain ⟨ds, Hs, Fr, r, hl, _⟩ := h
    rw [r.len, hl]
  · obtain ⟨ds, Hs, Fr, r, hl, bf, q⟩ := h
    obtain ⟨t, pt, qt⟩ := hbody cdv A outer s H E hr (gd_body S hr)
    refine ⟨t, pt, ?_⟩
    have hpl : ps.length ≤ N.length := by have := congrArg List.length S.pre; rw [List.length_take] at this; omega
    have bf2 : Bef Hs ⟨Fr.hp, fun a => ∃ o, H a = some o⟩ H := ⟨bf.i, bf.f, bf.d, fun _ h => h⟩
    refine qt _ Hs ⟨Fr.hp, fun a => ∃ o, H a = some o⟩ _ H _ (rel_start (by rw [r.len, hl]; exact hpl) bf2 r) ?_
    have hne : g ds ≠ .no := fun z => by rw [z] at q; exact q
    have e := hg ds hl hne
    cases hs : sem (startP N (ds.map .sh)) with
    | rt d ρ' =>
      rw [hs] at e
      have e : Rd.ok d = g ds := e
      rw [← e] at q
      exact fun v σ' Hs' H' ex rl rp => q v Hs' H' ⟨fun a o ha => ex a o ha ⟨o, bf.i a o ha⟩, rl.hs, rl.fr, rl.dis⟩ rp
    | nx ρ' => rw [hs] at e; exact absurd e.symm hne
    | er er ρ' => rw [hs] at e; exact absurd e.symm hne
    | no => rw [hs] at e; exact absurd e.symm hne
end
end Fw
end

section
set_option Elab.async false
set_option linter.all false
set_option autoImplicit false
set_option maxRecDepth 100000
set_option maxHeartbeats 4000000
/-! Fw15: a comprehension that makes new lists. -/
namespace Fw
open PySem PySem.Spec PyProof.Rows L2
/-- a new list, stable -/
def repY (K : PySem.W.Frag) (od : Addr → Prop) (Hs : Hp) (v : V) (d : D) : Prop := ∃ a xs ds, v = .ref a ∧ d = .lst ds ∧ ¬ od a ∧ Hs a = some (.lst xs) ∧ RpL K Hs xs ds
theorem repY.rp {K : PySem.W.Frag} {od : Addr → Prop} {Hs : Hp} {v : V} {d : D} (r : repY K od Hs v d) : Rp K Hs v d := by
  obtain ⟨a, xs, ds, rfl, rfl, _, h1, h2⟩ := r
  exact .lst (.inl (.inl h1)) h2
theorem repY.mono {K : PySem.W.Frag} {od : Addr → Prop} {Hs Hs' : Hp} {v : V} {d : D} (e : Ex Hs Hs') (r : repY K od Hs v d) : repY K od Hs' v d := by
  obtain ⟨a, xs, ds, h1, h2, h3, h4, h5⟩ := r
  exact ⟨a, xs, ds, h1, h2, h3, e _ _ h4, h5.mono e⟩
def DEy (X : Cx) (W : WX) (e : Expr) (f : FE D) : Prop := ∃ t, PE X e t ∧ ∀ (ρ : PEnv) (Hs : Hp) (Fr : FrT) (σ : L2.St) (H : Hp) (Q : VK), Rel X.K ρ Hs Fr σ H → Pst X.K W Fr σ Hs (repY X.K Fr.od) Q (f ρ) → t σ H Q
def tEy (K : PySem.W.Frag) (W : WX) (f : FE D) : TE := fun σ H Q => ∃ ρ Hs Fr, Rel K ρ Hs Fr σ H ∧ Pst K W Fr σ Hs (repY K Fr.od) Q (f ρ)
section
variable {X : Cx} {W : WX} {pos : Pos}
theorem DEy.can {e : Expr} {f : FE D} (h : DEy X W e f) : PE X e (tEy X.K W f) := by
  obtain ⟨t, p, q⟩ := h
  exact ⟨fun pins s σ H Q I ⟨ρ, Hs, Fr, r, k⟩ => p.run pins s σ H Q I (q ρ Hs Fr σ H Q r k)⟩
theorem dey_list {p : Pos} {e : Expr} {fl : FE (List D)} (hm : X.mg "list" = none) (ha : DA X W [e] fl) (hg : Gl X "list" := by rfl) (he : starEach [e] X.env = (false, eval e X.env) :: starEach [] X.env := by rfl) (hpl : (backTo pos (starEach [] X.env)).any (·.1) = false := by rfl) :
    DEy X W (.Call (.Name "list" p) [e] [] pos) (eL dList fl) := by
  obtain ⟨ta, pa, qa⟩ := ha
  refine ⟨_, pe_callTy call_list_of hg hm PyProof.Rows.boot_list pa (by decide) (by decide) he hpl, fun ρ Hs Fr σ H Q rl q => ?_⟩
  refine qa ρ Hs Fr σ H _ rl (Pst.bnd q fun as ρ1 vs Hs1 H1 e1 r1 p1 q1 => ?_)
  cases hd : dList as with
  | none => rw [hd] at q1; exact q1.elim
  | some c =>
    rw [hd] at q1
    have fin : ∀ (xs : List V) (ds : List D) (l : Addr), H1 l = none → RpL X.K Hs1 xs ds → c = .lst ds → Q (.ref l) (upd H1 l (.lst xs)) := fun xs ds l hl rx hc => by
      subst hc
      have gw : Gw Hs1 H1 (upd Hs1 l (.lst xs)) (upd H1 l (.lst xs)) := .new r1.hs hl
      refine q1 _ _ _ gw.s (r1.grow gw) ⟨l, xs, ds, rfl, rfl, fun z => ?_, upd_same, rx.mono gw.s⟩
      obtain ⟨o, ho⟩ := r1.od l z
      rw [hl] at ho
      cases ho
    unfold dList at hd
    split at hd
    · cases hd
      obtain ⟨x, rfl, rx⟩ := rpl1 p1
      cases rx with
      | lst h1 h2 => exact ⟨_, _, rfl, .inl (r1.hs.l h1), fun l hl => fin _ _ l hl h2 rfl⟩
    · cases hd
      obtain ⟨x, rfl, rx⟩ := rpl1 p1
      cases rx with
      | tup h1 h2 => exact ⟨_, _, rfl, .inr (SqT.of (r1.hs _ _ h1)), fun l hl => fin _ _ l hl h2 rfl⟩
    · cases hd
/-- [elt for tg in iter], elt a new list -/
def DLy (X : Cx) (W : WX) (e : Expr) (f : FE (List D)) : Prop := ∃ t, PE X e t ∧ ∀ (ρ : PEnv) (Hs : Hp) (Fr : FrT) (σ : L2.St) (H : Hp) (Q : VK), Rel X.K ρ Hs Fr σ H →
  (match f ρ with
    | .ok us ρ' => ∀ (Dl : Addr) Hs' H' xs, Ex Hs Hs' → Rel X.K ρ' Hs' Fr σ H' → H' Dl = some (.lst xs) → RpLr (repY X.K Fr.od) Hs' xs us → Hs' Dl = none → Fr.no Dl → (∀ (j : Nat) (s : SV), ρ'[j]? = some s → isOw s = true → σ[j]? ≠ some (some (.ref Dl))) → Q (.ref Dl) H'
    | .er e ρ' => ∀ c dd Hs' H', Ex Hs Hs' → Rel X.K ρ' Hs' Fr σ H' → ErOk X.K Hs' e c dd → W c dd σ H'
    | .no => False) → t σ H Q
theorem lc_new {scope : Scope} {own : List (Str × Nat)} {is : List Nat} {fi : FE (List D)} {gf : D → PEnv → Option PEnv} {fe : FE D} {tg iter elt : Expr} (g : Gd X W) (hi : DI X W tg iter fi) (ok : BlkOk X.N X.env.scope scope own) (hsub : ∀ i ∈ is, i ∈ own.map (·.2))
    (hg : ∀ s H C cl fp, Gd (Bk X scope s H C cl fp) W0 → DG (Bk X scope s H C cl fp) tg is gf)
    (he : ∀ s H C cl fp, Gd (Bk X scope s H C cl fp) W0 → DEy (Bk X scope s H C cl fp) W0 elt fe) (hs : ∀ x, foldedSetIterable iter X.env x = pure x) :
    DLy X W (.ListComp elt [⟨tg, iter, [], 0⟩] scope pos) (eLc fi gf tYs fe (own.map (·.2))) := by
  obtain ⟨ti, pi, qi⟩ := hi
  refine ⟨_, pe_lc (te := tEy X.K W0 fe) (g := tGt X.K is gf) g.calm g.nd pi ok (fun s H C cl fp => (hg s H C cl fp (g.blk ..)).can) (fun _ _ _ _ _ => pts_nil) (fun s H C cl fp => (he s H C cl fp (g.blk ..)).can) hs, fun ρ Hs Fr σ H Q rl k => ?_⟩
  refine lc_runR (rep := repY X.K Fr.od) (ft := tYs) repY.mono hsub qi (fun ρ ρ' d Hs Fr σ H v Q r rp hg k => ⟨ρ, ρ', d, Hs, Fr, r, rp, hg, k⟩)
    (fun ρ Hs Fr σ H Q r q => q true Hs H (Ex.refl _) r rfl) ρ Hs Fr σ H Q (fun ρ Hs Fr' σ H Q e r q => ⟨ρ, Hs, Fr', r, by rw [e]; exact q⟩) rl ?_
  cases hl : eLc fi gf tYs fe (own.map (·.2)) ρ with
  | no => rw [hl] at k; exact k
  | er e ρ1 => rw [hl] at k; exact k
  | ok us ρ1 =>
    rw [hl] at k
    intro Dl Hs' H' e r h
    obtain ⟨xs, h1, h2⟩ := h
    exact k Dl Hs' H' xs e r h1 h2
/-! ### tuples of scalars -/
mutual
def tupO : D → Bool
  | .non => true
  | .bl _ => true
  | .int _ => true
  | .str _ => true
  | .tup l => tupOs l
  | _ => false
def tupOs : List D → Bool
  | [] => true
  | d :: ds => tupO d && tupOs ds
end
def tupsOf (H : Hp) : Hp := fun a => match H a with
  | some (.tup xs) => some (.tup xs)
  | _ => none
mutual
theorem rp_tupO {K : PySem.W.Frag} {H : Hp} : ∀ {v : V} {d : D}, tupO d = true → Rp K H v d → Rp K (tupsOf H) v d
  | _, .non, _, .non => .non
  | _, .bl b, _, .bl _ => .bl b
  | _, .int i, _, .int _ => .int i
  | _, .str x, _, .str _ => .str x
  | _, .tup l, h, .tup h1 h2 => .tup (by unfold tupsOf; rw [h1]) (rpl_tupO h h2)
  | _, .lst _, h, .lst _ _ => nomatch h
  | _, .dic _, h, .dic _ _ => nomatch h
  | _, .obj _ _, h, .obj _ _ => nomatch h
theorem rpl_tupO {K : PySem.W.Frag} {H : Hp} : ∀ {v : List V} {d : List D}, tupOs d = true → RpL K H v d → RpL K (tupsOf H) v d
  | _, [], _, .nil => .nil
  | _, d :: ds, h, .cons h1 h2 => by
    have h' : tupO d = true ∧ tupOs ds = true := by simpa [tupOs] using h
    exact .cons (rp_tupO h'.1 h1) (rpl_tupO h'.2 h2)
end
end
end Fw
end

section
set_option Elab.async false
set_option linter.all false
set_option autoImplicit false
set_option maxRecDepth 100000
set_option maxHeartbeats 4000000
/-! Fw16: k20's law from handed on. -/
namespace Fw
open PySem PySem.Spec PyProof.Rows L2
def PstB (rt : VK) : RS → Prop
  | .rt d _ => scal d = true ∧ ∀ K H' v, Rp K H' v d → rt v H'
  | _ => False
/-- its last part; nothing is asked of the heap behind it -/
def DB (X : Cx) (W : WX) (st : List Stmt) (f : FS) : Prop := ∃ t, PSs X st t ∧ ∀ (ρ : PEnv) (Hs : Hp) (Fr : FrT) (σ : L2.St) (H : Hp) (Dn : Ends), Rel X.K ρ Hs Fr σ H → PstB Dn.rt (f ρ) → t Dn σ H
theorem PstB.st {K : PySem.W.Frag} {W : WX} {Fr : FrT} {σ : L2.St} {Hs : Hp} {Dn : Ends} {r : RS} (h : PstB Dn.rt r) : PstS K W Fr σ Hs Dn r := by
  cases r with
  | rt d ρ => exact fun v σ' Hs' H' _ _ rp => h.2 K H' v (rp_scal h.1 rp)
  | nx _ => exact h.elim
  | er _ _ => exact h.elim
  | no => exact h.elim
section
variable {X : Cx} {W : WX} {pos : Pos}
theorem db_of {st : List Stmt} {f : FS} (h : DSs X W st f) : DB X W st f := by
  obtain ⟨t, p, q⟩ := h
  exact ⟨t, p, fun ρ Hs Fr σ H Dn rl k => q ρ Hs Fr σ H Dn rl k.st⟩
theorem db_cons {st : Stmt} {rest : List Stmt} {f g : FS} (h1 : DS X W st f) (h2 : DB X W rest g) : DB X W (st :: rest) (sSeq f g) := by
  obtain ⟨ta, pa, qa⟩ := h1
  obtain ⟨tb, pb, qb⟩ := h2
  refine ⟨_, pss_cons pa pb, fun ρ Hs Fr σ H Dn rl q => ?_⟩
  refine qa ρ Hs Fr σ H _ rl ?_
  unfold sSeq at q
  cases hf : f ρ with
  | nx ρ1 =>
    rw [hf] at q
    exact fun σ1 Hs1 H1 e1 r1 => qb ρ1 Hs1 Fr σ1 H1 Dn r1 q
  | rt d ρ1 =>
    rw [hf] at q
    exact fun v σ' Hs' H' ex r rp => q.2 X.K H' v (rp_scal q.1 rp)
  | er e ρ1 => rw [hf] at q; exact q.elim
  | no => rw [hf] at q; exact q.elim
/-- a list of scalars -/
def lstS : D → Bool
  | .lst l => l.all scal && decide (l.length < 1000)
  | _ => false
def keepE (iR iS iA : Nat) (d : D) (ρ : PEnv) : PEnv := (ρ.mapIdx fun j s => if j = iR ∨ j = iS then (match s with | .sh d => .sh d | _ => .un) else .un).set iA (.sh d)
def tailF (iR iS iH iA iV : Nat) (fC : FE (List D)) (fS f9 : FE D) (t10 : FE Bool) (g10 : FS) (t11 : FE Bool) (g11 g14 : FS) : FS := fun ρ =>
  if ρ.all (fun s => !isOw s) = true ∧ iR ≠ iH ∧ iR ≠ iA ∧ iS ≠ iH ∧ iS ≠ iA ∧ iH ≠ iA ∧ iH < ρ.length ∧ iV < ρ.length ∧ iA < ρ.length then match fC ρ with
    | .ok us ρ1 => match fS ρ1 with
      | .ok (.lst ss) ρ2 => if us.all lstS = true ∧ us.length < 1000 ∧ lstS (.lst ss) = true then match f9 (ρ2.set iH (.sh (.lst [.lst us, .lst ss]))) with
        | .ok d9 ρ3 => if tupO d9 = true then match t10 (ρ3.set iA (.sh d9)) with
          | .ok true ρ4 => g10 ρ4
          | .ok false ρ4 => match t11 ρ4 with
            | .ok true ρ5 => g11 ρ5
            | .ok false ρ5 => g14 (keepE iR iS iA d9 ρ)
            | _ => .no
          | _ => .no
          else .no
        | _ => .no
        else .no
      | _ => .no
    | _ => .no
  else .no
theorem rplr_rpl {K : PySem.W.Frag} {od : Addr → Prop} {H : Hp} {xs : List V} {us : List D} (r : RpLr (repY K od) H xs us) : RpL K H xs us := by
  induction r with
  | nil => exact .nil
  | cons g _ ih => exact .cons g.rp ih
theorem rplr_at {K : PySem.W.Frag} {od : Addr → Prop} {H : Hp} {xs : List V} {us : List D} (r : RpLr (repY K od) H xs us) : ∃ as : List Addr, xs = as.map V.ref ∧ ∀ a ∈ as, ¬ od a ∧ ∃ ys, H a = some (.lst ys) := by
  induction r with
  | nil => exact ⟨[], rfl, fun a h => by cases h⟩
  | cons g _ ih =>
    obtain ⟨as, h1, h2⟩ := ih
    obtain ⟨a, ys, _, rfl, _, h3, h4, _⟩ := g
    refine ⟨a :: as, by rw [h1]; rfl, fun b hb => ?_⟩
    rcases List.mem_cons.mp hb with z | z
    · subst z; exact ⟨h3, ys, h4⟩
    · exact h2 b z
theorem rplr_small {K : PySem.W.Frag} {od : Addr → Prop} {H : Hp} {as : List Addr} {us : List D} (r : RpLr (repY K od) H (as.map V.ref) us) (h : us.all lstS = true) : ∀ a ∈ as, ∃ ys, H a = some (.lst ys) ∧ ys.length < 1000 := by
  induction as generalizing us with
  | nil => intro a h; cases h
  | cons b as ih =>
    cases r with
    | cons g gs =>
      rw [List.all_cons, Bool.and_eq_true] at h
      intro a ha
      rcases List.mem_cons.mp ha with z | z
      · subst z
        obtain ⟨c, ys, dd, e, hd, _, h4, h5⟩ := g
        cases e
        refine ⟨ys, h4, ?_⟩
        have := h.1
        rw [hd] at this
        unfold lstS at this
        rw [Bool.and_eq_true] at this
        rw [h5.len]
        exact of_decide_eq_true this.2
      · exact ih gs h.2 a z
theorem db_tail (iR iS iH iA iV : Nat) {eC eS e9 c10 c11 : Expr} {b10 b11 rest : List Stmt} {xh xa xv : Str} {fC : FE (List D)} {fS f9 : FE D} {t10 t11 : FE Bool} {g10 g11 g14 : FS}
    {p1 p2 p3 p4 p5 p6 p7 p8 p9 q1 q2 q3 q4 q5 q6 q7 q8 q9 r1 r2 r3 r4 r5 r6 : Pos} {k1 k2 k3 k4 : Nat}
    (gd : Gd X W) (hC : DLy X W eC fC) (hS : DEy X W eS fS) (h9 : DE X W e9 f9) (hc10 : DT X W c10 t10) (hb10 : DSs X W b10 g10) (hc11 : DT X W c11 t11) (hb11 : DSs X W b11 g11) (hr : DSs X W rest g14)
    (Hn : X.N[iH]? = some xh) (Hl : Loc X.env.scope xh) (Hf : X.fn xh = true ∨ X.env.scope.names.lookup xh = some .local) (An : X.N[iA]? = some xa) (Al : Loc X.env.scope xa) (Af : X.fn xa = true ∨ X.env.scope.names.lookup xa = some .local)
    (Vn : X.N[iV]? = some xv) (Vl : Loc X.env.scope xv) (Vf : X.fn xv = true ∨ X.env.scope.names.lookup xv = some .local) (hiv : iV ≠ iR ∧ iV ≠ iS ∧ iV ≠ iA ∧ iV ≠ iH)
    (hvH : ∀ p, PE X (.Name xh p) (tVar iH)) (hvV : ∀ p, PE X (.Name xv p) (tVar iV))
    (hs1 : starEach [eC, eS] X.env = (false, eval eC X.env) :: starEach [eS] X.env) (hs2 : starEach [eS] X.env = (false, eval eS X.env) :: starEach [] X.env)
    (w8 : swapsWith (.List [eC, eS] p1) (some (.Name xh p2)) p3.line X.env = pure false) (w9 : swapsWith e9 (some (.Name xa p4)) p5.line X.env = pure false)
    (fs : ∀ x, foldedSetIterable (.Subscript (.Name xh q1) (.Constant (.int 0) k1 q2) q3) X.env x = pure x)
    (hbV : attributeBase (.Name xv r1) "append" X.env (eval (.Name xv r1) X.env) = eval (.Name xv r1) X.env)
    (hfV : ((backTo r3 (starEach [.Constant (.int 0) k2 r2] X.env)).all (fun x => !x.1) && (backToKw r3 (keywordEach [] X.env)).all (fun x => x.1.isSome) && decide ([(.Constant (.int 0) k2 r2 : Expr)].length + ([] : List Keyword).length + (if ([] : List Keyword).isEmpty then 0 else 1) < 30)) = true)
    (hlV : (r4.endLine == r3.line) = true) (hsV : starEach [.Constant (.int 0) k2 r2] X.env = (false, eval (.Constant (.int 0) k2 r2) X.env) :: starEach [] X.env) (hpV : (backTo r3 (starEach [] X.env)).any (·.1) = false)
    (hwV : swapsWith (.Call (.Attribute (.Name xv r1) "append" r4) [.Constant (.int 0) k2 r2] [] r3) none r5.line X.env = pure false)
    (hbH : attributeBase (.Subscript (.Name xh q4) (.Constant (.int 1) k3 q5) q6) "append" X.env (eval (.Subscript (.Name xh q4) (.Constant (.int 1) k3 q5) q6) X.env) = eval (.Subscript (.Name xh q4) (.Constant (.int 1) k3 q5) q6) X.env)
    (hfH : ((backTo q8 (starEach [.Constant (.int 0) k4 q7] X.env)).all (fun x => !x.1) && (backToKw q8 (keywordEach [] X.env)).all (fun x => x.1.isSome) && decide ([(.Constant (.int 0) k4 q7 : Expr)].length + ([] : List Keyword).length + (if ([] : List Keyword).isEmpty then 0 else 1) < 30)) = true)
    (hlH : (q9.endLine == q8.line) = true) (hsH : starEach [.Constant (.int 0) k4 q7] X.env = (false, eval (.Constant (.int 0) k4 q7) X.env) :: starEach [] X.env) (hpH : (backTo q8 (starEach [] X.env)).any (·.1) = false)
    (hwH : swapsWith (.Call (.Attribute (.Subscript (.Name xh q4) (.Constant (.int 1) k3 q5) q6) "append" q9) [.Constant (.int 0) k4 q7] [] q8) none r6.line X.env = pure false) :
    DB X W (.Assign [.Name xh p2] (.List [eC, eS] p1) p3 :: .Assign [.Name xa p4] e9 p5 :: .If c10 b10 [] p6 :: .If c11 b11 [] p7 ::
      .For (.Name xv p8) (.Subscript (.Name xh q1) (.Constant (.int 0) k1 q2) q3) [.Expr (.Call (.Attribute (.Name xv r1) "append" r4) [.Constant (.int 0) k2 r2] [] r3) r5] [] p9 ::
      .Expr (.Call (.Attribute (.Subscript (.Name xh q4) (.Constant (.int 1) k3 q5) q6) "append" q9) [.Constant (.int 0) k4 q7] [] q8) r6 :: rest) (tailF iR iS iH iA iV fC fS f9 t10 g10 t11 g11 g14) := by
  obtain ⟨tC', pC, qC⟩ := hC
  obtain ⟨tS', pS, qS⟩ := hS
  obtain ⟨t9, p9', q9'⟩ := h9
  obtain ⟨u10, pc10, qc10⟩ := hc10
  obtain ⟨v10, pb10, qb10⟩ := hb10
  obtain ⟨u11, pc11, qc11⟩ := hc11
  obtain ⟨v11, pb11, qb11⟩ := hb11
  obtain ⟨tr, pr, qr⟩ := hr
  have pl : ∀ (i : Int) (j : Nat) (p : Pos), PlainIx (.Constant (.int i) j p) := fun _ _ _ _ _ => rfl
  refine ⟨_, pss_cons (ps_set gd.nd Hn Hl (pe_lst (pa_cons pC (pa_cons pS pa_nil hs2) hs1)) w8 Hf) (pss_cons (ps_set gd.nd An Al p9' w9 Af) (pss_cons (ps_if pc10 pb10 pss_nil) (pss_cons (ps_if pc11 pb11 pss_nil)
    (pss_cons (ps_for gd.hp gd.calm (pi_list (pe_ix ix_seq (hvH _) pe_int (pl _ _ _))) (pg_name gd.nd Vn Vl Vf) (pss_one (ps_expr (pe_bm PySem.F.plainAttrs_list PySem.F.slot_list_append PySem.F.type_list_append mt_append (hvV _) (pa_cons pe_int pa_nil hsV) hbV hfV hlV hsV hpV) hwV)) fs)
      (pss_cons (ps_expr (pe_bm PySem.F.plainAttrs_list PySem.F.slot_list_append PySem.F.type_list_append mt_append (pe_ix ix_seq (hvH _) pe_int (pl _ _ _)) (pa_cons pe_int pa_nil hsH) hbH hfH hlH hsH hpH) hwH) pr))))), fun ρ Hs Fr σ H Dn rl k => ?_⟩
  unfold tailF at k
  by_cases hc0 : ρ.all (fun s => !isOw s) = true ∧ iR ≠ iH ∧ iR ≠ iA ∧ iS ≠ iH ∧ iS ≠ iA ∧ iH ≠ iA ∧ iH < ρ.length ∧ iV < ρ.length ∧ iA < ρ.length
  case neg => rw [if_neg hc0] at k; exact k.elim
  rw [if_pos hc0] at k
  obtain ⟨hno, n1, n2, n3, n4, n5, l1, l2, l3⟩ := hc0
  cases eC1 : fC ρ with
  | no => simp only [eC1] at k; exact k.elim
  | er e ρ1 => simp only [eC1] at k; exact k.elim
  | ok us ρ1 =>
  simp only [eC1] at k
  cases eS1 : fS ρ1 with
  | no => simp only [eS1] at k; exact k.elim
  | er e ρ2 => simp only [eS1] at k; exact k.elim
  | ok dS ρ2 =>
  simp only [eS1] at k
  cases dS with
  | lst ss =>
    simp only at k
    split at k
    case isFalse => exact k.elim
    case isTrue hc1 =>
    obtain ⟨husm, huln, hssm⟩ := hc1
    cases e9' : f9 (ρ2.set iH (.sh (.lst [.lst us, .lst ss]))) with
    | no => simp only [e9'] at k; exact k.elim
    | er e ρ3 => simp only [e9'] at k; exact k.elim
    | ok d9 ρ3 =>
    simp only [e9'] at k
    split at k
    case isFalse => exact k.elim
    case isTrue htup =>
    have rl2 : Rel X.K ρ Hs ⟨Fr.hp, fun a => ∃ o, H a = some o⟩ σ H := by
      have noow : ∀ (j : Nat) (s : SV), ρ[j]? = some s → isOw s = false := fun j s e => by
        have := List.all_eq_true.mp hno s (List.mem_of_getElem? e)
        simpa using this
      refine ⟨rl.len, rl.hs, rl.fr, rl.dis, fun a h => h, fun j s e => ?_, fun j k s t a e1 e2 o1 o2 _ _ => ?_⟩
      · have q := rl.sl j s e
        cases s with
        | un => trivial
        | sh d => exact q
        | ow t w => have := noow j _ e; cases this
      · rw [noow j s e1] at o1; cases o1
    refine qC ρ Hs ⟨Fr.hp, fun a => ∃ o, H a = some o⟩ σ H _ rl2 ?_
    rw [eC1]
    intro Dl Hs1 H1 xs ex1 r1 hD rx nD noD njD
    obtain ⟨as, rfl, has⟩ := rplr_at rx
    have hsm := rplr_small rx husm
    have r1' := r1.give hD nD noD njD
    have ex1' : Ex Hs1 (upd Hs1 Dl (.lst (as.map V.ref))) := Ex.new nD
    refine qS ρ1 _ ⟨Fr.hp, fun a => ∃ o, H a = some o⟩ σ H1 _ r1' ?_
    rw [eS1]
    intro v2 Hs2 H2 ex2 r2 rp2
    obtain ⟨q, ys, ss', rfl, hss, hqod, hq, hqs⟩ := rp2
    cases hss
    have rpS : Rp X.K Hs2 (.ref q) (.lst ss) := .lst (.inl (.inl hq)) hqs
    refine ⟨by show 2 ≤ sizeLine; decide, fun h hh => ?_⟩
    have gw : Gw Hs2 H2 (upd Hs2 h (.lst [.ref Dl, .ref q])) (upd H2 h (.lst [.ref Dl, .ref q])) := .new r2.hs hh
    have hDl2 : Hs2 Dl = some (.lst (as.map V.ref)) := ex2 _ _ upd_same
    have r3 := (r2.grow gw).put (i := iH) (v := .ref h) (d := .lst [.lst us, .lst ss]) (.lst (.inl (.inl upd_same)) (.cons (.lst (.inl (.inl (gw.s _ _ hDl2))) ((rplr_rpl rx).mono ((ex1'.trans ex2).trans gw.s))) (.cons (rpS.mono gw.s) .nil)))
    refine q9' _ _ ⟨Fr.hp, fun a => ∃ o, H a = some o⟩ _ _ _ r3 ?_
    rw [e9']
    intro v9 Hs4 H4 ex4 r4 rp9
    have r5 := r4.put (i := iA) rp9
    refine qc10 _ Hs4 ⟨Fr.hp, fun a => ∃ o, H a = some o⟩ _ H4 _ r5 ?_
    cases e10 : t10 (ρ3.set iA (.sh d9)) with
    | no => simp only [e10] at k; exact k.elim
    | er e ρ4 => simp only [e10] at k; exact k.elim
    | ok bb ρ4 =>
    simp only [e10] at k
    intro b' Hs5 H5 ex5 r6 hb
    have hb : b' = bb := hb
    subst hb
    cases b' with
    | true =>
      rw [if_pos rfl]
      exact qb10 ρ4 Hs5 ⟨Fr.hp, fun a => ∃ o, H a = some o⟩ _ H5 _ r6 (PstB.st (by exact k))
    | false =>
    rw [if_neg Bool.false_ne_true]
    simp only at k
    refine qc11 _ Hs5 ⟨Fr.hp, fun a => ∃ o, H a = some o⟩ _ H5 _ r6 ?_
    cases e11 : t11 ρ4 with
    | no => simp only [e11] at k; exact k.elim
    | er e ρ5 => simp only [e11] at k; exact k.elim
    | ok bb ρ5 =>
    simp only [e11] at k
    intro b' Hs6 H6 ex6 r7 hb
    have hb : b' = bb := hb
    subst hb
    cases b' with
    | true =>
      rw [if_pos rfl]
      exact qb11 ρ5 Hs6 ⟨Fr.hp, fun a => ∃ o, H a = some o⟩ _ H6 _ r7 (PstB.st (by exact k))
    | false =>
    rw [if_neg Bool.false_ne_true]
    simp only at k
    -- the lists handed
    have len0 : ρ.length = σ.length := rl.len
    have ex26 : Ex Hs2 Hs6 := ((gw.s.trans ex4).trans ex5).trans ex6
    have ex16 : Ex Hs1 Hs6 := (ex1'.trans ex2).trans ex26
    have h6 : H6 h = some (.lst [.ref Dl, .ref q]) := r7.hs _ _ (((ex4.trans ex5).trans ex6) _ _ upd_same)
    have Dl6 : H6 Dl = some (.lst (as.map V.ref)) := r7.hs _ _ (ex26 _ _ hDl2)
    have q6 : H6 q = some (.lst ys) := r7.hs _ _ (ex26 _ _ hq)
    have as6 : ∀ a ∈ as, ∃ zs, H6 a = some (.lst zs) ∧ zs.length < 1000 := fun a ha => by
      obtain ⟨zs, z1, z2⟩ := hsm a ha
      exact ⟨zs, r7.hs _ _ (ex16 _ _ z1), z2⟩
    have Dlas : Dl ∉ as := fun z => by
      obtain ⟨_, zs, z1⟩ := has Dl z
      rw [nD] at z1; cases z1
    have has2 : h ∉ as := fun z => by
      obtain ⟨_, zs, z1⟩ := has h z
      have := r2.hs _ _ ((ex1'.trans ex2) _ _ z1)
      rw [hh] at this; cases this
    have hqne : h ≠ q := fun z => by
      subst z
      have := r2.hs _ _ hq
      rw [hh] at this; cases this
    have ysl : ys.length < 1000 := by
      unfold lstS at hssm
      rw [Bool.and_eq_true] at hssm
      rw [hqs.len]
      exact of_decide_eq_true hssm.2
    have alen : as.length < 1000 := by
      have := rx.len
      rw [List.length_map] at this
      omega
    have sg : ∀ j, j ≠ iH → j ≠ iA → ((σ.set iH (some (.ref h))).set iA (some v9))[j]? = σ[j]? := fun j z1 z2 => by
      rw [List.getElem?_set_ne (Ne.symm z2), List.getElem?_set_ne (Ne.symm z1)]
    have sgH : ((σ.set iH (some (.ref h))).set iA (some v9))[iH]? = some (some (.ref h)) := by
      rw [List.getElem?_set_ne (Ne.symm n5), List.getElem?_set_self (by omega)]
    have sgA : ((σ.set iH (some (.ref h))).set iA (some v9))[iA]? = some (some v9) := by
      rw [List.getElem?_set_self (by rw [List.length_set]; omega)]
    refine ⟨.ref h, sgH, .inl ⟨h, _, 0, .ref Dl, rfl, rfl, .inl (.inl h6), atI_zero _ _, ?_⟩⟩
    refine ⟨Dl, rfl, ⟨_, .inl (.inl Dl6)⟩, ?_⟩
    refine ⟨fun i m σ' H' => m = as.length - i ∧ i ≤ as.length ∧ σ'.length = σ.length ∧ (∀ j, j ≠ iV → σ'[j]? = ((σ.set iH (some (.ref h))).set iA (some v9))[j]?) ∧ (∀ b, b ∉ as → H' b = H6 b) ∧ ∀ b ∈ as, ∃ zs, H' b = some (.lst zs) ∧ zs.length < 1000 + i,
      ⟨as.length, by simp, Nat.zero_le _, by simp, fun _ _ => rfl, fun _ _ => rfl, as6⟩, ?_⟩
    rintro i m σ' H' ⟨rfl, hi, hlen, hσ, hH, hA⟩
    have DlH : H' Dl = some (.lst (as.map V.ref)) := (hH Dl Dlas).trans Dl6
    by_cases hlt : i < as.length
    · have egi : (as.map V.ref)[i]? = some (.ref as[i]) := by rw [List.getElem?_map, List.getElem?_eq_getElem hlt]; rfl
      refine .inr ⟨⟨_, _, .inl (.inl DlH), egi⟩, fun σ2 H2 => σ2.length = σ.length ∧ (∀ j, j ≠ iV → σ2[j]? = ((σ.set iH (some (.ref h))).set iA (some v9))[j]?) ∧ (∀ b, b ∉ as → H2 b = H6 b) ∧ ∀ b ∈ as, ∃ zs, H2 b = some (.lst zs) ∧ zs.length < 1000 + (i + 1),
        fun σ2 H2 hN => ⟨as.length - (i + 1), by omega, rfl, hlt, hN⟩, fun x H2 y => ?_⟩
      obtain ⟨rfl, y⟩ := y
      have hx := y _ (.inl (.inl DlH))
      rw [egi] at hx
      cases hx
      obtain ⟨zs, z1, z2⟩ := hA as[i] (List.getElem_mem hlt)
      have gv : (σ'.set iV (some (.ref as[i])))[iV]? = some (some (.ref as[i])) := List.getElem?_set_self (by omega)
      refine ⟨.ref as[i], gv, .inl ⟨rfl, zs, .inl (.inl z1)⟩, as[i], zs, .int 0, rfl, rfl, z1, Nat.lt_of_lt_of_le (show zs.length < 2000 by omega) (by decide), ?_⟩
      refine ⟨by rw [List.length_set]; exact hlen, fun j hj => by rw [List.getElem?_set_ne (Ne.symm hj)]; exact hσ j hj, fun b hb => by rw [upd_ne (fun z => by subst z; exact hb (List.getElem_mem hlt))]; exact hH b hb, fun b hb => ?_⟩
      by_cases hba : b = as[i]
      · subst hba
        exact ⟨_, upd_same, by rw [List.length_append]; simp; omega⟩
      · rw [upd_ne hba]
        obtain ⟨ws, w1, w2⟩ := hA b hb
        exact ⟨ws, w1, by omega⟩
    · refine .inl ⟨⟨_, .inl (.inl DlH), by rw [List.length_map]; omega⟩, ?_⟩
      have gH : σ'[iH]? = some (some (.ref h)) := (hσ iH (Ne.symm hiv.2.2.2)).trans sgH
      have hH' : H' h = some (.lst [.ref Dl, .ref q]) := (hH h has2).trans h6
      have qH' : ∃ zs, H' q = some (.lst zs) ∧ zs.length < 2000 := by
        by_cases hqa : q ∈ as
        · obtain ⟨zs, z1, z2⟩ := hA q hqa
          exact ⟨zs, z1, by omega⟩
        · exact ⟨ys, (hH q hqa).trans q6, by omega⟩
      obtain ⟨zs, z1, z2⟩ := qH'
      refine ⟨.ref h, gH, .inl ⟨h, _, 1, .ref q, rfl, rfl, .inl (.inl hH'), by rfl, ?_⟩⟩
      refine ⟨.inl ⟨rfl, zs, .inl (.inl z1)⟩, q, zs, .int 0, rfl, rfl, z1, Nat.lt_of_lt_of_le z2 (by decide), ?_⟩
      let N : Hp := fun b => match Hs b with
        | some o => some o
        | none => tupsOf Hs6 b
      have exN : Ex Hs N := fun b o e => by show (match Hs b with | some o => some o | none => tupsOf Hs6 b) = some o; rw [e]
      have exH6 : Ex Hs Hs6 := ex1.trans ex16
      have exT : Ex (tupsOf Hs4) N := fun b o e => by
        unfold tupsOf at e
        split at e
        · rename_i xs2 e4
          cases e
          have e6 := (ex5.trans ex6) _ _ e4
          show (match Hs b with | some o => some o | none => tupsOf Hs6 b) = _
          cases hb : Hs b with
          | some o2 =>
            have := exH6 _ _ hb
            rw [e6] at this
            cases this
            rfl
          | none =>
            show tupsOf Hs6 b = _
            unfold tupsOf
            rw [e6]
        · cases e
      have hkl : (keepE iR iS iA d9 ρ).length = ρ.length := by unfold keepE; rw [List.length_set, List.length_mapIdx]
      have hM : ∀ b o, N b = some o → b ≠ q ∧ b ∉ as ∧ H6 b = some o := fun b o e => by
        have e : (match Hs b with | some o => some o | none => tupsOf Hs6 b) = some o := e
        cases hb : Hs b with
        | some o2 =>
          rw [hb] at e
          cases e
          have hod : ∃ o, H b = some o := ⟨_, rl.hs _ _ hb⟩
          exact ⟨fun z => by subst z; exact hqod hod, fun z => (has b z).1 hod, r7.hs _ _ (exH6 _ _ hb)⟩
        | none =>
          rw [hb] at e
          have e : tupsOf Hs6 b = some o := e
          unfold tupsOf at e
          split at e
          · rename_i xs2 e6
            cases e
            refine ⟨fun z => ?_, fun z => ?_, r7.hs _ _ e6⟩
            · subst z
              have := ex26 _ _ hq
              rw [e6] at this; cases this
            · obtain ⟨_, ws, w1⟩ := has b z
              have := ex16 _ _ w1
              rw [e6] at this; cases this
          · cases e
      refine qr _ N ⟨fun _ => none, fun _ => False⟩ σ' _ Dn ?_ (PstB.st (by exact k))
      have slot : ∀ (j : Nat) (s : SV), (keepE iR iS iA d9 ρ)[j]? = some s → (j = iA ∧ s = .sh d9) ∨ (j ≠ iA ∧ (j = iR ∨ j = iS) ∧ ∃ d, s = .sh d ∧ ρ[j]? = some (.sh d)) ∨ s = .un := fun j s e => by
        unfold keepE at e
        by_cases hj : iA = j
        · subst hj
          rw [List.getElem?_set_self (by rw [List.length_mapIdx]; exact l3)] at e
          cases e
          exact .inl ⟨rfl, rfl⟩
        · rw [get_set_ne hj, List.getElem?_mapIdx] at e
          obtain ⟨s0, e0, e1⟩ := Option.map_eq_some_iff.mp e
          by_cases hjr : j = iR ∨ j = iS
          · rw [if_pos hjr] at e1
            cases s0 with
            | sh d => exact .inr (.inl ⟨Ne.symm hj, hjr, d, e1.symm, e0⟩)
            | _ => exact .inr (.inr e1.symm)
          · rw [if_neg hjr] at e1
            exact .inr (.inr e1.symm)
      refine ⟨by rw [hkl, len0, hlen], fun b o e => ?_, fun b o e => (by cases e), fun _ _ _ => rfl, fun _ e => False.elim e, fun j s e => ?_, fun j k s t b e1 e2 o1 o2 _ _ => ?_⟩
      · obtain ⟨m1, m2, m3⟩ := hM b o e
        rw [upd_ne m1, hH b m2]
        exact m3
      · rcases slot j s e with ⟨rfl, rfl⟩ | ⟨hjA, hj, d, rfl, e0⟩ | rfl
        · exact ⟨v9, (hσ _ (Ne.symm hiv.2.2.1)).trans sgA, (rp_tupO htup rp9).mono exT⟩
        · obtain ⟨v, g1, g2⟩ := rl.sl j _ e0
          refine ⟨v, ?_, g2.mono exN⟩
          rcases hj with rfl | rfl
          · rw [hσ _ (Ne.symm hiv.1), sg _ n1 n2]; exact g1
          · rw [hσ _ (Ne.symm hiv.2.1), sg _ n3 n4]; exact g1
        · trivial
      · rcases slot j s e1 with ⟨_, rfl⟩ | ⟨_, _, d, rfl, _⟩ | rfl
        all_goals exact Bool.noConfusion o1
  | _ => simp only at k; exact k.elim
end
end Fw
end

section
set_option Elab.async false
set_option linter.all false
set_option autoImplicit false
set_option maxRecDepth 100000
set_option maxHeartbeats 4000000
namespace K20
open PySem PySem.Spec PyProof.Rows L2 Fw
def top (i : Nat) : Stmt := PySem.Challenge.pw_figurewheel_k20_back_machines_made.main.body.getD i (.Pass ⟨0, 0, 0, 0⟩)
def clsBody : Stmt → List Stmt
  | .ClassDef _ _ _ b _ _ _ _ _ _ _ => b
  | _ => []
abbrev st_NoMachine_init : Stmt := (clsBody (top 3)).getD 0 (.Pass ⟨0, 0, 0, 0⟩)
def dd_NoMachine_init : He.DefD := ⟨("NoMachine", some "__init__"), "__init__", "NoMachine.__init__", defArgs st_NoMachine_init, defBody st_NoMachine_init, defScope st_NoMachine_init, [], []⟩
abbrev st_look_at_rows : Stmt := top 7
def dd_look_at_rows : He.DefD := ⟨("look_at_rows", none), "look_at_rows", "look_at_rows", defArgs st_look_at_rows, defBody st_look_at_rows, defScope st_look_at_rows, [], []⟩
abbrev N_look_at_rows : List Str := ["rows", "room", "row", "following"]
theorem sc_look_at_rows : FnScope N_look_at_rows ["rows"] (defScope st_look_at_rows) := ⟨rfl, rfl, rfl, by decide +kernel, rfl, by decide +kernel, by decide +kernel⟩
def s_look_at_rows : FS := (sFor (tgT 2 (tgCons (tgN 1) (tgCons (tgN 2) tgNil))) (sSeq (sIf (tO (tV (e2 (dCmp iLt) (eL dLen (aC (eV 2) aN)) (eC (.int 2)))) (tO (tV (e2 (dCmp iGt) (eL dLen (aC (eV 2) aN)) (eC (.int 5)))) ((tV (e2 (dNe) (eL dLen (aC (eV 2) aN)) (eL dLen (aC (e2 dIx (eV 0) (eC (.int 0))) aN))))))) (sRaise "NoMachine" ["word", "number"] (aC (eC (.str "letters")) (aC (eV 1) aN))) sNx)
    (sFor (tgN 3) (sIf (tO (tV (e2 (dCmp iLt) (eV 3) (eC (.int 0)))) ((tV (e2 (dCmp iGe) (eV 3) (eL dLen (aC (eV 0) aN)))))) (sRaise "NoMachine" ["word", "number"] (aC (eC (.str "next")) (aC (eV 1) aN))) sNx) (iS (eV 2)))) (iEnumL (aC (eV 0) aN)))
def g_look_at_rows (ds : List D) : Fw.Rd := fit (s_look_at_rows (startP N_look_at_rows (ds.map .sh)))
abbrev st_back_of : Stmt := top 8
def dd_back_of : He.DefD := ⟨("back_of", none), "back_of", "back_of", defArgs st_back_of, defBody st_back_of, defScope st_back_of, [], []⟩
abbrev N_back_of : List Str := ["rows", "signs", "room", "sign", "row"]
theorem sc_back_of : FnScope N_back_of ["rows", "signs"] (defScope st_back_of) := ⟨rfl, rfl, rfl, by decide +kernel, rfl, by decide +kernel, by decide +kernel⟩
def s_back_of : FS := (sSeq (sIf (tO (tV (e2 (dCmp iLt) (eL dLen (aC (eV 0) aN)) (eC (.int 1)))) ((tV (e2 (dCmp iGt) (eL dLen (aC (eV 0) aN)) (eC (.int 100)))))) (sRaise "NoMachine" ["word", "number"] (aC (eC (.str "rooms")) (aC (eL dLen (aC (eV 0) aN)) aN))) sNx)
    (sSeq (sIf (tV (e2 (dNe) (eL dLen (aC (eV 1) aN)) (eL dLen (aC (eV 0) aN)))) (sRaise "NoMachine" ["word", "number"] (aC (eC (.str "signs")) (aC (eL dLen (aC (eV 1) aN)) aN))) sNx)
    (sSeq (sDrop (eCall (lenG 1 g_look_at_rows) [] (aC (eV 0) aN)))
    (sSeq (sFor (tgT 2 (tgCons (tgN 2) (tgCons (tgN 3) tgNil))) (sIf (tO (tV (e2 (dCmp iLt) (eV 3) (eC (.int 0)))) ((tV (e2 (dCmp iGt) (eV 3) (eC (.int 9)))))) (sRaise "NoMachine" ["word", "number"] (aC (eC (.str "sign")) (aC (eV 2) aN))) sNx) (iEnumL (aC (eV 1) aN)))
    (sSeq (sFor (tgT 2 (tgCons (tgN 2) (tgCons (tgN 4) tgNil))) (sIf (tV (e2 (dNe) (e2 dIx (eV 1) (e2 dIx (eV 4) (eC (.int 0)))) (e2 dIx (eV 1) (eV 2)))) (sRaise "NoMachine" ["word", "number"] (aC (eC (.str "steady")) (aC (eV 2) aN))) sNx) (iEnumL (aC (eV 0) aN)))
    (sRet (eTup (aC (eL dTuple (aC (vLc (eLc (iS (eV 0)) (tgN 4) tYs (eL dTuple (aC (eV 4) aN)) [4])) aN)) (aC (eL dTuple (aC (eV 1) aN)) aN)))))))))
def g_back_of (ds : List D) : Fw.Rd := fit (s_back_of (startP N_back_of (ds.map .sh)))
abbrev st_cell_at : Stmt := top 10
def dd_cell_at : He.DefD := ⟨("_law_cell_at", none), "_law_cell_at", "_law_cell_at", defArgs st_cell_at, defBody st_cell_at, defScope st_cell_at, [], []⟩
abbrev N_cell_at : List Str := ["_law_script", "_law_k"]
theorem sc_cell_at : FnScope N_cell_at ["_law_script", "_law_k"] (defScope st_cell_at) := ⟨rfl, rfl, rfl, by decide +kernel, rfl, by decide +kernel, by decide +kernel⟩
def s_cell_at : FS := (sSeq (sIf (tV (e2 (dCmp iLt) (eV 1) (eL dLen (aC (eV 0) aN)))) (sRet (e2 dIx (eV 0) (eV 1))) sNx)
    (sRet (eC (.int 0))))
def g_cell_at (ds : List D) : Fw.Rd := fit (s_cell_at (startP N_cell_at (ds.map .sh)))
abbrev st_whole : Stmt := top 11
def dd_whole : He.DefD := ⟨("_law_whole", none), "_law_whole", "_law_whole", defArgs st_whole, defBody st_whole, defScope st_whole, [], []⟩
abbrev N_whole : List Str := ["_law_found"]
theorem sc_whole : FnScope N_whole ["_law_found"] (defScope st_whole) := ⟨rfl, rfl, rfl, by decide +kernel, rfl, by decide +kernel, by decide +kernel⟩
def s_whole : FS := (sRet (vA (eIsi "int" (eV 0)) ((vN (eIsi "bool" (eV 0))))))
def g_whole (ds : List D) : Fw.Rd := fit (s_whole (startP N_whole (ds.map .sh)))
abbrev st_mixed : Stmt := top 12
def dd_mixed : He.DefD := ⟨("_law_mixed", none), "_law_mixed", "_law_mixed", defArgs st_mixed, defBody st_mixed, defScope st_mixed, [], []⟩
abbrev N_mixed : List Str := ["_law_cell", "_law_k"]
theorem sc_mixed : FnScope N_mixed ["_law_cell", "_law_k"] (defScope st_mixed) := ⟨rfl, rfl, rfl, by decide +kernel, rfl, by decide +kernel, by decide +kernel⟩
def s_mixed : FS := (sRet (e2 dMod (e2 dMul (e2 dAdd (e2 dAdd (e2 dMod (eV 0) (e2 dPow (eC (.int 10)) (eC (.int 15)))) (e2 dMul (e2 dMul (eC (.int 7919)) (eV 1)) (eV 1))) (eV 1)) (eC (.int 48271))) (eC (.int 2147483647))))
def g_mixed (ds : List D) : Fw.Rd := fit (s_mixed (startP N_mixed (ds.map .sh)))
abbrev st_drawn : Stmt := top 13
def dd_drawn : He.DefD := ⟨("_law_drawn", none), "_law_drawn", "_law_drawn", defArgs st_drawn, defBody st_drawn, defScope st_drawn, [], []⟩
abbrev N_drawn : List Str := ["_law_script", "_law_k"]
theorem sc_drawn : FnScope N_drawn ["_law_script", "_law_k"] (defScope st_drawn) := ⟨rfl, rfl, rfl, by decide +kernel, rfl, by decide +kernel, by decide +kernel⟩
def s_drawn : FS := (sRet (e2 dMod (e2 dMul (eCall (lenG 2 g_mixed) [] (aC (eCall (lenG 2 g_cell_at) [] (aC (eV 0) (aC (eV 1) aN))) (aC (e2 dAdd (eV 1) (eC (.int 1))) aN))) (eC (.int 16807))) (eC (.int 2147483647))))
def g_drawn (ds : List D) : Fw.Rd := fit (s_drawn (startP N_drawn (ds.map .sh)))
abbrev st_machine_by : Stmt := top 14
def dd_machine_by : He.DefD := ⟨("_law_machine_by", none), "_law_machine_by", "_law_machine_by", defArgs st_machine_by, defBody st_machine_by, defScope st_machine_by, [], []⟩
abbrev N_machine_by : List Str := ["_law_cells", "_law_rooms", "_law_letters", "_law_most", "_law_rows", "_law_signs", "_law_k", "_law_number", "_law_row", "_law_j"]
theorem sc_machine_by : FnScope N_machine_by ["_law_cells", "_law_rooms", "_law_letters", "_law_most"] (defScope st_machine_by) := ⟨rfl, rfl, rfl, by decide +kernel, rfl, by decide +kernel, by decide +kernel⟩
def s_machine_by : FS := (sSeq (sSetO 4 oLd)
    (sSeq (sSetO 5 (oLst aN))
    (sSeq (sFor (tgN 6) (sSeq (sSet 7 (eCall (lenG 2 g_mixed) [] (aC (eCall (lenG 2 g_cell_at) [] (aC (eV 0) (aC (eV 6) aN))) (aC (eV 6) aN))))
    (sSeq (sDrop (mL 5 (aC (e2 dMod (eV 7) (eV 3)) aN) appL))
    (sSeq (sSetO 8 (oLst aN))
    (sSeq (sFor (tgN 9) (sSeq (sSet 7 (e2 dMod (e2 dMul (eV 7) (eC (.int 16807))) (eC (.int 2147483647))))
    (sDrop (mL 8 (aC (e2 dMod (e2 dDiv (eV 7) (eC (.int 11))) (eV 1)) aN) appL))) (iR1 (aC (eV 2) aN)))
    (sDrop (mLd 4 (oMv 8))))))) (iR1 (aC (eV 1) aN)))
    (fun ρ => match zeroP 4 ρ with
    | some ρ1 => (fun ρ => onlyRt ((fun ρ => (sRet (eTup (aC (eL dTuple (aC (vLc (eLc (iS (eV 4)) (tgN 8) tYs (eL dTuple (aC (eV 8) aN)) [8])) aN)) (aC (eL dTuple (aC (eV 5) aN)) aN)))) (frz 5 ρ)) ρ)) ρ1
    | none => .no))))
def g_machine_by (ds : List D) : Fw.Rd := fitN (s_machine_by (startP N_machine_by (ds.map .sh)))
abbrev st_is_machine : Stmt := top 15
def dd_is_machine : He.DefD := ⟨("_law_is_machine", none), "_law_is_machine", "_law_is_machine", defArgs st_is_machine, defBody st_is_machine, defScope st_is_machine, [], []⟩
abbrev N_is_machine : List Str := ["_law_found", "_law_row", "_law_room", "_law_sign"]
theorem sc_is_machine : FnScope N_is_machine ["_law_found"] (defScope st_is_machine) := ⟨rfl, rfl, rfl, by decide +kernel, rfl, by decide +kernel, by decide +kernel⟩
def s_is_machine : FS := (sSeq (sIf (tO (tN (tV (eIsi "tuple" (eV 0)))) ((tV (e2 (dNe) (eL dLen (aC (eV 0) aN)) (eC (.int 2)))))) (sRet (eC (.bl false))) sNx)
    (sSeq (sIf (tO (tN (tV (eIsi "tuple" (e2 dIx (eV 0) (eC (.int 0)))))) ((tN (tV (eIsi "tuple" (e2 dIx (eV 0) (eC (.int 1)))))))) (sRet (eC (.bl false))) sNx)
    (sSeq (sFor (tgN 1) (sIf (tO (tN (tV (eIsi "tuple" (eV 1)))) ((tN (tV (eL dAll (aC (vLc (eLc (iS (eV 1)) (tgN 2) tYs (eCall (lenG 1 g_whole) [] (aC (eV 2) aN)) [2])) aN)))))) (sRet (eC (.bl false))) sNx) (iS (e2 dIx (eV 0) (eC (.int 0)))))
    (sRet (eL dAll (aC (vLc (eLc (iS (e2 dIx (eV 0) (eC (.int 1)))) (tgN 3) tYs (eCall (lenG 1 g_whole) [] (aC (eV 3) aN)) [3])) aN))))))
def g_is_machine (ds : List D) : Fw.Rd := fit (s_is_machine (startP N_is_machine (ds.map .sh)))
abbrev st_steadied : Stmt := top 16
def dd_steadied : He.DefD := ⟨("_law_steadied", none), "_law_steadied", "_law_steadied", defArgs st_steadied, defBody st_steadied, defScope st_steadied, [], []⟩
abbrev N_steadied : List Str := ["_law_machine", "_law_rows", "_law_k", "_law_row", "_law_alike", "_law_room"]
theorem sc_steadied : FnScope N_steadied ["_law_machine"] (defScope st_steadied) := ⟨rfl, rfl, rfl, by decide +kernel, rfl, by decide +kernel, by decide +kernel⟩
def s_steadied : FS := (sSeq (sSetO 1 (oLst aN))
    (sSeq (sFor (tgT 2 (tgCons (tgN 2) (tgCons (tgN 3) tgNil))) (sSeq (sSet 4 (vLc (eLc (iR1 (aC (eL dLen (aC (e2 dIx (eV 0) (eC (.int 1))) aN)) aN)) (tgN 5) (tV (e2 (dEq) (e2 dIx (e2 dIx (eV 0) (eC (.int 1))) (eV 5)) (e2 dIx (e2 dIx (eV 0) (eC (.int 1))) (eV 2)))) (eV 5) [5])))
    (sDrop (mL 1 (aC (e2 dAdd (eLst (aC (e2 dIx (eV 4) (e2 dMod (e2 dIx (eV 3) (eC (.int 0))) (eL dLen (aC (eV 4) aN)))) aN)) (eL dList (aC (eSl (eV 3) (pSo (eC (.int 1))) pNo) aN))) aN) appL))) (iEnumL (aC (e2 dIx (eV 0) (eC (.int 0))) aN)))
    (fun ρ => (sRet (eTup (aC (eV 1) (aC (eL dList (aC (e2 dIx (eV 0) (eC (.int 1))) aN)) aN)))) (frz 1 ρ))))
def g_steadied (ds : List D) : Fw.Rd := fit (s_steadied (startP N_steadied (ds.map .sh)))
abbrev st_spoilt : Stmt := top 17
def dd_spoilt : He.DefD := ⟨("_law_spoilt", none), "_law_spoilt", "_law_spoilt", defArgs st_spoilt, defBody st_spoilt, defScope st_spoilt, [], []⟩
abbrev N_spoilt : List Str := ["_law_rows", "_law_signs", "_law_cell", "_law_row", "_law_made", "_law_told", "_law_way", "_law_at", "_law_more", "_law_spot"]
theorem sc_spoilt : FnScope N_spoilt ["_law_rows", "_law_signs", "_law_cell"] (defScope st_spoilt) := ⟨rfl, rfl, rfl, by decide +kernel, rfl, by decide +kernel, by decide +kernel⟩
def s_spoilt : FS := (sSeq (sSetO 4 (oLc (eLc (iS (eV 0)) (tgN 3) tYs (eL dList (aC (eV 3) aN)) [3])))
    (sSeq (sSetO 5 (oList (aC (eV 1) aN)))
    (sSeq (sSet 6 (e2 dMod (eV 2) (eC (.int 9))))
    (sSeq (sSet 7 (e2 dMod (e2 dDiv (eV 2) (eC (.int 9))) (eL dMax2 (aC (eC (.int 1)) (aC (lenO 4) aN)))))
    (sSeq (sSet 8 (e2 dDiv (eV 2) (eC (.int 100))))
    (sSeq (sIf (tA (tV (e2 (dCmp iLt) (eV 6) (eC (.int 4)))) ((tV (e2 (dCmp iGt) (lenO 4) (eC (.int 0)))))) (sSeq (sSet 3 (withO 4 (eV 7) ixL))
    (sSeq (sSet 9 (e2 dMod (e2 dDiv (eV 8) (eC (.int 11))) (eL dMax2 (aC (eC (.int 1)) (aC (eL dLen (aC (eV 3) aN)) aN)))))
    (sSeq (sIf (tV (e2 (dEq) (eV 6) (eC (.int 0)))) (sPut 4 (e2 dIx (eLst (aC (eSl (eV 3) (pSo (eC (.int 1))) pNo) (aC (e2 dAdd (eV 3) (eLst (aC (eC (.int 0)) aN))) (aC (eLst aN) (aC (eLst (aC (eC (.int 0)) aN)) (aC (e2 dAdd (e2 dAdd (eV 3) (eV 3)) (eLst (aC (eC (.int 0)) (aC (eC (.int 0)) aN)))) aN)))))) (e2 dMod (eV 8) (eC (.int 5)))) (eV 7) setL) sNx)
    (sSeq (sIf (tA (tV (e2 (dEq) (eV 6) (eC (.int 1)))) ((tV (e2 (dCmp iGt) (eL dLen (aC (eV 3) aN)) (eC (.int 0)))))) (sPut 4 (e2 dAdd (e2 dAdd (eSl (eV 3) pNo (pSo (eV 9))) (eLst (aC (e2 dIx (eLst (aC (e1 dNeg (eC (.int 1))) (aC (lenO 4) (aC (e2 dAdd (lenO 4) (eC (.int 7))) (aC (e2 dSub (e1 dNeg (eC (.int 1))) (e2 dMod (eV 8) (e2 dPow (eC (.int 10)) (eC (.int 20))))) aN))))) (e2 dMod (eV 8) (eC (.int 4)))) aN))) (eSl (eV 3) (pSo (e2 dAdd (eV 9) (eC (.int 1)))) pNo)) (eV 7) setL) sNx)
    (sIf (tA (tV (e2 (dCmp iGt) (eV 6) (eC (.int 1)))) ((tV (e2 (dCmp iGt) (eL dLen (aC (eV 3) aN)) (eC (.int 0)))))) (sPut 4 (e2 dAdd (e2 dAdd (eSl (eV 3) pNo (pSo (eV 9))) (eLst (aC (e2 dMod (eV 8) (lenO 4)) aN))) (eSl (eV 3) (pSo (e2 dAdd (eV 9) (eC (.int 1)))) pNo)) (eV 7) setL) sNx))))) sNx)
    (sSeq (sIf (tA (tV (e2 (dCmp iGt) (eV 6) (eC (.int 3)))) (tA (tV (e2 (dCmp iLt) (eV 6) (eC (.int 6)))) ((tV (e2 (dCmp iLt) (eV 7) (lenO 5)))))) (sPut 5 (e2 dIx (eLst (aC (e1 dNeg (eC (.int 1))) (aC (eC (.int 10)) (aC (e2 dMod (eV 8) (eC (.int 4))) (aC (e2 dAdd (eC (.int 99)) (e2 dMod (eV 8) (e2 dPow (eC (.int 10)) (eC (.int 20))))) aN))))) (e2 dMod (eV 8) (eC (.int 4)))) (eV 7) setL) sNx)
    (sSeq (sIf (tV (e2 (dEq) (eV 6) (eC (.int 6)))) (fun ρ => (sSet 5 (e2 dIx (eLst (aC (eSl (eV 5) (pSo (eC (.int 1))) pNo) (aC (e2 dAdd (eV 5) (eLst (aC (eC (.int 0)) aN))) aN))) (e2 dMod (eV 8) (eC (.int 2))))) (frz 5 ρ)) sNx)
    (sSeq (sIf (tV (e2 (dEq) (eV 6) (eC (.int 7)))) (fun ρ => (sSet 4 (e2 dIx (eLst (aC (eLst aN) (aC (e2 dAdd (eV 4) (eLst (aC (eLst (aC (eC (.int 0)) (aC (eC (.int 0)) aN))) aN))) aN))) (e2 dMod (eV 8) (eC (.int 2))))) (frz 4 ρ)) sNx)
    (sSeq (sIf (tA (tV (e2 (dEq) (eV 6) (eC (.int 8)))) ((tV (e2 (dCmp iLt) (eV 7) (lenO 5))))) (sPut 5 (e2 dMod (e2 dAdd (withO 5 (eV 7) ixL) (eC (.int 1))) (eC (.int 4))) (eV 7) setL) sNx)
    (fun ρ => (fun ρ => (sRet (eTup (aC (eV 4) (aC (eV 5) aN)))) (frz 5 ρ)) (frz 4 ρ))))))))))))
def g_spoilt (ds : List D) : Fw.Rd := fit (s_spoilt (startP N_spoilt (ds.map .sh)))
abbrev st_due : Stmt := top 18
def dd_due : He.DefD := ⟨("_law_due", none), "_law_due", "_law_due", defArgs st_due, defBody st_due, defScope st_due, [], []⟩
abbrev N_due : List Str := ["_law_rows", "_law_signs", "_law_k", "_law_row", "_law_sign", "_law_room"]
theorem sc_due : FnScope N_due ["_law_rows", "_law_signs"] (defScope st_due) := ⟨rfl, rfl, rfl, by decide +kernel, rfl, by decide +kernel, by decide +kernel⟩
def s_due : FS := (sSeq (sIf (tO (tV (e2 (dCmp iLt) (eL dLen (aC (eV 0) aN)) (eC (.int 1)))) ((tV (e2 (dCmp iGt) (eL dLen (aC (eV 0) aN)) (eC (.int 100)))))) (sRet (eTup (aC (eC (.str "rooms")) (aC (eL dLen (aC (eV 0) aN)) aN)))) sNx)
    (sSeq (sIf (tV (e2 (dNe) (eL dLen (aC (eV 1) aN)) (eL dLen (aC (eV 0) aN)))) (sRet (eTup (aC (eC (.str "signs")) (aC (eL dLen (aC (eV 1) aN)) aN)))) sNx)
    (sSeq (sFor (tgT 2 (tgCons (tgN 2) (tgCons (tgN 3) tgNil))) (sSeq (sIf (tO (tV (e2 (dCmp iLt) (eL dLen (aC (eV 3) aN)) (eC (.int 2)))) (tO (tV (e2 (dCmp iGt) (eL dLen (aC (eV 3) aN)) (eC (.int 5)))) ((tV (e2 (dNe) (eL dLen (aC (eV 3) aN)) (eL dLen (aC (e2 dIx (eV 0) (eC (.int 0))) aN))))))) (sRet (eTup (aC (eC (.str "letters")) (aC (eV 2) aN)))) sNx)
    (sIf (tN (tV (eL dAll (aC (vLc (eLc (iS (eV 3)) (tgN 5) tYs (eChain (dCmp iLe) (dCmp iLt) (eC (.int 0)) (eV 5) (eL dLen (aC (eV 0) aN))) [5])) aN)))) (sRet (eTup (aC (eC (.str "next")) (aC (eV 2) aN)))) sNx)) (iEnumL (aC (eV 0) aN)))
    (sSeq (sFor (tgT 2 (tgCons (tgN 2) (tgCons (tgN 4) tgNil))) (sIf (tO (tV (e2 (dCmp iLt) (eV 4) (eC (.int 0)))) ((tV (e2 (dCmp iGt) (eV 4) (eC (.int 9)))))) (sRet (eTup (aC (eC (.str "sign")) (aC (eV 2) aN)))) sNx) (iEnumL (aC (eV 1) aN)))
    (sSeq (sFor (tgT 2 (tgCons (tgN 2) (tgCons (tgN 3) tgNil))) (sIf (tV (e2 (dNe) (e2 dIx (eV 1) (e2 dIx (eV 3) (eC (.int 0)))) (e2 dIx (eV 1) (eV 2)))) (sRet (eTup (aC (eC (.str "steady")) (aC (eV 2) aN)))) sNx) (iEnumL (aC (eV 0) aN)))
    (sRet (eC .non)))))))
def g_due (ds : List D) : Fw.Rd := fit (s_due (startP N_due (ds.map .sh)))
abbrev st_asked : Stmt := top 19
def dd_asked : He.DefD := ⟨("_law_asked", none), "_law_asked", "_law_asked", defArgs st_asked, defBody st_asked, defScope st_asked, [], []⟩
abbrev N_asked : List Str := ["_law_rows", "_law_signs", "_law_found", "_law_told", "e", "_law_alone"]
theorem sc_asked : FnScope N_asked ["_law_rows", "_law_signs"] (defScope st_asked) := ⟨rfl, rfl, rfl, by decide +kernel, rfl, by decide +kernel, by decide +kernel⟩
def s_asked : FS := (sSeq (sSet 2 (eC .non))
    (sSeq (sSet 3 (eC .non))
    (sSeq (sTryAs 4 (tab [("WheelError", false), ("NoBase", false), ("NoMachine", true), ("NoText", false)]) (sSet 2 (eCall (lenG 2 g_back_of) [] (aC (eV 0) (aC (eV 1) aN)))) (xSetC 5 (fun er => vA ((isX (tab [("NoMachine", true)])) er) ((isX (tab [("NoMachine", true)])) er)) (xSet 3 (fun er => eTup ((fun er => aC ((xfE "NoMachine" "word") er) ((fun er => aC ((xfE "NoMachine" "number") er) ((fun er => aC ((fun er => vA ((fun _ => (eV 5)) er) ((fun er => vA ((fun er => vN ((isX (tab [("NoMachine", false)])) er)) er) ((fun er => vN ((isX (tab [("NoMachine", false)])) er)) er)) er)) er) ((fun _ => aN) er)) er)) er)) er)))))
    (sRet (eTup (aC (eV 2) (aC (eV 3) aN)))))))
def g_asked (ds : List D) : Fw.Rd := fit (s_asked (startP N_asked (ds.map .sh)))
abbrev st_law : Stmt := top 20
def dd_law : He.DefD := ⟨("law", none), "law", "law", defArgs st_law, defBody st_law, defScope st_law, [], []⟩
abbrev N_law : List Str := ["_law_script", "_law_first", "_law_machine", "_law_rows", "_law_signs", "_law_k", "_law_many", "_law_made", "_law_due_here", "_law_row", "_law_handed", "_law_asked_here", "_law_j"]
theorem sc_law : FnScope N_law ["_law_script"] (defScope st_law) := ⟨rfl, rfl, rfl, by decide +kernel, rfl, by decide +kernel, by decide +kernel⟩
def s_law : FS := (sSeq (sSet 1 (eCall (lenG 2 g_drawn) [] (aC (eV 0) (aC (eC (.int 0)) aN))))
    (sSeq (sSet 2 (eCall (lenG 1 g_steadied) [] (aC (eCall (lenG 4 g_machine_by) [] (aC (eSl (eV 0) (pSo (eC (.int 3))) (pSo (eC (.int 12)))) (aC (e2 dAdd (eC (.int 1)) (e2 dMod (eV 1) (eC (.int 9)))) (aC (e2 dAdd (eC (.int 2)) (e2 dMod (e2 dDiv (eV 1) (eC (.int 9))) (eC (.int 4)))) (aC (eC (.int 4)) aN))))) aN)))
    (sSeq (sSet 3 (e2 dIx (eV 2) (eC (.int 0))))
    (sSeq (sSet 4 (e2 dIx (eV 2) (eC (.int 1))))
    (sSeq (sIf (tV (e2 (dEq) (e2 dMod (e2 dDiv (eV 1) (eC (.int 36))) (eC (.int 5))) (eC (.int 2)))) (sSeq (sSet 3 (vLc (eLc (iR1 (aC (eC (.int 100)) aN)) (tgN 5) tYs (vLc (eLc (iR1 (aC (eL dLen (aC (e2 dIx (eV 3) (eC (.int 0))) aN)) aN)) (tgN 12) tYs (e2 dMod (e2 dAdd (e2 dMul (eC (.int 7)) (eV 5)) (eV 12)) (eC (.int 100))) [12])) [5])))
    (sSet 4 (vLc (eLc (iR1 (aC (eC (.int 100)) aN)) (tgN 5) tYs (eC (.int 3)) [5])))) sNx)
    (sSeq (sSet 6 (e2 dMod (eCall (lenG 2 g_drawn) [] (aC (eV 0) (aC (eC (.int 1)) aN))) (eC (.int 4))))
    (sSeq (sFor (tgN 5) (sSeq (sSet 7 (eCall (lenG 3 g_spoilt) [] (aC (eV 3) (aC (eV 4) (aC (e2 dAdd (e2 dDiv (eCall (lenG 2 g_drawn) [] (aC (eV 0) (aC (eC (.int 2)) aN))) (e2 dIx (eLst (aC (eC (.int 1)) (aC (eC (.int 900001)) aN))) (eV 5))) (e2 dDiv (eCall (lenG 2 g_drawn) [] (aC (eV 0) (aC (eC (.int 1)) aN))) (eC (.int 4)))) aN)))))
    (sSeq (sSet 3 (e2 dIx (eV 7) (eC (.int 0))))
    (sSet 4 (e2 dIx (eV 7) (eC (.int 1)))))) (iR1 (aC (eL dMin2 (aC (eV 6) (aC (eC (.int 2)) aN))) aN)))
    (sSeq (sSet 8 (eCall (lenG 2 g_due) [] (aC (eV 3) (aC (eV 4) aN))))
    (tailF 3 4 10 11 9 (eLc (iS (eV 3)) (tgN 9) tYs (eL dList (aC (eV 9) aN)) [9]) (eL dList (aC (eV 4) aN)) (eCall (lenG 2 g_asked) [] (aC (e2 dIx (eV 10) (eC (.int 0))) (aC (e2 dIx (eV 10) (eC (.int 1))) aN))) (tV (e2 (dNe) (eV 10) (eLst (aC (eV 3) (aC (eV 4) aN))))) (sRet (eC (.bl false))) (tV (e2 (dNotN) (eV 8) (eC .non))) (sRet (vA (e2 (dEq) (eV 11) (eTup (aC (eC .non) (aC (e2 dAdd (eV 8) (eTup (aC (eC (.bl true)) aN))) aN)))) ((eCall (lenG 1 g_whole) [] (aC (e2 dIx (e2 dIx (eV 11) (eC (.int 1))) (eC (.int 1))) aN))))) (sSeq (sIf (tO (tV (e2 (dNotN) (e2 dIx (eV 11) (eC (.int 1))) (eC .non))) ((tN (tV (eCall (lenG 1 g_is_machine) [] (aC (e2 dIx (eV 11) (eC (.int 0))) aN)))))) (sRet (eC (.bl false))) sNx)
    (sRet (e2 (dEq) (e2 dIx (eV 11) (eC (.int 0))) (eTup (aC (eL dTuple (aC (vLc (eLc (iS (eV 3)) (tgN 9) tYs (eL dTuple (aC (eV 9) aN)) [9])) aN)) (aC (eL dTuple (aC (eV 4) aN)) aN)))))))))))))))
def fn : List He.DefD := [dd_NoMachine_init, dd_look_at_rows, dd_back_of, dd_cell_at, dd_whole, dd_mixed, dd_drawn, dd_machine_by, dd_is_machine, dd_steadied, dd_spoilt, dd_due, dd_asked, dd_law]
def fa : List He.Fa := [.glo "_law_drawn",
  .glo "_law_machine_by",
  .glo "_law_steadied",
  .free "range",
  .free "len",
  .free "min",
  .glo "_law_spoilt",
  .glo "_law_due",
  .free "list",
  .glo "_law_asked",
  .glo "_law_whole",
  .glo "_law_is_machine",
  .free "tuple",
  .free "enumerate",
  .glo "NoMachine",
  .int "MOST" 100,
  .glo "look_at_rows",
  .free "isinstance",
  .free "int",
  .free "bool",
  .glo "_law_cell_at",
  .glo "_law_mixed",
  .free "all",
  .free "max",
  .glo "back_of",
  .exm "WheelError" "NoMachine" false,
  .exm "NoBase" "NoMachine" false,
  .exm "NoMachine" "NoMachine" true,
  .exm "NoText" "NoMachine" false,
  .glo "NoText",
  .glo "NoBase",
  .noat "NoMachine" "number",
  .noat "NoMachine" "word",
  .glo "WheelError",
  .free "ValueError",
  .glo "law"]
def f2 : List F2 := [.oex "NoMachine",
  .ini "NoMachine",
  .kit "NoMachine" "NoText" false,
  .isx "NoMachine",
  .kit "NoMachine" "NoBase" false,
  .xf "NoMachine",
  .kit "NoMachine" "WheelError" true,
  .kitT "NoMachine" "ValueError" true]
theorem ok_NoMachine_init {P : Program} {w : World} {K : PySem.W.Frag} {base h : Heap} {mg : Str → Option Value} (Y : Say fa fn f2 K h mg) : ∃ fd, FunD K "__init__" "NoMachine.__init__" (defArgs st_NoMachine_init) (defBody st_NoMachine_init) (defScope st_NoMachine_init) [] [] (He.ma K (He.ga K "NoMachine") "__init__") fd ∧ FnOk P w K mg base (L2.CX P w) 1 (He.ma K (He.ga K "NoMachine") "__init__") fd ["self", "word", "number"] (SpI (He.ga K "NoMachine") ["word", "number"]) := by
  obtain ⟨fd, F⟩ := Y.def_ 0 (d := dd_NoMachine_init) rfl
  exact ⟨fd, F, okI2 F ⟨rfl, rfl, rfl, by decide +kernel, rfl, by decide +kernel, by decide +kernel⟩ (oex_ok (Y.g2 0)) (Y.noat 32) (Y.noat 31) (.inl rfl) (.inl rfl) (.inl rfl) (by decide) (by decide) (by decide) (by decide)⟩
theorem ok_look_at_rows {P : Program} {w : World} {K : PySem.W.Frag} {base h : Heap} {mg : Str → Option Value} (Y : Say fa fn f2 K h mg) : ∃ fd, FunD K "look_at_rows" "look_at_rows" (defArgs st_look_at_rows) (defBody st_look_at_rows) (defScope st_look_at_rows) [] [] (He.fAd K ("look_at_rows", none)) fd ∧ FnOk P w K mg base (L2.CX P w) 3 (He.fAd K ("look_at_rows", none)) fd ["rows"] (SpD K 1 g_look_at_rows) := by
  obtain ⟨fd, F⟩ := Y.def_ 1 (d := dd_look_at_rows) rfl
  obtain ⟨ifd0, IF0, I0⟩ := ok_NoMachine_init (P := P) (w := w) (base := base) Y
  have ib0 : Binds K ifd0 ["self", "word", "number"] [] := IF0.bindsN fun _ _ _ _ _ _ us hl => match us, hl with | [_, _, _], _ => rfl
  refine ⟨fd, F, okD F sc_look_at_rows (fun cdv A outer s H E hr gd => ?_) (fun _ _ _ => rfl)⟩
  exact show DSs _ _ (defBody st_look_at_rows) s_look_at_rows from
    (dss_one (ds_for gd (di_enum (by rfl) (Y.free 13) (da_cons (de_var 0 (pv 0)) da_nil)) (dg_tup gd.calm (dgs_cons (dg_name 1 gd.nd) (dgs_cons (dg_name 2 gd.nd) dgs_nil))) (dss_cons (ds_if (DW.dt (dw_or (dt_lt (de_len (Y.free 4) (da_cons (de_var 2 (pv 2)) da_nil)) (de_int)) (dw_or (dt_gt (de_len (Y.free 4) (da_cons (de_var 2 (pv 2)) da_nil)) (de_int)) (dw_or1 (dt_ne gd (de_len (Y.free 4) (da_cons (de_var 2 (pv 2)) da_nil)) (de_len (Y.free 4) (da_cons (de_item (de_var 0 (pv 0)) (de_int)) da_nil))))))) (dss_one (ds_raise gd (oex_ok (Y.g2 0)) (ini_ok (Y.g2 1)).1 (ini_ok (Y.g2 1)).2 (I0.mono (by decide)) hr ib0 .nil rfl (Y.glo 14) (da_cons (de_str) (da_cons (de_var 1 (pv 1)) da_nil)) (by decide))) dss_nil)
    (dss_one (ds_for gd (di_seq (de_var 2 (pv 2))) (dg_name 3 gd.nd) (dss_one (ds_if (DW.dt (dw_or (dt_lt (de_var 3 (pv 3)) (de_int)) (dw_or1 (dt_ge (de_var 3 (pv 3)) (de_len (Y.free 4) (da_cons (de_var 0 (pv 0)) da_nil)))))) (dss_one (ds_raise gd (oex_ok (Y.g2 0)) (ini_ok (Y.g2 1)).1 (ini_ok (Y.g2 1)).2 (I0.mono (by decide)) hr ib0 .nil rfl (Y.glo 14) (da_cons (de_str) (da_cons (de_var 1 (pv 1)) da_nil)) (by decide))) dss_nil)))))))
theorem ok_back_of {P : Program} {w : World} {K : PySem.W.Frag} {base h : Heap} {mg : Str → Option Value} (Y : Say fa fn f2 K h mg) : ∃ fd, FunD K "back_of" "back_of" (defArgs st_back_of) (defBody st_back_of) (defScope st_back_of) [] [] (He.fAd K ("back_of", none)) fd ∧ FnOk P w K mg base (L2.CX P w) 4 (He.fAd K ("back_of", none)) fd ["rows", "signs"] (SpD K 2 g_back_of) := by
  obtain ⟨fd, F⟩ := Y.def_ 2 (d := dd_back_of) rfl
  obtain ⟨fd0, F0, O0⟩ := ok_look_at_rows (P := P) (w := w) (base := base) Y
  have b0 : Binds K fd0 ["rows"] [] := F0.bindsN fun _ _ _ _ _ _ us hl => match us, hl with | [_], _ => rfl
  obtain ⟨ifd0, IF0, I0⟩ := ok_NoMachine_init (P := P) (w := w) (base := base) Y
  have ib0 : Binds K ifd0 ["self", "word", "number"] [] := IF0.bindsN fun _ _ _ _ _ _ us hl => match us, hl with | [_, _, _], _ => rfl
  refine ⟨fd, F, okD F sc_back_of (fun cdv A outer s H E hr gd => ?_) (fun _ _ _ => rfl)⟩
  exact show DSs _ _ (defBody st_back_of) s_back_of from
    (dss_cons (ds_if (DW.dt (dw_or (dt_lt (de_len (Y.free 4) (da_cons (de_var 0 (pv 0)) da_nil)) (de_int)) (dw_or1 (dt_gt (de_len (Y.free 4) (da_cons (de_var 0 (pv 0)) da_nil)) (de_gint (Y.int 15)))))) (dss_one (ds_raise gd (oex_ok (Y.g2 0)) (ini_ok (Y.g2 1)).1 (ini_ok (Y.g2 1)).2 (I0.mono (by decide)) hr ib0 .nil rfl (Y.glo 14) (da_cons (de_str) (da_cons (de_len (Y.free 4) (da_cons (de_var 0 (pv 0)) da_nil)) da_nil)) (by decide))) dss_nil)
    (dss_cons (ds_if (dt_ne gd (de_len (Y.free 4) (da_cons (de_var 1 (pv 1)) da_nil)) (de_len (Y.free 4) (da_cons (de_var 0 (pv 0)) da_nil))) (dss_one (ds_raise gd (oex_ok (Y.g2 0)) (ini_ok (Y.g2 1)).1 (ini_ok (Y.g2 1)).2 (I0.mono (by decide)) hr ib0 .nil rfl (Y.glo 14) (da_cons (de_str) (da_cons (de_len (Y.free 4) (da_cons (de_var 1 (pv 1)) da_nil)) da_nil)) (by decide))) dss_nil)
    (dss_cons (ds_expr (de_call gd (O0.mono (by decide)) hr (by rfl) (Y.glo 16) F0.kp b0 .nil (fun _ => .nil) (da_cons (de_var 0 (pv 0)) da_nil)))
    (dss_cons (ds_for gd (di_enum (by rfl) (Y.free 13) (da_cons (de_var 1 (pv 1)) da_nil)) (dg_tup gd.calm (dgs_cons (dg_name 2 gd.nd) (dgs_cons (dg_name 3 gd.nd) dgs_nil))) (dss_one (ds_if (DW.dt (dw_or (dt_lt (de_var 3 (pv 3)) (de_int)) (dw_or1 (dt_gt (de_var 3 (pv 3)) (de_int))))) (dss_one (ds_raise gd (oex_ok (Y.g2 0)) (ini_ok (Y.g2 1)).1 (ini_ok (Y.g2 1)).2 (I0.mono (by decide)) hr ib0 .nil rfl (Y.glo 14) (da_cons (de_str) (da_cons (de_var 2 (pv 2)) da_nil)) (by decide))) dss_nil)))
    (dss_cons (ds_for gd (di_enum (by rfl) (Y.free 13) (da_cons (de_var 0 (pv 0)) da_nil)) (dg_tup gd.calm (dgs_cons (dg_name 2 gd.nd) (dgs_cons (dg_name 4 gd.nd) dgs_nil))) (dss_one (ds_if (dt_ne gd (de_item (de_var 1 (pv 1)) (de_item (de_var 4 (pv 4)) (de_int))) (de_item (de_var 1 (pv 1)) (de_var 2 (pv 2)))) (dss_one (ds_raise gd (oex_ok (Y.g2 0)) (ini_ok (Y.g2 1)).1 (ini_ok (Y.g2 1)).2 (I0.mono (by decide)) hr ib0 .nil rfl (Y.glo 14) (da_cons (de_str) (da_cons (de_var 2 (pv 2)) da_nil)) (by decide))) dss_nil)))
    (dss_one (ds_ret (de_tup (da_cons (de_tuple (Y.free 12) (da_cons (de_of (lc_all gd (di_seq (de_var 0 (pv 0))) (blk_ok (own := [("row", 4)]) (by kernel_rfl)) (by decide) (fun s H C cl fp gd2 => (dg_name 4 gd2.nd)) (fun s H C cl fp gd2 => (de_tuple (Y.free 12) (da_cons (de_var 4 (pv 4)) da_nil))) (fun _ => rfl))) da_nil)) (da_cons (de_tuple (Y.free 12) (da_cons (de_var 1 (pv 1)) da_nil)) da_nil))))))))))
theorem ok_cell_at {P : Program} {w : World} {K : PySem.W.Frag} {base h : Heap} {mg : Str → Option Value} (Y : Say fa fn f2 K h mg) : ∃ fd, FunD K "_law_cell_at" "_law_cell_at" (defArgs st_cell_at) (defBody st_cell_at) (defScope st_cell_at) [] [] (He.fAd K ("_law_cell_at", none)) fd ∧ FnOk P w K mg base (L2.CX P w) 1 (He.fAd K ("_law_cell_at", none)) fd ["_law_script", "_law_k"] (SpD K 2 g_cell_at) := by
  obtain ⟨fd, F⟩ := Y.def_ 3 (d := dd_cell_at) rfl
  refine ⟨fd, F, okD F sc_cell_at (fun cdv A outer s H E hr gd => ?_) (fun _ _ _ => rfl)⟩
  exact show DSs _ _ (defBody st_cell_at) s_cell_at from
    (dss_cons (ds_if (dt_lt (de_var 1 (pv 1)) (de_len (Y.free 4) (da_cons (de_var 0 (pv 0)) da_nil))) (dss_one (ds_ret (de_item (de_var 0 (pv 0)) (de_var 1 (pv 1))))) dss_nil)
    (dss_one (ds_ret (de_int))))
theorem ok_whole {P : Program} {w : World} {K : PySem.W.Frag} {base h : Heap} {mg : Str → Option Value} (Y : Say fa fn f2 K h mg) : ∃ fd, FunD K "_law_whole" "_law_whole" (defArgs st_whole) (defBody st_whole) (defScope st_whole) [] [] (He.fAd K ("_law_whole", none)) fd ∧ FnOk P w K mg base (L2.CX P w) 1 (He.fAd K ("_law_whole", none)) fd ["_law_found"] (SpD K 1 g_whole) := by
  obtain ⟨fd, F⟩ := Y.def_ 4 (d := dd_whole) rfl
  refine ⟨fd, F, okD F sc_whole (fun cdv A outer s H E hr gd => ?_) (fun _ _ _ => rfl)⟩
  exact show DSs _ _ (defBody st_whole) s_whole from
    (dss_one (ds_ret (de_and (de_isi (by rfl) (Y.free 17) (pe_bltn (by rfl) (Y.free 18) PyProof.Rows.boot_int rfl) (de_var 0 (pv 0))) (de_one (de_not (de_isi (by rfl) (Y.free 17) (pe_bltn (by rfl) (Y.free 19) PyProof.Rows.boot_bool rfl) (de_var 0 (pv 0))))))))
theorem ok_mixed {P : Program} {w : World} {K : PySem.W.Frag} {base h : Heap} {mg : Str → Option Value} (Y : Say fa fn f2 K h mg) : ∃ fd, FunD K "_law_mixed" "_law_mixed" (defArgs st_mixed) (defBody st_mixed) (defScope st_mixed) [] [] (He.fAd K ("_law_mixed", none)) fd ∧ FnOk P w K mg base (L2.CX P w) 1 (He.fAd K ("_law_mixed", none)) fd ["_law_cell", "_law_k"] (SpD K 2 g_mixed) := by
  obtain ⟨fd, F⟩ := Y.def_ 5 (d := dd_mixed) rfl
  refine ⟨fd, F, okD F sc_mixed (fun cdv A outer s H E hr gd => ?_) (fun _ _ _ => rfl)⟩
  exact show DSs _ _ (defBody st_mixed) s_mixed from
    (dss_one (ds_ret (de_mod (de_mul (de_add (de_add (de_mod (de_var 0 (pv 0)) (de_pow (de_int) (de_int))) (de_mul (de_mul (de_int) (de_var 1 (pv 1))) (de_var 1 (pv 1)))) (de_var 1 (pv 1))) (de_int)) (de_int))))
theorem ok_drawn {P : Program} {w : World} {K : PySem.W.Frag} {base h : Heap} {mg : Str → Option Value} (Y : Say fa fn f2 K h mg) : ∃ fd, FunD K "_law_drawn" "_law_drawn" (defArgs st_drawn) (defBody st_drawn) (defScope st_drawn) [] [] (He.fAd K ("_law_drawn", none)) fd ∧ FnOk P w K mg base (L2.CX P w) 2 (He.fAd K ("_law_drawn", none)) fd ["_law_script", "_law_k"] (SpD K 2 g_drawn) := by
  obtain ⟨fd, F⟩ := Y.def_ 6 (d := dd_drawn) rfl
  obtain ⟨fd0, F0, O0⟩ := ok_mixed (P := P) (w := w) (base := base) Y
  have b0 : Binds K fd0 ["_law_cell", "_law_k"] [] := F0.bindsN fun _ _ _ _ _ _ us hl => match us, hl with | [_, _], _ => rfl
  obtain ⟨fd1, F1, O1⟩ := ok_cell_at (P := P) (w := w) (base := base) Y
  have b1 : Binds K fd1 ["_law_script", "_law_k"] [] := F1.bindsN fun _ _ _ _ _ _ us hl => match us, hl with | [_, _], _ => rfl
  refine ⟨fd, F, okD F sc_drawn (fun cdv A outer s H E hr gd => ?_) (fun _ _ _ => rfl)⟩
  exact show DSs _ _ (defBody st_drawn) s_drawn from
    (dss_one (ds_ret (de_mod (de_mul (de_call gd (O0.mono (by decide)) hr (by rfl) (Y.glo 21) F0.kp b0 .nil (fun _ => .nil) (da_cons (de_call gd (O1.mono (by decide)) hr (by rfl) (Y.glo 20) F1.kp b1 .nil (fun _ => .nil) (da_cons (de_var 0 (pv 0)) (da_cons (de_var 1 (pv 1)) da_nil))) (da_cons (de_add (de_var 1 (pv 1)) (de_int)) da_nil))) (de_int)) (de_int))))
theorem ok_machine_by {P : Program} {w : World} {K : PySem.W.Frag} {base h : Heap} {mg : Str → Option Value} (Y : Say fa fn f2 K h mg) : ∃ fd, FunD K "_law_machine_by" "_law_machine_by" (defArgs st_machine_by) (defBody st_machine_by) (defScope st_machine_by) [] [] (He.fAd K ("_law_machine_by", none)) fd ∧ FnOk P w K mg base (L2.CX P w) 2 (He.fAd K ("_law_machine_by", none)) fd ["_law_cells", "_law_rooms", "_law_letters", "_law_most"] (SpD K 4 g_machine_by) := by
  obtain ⟨fd, F⟩ := Y.def_ 7 (d := dd_machine_by) rfl
  obtain ⟨fd0, F0, O0⟩ := ok_mixed (P := P) (w := w) (base := base) Y
  have b0 : Binds K fd0 ["_law_cell", "_law_k"] [] := F0.bindsN fun _ _ _ _ _ _ us hl => match us, hl with | [_, _], _ => rfl
  obtain ⟨fd1, F1, O1⟩ := ok_cell_at (P := P) (w := w) (base := base) Y
  have b1 : Binds K fd1 ["_law_script", "_law_k"] [] := F1.bindsN fun _ _ _ _ _ _ us hl => match us, hl with | [_, _], _ => rfl
  refine ⟨fd, F, okN F sc_machine_by (fun cdv A outer s H E hr gd => ?_) (fun _ _ _ => rfl)⟩
  exact show DN _ _ (defBody st_machine_by) s_machine_by from
    (dn_cons (ds_setO 4 gd do_ld)
    (dn_cons (ds_setO 5 gd (do_lst da_nil))
    (dn_cons (ds_for gd (di_rng1 (by rfl) (Y.free 3) (da_cons (de_var 1 (pv 1)) da_nil)) (dg_name 6 gd.nd) (dss_cons (ds_set 7 gd (de_call gd (O0.mono (by decide)) hr (by rfl) (Y.glo 21) F0.kp b0 .nil (fun _ => .nil) (da_cons (de_call gd (O1.mono (by decide)) hr (by rfl) (Y.glo 20) F1.kp b1 .nil (fun _ => .nil) (da_cons (de_var 0 (pv 0)) (da_cons (de_var 6 (pv 6)) da_nil))) (da_cons (de_var 6 (pv 6)) da_nil))))
    (dss_cons (ds_expr (de_app 5 (pv 5) (da_cons (de_mod (de_var 7 (pv 7)) (de_var 3 (pv 3))) da_nil)))
    (dss_cons (ds_setO 8 gd (do_lst da_nil))
    (dss_cons (ds_for gd (di_rng1 (by rfl) (Y.free 3) (da_cons (de_var 2 (pv 2)) da_nil)) (dg_name 9 gd.nd) (dss_cons (ds_set 7 gd (de_mod (de_mul (de_var 7 (pv 7)) (de_int)) (de_int)))
    (dss_one (ds_expr (de_app 8 (pv 8) (da_cons (de_mod (de_div (de_var 7 (pv 7)) (de_int)) (de_var 1 (pv 1))) da_nil))))))
    (dss_one (ds_expr (de_appO 4 (pv 4) (do_mv 8 (pv 8))))))))))
    (dn_zero 4 (pv 4) (dn_of (dss_one (ds_frz 5 (ds_ret (de_tup (da_cons (de_tuple (Y.free 12) (da_cons (de_of (lc_all gd (di_seq (de_var 4 (pv 4))) (blk_ok (own := [("_law_row", 8)]) (by kernel_rfl)) (by decide) (fun s H C cl fp gd2 => (dg_name 8 gd2.nd)) (fun s H C cl fp gd2 => (de_tuple (Y.free 12) (da_cons (de_var 8 (pv 8)) da_nil))) (fun _ => rfl))) da_nil)) (da_cons (de_tuple (Y.free 12) (da_cons (de_var 5 (pv 5)) da_nil)) da_nil)))))))))))
theorem ok_is_machine {P : Program} {w : World} {K : PySem.W.Frag} {base h : Heap} {mg : Str → Option Value} (Y : Say fa fn f2 K h mg) : ∃ fd, FunD K "_law_is_machine" "_law_is_machine" (defArgs st_is_machine) (defBody st_is_machine) (defScope st_is_machine) [] [] (He.fAd K ("_law_is_machine", none)) fd ∧ FnOk P w K mg base (L2.CX P w) 2 (He.fAd K ("_law_is_machine", none)) fd ["_law_found"] (SpD K 1 g_is_machine) := by
  obtain ⟨fd, F⟩ := Y.def_ 8 (d := dd_is_machine) rfl
  obtain ⟨fd0, F0, O0⟩ := ok_whole (P := P) (w := w) (base := base) Y
  have b0 : Binds K fd0 ["_law_found"] [] := F0.bindsN fun _ _ _ _ _ _ us hl => match us, hl with | [_], _ => rfl
  refine ⟨fd, F, okD F sc_is_machine (fun cdv A outer s H E hr gd => ?_) (fun _ _ _ => rfl)⟩
  exact show DSs _ _ (defBody st_is_machine) s_is_machine from
    (dss_cons (ds_if (DW.dt (dw_or (dt_not (dt_val (de_isi (by rfl) (Y.free 17) (pe_bltn (by rfl) (Y.free 12) PyProof.Rows.boot_tuple rfl) (de_var 0 (pv 0))))) (dw_or1 (dt_ne gd (de_len (Y.free 4) (da_cons (de_var 0 (pv 0)) da_nil)) (de_int))))) (dss_one (ds_ret (de_bl))) dss_nil)
    (dss_cons (ds_if (DW.dt (dw_or (dt_not (dt_val (de_isi (by rfl) (Y.free 17) (pe_bltn (by rfl) (Y.free 12) PyProof.Rows.boot_tuple rfl) (de_item (de_var 0 (pv 0)) (de_int))))) (dw_or1 (dt_not (dt_val (de_isi (by rfl) (Y.free 17) (pe_bltn (by rfl) (Y.free 12) PyProof.Rows.boot_tuple rfl) (de_item (de_var 0 (pv 0)) (de_int)))))))) (dss_one (ds_ret (de_bl))) dss_nil)
    (dss_cons (ds_for gd (di_seq (de_item (de_var 0 (pv 0)) (de_int))) (dg_name 1 gd.nd) (dss_one (ds_if (DW.dt (dw_or (dt_not (dt_val (de_isi (by rfl) (Y.free 17) (pe_bltn (by rfl) (Y.free 12) PyProof.Rows.boot_tuple rfl) (de_var 1 (pv 1))))) (dw_or1 (dt_not (dt_val (de_all gd (Y.free 22) (da_cons (de_of (lc_all gd (di_seq (de_var 1 (pv 1))) (blk_ok (own := [("_law_room", 2)]) (by kernel_rfl)) (by decide) (fun s H C cl fp gd2 => (dg_name 2 gd2.nd)) (fun s H C cl fp gd2 => (de_call gd2 (O0.mono (by decide)) hr (by rfl) (Y.glo 10) F0.kp b0 .nil (fun _ => .nil) (da_cons (de_var 2 (pv 2)) da_nil))) (fun _ => rfl))) da_nil))))))) (dss_one (ds_ret (de_bl))) dss_nil)))
    (dss_one (ds_ret (de_all gd (Y.free 22) (da_cons (de_of (lc_all gd (di_seq (de_item (de_var 0 (pv 0)) (de_int))) (blk_ok (own := [("_law_sign", 3)]) (by kernel_rfl)) (by decide) (fun s H C cl fp gd2 => (dg_name 3 gd2.nd)) (fun s H C cl fp gd2 => (de_call gd2 (O0.mono (by decide)) hr (by rfl) (Y.glo 10) F0.kp b0 .nil (fun _ => .nil) (da_cons (de_var 3 (pv 3)) da_nil))) (fun _ => rfl))) da_nil)))))))
theorem ok_steadied {P : Program} {w : World} {K : PySem.W.Frag} {base h : Heap} {mg : Str → Option Value} (Y : Say fa fn f2 K h mg) : ∃ fd, FunD K "_law_steadied" "_law_steadied" (defArgs st_steadied) (defBody st_steadied) (defScope st_steadied) [] [] (He.fAd K ("_law_steadied", none)) fd ∧ FnOk P w K mg base (L2.CX P w) 1 (He.fAd K ("_law_steadied", none)) fd ["_law_machine"] (SpD K 1 g_steadied) := by
  obtain ⟨fd, F⟩ := Y.def_ 9 (d := dd_steadied) rfl
  refine ⟨fd, F, okD F sc_steadied (fun cdv A outer s H E hr gd => ?_) (fun _ _ _ => rfl)⟩
  exact show DSs _ _ (defBody st_steadied) s_steadied from
    (dss_cons (ds_setO 1 gd (do_lst da_nil))
    (dss_cons (ds_for gd (di_enum (by rfl) (Y.free 13) (da_cons (de_item (de_var 0 (pv 0)) (de_int)) da_nil)) (dg_tup gd.calm (dgs_cons (dg_name 2 gd.nd) (dgs_cons (dg_name 3 gd.nd) dgs_nil))) (dss_cons ((slc_if 4 gd (di_rng1 (by rfl) (Y.free 3) (da_cons (de_len (Y.free 4) (da_cons (de_item (de_var 0 (pv 0)) (de_int)) da_nil)) da_nil)) (blk_ok (own := [("_law_room", 5)]) (by kernel_rfl)) (by decide) (fun s H C cl fp gd2 => (dg_name 5 gd2.nd)) (fun s H C cl fp gd2 => (dt_eq gd2 (de_item (de_item (de_var 0 (pv 0)) (de_int)) (de_var 5 (pv 5))) (de_item (de_item (de_var 0 (pv 0)) (de_int)) (de_var 2 (pv 2))))) (fun s H C cl fp gd2 => (de_var 5 (pv 5))) rfl rfl rfl (fun _ => rfl)).1)
    (dss_one (ds_expr (de_app 1 (pv 1) (da_cons (de_add (de_lst (da_cons (de_item (de_var 4 (pv 4)) (de_mod (de_item (de_var 3 (pv 3)) (de_int)) (de_len (Y.free 4) (da_cons (de_var 4 (pv 4)) da_nil)))) da_nil)) (de_list (Y.free 8) (da_cons (de_slice (de_var 3 (pv 3)) (dp_so (de_int)) dp_no) da_nil))) da_nil))))))
    (dss_one (ds_frz 1 (ds_ret (de_tup (da_cons (de_var 1 (pv 1)) (da_cons (de_list (Y.free 8) (da_cons (de_item (de_var 0 (pv 0)) (de_int)) da_nil)) da_nil))))))))
theorem ok_spoilt {P : Program} {w : World} {K : PySem.W.Frag} {base h : Heap} {mg : Str → Option Value} (Y : Say fa fn f2 K h mg) : ∃ fd, FunD K "_law_spoilt" "_law_spoilt" (defArgs st_spoilt) (defBody st_spoilt) (defScope st_spoilt) [] [] (He.fAd K ("_law_spoilt", none)) fd ∧ FnOk P w K mg base (L2.CX P w) 1 (He.fAd K ("_law_spoilt", none)) fd ["_law_rows", "_law_signs", "_law_cell"] (SpD K 3 g_spoilt) := by
  obtain ⟨fd, F⟩ := Y.def_ 10 (d := dd_spoilt) rfl
  refine ⟨fd, F, okD F sc_spoilt (fun cdv A outer s H E hr gd => ?_) (fun _ _ _ => rfl)⟩
  exact show DSs _ _ (defBody st_spoilt) s_spoilt from
    (dss_cons ((slc_all 4 gd (di_seq (de_var 0 (pv 0))) (blk_ok (own := [("_law_row", 3)]) (by kernel_rfl)) (by decide) (fun s H C cl fp gd2 => (dg_name 3 gd2.nd)) (fun s H C cl fp gd2 => (de_list (Y.free 8) (da_cons (de_var 3 (pv 3)) da_nil))) rfl rfl rfl (fun _ => rfl)).2)
    (dss_cons (ds_setO 5 gd (do_list (Y.free 8) (da_cons (de_var 1 (pv 1)) da_nil)))
    (dss_cons (ds_set 6 gd (de_mod (de_var 2 (pv 2)) (de_int)))
    (dss_cons (ds_set 7 gd (de_mod (de_div (de_var 2 (pv 2)) (de_int)) (de_max gd (Y.free 23) (da_cons (de_int) (da_cons (de_lenO 4 (pv 4) (by rfl) (Y.free 4)) da_nil)))))
    (dss_cons (ds_set 8 gd (de_div (de_var 2 (pv 2)) (de_int)))
    (dss_cons (ds_if (DW.dt (dw_and (dt_lt (de_var 6 (pv 6)) (de_int)) (dw_and1 (dt_gt (de_lenO 4 (pv 4) (by rfl) (Y.free 4)) (de_int))))) (dss_cons (ds_set 3 gd (de_ixO 4 (pv 4) (de_var 7 (pv 7)) (fun _ _ => rfl)))
    (dss_cons (ds_set 9 gd (de_mod (de_div (de_var 8 (pv 8)) (de_int)) (de_max gd (Y.free 23) (da_cons (de_int) (da_cons (de_len (Y.free 4) (da_cons (de_var 3 (pv 3)) da_nil)) da_nil)))))
    (dss_cons (ds_if (dt_eq gd (de_var 6 (pv 6)) (de_int)) (dss_one (ds_setL 4 (pv 4) (de_item (de_lst (da_cons (de_slice (de_var 3 (pv 3)) (dp_so (de_int)) dp_no) (da_cons (de_add (de_var 3 (pv 3)) (de_lst (da_cons (de_int) da_nil))) (da_cons (de_lst da_nil) (da_cons (de_lst (da_cons (de_int) da_nil)) (da_cons (de_add (de_add (de_var 3 (pv 3)) (de_var 3 (pv 3))) (de_lst (da_cons (de_int) (da_cons (de_int) da_nil)))) da_nil)))))) (de_mod (de_var 8 (pv 8)) (de_int))) (de_var 7 (pv 7)))) dss_nil)
    (dss_cons (ds_if (DW.dt (dw_and (dt_eq gd (de_var 6 (pv 6)) (de_int)) (dw_and1 (dt_gt (de_len (Y.free 4) (da_cons (de_var 3 (pv 3)) da_nil)) (de_int))))) (dss_one (ds_setL 4 (pv 4) (de_add (de_add (de_slice (de_var 3 (pv 3)) dp_no (dp_so (de_var 9 (pv 9)))) (de_lst (da_cons (de_item (de_lst (da_cons (de_neg (de_int)) (da_cons (de_lenO 4 (pv 4) (by rfl) (Y.free 4)) (da_cons (de_add (de_lenO 4 (pv 4) (by rfl) (Y.free 4)) (de_int)) (da_cons (de_sub (de_neg (de_int)) (de_mod (de_var 8 (pv 8)) (de_pow (de_int) (de_int)))) da_nil))))) (de_mod (de_var 8 (pv 8)) (de_int))) da_nil))) (de_slice (de_var 3 (pv 3)) (dp_so (de_add (de_var 9 (pv 9)) (de_int))) dp_no)) (de_var 7 (pv 7)))) dss_nil)
    (dss_one (ds_if (DW.dt (dw_and (dt_gt (de_var 6 (pv 6)) (de_int)) (dw_and1 (dt_gt (de_len (Y.free 4) (da_cons (de_var 3 (pv 3)) da_nil)) (de_int))))) (dss_one (ds_setL 4 (pv 4) (de_add (de_add (de_slice (de_var 3 (pv 3)) dp_no (dp_so (de_var 9 (pv 9)))) (de_lst (da_cons (de_mod (de_var 8 (pv 8)) (de_lenO 4 (pv 4) (by rfl) (Y.free 4))) da_nil))) (de_slice (de_var 3 (pv 3)) (dp_so (de_add (de_var 9 (pv 9)) (de_int))) dp_no)) (de_var 7 (pv 7)))) dss_nil)))))) dss_nil)
    (dss_cons (ds_if (DW.dt (dw_and (dt_gt (de_var 6 (pv 6)) (de_int)) (dw_and (dt_lt (de_var 6 (pv 6)) (de_int)) (dw_and1 (dt_lt (de_var 7 (pv 7)) (de_lenO 5 (pv 5) (by rfl) (Y.free 4))))))) (dss_one (ds_setL 5 (pv 5) (de_item (de_lst (da_cons (de_neg (de_int)) (da_cons (de_int) (da_cons (de_mod (de_var 8 (pv 8)) (de_int)) (da_cons (de_add (de_int) (de_mod (de_var 8 (pv 8)) (de_pow (de_int) (de_int)))) da_nil))))) (de_mod (de_var 8 (pv 8)) (de_int))) (de_var 7 (pv 7)))) dss_nil)
    (dss_cons (ds_if (dt_eq gd (de_var 6 (pv 6)) (de_int)) (dss_one (ds_frz 5 (ds_set 5 gd (de_item (de_lst (da_cons (de_slice (de_var 5 (pv 5)) (dp_so (de_int)) dp_no) (da_cons (de_add (de_var 5 (pv 5)) (de_lst (da_cons (de_int) da_nil))) da_nil))) (de_mod (de_var 8 (pv 8)) (de_int)))))) dss_nil)
    (dss_cons (ds_if (dt_eq gd (de_var 6 (pv 6)) (de_int)) (dss_one (ds_frz 4 (ds_set 4 gd (de_item (de_lst (da_cons (de_lst da_nil) (da_cons (de_add (de_var 4 (pv 4)) (de_lst (da_cons (de_lst (da_cons (de_int) (da_cons (de_int) da_nil))) da_nil))) da_nil))) (de_mod (de_var 8 (pv 8)) (de_int)))))) dss_nil)
    (dss_cons (ds_if (DW.dt (dw_and (dt_eq gd (de_var 6 (pv 6)) (de_int)) (dw_and1 (dt_lt (de_var 7 (pv 7)) (de_lenO 5 (pv 5) (by rfl) (Y.free 4)))))) (dss_one (ds_setL 5 (pv 5) (de_mod (de_add (de_ixO 5 (pv 5) (de_var 7 (pv 7)) (fun _ _ => rfl)) (de_int)) (de_int)) (de_var 7 (pv 7)))) dss_nil)
    (dss_one (ds_frz 4 (ds_frz 5 (ds_ret (de_tup (da_cons (de_var 4 (pv 4)) (da_cons (de_var 5 (pv 5)) da_nil)))))))))))))))))
theorem ok_due {P : Program} {w : World} {K : PySem.W.Frag} {base h : Heap} {mg : Str → Option Value} (Y : Say fa fn f2 K h mg) : ∃ fd, FunD K "_law_due" "_law_due" (defArgs st_due) (defBody st_due) (defScope st_due) [] [] (He.fAd K ("_law_due", none)) fd ∧ FnOk P w K mg base (L2.CX P w) 1 (He.fAd K ("_law_due", none)) fd ["_law_rows", "_law_signs"] (SpD K 2 g_due) := by
  obtain ⟨fd, F⟩ := Y.def_ 11 (d := dd_due) rfl
  refine ⟨fd, F, okD F sc_due (fun cdv A outer s H E hr gd => ?_) (fun _ _ _ => rfl)⟩
  exact show DSs _ _ (defBody st_due) s_due from
    (dss_cons (ds_if (DW.dt (dw_or (dt_lt (de_len (Y.free 4) (da_cons (de_var 0 (pv 0)) da_nil)) (de_int)) (dw_or1 (dt_gt (de_len (Y.free 4) (da_cons (de_var 0 (pv 0)) da_nil)) (de_int))))) (dss_one (ds_ret (de_tup (da_cons (de_str) (da_cons (de_len (Y.free 4) (da_cons (de_var 0 (pv 0)) da_nil)) da_nil))))) dss_nil)
    (dss_cons (ds_if (dt_ne gd (de_len (Y.free 4) (da_cons (de_var 1 (pv 1)) da_nil)) (de_len (Y.free 4) (da_cons (de_var 0 (pv 0)) da_nil))) (dss_one (ds_ret (de_tup (da_cons (de_str) (da_cons (de_len (Y.free 4) (da_cons (de_var 1 (pv 1)) da_nil)) da_nil))))) dss_nil)
    (dss_cons (ds_for gd (di_enum (by rfl) (Y.free 13) (da_cons (de_var 0 (pv 0)) da_nil)) (dg_tup gd.calm (dgs_cons (dg_name 2 gd.nd) (dgs_cons (dg_name 3 gd.nd) dgs_nil))) (dss_cons (ds_if (DW.dt (dw_or (dt_lt (de_len (Y.free 4) (da_cons (de_var 3 (pv 3)) da_nil)) (de_int)) (dw_or (dt_gt (de_len (Y.free 4) (da_cons (de_var 3 (pv 3)) da_nil)) (de_int)) (dw_or1 (dt_ne gd (de_len (Y.free 4) (da_cons (de_var 3 (pv 3)) da_nil)) (de_len (Y.free 4) (da_cons (de_item (de_var 0 (pv 0)) (de_int)) da_nil))))))) (dss_one (ds_ret (de_tup (da_cons (de_str) (da_cons (de_var 2 (pv 2)) da_nil))))) dss_nil)
    (dss_one (ds_if (dt_not (dt_val (de_all gd (Y.free 22) (da_cons (de_of (lc_all gd (di_seq (de_var 3 (pv 3))) (blk_ok (own := [("_law_room", 5)]) (by kernel_rfl)) (by decide) (fun s H C cl fp gd2 => (dg_name 5 gd2.nd)) (fun s H C cl fp gd2 => (de_chain op_le (op2_cmp iLe) op_lt (op2_cmp iLt) (de_int) (de_var 5 (pv 5)) (de_len (Y.free 4) (da_cons (de_var 0 (pv 0)) da_nil)))) (fun _ => rfl))) da_nil)))) (dss_one (ds_ret (de_tup (da_cons (de_str) (da_cons (de_var 2 (pv 2)) da_nil))))) dss_nil))))
    (dss_cons (ds_for gd (di_enum (by rfl) (Y.free 13) (da_cons (de_var 1 (pv 1)) da_nil)) (dg_tup gd.calm (dgs_cons (dg_name 2 gd.nd) (dgs_cons (dg_name 4 gd.nd) dgs_nil))) (dss_one (ds_if (DW.dt (dw_or (dt_lt (de_var 4 (pv 4)) (de_int)) (dw_or1 (dt_gt (de_var 4 (pv 4)) (de_int))))) (dss_one (ds_ret (de_tup (da_cons (de_str) (da_cons (de_var 2 (pv 2)) da_nil))))) dss_nil)))
    (dss_cons (ds_for gd (di_enum (by rfl) (Y.free 13) (da_cons (de_var 0 (pv 0)) da_nil)) (dg_tup gd.calm (dgs_cons (dg_name 2 gd.nd) (dgs_cons (dg_name 3 gd.nd) dgs_nil))) (dss_one (ds_if (dt_ne gd (de_item (de_var 1 (pv 1)) (de_item (de_var 3 (pv 3)) (de_int))) (de_item (de_var 1 (pv 1)) (de_var 2 (pv 2)))) (dss_one (ds_ret (de_tup (da_cons (de_str) (da_cons (de_var 2 (pv 2)) da_nil))))) dss_nil)))
    (dss_one (ds_ret (de_non))))))))
theorem ok_asked {P : Program} {w : World} {K : PySem.W.Frag} {base h : Heap} {mg : Str → Option Value} (Y : Say fa fn f2 K h mg) : ∃ fd, FunD K "_law_asked" "_law_asked" (defArgs st_asked) (defBody st_asked) (defScope st_asked) [] [] (He.fAd K ("_law_asked", none)) fd ∧ FnOk P w K mg base (L2.CX P w) 5 (He.fAd K ("_law_asked", none)) fd ["_law_rows", "_law_signs"] (SpD K 2 g_asked) := by
  obtain ⟨fd, F⟩ := Y.def_ 12 (d := dd_asked) rfl
  obtain ⟨fd0, F0, O0⟩ := ok_back_of (P := P) (w := w) (base := base) Y
  have b0 : Binds K fd0 ["rows", "signs"] [] := F0.bindsN fun _ _ _ _ _ _ us hl => match us, hl with | [_, _], _ => rfl
  refine ⟨fd, F, okD F sc_asked (fun cdv A outer s H E hr gd => ?_) (fun _ _ _ => rfl)⟩
  exact show DSs _ _ (defBody st_asked) s_asked from
    (dss_cons (ds_set 2 gd (de_non))
    (dss_cons (ds_set 3 gd (de_non))
    (dss_cons (ds_try_as 4 (cm := tab [("WheelError", false), ("NoBase", false), ("NoMachine", true), ("NoText", false)]) gd rfl rfl rfl rfl (by exact ⟨rfl, by decide, .inl (Y.glo 14)⟩) (tab_ok (tabC (Y.exm 25) (tabC (Y.exm 26) (tabC (Y.exm 27) (tabC (Y.exm 28) tabN))))) (fun W pn xe gd3 => (dss_one (ds_set 2 gd3 (de_call gd3 (O0.mono (by decide)) hr (by rfl) (Y.glo 24) F0.kp b0 .nil (fun _ => .nil) (da_cons (de_var 0 (pv 0)) (da_cons (de_var 1 (pv 1)) da_nil))))))
    (dxs_setC 5 gd.nd (dx_and (dx_isO (tb := tab [("NoMachine", true)]) (Y.free 17) (fun _ _ => pv 4) (Y.glo 33) (tab_ok (tabC ⟨isx_ok (Y.g2 3), kit_ok (Y.g2 6)⟩ tabN))) (dx_one (dx_isT (tb := tab [("NoMachine", true)]) (Y.free 17) (fun _ _ => pv 4) (Y.free 34) L2.boot_ValueError (tab_ok (tabC ⟨isx_ok (Y.g2 3), kitT_ok (Y.g2 7)⟩ tabN))))) (dxs_set 3 gd.nd (dx_tup (dxa_cons (dx_xf (xf_ok (Y.g2 5)) (Y.noat 32) (fun _ _ => pv 4)) (dxa_cons (dx_xf (xf_ok (Y.g2 5)) (Y.noat 31) (fun _ _ => pv 4)) (dxa_cons (dx_and (dx_lift (fun _ _ => (de_var 5 (pv 5)))) (dx_and (dx_not (dx_isO (tb := tab [("NoMachine", false)]) (Y.free 17) (fun _ _ => pv 4) (Y.glo 29) (tab_ok (tabC ⟨isx_ok (Y.g2 3), kit_ok (Y.g2 2)⟩ tabN)))) (dx_one (dx_not (dx_isO (tb := tab [("NoMachine", false)]) (Y.free 17) (fun _ _ => pv 4) (Y.glo 30) (tab_ok (tabC ⟨isx_ok (Y.g2 3), kit_ok (Y.g2 4)⟩ tabN))))))) dxa_nil)))))))
    (dss_one (ds_ret (de_tup (da_cons (de_var 2 (pv 2)) (da_cons (de_var 3 (pv 3)) da_nil))))))))
theorem db_law {P : Program} {w : World} {K : PySem.W.Frag} {base h : Heap} {mg : Str → Option Value} (Y : Say fa fn f2 K h mg) : ∃ fd, FunD K "law" "law" (defArgs st_law) (defBody st_law) (defScope st_law) [] [] (He.fAd K ("law", none)) fd ∧ ∀ (cdv : Value) (A : Around) (outer : List Env) (s : Shared) (H : Hp) (E : XK), Room 5 (A.deeper (envOfC "law" (defScope st_law) s.heap.objs.size (He.fAd K ("law", none)) cdv)) → Gd (Bx P w K mg base N_law "law" (defScope st_law) (He.fAd K ("law", none)) cdv A outer s H E) (fun cls d _ H => E cls d H) →
    DB (Bx P w K mg base N_law "law" (defScope st_law) (He.fAd K ("law", none)) cdv A outer s H E) (fun cls d _ H => E cls d H) (defBody st_law) s_law := by
  obtain ⟨fd, F⟩ := Y.def_ 13 (d := dd_law) rfl
  obtain ⟨fd0, F0, O0⟩ := ok_drawn (P := P) (w := w) (base := base) Y
  have b0 : Binds K fd0 ["_law_script", "_law_k"] [] := F0.bindsN fun _ _ _ _ _ _ us hl => match us, hl with | [_, _], _ => rfl
  obtain ⟨fd1, F1, O1⟩ := ok_steadied (P := P) (w := w) (base := base) Y
  have b1 : Binds K fd1 ["_law_machine"] [] := F1.bindsN fun _ _ _ _ _ _ us hl => match us, hl with | [_], _ => rfl
  obtain ⟨fd2, F2, O2⟩ := ok_machine_by (P := P) (w := w) (base := base) Y
  have b2 : Binds K fd2 ["_law_cells", "_law_rooms", "_law_letters", "_law_most"] [] := F2.bindsN fun _ _ _ _ _ _ us hl => match us, hl with | [_, _, _, _], _ => rfl
  obtain ⟨fd3, F3, O3⟩ := ok_spoilt (P := P) (w := w) (base := base) Y
  have b3 : Binds K fd3 ["_law_rows", "_law_signs", "_law_cell"] [] := F3.bindsN fun _ _ _ _ _ _ us hl => match us, hl with | [_, _, _], _ => rfl
  obtain ⟨fd4, F4, O4⟩ := ok_due (P := P) (w := w) (base := base) Y
  have b4 : Binds K fd4 ["_law_rows", "_law_signs"] [] := F4.bindsN fun _ _ _ _ _ _ us hl => match us, hl with | [_, _], _ => rfl
  obtain ⟨fd5, F5, O5⟩ := ok_asked (P := P) (w := w) (base := base) Y
  have b5 : Binds K fd5 ["_law_rows", "_law_signs"] [] := F5.bindsN fun _ _ _ _ _ _ us hl => match us, hl with | [_, _], _ => rfl
  obtain ⟨fd6, F6, O6⟩ := ok_whole (P := P) (w := w) (base := base) Y
  have b6 : Binds K fd6 ["_law_found"] [] := F6.bindsN fun _ _ _ _ _ _ us hl => match us, hl with | [_], _ => rfl
  obtain ⟨fd7, F7, O7⟩ := ok_is_machine (P := P) (w := w) (base := base) Y
  have b7 : Binds K fd7 ["_law_found"] [] := F7.bindsN fun _ _ _ _ _ _ us hl => match us, hl with | [_], _ => rfl
  refine ⟨fd, F, fun cdv A outer s H E hr gd => ?_⟩
  exact show DB _ _ (defBody st_law) s_law from
    (db_cons (ds_set 1 gd (de_call gd (O0.mono (by decide)) hr (by rfl) (Y.glo 0) F0.kp b0 .nil (fun _ => .nil) (da_cons (de_var 0 (pv 0)) (da_cons (de_int) da_nil))))
    (db_cons (ds_set 2 gd (de_call gd (O1.mono (by decide)) hr (by rfl) (Y.glo 2) F1.kp b1 .nil (fun _ => .nil) (da_cons (de_call gd (O2.mono (by decide)) hr (by rfl) (Y.glo 1) F2.kp b2 .nil (fun _ => .nil) (da_cons (de_slice (de_var 0 (pv 0)) (dp_so (de_int)) (dp_so (de_int))) (da_cons (de_add (de_int) (de_mod (de_var 1 (pv 1)) (de_int))) (da_cons (de_add (de_int) (de_mod (de_div (de_var 1 (pv 1)) (de_int)) (de_int))) (da_cons (de_int) da_nil))))) da_nil)))
    (db_cons (ds_set 3 gd (de_item (de_var 2 (pv 2)) (de_int)))
    (db_cons (ds_set 4 gd (de_item (de_var 2 (pv 2)) (de_int)))
    (db_cons (ds_if (dt_eq gd (de_mod (de_div (de_var 1 (pv 1)) (de_int)) (de_int)) (de_int)) (dss_cons (ds_set 3 gd (de_of (lc_all gd (di_rng1 (by rfl) (Y.free 3) (da_cons (de_int) da_nil)) (blk_ok (own := [("_law_k", 5)]) (by kernel_rfl)) (by decide) (fun s H C cl fp gd2 => (dg_name 5 gd2.nd)) (fun s H C cl fp gd2 => (de_of (lc_all gd2 (di_rng1 (by rfl) (Y.free 3) (da_cons (de_len (Y.free 4) (da_cons (de_item (de_var 3 (pv 3)) (de_int)) da_nil)) da_nil)) (blk_ok (own := [("_law_j", 12)]) (by kernel_rfl)) (by decide) (fun s H C cl fp gd2 => (dg_name 12 gd2.nd)) (fun s H C cl fp gd2 => (de_mod (de_add (de_mul (de_int) (de_var 5 (pv 5))) (de_var 12 (pv 12))) (de_int))) (fun _ => rfl)))) (fun _ => rfl))))
    (dss_one ((slc_all 4 gd (di_rng1 (by rfl) (Y.free 3) (da_cons (de_int) da_nil)) (blk_ok (own := [("_law_k", 5)]) (by kernel_rfl)) (by decide) (fun s H C cl fp gd2 => (dg_name 5 gd2.nd)) (fun s H C cl fp gd2 => (de_int)) rfl rfl rfl (fun _ => rfl)).1))) dss_nil)
    (db_cons (ds_set 6 gd (de_mod (de_call gd (O0.mono (by decide)) hr (by rfl) (Y.glo 0) F0.kp b0 .nil (fun _ => .nil) (da_cons (de_var 0 (pv 0)) (da_cons (de_int) da_nil))) (de_int)))
    (db_cons (ds_for gd (di_rng1 (by rfl) (Y.free 3) (da_cons (de_min gd (Y.free 5) (da_cons (de_var 6 (pv 6)) (da_cons (de_int) da_nil))) da_nil)) (dg_name 5 gd.nd) (dss_cons (ds_set 7 gd (de_call gd (O3.mono (by decide)) hr (by rfl) (Y.glo 6) F3.kp b3 .nil (fun _ => .nil) (da_cons (de_var 3 (pv 3)) (da_cons (de_var 4 (pv 4)) (da_cons (de_add (de_div (de_call gd (O0.mono (by decide)) hr (by rfl) (Y.glo 0) F0.kp b0 .nil (fun _ => .nil) (da_cons (de_var 0 (pv 0)) (da_cons (de_int) da_nil))) (de_item (de_lst (da_cons (de_int) (da_cons (de_int) da_nil))) (de_var 5 (pv 5)))) (de_div (de_call gd (O0.mono (by decide)) hr (by rfl) (Y.glo 0) F0.kp b0 .nil (fun _ => .nil) (da_cons (de_var 0 (pv 0)) (da_cons (de_int) da_nil))) (de_int))) da_nil)))))
    (dss_cons (ds_set 3 gd (de_item (de_var 7 (pv 7)) (de_int)))
    (dss_one (ds_set 4 gd (de_item (de_var 7 (pv 7)) (de_int)))))))
    (db_cons (ds_set 8 gd (de_call gd (O4.mono (by decide)) hr (by rfl) (Y.glo 7) F4.kp b4 .nil (fun _ => .nil) (da_cons (de_var 3 (pv 3)) (da_cons (de_var 4 (pv 4)) da_nil))))
    (db_tail 3 4 10 11 9 gd (lc_new gd (di_seq (de_var 3 (pv 3))) (blk_ok (own := [("_law_row", 9)]) (by kernel_rfl)) (by decide) (fun s H C cl fp gd2 => (dg_name 9 gd2.nd)) (fun s H C cl fp gd2 => (dey_list (Y.free 8) (da_cons (de_var 9 (pv 9)) da_nil))) (fun _ => rfl)) (dey_list (Y.free 8) (da_cons (de_var 4 (pv 4)) da_nil)) (de_call gd (O5.mono (by decide)) hr (by rfl) (Y.glo 9) F5.kp b5 .nil (fun _ => .nil) (da_cons (de_item (de_var 10 (pv 10)) (de_int)) (da_cons (de_item (de_var 10 (pv 10)) (de_int)) da_nil)))
    (dt_ne gd (de_var 10 (pv 10)) (de_lst (da_cons (de_var 3 (pv 3)) (da_cons (de_var 4 (pv 4)) da_nil)))) (dss_one (ds_ret (de_bl))) (dt_notN (de_var 8 (pv 8)) (de_non)) (dss_one (ds_ret (de_and (de_eq gd (de_var 11 (pv 11)) (de_tup (da_cons (de_non) (da_cons (de_add (de_var 8 (pv 8)) (de_tup (da_cons (de_bl) da_nil))) da_nil)))) (de_one (de_call gd (O6.mono (by decide)) hr (by rfl) (Y.glo 10) F6.kp b6 .nil (fun _ => .nil) (da_cons (de_item (de_item (de_var 11 (pv 11)) (de_int)) (de_int)) da_nil)))))) (dss_cons (ds_if (DW.dt (dw_or (dt_notN (de_item (de_var 11 (pv 11)) (de_int)) (de_non)) (dw_or1 (dt_not (dt_val (de_call gd (O7.mono (by decide)) hr (by rfl) (Y.glo 11) F7.kp b7 .nil (fun _ => .nil) (da_cons (de_item (de_var 11 (pv 11)) (de_int)) da_nil))))))) (dss_one (ds_ret (de_bl))) dss_nil)
    (dss_one (ds_ret (de_eq gd (de_item (de_var 11 (pv 11)) (de_int)) (de_tup (da_cons (de_tuple (Y.free 12) (da_cons (de_of (lc_all gd (di_seq (de_var 3 (pv 3))) (blk_ok (own := [("_law_row", 9)]) (by kernel_rfl)) (by decide) (fun s H C cl fp gd2 => (dg_name 9 gd2.nd)) (fun s H C cl fp gd2 => (de_tuple (Y.free 12) (da_cons (de_var 9 (pv 9)) da_nil))) (fun _ => rfl))) da_nil)) (da_cons (de_tuple (Y.free 12) (da_cons (de_var 4 (pv 4)) da_nil)) da_nil)))))))
    rfl (by first | exact Or.inl rfl | exact Or.inr rfl) (by first | exact .inl rfl | exact .inr rfl)
    rfl (by first | exact Or.inl rfl | exact Or.inr rfl) (by first | exact .inl rfl | exact .inr rfl)
    rfl (by first | exact Or.inl rfl | exact Or.inr rfl) (by first | exact .inl rfl | exact .inr rfl) (by decide) (fun _ => pv 10) (fun _ => pv 9) rfl rfl rfl rfl (fun _ => rfl) rfl rfl rfl rfl rfl rfl rfl rfl rfl rfl rfl rfl)))))))))
end K20
end

section
set_option Elab.async false
set_option linter.all false
set_option autoImplicit false
set_option maxRecDepth 100000
set_option maxHeartbeats 4000000
namespace K20
open PySem PySem.Spec PyProof.Rows L2 Fw
/-! ### numbers -/
theorem mulX {i j : Int} (h1 : i.natAbs < 2 ^ 1000) (h2 : j.natAbs < 2 ^ 1000) : CMulX i j := by
  have l : ∀ n : Nat, n < 2 ^ 1000 → n.log2 ≤ 1000 := fun n h => by
    by_cases h0 : n = 0
    · subst h0; simp
    · exact Nat.le_of_lt ((Nat.log2_lt h0).mpr h)
  have := l _ h1
  have := l _ h2
  show i.natAbs.log2 + j.natAbs.log2 < 100000000
  omega
theorem mulS {i j : Int} (h1 : i.natAbs < 1000000000000000000000000000000000000000) (h2 : j.natAbs < 1000000000000000000000000000000000000000) : CMulX i j :=
  mulX (Nat.lt_trans h1 (by decide +kernel)) (Nat.lt_trans h2 (by decide +kernel))
theorem divS {i j : Int} (h : 0 < j) (h2 : j < 2000000000) : CDivW i j := by
  refine wide_div (b := 40) h ?_ (by decide) (by decide)
  have : (2 : Nat) ^ 40 = 1099511627776 := by decide
  omega
/-! ### the functions of numbers -/
def mixed (a k : Int) : Int := (a % 1000000000000000 + 7919 * k * k + k) * 48271 % 2147483647
theorem mixed_range (a k : Int) : 0 ≤ mixed a k ∧ mixed a k < 2147483647 := ⟨Int.emod_nonneg _ (by decide), Int.emod_lt_of_pos _ (by decide)⟩
theorem pow15 : CPow 10 15 := by decide +kernel
theorem g_mixed_eq (a k : Int) (h0 : 0 ≤ k) (h1 : k < 1000) : g_mixed [.int a, .int k] = .ok (.int (mixed a k)) := by
  have hk : 0 ≤ 7919 * k ∧ 7919 * k < 7919000 := by omega
  have hkk : 0 ≤ 7919 * k * k ∧ 7919 * k * k < 7919000000 := by
    refine ⟨Int.mul_nonneg hk.1 h0, ?_⟩
    have : 7919 * k * k ≤ 7919000 * k := Int.mul_le_mul_of_nonneg_right (by omega) h0
    omega
  have e15 : (10 : Int) ^ (15 : Int).toNat = 1000000000000000 := by decide
  have c1 : CMulX 7919 k := mulS (by omega) (by omega)
  have c2 : CMulX (7919 * k) k := mulS (by omega) (by omega)
  have c3 : CMulX (a % 1000000000000000 + 7919 * k * k + k) 48271 := mulS (by omega) (by omega)
  simp [g_mixed, s_mixed, fit, eV, eC, Fw.e2, Fw.e1, Fw.eL, aC, aN, R.bind, R.then, liftO, sRet, sSeq, sIf, sSet, sDrop, tV, tO, tA, tN, vA, vO, vN, eTup, eLst, lim, sNx, startP, dMod, dMul, dAdd, dPow, pow15, c1, c2, e15, c3, mixed]
def cell (ns : List Int) (k : Nat) : Int := ns.getD k 0
theorem atD_ints (ns : List Int) (k : Nat) (h : k < ns.length) : atD (ns.map D.int) (k : Int) = some (.int (ns.getD k 0)) := by
  unfold atD atI ixN
  rw [if_pos (Int.natCast_nonneg k), List.length_map, if_pos (by omega)]
  simp [h]
theorem g_cell_eq (ns : List Int) (k : Nat) : g_cell_at [.lst (ns.map .int), .int k] = .ok (.int (cell ns k)) := by
  by_cases h : k < ns.length
  · have h2 : iLt (k : Int) ((ns.length : Nat) : Int) = true := by simp [iLt]; exact h
    simp [g_cell_at, s_cell_at, fit, eV, eC, Fw.e2, Fw.e1, Fw.eL, aC, aN, R.bind, R.then, liftO, sRet, sSeq, sIf, sSet, sDrop, tV, tO, tA, tN, vA, vO, vN, eTup, eLst, lim, sNx, startP, dLen, dCmp, h2, dIx, atD_ints ns k h, cell]
  · have h2 : iLt (k : Int) ((ns.length : Nat) : Int) = false := by simp [iLt]; omega
    have e : cell ns k = 0 := by simp [cell, List.getElem?_eq_none (by omega : ns.length ≤ k)]
    rw [e]
    simp [g_cell_at, s_cell_at, fit, eV, eC, Fw.e2, Fw.e1, Fw.eL, aC, aN, R.bind, R.then, liftO, sRet, sSeq, sIf, sSet, sDrop, tV, tO, tA, tN, vA, vO, vN, eTup, eLst, lim, sNx, startP, dLen, dCmp, h2]
def drawn (ns : List Int) (k : Nat) : Int := mixed (cell ns k) (k + 1) * 16807 % 2147483647
theorem drawn_range (ns : List Int) (k : Nat) : 0 ≤ drawn ns k ∧ drawn ns k < 2147483647 := ⟨Int.emod_nonneg _ (by decide), Int.emod_lt_of_pos _ (by decide)⟩
theorem g_drawn_eq (ns : List Int) (k : Nat) (h : k < 900) : g_drawn [.lst (ns.map .int), .int k] = .ok (.int (drawn ns k)) := by
  have e1 := g_cell_eq ns k
  have e2' := g_mixed_eq (cell ns k) (k + 1) (by omega) (by omega)
  obtain ⟨r1, r2⟩ := mixed_range (cell ns k) (k + 1)
  have c1 : CMulX (mixed (cell ns k) (k + 1)) 16807 := mulS (by omega) (by omega)
  simp [g_drawn, s_drawn, fit, eV, eC, Fw.e2, Fw.e1, Fw.eL, aC, aN, R.bind, R.then, liftO, sRet, sSeq, sIf, sSet, sDrop, tV, tO, tA, tN, vA, vO, vN, eTup, eLst, lim, sNx, startP, eCall, lenG, e1, e2', dMod, dMul, dAdd, c1, drawn]
end K20
end

section
set_option Elab.async false
set_option linter.all false
set_option autoImplicit false
set_option maxRecDepth 100000
set_option maxHeartbeats 4000000
namespace K20
open PySem PySem.Spec PyProof.Rows L2 Fw
/-! ### equality -/
def shN : Nat → D → Bool
  | 0, d => scal d && (toP d).canLay0
  | n + 1, .lst l => l.all (shN n)
  | n + 1, .tup l => l.all (shN n)
  | _ + 1, d => scal d && (toP d).canLay0
theorem sc_ok {d : D} (h : (scal d && (toP d).canLay0) = true) : (toP d).canLay0 = true ∧ (toP d).depth = 0 := by
  rw [Bool.and_eq_true] at h
  refine ⟨h.2, ?_⟩
  cases d with
  | non => rfl
  | bl _ => rfl
  | int _ => rfl
  | str _ => rfl
  | _ => cases h.1
theorem shN_all {n : Nat} (ih : ∀ d, shN n d = true → (toP d).canLay0 = true ∧ (toP d).depth ≤ n) : ∀ l : List D, l.all (shN n) = true → PyData.canLayAll0 (toPs l) = true ∧ PyData.depthAll (toPs l) ≤ n
  | [], _ => ⟨rfl, Nat.zero_le _⟩
  | d :: l, h => by
    rw [List.all_cons, Bool.and_eq_true] at h
    have h1 := ih d h.1
    have h2 := shN_all ih l h.2
    refine ⟨?_, ?_⟩
    · show PyData.canLayAll0 (toP d :: toPs l) = true
      simp [PyData.canLayAll0, h1.1, h2.1]
    · show PyData.depthAll (toP d :: toPs l) ≤ n
      simp only [PyData.depthAll]
      omega
theorem shN_ok : ∀ (n : Nat) (d : D), shN n d = true → (toP d).canLay0 = true ∧ (toP d).depth ≤ n
  | 0, d, h => by
    have := sc_ok (d := d) (by simpa [shN] using h)
    exact ⟨this.1, by omega⟩
  | n + 1, d, h => by
    cases d with
    | lst l =>
      have z := shN_all (shN_ok n) l (by simpa [shN] using h)
      refine ⟨?_, ?_⟩
      · show (PyData.list (toPs l)).canLay0 = true
        simpa [PyData.canLay0] using z.1
      · show (PyData.list (toPs l)).depth ≤ n + 1
        simp only [PyData.depth]
        omega
    | tup l =>
      have z := shN_all (shN_ok n) l (by simpa [shN] using h)
      refine ⟨?_, ?_⟩
      · show (PyData.tuple (toPs l)).canLay0 = true
        simpa [PyData.canLay0] using z.1
      · show (PyData.tuple (toPs l)).depth ≤ n + 1
        simp only [PyData.depth]
        omega
    | _ =>
      have := sc_ok (by simpa [shN] using h)
      exact ⟨this.1, by omega⟩
theorem shaped_ok {d : D} (h : shN 9 d = true) : SeqAt.shaped (toP d) = true := by
  obtain ⟨h1, h2⟩ := shN_ok 9 d h
  unfold SeqAt.shaped
  rw [h1, Bool.true_and]
  exact decide_eq_true (by omega)
theorem dEq_self {d : D} (h : shN 9 d = true) : dEq d d = some (.bl true) := by
  unfold dEq
  rw [shaped_ok h, Bool.and_self, if_pos rfl, SeqAt.eqv_refl _ (shN_ok 9 d h).1]
theorem dNe_self {d : D} (h : shN 9 d = true) : dNe d d = some (.bl false) := by
  unfold dNe
  rw [shaped_ok h, Bool.and_self, if_pos rfl, SeqAt.eqv_refl _ (shN_ok 9 d h).1]
  rfl
theorem dEq_int (i j : Int) : dEq (.int i) (.int j) = some (.bl (i == j)) := rfl
theorem dNe_int (i j : Int) : dNe (.int i) (.int j) = some (.bl (!(i == j))) := rfl
/-! ### comprehensions -/
theorem lcF_pure {x : Nat} {t : FE Bool} {f : FE D} {ds : List D} (mk : SV → PEnv) (F : D → D) (p : D → Bool)
    (hw : ∀ s, (mk s).set x .un = mk .un) (hs : ∀ d, (mk .un).set x (.sh d) = mk (.sh d))
    (ht : ∀ d ∈ ds, t (mk (.sh d)) = .ok (p d) (mk (.sh d))) (hf : ∀ d ∈ ds, p d = true → f (mk (.sh d)) = .ok (F d) (mk (.sh d))) :
    ∀ s, ∃ s', lcF (tgN x) t f [x] ds (mk s) = .ok ((ds.filter p).map F) (mk s') := by
  induction ds with
  | nil => exact fun s => ⟨s, rfl⟩
  | cons d ds ih =>
    intro s
    obtain ⟨s', hs'⟩ := ih (fun d hd => ht d (List.mem_cons_of_mem _ hd)) (fun d hd => hf d (List.mem_cons_of_mem _ hd)) (.sh d)
    refine ⟨s', ?_⟩
    have e1 : tgN x d (wipeP (mk s) [x]) = some (mk (.sh d)) := by
      show some (((mk s).set x .un).set x (.sh d)) = _
      rw [hw, hs]
    unfold lcF
    rw [e1]
    dsimp only
    rw [ht d List.mem_cons_self]
    cases hp : p d with
    | true =>
      dsimp only
      rw [hf d List.mem_cons_self hp]
      dsimp only
      rw [hs', List.filter_cons_of_pos hp]
      rfl
    | false =>
      dsimp only
      rw [hs', List.filter_cons_of_neg (by rw [hp]; decide)]
theorem eLc_pure {x : Nat} {t : FE Bool} {f : FE D} {wi : FE (List D)} {ds : List D} (mk : SV → PEnv) (F : D → D) (p : D → Bool) (s : SV)
    (hi : wi (mk s) = .ok ds (mk s)) (hl : ds.length ≤ LIM) (ho : noOw (mk s) [x] = true) (hb : ∀ s', backP (mk s) (mk s') [x] = mk s)
    (hw : ∀ s, (mk s).set x .un = mk .un) (hs : ∀ d, (mk .un).set x (.sh d) = mk (.sh d))
    (ht : ∀ d ∈ ds, t (mk (.sh d)) = .ok (p d) (mk (.sh d))) (hf : ∀ d ∈ ds, p d = true → f (mk (.sh d)) = .ok (F d) (mk (.sh d))) :
    eLc wi (tgN x) t f [x] (mk s) = .ok ((ds.filter p).map F) (mk s) := by
  obtain ⟨s', e⟩ := lcF_pure mk F p hw hs ht hf s
  unfold eLc
  rw [hi]
  dsimp only [R.bind]
  rw [if_pos ⟨hl, ho⟩, e]
  dsimp only
  rw [hb]
theorem filter_yes {α : Type} (l : List α) : l.filter (fun _ => true) = l := by
  induction l with
  | nil => rfl
  | cons a l ih => rw [List.filter_cons_of_pos rfl, ih]
/-- without a test -/
theorem eLc_map {x : Nat} {f : FE D} {wi : FE (List D)} {ds : List D} (mk : SV → PEnv) (F : D → D) (s : SV)
    (hi : wi (mk s) = .ok ds (mk s)) (hl : ds.length ≤ LIM) (ho : noOw (mk s) [x] = true) (hb : ∀ s', backP (mk s) (mk s') [x] = mk s)
    (hw : ∀ s, (mk s).set x .un = mk .un) (hs : ∀ d, (mk .un).set x (.sh d) = mk (.sh d)) (hf : ∀ d ∈ ds, f (mk (.sh d)) = .ok (F d) (mk (.sh d))) :
    eLc wi (tgN x) tYs f [x] (mk s) = .ok (ds.map F) (mk s) := by
  rw [eLc_pure (t := tYs) mk F (fun _ => true) s hi hl ho hb hw hs (fun _ _ => rfl) (fun d hd _ => hf d hd), filter_yes]
/-! ### loops -/
def out : RS → Option Fw.Rd
  | .nx _ => none
  | .rt d _ => some (.ok d)
  | .er e _ => some (.er e)
  | .no => some .no
theorem for_first {α : Type} {g : D → PEnv → Option PEnv} {b : FS} {ds : List D} (mk : α → PEnv) (P : D → Option Fw.Rd)
    (h : ∀ d ∈ ds, ∀ a, ∃ ρ1, g d (mk a) = some ρ1 ∧ ((∃ o, P d = some o ∧ out (b ρ1) = some o) ∨ (P d = none ∧ ∃ a', b ρ1 = .nx (mk a')))) :
    ∀ a, (∃ o, ds.findSome? P = some o ∧ out (forF g b ds (mk a)) = some o) ∨ (ds.findSome? P = none ∧ ∃ a', forF g b ds (mk a) = .nx (mk a')) := by
  induction ds with
  | nil => exact fun a => .inr ⟨rfl, a, rfl⟩
  | cons d ds ih =>
    intro a
    obtain ⟨ρ1, h1, h2⟩ := h d List.mem_cons_self a
    unfold forF
    rw [h1]
    dsimp only
    rcases h2 with ⟨o, h3, h4⟩ | ⟨h3, a', h4⟩
    · refine .inl ⟨o, by rw [List.findSome?_cons, h3], ?_⟩
      cases hb : b ρ1 with
      | nx ρ => rw [hb] at h4; cases h4
      | _ => rw [hb] at h4; exact h4
    · rw [h4, List.findSome?_cons, h3]
      exact ih (fun d hd => h d (List.mem_cons_of_mem _ hd)) a'
theorem for_inv {α : Type} {g : D → PEnv → Option PEnv} {b : FS} (mk : α → PEnv) (I : Nat → α → Prop) : ∀ (ds : List D) (k0 : Nat)
    (h : ∀ (k : Nat) (d : D), ds[k]? = some d → ∀ a, I (k0 + k) a → ∃ ρ1 a', g d (mk a) = some ρ1 ∧ b ρ1 = .nx (mk a') ∧ I (k0 + k + 1) a') (a : α) (h0 : I k0 a),
    ∃ a', forF g b ds (mk a) = .nx (mk a') ∧ I (k0 + ds.length) a'
  | [], k0, _, a, h0 => ⟨a, rfl, h0⟩
  | d :: ds, k0, h, a, h0 => by
    obtain ⟨ρ1, a', h1, h2, h3⟩ := h 0 d rfl a h0
    obtain ⟨a2, h4, h5⟩ := for_inv mk I ds (k0 + 1) (fun k d hd a ha => by
      obtain ⟨ρ1, a', g1, g2, g3⟩ := h (k + 1) d hd a (by rw [show k0 + (k + 1) = k0 + 1 + k by omega]; exact ha)
      exact ⟨ρ1, a', g1, g2, by rw [show k0 + 1 + k + 1 = k0 + (k + 1) + 1 by omega]; exact g3⟩) a' h3
    refine ⟨a2, ?_, by rw [List.length_cons, show k0 + (ds.length + 1) = k0 + 1 + ds.length by omega]; exact h5⟩
    unfold forF
    rw [h1]
    dsimp only
    rw [h2]
    exact h4
theorem findSome_map {α β γ : Type} (v : α → Option β) (k : β → γ) (l : List α) : l.findSome? (fun d => (v d).map k) = (l.findSome? v).map k := by
  induction l with
  | nil => rfl
  | cons a l ih =>
    rw [List.findSome?_cons, List.findSome?_cons]
    cases v a with
    | none => exact ih
    | some b => rfl
end K20
end

section
set_option Elab.async false
set_option linter.all false
set_option autoImplicit false
set_option maxRecDepth 100000
set_option maxHeartbeats 4000000
namespace K20
open PySem PySem.Spec PyProof.Rows L2 Fw
/-! ### runs by their ends -/
def Ev {α : Type} (mk : α → PEnv) (o : Option Fw.Rd) (r : RS) : Prop := (∃ x, o = some x ∧ out r = some x) ∨ (o = none ∧ ∃ a, r = .nx (mk a))
def errO : Fw.Rd → Option Fw.Rd
  | .ok _ => none
  | r => some r
section
variable {α β : Type} {mk : α → PEnv} {mk2 : β → PEnv} {o o1 o2 : Option Fw.Rd} {f g : FS} {ρ ρ' : PEnv}
theorem ev_mono {r : RS} (h : ∀ b, ∃ a, mk2 b = mk a) (e : Ev mk2 o r) : Ev mk o r := by
  rcases e with e | ⟨e, b, hb⟩
  · exact .inl e
  · obtain ⟨a, ha⟩ := h b
    exact .inr ⟨e, a, by rw [hb, ha]⟩
theorem ev_seq (h1 : Ev mk2 o1 (f ρ)) (h2 : o1 = none → ∀ b, Ev mk o2 (g (mk2 b))) : Ev mk (o1.or o2) (sSeq f g ρ) := by
  rcases h1 with ⟨x, e1, e2⟩ | ⟨e1, b, hb⟩
  · refine .inl ⟨x, by rw [e1]; rfl, ?_⟩
    unfold sSeq
    cases hf : f ρ with
    | nx ρ => rw [hf] at e2; cases e2
    | _ => rw [hf] at e2; exact e2
  · rw [e1]
    show Ev mk o2 _
    unfold sSeq
    rw [hb]
    exact h2 e1 b
theorem ev_if {t : FE Bool} {b : Bool} (ht : t ρ = .ok b ρ) (h1 : b = true → Ev mk o (f ρ)) (h2 : b = false → Ev mk o (g ρ)) : Ev mk o (sIf t f g ρ) := by
  unfold sIf
  rw [ht]
  cases b with
  | true => exact h1 rfl
  | false => exact h2 rfl
theorem ev_for {gt : D → PEnv → Option PEnv} {wi : FE (List D)} {ds : List D} {P : D → Option Fw.Rd} {a : α} (hi : wi ρ = .ok ds (mk a))
    (h : ∀ d ∈ ds, ∀ a, ∃ ρ1, gt d (mk a) = some ρ1 ∧ Ev mk (P d) (f ρ1)) : Ev mk (ds.findSome? P) (sFor gt f wi ρ) := by
  unfold sFor
  rw [hi]
  rcases for_first (g := gt) (b := f) mk P h a with ⟨x, e1, e2⟩ | ⟨e1, a', e2⟩
  · exact .inl ⟨x, e1, e2⟩
  · exact .inr ⟨e1, a', e2⟩
theorem ev_raise {c : Str} {ns : List Str} {fa : FE (List D)} {x : Fw.Rd} (as : List D) (h : fa ρ = .ok as ρ) (hl : as.length = ns.length) (hx : Fw.Rd.er (.mk c (ns.zip as).reverse) = x) : Ev mk (some x) (sRaise c ns fa ρ) := by
  subst hx
  refine .inl ⟨_, rfl, ?_⟩
  unfold sRaise
  rw [h]
  dsimp only [R.then]
  rw [if_pos hl]
  rfl
theorem ev_ret {fe : FE D} {d : D} (h : fe ρ = .ok d ρ') : Ev mk (some (.ok d)) (sRet fe ρ) := by
  refine .inl ⟨_, rfl, ?_⟩
  unfold sRet
  rw [h]
  rfl
theorem ev_nx {a : α} (h : ρ = mk a) : Ev mk none (sNx ρ) := .inr ⟨rfl, a, by rw [← h]; rfl⟩
theorem ev_call {g : List D → Fw.Rd} {fa : FE (List D)} {as : List D} {x : Fw.Rd} {a : α} (h : fa ρ = .ok as (mk a)) (hg : g as = x) (hx : x ≠ .no) : Ev mk (errO x) (sDrop (eCall g [] fa) ρ) := by
  unfold sDrop eCall
  rw [h]
  dsimp only [R.bind]
  rw [List.append_nil, hg]
  clear hg
  cases x with
  | ok d => exact .inr ⟨rfl, a, rfl⟩
  | er e => exact .inl ⟨_, rfl, rfl⟩
  | no => exact absurd rfl hx
theorem ev_fit {r : RS} {x : Fw.Rd} (e : Ev mk (some x) r) : fit r = x := by
  rcases e with ⟨y, e1, e2⟩ | ⟨e1, _⟩
  · cases e1
    cases r with
    | nx _ => cases e2
    | rt d _ => cases e2; rfl
    | er e _ => cases e2; rfl
    | no => cases e2; rfl
  · cases e1
theorem ev_fitO {r : RS} {x : Option Fw.Rd} (e : Ev mk x r) : fit r = x.getD (.ok .non) := by
  cases x with
  | some x => exact ev_fit e
  | none =>
    rcases e with ⟨y, e1, e2⟩ | ⟨_, a, ha⟩
    · cases e1
    · rw [ha]; rfl
end
section
variable {ρ ρ' : PEnv} {a b : Bool} {f g : FE Bool}
theorem tO_eq (h1 : f ρ = .ok a ρ') (h2 : g ρ' = .ok b ρ') : tO f g ρ = .ok (a || b) ρ' := by
  unfold tO
  rw [h1]
  cases a with
  | true => rfl
  | false => exact h2
theorem tA_eq (h1 : f ρ = .ok a ρ') (h2 : g ρ' = .ok b ρ') : tA f g ρ = .ok (a && b) ρ' := by
  unfold tA
  rw [h1]
  cases a with
  | true => exact h2
  | false => rfl
theorem tN_eq (h1 : f ρ = .ok a ρ') : tN f ρ = .ok (!a) ρ' := by
  unfold tN
  rw [h1]
theorem tV_eq {f : FE D} (h1 : f ρ = .ok (.bl a) ρ') : tV f ρ = .ok a ρ' := by
  unfold tV
  rw [h1]
end
theorem e2_eq {op : D → D → Option D} {f g : FE D} {ρ ρ1 ρ2 : PEnv} {a b c : D} (h1 : f ρ = .ok a ρ1) (h2 : g ρ1 = .ok b ρ2) (h : op a b = some c) : Fw.e2 op f g ρ = .ok c ρ2 := by
  unfold Fw.e2
  rw [h1]
  dsimp only [R.bind]
  rw [h2]
  dsimp only
  rw [h]
  rfl
/-! ### the machine's data -/
abbrev rD (r : List Int) : D := .lst (r.map .int)
abbrev DR (rs : List (List Int)) : D := .lst (rs.map rD)
abbrev DSg (ss : List Int) : D := .lst (ss.map .int)
theorem num_mem {α : Type} {F : α → D} {l : List α} {d : D} (h : d ∈ numD (l.map F)) : ∃ (k : Nat) (x : α), l[k]? = some x ∧ d = .tup [.int k, F x] := by
  obtain ⟨k, hk⟩ := List.getElem?_of_mem h
  obtain ⟨d', h1, h2⟩ := numD_get hk
  rw [List.getElem?_map] at h1
  obtain ⟨x, h3, h4⟩ := Option.map_eq_some_iff.mp h1
  exact ⟨k, x, h3, by rw [h2, h4]⟩
/-- is the entry no room of n -/
def badE (n : Nat) : D → Bool
  | .int v => iLt v 0 || iGe v n
  | _ => false
def vRow (n L0 : Nat) : D → Option (Str × D)
  | .tup [k, .lst r] => if (iLt r.length 2 || (iGt r.length 5 || !((r.length : Int) == L0))) = true then some ("letters", k) else if r.any (badE n) = true then some ("next", k) else none
  | _ => none
theorem vRow_eq (n L0 : Nat) (k : D) (r : List D) : vRow n L0 (.tup [k, .lst r]) = if (iLt r.length 2 || (iGt r.length 5 || !((r.length : Int) == L0))) = true then some (("letters" : Str), k) else if r.any (badE n) = true then some (("next" : Str), k) else none := rfl
def vSign : D → Option (Str × D)
  | .tup [k, .int v] => if (iLt v 0 || iGt v 9) = true then some ("sign", k) else none
  | _ => none
def vSteady (ss : List Int) : D → Option (Str × D)
  | .tup [.int k, .lst (.int r :: _)] => if (!(ss.getD r.toNat 0 == ss.getD k.toNat 0)) = true then some ("steady", .int k) else none
  | _ => none
abbrev erM (p : Str × D) : Fw.Rd := .er (.mk "NoMachine" [("number", p.2), ("word", .str p.1)])
theorem find_any {P : D → Option Fw.Rd} {c : D → Bool} {x : Fw.Rd} (l : List D) (h : ∀ d ∈ l, P d = if c d = true then some x else none) : l.findSome? P = if l.any c = true then some x else none := by
  induction l with
  | nil => rfl
  | cons d l ih =>
    rw [List.findSome?_cons, h d List.mem_cons_self, List.any_cons]
    by_cases hc : c d = true
    · rw [if_pos hc, hc, Bool.true_or, if_pos rfl]
    · rw [if_neg hc, ih fun d hd => h d (List.mem_cons_of_mem _ hd)]
      have : c d = false := by simpa using hc
      rw [this, Bool.false_or]
theorem atD_zero (d : D) (l : List D) : atD (d :: l) 0 = some d := atI_zero d l
theorem ev_look (rs : List (List Int)) (r0 : List Int) (rest : List (List Int)) (hr : rs = r0 :: rest) : g_look_at_rows [DR rs] = ((numD (rs.map rD)).findSome? fun d => (vRow rs.length r0.length d).map erM).getD (.ok .non) := by
  refine ev_fitO (mk := fun a : SV × SV × SV => [.sh (DR rs), a.1, a.2.1, a.2.2]) (ev_for (a := (.un, .un, .un)) rfl fun d hd a => ?_)
  obtain ⟨k, r, hk, rfl⟩ := num_mem hd
  refine ⟨_, rfl, ?_⟩
  have hz : dIx (DR rs) (.int 0) = some (rD r0) := by rw [hr]; exact atD_zero _ _
  have ec : (vRow rs.length r0.length (.tup [.int k, rD r])).map erM = (if (iLt r.length 2 || (iGt r.length 5 || !((r.length : Int) == r0.length))) = true then some (erM ("letters", .int k)) else none).or (if (r.map D.int).any (badE rs.length) = true then some (erM ("next", .int k)) else none) := by
    rw [vRow_eq, List.length_map]
    split <;> rename_i h
    · rfl
    · split <;> rename_i h2
      · rfl
      · rfl
  rw [ec]
  refine ev_seq (mk2 := fun s : SV => [.sh (DR rs), .sh (.int k), .sh (rD r), s]) ?_ fun hn s => ?_
  · refine ev_if (b := iLt r.length 2 || (iGt r.length 5 || !((r.length : Int) == r0.length))) ?_ (fun hb => ?_) fun hb => ?_
    · have eL1 : ∀ ρ : PEnv, eL dLen (aC (eV 2) aN) (.sh (DR rs) :: .sh (.int k) :: .sh (rD r) :: ρ) = .ok (.int r.length) (.sh (DR rs) :: .sh (.int k) :: .sh (rD r) :: ρ) := fun ρ => by
        show R.ok (D.int ((r.map D.int).length : Nat)) _ = _
        rw [List.length_map]
      refine tO_eq (tV_eq (e2_eq (eL1 _) rfl rfl)) (tO_eq (tV_eq (e2_eq (eL1 _) rfl rfl)) (tV_eq (e2_eq (eL1 _) (b := .int r0.length) ?_ (dNe_int _ _))))
      unfold Fw.eL aC
      rw [e2_eq (f := eV 0) (g := eC (.int 0)) rfl rfl hz]
      show R.ok (D.int ((r0.map D.int).length : Nat)) _ = _
      rw [List.length_map]
      rfl
    · rw [if_pos hb]
      exact ev_raise [.str "letters", .int k] rfl rfl rfl
    · rw [if_neg (by rw [hb]; decide)]
      exact ev_nx (a := a.2.2) rfl
  · have ef : (r.map D.int).findSome? (fun d => if badE rs.length d = true then some (erM ("next", .int k)) else none) = if (r.map D.int).any (badE rs.length) = true then some (erM ("next", .int k)) else none := find_any _ fun _ _ => rfl
    rw [← ef]
    refine ev_mono (mk2 := fun s : SV => [.sh (DR rs), .sh (.int k), .sh (rD r), s]) (fun s => ⟨(.sh (.int k), .sh (rD r), s), rfl⟩) (ev_for (a := s) rfl fun d hd s => ?_)
    obtain ⟨v, _, rfl⟩ := List.mem_map.mp hd
    refine ⟨_, rfl, ?_⟩
    refine ev_if (b := badE rs.length (.int v)) ?_ (fun hb => ?_) fun hb => ?_
    · refine tO_eq (tV_eq (e2_eq rfl rfl rfl)) (tV_eq (e2_eq rfl (b := .int rs.length) ?_ rfl))
      show R.ok (D.int ((rs.map rD).length : Nat)) _ = _
      rw [List.length_map]
    · rw [if_pos hb]
      exact ev_raise [.str "next", .int k] rfl rfl rfl
    · rw [if_neg (by rw [hb]; decide)]
      exact ev_nx (a := .sh (.int v)) rfl
end K20
end

section
set_option Elab.async false
set_option linter.all false
set_option autoImplicit false
set_option maxRecDepth 100000
set_option maxHeartbeats 4000000
namespace K20
open PySem PySem.Spec PyProof.Rows L2 Fw
/-- what stands against the rows and signs, if anything does -/
def verdict (rs : List (List Int)) (ss : List Int) : Option (Str × D) :=
  (if (iLt rs.length 1 || iGt rs.length 100) = true then some (("rooms" : Str), D.int rs.length) else none).or
  ((if (!((ss.length : Int) == rs.length)) = true then some (("signs" : Str), D.int ss.length) else none).or
  (((numD (rs.map rD)).findSome? (vRow rs.length (rs.headD []).length)).or
  (((numD (ss.map D.int)).findSome? vSign).or ((numD (rs.map rD)).findSome? (vSteady ss)))))
abbrev okM (rs : List (List Int)) (ss : List Int) : D := .tup [.tup (rs.map fun r => .tup (r.map .int)), .tup (ss.map .int)]
theorem or_map {α β : Type} (f : α → β) (a b : Option α) : (a.or b).map f = (a.map f).or (b.map f) := by cases a <;> rfl
theorem ite_map {α β : Type} (f : α → β) (c : Prop) [Decidable c] (a : α) : (if c then some a else none).map f = if c then some (f a) else none := by split <;> rfl
section
variable {α β : Type} {mk : α → PEnv} {mk2 : β → PEnv} {o : Option Fw.Rd} {f g : FS} {ρ : PEnv}
/-- a test that ends the run, or goes on -/
theorem ev_stop {t : FE Bool} {b : Bool} {x : Fw.Rd} {a : α} (ht : t ρ = .ok b ρ) (h1 : b = true → Ev mk (some x) (f ρ)) (h2 : ρ = mk a) : Ev mk (if b = true then some x else none) (sIf t f sNx ρ) := by
  refine ev_if ht (fun hb => ?_) fun hb => ?_
  · rw [if_pos hb]; exact h1 hb
  · rw [if_neg (by rw [hb]; decide)]; exact ev_nx h2
end
theorem aC_eq {f : FE D} {g : FE (List D)} {ρ ρ1 ρ2 : PEnv} {a : D} {as : List D} (h1 : f ρ = .ok a ρ1) (h2 : g ρ1 = .ok as ρ2) : aC f g ρ = .ok (a :: as) ρ2 := by
  unfold aC
  rw [h1]
  dsimp only [R.bind]
  rw [h2]
theorem eL_eq {op : List D → Option D} {f : FE (List D)} {ρ ρ1 : PEnv} {as : List D} {c : D} (h1 : f ρ = .ok as ρ1) (h : op as = some c) : Fw.eL op f ρ = .ok c ρ1 := by
  unfold Fw.eL
  rw [h1]
  dsimp only [R.bind]
  rw [h]
  rfl
theorem eTup_eq {f : FE (List D)} {ρ ρ1 : PEnv} {as : List D} (h1 : f ρ = .ok as ρ1) (h : as.length ≤ LIM) : eTup f ρ = .ok (.tup as) ρ1 := by
  unfold eTup lim
  rw [h1]
  dsimp only [R.bind]
  rw [if_pos h]
  rfl
def sv : Option D → SV
  | none => .un
  | some d => .sh d
theorem lenD (l : List D) (ρ : PEnv) (f : FE D) (h : f ρ = .ok (.lst l) ρ) : eL dLen (aC f aN) ρ = .ok (.int l.length) ρ := by
  unfold Fw.eL aC
  rw [h]
  rfl
theorem vRow_none {n L0 : Nat} {k : D} {r : List Int} (h : vRow n L0 (.tup [k, rD r]) = none) : 2 ≤ r.length ∧ ∀ v ∈ r, 0 ≤ v ∧ v < n := by
  rw [vRow_eq, List.length_map] at h
  split at h
  · cases h
  · rename_i h1
    split at h
    · cases h
    · rename_i h2
      simp only [Bool.or_eq_true, not_or, iLt, iGt, decide_eq_true_eq] at h1
      refine ⟨by omega, fun v hv => ?_⟩
      have : ¬ badE n (.int v) = true := fun z => h2 (List.any_eq_true.mpr ⟨.int v, List.mem_map.mpr ⟨v, hv, rfl⟩, z⟩)
      simp only [badE, Bool.or_eq_true, not_or, iLt, iGe, decide_eq_true_eq] at this
      omega
theorem atD_nat {l : List Int} {v : Int} (h0 : 0 ≤ v) (h1 : v < l.length) : atD (l.map D.int) v = some (.int (l.getD v.toNat 0)) := by
  have := atD_ints l v.toNat (by omega)
  rwa [Int.toNat_of_nonneg h0] at this
theorem none_mem {α β : Type} {P : α → Option β} {l : List α} (h : l.findSome? P = none) : ∀ d ∈ l, P d = none := by
  intro d hd
  exact List.findSome?_eq_none_iff.mp h d hd
/-- one turn of the steady loop -/
theorem steady_test {rs : List (List Int)} {ss : List Int} (hlen : ss.length = rs.length) {k : Nat} {r : List Int} (hk : rs[k]? = some r) (hr : 2 ≤ r.length ∧ ∀ v ∈ r, 0 ≤ v ∧ v < rs.length) {f1 f2 f3 f4 : FE D} {ρ : PEnv}
    (e1 : f1 ρ = .ok (DSg ss) ρ) (e2' : f2 ρ = .ok (rD r) ρ) (e3 : f3 ρ = .ok (DSg ss) ρ) (e4 : f4 ρ = .ok (.int k) ρ) :
    ∃ b, tV (Fw.e2 dNe (Fw.e2 dIx f1 (Fw.e2 dIx f2 (eC (.int 0)))) (Fw.e2 dIx f3 f4)) ρ = .ok b ρ ∧ vSteady ss (.tup [.int k, rD r]) = if b = true then some (("steady" : Str), .int k) else none := by
  obtain ⟨h2, hv⟩ := hr
  match r, h2 with
  | v :: r', _ =>
    have hv0 := hv v List.mem_cons_self
    have hkl : k < rs.length := (List.getElem?_eq_some_iff.mp hk).1
    refine ⟨!(ss.getD v.toNat 0 == ss.getD k 0), tV_eq (e2_eq (e2_eq e1 (e2_eq e2' rfl (atD_zero _ _)) (atD_nat hv0.1 (by omega))) (e2_eq e3 e4 (atD_ints ss k (by omega))) (dNe_int _ _)), rfl⟩
theorem map_find {P : D → Option Fw.Rd} {v : D → Option (Str × D)} {k : Str × D → Fw.Rd} {l : List D} (h : ∀ d ∈ l, P d = (v d).map k) : l.findSome? P = (l.findSome? v).map k := by
  induction l with
  | nil => rfl
  | cons d l ih =>
    rw [List.findSome?_cons, List.findSome?_cons, h d List.mem_cons_self]
    cases v d with
    | none => exact ih fun d hd => h d (List.mem_cons_of_mem _ hd)
    | some p => rfl
theorem getD_or {a : Option Fw.Rd} {x : Fw.Rd} : a.or (some x) = some (a.getD x) := by cases a <;> rfl
theorem ev_back (rs : List (List Int)) (ss : List Int) : g_back_of [DR rs, DSg ss] = ((verdict rs ss).map erM).getD (.ok (okM rs ss)) := by
  refine ev_fit (mk := fun a : Option D × Option D × Option D => [.sh (DR rs), .sh (DSg ss), sv a.1, sv a.2.1, sv a.2.2]) ?_
  rw [← getD_or]
  unfold verdict
  rw [or_map, or_map, or_map, or_map, ite_map, ite_map]
  rw [Option.or_assoc, Option.or_assoc, Option.or_assoc, Option.or_assoc]
  have eR : ∀ a : Option D × Option D × Option D, eL dLen (aC (eV 0) aN) [.sh (DR rs), .sh (DSg ss), sv a.1, sv a.2.1, sv a.2.2] = .ok (.int rs.length) [.sh (DR rs), .sh (DSg ss), sv a.1, sv a.2.1, sv a.2.2] := fun a => by
    have := lenD (rs.map rD) [.sh (DR rs), .sh (DSg ss), sv a.1, sv a.2.1, sv a.2.2] (eV 0) rfl
    rwa [List.length_map] at this
  have eS : ∀ a : Option D × Option D × Option D, eL dLen (aC (eV 1) aN) [.sh (DR rs), .sh (DSg ss), sv a.1, sv a.2.1, sv a.2.2] = .ok (.int ss.length) [.sh (DR rs), .sh (DSg ss), sv a.1, sv a.2.1, sv a.2.2] := fun a => by
    have := lenD (ss.map D.int) [.sh (DR rs), .sh (DSg ss), sv a.1, sv a.2.1, sv a.2.2] (eV 1) rfl
    rwa [List.length_map] at this
  refine ev_seq (mk2 := fun a : Option D × Option D × Option D => [.sh (DR rs), .sh (DSg ss), sv a.1, sv a.2.1, sv a.2.2]) (ev_stop (a := (none, none, none)) (tO_eq (tV_eq (e2_eq (eR (none, none, none)) rfl rfl)) (tV_eq (e2_eq (eR (none, none, none)) rfl rfl))) (fun _ => ev_raise [.str "rooms", .int rs.length] ?_ rfl rfl) rfl) fun h1 a => ?_
  · exact aC_eq rfl (aC_eq (eR (none, none, none)) rfl)
  refine ev_seq (mk2 := fun a : Option D × Option D × Option D => [.sh (DR rs), .sh (DSg ss), sv a.1, sv a.2.1, sv a.2.2]) (ev_stop (a := a) (tV_eq (e2_eq (eS a) (eR a) (dNe_int _ _))) (fun _ => ev_raise [.str "signs", .int ss.length] ?_ rfl rfl) rfl) fun h2 a => ?_
  · exact aC_eq rfl (aC_eq (eS a) rfl)
  have hne : rs ≠ [] := fun z => by subst z; cases h1
  obtain ⟨r0, rest, hrs⟩ : ∃ r0 rest, rs = r0 :: rest := by
    cases rs with
    | nil => exact absurd rfl hne
    | cons a b => exact ⟨a, b, rfl⟩
  have hlen : ss.length = rs.length := by
    by_cases h : ss.length = rs.length
    · exact h
    · rw [if_pos (by simp; omega)] at h2; cases h2
  have hL : (rs.headD []).length = r0.length := by rw [hrs]; rfl
  have hlook : lenG 1 g_look_at_rows [DR rs] = ((((numD (rs.map rD)).findSome? (vRow rs.length r0.length)).map erM).getD (.ok .non)) := by
    have := ev_look rs r0 rest hrs
    rw [findSome_map] at this
    exact this
  rw [hL]
  refine ev_seq (mk2 := fun a : Option D × Option D × Option D => [.sh (DR rs), .sh (DSg ss), sv a.1, sv a.2.1, sv a.2.2]) ?_ fun h3 a => ?_
  · have e := ev_call (mk := fun a : Option D × Option D × Option D => [.sh (DR rs), .sh (DSg ss), sv a.1, sv a.2.1, sv a.2.2]) (ρ := [.sh (DR rs), .sh (DSg ss), sv a.1, sv a.2.1, sv a.2.2]) (fa := aC (eV 0) aN) (a := a) rfl hlook (by cases (numD (rs.map rD)).findSome? (vRow rs.length r0.length) <;> exact fun z => by cases z)
    have e3 : errO ((((numD (rs.map rD)).findSome? (vRow rs.length r0.length)).map erM).getD (.ok .non)) = ((numD (rs.map rD)).findSome? (vRow rs.length r0.length)).map erM := by
      cases (numD (rs.map rD)).findSome? (vRow rs.length r0.length) <;> rfl
    rw [e3] at e
    exact e
  have h3' : (numD (rs.map rD)).findSome? (vRow rs.length r0.length) = none := by
    cases hz : (numD (rs.map rD)).findSome? (vRow rs.length r0.length) with
    | none => rfl
    | some p => rw [hz] at h3; cases h3
  refine ev_seq (mk2 := fun a : Option D × Option D × Option D => [.sh (DR rs), .sh (DSg ss), sv a.1, sv a.2.1, sv a.2.2]) ?_ fun h4 a => ?_
  · rw [← map_find (P := fun d => (vSign d).map erM) (fun _ _ => rfl)]
    refine ev_for (a := a) rfl fun d hd a => ?_
    obtain ⟨k, v, hk, rfl⟩ := num_mem hd
    refine ⟨_, rfl, ?_⟩
    show Ev _ ((if (iLt v 0 || iGt v 9) = true then some (("sign" : Str), D.int k) else none).map erM) _
    rw [ite_map]
    exact ev_stop (a := (some (.int k), some (.int v), a.2.2)) (tO_eq (tV_eq (e2_eq rfl rfl rfl)) (tV_eq (e2_eq rfl rfl rfl))) (fun _ => ev_raise [.str "sign", .int k] rfl rfl rfl) rfl
  refine ev_seq (mk2 := fun a : Option D × Option D × Option D => [.sh (DR rs), .sh (DSg ss), sv a.1, sv a.2.1, sv a.2.2]) ?_ fun h5 a => ?_
  · rw [← map_find (P := fun d => (vSteady ss d).map erM) (fun _ _ => rfl)]
    refine ev_for (a := a) rfl fun d hd a => ?_
    have hvr := none_mem h3' d hd
    obtain ⟨k, r, hk, rfl⟩ := num_mem hd
    refine ⟨_, rfl, ?_⟩
    obtain ⟨b, hb, hs⟩ := steady_test (f1 := eV 1) (f2 := eV 4) (f3 := eV 1) (f4 := eV 2) (ρ := [.sh (DR rs), .sh (DSg ss), .sh (.int k), sv a.2.1, .sh (rD r)]) hlen hk (vRow_none hvr) rfl rfl rfl rfl
    rw [hs, ite_map]
    exact ev_stop (a := (some (.int k), a.2.1, some (rD r))) hb (fun _ => ev_raise [.str "steady", .int k] rfl rfl rfl) rfl
  · refine ev_ret (ρ' := [.sh (DR rs), .sh (DSg ss), sv a.1, sv a.2.1, sv a.2.2]) ?_
    have hsz : rs.length ≤ LIM := by
      have : ¬ (iLt rs.length 1 || iGt rs.length 100) = true := fun z => by rw [if_pos z] at h1; cases h1
      simp only [Bool.or_eq_true, not_or, iLt, iGt, decide_eq_true_eq] at this
      unfold LIM
      omega
    have ec := eLc_map (x := 4) (f := eL dTuple (aC (eV 4) aN)) (wi := iS (eV 0)) (ds := rs.map rD) (fun s => [.sh (DR rs), .sh (DSg ss), sv a.1, sv a.2.1, s]) (fun d => match d with | .lst l => .tup l | d => d) (sv a.2.2) rfl (by rw [List.length_map]; exact hsz) (by obtain ⟨_, _, o⟩ := a; cases o <;> rfl) (fun _ => rfl) (fun _ => rfl) (fun _ => rfl) (fun d hd => by obtain ⟨r, _, rfl⟩ := List.mem_map.mp hd; rfl)
    rw [List.map_map] at ec
    have e1 : eL dTuple (aC (vLc (eLc (iS (eV 0)) (tgN 4) tYs (eL dTuple (aC (eV 4) aN)) [4])) aN) [.sh (DR rs), .sh (DSg ss), sv a.1, sv a.2.1, sv a.2.2] = .ok (.tup (rs.map fun r => .tup (r.map .int))) [.sh (DR rs), .sh (DSg ss), sv a.1, sv a.2.1, sv a.2.2] := by
      refine eL_eq (aC_eq (a := .lst (rs.map fun r => .tup (r.map .int))) ?_ rfl) rfl
      unfold vLc
      rw [ec]
      rfl
    exact eTup_eq (aC_eq e1 (aC_eq (eL_eq (aC_eq rfl rfl) rfl) rfl)) (show 2 ≤ LIM by decide)
end K20
end

section
set_option Elab.async false
set_option linter.all false
set_option autoImplicit false
set_option maxRecDepth 100000
set_option maxHeartbeats 4000000
namespace K20
open PySem PySem.Spec PyProof.Rows L2 Fw
abbrev tupM (p : Str × D) : Fw.Rd := .ok (.tup [.str p.1, p.2])
theorem bools_map (q : Int → Bool) (l : List Int) : bools (l.map fun v => D.bl (q v)) = some (l.map q) := by
  induction l with
  | nil => rfl
  | cons v l ih =>
    show (bools (l.map fun v => D.bl (q v))).map (q v :: ·) = _
    rw [ih]
    rfl
theorem dAll_map (q : Int → Bool) (l : List Int) : dAll [.lst (l.map fun v => D.bl (q v))] = some (.bl (l.all q)) := by
  show (bools (l.map fun v => D.bl (q v))).map (fun bs => D.bl (bs.all id)) = _
  rw [bools_map]
  show some (D.bl ((l.map q).all id)) = _
  rw [List.all_map]
  rfl
theorem chain_eq (v n : Int) {f g h : FE D} {ρ : PEnv} (h1 : f ρ = .ok (.int 0) ρ) (h2 : g ρ = .ok (.int v) ρ) (h3 : h ρ = .ok (.int n) ρ) : eChain (dCmp iLe) (dCmp iLt) f g h ρ = .ok (.bl (iLe 0 v && iLt v n)) ρ := by
  unfold eChain
  rw [h1]
  dsimp only [R.bind]
  rw [h2]
  dsimp only
  show (match some (D.bl (iLe 0 v)) with
    | some (.bl true) => (h ρ).bind fun c ρ => liftO (dCmp iLt (.int v) c) ρ
    | some (.bl false) => R.ok (D.bl false) ρ
    | _ => R.no) = _
  cases iLe 0 v with
  | true =>
    dsimp only
    rw [h3]
    rfl
  | false => rfl
theorem any_bad (n : Nat) (r : List Int) : (r.map D.int).any (badE n) = !(r.all fun v => iLe 0 v && iLt v n) := by
  induction r with
  | nil => rfl
  | cons v r ih =>
    rw [List.map_cons, List.any_cons, ih, List.all_cons, Bool.not_and]
    congr 1
    show (iLt v 0 || iGe v n) = !(iLe 0 v && iLt v n)
    simp only [iLt, iGe, iLe, Bool.not_and]
    by_cases h1 : 0 ≤ v <;> by_cases h2 : v < n <;> simp [h1, h2] <;> omega
theorem ev_due (rs : List (List Int)) (ss : List Int) (hb : ∀ r ∈ rs, r.length ≤ LIM) : g_due [DR rs, DSg ss] = ((verdict rs ss).map tupM).getD (.ok .non) := by
  refine ev_fit (mk := fun a : Option D × Option D × Option D × Option D => [.sh (DR rs), .sh (DSg ss), sv a.1, sv a.2.1, sv a.2.2.1, sv a.2.2.2]) ?_
  rw [← getD_or]
  unfold verdict
  rw [or_map, or_map, or_map, or_map, ite_map, ite_map]
  rw [Option.or_assoc, Option.or_assoc, Option.or_assoc, Option.or_assoc]
  have eR : ∀ ρ : PEnv, eL dLen (aC (eV 0) aN) (.sh (DR rs) :: .sh (DSg ss) :: ρ) = .ok (.int rs.length) (.sh (DR rs) :: .sh (DSg ss) :: ρ) := fun ρ => by
    have := lenD (rs.map rD) (.sh (DR rs) :: .sh (DSg ss) :: ρ) (eV 0) rfl
    rwa [List.length_map] at this
  have eS : ∀ ρ : PEnv, eL dLen (aC (eV 1) aN) (.sh (DR rs) :: .sh (DSg ss) :: ρ) = .ok (.int ss.length) (.sh (DR rs) :: .sh (DSg ss) :: ρ) := fun ρ => by
    have := lenD (ss.map D.int) (.sh (DR rs) :: .sh (DSg ss) :: ρ) (eV 1) rfl
    rwa [List.length_map] at this
  refine ev_seq (mk2 := fun a : Option D × Option D × Option D × Option D => [.sh (DR rs), .sh (DSg ss), sv a.1, sv a.2.1, sv a.2.2.1, sv a.2.2.2]) (ev_stop (a := (none, none, none, none)) (tO_eq (tV_eq (e2_eq (eR _) rfl rfl)) (tV_eq (e2_eq (eR _) rfl rfl))) (fun _ => ev_ret (eTup_eq (aC_eq rfl (aC_eq (eR _) rfl)) (show 2 ≤ LIM by decide))) rfl) fun h1 a => ?_
  refine ev_seq (mk2 := fun a : Option D × Option D × Option D × Option D => [.sh (DR rs), .sh (DSg ss), sv a.1, sv a.2.1, sv a.2.2.1, sv a.2.2.2]) (ev_stop (a := a) (tV_eq (e2_eq (eS _) (eR _) (dNe_int _ _))) (fun _ => ev_ret (eTup_eq (aC_eq rfl (aC_eq (eS _) rfl)) (show 2 ≤ LIM by decide))) rfl) fun h2 a => ?_
  have hne : rs ≠ [] := fun z => by subst z; cases h1
  obtain ⟨r0, rest, hrs⟩ : ∃ r0 rest, rs = r0 :: rest := by
    cases rs with
    | nil => exact absurd rfl hne
    | cons a b => exact ⟨a, b, rfl⟩
  have hlen : ss.length = rs.length := by
    by_cases h : ss.length = rs.length
    · exact h
    · rw [if_pos (by simp; omega)] at h2; cases h2
  have hL : (rs.headD []).length = r0.length := by rw [hrs]; rfl
  have hz : dIx (DR rs) (.int 0) = some (rD r0) := by rw [hrs]; exact atD_zero _ _
  rw [hL]
  refine ev_seq (mk2 := fun a : Option D × Option D × Option D × Option D => [.sh (DR rs), .sh (DSg ss), sv a.1, sv a.2.1, sv a.2.2.1, sv a.2.2.2]) ?_ fun h3 a => ?_
  · rw [← map_find (P := fun d => (vRow rs.length r0.length d).map tupM) (fun _ _ => rfl)]
    refine ev_for (a := a) rfl fun d hd a => ?_
    obtain ⟨k, r, hk, rfl⟩ := num_mem hd
    have hrm : r ∈ rs := List.mem_of_getElem? hk
    refine ⟨_, rfl, ?_⟩
    have ec : (vRow rs.length r0.length (.tup [.int k, rD r])).map tupM = (if (iLt r.length 2 || (iGt r.length 5 || !((r.length : Int) == r0.length))) = true then some (tupM ("letters", .int k)) else none).or (if (!(r.all fun v => iLe 0 v && iLt v rs.length)) = true then some (tupM ("next", .int k)) else none) := by
      rw [vRow_eq, List.length_map, any_bad]
      split <;> rename_i h
      · rfl
      · split <;> rename_i h2
        · rfl
        · rfl
    rw [ec]
    refine ev_seq (mk2 := fun a : Option D × Option D => [.sh (DR rs), .sh (DSg ss), .sh (.int k), .sh (rD r), sv a.1, sv a.2]) ?_ fun hn a => ?_
    · have eL1 : ∀ ρ : PEnv, eL dLen (aC (eV 3) aN) (.sh (DR rs) :: .sh (DSg ss) :: .sh (.int k) :: .sh (rD r) :: ρ) = .ok (.int r.length) (.sh (DR rs) :: .sh (DSg ss) :: .sh (.int k) :: .sh (rD r) :: ρ) := fun ρ => by
        have := lenD (r.map D.int) (.sh (DR rs) :: .sh (DSg ss) :: .sh (.int k) :: .sh (rD r) :: ρ) (eV 3) rfl
        rwa [List.length_map] at this
      refine ev_stop (a := (a.2.2.1, a.2.2.2)) (tO_eq (tV_eq (e2_eq (eL1 _) rfl rfl)) (tO_eq (tV_eq (e2_eq (eL1 _) rfl rfl)) (tV_eq (e2_eq (eL1 _) (b := .int r0.length) ?_ (dNe_int _ _))))) (fun _ => ev_ret (eTup_eq (as := [.str "letters", .int k]) (aC_eq rfl (aC_eq rfl rfl)) (show 2 ≤ LIM by decide))) rfl
      refine eL_eq (aC_eq (e2_eq (f := eV 0) (g := eC (.int 0)) rfl rfl hz) rfl) ?_
      show some (D.int ((r0.map D.int).length : Nat)) = _
      rw [List.length_map]
    · refine ev_mono (mk2 := fun a : Option D × Option D => [.sh (DR rs), .sh (DSg ss), .sh (.int k), .sh (rD r), sv a.1, sv a.2]) (fun a => ⟨(some (.int k), some (rD r), a.1, a.2), rfl⟩) ?_
      refine ev_stop (a := a) (tN_eq (tV_eq (eL_eq (aC_eq (a := .lst (r.map fun v => .bl (iLe 0 v && iLt v rs.length))) ?_ rfl) (dAll_map _ _)))) (fun _ => ev_ret (eTup_eq (as := [.str "next", .int k]) (aC_eq rfl (aC_eq rfl rfl)) (show 2 ≤ LIM by decide))) rfl
      have e := eLc_map (x := 5) (f := eChain (dCmp iLe) (dCmp iLt) (eC (.int 0)) (eV 5) (eL dLen (aC (eV 0) aN))) (wi := iS (eV 3)) (ds := r.map D.int) (fun s => [.sh (DR rs), .sh (DSg ss), .sh (.int k), .sh (rD r), sv a.1, s]) (fun d => match d with | .int v => .bl (iLe 0 v && iLt v rs.length) | d => d) (sv a.2) rfl (by rw [List.length_map]; exact hb r hrm) (by obtain ⟨_, o⟩ := a; cases o <;> rfl) (fun _ => rfl) (fun _ => rfl) (fun _ => rfl) (fun d hd => by
        obtain ⟨v, _, rfl⟩ := List.mem_map.mp hd
        exact chain_eq v _ rfl rfl (eR _))
      rw [List.map_map] at e
      unfold vLc
      rw [e]
      rfl
  have h3' : (numD (rs.map rD)).findSome? (vRow rs.length r0.length) = none := by
    cases hz : (numD (rs.map rD)).findSome? (vRow rs.length r0.length) with
    | none => rfl
    | some p => rw [hz] at h3; cases h3
  refine ev_seq (mk2 := fun a : Option D × Option D × Option D × Option D => [.sh (DR rs), .sh (DSg ss), sv a.1, sv a.2.1, sv a.2.2.1, sv a.2.2.2]) ?_ fun h4 a => ?_
  · rw [← map_find (P := fun d => (vSign d).map tupM) (fun _ _ => rfl)]
    refine ev_for (a := a) rfl fun d hd a => ?_
    obtain ⟨k, v, hk, rfl⟩ := num_mem hd
    refine ⟨_, rfl, ?_⟩
    show Ev _ ((if (iLt v 0 || iGt v 9) = true then some (("sign" : Str), D.int k) else none).map tupM) _
    rw [ite_map]
    exact ev_stop (a := (some (.int k), a.2.1, some (.int v), a.2.2.2)) (tO_eq (tV_eq (e2_eq rfl rfl rfl)) (tV_eq (e2_eq rfl rfl rfl))) (fun _ => ev_ret (eTup_eq (as := [.str "sign", .int k]) (aC_eq rfl (aC_eq rfl rfl)) (show 2 ≤ LIM by decide))) rfl
  refine ev_seq (mk2 := fun a : Option D × Option D × Option D × Option D => [.sh (DR rs), .sh (DSg ss), sv a.1, sv a.2.1, sv a.2.2.1, sv a.2.2.2]) ?_ fun h5 a => ?_
  · rw [← map_find (P := fun d => (vSteady ss d).map tupM) (fun _ _ => rfl)]
    refine ev_for (a := a) rfl fun d hd a => ?_
    have hvr := none_mem h3' d hd
    obtain ⟨k, r, hk, rfl⟩ := num_mem hd
    refine ⟨_, rfl, ?_⟩
    obtain ⟨b, hb, hs⟩ := steady_test (f1 := eV 1) (f2 := eV 3) (f3 := eV 1) (f4 := eV 2) (ρ := [.sh (DR rs), .sh (DSg ss), .sh (.int k), .sh (rD r), sv a.2.2.1, sv a.2.2.2]) hlen hk (vRow_none hvr) rfl rfl rfl rfl
    rw [hs, ite_map]
    exact ev_stop (a := (some (.int k), some (rD r), a.2.2.1, a.2.2.2)) hb (fun _ => ev_ret (eTup_eq (as := [.str "steady", .int k]) (aC_eq rfl (aC_eq rfl rfl)) (show 2 ≤ LIM by decide))) rfl
  · exact ev_ret rfl
end K20
end

section
set_option Elab.async false
set_option linter.all false
set_option autoImplicit false
set_option maxRecDepth 100000
set_option maxHeartbeats 4000000
namespace K20
open PySem PySem.Spec PyProof.Rows L2 Fw
def askD (rs : List (List Int)) (ss : List Int) : D := match verdict rs ss with
  | none => .tup [okM rs ss, .non]
  | some p => .tup [.non, .tup [.str p.1, p.2, .bl true]]
theorem eq_NM : (("NoMachine" : Str) == ("WheelError" : Str)) = false := by decide
theorem ev_asked (rs : List (List Int)) (ss : List Int) : g_asked [DR rs, DSg ss] = .ok (askD rs ss) := by
  have hB := ev_back rs ss
  unfold askD
  cases hv : verdict rs ss with
  | none =>
    rw [hv] at hB
    have hB : g_back_of [DR rs, DSg ss] = .ok (okM rs ss) := hB
    have hc : (sSet 2 (eCall (lenG 2 g_back_of) [] (aC (eV 0) (aC (eV 1) aN)))) [.sh (DR rs), .sh (DSg ss), .sh .non, .sh .non, .un, .un] = .nx [.sh (DR rs), .sh (DSg ss), .sh (okM rs ss), .sh .non, .un, .un] := by
      unfold sSet eCall
      show (R.then (match g_back_of [DR rs, DSg ss] with
        | .ok d => R.ok d [.sh (DR rs), .sh (DSg ss), .sh .non, .sh .non, .un, .un]
        | .er e => .er e [.sh (DR rs), .sh (DSg ss), .sh .non, .sh .non, .un, .un]
        | .no => .no) _) = _
      rw [hB]
      rfl
    have ht : ∀ cm su, sTryAs 4 cm (sSet 2 (eCall (lenG 2 g_back_of) [] (aC (eV 0) (aC (eV 1) aN)))) su [.sh (DR rs), .sh (DSg ss), .sh .non, .sh .non, .un, .un] = .nx [.sh (DR rs), .sh (DSg ss), .sh (okM rs ss), .sh .non, .un, .un] := fun cm su => by
      unfold sTryAs
      rw [hc]
    show fit (sSeq _ _ [.sh (DR rs), .sh (DSg ss), .sh .non, .sh .non, .un, .un]) = _
    unfold sSeq
    rw [ht]
    rfl
  | some p =>
    rw [hv] at hB
    have hB : g_back_of [DR rs, DSg ss] = erM p := hB
    have hc : (sSet 2 (eCall (lenG 2 g_back_of) [] (aC (eV 0) (aC (eV 1) aN)))) [.sh (DR rs), .sh (DSg ss), .sh .non, .sh .non, .un, .un] = .er (.mk "NoMachine" [("number", p.2), ("word", .str p.1)]) [.sh (DR rs), .sh (DSg ss), .sh .non, .sh .non, .un, .un] := by
      unfold sSet eCall
      show (R.then (match g_back_of [DR rs, DSg ss] with
        | .ok d => R.ok d [.sh (DR rs), .sh (DSg ss), .sh .non, .sh .non, .un, .un]
        | .er e => .er e [.sh (DR rs), .sh (DSg ss), .sh .non, .sh .non, .un, .un]
        | .no => .no) _) = _
      rw [hB]
    have ht : ∀ su, sTryAs 4 (tab [("WheelError", false), ("NoBase", false), ("NoMachine", true), ("NoText", false)]) (sSet 2 (eCall (lenG 2 g_back_of) [] (aC (eV 0) (aC (eV 1) aN)))) su [.sh (DR rs), .sh (DSg ss), .sh .non, .sh .non, .un, .un] = clr 4 (su (.mk "NoMachine" [("number", p.2), ("word", .str p.1)]) [.sh (DR rs), .sh (DSg ss), .sh .non, .sh .non, .un, .un]) := fun su => by
      unfold sTryAs
      rw [hc]
      dsimp only
      have e : tab [("WheelError", false), ("NoBase", false), ("NoMachine", true), ("NoText", false)] "NoMachine" = some true := by decide +kernel
      rw [e]
      first | done | rfl
    show fit (sSeq _ _ [.sh (DR rs), .sh (DSg ss), .sh .non, .sh .non, .un, .un]) = _
    unfold sSeq
    rw [ht]
    have t1 : tab [("NoMachine", true)] "NoMachine" = some true := by decide +kernel
    have t2 : tab [("NoMachine", false)] "NoMachine" = some false := by decide +kernel
    have l1 : List.lookup ("word" : Str) [(("number" : Str), p.2), (("word" : Str), D.str p.1)] = some (.str p.1) := by
      have h1 : (("word" : Str) == ("number" : Str)) = false := by decide +kernel
      have h2 : (("word" : Str) == ("word" : Str)) = true := by decide +kernel
      rw [List.lookup_cons, h1]
      dsimp only
      rw [List.lookup_cons, h2]
    have l2 : List.lookup ("number" : Str) [(("number" : Str), p.2), (("word" : Str), D.str p.1)] = some p.2 := by
      have h2 : (("number" : Str) == ("number" : Str)) = true := by decide +kernel
      rw [List.lookup_cons, h2]
    simp [xSetC, xSet, isX, t1, t2, xfE, l1, l2, eV, eC, Fw.e2, Fw.e1, Fw.eL, aC, aN, R.bind, R.then, liftO, sRet, sSeq, sIf, sSet, sDrop, tV, tO, tA, tN, vA, vO, vN, eTup, eLst, lim, sNx, clr, fit, LIM]
theorem ev_wholeI (i : Int) : g_whole [.int i] = .ok (.bl true) := by rfl
end K20
end

section
set_option Elab.async false
set_option linter.all false
set_option autoImplicit false
set_option maxRecDepth 100000
set_option maxHeartbeats 4000000
namespace K20
open PySem PySem.Spec PyProof.Rows L2 Fw
/-! ### is it a machine -/
theorem all_true {α : Type} (l : List α) : (l.all fun _ => true) = true := by induction l with | nil => rfl | cons a l ih => rw [List.all_cons, ih]; rfl
theorem isT (l : List D) (f : FE D) (ρ : PEnv) (h : f ρ = .ok (.tup l) ρ) : tV (eIsi "tuple" f) ρ = .ok true ρ := by
  refine tV_eq ?_
  unfold eIsi
  rw [h]
  rfl
theorem eCall_eq {g : List D → Fw.Rd} {f : FE (List D)} {ρ ρ1 : PEnv} {as : List D} {d : D} (h : f ρ = .ok as ρ1) (hg : g as = .ok d) : eCall g [] f ρ = .ok d ρ1 := by
  unfold eCall
  rw [h]
  dsimp only [R.bind]
  rw [List.append_nil, hg]
theorem wholes {x : Nat} {wi : FE (List D)} {l : List Int} (mk : SV → PEnv) (s : SV) (hi : wi (mk s) = .ok (l.map .int) (mk s)) (hl : l.length ≤ LIM) (ho : noOw (mk s) [x] = true) (hb : ∀ s', backP (mk s) (mk s') [x] = mk s)
    (hw : ∀ s, (mk s).set x .un = mk .un) (hs : ∀ d, (mk .un).set x (.sh d) = mk (.sh d)) (hx : ∀ d, eV x (mk (.sh d)) = .ok d (mk (.sh d))) : eL dAll (aC (vLc (eLc wi (tgN x) tYs (eCall (lenG 1 g_whole) [] (aC (eV x) aN)) [x])) aN) (mk s) = .ok (.bl true) (mk s) := by
  have e := eLc_map (x := x) (f := eCall (lenG 1 g_whole) [] (aC (eV x) aN)) (wi := wi) (ds := l.map D.int) mk (fun _ => .bl true) s hi (by rw [List.length_map]; exact hl) ho hb hw hs (fun d hd => by
    obtain ⟨i, _, rfl⟩ := List.mem_map.mp hd
    exact eCall_eq (aC_eq (hx _) rfl) rfl)
  rw [List.map_map] at e
  refine eL_eq (aC_eq (a := .lst (l.map fun _ => .bl true)) ?_ rfl) ?_
  · unfold vLc
    rw [e]
    rfl
  · rw [dAll_map, all_true]
theorem ev_isM (rs : List (List Int)) (ss : List Int) (h1 : ss.length ≤ LIM) (h2 : ∀ r ∈ rs, r.length ≤ LIM) : g_is_machine [okM rs ss] = .ok (.bl true) := by
  refine ev_fit (x := .ok (.bl true)) (mk := fun a : Option D × Option D × Option D => [.sh (okM rs ss), sv a.1, sv a.2.1, sv a.2.2]) ?_
  show Ev _ ((none : Option Fw.Rd).or ((none : Option Fw.Rd).or ((none : Option Fw.Rd).or (some (.ok (.bl true)))))) _
  have stop : ∀ {t : FE Bool} {f : FS} {ρ : PEnv} {a : Option D × Option D × Option D}, t ρ = .ok false ρ → ρ = [.sh (okM rs ss), sv a.1, sv a.2.1, sv a.2.2] → Ev (fun a : Option D × Option D × Option D => [.sh (okM rs ss), sv a.1, sv a.2.1, sv a.2.2]) none (sIf t f sNx ρ) := fun {t f ρ a} ht h2 => by
    refine ev_if ht (fun hb => by cases hb) fun _ => ev_nx h2
  have i0 : ∀ ρ : PEnv, Fw.e2 dIx (eV 0) (eC (.int 0)) (.sh (okM rs ss) :: ρ) = .ok (.tup (rs.map fun r => .tup (r.map .int))) (.sh (okM rs ss) :: ρ) := fun ρ => e2_eq rfl rfl (atD_zero _ _)
  have i1 : ∀ ρ : PEnv, Fw.e2 dIx (eV 0) (eC (.int 1)) (.sh (okM rs ss) :: ρ) = .ok (.tup (ss.map .int)) (.sh (okM rs ss) :: ρ) := fun ρ => e2_eq rfl rfl rfl
  refine ev_seq (mk2 := fun a : Option D × Option D × Option D => [.sh (okM rs ss), sv a.1, sv a.2.1, sv a.2.2]) (stop (a := (none, none, none)) (tO_eq (a := false) (b := false) (tN_eq (isT _ _ _ rfl)) (tV_eq (e2_eq (eL_eq (c := .int 2) (aC_eq rfl rfl) rfl) rfl (dNe_int 2 2)))) rfl) fun _ a => ?_
  refine ev_seq (mk2 := fun a : Option D × Option D × Option D => [.sh (okM rs ss), sv a.1, sv a.2.1, sv a.2.2]) (stop (a := a) (tO_eq (a := false) (b := false) (tN_eq (isT _ _ _ (i0 _))) (tN_eq (isT _ _ _ (i1 _)))) rfl) fun _ a => ?_
  refine ev_seq (mk2 := fun a : Option D × Option D × Option D => [.sh (okM rs ss), sv a.1, sv a.2.1, sv a.2.2]) ?_ fun _ a => ?_
  · have hn : (rs.map fun r => D.tup (r.map .int)).findSome? (fun _ => (none : Option Fw.Rd)) = none := List.findSome?_eq_none_iff.mpr fun _ _ => rfl
    rw [← hn]
    refine ev_for (a := a) ?_ fun d hd a => ?_
    · unfold iS
      rw [i0]
    · obtain ⟨r, hr, rfl⟩ := List.mem_map.mp hd
      refine ⟨_, rfl, ?_⟩
      refine stop (a := (some (.tup (r.map .int)), a.2.1, a.2.2)) (tO_eq (a := false) (b := false) (tN_eq (isT _ _ _ rfl)) (tN_eq (tV_eq (wholes (fun s => [.sh (okM rs ss), .sh (.tup (r.map .int)), s, sv a.2.2]) (sv a.2.1) rfl (h2 r hr) (by obtain ⟨_, o, _⟩ := a; cases o <;> rfl) (fun _ => rfl) (fun _ => rfl) (fun _ => rfl) fun _ => rfl)))) rfl
  · refine ev_ret (wholes (fun s => [.sh (okM rs ss), sv a.1, sv a.2.1, s]) (sv a.2.2) ?_ h1 (by obtain ⟨_, _, o⟩ := a; cases o <;> rfl) (fun _ => rfl) (fun _ => rfl) (fun _ => rfl) fun _ => rfl)
    show iS _ _ = _
    unfold iS
    rw [i1]
end K20
end

section
set_option Elab.async false
set_option linter.all false
set_option autoImplicit false
set_option maxRecDepth 100000
set_option maxHeartbeats 4000000
namespace K20
open PySem PySem.Spec PyProof.Rows L2 Fw
/-! ### a machine spoilt -/
structure Sz (rs : List (List Int)) (ss : List Int) (b : Nat) : Prop where
  r : rs.length ≤ b
  s : ss.length ≤ b
  e : ∀ r ∈ rs, r.length ≤ b
theorem Sz.le {rs : List (List Int)} {ss : List Int} {b c : Nat} (h : Sz rs ss b) (hc : b ≤ c) : Sz rs ss c := ⟨Nat.le_trans h.r hc, Nat.le_trans h.s hc, fun r hr => Nat.le_trans (h.e r hr) hc⟩
/-- a row in some form -/
def isR (b : Nat) (d : D) : Prop := ∃ r : List Int, d = rD r ∧ r.length ≤ b
theorem cut_map (f : Int → D) (l : List Int) (lo hi : Option Int) : ∃ l' : List Int, Fw.cutD (l.map f) lo hi = l'.map f ∧ l'.length ≤ l.length := by
  refine ⟨(l.drop (HT.sIx l.length 0 lo)).take (HT.sIx l.length l.length hi - HT.sIx l.length 0 lo), ?_, ?_⟩
  · unfold Fw.cutD
    rw [List.length_map, List.map_take, List.map_drop]
  · rw [List.length_take, List.length_drop]
    omega
theorem pick {l : List D} {n : Nat} (hl : l.length = n) (hn : 0 < n) (m : Int) : ∃ d, dIx (.lst l) (.int (m % (n : Int))) = some d ∧ d ∈ l := by
  have h0 : 0 ≤ m % (n : Int) := Int.emod_nonneg _ (by omega)
  have h1 : m % (n : Int) < n := Int.emod_lt_of_pos _ (by omega)
  have h2 : (m % (n : Int)).toNat < l.length := by omega
  refine ⟨l[(m % (n : Int)).toNat], ?_, List.getElem_mem h2⟩
  show atD l (m % (n : Int)) = _
  unfold atD atI ixN
  rw [if_pos h0, if_pos (by omega)]
  show l[(m % (n : Int)).toNat]? = _
  exact List.getElem?_eq_getElem h2
section
variable {ρ : PEnv}
theorem sIf_no {t : FE Bool} {f g : FS} (h : t ρ = .ok false ρ) : sIf t f g ρ = g ρ := by
  unfold sIf
  rw [h]
theorem sIf_yes {t : FE Bool} {f g : FS} (h : t ρ = .ok true ρ) : sIf t f g ρ = f ρ := by
  unfold sIf
  rw [h]
theorem tA_no {f g : FE Bool} (h : f ρ = .ok false ρ) : tA f g ρ = .ok false ρ := by
  unfold tA
  rw [h]
theorem sSeq_eq {f g : FS} {ρ' : PEnv} (h : f ρ = .nx ρ') : sSeq f g ρ = g ρ' := by
  unfold sSeq
  rw [h]
theorem sSet_eq {i : Nat} {f : FE D} {d : D} (h : f ρ = .ok d ρ) : sSet i f ρ = .nx (ρ.set i (.sh d)) := by
  unfold sSet
  rw [h]
theorem eLst_eq {f : FE (List D)} {as : List D} (h1 : f ρ = .ok as ρ) (h : as.length ≤ LIM) : eLst f ρ = .ok (.lst as) ρ := by
  unfold eLst lim
  rw [h1]
  dsimp only [R.bind]
  rw [if_pos h]
  rfl
theorem dAdd_lst {a b : List D} (h : a.length + b.length ≤ LIM) : dAdd (.lst a) (.lst b) = some (.lst (a ++ b)) := if_pos h
theorem eSl_eq {f : FE D} {g h : FE (Option Int)} {l : List D} {lo hi : Option Int} (h1 : f ρ = .ok (.lst l) ρ) (h2 : g ρ = .ok lo ρ) (h3 : h ρ = .ok hi ρ) : eSl f g h ρ = .ok (.lst (Fw.cutD l lo hi)) ρ := by
  unfold eSl
  rw [h1]
  dsimp only [R.bind]
  rw [h2]
  dsimp only
  rw [h3]
  rfl
theorem pSo_eq {f : FE D} {i : Int} (h : f ρ = .ok (.int i) ρ) : pSo f ρ = .ok (some i) ρ := by
  unfold pSo
  rw [h]
theorem dMod_pos {i j : Int} (h : 0 < j) : dMod (.int i) (.int j) = some (.int (i % j)) := if_pos h
theorem dDiv_pos {i j : Int} (h : 0 < j) (h2 : j < 2000000000) : dDiv (.int i) (.int j) = some (.int (i / j)) := if_pos (divS h h2)
theorem pow20 : dPow (.int 10) (.int 20) = some (.int 100000000000000000000) := by
  have h : CPow 10 20 := by decide +kernel
  have e : (10 : Int) ^ (20 : Int).toNat = 100000000000000000000 := by decide +kernel
  show (if CPow 10 20 then some (D.int ((10 : Int) ^ (20 : Int).toNat)) else none) = _
  rw [if_pos h, e]
end
/-! the state of spoilt -/
abbrev E (rs : List (List Int)) (ss : List Int) (c way at_ more : Int) (row : Option D) (made told : SV) (spot : Option D) : PEnv :=
  [.sh (DR rs), .sh (DSg ss), .sh (.int c), sv row, made, told, .sh (.int way), .sh (.int at_), .sh (.int more), sv spot]
abbrev owR (rs : List (List Int)) : SV := .ow none (.l (rs.map rD))
abbrev owS (ss : List Int) : SV := .ow none (.l (ss.map .int))
theorem lenO_R {i : Nat} {ρ : PEnv} {l : List D} (h : getO i ρ = some (.l l)) : lenO i ρ = .ok (.int l.length) ρ := by
  unfold lenO
  rw [h]
theorem max_pos (n : Nat) : ∃ m : Int, dMax2 [.int 1, .int n] = some (.int m) ∧ 0 < m ∧ m < 2000000000 + n ∧ (0 < n → m = n) := by
  refine ⟨if (n : Int) > 1 then n else 1, rfl, ?_, ?_, ?_⟩
  · split <;> omega
  · split <;> omega
  · intro h
    split <;> omega
theorem atD_row {rs : List (List Int)} {at_ : Int} (h0 : 0 ≤ at_) (h1 : at_ < rs.length) : ∃ r, r ∈ rs ∧ atD (rs.map rD) at_ = some (rD r) := by
  have h2 : at_.toNat < rs.length := by omega
  refine ⟨rs[at_.toNat], List.getElem_mem h2, ?_⟩
  unfold atD atI ixN
  rw [if_pos h0, if_pos (by rw [List.length_map]; omega)]
  show (rs.map rD)[at_.toNat]? = _
  rw [List.getElem?_map, List.getElem?_eq_getElem h2]
  rfl
theorem setL_at {l : List D} {at_ : Int} {d : D} (h0 : 0 ≤ at_) (h1 : at_ < l.length) : setL (.l l) (.int at_) d = some (.l (l.set at_.toNat d)) := by
  show (ixN l.length at_).map _ = _
  unfold ixN
  rw [if_pos h0, if_pos h1]
  rfl
theorem sPut_eq {i : Nat} {fv fi : FE D} {ρ : PEnv} {w w' : OV} {j d : D} {kk : OV → D → D → Option OV} (hv : fv ρ = .ok d ρ) (hw : getO i ρ = some w) (hi : fi ρ = .ok j ρ) (hk : kk w j d = some w') : sPut i fv fi kk ρ = .nx (setO i w' ρ) := by
  unfold sPut
  rw [hv]
  dsimp only [R.then]
  rw [hw]
  dsimp only
  rw [hi]
  dsimp only
  rw [hw]
  dsimp only
  rw [hk]
theorem map_set_row (rs : List (List Int)) (k : Nat) (r : List Int) : (rs.map rD).set k (rD r) = (rs.set k r).map rD := by rw [List.map_set]
theorem Sz.setR {rs : List (List Int)} {ss : List Int} {b c : Nat} (h : Sz rs ss b) (hc : b ≤ c) {k : Nat} {r : List Int} (hr : r.length ≤ c) : Sz (rs.set k r) ss c := by
  refine ⟨by rw [List.length_set]; exact Nat.le_trans h.r hc, Nat.le_trans h.s hc, fun x hx => ?_⟩
  rcases List.mem_or_eq_of_mem_set hx with z | z
  · exact Nat.le_trans (h.e x z) hc
  · rw [z]; exact hr
/-- a row put in its place -/
theorem put_eq {rs : List (List Int)} {ss : List Int} {c way at_ more : Int} {row spot : Option D} {told : SV} {fv : FE D} {r' : List Int} (h0 : 0 ≤ at_) (h1 : at_ < rs.length)
    (hv : fv (E rs ss c way at_ more row (owR rs) told spot) = .ok (rD r') (E rs ss c way at_ more row (owR rs) told spot)) :
    sPut 4 fv (eV 7) setL (E rs ss c way at_ more row (owR rs) told spot) = .nx (E rs ss c way at_ more row (owR (rs.set at_.toNat r')) told spot) := by
  have e := sPut_eq (i := 4) (fi := eV 7) (kk := setL) (w := .l (rs.map rD)) (j := .int at_) hv rfl rfl (setL_at h0 (by rw [List.length_map]; exact h1))
  rw [map_set_row] at e
  exact e
theorem seq_nx {ρ ρ' : PEnv} {f g : FS} {x : RS} (h : f ρ = .nx ρ') (h2 : g ρ' = x) : sSeq f g ρ = x := by
  rw [sSeq_eq h]
  exact h2
theorem nilA {ρ : PEnv} : aN ρ = .ok [] ρ := rfl
section
variable {ρ ρ' : PEnv} {f g : FS} {x : Fw.Rd} {t : FE Bool}
theorem seq_fit (h : f ρ = .nx ρ') (h2 : fit (g ρ') = x) : fit (sSeq f g ρ) = x := by
  rw [sSeq_eq h]
  exact h2
theorem if_no (h : t ρ = .ok false ρ) : sIf t f sNx ρ = .nx ρ := by
  rw [sIf_no h]
  rfl
theorem if_yes (h : t ρ = .ok true ρ) (h2 : f ρ = .nx ρ') : sIf t f sNx ρ = .nx ρ' := by
  rw [sIf_yes h]
  exact h2
theorem sSetO_eq {i : Nat} {f : FE OV} {w : OV} (h : f ρ = .ok w ρ) : sSetO i f ρ = .nx (ρ.set i (.ow none w)) := by
  unfold sSetO
  rw [h]
end
/-- told in some form -/
def isSV (s : SV) (d : D) : Prop := (∃ l, d = .lst l ∧ s = .ow none (.l l)) ∨ s = .sh d
theorem fin_eq {rs rs' : List (List Int)} {ss ss' : List Int} {c way at_ more : Int} {row spot : Option D} {made told : SV} (h1 : isSV made (DR rs')) (h2 : isSV told (DSg ss')) :
    fit ((fun ρ => (fun ρ => (sRet (eTup (aC (eV 4) (aC (eV 5) aN)))) (frz 5 ρ)) (frz 4 ρ)) (E rs ss c way at_ more row made told spot)) = .ok (.tup [DR rs', DSg ss']) := by
  rcases h1 with ⟨l, e1, rfl⟩ | rfl <;> rcases h2 with ⟨l2, e2, rfl⟩ | rfl
  · cases e1; cases e2; rfl
  · cases e1; rfl
  · cases e2; rfl
  · rfl
/-- the row part -/
theorem row_part {rs : List (List Int)} {ss : List Int} {c way at_ more : Int} {b : Nat} (hz : Sz rs ss b) (hb : b ≤ 1000) (h0 : 0 ≤ at_) (h1 : at_ < rs.length) (hw : 0 ≤ way ∧ way < 4) (hm : 0 ≤ more) :
    ∃ rs' row spot, Sz rs' ss (2 * b + 2) ∧
      (sSeq (sSet 3 (withO 4 (eV 7) ixL))
        (sSeq (sSet 9 (Fw.e2 dMod (Fw.e2 dDiv (eV 8) (eC (.int 11))) (eL dMax2 (aC (eC (.int 1)) (aC (eL dLen (aC (eV 3) aN)) aN)))))
        (sSeq (sIf (tV (Fw.e2 (dEq) (eV 6) (eC (.int 0)))) (sPut 4 (Fw.e2 dIx (eLst (aC (eSl (eV 3) (pSo (eC (.int 1))) pNo) (aC (Fw.e2 dAdd (eV 3) (eLst (aC (eC (.int 0)) aN))) (aC (eLst aN) (aC (eLst (aC (eC (.int 0)) aN)) (aC (Fw.e2 dAdd (Fw.e2 dAdd (eV 3) (eV 3)) (eLst (aC (eC (.int 0)) (aC (eC (.int 0)) aN)))) aN)))))) (Fw.e2 dMod (eV 8) (eC (.int 5)))) (eV 7) setL) sNx)
        (sSeq (sIf (tA (tV (Fw.e2 (dEq) (eV 6) (eC (.int 1)))) ((tV (Fw.e2 (dCmp iGt) (eL dLen (aC (eV 3) aN)) (eC (.int 0)))))) (sPut 4 (Fw.e2 dAdd (Fw.e2 dAdd (eSl (eV 3) pNo (pSo (eV 9))) (eLst (aC (Fw.e2 dIx (eLst (aC (Fw.e1 dNeg (eC (.int 1))) (aC (lenO 4) (aC (Fw.e2 dAdd (lenO 4) (eC (.int 7))) (aC (Fw.e2 dSub (Fw.e1 dNeg (eC (.int 1))) (Fw.e2 dMod (eV 8) (Fw.e2 dPow (eC (.int 10)) (eC (.int 20))))) aN))))) (Fw.e2 dMod (eV 8) (eC (.int 4)))) aN))) (eSl (eV 3) (pSo (Fw.e2 dAdd (eV 9) (eC (.int 1)))) pNo)) (eV 7) setL) sNx)
        (sIf (tA (tV (Fw.e2 (dCmp iGt) (eV 6) (eC (.int 1)))) ((tV (Fw.e2 (dCmp iGt) (eL dLen (aC (eV 3) aN)) (eC (.int 0)))))) (sPut 4 (Fw.e2 dAdd (Fw.e2 dAdd (eSl (eV 3) pNo (pSo (eV 9))) (eLst (aC (Fw.e2 dMod (eV 8) (lenO 4)) aN))) (eSl (eV 3) (pSo (Fw.e2 dAdd (eV 9) (eC (.int 1)))) pNo)) (eV 7) setL) sNx)))))
        (E rs ss c way at_ more none (owR rs) (owS ss) none) = .nx (E rs ss c way at_ more row (owR rs') (owS ss) spot) := by
  obtain ⟨r, hr, hat⟩ := atD_row h0 h1
  have hrb := hz.e r hr
  obtain ⟨m, hm1, hm2, hm3, hm4⟩ := max_pos r.length
  have e1 : sSet 3 (withO 4 (eV 7) ixL) (E rs ss c way at_ more none (owR rs) (owS ss) none) = .nx (E rs ss c way at_ more (some (rD r)) (owR rs) (owS ss) none) := by
    refine sSet_eq (d := rD r) ?_
    show liftO (ixL (.l (rs.map rD)) (.int at_)) _ = _
    show liftO (atD (rs.map rD) at_) _ = _
    rw [hat]
    rfl
  have eLr : ∀ sp, eL dLen (aC (eV 3) aN) (E rs ss c way at_ more (some (rD r)) (owR rs) (owS ss) sp) = .ok (.int r.length) (E rs ss c way at_ more (some (rD r)) (owR rs) (owS ss) sp) := fun sp => by
    have := lenD (r.map D.int) (E rs ss c way at_ more (some (rD r)) (owR rs) (owS ss) sp) (eV 3) rfl
    rwa [List.length_map] at this
  have e2' : sSet 9 (Fw.e2 dMod (Fw.e2 dDiv (eV 8) (eC (.int 11))) (eL dMax2 (aC (eC (.int 1)) (aC (eL dLen (aC (eV 3) aN)) aN)))) (E rs ss c way at_ more (some (rD r)) (owR rs) (owS ss) none) = .nx (E rs ss c way at_ more (some (rD r)) (owR rs) (owS ss) (some (.int (more / 11 % m)))) :=
    sSet_eq (e2_eq (e2_eq rfl rfl (dDiv_pos (by decide) (by decide))) (eL_eq (aC_eq rfl (aC_eq (eLr none) rfl)) hm1) (dMod_pos hm2))
  rw [sSeq_eq e1, sSeq_eq e2']
  have hLIM : (2 : Nat) * 1000 + 2 ≤ LIM := by decide
  have len4 : ∀ sp, lenO 4 (E rs ss c way at_ more (some (rD r)) (owR rs) (owS ss) sp) = .ok (.int (rs.map rD).length) (E rs ss c way at_ more (some (rD r)) (owR rs) (owS ss) sp) := fun sp => lenO_R rfl
  -- around the spot
  have around : ∀ (fv : FE D) (v : Int), fv (E rs ss c way at_ more (some (rD r)) (owR rs) (owS ss) (some (.int (more / 11 % m)))) = .ok (.int v) (E rs ss c way at_ more (some (rD r)) (owR rs) (owS ss) (some (.int (more / 11 % m)))) →
      ∃ r' : List Int, r'.length ≤ 2 * b + 2 ∧ Fw.e2 dAdd (Fw.e2 dAdd (eSl (eV 3) pNo (pSo (eV 9))) (eLst (aC fv aN))) (eSl (eV 3) (pSo (Fw.e2 dAdd (eV 9) (eC (.int 1)))) pNo) (E rs ss c way at_ more (some (rD r)) (owR rs) (owS ss) (some (.int (more / 11 % m)))) = .ok (rD r') (E rs ss c way at_ more (some (rD r)) (owR rs) (owS ss) (some (.int (more / 11 % m)))) := by
    intro fv v hv
    obtain ⟨l1, c1, b1⟩ := cut_map D.int r none (some (more / 11 % m))
    obtain ⟨l2, c2, b2⟩ := cut_map D.int r (some (more / 11 % m + 1)) none
    refine ⟨l1 ++ [v] ++ l2, by simp; omega, ?_⟩
    have s1 := eSl_eq (ρ := E rs ss c way at_ more (some (rD r)) (owR rs) (owS ss) (some (.int (more / 11 % m)))) (f := eV 3) (g := pNo) (h := pSo (eV 9)) (l := r.map D.int) rfl rfl (pSo_eq rfl)
    have s2 := eSl_eq (ρ := E rs ss c way at_ more (some (rD r)) (owR rs) (owS ss) (some (.int (more / 11 % m)))) (f := eV 3) (g := pSo (Fw.e2 dAdd (eV 9) (eC (.int 1)))) (h := pNo) (l := r.map D.int) rfl (pSo_eq rfl) rfl
    rw [c1] at s1
    rw [c2] at s2
    have er : rD (l1 ++ [v] ++ l2) = .lst (l1.map D.int ++ [.int v] ++ l2.map D.int) := by simp [rD]
    rw [er]
    exact e2_eq (e2_eq s1 (eLst_eq (aC_eq hv nilA) (show 1 ≤ LIM by decide)) (dAdd_lst (by simp; omega))) s2 (dAdd_lst (by simp; omega))
  have put := fun {fv : FE D} {r' : List Int} hv => put_eq (rs := rs) (ss := ss) (c := c) (way := way) (at_ := at_) (more := more) (row := some (rD r)) (spot := some (.int (more / 11 % m))) (told := owS ss) (fv := fv) (r' := r') h0 h1 hv
  have same : Sz rs ss (2 * b + 2) := hz.le (by omega)
  by_cases w0 : way = 0
  · subst w0
    -- a row made anew
    obtain ⟨l1, c1, b1⟩ := cut_map D.int r (some 1) none
    have s1 := eSl_eq (ρ := E rs ss c 0 at_ more (some (rD r)) (owR rs) (owS ss) (some (.int (more / 11 % m)))) (f := eV 3) (g := pSo (eC (.int 1))) (h := pNo) (l := r.map D.int) rfl (pSo_eq rfl) rfl
    rw [c1] at s1
    have a2 : Fw.e2 dAdd (eV 3) (eLst (aC (eC (.int 0)) aN)) (E rs ss c 0 at_ more (some (rD r)) (owR rs) (owS ss) (some (.int (more / 11 % m)))) = .ok (.lst (r.map D.int ++ [.int 0])) (E rs ss c 0 at_ more (some (rD r)) (owR rs) (owS ss) (some (.int (more / 11 % m)))) :=
      e2_eq rfl (eLst_eq (as := [.int 0]) (aC_eq rfl rfl) (show 1 ≤ LIM by decide)) (dAdd_lst (by simp; omega))
    have a5 : Fw.e2 dAdd (Fw.e2 dAdd (eV 3) (eV 3)) (eLst (aC (eC (.int 0)) (aC (eC (.int 0)) aN))) (E rs ss c 0 at_ more (some (rD r)) (owR rs) (owS ss) (some (.int (more / 11 % m)))) = .ok (.lst (r.map D.int ++ r.map D.int ++ [.int 0, .int 0])) (E rs ss c 0 at_ more (some (rD r)) (owR rs) (owS ss) (some (.int (more / 11 % m)))) :=
      e2_eq (e2_eq (a := rD r) (b := rD r) rfl rfl (dAdd_lst (by simp; omega))) (eLst_eq (as := [.int 0, .int 0]) (aC_eq rfl (aC_eq rfl rfl)) (show 2 ≤ LIM by decide)) (dAdd_lst (by simp; omega))
    obtain ⟨d, hd1, hd2⟩ := pick (l := [.lst (l1.map D.int), .lst (r.map D.int ++ [.int 0]), .lst [], .lst [.int 0], .lst (r.map D.int ++ r.map D.int ++ [.int 0, .int 0])]) (n := 5) rfl (by decide) more
    have hdR : isR (2 * b + 2) d := by
      simp only [List.mem_cons, List.not_mem_nil, or_false] at hd2
      rcases hd2 with rfl | rfl | rfl | rfl | rfl
      · exact ⟨l1, rfl, by omega⟩
      · exact ⟨r ++ [0], by simp [rD], by simp; omega⟩
      · exact ⟨[], rfl, by simp⟩
      · exact ⟨[0], rfl, by simp⟩
      · exact ⟨r ++ r ++ [0, 0], by simp [rD], by simp; omega⟩
    obtain ⟨r', rfl, hr'⟩ := hdR
    refine ⟨rs.set at_.toNat r', some (rD r), some (.int (more / 11 % m)), hz.setR (by omega) hr', ?_⟩
    refine seq_nx (if_yes (tV_eq (e2_eq rfl rfl (dEq_int 0 0))) (put (e2_eq (eLst_eq (aC_eq s1 (aC_eq a2 (aC_eq (eLst_eq nilA (show 0 ≤ LIM by decide)) (aC_eq (eLst_eq (as := [.int 0]) (aC_eq rfl nilA) (show 1 ≤ LIM by decide)) (aC_eq a5 nilA))))) (show 5 ≤ LIM by decide)) (e2_eq (a := .int more) rfl rfl (dMod_pos (j := 5) (by decide))) hd1))) ?_
    refine seq_nx (if_no (tA_no (tV_eq (e2_eq rfl rfl (dEq_int 0 1))))) ?_
    exact if_no (tA_no (tV_eq (e2_eq rfl rfl rfl)))
  · have w0' : (way == 0) = false := by simpa using w0
    have nope : ∀ sp, tV (Fw.e2 dEq (eV 6) (eC (.int 0))) (E rs ss c way at_ more (some (rD r)) (owR rs) (owS ss) sp) = .ok false (E rs ss c way at_ more (some (rD r)) (owR rs) (owS ss) sp) := fun sp => by
      have := tV_eq (ρ := E rs ss c way at_ more (some (rD r)) (owR rs) (owS ss) sp) (e2_eq (f := eV 6) (g := eC (.int 0)) (op := dEq) rfl rfl (dEq_int way 0))
      rwa [w0'] at this
    by_cases w1 : way = 1
    · subst w1
      by_cases hl : 0 < r.length
      · have hgt : iGt (r.length : Int) 0 = true := decide_eq_true (by omega)
        obtain ⟨d, hd1, hd2⟩ := pick (l := [.int (-1), .int rs.length, .int ((rs.length : Int) + 7), .int (-1 - more % 100000000000000000000)]) (n := 4) rfl (by decide) more
        obtain ⟨v, rfl⟩ : ∃ v, d = .int v := by
          simp only [List.mem_cons, List.not_mem_nil, or_false] at hd2
          rcases hd2 with rfl | rfl | rfl | rfl <;> exact ⟨_, rfl⟩
        have l4 := len4 (some (.int (more / 11 % m)))
        rw [List.length_map] at l4
        obtain ⟨r', hr', hv⟩ := around (Fw.e2 dIx (eLst (aC (Fw.e1 dNeg (eC (.int 1))) (aC (lenO 4) (aC (Fw.e2 dAdd (lenO 4) (eC (.int 7))) (aC (Fw.e2 dSub (Fw.e1 dNeg (eC (.int 1))) (Fw.e2 dMod (eV 8) (Fw.e2 dPow (eC (.int 10)) (eC (.int 20))))) aN))))) (Fw.e2 dMod (eV 8) (eC (.int 4)))) v
          (e2_eq (eLst_eq (aC_eq rfl (aC_eq l4 (aC_eq (e2_eq l4 rfl rfl) (aC_eq (e2_eq (a := .int (-1)) rfl (e2_eq (a := .int more) rfl (e2_eq rfl rfl pow20) (dMod_pos (by decide))) rfl) nilA)))) (show 4 ≤ LIM by decide)) (e2_eq (a := .int more) rfl rfl (dMod_pos (j := 4) (by decide))) hd1)
        refine ⟨rs.set at_.toNat r', some (rD r), some (.int (more / 11 % m)), hz.setR (by omega) hr', ?_⟩
        refine seq_nx (if_no (nope _)) ?_
        refine seq_nx (if_yes ?_ (put hv)) ?_
        · have := tA_eq (tV_eq (ρ := E rs ss c 1 at_ more (some (rD r)) (owR rs) (owS ss) (some (.int (more / 11 % m)))) (e2_eq (f := eV 6) (g := eC (.int 1)) (op := dEq) rfl rfl (dEq_int 1 1))) (tV_eq (e2_eq (eLr (some (.int (more / 11 % m)))) (g := eC (.int 0)) (op := dCmp iGt) rfl rfl))
          rw [hgt] at this
          exact this
        · exact if_no (tA_no (tV_eq (e2_eq rfl rfl rfl)))
      · have hgt : iGt (r.length : Int) 0 = false := decide_eq_false (by omega)
        refine ⟨rs, some (rD r), some (.int (more / 11 % m)), same, ?_⟩
        refine seq_nx (if_no (nope _)) ?_
        refine seq_nx (if_no ?_) ?_
        · have := tA_eq (tV_eq (ρ := E rs ss c 1 at_ more (some (rD r)) (owR rs) (owS ss) (some (.int (more / 11 % m)))) (e2_eq (f := eV 6) (g := eC (.int 1)) (op := dEq) rfl rfl (dEq_int 1 1))) (tV_eq (e2_eq (eLr (some (.int (more / 11 % m)))) (g := eC (.int 0)) (op := dCmp iGt) rfl rfl))
          rw [hgt] at this
          exact this
        · exact if_no (tA_no (tV_eq (e2_eq rfl rfl rfl)))
    · have w1' : (way == 1) = false := by simpa using w1
      have w2 : iGt way 1 = true := decide_eq_true (by omega)
      have no1 : tA (tV (Fw.e2 dEq (eV 6) (eC (.int 1)))) (tV (Fw.e2 (dCmp iGt) (eL dLen (aC (eV 3) aN)) (eC (.int 0)))) (E rs ss c way at_ more (some (rD r)) (owR rs) (owS ss) (some (.int (more / 11 % m)))) = .ok false (E rs ss c way at_ more (some (rD r)) (owR rs) (owS ss) (some (.int (more / 11 % m)))) := by
        refine tA_no ?_
        have := tV_eq (ρ := E rs ss c way at_ more (some (rD r)) (owR rs) (owS ss) (some (.int (more / 11 % m)))) (e2_eq (f := eV 6) (g := eC (.int 1)) (op := dEq) rfl rfl (dEq_int way 1))
        rwa [w1'] at this
      have t2 := tA_eq (tV_eq (ρ := E rs ss c way at_ more (some (rD r)) (owR rs) (owS ss) (some (.int (more / 11 % m)))) (e2_eq (f := eV 6) (g := eC (.int 1)) (op := dCmp iGt) (c := .bl (iGt way 1)) rfl rfl rfl)) (tV_eq (e2_eq (eLr (some (.int (more / 11 % m)))) (g := eC (.int 0)) (op := dCmp iGt) (c := .bl (iGt r.length 0)) rfl rfl))
      rw [w2, Bool.true_and] at t2
      by_cases hl : 0 < r.length
      · have hgt : iGt (r.length : Int) 0 = true := decide_eq_true (by omega)
        rw [hgt] at t2
        have l4 := len4 (some (.int (more / 11 % m)))
        rw [List.length_map] at l4
        obtain ⟨r', hr', hv⟩ := around (Fw.e2 dMod (eV 8) (lenO 4)) (more % rs.length) (e2_eq (a := .int more) rfl l4 (dMod_pos (by omega)))
        refine ⟨rs.set at_.toNat r', some (rD r), some (.int (more / 11 % m)), hz.setR (by omega) hr', ?_⟩
        refine seq_nx (if_no (nope _)) ?_
        refine seq_nx (if_no no1) ?_
        exact if_yes t2 (put hv)
      · have hgt : iGt (r.length : Int) 0 = false := decide_eq_false (by omega)
        rw [hgt] at t2
        refine ⟨rs, some (rD r), some (.int (more / 11 % m)), same, ?_⟩
        refine seq_nx (if_no (nope _)) ?_
        refine seq_nx (if_no no1) ?_
        exact if_no t2
end K20
end

section
set_option Elab.async false
set_option linter.all false
set_option autoImplicit false
set_option maxRecDepth 100000
set_option maxHeartbeats 4000000
namespace K20
open PySem PySem.Spec PyProof.Rows L2 Fw
theorem put_sign {rs : List (List Int)} {ss : List Int} {c way at_ more : Int} {row spot : Option D} {made : SV} {fv : FE D} {v : Int} (h0 : 0 ≤ at_) (h1 : at_ < ss.length)
    (hv : fv (E rs ss c way at_ more row made (owS ss) spot) = .ok (.int v) (E rs ss c way at_ more row made (owS ss) spot)) :
    sPut 5 fv (eV 7) setL (E rs ss c way at_ more row made (owS ss) spot) = .nx (E rs ss c way at_ more row made (owS (ss.set at_.toNat v)) spot) := by
  have e := sPut_eq (i := 5) (fi := eV 7) (kk := setL) (w := .l (ss.map .int)) (j := .int at_) hv rfl rfl (setL_at h0 (by rw [List.length_map]; exact h1))
  have em : (ss.map D.int).set at_.toNat (.int v) = (ss.set at_.toNat v).map D.int := by rw [List.map_set]
  rw [em] at e
  exact e
theorem ev_spoilt (rs : List (List Int)) (ss : List Int) (c : Int) {b : Nat} (hz : Sz rs ss b) (hb : b ≤ 1000) (hc : 0 ≤ c) : ∃ rs' ss', Sz rs' ss' (2 * b + 2) ∧ g_spoilt [DR rs, DSg ss, .int c] = .ok (.tup [DR rs', DSg ss']) := by
  have hLIM : (2 : Nat) * 1000 + 2 ≤ LIM := by decide
  obtain ⟨m, hm1, hm2, hm3, hm4⟩ := max_pos rs.length
  have hm2' : m < 2000000000 + 1001 := by have := hz.r; omega
  let way := c % 9
  let at_ := c / 9 % m
  let more := c / 100
  have hway : 0 ≤ way ∧ way < 9 := ⟨Int.emod_nonneg _ (by decide), Int.emod_lt_of_pos _ (by decide)⟩
  have hat : 0 ≤ at_ ∧ at_ < m := ⟨Int.emod_nonneg _ (by omega), Int.emod_lt_of_pos _ hm2⟩
  have hmore : 0 ≤ more := Int.ediv_nonneg hc (by decide)
  have same : Sz rs ss (2 * b + 2) := hz.le (by omega)
  -- the start
  have start : ∀ (g : FS) (x : Fw.Rd), fit (g (E rs ss c way at_ more none (owR rs) (owS ss) none)) = x →
      fit (sSeq (sSetO 4 (oLc (eLc (iS (eV 0)) (tgN 3) tYs (eL dList (aC (eV 3) aN)) [3]))) (sSeq (sSetO 5 (oList (aC (eV 1) aN))) (sSeq (sSet 6 (Fw.e2 dMod (eV 2) (eC (.int 9)))) (sSeq (sSet 7 (Fw.e2 dMod (Fw.e2 dDiv (eV 2) (eC (.int 9))) (eL dMax2 (aC (eC (.int 1)) (aC (lenO 4) aN))))) (sSeq (sSet 8 (Fw.e2 dDiv (eV 2) (eC (.int 100)))) g)))) (startP N_spoilt [.sh (DR rs), .sh (DSg ss), .sh (.int c)])) = x := by
    intro g x hx
    have ec := eLc_map (x := 3) (f := eL dList (aC (eV 3) aN)) (wi := iS (eV 0)) (ds := rs.map rD) (fun s => [.sh (DR rs), .sh (DSg ss), .sh (.int c), s, .un, .un, .un, .un, .un, .un]) (fun d => d) .un rfl (by rw [List.length_map]; have := hz.r; omega) rfl (fun _ => rfl) (fun _ => rfl) (fun _ => rfl) (fun d hd => by obtain ⟨r, _, rfl⟩ := List.mem_map.mp hd; rfl)
    rw [List.map_id'] at ec
    refine seq_fit (ρ' := [.sh (DR rs), .sh (DSg ss), .sh (.int c), .un, owR rs, .un, .un, .un, .un, .un]) (sSetO_eq (w := .l (rs.map rD)) ?_) ?_
    · show oLc _ [.sh (DR rs), .sh (DSg ss), .sh (.int c), .un, .un, .un, .un, .un, .un, .un] = _
      unfold oLc
      rw [ec]
      rfl
    refine seq_fit (ρ' := [.sh (DR rs), .sh (DSg ss), .sh (.int c), .un, owR rs, owS ss, .un, .un, .un, .un]) rfl ?_
    refine seq_fit (ρ' := [.sh (DR rs), .sh (DSg ss), .sh (.int c), .un, owR rs, owS ss, .sh (.int way), .un, .un, .un]) (sSet_eq (e2_eq rfl rfl (dMod_pos (by decide)))) ?_
    refine seq_fit (ρ' := [.sh (DR rs), .sh (DSg ss), .sh (.int c), .un, owR rs, owS ss, .sh (.int way), .sh (.int at_), .un, .un]) (sSet_eq (e2_eq (e2_eq rfl rfl (dDiv_pos (by decide) (by decide))) (eL_eq (as := [.int 1, .int rs.length]) (aC_eq rfl (aC_eq ?_ nilA)) hm1) (dMod_pos hm2))) ?_
    · have := lenO_R (i := 4) (ρ := [.sh (DR rs), .sh (DSg ss), .sh (.int c), .un, owR rs, owS ss, .sh (.int way), .un, .un, .un]) (l := rs.map rD) rfl
      rwa [List.length_map] at this
    exact seq_fit (ρ' := E rs ss c way at_ more none (owR rs) (owS ss) none) (sSet_eq (e2_eq rfl rfl (dDiv_pos (by decide) (by decide)))) hx
  -- tests
  have q6 : ∀ (row : Option D) (made told : SV) (spot : Option D) (k : Int), tV (Fw.e2 dEq (eV 6) (eC (.int k))) (E rs ss c way at_ more row made told spot) = .ok (way == k) (E rs ss c way at_ more row made told spot) := fun row made told spot k => tV_eq (e2_eq rfl rfl (dEq_int _ _))
  have g6 : ∀ (row : Option D) (made told : SV) (spot : Option D) (k : Int), tV (Fw.e2 (dCmp iGt) (eV 6) (eC (.int k))) (E rs ss c way at_ more row made told spot) = .ok (iGt way k) (E rs ss c way at_ more row made told spot) := fun row made told spot k => tV_eq (e2_eq rfl rfl rfl)
  have l6 : ∀ (row : Option D) (made told : SV) (spot : Option D) (k : Int), tV (Fw.e2 (dCmp iLt) (eV 6) (eC (.int k))) (E rs ss c way at_ more row made told spot) = .ok (iLt way k) (E rs ss c way at_ more row made told spot) := fun row made told spot k => tV_eq (e2_eq rfl rfl rfl)
  have eqF : ∀ k : Int, way ≠ k → (way == k) = false := fun k h => by simpa using h
  have no2 : ∀ (row : Option D) (made told : SV) (spot : Option D) (u : FE Bool) (k : Int), way ≠ k → tA (tV (Fw.e2 dEq (eV 6) (eC (.int k)))) u (E rs ss c way at_ more row made told spot) = .ok false (E rs ss c way at_ more row made told spot) := fun row made told spot u k h => tA_no (by rw [q6, eqF k h])
  have no1 : ∀ (row : Option D) (made told : SV) (spot : Option D) (k : Int), way ≠ k → tV (Fw.e2 dEq (eV 6) (eC (.int k))) (E rs ss c way at_ more row made told spot) = .ok false (E rs ss c way at_ more row made told spot) := fun row made told spot k h => by rw [q6, eqF k h]
  have fin0 : ∀ {rs' ss'} {row : Option D} {made told : SV} {spot : Option D}, isSV made (DR rs') → isSV told (DSg ss') → fit ((fun ρ => (fun ρ => (sRet (eTup (aC (eV 4) (aC (eV 5) aN)))) (frz 5 ρ)) (frz 4 ρ)) (E rs ss c way at_ more row made told spot)) = .ok (.tup [DR rs', DSg ss']) := fun h1 h2 => fin_eq h1 h2
  have own : ∀ (l : List D), isSV (.ow none (.l l)) (.lst l) := fun l => .inl ⟨l, rfl, rfl⟩
  have len4 : ∀ (row : Option D) (told : SV) (spot : Option D), lenO 4 (E rs ss c way at_ more row (owR rs) told spot) = .ok (.int rs.length) (E rs ss c way at_ more row (owR rs) told spot) := fun row told spot => by
    have := lenO_R (i := 4) (ρ := E rs ss c way at_ more row (owR rs) told spot) (l := rs.map rD) rfl
    rwa [List.length_map] at this
  have len5 : ∀ (row : Option D) (made : SV) (spot : Option D), lenO 5 (E rs ss c way at_ more row made (owS ss) spot) = .ok (.int ss.length) (E rs ss c way at_ more row made (owS ss) spot) := fun row made spot => by
    have := lenO_R (i := 5) (ρ := E rs ss c way at_ more row made (owS ss) spot) (l := ss.map .int) rfl
    rwa [List.length_map] at this
  have t1 : tA (tV (Fw.e2 (dCmp iLt) (eV 6) (eC (.int 4)))) (tV (Fw.e2 (dCmp iGt) (lenO 4) (eC (.int 0)))) (E rs ss c way at_ more none (owR rs) (owS ss) none) = .ok (iLt way 4 && iGt rs.length 0) (E rs ss c way at_ more none (owR rs) (owS ss) none) :=
    tA_eq (l6 _ _ _ _ _) (tV_eq (e2_eq (len4 _ _ _) rfl rfl))
  by_cases w3 : way < 4
  · have lt : iLt way 4 = true := decide_eq_true w3
    have gt3 : iGt way 3 = false := decide_eq_false (by omega)
    rw [lt, Bool.true_and] at t1
    have rest : ∀ {rs'} {row : Option D} {spot : Option D}, fit ((sSeq (sIf (tA (tV (Fw.e2 (dCmp iGt) (eV 6) (eC (.int 3)))) (tA (tV (Fw.e2 (dCmp iLt) (eV 6) (eC (.int 6)))) ((tV (Fw.e2 (dCmp iLt) (eV 7) (lenO 5)))))) (sPut 5 (Fw.e2 dIx (eLst (aC (Fw.e1 dNeg (eC (.int 1))) (aC (eC (.int 10)) (aC (Fw.e2 dMod (eV 8) (eC (.int 4))) (aC (Fw.e2 dAdd (eC (.int 99)) (Fw.e2 dMod (eV 8) (Fw.e2 dPow (eC (.int 10)) (eC (.int 20))))) aN))))) (Fw.e2 dMod (eV 8) (eC (.int 4)))) (eV 7) setL) sNx)
        (sSeq (sIf (tV (Fw.e2 (dEq) (eV 6) (eC (.int 6)))) (fun ρ => (sSet 5 (Fw.e2 dIx (eLst (aC (eSl (eV 5) (pSo (eC (.int 1))) pNo) (aC (Fw.e2 dAdd (eV 5) (eLst (aC (eC (.int 0)) aN))) aN))) (Fw.e2 dMod (eV 8) (eC (.int 2))))) (frz 5 ρ)) sNx)
        (sSeq (sIf (tV (Fw.e2 (dEq) (eV 6) (eC (.int 7)))) (fun ρ => (sSet 4 (Fw.e2 dIx (eLst (aC (eLst aN) (aC (Fw.e2 dAdd (eV 4) (eLst (aC (eLst (aC (eC (.int 0)) (aC (eC (.int 0)) aN))) aN))) aN))) (Fw.e2 dMod (eV 8) (eC (.int 2))))) (frz 4 ρ)) sNx)
        (sSeq (sIf (tA (tV (Fw.e2 (dEq) (eV 6) (eC (.int 8)))) ((tV (Fw.e2 (dCmp iLt) (eV 7) (lenO 5))))) (sPut 5 (Fw.e2 dMod (Fw.e2 dAdd (withO 5 (eV 7) ixL) (eC (.int 1))) (eC (.int 4))) (eV 7) setL) sNx)
        (fun ρ => (fun ρ => (sRet (eTup (aC (eV 4) (aC (eV 5) aN)))) (frz 5 ρ)) (frz 4 ρ)))))) (E rs ss c way at_ more row (owR rs') (owS ss) spot)) = .ok (.tup [DR rs', DSg ss]) := fun {rs' row spot} => by
      refine seq_fit (if_no (tA_no (by rw [g6, gt3]))) ?_
      refine seq_fit (if_no (no1 _ _ _ _ 6 (by omega))) ?_
      refine seq_fit (if_no (no1 _ _ _ _ 7 (by omega))) ?_
      refine seq_fit (if_no (no2 _ _ _ _ _ 8 (by omega))) ?_
      exact fin0 (own _) (own _)
    by_cases hl : 0 < rs.length
    · have hgt : iGt (rs.length : Int) 0 = true := decide_eq_true (by omega)
      rw [hgt] at t1
      obtain ⟨rs', row, spot, hs', hp⟩ := row_part (rs := rs) (ss := ss) (c := c) (way := way) (at_ := at_) (more := more) hz hb hat.1 (by rw [← hm4 hl]; exact hat.2) ⟨hway.1, w3⟩ hmore
      refine ⟨rs', ss, hs', start _ _ ?_⟩
      exact seq_fit (if_yes t1 hp) rest
    · have hgt : iGt (rs.length : Int) 0 = false := decide_eq_false (by omega)
      rw [hgt] at t1
      refine ⟨rs, ss, same, start _ _ ?_⟩
      exact seq_fit (if_no t1) rest
  · have lt : iLt way 4 = false := decide_eq_false w3
    have gt3 : iGt way 3 = true := decide_eq_true (by omega)
    rw [lt, Bool.false_and] at t1
    have t2 : tA (tV (Fw.e2 (dCmp iGt) (eV 6) (eC (.int 3)))) (tA (tV (Fw.e2 (dCmp iLt) (eV 6) (eC (.int 6)))) (tV (Fw.e2 (dCmp iLt) (eV 7) (lenO 5)))) (E rs ss c way at_ more none (owR rs) (owS ss) none) = .ok (iGt way 3 && (iLt way 6 && iLt at_ ss.length)) (E rs ss c way at_ more none (owR rs) (owS ss) none) :=
      tA_eq (g6 _ _ _ _ _) (tA_eq (l6 _ _ _ _ _) (tV_eq (e2_eq rfl (len5 _ _ _) rfl)))
    rw [gt3, Bool.true_and] at t2
    by_cases w5 : way < 6
    · have l5 : iLt way 6 = true := decide_eq_true w5
      rw [l5, Bool.true_and] at t2
      by_cases hl : at_ < ss.length
      · have hlt : iLt at_ (ss.length : Int) = true := decide_eq_true hl
        rw [hlt] at t2
        obtain ⟨d, hd1, hd2⟩ := pick (l := [.int (-1), .int 10, .int (more % 4), .int (99 + more % 100000000000000000000)]) (n := 4) rfl (by decide) more
        obtain ⟨v, rfl⟩ : ∃ v, d = .int v := by
          simp only [List.mem_cons, List.not_mem_nil, or_false] at hd2
          rcases hd2 with rfl | rfl | rfl | rfl <;> exact ⟨_, rfl⟩
        refine ⟨rs, ss.set at_.toNat v, ⟨same.r, by rw [List.length_set]; exact same.s, same.e⟩, start _ _ ?_⟩
        refine seq_fit (if_no t1) ?_
        refine seq_fit (if_yes t2 (put_sign hat.1 hl (v := v) (e2_eq (eLst_eq (aC_eq rfl (aC_eq rfl (aC_eq (e2_eq (a := .int more) rfl rfl (dMod_pos (by decide))) (aC_eq (e2_eq rfl (e2_eq (a := .int more) rfl (e2_eq rfl rfl pow20) (dMod_pos (by decide))) rfl) nilA)))) (show 4 ≤ LIM by decide)) (e2_eq (a := .int more) rfl rfl (dMod_pos (j := 4) (by decide))) hd1))) ?_
        refine seq_fit (if_no (no1 _ _ _ _ 6 (by omega))) ?_
        refine seq_fit (if_no (no1 _ _ _ _ 7 (by omega))) ?_
        refine seq_fit (if_no (no2 _ _ _ _ _ 8 (by omega))) ?_
        exact fin0 (own _) (own _)
      · have hlt : iLt at_ (ss.length : Int) = false := decide_eq_false hl
        rw [hlt] at t2
        refine ⟨rs, ss, same, start _ _ ?_⟩
        refine seq_fit (if_no t1) ?_
        refine seq_fit (if_no t2) ?_
        refine seq_fit (if_no (no1 _ _ _ _ 6 (by omega))) ?_
        refine seq_fit (if_no (no1 _ _ _ _ 7 (by omega))) ?_
        refine seq_fit (if_no (no2 _ _ _ _ _ 8 (by omega))) ?_
        exact fin0 (own _) (own _)
    · have l5 : iLt way 6 = false := decide_eq_false w5
      rw [l5, Bool.false_and] at t2
      by_cases w6 : way = 6
      · obtain ⟨l1, c1, b1⟩ := cut_map D.int ss (some 1) none
        have s1 := eSl_eq (ρ := E rs ss c way at_ more none (owR rs) (.sh (DSg ss)) none) (f := eV 5) (g := pSo (eC (.int 1))) (h := pNo) (l := ss.map D.int) rfl (pSo_eq rfl) rfl
        rw [c1] at s1
        have hss := hz.s
        obtain ⟨d, hd1, hd2⟩ := pick (l := [.lst (l1.map D.int), .lst (ss.map D.int ++ [.int 0])]) (n := 2) rfl (by decide) more
        obtain ⟨ss', rfl, hs'⟩ : ∃ ss' : List Int, d = DSg ss' ∧ ss'.length ≤ 2 * b + 2 := by
          simp only [List.mem_cons, List.not_mem_nil, or_false] at hd2
          rcases hd2 with rfl | rfl
          · exact ⟨l1, rfl, by omega⟩
          · exact ⟨ss ++ [0], by simp [DSg], by simp; omega⟩
        refine ⟨rs, ss', ⟨same.r, hs', same.e⟩, start _ _ ?_⟩
        refine seq_fit (if_no t1) ?_
        refine seq_fit (if_no t2) ?_
        refine seq_fit (ρ' := E rs ss c way at_ more none (owR rs) (.sh (DSg ss')) none) (if_yes (by rw [q6]; simp [w6]) ?_) ?_
        · show sSet 5 _ (E rs ss c way at_ more none (owR rs) (.sh (DSg ss)) none) = _
          exact sSet_eq (e2_eq (eLst_eq (aC_eq s1 (aC_eq (e2_eq rfl (eLst_eq (as := [.int 0]) (aC_eq rfl nilA) (show 1 ≤ LIM by decide)) (dAdd_lst (by simp; omega))) nilA)) (show 2 ≤ LIM by decide)) (e2_eq (a := .int more) rfl rfl (dMod_pos (j := 2) (by decide))) hd1)
        refine seq_fit (if_no (no1 _ _ _ _ 7 (by omega))) ?_
        refine seq_fit (if_no (no2 _ _ _ _ _ 8 (by omega))) ?_
        exact fin0 (own _) (.inr rfl)
      · by_cases w7 : way = 7
        · have hrs := hz.r
          obtain ⟨d, hd1, hd2⟩ := pick (l := [.lst [], .lst (rs.map rD ++ [.lst [.int 0, .int 0]])]) (n := 2) rfl (by decide) more
          obtain ⟨rs', rfl, hs'⟩ : ∃ rs' : List (List Int), d = DR rs' ∧ Sz rs' ss (2 * b + 2) := by
            simp only [List.mem_cons, List.not_mem_nil, or_false] at hd2
            rcases hd2 with rfl | rfl
            · exact ⟨[], rfl, Nat.zero_le _, same.s, fun r hr => by cases hr⟩
            · refine ⟨rs ++ [[0, 0]], by simp [DR, rD], by simp; omega, same.s, fun r hr => ?_⟩
              rcases List.mem_append.mp hr with h | h
              · exact same.e r h
              · rw [List.mem_singleton] at h
                subst h
                show 2 ≤ _
                omega
          refine ⟨rs', ss, hs', start _ _ ?_⟩
          refine seq_fit (if_no t1) ?_
          refine seq_fit (if_no t2) ?_
          refine seq_fit (if_no (no1 _ _ _ _ 6 (by omega))) ?_
          refine seq_fit (ρ' := E rs ss c way at_ more none (.sh (DR rs')) (owS ss) none) (if_yes (by rw [q6]; simp [w7]) ?_) ?_
          · show sSet 4 _ (E rs ss c way at_ more none (.sh (DR rs)) (owS ss) none) = _
            exact sSet_eq (e2_eq (eLst_eq (aC_eq (eLst_eq nilA (show 0 ≤ LIM by decide)) (aC_eq (e2_eq rfl (eLst_eq (as := [.lst [.int 0, .int 0]]) (aC_eq (eLst_eq (as := [.int 0, .int 0]) (aC_eq rfl (aC_eq rfl nilA)) (show 2 ≤ LIM by decide)) nilA) (show 1 ≤ LIM by decide)) (dAdd_lst (by simp; omega))) nilA)) (show 2 ≤ LIM by decide)) (e2_eq (a := .int more) rfl rfl (dMod_pos (j := 2) (by decide))) hd1)
          refine seq_fit (if_no (no2 _ _ _ _ _ 8 (by omega))) ?_
          exact fin0 (.inr rfl) (own _)
        · have w8 : way = 8 := by omega
          have t5 : tA (tV (Fw.e2 (dEq) (eV 6) (eC (.int 8)))) (tV (Fw.e2 (dCmp iLt) (eV 7) (lenO 5))) (E rs ss c way at_ more none (owR rs) (owS ss) none) = .ok ((way == 8) && iLt at_ ss.length) (E rs ss c way at_ more none (owR rs) (owS ss) none) :=
            tA_eq (q6 _ _ _ _ _) (tV_eq (e2_eq rfl (len5 _ _ _) rfl))
          have e8 : (way == 8) = true := by simp [w8]
          rw [e8, Bool.true_and] at t5
          by_cases hl : at_ < ss.length
          · have hlt : iLt at_ (ss.length : Int) = true := decide_eq_true hl
            rw [hlt] at t5
            refine ⟨rs, ss.set at_.toNat ((ss.getD at_.toNat 0 + 1) % 4), ⟨same.r, by rw [List.length_set]; exact same.s, same.e⟩, start _ _ ?_⟩
            refine seq_fit (if_no t1) ?_
            refine seq_fit (if_no t2) ?_
            refine seq_fit (if_no (no1 _ _ _ _ 6 (by omega))) ?_
            refine seq_fit (if_no (no1 _ _ _ _ 7 (by omega))) ?_
            refine seq_fit (if_yes t5 (put_sign hat.1 hl (e2_eq (e2_eq (a := .int (ss.getD at_.toNat 0)) ?_ rfl rfl) rfl (dMod_pos (by decide))))) ?_
            · show liftO (atD (ss.map D.int) at_) _ = _
              rw [atD_nat hat.1 hl]
              rfl
            exact fin0 (own _) (own _)
          · have hlt : iLt at_ (ss.length : Int) = false := decide_eq_false hl
            rw [hlt] at t5
            refine ⟨rs, ss, same, start _ _ ?_⟩
            refine seq_fit (if_no t1) ?_
            refine seq_fit (if_no t2) ?_
            refine seq_fit (if_no (no1 _ _ _ _ 6 (by omega))) ?_
            refine seq_fit (if_no (no1 _ _ _ _ 7 (by omega))) ?_
            refine seq_fit (if_no t5) ?_
            exact fin0 (own _) (own _)
end K20
end

section
set_option Elab.async false
set_option linter.all false
set_option autoImplicit false
set_option maxRecDepth 100000
set_option maxHeartbeats 4000000
namespace K20
open PySem PySem.Spec PyProof.Rows L2 Fw
/-! ### the machine drawn -/
abbrev M (cs : List Int) (n m : Nat) (dss : List (List Int)) (sg : List Int) (k num : Option D) (row : SV) (j : Option D) : PEnv :=
  [.sh (DSg cs), .sh (.int n), .sh (.int m), .sh (.int 4), .ow none (.ld (dss.map fun r => r.map .int)), .ow none (.l (sg.map .int)), sv k, sv num, row, sv j]
theorem mL_eq {i : Nat} {f : FE (List D)} {kk : OV → List D → Option (OV × D)} {ρ : PEnv} {l : List D} {as : List D} {w' : OV} {d : D} (hw : getO i ρ = some (.l l)) (hf : f ρ = .ok as ρ) (hk : kk (.l l) as = some (w', d)) : mL i f kk ρ = .ok d (setO i w' ρ) := by
  unfold mL
  rw [hw]
  dsimp only
  rw [hf]
  dsimp only [R.bind]
  rw [hw]
  dsimp only
  rw [hk]
theorem appL_eq {l : List D} {d : D} (h : l.length < LIM) : appL (.l l) [d] = some (.l (l ++ [d]), .non) := if_pos h
theorem sDrop_eq {f : FE D} {d : D} {ρ ρ' : PEnv} (h : f ρ = .ok d ρ') : sDrop f ρ = .nx ρ' := by
  unfold sDrop
  rw [h]
def r1K (as : List D) (ρ : PEnv) : R (List D) := match as with
  | [.int j] => if -(2 ^ 62) ≤ j ∧ j < 2 ^ 62 then .ok (rng 0 j.toNat) ρ else .no
  | _ => .no
theorem r1K_eq (j : Int) (ρ : PEnv) : r1K [.int j] ρ = if -(2 ^ 62) ≤ j ∧ j < 2 ^ 62 then .ok (rng 0 j.toNat) ρ else .no := by
  unfold r1K
  rfl
theorem e4 {n : Nat} {ρ : PEnv} (hn : n < 1000000) : r1K [.int n] ρ = .ok (rng 0 n) ρ := by
  rw [r1K_eq]
  split
  · rw [Int.toNat_natCast]
  · rename_i h
    exfalso
    omega
theorem bind_ok {α β : Type} {a : α} {ρ : PEnv} {k : α → PEnv → R β} : (R.ok a ρ).bind k = k a ρ := rfl
theorem iR1_eq {f : FE (List D)} {ρ : PEnv} {n : Nat} (h : f ρ = .ok [.int n] ρ) (hn : n < 1000000) : iR1 f ρ = .ok (rng 0 n) ρ := by
  have e : iR1 f ρ = (f ρ).bind r1K := rfl
  rw [e, h, bind_ok]
  exact e4 hn
theorem sFor_eq {g : D → PEnv → Option PEnv} {b : FS} {wi : FE (List D)} {ρ : PEnv} {ds : List D} {x : RS} (h : wi ρ = .ok ds ρ) (h2 : forF g b ds ρ = x) : sFor g b wi ρ = x := by
  unfold sFor
  rw [h]
  exact h2
theorem seqN_fit {f g : FS} {ρ ρ' : PEnv} {x : Fw.Rd} (h : f ρ = .nx ρ') (h2 : fitN (g ρ') = x) : fitN (sSeq f g ρ) = x := by
  rw [sSeq_eq h]
  exact h2
theorem rng_len (n : Nat) : (rng 0 n).length = n := by unfold rng; simp
theorem mL_inner (cs : List Int) (n m : Nat) (hn : 0 < n) (hn2 : n < 100) (hm : m < 1000) (dss : List (List Int)) (sg : List Int) (k : Option D) (x : Int) (hx : 0 ≤ x ∧ x < 2147483647) (j : Option D) :
    ∃ x' rl j', forF (tgN 9) (sSeq (sSet 7 (Fw.e2 dMod (Fw.e2 dMul (eV 7) (eC (.int 16807))) (eC (.int 2147483647)))) (sDrop (mL 8 (aC (Fw.e2 dMod (Fw.e2 dDiv (eV 7) (eC (.int 11))) (eV 1)) aN) appL))) (rng 0 m) (M cs n m dss sg k (some (.int x)) (.ow none (.l [])) j) = .nx (M cs n m dss sg k (some (.int x')) (.ow none (.l ((rl : List Int).map .int))) j') ∧ rl.length = m := by
  have z := for_inv (g := tgN 9) (b := sSeq (sSet 7 (Fw.e2 dMod (Fw.e2 dMul (eV 7) (eC (.int 16807))) (eC (.int 2147483647)))) (sDrop (mL 8 (aC (Fw.e2 dMod (Fw.e2 dDiv (eV 7) (eC (.int 11))) (eV 1)) aN) appL)))
    (fun a : Int × List Int × Option D => M cs n m dss sg k (some (.int a.1)) (.ow none (.l (a.2.1.map .int))) a.2.2) (fun i a => (0 ≤ a.1 ∧ a.1 < 2147483647) ∧ a.2.1.length = i) (rng 0 m) 0 (fun i d hd a ha => by
      obtain ⟨h1, rfl⟩ := rng_get hd
      obtain ⟨y, rl, jj⟩ := a
      obtain ⟨hy, hl⟩ := ha
      dsimp only at hy hl
      refine ⟨_, (y * 16807 % 2147483647, rl ++ [y * 16807 % 2147483647 / 11 % n], some (.int (0 + i))), rfl, ?_, ⟨Int.emod_nonneg _ (by decide), Int.emod_lt_of_pos _ (by decide)⟩, by simp; omega⟩
      have e1 : sSet 7 (Fw.e2 dMod (Fw.e2 dMul (eV 7) (eC (.int 16807))) (eC (.int 2147483647))) (M cs n m dss sg k (some (.int y)) (.ow none (.l (rl.map .int))) (some (.int (0 + i)))) = .nx (M cs n m dss sg k (some (.int (y * 16807 % 2147483647))) (.ow none (.l (rl.map .int))) (some (.int (0 + i)))) :=
        sSet_eq (e2_eq (e2_eq rfl rfl (if_pos (mulS (by omega) (by decide)))) rfl (dMod_pos (by decide)))
      refine seq_nx e1 ?_
      have e2' : mL 8 (aC (Fw.e2 dMod (Fw.e2 dDiv (eV 7) (eC (.int 11))) (eV 1)) aN) appL (M cs n m dss sg k (some (.int (y * 16807 % 2147483647))) (.ow none (.l (rl.map .int))) (some (.int (0 + i)))) = .ok .non (setO 8 (.l (rl.map .int ++ [.int (y * 16807 % 2147483647 / 11 % n)])) (M cs n m dss sg k (some (.int (y * 16807 % 2147483647))) (.ow none (.l (rl.map .int))) (some (.int (0 + i))))) :=
        mL_eq (l := rl.map .int) rfl (aC_eq (e2_eq (e2_eq rfl rfl (dDiv_pos (by decide) (by decide))) rfl (dMod_pos (by omega))) nilA) (appL_eq (by rw [List.length_map]; unfold LIM; omega))
      rw [sDrop_eq e2']
      show RS.nx (M cs n m dss sg k _ (.ow none (.l (rl.map .int ++ [.int (y * 16807 % 2147483647 / 11 % n)]))) _) = _
      rw [show rl.map D.int ++ [.int (y * 16807 % 2147483647 / 11 % n)] = (rl ++ [y * 16807 % 2147483647 / 11 % n]).map .int by simp]) (x, [], j) ⟨hx, rfl⟩
  obtain ⟨⟨x', rl, j'⟩, z1, z2, z3⟩ := z
  rw [rng_len, Nat.zero_add] at z3
  exact ⟨x', rl, j', z1, z3⟩
theorem mLd_eq {ρ : PEnv} {dss : List (List D)} {ds : List D} {i j : Nat} (h1 : getO i ρ = some (.ld dss)) (h2 : getO j ρ = some (.l ds)) (h3 : getO i (ρ.set j .un) = some (.ld dss)) (h : dss.length < LIM) : mLd i (oMv j) ρ = .ok .non (setO i (.ld (dss ++ [ds])) (ρ.set j .un)) := by
  unfold mLd
  rw [h1]
  have e : oMv j ρ = .ok (.l ds) (ρ.set j .un) := by
    unfold oMv
    rw [h2]
  dsimp only
  rw [e]
  dsimp only
  rw [h3]
  dsimp only
  rw [if_pos h]
abbrev tD (r : List Int) : D := .tup (r.map .int)
theorem ev_machine (cs : List Int) (n m : Nat) (hn : 0 < n) (hn2 : n < 100) (hm0 : 0 < m) (hm : m < 1000) : ∃ rs ss, g_machine_by [DSg cs, .int n, .int m, .int 4] = .ok (.tup [.tup ((rs : List (List Int)).map tD), .tup ((ss : List Int).map .int)]) ∧ rs.length = n ∧ ss.length = n ∧ ∀ r ∈ rs, r.length = m := by
  have z := for_inv (g := tgN 6) (b := sSeq (sSet 7 (eCall (lenG 2 g_mixed) [] (aC (eCall (lenG 2 g_cell_at) [] (aC (eV 0) (aC (eV 6) aN))) (aC (eV 6) aN))))
    (sSeq (sDrop (mL 5 (aC (Fw.e2 dMod (eV 7) (eV 3)) aN) appL))
    (sSeq (sSetO 8 (oLst aN))
    (sSeq (sFor (tgN 9) (sSeq (sSet 7 (Fw.e2 dMod (Fw.e2 dMul (eV 7) (eC (.int 16807))) (eC (.int 2147483647))))
    (sDrop (mL 8 (aC (Fw.e2 dMod (Fw.e2 dDiv (eV 7) (eC (.int 11))) (eV 1)) aN) appL))) (iR1 (aC (eV 2) aN)))
    (sDrop (mLd 4 (oMv 8)))))))
    (fun a : List (List Int) × List Int × Option D × Option D × Option D => M cs n m a.1 a.2.1 a.2.2.1 a.2.2.2.1 .un a.2.2.2.2) (fun i a => a.1.length = i ∧ a.2.1.length = i ∧ ∀ r ∈ a.1, r.length = m) (rng 0 n) 0 (fun i d hd a ha => by
      obtain ⟨h1, rfl⟩ := rng_get hd
      rw [Int.zero_add]
      obtain ⟨dss, sg, kk, num, jj⟩ := a
      obtain ⟨i1, i2, i3⟩ := ha
      dsimp only at i1 i2 i3
      have em := g_mixed_eq (cell cs i) i (by omega) (by omega)
      have er := mixed_range (cell cs i) i
      obtain ⟨x', rl, j', z1, z2⟩ := mL_inner cs n m hn hn2 hm dss (sg ++ [mixed (cell cs i) i % 4]) (some (.int i)) (mixed (cell cs i) i) er jj
      refine ⟨_, (dss ++ [rl], sg ++ [mixed (cell cs i) i % 4], some (.int i), some (.int x'), j'), rfl, ?_, by simp; omega, by simp; omega, fun r hr => ?_⟩
      · have e1 : sSet 7 (eCall (lenG 2 g_mixed) [] (aC (eCall (lenG 2 g_cell_at) [] (aC (eV 0) (aC (eV 6) aN))) (aC (eV 6) aN))) (M cs n m dss sg (some (.int i)) num .un jj) = .nx (M cs n m dss sg (some (.int i)) (some (.int (mixed (cell cs i) i))) .un jj) :=
          sSet_eq (eCall_eq (aC_eq (eCall_eq (g := lenG 2 g_cell_at) (as := [DSg cs, .int i]) (aC_eq rfl (aC_eq rfl nilA)) (g_cell_eq cs i)) (aC_eq rfl nilA)) em)
        refine seq_nx e1 ?_
        have e2' : mL 5 (aC (Fw.e2 dMod (eV 7) (eV 3)) aN) appL (M cs n m dss sg (some (.int i)) (some (.int (mixed (cell cs i) i))) .un jj) = .ok .non (setO 5 (.l (sg.map .int ++ [.int (mixed (cell cs i) i % 4)])) (M cs n m dss sg (some (.int i)) (some (.int (mixed (cell cs i) i))) .un jj)) :=
          mL_eq (l := sg.map .int) rfl (aC_eq (e2_eq rfl rfl (dMod_pos (by decide))) nilA) (appL_eq (by rw [List.length_map]; unfold LIM; omega))
        have es : sg.map D.int ++ [.int (mixed (cell cs i) i % 4)] = (sg ++ [mixed (cell cs i) i % 4]).map .int := by simp
        rw [es] at e2'
        refine seq_nx (ρ' := M cs n m dss (sg ++ [mixed (cell cs i) i % 4]) (some (.int i)) (some (.int (mixed (cell cs i) i))) .un jj) (sDrop_eq e2') ?_
        refine seq_nx (ρ' := M cs n m dss (sg ++ [mixed (cell cs i) i % 4]) (some (.int i)) (some (.int (mixed (cell cs i) i))) (.ow none (.l [])) jj) rfl ?_
        refine seq_nx (ρ' := M cs n m dss (sg ++ [mixed (cell cs i) i % 4]) (some (.int i)) (some (.int x')) (.ow none (.l (rl.map .int))) j') ?_ ?_
        · exact sFor_eq (iR1_eq (n := m) (aC_eq rfl nilA) (by omega)) z1
        · have e3 := mLd_eq (ρ := M cs n m dss (sg ++ [mixed (cell cs i) i % 4]) (some (.int i)) (some (.int x')) (.ow none (.l (rl.map .int))) j') (i := 4) (j := 8) (dss := dss.map fun r => r.map .int) (ds := rl.map .int) rfl rfl rfl (by rw [List.length_map]; unfold LIM; omega)
          rw [sDrop_eq e3]
          have ed : (dss.map fun r => r.map D.int) ++ [rl.map .int] = (dss ++ [rl]).map fun r => r.map .int := by simp
          show RS.nx [_, _, _, _, .ow none (.ld ((dss.map fun r => r.map D.int) ++ [rl.map .int])), _, _, _, _, _] = _
          rw [ed]
      · rcases List.mem_append.mp hr with h | h
        · exact i3 r h
        · rw [List.mem_singleton] at h
          rw [h, z2]) ([], [], none, none, none) ⟨rfl, rfl, fun r hr => by cases hr⟩
  obtain ⟨⟨dss, sg, kk, num, jj⟩, z1, i1, i2, i3⟩ := z
  rw [rng_len, Nat.zero_add] at i1 i2
  dsimp only at i1 i2 i3 z1
  have hlm : ∀ r ∈ dss, r.length = m := i3
  match dss, i1, hlm with
  | (x0 :: r0) :: rest, i1, hlm =>
    refine ⟨(0 :: r0) :: rest, sg, ?_, by simpa using i1, i2, fun r hr => ?_⟩
    · have hall : (((x0 :: r0) :: rest).map fun r => r.map D.int).all (fun ds => ds.all scal) = true := by
        rw [List.all_map]
        refine List.all_eq_true.mpr fun r _ => ?_
        show (r.map D.int).all scal = true
        rw [List.all_map]
        exact List.all_eq_true.mpr fun _ _ => rfl
      have hsg : (sg.map D.int).all scal = true := by
        rw [List.all_map]
        exact List.all_eq_true.mpr fun _ _ => rfl
      have hzp : zeroP 4 (M cs n m ((x0 :: r0) :: rest) sg kk num .un jj) = some (((M cs n m ((x0 :: r0) :: rest) sg kk num .un jj).map scalS).set 4 (.sh (.lst (.lst (.int 0 :: r0.map .int) :: (rest.map fun r => r.map D.int).map .lst)))) := by
        exact if_pos hall
      refine seqN_fit (ρ' := (startP N_machine_by [.sh (DSg cs), .sh (.int n), .sh (.int m), .sh (.int 4)]).set 4 (.ow none (.ld []))) rfl ?_
      refine seqN_fit (ρ' := ((startP N_machine_by [.sh (DSg cs), .sh (.int n), .sh (.int m), .sh (.int 4)]).set 4 (.ow none (.ld []))).set 5 (.ow none (.l []))) rfl ?_
      refine seqN_fit (sFor_eq (iR1_eq (n := n) (aC_eq rfl nilA) (by omega)) z1) ?_
      dsimp only
      rw [hzp]
      have henv : ((M cs n m ((x0 :: r0) :: rest) sg kk num .un jj).map scalS).set 4 (.sh (.lst (.lst (.int 0 :: r0.map .int) :: (rest.map fun r => r.map D.int).map .lst))) = [.un, .sh (.int n), .sh (.int m), .sh (.int 4), .sh (DR ((0 :: r0) :: rest)), .ow none (.l (sg.map .int)), scalS (sv kk), scalS (sv num), .un, scalS (sv jj)] := by
        have e1 : (.lst (.lst (.int 0 :: r0.map .int) :: (rest.map fun r => r.map D.int).map .lst) : D) = DR ((0 :: r0) :: rest) := by
          simp [DR, rD]
        have e2' : scalS (.ow none (.l (sg.map .int))) = .ow none (.l (sg.map .int)) := if_pos hsg
        rw [e1]
        show [.un, .sh (.int n), .sh (.int m), .sh (.int 4), .sh (DR ((0 :: r0) :: rest)), scalS (.ow none (.l (sg.map .int))), scalS (sv kk), scalS (sv num), .un, scalS (sv jj)] = _
        rw [e2']
      rw [henv]
      have ec := eLc_map (x := 8) (f := eL dTuple (aC (eV 8) aN)) (wi := iS (eV 4)) (ds := ((0 :: r0) :: rest).map rD) (fun s => [.un, .sh (.int n), .sh (.int m), .sh (.int 4), .sh (DR ((0 :: r0) :: rest)), .sh (DSg sg), scalS (sv kk), scalS (sv num), s, scalS (sv jj)]) (fun d => match d with | .lst l => .tup l | d => d) .un rfl (by rw [List.length_map]; have := i1; simp only [List.length_cons] at this ⊢; unfold LIM; omega) rfl (fun _ => rfl) (fun _ => rfl) (fun _ => rfl) (fun d hd => by obtain ⟨r, _, rfl⟩ := List.mem_map.mp hd; rfl)
      rw [List.map_map] at ec
      have e1 : eL dTuple (aC (vLc (eLc (iS (eV 4)) (tgN 8) tYs (eL dTuple (aC (eV 8) aN)) [8])) aN) [.un, .sh (.int n), .sh (.int m), .sh (.int 4), .sh (DR ((0 :: r0) :: rest)), .sh (DSg sg), scalS (sv kk), scalS (sv num), .un, scalS (sv jj)] = .ok (.tup (((0 :: r0) :: rest).map tD)) [.un, .sh (.int n), .sh (.int m), .sh (.int 4), .sh (DR ((0 :: r0) :: rest)), .sh (DSg sg), scalS (sv kk), scalS (sv num), .un, scalS (sv jj)] := by
        refine eL_eq (aC_eq (a := .lst (((0 :: r0) :: rest).map tD)) ?_ nilA) rfl
        unfold vLc
        rw [ec]
        rfl
      have e2' : eTup (aC (eL dTuple (aC (vLc (eLc (iS (eV 4)) (tgN 8) tYs (eL dTuple (aC (eV 8) aN)) [8])) aN)) (aC (eL dTuple (aC (eV 5) aN)) aN)) [.un, .sh (.int n), .sh (.int m), .sh (.int 4), .sh (DR ((0 :: r0) :: rest)), .sh (DSg sg), scalS (sv kk), scalS (sv num), .un, scalS (sv jj)] = .ok (.tup [.tup (((0 :: r0) :: rest).map tD), .tup (sg.map .int)]) [.un, .sh (.int n), .sh (.int m), .sh (.int 4), .sh (DR ((0 :: r0) :: rest)), .sh (DSg sg), scalS (sv kk), scalS (sv num), .un, scalS (sv jj)] :=
        eTup_eq (aC_eq e1 (aC_eq (eL_eq (aC_eq rfl nilA) rfl) nilA)) (show 2 ≤ LIM by decide)
      show fitN (onlyRt (sRet _ [.un, .sh (.int n), .sh (.int m), .sh (.int 4), .sh (DR ((0 :: r0) :: rest)), .sh (DSg sg), scalS (sv kk), scalS (sv num), .un, scalS (sv jj)])) = _
      unfold sRet
      rw [e2']
      rfl
    · rcases List.mem_cons.mp hr with h | h
      · rw [h]
        have := hlm (x0 :: r0) List.mem_cons_self
        simpa using this
      · exact hlm r (List.mem_cons_of_mem _ h)
  | [] :: rest, i1, hlm =>
    have := hlm [] List.mem_cons_self
    simp at this
    omega
  | [], i1, _ =>
    simp at i1
    omega
end K20
end

section
set_option Elab.async false
set_option linter.all false
set_option autoImplicit false
set_option maxRecDepth 100000
set_option maxHeartbeats 4000000
namespace K20
open PySem PySem.Spec PyProof.Rows L2 Fw
/-! ### steadied -/
abbrev ST (d : D) (rs : List (List Int)) (k row alike : Option D) (room : SV) : PEnv := [.sh d, .ow none (.l (rs.map rD)), sv k, sv row, sv alike, room]
theorem eSlT_eq {f : FE D} {g h : FE (Option Int)} {l : List D} {lo hi : Option Int} {ρ : PEnv} (h1 : f ρ = .ok (.tup l) ρ) (h2 : g ρ = .ok lo ρ) (h3 : h ρ = .ok hi ρ) : Fw.eSl f g h ρ = .ok (.tup (Fw.cutD l lo hi)) ρ := by
  unfold Fw.eSl
  rw [h1]
  dsimp only [R.bind]
  rw [h2]
  dsimp only
  rw [h3]
  rfl
theorem rng_mem {n : Nat} {d : D} (h : d ∈ rng 0 n) : ∃ v : Nat, v < n ∧ d = .int v := by
  obtain ⟨k, hk⟩ := List.getElem?_of_mem h
  obtain ⟨h1, h2⟩ := rng_get hk
  exact ⟨k, h1, by rw [h2, Int.zero_add]⟩
theorem vLc_eq {f : FE (List D)} {ρ ρ' : PEnv} {l : List D} (h : f ρ = .ok l ρ') : vLc f ρ = .ok (.lst l) ρ' := by
  unfold vLc
  rw [h]
theorem ev_steadied (rs : List (List Int)) (ss : List Int) (hl : rs.length = ss.length) (hs : ss.length < 1000) {m : Nat} (hm : 0 < m) (hm2 : m < 1000) (hr : ∀ r ∈ rs, r.length = m) : ∃ rs', g_steadied [.tup [.tup (rs.map tD), .tup (ss.map .int)]] = .ok (.tup [DR rs', DSg ss]) ∧ rs'.length = rs.length ∧ ∀ r ∈ rs', 0 < r.length ∧ r.length ≤ m + 1 := by
  let d : D := .tup [.tup (rs.map tD), .tup (ss.map .int)]
  have i0 : ∀ ρ : PEnv, Fw.e2 dIx (eV 0) (eC (.int 0)) (.sh d :: ρ) = .ok (.tup (rs.map tD)) (.sh d :: ρ) := fun ρ => e2_eq rfl rfl (atD_zero _ _)
  have i1 : ∀ ρ : PEnv, Fw.e2 dIx (eV 0) (eC (.int 1)) (.sh d :: ρ) = .ok (.tup (ss.map .int)) (.sh d :: ρ) := fun ρ => e2_eq rfl rfl rfl
  have ixS : ∀ k : Nat, k < ss.length → dIx (.tup (ss.map .int)) (.int k) = some (.int (ss.getD k 0)) := fun k hk => atD_ints ss k hk
  have z := for_inv (g := tgT 2 (tgCons (tgN 2) (tgCons (tgN 3) tgNil))) (b := sSeq (sSet 4 (vLc (eLc (iR1 (aC (eL dLen (aC (Fw.e2 dIx (eV 0) (eC (.int 1))) aN)) aN)) (tgN 5) (tV (Fw.e2 (dEq) (Fw.e2 dIx (Fw.e2 dIx (eV 0) (eC (.int 1))) (eV 5)) (Fw.e2 dIx (Fw.e2 dIx (eV 0) (eC (.int 1))) (eV 2)))) (eV 5) [5])))
    (sDrop (mL 1 (aC (Fw.e2 dAdd (eLst (aC (Fw.e2 dIx (eV 4) (Fw.e2 dMod (Fw.e2 dIx (eV 3) (eC (.int 0))) (eL dLen (aC (eV 4) aN)))) aN)) (eL dList (aC (Fw.eSl (eV 3) (pSo (eC (.int 1))) pNo) aN))) aN) appL)))
    (fun a : List (List Int) × Option D × Option D × Option D => ST d a.1 a.2.1 a.2.2.1 a.2.2.2 .un) (fun i a => a.1.length = i ∧ ∀ r ∈ a.1, 0 < r.length ∧ r.length ≤ m + 1) (numD (rs.map tD)) 0 (fun i dd hd a ha => by
      obtain ⟨rs0, k0, row0, al0⟩ := a
      obtain ⟨h1, h2⟩ := ha
      dsimp only at h1 h2
      obtain ⟨t, ht, rfl⟩ := numD_get hd
      rw [List.getElem?_map] at ht
      obtain ⟨r, hri, rfl⟩ := Option.map_eq_some_iff.mp ht
      have hrl := hr r (List.mem_of_getElem? hri)
      have hi : i < ss.length := by
        rw [← hl]
        exact (List.getElem?_eq_some_iff.mp hri).1
      match r, hrl with
      | [], hrl => simp at hrl; omega
      | x :: xs, hrl =>
        let p : D → Bool := fun d => match d with | .int v => (ss.getD v.toNat 0 == ss.getD i 0) | _ => false
        have e1 := eLc_pure (x := 5) (t := tV (Fw.e2 (dEq) (Fw.e2 dIx (Fw.e2 dIx (eV 0) (eC (.int 1))) (eV 5)) (Fw.e2 dIx (Fw.e2 dIx (eV 0) (eC (.int 1))) (eV 2)))) (f := eV 5) (wi := iR1 (aC (eL dLen (aC (Fw.e2 dIx (eV 0) (eC (.int 1))) aN)) aN)) (ds := rng 0 ss.length)
          (fun s => ST d rs0 (some (.int i)) (some (tD (x :: xs))) al0 s) (fun d => d) p .un
          (iR1_eq (n := ss.length) (aC_eq (eL_eq (aC_eq (i1 _) nilA) (by show some (D.int _) = _; rw [List.length_map])) nilA) (by omega)) (by rw [rng_len]; unfold LIM; omega) rfl (fun _ => rfl) (fun _ => rfl) (fun _ => rfl)
          (fun dv hdv => by
            obtain ⟨v, hv, rfl⟩ := rng_mem hdv
            exact tV_eq (e2_eq (e2_eq (i1 _) rfl (ixS v hv)) (e2_eq (i1 _) rfl (ixS i hi)) (dEq_int _ _)))
          (fun dv hdv _ => rfl)
        have hin : D.int i ∈ ((rng 0 ss.length).filter p).map (fun d => d) := by
          rw [List.map_id']
          refine List.mem_filter.mpr ⟨?_, ?_⟩
          · have : (rng 0 ss.length)[i]? = some (.int (0 + i)) := by
              unfold rng
              simp [hi]
            rw [Int.zero_add] at this
            exact List.mem_of_getElem? this
          · show (ss.getD ((i : Int)).toNat 0 == ss.getD i 0) = true
            simp
        generalize hL : ((rng 0 ss.length).filter p).map (fun d => d) = L at e1 hin
        have hLi : ∀ dv ∈ L, ∃ v : Nat, dv = .int v := fun dv hdv => by
          rw [← hL, List.map_id'] at hdv
          obtain ⟨v, _, e⟩ := rng_mem (List.mem_filter.mp hdv).1
          exact ⟨v, e⟩
        have hL0 : 0 < L.length := List.length_pos_of_mem hin
        have hL1 : L.length ≤ ss.length := by
          rw [← hL, List.length_map]
          exact Nat.le_trans (List.length_filter_le _ _) (by rw [rng_len]; omega)
        obtain ⟨dv, hd1, hd2⟩ := pick (n := L.length) rfl hL0 x
        obtain ⟨v, rfl⟩ := hLi dv hd2
        obtain ⟨l', hl1, hl2⟩ := cut_map D.int (x :: xs) (some 1) none
        refine ⟨_, (rs0 ++ [(v : Int) :: l'], some (.int i), some (tD (x :: xs)), some (.lst L)), rfl, ?_, by simp; omega, fun r hr => ?_⟩
        · refine seq_nx (ρ' := ST d rs0 (some (.int i)) (some (tD (x :: xs))) (some (.lst L)) .un) (sSet_eq (vLc_eq e1)) ?_
          have e2' : Fw.e2 dAdd (eLst (aC (Fw.e2 dIx (eV 4) (Fw.e2 dMod (Fw.e2 dIx (eV 3) (eC (.int 0))) (eL dLen (aC (eV 4) aN)))) aN)) (eL dList (aC (Fw.eSl (eV 3) (pSo (eC (.int 1))) pNo) aN)) (ST d rs0 (some (.int i)) (some (tD (x :: xs))) (some (.lst L)) .un) = .ok (rD ((v : Int) :: l')) (ST d rs0 (some (.int i)) (some (tD (x :: xs))) (some (.lst L)) .un) := by
            refine e2_eq (a := .lst [.int v]) (b := .lst (l'.map .int)) (eLst_eq (aC_eq (e2_eq (a := .lst L) rfl (e2_eq (a := .int x) (e2_eq rfl rfl (atD_zero _ _)) (lenD L _ _ rfl) (dMod_pos (by omega))) hd1) nilA) (show 1 ≤ LIM by decide)) (eL_eq (aC_eq (a := .tup (l'.map .int)) ?_ nilA) rfl) ?_
            · rw [← hl1]
              exact eSlT_eq rfl (pSo_eq rfl) rfl
            · refine dAdd_lst ?_
              rw [List.length_map]
              rw [hrl] at hl2
              simp only [List.length_cons, List.length_nil]
              unfold LIM
              omega
          rw [sDrop_eq (mL_eq (l := rs0.map rD) rfl (aC_eq e2' nilA) (appL_eq (by rw [List.length_map]; unfold LIM; omega)))]
          have es : rs0.map rD ++ [rD ((v : Int) :: l')] = (rs0 ++ [(v : Int) :: l']).map rD := by rw [List.map_append]; rfl
          show RS.nx [.sh d, .ow none (.l (rs0.map rD ++ [rD ((v : Int) :: l')])), _, _, _, _] = _
          rw [es]
        · rcases List.mem_append.mp hr with h | h
          · exact h2 r h
          · rw [List.mem_singleton] at h
            rw [h, List.length_cons]
            rw [hrl] at hl2
            omega) ([], none, none, none) ⟨rfl, fun r hr => by cases hr⟩
  obtain ⟨⟨rs', k, row, al⟩, z1, z2, z3⟩ := z
  rw [numD_len, List.length_map, Nat.zero_add] at z2
  refine ⟨rs', ?_, z2, z3⟩
  refine seq_fit (ρ' := ST d [] none none none .un) rfl ?_
  refine seq_fit (sFor_eq (ds := numD (rs.map tD)) ?_ z1) ?_
  · have e : aC (Fw.e2 dIx (eV 0) (eC (.int 0))) aN (ST d [] none none none .un) = .ok [.tup (rs.map tD)] (ST d [] none none none .un) := aC_eq (i0 _) nilA
    unfold iEnumL
    rw [e]
    rfl
  · have hsc : (rs'.map rD).all scal = false ∨ True := .inr trivial
    have e1 : eTup (aC (eV 1) (aC (eL dList (aC (Fw.e2 dIx (eV 0) (eC (.int 1))) aN)) aN)) [.sh d, .sh (DR rs'), sv k, sv row, sv al, .un] = .ok (.tup [DR rs', DSg ss]) [.sh d, .sh (DR rs'), sv k, sv row, sv al, .un] :=
      eTup_eq (aC_eq rfl (aC_eq (eL_eq (aC_eq (i1 _) nilA) rfl) nilA)) (show 2 ≤ LIM by decide)
    show fit (sRet _ [.sh d, .sh (DR rs'), sv k, sv row, sv al, .un]) = _
    unfold sRet
    rw [e1]
    rfl
end K20
end

section
set_option Elab.async false
set_option linter.all false
set_option autoImplicit false
set_option maxRecDepth 100000
set_option maxHeartbeats 4000000
namespace K20
open PySem PySem.Spec PyProof.Rows L2 Fw
theorem find_int {l : List D} {P : D → Option (Str × D)} {p : Str × D} (h : l.findSome? P = some p) (hP : ∀ d ∈ l, P d = some p → (∃ i, p.2 = .int i) ∧ (toP (.str p.1)).canLay0 = true) : (∃ i, p.2 = .int i) ∧ (toP (.str p.1)).canLay0 = true := by
  obtain ⟨d, hd, e⟩ := List.exists_of_findSome?_eq_some h
  exact hP d hd e
theorem verdict_int {rs : List (List Int)} {ss : List Int} {p : Str × D} (h : verdict rs ss = some p) : (∃ i, p.2 = .int i) ∧ (toP (.str p.1)).canLay0 = true := by
  unfold verdict at h
  rcases Option.or_eq_some_iff.mp h with h | ⟨_, h⟩
  · split at h
    · cases h; exact ⟨⟨_, rfl⟩, by dsimp only; decide +kernel⟩
    · cases h
  rcases Option.or_eq_some_iff.mp h with h | ⟨_, h⟩
  · split at h
    · cases h; exact ⟨⟨_, rfl⟩, by dsimp only; decide +kernel⟩
    · cases h
  rcases Option.or_eq_some_iff.mp h with h | ⟨_, h⟩
  · refine find_int h fun d hd e => ?_
    obtain ⟨k, r, _, rfl⟩ := num_mem hd
    rw [vRow_eq] at e
    split at e
    · cases e; exact ⟨⟨_, rfl⟩, by dsimp only; decide +kernel⟩
    · split at e
      · cases e; exact ⟨⟨_, rfl⟩, by dsimp only; decide +kernel⟩
      · cases e
  rcases Option.or_eq_some_iff.mp h with h | ⟨_, h⟩
  · refine find_int h fun d hd e => ?_
    obtain ⟨k, r, _, rfl⟩ := num_mem hd
    unfold vSign at e
    dsimp only at e
    split at e
    · cases e; exact ⟨⟨_, rfl⟩, by dsimp only; decide +kernel⟩
    · cases e
  · refine find_int h fun d hd e => ?_
    obtain ⟨k, r, _, rfl⟩ := num_mem hd
    match r, e with
    | [], e => cases e
    | x :: xs, e =>
      have e : (if (!(ss.getD x.toNat 0 == ss.getD ((k : Int)).toNat 0)) = true then some (("steady" : Str), D.int k) else none) = some p := e
      split at e
      · cases e; exact ⟨⟨_, rfl⟩, by dsimp only; decide +kernel⟩
      · cases e
theorem rt_seq {f g : FS} {ρ ρ' : PEnv} {d : D} (h : f ρ = .nx ρ') (h2 : ∃ r, g ρ' = .rt d r) : ∃ r, sSeq f g ρ = .rt d r := by
  obtain ⟨r, h2⟩ := h2
  exact ⟨r, seq_nx h h2⟩
theorem vA_yes {f g : FE D} {ρ ρ' : PEnv} {b : Bool} (h : f ρ = .ok (.bl true) ρ) (h2 : g ρ = .ok (.bl b) ρ') : vA f g ρ = .ok (.bl b) ρ' := by
  unfold vA
  rw [h]
  exact h2
theorem sRet_eq {f : FE D} {ρ ρ' : PEnv} {d : D} (h : f ρ = .ok d ρ') : sRet f ρ = .rt d ρ' := by
  unfold sRet
  rw [h]
theorem tN_no {f : FE Bool} {ρ : PEnv} (h : f ρ = .ok true ρ) : tN f ρ = .ok false ρ := tN_eq (a := true) h
theorem sh_mach (rs : List (List Int)) (ss : List Int) (n : Nat) : shN (n + 3) (.lst [DR rs, DSg ss]) = true := by
  have a1 : ∀ l : List Int, (l.map D.int).all (shN n) = true := fun l => by
    rw [List.all_map]
    exact List.all_eq_true.mpr fun x _ => by cases n <;> rfl
  have a2 : ∀ l : List Int, (l.map D.int).all (shN (n + 1)) = true := fun l => by
    rw [List.all_map]
    exact List.all_eq_true.mpr fun x _ => rfl
  have a3 : (rs.map rD).all (shN (n + 1)) = true := by
    rw [List.all_map]
    exact List.all_eq_true.mpr fun r _ => a1 r
  simp [shN, a2, a3]
theorem sh_ok (rs : List (List Int)) (ss : List Int) (n : Nat) : shN (n + 3) (okM rs ss) = true := by
  have a1 : ∀ l : List Int, (l.map D.int).all (shN n) = true := fun l => by
    rw [List.all_map]
    exact List.all_eq_true.mpr fun x _ => by cases n <;> rfl
  have a2 : ∀ l : List Int, (l.map D.int).all (shN (n + 1)) = true := fun l => by
    rw [List.all_map]
    exact List.all_eq_true.mpr fun x _ => rfl
  have a3 : (rs.map fun r => (D.tup (r.map .int))).all (shN (n + 1)) = true := by
    rw [List.all_map]
    exact List.all_eq_true.mpr fun r _ => a1 r
  simp [shN, a2, a3]
theorem tup_ints (l : List Int) : Fw.tupOs (l.map .int) = true := by
  induction l with
  | nil => rfl
  | cons x l ih => exact ih
theorem tup_rows (l : List (List Int)) : Fw.tupOs (l.map fun r => .tup (r.map .int)) = true := by
  induction l with
  | nil => rfl
  | cons x l ih =>
    show (Fw.tupO (.tup (x.map .int)) && Fw.tupOs (l.map fun r => .tup (r.map .int))) = true
    rw [ih, Bool.and_true]
    exact tup_ints x
theorem tup_ask (rs : List (List Int)) (ss : List Int) : Fw.tupO (askD rs ss) = true := by
  unfold askD
  cases h : verdict rs ss with
  | none =>
    show (Fw.tupO (okM rs ss) && true) = true
    rw [Bool.and_true]
    show (Fw.tupOs (rs.map fun r => .tup (r.map .int)) && (Fw.tupOs (ss.map .int) && true)) = true
    rw [tup_rows, tup_ints]
    rfl
  | some p =>
    obtain ⟨⟨i, e⟩, _⟩ := verdict_int h
    dsimp only
    rw [e]
    rfl
theorem lstS_ints {l : List Int} (h : l.length < 1000) : lstS (.lst (l.map .int)) = true := by
  have a : (l.map D.int).all scal = true := by
    rw [List.all_map]
    exact List.all_eq_true.mpr fun x _ => rfl
  show ((l.map D.int).all scal && decide ((l.map D.int).length < 1000)) = true
  rw [a, List.length_map, decide_eq_true h]
  rfl
abbrev LE (ns : List Int) (a1 a2 a3 a4 a6 a7 a8 : Option D) (s5 s9 s12 : SV) : PEnv := [.sh (DSg ns), sv a1, sv a2, sv a3, sv a4, s5, sv a6, sv a7, sv a8, s9, .un, .un, s12]
theorem drawnC (ns : List Int) (k : Nat) (h : k < 900) (ρ : PEnv) : eCall (lenG 2 g_drawn) [] (aC (eV 0) (aC (eC (.int k)) aN)) (.sh (DSg ns) :: ρ) = .ok (.int (drawn ns k)) (.sh (DSg ns) :: ρ) :=
  eCall_eq (as := [DSg ns, .int k]) (aC_eq rfl (aC_eq rfl nilA)) (g_drawn_eq ns k h)
end K20
end

section
set_option Elab.async false
set_option linter.all false
set_option autoImplicit false
set_option maxRecDepth 100000
set_option maxHeartbeats 4000000
namespace K20
open PySem PySem.Spec PyProof.Rows L2 Fw
abbrev branchF : FS := sSeq (sSet 3 (vLc (eLc (iR1 (aC (eC (.int 100)) aN)) (tgN 5) tYs (vLc (eLc (iR1 (aC (eL dLen (aC (Fw.e2 dIx (eV 3) (eC (.int 0))) aN)) aN)) (tgN 12) tYs (Fw.e2 dMod (Fw.e2 dAdd (Fw.e2 dMul (eC (.int 7)) (eV 5)) (eV 12)) (eC (.int 100))) [12])) [5])))
    (sSet 4 (vLc (eLc (iR1 (aC (eC (.int 100)) aN)) (tgN 5) tYs (eC (.int 3)) [5])))
theorem ev_branch (ns : List Int) (a1 a2 a6 a7 a8 : Option D) (r0 : List Int) (rest : List (List Int)) (ss : List Int) (hr : r0.length ≤ 100) : ∃ rs' ss', branchF (LE ns a1 a2 (some (DR (r0 :: rest))) (some (DSg ss)) a6 a7 a8 .un .un .un) = .nx (LE ns a1 a2 (some (DR rs')) (some (DSg ss')) a6 a7 a8 .un .un .un) ∧ Sz rs' ss' 100 := by
  let rowOf : D → List Int := fun d => match d with | .int v => (List.range r0.length).map fun (j : Nat) => (7 * v + (j : Int)) % 100 | _ => []
  have inner : ∀ d ∈ rng 0 100, vLc (eLc (iR1 (aC (eL dLen (aC (Fw.e2 dIx (eV 3) (eC (.int 0))) aN)) aN)) (tgN 12) tYs (Fw.e2 dMod (Fw.e2 dAdd (Fw.e2 dMul (eC (.int 7)) (eV 5)) (eV 12)) (eC (.int 100))) [12]) (LE ns a1 a2 (some (DR (r0 :: rest))) (some (DSg ss)) a6 a7 a8 (.sh d) .un .un) = .ok (rD (rowOf d)) (LE ns a1 a2 (some (DR (r0 :: rest))) (some (DSg ss)) a6 a7 a8 (.sh d) .un .un) := fun d hd => by
    obtain ⟨v, hv, rfl⟩ := rng_mem hd
    have e1 := eLc_map (x := 12) (f := Fw.e2 dMod (Fw.e2 dAdd (Fw.e2 dMul (eC (.int 7)) (eV 5)) (eV 12)) (eC (.int 100))) (wi := iR1 (aC (eL dLen (aC (Fw.e2 dIx (eV 3) (eC (.int 0))) aN)) aN)) (ds := rng 0 r0.length)
      (fun s => LE ns a1 a2 (some (DR (r0 :: rest))) (some (DSg ss)) a6 a7 a8 (.sh (.int v)) .un s) (fun d => match d with | .int j => .int ((7 * v + j) % 100) | d => d) .un
      (iR1_eq (n := r0.length) (aC_eq (eL_eq (aC_eq (a := rD r0) (e2_eq rfl rfl (atD_zero _ _)) nilA) (by show some (D.int _) = _; rw [List.length_map])) nilA) (by omega)) (by rw [rng_len]; unfold LIM; omega) rfl (fun _ => rfl) (fun _ => rfl) (fun _ => rfl)
      (fun dv hdv => by
        obtain ⟨j, hj, rfl⟩ := rng_mem hdv
        exact e2_eq (e2_eq (e2_eq rfl rfl (if_pos (mulS (by decide) (by omega)))) rfl rfl) rfl (dMod_pos (by decide)))
    rw [vLc_eq e1]
    have e2' : (rng 0 r0.length).map (fun d => match d with | .int j => .int ((7 * v + j) % 100) | d => d) = (rowOf (.int v)).map D.int := by
      show (rng 0 r0.length).map _ = ((List.range r0.length).map fun (j : Nat) => (7 * (v : Int) + (j : Int)) % 100).map D.int
      unfold rng
      rw [List.map_map, List.map_map]
      refine List.map_congr_left fun j _ => ?_
      show D.int ((7 * (v : Int) + (0 + (j : Int))) % 100) = D.int ((7 * (v : Int) + (j : Int)) % 100)
      rw [Int.zero_add]
    rw [e2']
  have e1 := eLc_map (x := 5) (f := vLc (eLc (iR1 (aC (eL dLen (aC (Fw.e2 dIx (eV 3) (eC (.int 0))) aN)) aN)) (tgN 12) tYs (Fw.e2 dMod (Fw.e2 dAdd (Fw.e2 dMul (eC (.int 7)) (eV 5)) (eV 12)) (eC (.int 100))) [12])) (wi := iR1 (aC (eC (.int 100)) aN)) (ds := rng 0 100)
      (fun s => LE ns a1 a2 (some (DR (r0 :: rest))) (some (DSg ss)) a6 a7 a8 s .un .un) (fun d => rD (rowOf d)) .un
      (iR1_eq (n := 100) (aC_eq rfl nilA) (by omega)) (by rw [rng_len]; decide) rfl (fun _ => rfl) (fun _ => rfl) (fun _ => rfl) inner
  have e2' := eLc_map (x := 5) (f := eC (.int 3)) (wi := iR1 (aC (eC (.int 100)) aN)) (ds := rng 0 100)
      (fun s => LE ns a1 a2 (some (.lst ((rng 0 100).map fun d => rD (rowOf d)))) (some (DSg ss)) a6 a7 a8 s .un .un) (fun _ => .int 3) .un
      (iR1_eq (n := 100) (aC_eq rfl nilA) (by omega)) (by rw [rng_len]; decide) rfl (fun _ => rfl) (fun _ => rfl) (fun _ => rfl) (fun _ _ => rfl)
  refine ⟨(rng 0 100).map rowOf, (rng 0 100).map fun _ => 3, ?_, ⟨by rw [List.length_map, rng_len]; omega, by rw [List.length_map, rng_len]; omega, fun r hr2 => ?_⟩⟩
  · refine seq_nx (ρ' := LE ns a1 a2 (some (.lst ((rng 0 100).map fun d => rD (rowOf d)))) (some (DSg ss)) a6 a7 a8 .un .un .un) (sSet_eq (vLc_eq e1)) ?_
    rw [sSet_eq (vLc_eq e2')]
    have g1 : DR ((rng 0 100).map rowOf) = .lst ((rng 0 100).map fun d => rD (rowOf d)) := by
      show D.lst (((rng 0 100).map rowOf).map rD) = _
      rw [List.map_map]
      rfl
    have g2 : DSg ((rng 0 100).map fun _ => (3 : Int)) = .lst ((rng 0 100).map fun _ => D.int 3) := by
      show D.lst (((rng 0 100).map fun _ => (3 : Int)).map D.int) = _
      rw [List.map_map]
      rfl
    rw [g1, g2]
    rfl
  · obtain ⟨d, hd, rfl⟩ := List.mem_map.mp hr2
    obtain ⟨v, hv, rfl⟩ := rng_mem hd
    show ((List.range r0.length).map fun (j : Nat) => (7 * (v : Int) + (j : Int)) % 100).length ≤ 100
    rw [List.length_map, List.length_range]
    exact hr
def bnd : Nat → Nat
  | 0 => 100
  | n + 1 => 2 * bnd n + 2
abbrev loopB : FS := sSeq (sSet 7 (eCall (lenG 3 g_spoilt) [] (aC (eV 3) (aC (eV 4) (aC (Fw.e2 dAdd (Fw.e2 dDiv (eCall (lenG 2 g_drawn) [] (aC (eV 0) (aC (eC (.int 2)) aN))) (Fw.e2 dIx (eLst (aC (eC (.int 1)) (aC (eC (.int 900001)) aN))) (eV 5))) (Fw.e2 dDiv (eCall (lenG 2 g_drawn) [] (aC (eV 0) (aC (eC (.int 1)) aN))) (eC (.int 4)))) aN)))))
    (sSeq (sSet 3 (Fw.e2 dIx (eV 7) (eC (.int 0))))
    (sSet 4 (Fw.e2 dIx (eV 7) (eC (.int 1)))))
theorem ev_loop (ns : List Int) (a1 a2 a6 a8 : Option D) (rs : List (List Int)) (ss : List Int) (hz : Sz rs ss 100) (q : Nat) (hq : q ≤ 2) : ∃ rs' ss' a7 a5, forF (tgN 5) loopB (rng 0 q) (LE ns a1 a2 (some (DR rs)) (some (DSg ss)) a6 none a8 .un .un .un) = .nx (LE ns a1 a2 (some (DR rs')) (some (DSg ss')) a6 a7 a8 (sv a5) .un .un) ∧ Sz rs' ss' 406 := by
  have z := for_inv (g := tgN 5) (b := loopB) (fun a : List (List Int) × List Int × Option D × Option D => LE ns a1 a2 (some (DR a.1)) (some (DSg a.2.1)) a6 a.2.2.1 a8 (sv a.2.2.2) .un .un) (fun i a => Sz a.1 a.2.1 (bnd i)) (rng 0 q) 0 (fun i d hd a ha => by
    obtain ⟨h1, rfl⟩ := rng_get hd
    obtain ⟨rs0, ss0, b7, b5⟩ := a
    dsimp only at ha
    rw [Nat.zero_add] at ha
    have hi : i = 0 ∨ i = 1 := by omega
    have hb : bnd i ≤ 1000 := by rcases hi with rfl | rfl <;> decide
    have r2 := (drawn_range ns 2).1
    have r1 := (drawn_range ns 1).1
    have hv : ∃ w : Int, 0 < w ∧ w < 2000000000 ∧ ∀ ρ : PEnv, Fw.e2 dIx (eLst (aC (eC (.int 1)) (aC (eC (.int 900001)) aN))) (fun _ => .ok (.int (0 + (i : Int))) ρ) ρ = .ok (.int w) ρ := by
      rcases hi with rfl | rfl
      · exact ⟨1, by decide, by decide, fun ρ => rfl⟩
      · exact ⟨900001, by decide, by decide, fun ρ => rfl⟩
    obtain ⟨w, hw1, hw2, hw⟩ := hv
    obtain ⟨rs', ss', hz', he⟩ := ev_spoilt rs0 ss0 (drawn ns 2 / w + drawn ns 1 / 4) ha hb (by
      have g1 : 0 ≤ drawn ns 2 / w := Int.ediv_nonneg r2 (by omega)
      have g2 : 0 ≤ drawn ns 1 / 4 := Int.ediv_nonneg r1 (by decide)
      omega)
    refine ⟨_, (rs', ss', some (.tup [DR rs', DSg ss']), some (.int (0 + (i : Int)))), rfl, ?_, by rw [Nat.zero_add]; exact hz'⟩
    refine seq_nx (ρ' := LE ns a1 a2 (some (DR rs0)) (some (DSg ss0)) a6 (some (.tup [DR rs', DSg ss'])) a8 (sv (some (.int (0 + (i : Int))))) .un .un) (sSet_eq (eCall_eq (as := [DR rs0, DSg ss0, .int (drawn ns 2 / w + drawn ns 1 / 4)]) (aC_eq rfl (aC_eq rfl (aC_eq (e2_eq (e2_eq (drawnC ns 2 (by decide) _) (hw _) (dDiv_pos hw1 hw2)) (e2_eq (drawnC ns 1 (by decide) _) rfl (dDiv_pos (by decide) (by decide))) rfl) nilA))) he)) ?_
    exact seq_nx (sSet_eq (e2_eq (c := DR rs') rfl rfl (atD_zero _ _))) (sSet_eq (e2_eq (c := DSg ss') rfl rfl rfl))) (rs, ss, none, none) hz
  obtain ⟨⟨rs', ss', a7, a5⟩, z1, z2⟩ := z
  refine ⟨rs', ss', a7, a5, z1, ?_⟩
  rw [rng_len, Nat.zero_add] at z2
  have : bnd q ≤ 406 := by
    have : q = 0 ∨ q = 1 ∨ q = 2 := by omega
    rcases this with rfl | rfl | rfl <;> decide
  exact z2.le this
end K20
end

section
set_option Elab.async false
set_option linter.all false
set_option autoImplicit false
set_option maxRecDepth 100000
set_option maxHeartbeats 4000000
namespace K20
open PySem PySem.Spec PyProof.Rows L2 Fw
theorem dAdd_tup {a b : List D} (h : a.length + b.length ≤ LIM) : dAdd (.tup a) (.tup b) = some (.tup (a ++ b)) := if_pos h
abbrev tailL : FS := tailF 3 4 10 11 9 (eLc (iS (eV 3)) (tgN 9) tYs (eL dList (aC (eV 9) aN)) [9]) (eL dList (aC (eV 4) aN)) (eCall (lenG 2 g_asked) [] (aC (Fw.e2 dIx (eV 10) (eC (.int 0))) (aC (Fw.e2 dIx (eV 10) (eC (.int 1))) aN))) (tV (Fw.e2 (dNe) (eV 10) (eLst (aC (eV 3) (aC (eV 4) aN))))) (sRet (eC (.bl false))) (tV (Fw.e2 (dNotN) (eV 8) (eC .non))) (sRet (vA (Fw.e2 (dEq) (eV 11) (eTup (aC (eC .non) (aC (Fw.e2 dAdd (eV 8) (eTup (aC (eC (.bl true)) aN))) aN)))) ((eCall (lenG 1 g_whole) [] (aC (Fw.e2 dIx (Fw.e2 dIx (eV 11) (eC (.int 1))) (eC (.int 1))) aN))))) (sSeq (sIf (tO (tV (Fw.e2 (dNotN) (Fw.e2 dIx (eV 11) (eC (.int 1))) (eC .non))) ((tN (tV (eCall (lenG 1 g_is_machine) [] (aC (Fw.e2 dIx (eV 11) (eC (.int 0))) aN)))))) (sRet (eC (.bl false))) sNx)
    (sRet (Fw.e2 (dEq) (Fw.e2 dIx (eV 11) (eC (.int 0))) (eTup (aC (eL dTuple (aC (vLc (eLc (iS (eV 3)) (tgN 9) tYs (eL dTuple (aC (eV 9) aN)) [9])) aN)) (aC (eL dTuple (aC (eV 4) aN)) aN))))))
theorem ev_tail (ns : List Int) (a1 a2 a6 a7 a5 : Option D) (rs : List (List Int)) (ss : List Int) (hz : Sz rs ss 406) : ∃ r, tailL (LE ns a1 a2 (some (DR rs)) (some (DSg ss)) a6 a7 (some (match verdict rs ss with | none => .non | some p => .tup [.str p.1, p.2])) (sv a5) .un .un) = .rt (.bl true) r := by
  generalize hd8 : (match verdict rs ss with | none => D.non | some p => .tup [.str p.1, p.2]) = d8
  have hno : (LE ns a1 a2 (some (DR rs)) (some (DSg ss)) a6 a7 (some d8) (sv a5) .un .un).all (fun s => !isOw s) = true := by
    cases a1 <;> cases a2 <;> cases a6 <;> cases a7 <;> cases a5 <;> rfl
  have hfC : eLc (iS (eV 3)) (tgN 9) tYs (eL dList (aC (eV 9) aN)) [9] (LE ns a1 a2 (some (DR rs)) (some (DSg ss)) a6 a7 (some d8) (sv a5) .un .un) = .ok (rs.map rD) (LE ns a1 a2 (some (DR rs)) (some (DSg ss)) a6 a7 (some d8) (sv a5) .un .un) := by
    have e := eLc_map (x := 9) (f := eL dList (aC (eV 9) aN)) (wi := iS (eV 3)) (ds := rs.map rD) (fun s => LE ns a1 a2 (some (DR rs)) (some (DSg ss)) a6 a7 (some d8) (sv a5) s .un) (fun d => d) .un rfl (by rw [List.length_map]; have := hz.r; unfold LIM; omega) rfl (fun _ => rfl) (fun _ => rfl) (fun _ => rfl) (fun d hd => by obtain ⟨r, _, rfl⟩ := List.mem_map.mp hd; rfl)
    rw [List.map_id'] at e
    exact e
  have hus : (rs.map rD).all lstS = true := by
    rw [List.all_map]
    refine List.all_eq_true.mpr fun r hr => lstS_ints ?_
    have := hz.e r hr
    omega
  have hlen : (rs.map rD).length < 1000 := by
    rw [List.length_map]
    have := hz.r
    omega
  have hss : lstS (.lst (ss.map .int)) = true := lstS_ints (by have := hz.s; omega)
  let ρ3 : PEnv := [.sh (DSg ns), sv a1, sv a2, .sh (DR rs), .sh (DSg ss), sv a5, sv a6, sv a7, .sh d8, .un, .sh (.lst [DR rs, DSg ss]), .un, .un]
  let ρ4 : PEnv := [.sh (DSg ns), sv a1, sv a2, .sh (DR rs), .sh (DSg ss), sv a5, sv a6, sv a7, .sh d8, .un, .sh (.lst [DR rs, DSg ss]), .sh (askD rs ss), .un]
  let ρ5 : PEnv := [.un, .un, .un, .sh (DR rs), .sh (DSg ss), .un, .un, .un, .un, .un, .un, .sh (askD rs ss), .un]
  have h9 : eCall (lenG 2 g_asked) [] (aC (Fw.e2 dIx (eV 10) (eC (.int 0))) (aC (Fw.e2 dIx (eV 10) (eC (.int 1))) aN)) ρ3 = .ok (askD rs ss) ρ3 :=
    eCall_eq (as := [DR rs, DSg ss]) (aC_eq (e2_eq rfl rfl (atD_zero _ _)) (aC_eq (e2_eq rfl rfl rfl) nilA)) (ev_asked rs ss)
  have h10 : tV (Fw.e2 (dNe) (eV 10) (eLst (aC (eV 3) (aC (eV 4) aN)))) ρ4 = .ok false ρ4 :=
    tV_eq (e2_eq (a := .lst [DR rs, DSg ss]) (b := .lst [DR rs, DSg ss]) rfl (eLst_eq (aC_eq rfl (aC_eq rfl nilA)) (show 2 ≤ LIM by decide)) (dNe_self (sh_mach rs ss 6)))
  have hrest : (if (LE ns a1 a2 (some (DR rs)) (some (DSg ss)) a6 a7 (some d8) (sv a5) .un .un).all (fun s => !isOw s) = true ∧ (3 : Nat) ≠ 10 ∧ (3 : Nat) ≠ 11 ∧ (4 : Nat) ≠ 10 ∧ (4 : Nat) ≠ 11 ∧ (10 : Nat) ≠ 11 ∧ (10 : Nat) < (LE ns a1 a2 (some (DR rs)) (some (DSg ss)) a6 a7 (some d8) (sv a5) .un .un).length ∧ (9 : Nat) < (LE ns a1 a2 (some (DR rs)) (some (DSg ss)) a6 a7 (some d8) (sv a5) .un .un).length ∧ (11 : Nat) < (LE ns a1 a2 (some (DR rs)) (some (DSg ss)) a6 a7 (some d8) (sv a5) .un .un).length then True else False) := by
    rw [if_pos ⟨hno, by decide, by decide, by decide, by decide, by decide, show 10 < 13 by decide, show 9 < 13 by decide, show 11 < 13 by decide⟩]
    trivial
  have hS : eL dList (aC (eV 4) aN) (LE ns a1 a2 (some (DR rs)) (some (DSg ss)) a6 a7 (some d8) (sv a5) .un .un) = .ok (.lst (ss.map .int)) (LE ns a1 a2 (some (DR rs)) (some (DSg ss)) a6 a7 (some d8) (sv a5) .un .un) := rfl
  have key : ∀ (g10 g14 : FS) (t11 : FE Bool) (g11 : FS) (X : RS), (match t11 ρ4 with | .ok true ρ5 => g11 ρ5 | .ok false ρ5 => g14 ρ5 | _ => .no) = X → True := fun _ _ _ _ _ _ => trivial
  unfold tailL tailF
  rw [if_pos ⟨hno, by decide, by decide, by decide, by decide, by decide, show 10 < 13 by decide, show 9 < 13 by decide, show 11 < 13 by decide⟩, hfC]
  dsimp only
  rw [hS]
  dsimp only
  rw [if_pos ⟨hus, hlen, hss⟩]
  have s3 : (LE ns a1 a2 (some (DR rs)) (some (DSg ss)) a6 a7 (some d8) (sv a5) .un .un).set 10 (.sh (.lst [.lst (rs.map rD), .lst (ss.map .int)])) = ρ3 := rfl
  rw [s3, h9]
  dsimp only
  rw [if_pos (tup_ask rs ss)]
  have s4 : ρ3.set 11 (.sh (askD rs ss)) = ρ4 := rfl
  rw [s4, h10]
  dsimp only
  cases hv : verdict rs ss with
  | none =>
    rw [hv] at hd8
    dsimp only at hd8
    subst hd8
    have ha : askD rs ss = .tup [okM rs ss, .non] := by
      unfold askD
      rw [hv]
    have h11 : tV (Fw.e2 (dNotN) (eV 8) (eC .non)) ρ4 = .ok false ρ4 := tV_eq (e2_eq rfl rfl rfl)
    rw [h11]
    dsimp only
    have s5 : keepE 3 4 11 (askD rs ss) (LE ns a1 a2 (some (DR rs)) (some (DSg ss)) a6 a7 (some .non) (sv a5) .un .un) = ρ5 := rfl
    rw [s5]
    have v0 : Fw.e2 dIx (eV 11) (eC (.int 0)) ρ5 = .ok (okM rs ss) ρ5 := e2_eq (a := askD rs ss) rfl rfl (by rw [ha]; exact atD_zero _ _)
    have v1 : Fw.e2 dIx (eV 11) (eC (.int 1)) ρ5 = .ok .non ρ5 := e2_eq (a := askD rs ss) rfl rfl (by rw [ha]; rfl)
    refine rt_seq (ρ' := ρ5) (if_no (tO_eq (a := false) (b := false) (tV_eq (e2_eq v1 rfl rfl)) (tN_no (tV_eq (eCall_eq (as := [okM rs ss]) (aC_eq v0 nilA) (ev_isM rs ss (by have := hz.s; unfold LIM; omega) (fun r hr => by have := hz.e r hr; unfold LIM; omega))))))) ⟨ρ5, sRet_eq (e2_eq (b := okM rs ss) v0 ?_ (dEq_self (sh_ok rs ss 6)))⟩
    have ec := eLc_map (x := 9) (f := eL dTuple (aC (eV 9) aN)) (wi := iS (eV 3)) (ds := rs.map rD) (fun s => [.un, .un, .un, .sh (DR rs), .sh (DSg ss), .un, .un, .un, .un, s, .un, .sh (askD rs ss), .un]) (fun d => match d with | .lst l => .tup l | d => d) .un rfl (by rw [List.length_map]; have := hz.r; unfold LIM; omega) rfl (fun _ => rfl) (fun _ => rfl) (fun _ => rfl) (fun d hd => by obtain ⟨r, _, rfl⟩ := List.mem_map.mp hd; rfl)
    rw [List.map_map] at ec
    have ec : eLc (iS (eV 3)) (tgN 9) tYs (eL dTuple (aC (eV 9) aN)) [9] ρ5 = .ok (rs.map fun r => D.tup (r.map .int)) ρ5 := ec
    have e1 : eL dTuple (aC (vLc (eLc (iS (eV 3)) (tgN 9) tYs (eL dTuple (aC (eV 9) aN)) [9])) aN) ρ5 = .ok (.tup (rs.map fun r => .tup (r.map .int))) ρ5 := eL_eq (aC_eq (a := .lst (rs.map fun r => .tup (r.map .int))) (vLc_eq ec) nilA) rfl
    have e2' : eL dTuple (aC (eV 4) aN) ρ5 = .ok (.tup (ss.map .int)) ρ5 := rfl
    exact eTup_eq (aC_eq e1 (aC_eq e2' nilA)) (show 2 ≤ LIM by decide)
  | some p =>
    obtain ⟨⟨i, hp⟩, hcl⟩ := verdict_int hv
    rw [hv] at hd8
    dsimp only at hd8
    rw [hp] at hd8
    subst hd8
    have ha : askD rs ss = .tup [.non, .tup [.str p.1, .int i, .bl true]] := by
      unfold askD
      rw [hv]
      dsimp only
      rw [hp]
    have h11 : tV (Fw.e2 (dNotN) (eV 8) (eC .non)) ρ4 = .ok true ρ4 := tV_eq (e2_eq rfl rfl rfl)
    rw [h11]
    dsimp only
    refine ⟨ρ4, sRet_eq (vA_yes (e2_eq (ρ1 := ρ4) (a := .tup [.non, .tup [.str p.1, .int i, .bl true]]) (b := .tup [.non, .tup [.str p.1, .int i, .bl true]]) ?_ ?_ (dEq_self ?_)) (eCall_eq (as := [.int i]) (aC_eq (e2_eq (a := .tup [.str p.1, .int i, .bl true]) (e2_eq (a := askD rs ss) rfl rfl (by rw [ha]; rfl)) rfl rfl) nilA) (ev_wholeI i)))⟩
    · show R.ok (askD rs ss) ρ4 = _
      rw [ha]
    · exact eTup_eq (aC_eq rfl (aC_eq (e2_eq (a := .tup [.str p.1, .int i]) (b := .tup [.bl true]) rfl (eTup_eq (aC_eq rfl nilA) (show 1 ≤ LIM by decide)) (dAdd_tup (a := [.str p.1, .int i]) (b := [.bl true]) (show 2 + 1 ≤ LIM by decide))) nilA)) (show 2 ≤ LIM by decide)
    · show (true && ((((true && (toP (.str p.1)).canLay0)) && ((true && true) && ((true && true) && true))) && true)) = true
      rw [hcl]
      rfl
end K20
end

section
set_option Elab.async false
set_option linter.all false
set_option autoImplicit false
set_option maxRecDepth 100000
set_option maxHeartbeats 4000000
namespace K20
open PySem PySem.Spec PyProof.Rows L2 Fw
theorem nat_of {i : Int} (h : 0 ≤ i) : ∃ n : Nat, (n : Int) = i := ⟨i.toNat, Int.toNat_of_nonneg h⟩
theorem pure_law (ns : List Int) (hl : ns.length ≤ 63) : ∃ ρ', s_law (startP N_law [.sh (.lst (ns.map .int))]) = .rt (.bl true) ρ' := by
  have f0 := (drawn_range ns 0).1
  have f1 := (drawn_range ns 0).2
  obtain ⟨n, hn⟩ := nat_of (i := 1 + drawn ns 0 % 9) (by omega)
  obtain ⟨m, hm⟩ := nat_of (i := 2 + drawn ns 0 / 9 % 4) (by omega)
  obtain ⟨cs, hc1, hc2⟩ := cut_map D.int ns (some 3) (some 12)
  obtain ⟨mr, ms, hM, l1, l2, l3⟩ := ev_machine cs n m (by omega) (by omega) (by omega) (by omega)
  obtain ⟨rs, hS, k1, k2⟩ := ev_steadied mr ms (by omega) (by omega) (m := m) (by omega) (by omega) l3
  have hz0 : Sz rs ms 100 := ⟨by omega, by omega, fun r hr => by have := (k2 r hr).2; omega⟩
  let fD : D := .int (drawn ns 0)
  let ρL : PEnv := LE ns (some (.int (drawn ns 0))) none none none none none none .un .un .un
  let mD : D := .tup [DR rs, DSg ms]
  have s0 : sSet 1 (eCall (lenG 2 g_drawn) [] (aC (eV 0) (aC (eC (.int 0)) aN))) (LE ns none none none none none none none .un .un .un) = .nx (LE ns (some fD) none none none none none none .un .un .un) := sSet_eq (drawnC ns 0 (by decide) _)
  have s1 : sSet 2 (eCall (lenG 1 g_steadied) [] (aC (eCall (lenG 4 g_machine_by) [] (aC (Fw.eSl (eV 0) (pSo (eC (.int 3))) (pSo (eC (.int 12)))) (aC (Fw.e2 dAdd (eC (.int 1)) (Fw.e2 dMod (eV 1) (eC (.int 9)))) (aC (Fw.e2 dAdd (eC (.int 2)) (Fw.e2 dMod (Fw.e2 dDiv (eV 1) (eC (.int 9))) (eC (.int 4)))) (aC (eC (.int 4)) aN))))) aN)) (LE ns (some fD) none none none none none none .un .un .un) = .nx (LE ns (some fD) (some mD) none none none none none .un .un .un) := by
    refine sSet_eq (eCall_eq (as := [.tup [.tup (mr.map tD), .tup (ms.map .int)]]) (aC_eq (eCall_eq (as := [DSg cs, .int n, .int m, .int 4]) (aC_eq (ρ1 := ρL) (a := DSg cs) ?_ (aC_eq (ρ1 := ρL) (a := .int n) ?_ (aC_eq (ρ1 := ρL) (a := .int m) ?_ (aC_eq rfl nilA)))) hM) nilA) hS)
    · have e0 : DSg cs = D.lst (Fw.cutD (ns.map .int) (some 3) (some 12)) := by rw [hc1]
      rw [e0]
      exact eSl_eq (l := ns.map .int) rfl (pSo_eq rfl) (pSo_eq rfl)
    · rw [hn]
      exact e2_eq rfl (e2_eq (a := fD) rfl rfl (dMod_pos (by decide))) rfl
    · rw [hm]
      exact e2_eq rfl (e2_eq (e2_eq (a := fD) rfl rfl (dDiv_pos (by decide) (by decide))) rfl (dMod_pos (by decide))) rfl
  have s2 : sSet 3 (Fw.e2 dIx (eV 2) (eC (.int 0))) (LE ns (some fD) (some mD) none none none none none .un .un .un) = .nx (LE ns (some fD) (some mD) (some (DR rs)) none none none none .un .un .un) := sSet_eq (e2_eq (a := mD) rfl rfl (atD_zero _ _))
  have s3 : sSet 4 (Fw.e2 dIx (eV 2) (eC (.int 1))) (LE ns (some fD) (some mD) (some (DR rs)) none none none none .un .un .un) = .nx (LE ns (some fD) (some mD) (some (DR rs)) (some (DSg ms)) none none none .un .un .un) := sSet_eq (e2_eq (a := mD) rfl rfl rfl)
  have s4 : ∃ rs2 ss2, sIf (tV (Fw.e2 (dEq) (Fw.e2 dMod (Fw.e2 dDiv (eV 1) (eC (.int 36))) (eC (.int 5))) (eC (.int 2)))) branchF sNx (LE ns (some fD) (some mD) (some (DR rs)) (some (DSg ms)) none none none .un .un .un) = .nx (LE ns (some fD) (some mD) (some (DR rs2)) (some (DSg ss2)) none none none .un .un .un) ∧ Sz rs2 ss2 100 := by
    have ht : tV (Fw.e2 (dEq) (Fw.e2 dMod (Fw.e2 dDiv (eV 1) (eC (.int 36))) (eC (.int 5))) (eC (.int 2))) (LE ns (some fD) (some mD) (some (DR rs)) (some (DSg ms)) none none none .un .un .un) = .ok (drawn ns 0 / 36 % 5 == 2) (LE ns (some fD) (some mD) (some (DR rs)) (some (DSg ms)) none none none .un .un .un) :=
      tV_eq (e2_eq (e2_eq (e2_eq (a := fD) rfl rfl (dDiv_pos (by decide) (by decide))) rfl (dMod_pos (by decide))) rfl (dEq_int _ _))
    cases hb : (drawn ns 0 / 36 % 5 == 2) with
    | false =>
      rw [hb] at ht
      exact ⟨rs, ms, if_no ht, hz0⟩
    | true =>
      rw [hb] at ht
      match rs, k1, k2, ht with
      | [], k1, _, _ => simp at k1; omega
      | r0 :: rest, k1, k2, ht =>
        obtain ⟨rs', ss', e, hz⟩ := ev_branch ns (some fD) (some mD) none none none r0 rest ms (by have := (k2 r0 List.mem_cons_self).2; omega)
        exact ⟨rs', ss', if_yes ht e, hz⟩
  obtain ⟨rs2, ss2, s4, hz2⟩ := s4
  have r1 := (drawn_range ns 1).1
  have s5 : sSet 6 (Fw.e2 dMod (eCall (lenG 2 g_drawn) [] (aC (eV 0) (aC (eC (.int 1)) aN))) (eC (.int 4))) (LE ns (some fD) (some mD) (some (DR rs2)) (some (DSg ss2)) none none none .un .un .un) = .nx (LE ns (some fD) (some mD) (some (DR rs2)) (some (DSg ss2)) (some (.int (drawn ns 1 % 4))) none none .un .un .un) :=
    sSet_eq (e2_eq (drawnC ns 1 (by decide) _) rfl (dMod_pos (by decide)))
  obtain ⟨q, hq⟩ := nat_of (i := if 2 < drawn ns 1 % 4 then 2 else drawn ns 1 % 4) (by split <;> omega)
  have hq2 : q ≤ 2 := by
    have : (q : Int) ≤ 2 := by
      rw [hq]
      split <;> omega
    omega
  obtain ⟨rs3, ss3, a7, a5, e6, hz3⟩ := ev_loop ns (some fD) (some mD) (some (.int (drawn ns 1 % 4))) none rs2 ss2 hz2 q hq2
  have s6 : sFor (tgN 5) loopB (iR1 (aC (eL dMin2 (aC (eV 6) (aC (eC (.int 2)) aN))) aN)) (LE ns (some fD) (some mD) (some (DR rs2)) (some (DSg ss2)) (some (.int (drawn ns 1 % 4))) none none .un .un .un) = .nx (LE ns (some fD) (some mD) (some (DR rs3)) (some (DSg ss3)) (some (.int (drawn ns 1 % 4))) a7 none (sv a5) .un .un) :=
    sFor_eq (iR1_eq (n := q) (aC_eq (eL_eq (as := [.int (drawn ns 1 % 4), .int 2]) (aC_eq rfl (aC_eq rfl nilA)) (by rw [hq]; rfl)) nilA) (by omega)) e6
  have s7 : sSet 8 (eCall (lenG 2 g_due) [] (aC (eV 3) (aC (eV 4) aN))) (LE ns (some fD) (some mD) (some (DR rs3)) (some (DSg ss3)) (some (.int (drawn ns 1 % 4))) a7 none (sv a5) .un .un) = .nx (LE ns (some fD) (some mD) (some (DR rs3)) (some (DSg ss3)) (some (.int (drawn ns 1 % 4))) a7 (some (match verdict rs3 ss3 with | none => .non | some p => .tup [.str p.1, p.2])) (sv a5) .un .un) := by
    refine sSet_eq (eCall_eq (as := [DR rs3, DSg ss3]) (aC_eq rfl (aC_eq rfl nilA)) ?_)
    show g_due [DR rs3, DSg ss3] = _
    rw [ev_due rs3 ss3 (fun r hr => by have := hz3.e r hr; unfold LIM; omega)]
    cases verdict rs3 ss3 <;> rfl
  obtain ⟨r, e⟩ := ev_tail ns (some fD) (some mD) (some (.int (drawn ns 1 % 4))) a7 a5 rs3 ss3 hz3
  exact ⟨r, seq_nx s0 (seq_nx s1 (seq_nx s2 (seq_nx s3 (seq_nx s4 (seq_nx s5 (seq_nx s6 (seq_nx s7 e)))))))⟩
end K20
end

set_option Elab.async false
set_option linter.all false
set_option maxRecDepth 100000
set_option maxHeartbeats 0
namespace K20
open PySem PySem.Spec PyProof.Rows L2 Fw
abbrev R : PySem.W.OpenRow := PySem.W.OpenLaw.row PySem.Challenge.rw_figurewheel_k20_back_machines_made
def ex (K : PySem.W.Frag) : Bool := f2.all fun f => f.ok K
abbrev hk : PySem.W.Hook := He.hookX 6 fa fn [] [] ex
def ob (s : PySem.W.SharedT) : He.AlX := He.obsX 6 fa fn [] [] ex (HandSHeadRun.getT s)
theorem ob_eq (s : PySem.W.SharedT) : ob s = hk.obs s.abs := He.obsX_eq (HandSHeadRun.getT_eq s)
def loose : List PySem.Str := ["__name__", "WheelError", "NoBase", "NoMachine", "NoText", "MOST", "look_at_rows", "back_of", "_law_cell_at", "_law_whole", "_law_mixed", "_law_drawn", "_law_machine_by", "_law_is_machine", "_law_steadied", "_law_spoilt", "_law_due", "_law_asked"]
theorem run (w : World) : HandSHeadRun.RunEq R (PySem.W.view R.prog [20]) hk ob 3000 loose w := by
  intro os
  kernel_rfl
def spLaw (K : PySem.W.Frag) : Sp := fun vs H Q _ => ∃ (a : Addr) (ns : List Int), vs = [.ref a] ∧ ns.length ≤ 63 ∧ SqL K H a (ns.map V.int) ∧ ∀ H', Q (.bl true) H'
theorem rpl_intsM {K : PySem.W.Frag} {H : Hp} : ∀ ns : List Int, RpL K H (ns.map V.int) (ns.map D.int)
  | [] => .nil
  | n :: ns => .cons (.int n) (rpl_intsM ns)
theorem funD_uniq {K : PySem.W.Frag} {x qual : Str} {params : Arguments} {body : List Stmt} {scope : Scope} {dvs : List V} {kws : List (Str × V)} {f : Addr} {fd fd' : FuncData} (F : FunD K x qual params body scope dvs kws f fd) (F' : FunD K x qual params body scope dvs kws f fd') : fd = fd' := by
  obtain ⟨oc, od, dV, kV, doc, pm, an, cdv, ct, osl, e, lk, _⟩ := F.ex
  obtain ⟨oc', od', dV', kV', doc', pm', an', cdv', ct', osl', e', lk', _⟩ := F'.ex
  rw [lk] at lk'
  cases lk'
  rfl
theorem law_ok {P : Program} {w : World} {K : PySem.W.Frag} {base h : Heap} {mg : Str → Option Value} (Y : Say fa fn f2 K h mg) (pure : ∀ ns : List Int, ns.length ≤ 63 → ∃ ρ', s_law (startP N_law [.sh (.lst (ns.map .int))]) = .rt (.bl true) ρ') :
    ∃ fd, FunD K "law" "law" (defArgs st_law) (defBody st_law) (defScope st_law) [] [] (He.fAd K ("law", none)) fd ∧ (∀ (s : Shared) (u : Value), BindsTo s fd ⟨[u], []⟩ [("_law_script", u)]) ∧ FnOk P w K mg base (L2.CX P w) 6 (He.fAd K ("law", none)) fd ["_law_script"] (spLaw K) := by
  obtain ⟨fd, F, hDB⟩ := db_law (P := P) (w := w) (base := base) Y
  have b := FunD.bindsA (ps := ["_law_script"]) F fun _ _ _ _ _ _ us hl => match us, hl with | [_], _ => rfl
  refine ⟨fd, F, fun s u => b s [u] rfl, F.ok sc_law (fun vs H Q E h => ?_) fun cdv A outer s H vs Q E hr h => ?_⟩
  · obtain ⟨a, ns, rfl, _⟩ := h
    rfl
  · obtain ⟨a, ns, rfl, hl, hS, hQ⟩ := h
    obtain ⟨t, pt, qt⟩ := hDB cdv A outer s H E hr (gd_body sc_law hr)
    refine ⟨t, pt, ?_⟩
    have bf : Bef H ⟨fun _ => none, fun _ => False⟩ H := ⟨Ex.refl _, (fun _ _ e => by cases e), fun _ _ _ => rfl, fun _ e => False.elim e⟩
    refine qt _ H ⟨fun _ => none, fun _ => False⟩ _ H _ (rel_start (N := N_law) (vs := [.ref a]) (ds := [.lst (ns.map .int)]) (by show 1 ≤ N_law.length; decide) bf (.cons (.lst hS (rpl_intsM ns)) .nil)) ?_
    obtain ⟨ρ', e⟩ := pure ns hl
    have e : s_law (startP N_law ([D.lst (ns.map .int)].map .sh)) = .rt (.bl true) ρ' := e
    rw [e]
    exact ⟨rfl, fun K H' v rp => by cases rp; exact hQ H'⟩
end K20
open PySem PySem.W PySem.Calls PyProof.Rows
theorem PySem.Challenge.cw_figurewheel_k20_back_machines_made_holds : PySem.Challenge.rw_figurewheel_k20_back_machines_made.Holds := by
  w_on; o_law
  refine HandSHeadRun.head_any (r := OpenLaw.row PySem.Challenge.rw_figurewheel_k20_back_machines_made) (q := view (OpenLaw.row PySem.Challenge.rw_figurewheel_k20_back_machines_made).prog [20]) (H := K20.hk) (ob := K20.ob) (M := 3000) (loose := K20.loose) (d := HandSHeadRun.topDef (OpenLaw.row PySem.Challenge.rw_figurewheel_k20_back_machines_made).prog 20) (kwd := []) K20.ob_eq
    (by kernel_rfl) (fun s => by kernel_rfl) K20.run (by kernel_rfl) (by kernel_rfl) (by kernel_rfl) (by rfl) (by first | assumption | decide +kernel) (by decide +kernel) ⟨rfl, rfl, rfl, rfl, rfl, by decide +kernel⟩ ?hw ?hc
  case hw => w_witness2
  case hc =>
    refine LamX.walk_ofTsE (l := PySem.Challenge.rw_figurewheel_k20_back_machines_made) (n := 63) (k := 6) (x := "_law_script") (CX := fun w => L2.CX (PySem.Challenge.rw_figurewheel_k20_back_machines_made).prog w) rfl (by decide) (by kernel_rfl) ⟨rfl, by decide, by decide⟩ ?F (fun _ _ _ _ _ ⟨_, _, _, _, _, _, _, _, _, _, _, _, z⟩ => z)
    intro w mg fa h Y G hmg0
    obtain ⟨K, KX, c⟩ := Y
    have hmg : mg ("law" : PySem.Str) = some (.ref fa) := by
      have e : (HandSHeadRun.topDef (OpenLaw.row PySem.Challenge.rw_figurewheel_k20_back_machines_made).prog 20).name = ("law" : PySem.Str) := by kernel_rfl
      rw [← e]
      exact hmg0
    have Y2 : Fw.Say K20.fa K20.fn K20.f2 K h mg := ⟨KX, G, c.t.d, c.more⟩
    have e := hmg.symm.trans (Y2.glo 35 (x := "law") rfl)
    cases e
    obtain ⟨fd, F1, hb, _⟩ := K20.law_ok (P := (PySem.Challenge.rw_figurewheel_k20_back_machines_made).prog) (w := w) (base := h) Y2 K20.pure_law
    refine ⟨K, KX, fd, [], K20.spLaw K, (fun p hp => by cases hp), (fun p hp => by cases hp), (fun p hp => by cases hp), hb, fun H a ns hl _ _ hS => ⟨a, ns, rfl, hl, hS, fun _ => rfl⟩, fun base hK hns _ => ?_⟩
    obtain ⟨fd2, F2, _, hF⟩ := K20.law_ok (P := (PySem.Challenge.rw_figurewheel_k20_back_machines_made).prog) (w := w) (base := base) (h := base) ⟨hK, hns, Y2.c, Y2.m⟩ K20.pure_law
    rw [K20.funD_uniq F1 F2]
    exact hF
