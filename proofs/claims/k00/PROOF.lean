import PyProof.Rows.All
import Wide.All
import OpenK.AllK
import Wide.FinOn
import HandS.ForMost
import HandS.ForExc
import HandS.IsInst
import HandS.Star
import HandS.Wide
import HandS.Flow
import HandS.Defaults
import HandS.HeadHook2
import HandS.TupAny
import HandS.Deep
import HandS.Text
import HandS.RaiseMore
import KE.KExcSuper
import HandS.ExcIs
import HandS.ExcValue
import HandS.Conv
import HandS.HeadEnd
import HandS.Head0
import HandS.Head1
import HandS.Head2
import HandS.HeadHook1
import PySem.Challenge.RW_dyedpours_k00_errors_keep_their_value
import KE.KStateDown
set_option Elab.async false
set_option linter.all false
set_option maxRecDepth 100000
set_option maxHeartbeats 1000000
/-! DL: a layer of plain data over HandS. Dat: what a value is as data; Rp: it is so in the heap; readings over data alone. -/
namespace DL
open PySem PySem.Spec PyProof.Rows L2

/-- a value as plain data; pot: the list of the draws; raw: any other value -/
inductive Dat where
  | non | bl (b : Bool) | int (i : Int) | str (x : Str)
  | tup (xs : List Dat) | lst (xs : List Dat) | dct (kvs : List (Key × Dat))
  | exc (c : Str) (d : Dat) | obj (c : Str) (fs : List (Str × Dat)) | pot | raw (v : V)

/-- an own error of the class named c, at a, its own dict at dx; not in flight -/
def ErO (K : PySem.W.Frag) (c : Str) (a dx : Addr) : HO := .ext fun h =>
  ∃ (oe : Obj) (vs : Array Value), h.get? a = some oe ∧ oe.cls = .ref (He.ga K c) ∧ oe.dict = some dx ∧ oe.data = .fields vs

mutual
inductive Rp (K : PySem.W.Frag) (p : Option Addr) (H : Hp) : Dat → V → Prop
  | non : Rp K p H .non .non
  | bl (b : Bool) : Rp K p H (.bl b) (.bl b)
  | int (i : Int) : Rp K p H (.int i) (.int i)
  | str (x : Str) : Rp K p H (.str x) (.str x)
  | tup {a : Addr} {vs : List V} {ds : List Dat} : H a = some (.tup vs) → Rps K p H ds vs → Rp K p H (.tup ds) (.ref a)
  | lst {a : Addr} {vs : List V} {ds : List Dat} : H a = some (.lst vs) → Rps K p H ds vs → Rp K p H (.lst ds) (.ref a)
  | dct {a : Addr} {kvs : List (Key × V)} {ds : List (Key × Dat)} : H a = some (.dK kvs) → Rpk K p H ds kvs → Rp K p H (.dct ds) (.ref a)
  | exc {a dx : Addr} {c : Str} {d : Dat} {v : V} : H a = some (ErO K c a dx) → H dx = some (.xd [("value", v)]) → Rp K p H d v → Rp K p H (.exc c d) (.ref a)
  | obj {a dx : Addr} {c : Str} {fs : List (Str × Dat)} {vs : List (Str × V)} : H a = some (.ins (He.ga K c) dx vs) → Rpf K p H fs vs → Rp K p H (.obj c fs) (.ref a)
  | pot {a : Addr} : p = some a → Rp K p H .pot (.ref a)
  | raw (v : V) : Rp K p H (.raw v) v
inductive Rps (K : PySem.W.Frag) (p : Option Addr) (H : Hp) : List Dat → List V → Prop
  | nil : Rps K p H [] []
  | cons {d : Dat} {v : V} {ds : List Dat} {vs : List V} : Rp K p H d v → Rps K p H ds vs → Rps K p H (d :: ds) (v :: vs)
inductive Rpk (K : PySem.W.Frag) (p : Option Addr) (H : Hp) : List (Key × Dat) → List (Key × V) → Prop
  | nil : Rpk K p H [] []
  | cons {k : Key} {d : Dat} {v : V} {ds : List (Key × Dat)} {vs : List (Key × V)} : Rp K p H d v → Rpk K p H ds vs → Rpk K p H ((k, d) :: ds) ((k, v) :: vs)
inductive Rpf (K : PySem.W.Frag) (p : Option Addr) (H : Hp) : List (Str × Dat) → List (Str × V) → Prop
  | nil : Rpf K p H [] []
  | cons {k : Str} {d : Dat} {v : V} {ds : List (Str × Dat)} {vs : List (Str × V)} : Rp K p H d v → Rpf K p H ds vs → Rpf K p H ((k, d) :: ds) ((k, v) :: vs)
end

section
variable {K : PySem.W.Frag} {p : Option Addr} {H H' : Hp}
theorem sqt_mono {a : Addr} {xs : List V} (e : Same H H') (h : SqT K H a xs) : SqT K H' a xs := by
  rcases h with (h | ⟨o, h⟩) | h
  · exact .inl (.inl (e _ _ h))
  · exact .inl (.inr ⟨o, e _ _ h⟩)
  · exact .inr h
mutual
theorem Rp.mono (e : Same H H') : ∀ {d : Dat} {v : V}, Rp K p H d v → Rp K p H' d v
  | _, _, .non => .non
  | _, _, .bl b => .bl b
  | _, _, .int i => .int i
  | _, _, .str x => .str x
  | _, _, .tup h r => .tup (e _ _ h) (Rps.mono e r)
  | _, _, .lst h r => .lst (e _ _ h) (Rps.mono e r)
  | _, _, .dct h r => .dct (e _ _ h) (Rpk.mono e r)
  | _, _, .exc h h2 r => .exc (e _ _ h) (e _ _ h2) (Rp.mono e r)
  | _, _, .obj h r => .obj (e _ _ h) (Rpf.mono e r)
  | _, _, .pot h => .pot h
  | _, _, .raw v => .raw v
theorem Rps.mono (e : Same H H') : ∀ {ds : List Dat} {vs : List V}, Rps K p H ds vs → Rps K p H' ds vs
  | _, _, .nil => .nil
  | _, _, .cons h r => .cons (Rp.mono e h) (Rps.mono e r)
theorem Rpk.mono (e : Same H H') : ∀ {ds : List (Key × Dat)} {vs : List (Key × V)}, Rpk K p H ds vs → Rpk K p H' ds vs
  | _, _, .nil => .nil
  | _, _, .cons h r => .cons (Rp.mono e h) (Rpk.mono e r)
theorem Rpf.mono (e : Same H H') : ∀ {ds : List (Str × Dat)} {vs : List (Str × V)}, Rpf K p H ds vs → Rpf K p H' ds vs
  | _, _, .nil => .nil
  | _, _, .cons h r => .cons (Rp.mono e h) (Rpf.mono e r)
end
theorem Rps.length : ∀ {ds : List Dat} {vs : List V}, Rps K p H ds vs → ds.length = vs.length
  | _, _, .nil => rfl
  | _, _, .cons _ r => by rw [List.length_cons, List.length_cons, Rps.length r]
theorem Rps.get : ∀ {ds : List Dat} {vs : List V} {i : Nat} {v : V}, Rps K p H ds vs → vs[i]? = some v → ∃ d, ds[i]? = some d ∧ Rp K p H d v
  | _, _, _, _, .nil, e => by simp at e
  | _, _, 0, _, .cons h _, e => by simp at e; subst e; exact ⟨_, rfl, h⟩
  | _, _, i + 1, _, .cons _ r, e => by
    obtain ⟨d, e1, h⟩ := Rps.get (i := i) r (by simpa using e)
    exact ⟨d, by simpa using e1, h⟩
theorem Rps.get' : ∀ {ds : List Dat} {vs : List V} {i : Nat} {d : Dat}, Rps K p H ds vs → ds[i]? = some d → ∃ v, vs[i]? = some v ∧ Rp K p H d v
  | _, _, _, _, .nil, e => by simp at e
  | _, _, 0, _, .cons h _, e => by simp at e; subst e; exact ⟨_, rfl, h⟩
  | _, _, i + 1, _, .cons _ r, e => by
    obtain ⟨d, e1, h⟩ := Rps.get' (i := i) r (by simpa using e)
    exact ⟨d, by simpa using e1, h⟩
theorem Rps.app : ∀ {ds es : List Dat} {vs ws : List V}, Rps K p H ds vs → Rps K p H es ws → Rps K p H (ds ++ es) (vs ++ ws)
  | _, _, _, _, .nil, s => s
  | _, _, _, _, .cons h r, s => .cons h (Rps.app r s)
theorem Rps.drop : ∀ {ds : List Dat} {vs : List V} (n : Nat), Rps K p H ds vs → Rps K p H (ds.drop n) (vs.drop n)
  | _, _, 0, r => r
  | _, _, _ + 1, .nil => .nil
  | _, _, n + 1, .cons _ r => Rps.drop n r
theorem Rps.take : ∀ {ds : List Dat} {vs : List V} (n : Nat), Rps K p H ds vs → Rps K p H (ds.take n) (vs.take n)
  | _, _, 0, _ => .nil
  | _, _, _ + 1, .nil => .nil
  | _, _, n + 1, .cons h r => .cons h (Rps.take n r)
theorem Rps.rep : ∀ (k : Nat) {ds : List Dat} {vs : List V}, Rps K p H ds vs → Rps K p H (List.replicate k ds).flatten (List.replicate k vs).flatten
  | 0, _, _, _ => .nil
  | k + 1, _, _, r => by
    rw [List.replicate_succ, List.replicate_succ, List.flatten_cons, List.flatten_cons]
    exact r.app (Rps.rep k r)
theorem Rps.erase : ∀ {ds : List Dat} {vs : List V} (n : Nat), Rps K p H ds vs → Rps K p H (ds.eraseIdx n) (vs.eraseIdx n)
  | _, _, _, .nil => .nil
  | _, _, 0, .cons _ r => r
  | _, _, n + 1, .cons h r => .cons h (Rps.erase n r)
theorem Rps.rev {ds : List Dat} {vs : List V} (r : Rps K p H ds vs) : Rps K p H ds.reverse vs.reverse := by
  induction ds generalizing vs with
  | nil => cases r; exact .nil
  | cons d ds ih =>
    cases r with
    | cons h r =>
      rw [List.reverse_cons, List.reverse_cons]
      exact (ih r).app (.cons h .nil)
theorem Rps.one {d : Dat} {v : V} (h : Rp K p H d v) : Rps K p H [d] [v] := .cons h .nil
end

/-- the heap without what is owned -/
def hid (O : List Addr) (H : Hp) : Hp := fun a => if a ∈ O then none else H a
section
variable {O O' : List Addr} {H H' : Hp} {a : Addr} {o : HO}
theorem hid_out (h : a ∉ O) : hid O H a = H a := by unfold hid; rw [if_neg h]
theorem hid_in (h : a ∈ O) : hid O H a = none := by unfold hid; rw [if_pos h]
theorem hid_some (h : hid O H a = some o) : a ∉ O ∧ H a = some o := by
  by_cases q : a ∈ O
  · rw [hid_in q] at h; cases h
  · rw [hid_out q] at h; exact ⟨q, h⟩
theorem hid_le : Same (hid O H) H := fun b o e => (hid_some e).2
theorem hid_sub (h : ∀ a ∈ O, a ∈ O') : Same (hid O' H) (hid O H) := fun b o e => by
  obtain ⟨n, q⟩ := hid_some e
  rw [hid_out fun z => n (h b z)]; exact q
end

/-- what stood stands, but for the pot -/
def Ex (p : Option Addr) (H H' : Hp) : Prop := ∀ b o, H b = some o → p ≠ some b → H' b = some o
theorem Ex.refl {p : Option Addr} {H : Hp} : Ex p H H := fun _ _ e _ => e
theorem Ex.trans {p : Option Addr} {H H1 H2 : Hp} (a : Ex p H H1) (b : Ex p H1 H2) : Ex p H H2 := fun x o e n => b x o (a x o e n) n
theorem Ex.new {p : Option Addr} {H : Hp} {a : Addr} {o : HO} (h : H a = none) : Ex p H (upd H a o) := fun b x e _ => by rw [upd_ne (ne_of_none e h)]; exact e
theorem Ex.same {p : Option Addr} {H H' : Hp} (h : Same H H') : Ex p H H' := fun b o e _ => h b o e
theorem Ex.hid {p : Option Addr} {H H' : Hp} {O : List Addr} (e : Ex p H H') (h : ∀ a, p = some a → a ∈ O) : Same (hid O H) (hid O H') := fun b o q => by
  obtain ⟨n, q⟩ := hid_some q
  rw [hid_out n]
  exact e b o q fun z => n (h b z)

/-- the pot: three ints; u: how many draws at most went by -/
def PotAt (a : Addr) (u : Nat) (H : Hp) : Prop := ∃ i j k : Int, H a = some (.lst [.int i, .int j, .int k]) ∧ 0 ≤ i ∧ i < 10 ^ 300 ∧ 0 ≤ j ∧ j < 2 ^ 62 ∧ 0 ≤ k ∧ k ≤ (u : Int)
def PotOk (p : Option Addr) (O : List Addr) (u : Nat) (H : Hp) : Prop := ∀ a, p = some a → a ∈ O ∧ PotAt a u H

/-- where a def began: the pot, what is owned elsewhere, the heap; S: what is surely shared -/
structure Cn where
  p : Option Addr
  O0 : List Addr
  H0 : Hp
  S : Hp

inductive Slot where
  | no | va (d : Dat) | ow (d : Dat)
abbrev DEnv := List Slot

/-- an owned list or dict at a -/
inductive OwnAt (K : PySem.W.Frag) (p : Option Addr) (O : List Addr) (H : Hp) (a : Addr) : Dat → Prop
  | lst {vs : List V} {ds : List Dat} : H a = some (.lst vs) → Rps K p (hid O H) ds vs → OwnAt K p O H a (.lst ds)
  | dct {kvs : List (Key × V)} {ds : List (Key × Dat)} : H a = some (.dK kvs) → Rpk K p (hid O H) ds kvs → OwnAt K p O H a (.dct ds)

def SlotOk (K : PySem.W.Frag) (C : Cn) (O : List Addr) (H : Hp) (σ : L2.St) (f : Nat → Addr) (i : Nat) : Slot → Prop
  | .no => True
  | .va d => ∃ v, σ[i]? = some (some v) ∧ Rp K C.p (hid O H) d v
  | .ow d => σ[i]? = some (some (.ref (f i))) ∧ f i ∈ O ∧ f i ∉ C.O0 ∧ OwnAt K C.p O H (f i) d

structure Iv (K : PySem.W.Frag) (C : Cn) (O : List Addr) (G : DEnv) (u : Nat) (σ : L2.St) (H : Hp) : Prop where
  ext : Ex C.p C.H0 H
  sub : ∀ a ∈ C.O0, a ∈ O
  own : ∀ a ∈ O, a ∈ C.O0 ∨ C.H0 a = none
  dom : ∀ a ∈ O, H a ≠ none
  pot : PotOk C.p C.O0 u H
  len : σ.length = G.length
  shr : Same C.S (hid O H)
  slots : ∃ f : Nat → Addr, (∀ i s, G[i]? = some s → SlotOk K C O H σ f i s) ∧ ∀ i j d e, G[i]? = some (.ow d) → G[j]? = some (.ow e) → f i = f j → i = j

/-- what a def leaves -/
structure Ok0 (C : Cn) (u : Nat) (H : Hp) : Prop where
  ext : Ex C.p C.H0 H
  dom : ∀ a ∈ C.O0, H a ≠ none
  pot : PotOk C.p C.O0 u H

section
variable {K : PySem.W.Frag} {C : Cn} {O : List Addr} {G : DEnv} {u u' : Nat} {σ : L2.St} {H H' : Hp}
theorem Iv.potO (I : Iv K C O G u σ H) : ∀ a, C.p = some a → a ∈ O := fun a e => I.sub a (I.pot a e).1
theorem Iv.ok0 (I : Iv K C O G u σ H) : Ok0 C u H := ⟨I.ext, fun a h => I.dom a (I.sub a h), I.pot⟩
theorem OwnAt.ex {a : Addr} {d : Dat} (h : OwnAt K C.p O H a d) (e : Ex C.p H H') (hp : ∀ a, C.p = some a → a ∈ O) (ha : C.p ≠ some a) : OwnAt K C.p O H' a d := by
  cases h with
  | lst h r => exact .lst (e _ _ h ha) (r.mono (e.hid hp))
  | dct h r => exact .dct (e _ _ h ha) (r.mono (e.hid hp))
theorem pot_ne_none {a : Addr} {u : Nat} {H : Hp} (h : PotAt a u H) : H a ≠ none := by
  obtain ⟨i, j, k, e, _⟩ := h
  rw [e]; exact fun z => nomatch z
/-- behind an expression -/
theorem Iv.ex (I : Iv K C O G u σ H) (e : Ex C.p H H') (hp : PotOk C.p C.O0 u' H') : Iv K C O G u' σ H' := by
  obtain ⟨f, h1, h2⟩ := I.slots
  refine ⟨I.ext.trans e, I.sub, I.own, fun a ha => ?_, hp, I.len, I.shr.trans (e.hid I.potO), f, fun i s hs => ?_, h2⟩
  · by_cases q : C.p = some a
    · exact pot_ne_none (hp a q).2
    · cases z : H a with
      | none => exact absurd z (I.dom a ha)
      | some o => rw [e a o z q]; exact fun z => nomatch z
  · have h := h1 i s hs
    cases s with
    | no => trivial
    | va d =>
      obtain ⟨v, e1, r⟩ := h
      exact ⟨v, e1, r.mono (e.hid I.potO)⟩
    | ow d =>
      obtain ⟨e1, e2, e3, r⟩ := h
      exact ⟨e1, e2, e3, r.ex e I.potO fun z => e3 (I.pot _ z).1⟩
theorem PotAt.new {a b : Addr} {u : Nat} {H : Hp} {o : HO} (h : PotAt a u H) (hb : H b = none) : PotAt a u (upd H b o) := by
  obtain ⟨i, j, k, e, r⟩ := h
  exact ⟨i, j, k, by rw [upd_ne (ne_of_none e hb)]; exact e, r⟩
theorem Iv.new (I : Iv K C O G u σ H) {a : Addr} {o : HO} (h : H a = none) : Iv K C O G u σ (upd H a o) :=
  I.ex (Ex.new h) fun b q => ⟨(I.pot b q).1, (I.pot b q).2.new h⟩
theorem Iv.nin (I : Iv K C O G u σ H) {a : Addr} (h : H a = none) : a ∉ O := fun z => I.dom a z h
theorem Iv.va (I : Iv K C O G u σ H) {i : Nat} {d : Dat} (h : G[i]? = some (.va d)) : ∃ v, σ[i]? = some (some v) ∧ Rp K C.p (hid O H) d v := by
  obtain ⟨f, h1, _⟩ := I.slots
  exact h1 i _ h
/-- a name is stored -/
theorem Iv.set (I : Iv K C O G u σ H) {i : Nat} {v : V} {d : Dat} (r : Rp K C.p (hid O H) d v) : Iv K C O (G.set i (.va d)) u (σ.set i (some v)) H := by
  obtain ⟨f, h1, h2⟩ := I.slots
  refine ⟨I.ext, I.sub, I.own, I.dom, I.pot, by simpa using I.len, I.shr, f, fun j s hs => ?_, fun j k x y hj hk q => ?_⟩
  · by_cases q : j = i
    · subst q
      by_cases l : j < G.length
      · rw [List.getElem?_set_self l] at hs
        cases hs
        exact ⟨v, List.getElem?_set_self (by rw [I.len]; exact l), r⟩
      · rw [List.getElem?_eq_none (by simpa using l)] at hs; cases hs
    · rw [List.getElem?_set_ne (Ne.symm q)] at hs
      have h := h1 j s hs
      cases s with
      | no => trivial
      | va d => obtain ⟨w, e, z⟩ := h; exact ⟨w, by rw [List.getElem?_set_ne (Ne.symm q)]; exact e, z⟩
      | ow d => obtain ⟨e, z⟩ := h; exact ⟨by rw [List.getElem?_set_ne (Ne.symm q)]; exact e, z⟩
  · have ne : ∀ {m : Nat} {x : Dat}, (G.set i (.va d))[m]? = some (.ow x) → G[m]? = some (.ow x) := fun {m x} e => by
      by_cases z : m = i
      · subst z
        by_cases l : m < G.length
        · rw [List.getElem?_set_self l] at e; cases e
        · rw [List.getElem?_eq_none (by simpa using l)] at e; cases e
      · rw [List.getElem?_set_ne (Ne.symm z)] at e; exact e
    exact h2 j k x y (ne hj) (ne hk) q
/-- slots forgotten -/
theorem Iv.forget (I : Iv K C O G u σ H) {G' : DEnv} {σ' : L2.St} (hl : G'.length = G.length) (hs : σ'.length = σ.length) (h : ∀ (i : Nat) (s : Slot), G'[i]? = some s → s = .no ∨ (G[i]? = some s ∧ σ'[i]? = σ[i]?)) : Iv K C O G' u σ' H := by
  obtain ⟨f, h1, h2⟩ := I.slots
  refine ⟨I.ext, I.sub, I.own, I.dom, I.pot, by rw [hs, hl]; exact I.len, I.shr, f, fun j s hj => ?_, fun j k x y hj hk q => ?_⟩
  · rcases h j s hj with e | ⟨e, z⟩
    · subst e; trivial
    · have t := h1 j s e
      cases s with
      | no => trivial
      | va d => obtain ⟨w, a, b⟩ := t; exact ⟨w, z.trans a, b⟩
      | ow d => obtain ⟨a, b⟩ := t; exact ⟨z.trans a, b⟩
  · rcases h j _ hj with e | ⟨e, _⟩
    · cases e
    · rcases h k _ hk with e' | ⟨e', _⟩
      · cases e'
      · exact h2 j k x y e e' q
end

/-! ### readings over data -/
abbrev QD := Dat → Nat → Prop
abbrev DM := DEnv → Nat → QD → QD → Prop
abbrev DTM := DEnv → Nat → (Bool → Nat → Prop) → QD → Prop
abbrev DAM := DEnv → Nat → (List Dat → Nat → Prop) → QD → Prop
abbrev DF := List Dat → Nat → QD → QD → Prop
/-- what is wanted of an error that leaves -/
def EOk (K : PySem.W.Frag) (C : Cn) (E : XK) (Ed : QD) : Prop := ∀ (c : Str) (d : Dat) (v : V) (a : Addr) (u : Nat) (H : Hp), Ok0 C u H → H a = some (.xd [("value", v)]) → Rp K C.p (hid C.O0 H) d v → Ed (.exc c d) u → E (.ref (He.ga K c)) (some a) H
def tE (K : PySem.W.Frag) (E : XK) (m : DM) : TE := fun σ H Q => ∃ (C : Cn) (O : List Addr) (G : DEnv) (u : Nat) (Qd Ed : QD), Iv K C O G u σ H ∧ EOk K C E Ed ∧ m G u Qd Ed ∧
  ∀ d v u' H', Iv K C O G u' σ H' → Ex C.p H H' → Rp K C.p (hid O H') d v → Qd d u' → Q v H'
def tT (K : PySem.W.Frag) (E : XK) (m : DTM) : TT := fun σ H Q => ∃ (C : Cn) (O : List Addr) (G : DEnv) (u : Nat) (Qd : Bool → Nat → Prop) (Ed : QD), Iv K C O G u σ H ∧ EOk K C E Ed ∧ m G u Qd Ed ∧
  ∀ b u' H', Iv K C O G u' σ H' → Ex C.p H H' → Qd b u' → Q b H'
def tA (K : PySem.W.Frag) (E : XK) (m : DAM) : TA := fun σ H Q => ∃ (C : Cn) (O : List Addr) (G : DEnv) (u : Nat) (Qd : List Dat → Nat → Prop) (Ed : QD), Iv K C O G u σ H ∧ EOk K C E Ed ∧ m G u Qd Ed ∧
  ∀ ds vs u' H', Iv K C O G u' σ H' → Ex C.p H H' → Rps K C.p (hid O H') ds vs → Qd ds u' → Q vs H'
theorem pe_weak {X : Cx} {e : Expr} {t t' : TE} (h : PE X e t) (w : ∀ σ H Q, t' σ H Q → t σ H Q) : PE X e t' := ⟨fun pins s σ H Q I q => h.run pins s σ H Q I (w σ H Q q)⟩
theorem pt_weak {X : Cx} {e : Expr} {t t' : TT} (h : PT X e t) (w : ∀ σ H Q, t' σ H Q → t σ H Q) : PT X e t' := ⟨fun pins s σ H Q I q => h.run pins s σ H Q I (w σ H Q q)⟩
theorem pa_weak {X : Cx} {e : List Expr} {t t' : TA} (h : PA X e t) (w : ∀ σ H Q, t' σ H Q → t σ H Q) : PA X e t' := ⟨fun pos pins s σ H Q I q => h.run pos pins s σ H Q I (w σ H Q q)⟩
theorem ps_weak {X : Cx} {e : Stmt} {t t' : TS} (h : PS X e t) (w : ∀ D σ H, t' D σ H → t D σ H) : PS X e t' := ⟨fun pins s σ H D I q => h.run pins s σ H D I (w D σ H q)⟩
theorem pss_weak {X : Cx} {e : List Stmt} {t t' : TS} (h : PSs X e t) (w : ∀ D σ H, t' D σ H → t D σ H) : PSs X e t' := ⟨fun pins s σ H D I q => h.run pins s σ H D I (w D σ H q)⟩
abbrev DE (X : Cx) (E : XK) (e : Expr) (m : DM) : Prop := PE X e (tE X.K E m)
abbrev DT (X : Cx) (E : XK) (e : Expr) (m : DTM) : Prop := PT X e (tT X.K E m)
abbrev DA (X : Cx) (E : XK) (e : List Expr) (m : DAM) : Prop := PA X e (tA X.K E m)

/-! ### statements -/
structure DEnds where
  nx : DEnv → Nat → Prop
  rt : QD
  ex : QD
  bk : DEnv → Nat → Prop := fun _ _ => False
  ct : DEnv → Nat → Prop := fun _ _ => False
abbrev DSM := DEnv → Nat → DEnds → Prop
def tS (K : PySem.W.Frag) (E : XK) (m : DSM) : TS := fun D σ H => ∃ (C : Cn) (O : List Addr) (G : DEnv) (u : Nat) (Z : DEnds), Iv K C O G u σ H ∧ EOk K C E Z.ex ∧ m G u Z ∧
  (∀ O' G' u' σ' H', Iv K C O' G' u' σ' H' → Z.nx G' u' → D.nx σ' H') ∧ (∀ O' G' u' σ' H', Iv K C O' G' u' σ' H' → Z.bk G' u' → D.bk σ' H') ∧ (∀ O' G' u' σ' H', Iv K C O' G' u' σ' H' → Z.ct G' u' → D.ct σ' H') ∧
  (∀ d v u' H', Ok0 C u' H' → Rp K C.p (hid C.O0 H') d v → Z.rt d u' → D.rt v H')
abbrev DS (X : Cx) (E : XK) (e : Stmt) (m : DSM) : Prop := PS X e (tS X.K E m)
abbrev DSs (X : Cx) (E : XK) (e : List Stmt) (m : DSM) : Prop := PSs X e (tS X.K E m)

/-! ### a def's promise over data -/
def spD (K : PySem.W.Frag) (F : DF) : Sp := fun vs H Q E => ∃ (p : Option Addr) (O : List Addr) (ds : List Dat) (u : Nat) (Qd Ed : QD), (∀ a ∈ O, H a ≠ none) ∧ PotOk p O u H ∧ Rps K p (hid O H) ds vs ∧ F ds u Qd Ed ∧
  (∀ d v u' H', Ex p H H' → PotOk p O u' H' → Rp K p (hid O H') d v → Qd d u' → Q v H') ∧
  (∀ c d v a u' H', Ex p H H' → PotOk p O u' H' → H' a = some (.xd [("value", v)]) → Rp K p (hid O H') d v → Ed (.exc c d) u' → E (.ref (He.ga K c)) (some a) H')
end DL

set_option Elab.async false
set_option linter.all false
set_option maxRecDepth 100000
set_option maxHeartbeats 1000000
namespace DL
open PySem PySem.Spec PyProof.Rows L2

section
variable {K : PySem.W.Frag} {C : Cn} {O : List Addr} {G : DEnv} {u u' : Nat} {σ : L2.St} {H H' : Hp} {p : Option Addr}
theorem PotAt.same {a : Addr} (h : PotAt a u H) (e : Same H H') : PotAt a u H' := by
  obtain ⟨i, j, k, q, r⟩ := h
  exact ⟨i, j, k, e _ _ q, r⟩
theorem Iv.grow (I : Iv K C O G u σ H) (h : Same H H') : Iv K C O G u σ H' := I.ex (Ex.same h) fun a e => ⟨(I.pot a e).1, (I.pot a e).2.same h⟩
theorem same_new {a : Addr} {o : HO} (h : H a = none) : Same H (upd H a o) := fun b x e => by rw [upd_ne (ne_of_none e h)]; exact e
theorem hid_same (h : Same H H') : Same (hid O H) (hid O H') := fun b o e => by
  obtain ⟨n, q⟩ := hid_some e
  rw [hid_out n]; exact h _ _ q
theorem hid_new {a : Addr} {o : HO} (hO : ∀ x ∈ O, H x ≠ none) (h : H a = none) : hid O (upd H a o) a = some o := by
  rw [hid_out fun z => hO a z h, upd_same]
end

/-! ### two values, one value, a list of values -/
def Snd2 (K : PySem.W.Frag) (r : R2) (f : Dat → Dat → (Dat → Prop) → Prop) : Prop := ∀ (p : Option Addr) (O : List Addr) (H : Hp) (x y : Dat) (v w : V) (q : Dat → Prop) (Q : VK), (∀ a ∈ O, H a ≠ none) →
  Rp K p (hid O H) x v → Rp K p (hid O H) y w → f x y q → (∀ d z H', Same H H' → Rp K p (hid O H') d z → q d → Q z H') → r v w H Q
def Snd1 (K : PySem.W.Frag) (r : V → Hp → VK → Prop) (f : Dat → (Dat → Prop) → Prop) : Prop := ∀ (p : Option Addr) (O : List Addr) (H : Hp) (x : Dat) (v : V) (q : Dat → Prop) (Q : VK), (∀ a ∈ O, H a ≠ none) →
  Rp K p (hid O H) x v → f x q → (∀ d z H', Same H H' → Rp K p (hid O H') d z → q d → Q z H') → r v H Q
def SndN (K : PySem.W.Frag) (r : List V → Hp → VK → Prop) (f : List Dat → (Dat → Prop) → Prop) : Prop := ∀ (p : Option Addr) (O : List Addr) (H : Hp) (xs : List Dat) (vs : List V) (q : Dat → Prop) (Q : VK), (∀ a ∈ O, H a ≠ none) →
  Rps K p (hid O H) xs vs → f xs q → (∀ d z H', Same H H' → Rp K p (hid O H') d z → q d → Q z H') → r vs H Q
def dOp (f : Dat → Dat → (Dat → Prop) → Prop) (ma mb : DM) : DM := fun G u Q E => ma G u (fun x u1 => mb G u1 (fun y u2 => f x y fun z => Q z u2) E) E
def dUn (f : Dat → (Dat → Prop) → Prop) (ma : DM) : DM := fun G u Q E => ma G u (fun x u1 => f x fun z => Q z u1) E
def dFn (f : List Dat → (Dat → Prop) → Prop) (ma : DAM) : DM := fun G u Q E => ma G u (fun xs u1 => f xs fun z => Q z u1) E

section
variable {X : Cx} {E : XK} {a b : Expr} {ma mb : DM} {pos : Pos}
theorem op_go {r : R2} {f : Dat → Dat → (Dat → Prop) → Prop} (hs : Snd2 X.K r f) {σ : L2.St} {H : Hp} {Q : VK} (h : tE X.K E (dOp f ma mb) σ H Q) : tOp r (tE X.K E ma) (tE X.K E mb) σ H Q := by
  obtain ⟨C, O, G, u, Qd, Ed, I, ek, hm, k⟩ := h
  refine ⟨C, O, G, u, _, Ed, I, ek, hm, fun x v u1 H1 I1 e1 r1 h1 => ?_⟩
  refine ⟨C, O, G, u1, _, Ed, I1, ek, h1, fun y w u2 H2 I2 e2 r2 h2 => ?_⟩
  exact hs C.p O H2 x y v w _ Q I2.dom (r1.mono (e2.hid I1.potO)) r2 h2 fun d z H' s r q => k d z u2 H' (I2.grow s) ((e1.trans e2).trans (Ex.same s)) r q
theorem de_bin {op : Operator} {r : R2} {f : Dat → Dat → (Dat → Prop) → Prop} (ho : OpR X (binaryOp op) r) (hs : Snd2 X.K r f) (ha : DE X E a ma) (hb : DE X E b mb) : DE X E (.BinOp a op b pos) (dOp f ma mb) :=
  pe_weak (pe_op ho ha hb) fun _ _ _ h => op_go hs h
theorem de_cmp {op : CmpOp} {r : R2} {f : Dat → Dat → (Dat → Prop) → Prop} (ho : OpR X (compareOp op) r) (hs : Snd2 X.K r f) (ha : DE X E a ma) (hb : DE X E b mb) (hm : behindInMarks op b = false) : DE X E (.Compare a [op] [b] pos) (dOp f ma mb) :=
  pe_weak (pe_cmpR ho ha hb hm) fun _ _ _ h => op_go hs h
theorem de_ix {r : R2} {f : Dat → Dat → (Dat → Prop) → Prop} (ho : IxR X r) (hs : Snd2 X.K r f) (ha : DE X E a ma) (hb : DE X E b mb) (hp : PlainIx b) : DE X E (.Subscript a b pos) (dOp f ma mb) :=
  pe_weak (pe_ix ho ha hb hp) fun _ _ _ h => op_go hs h
theorem de_un {op : UnaryOp} {r : V → Hp → VK → Prop} {f : Dat → (Dat → Prop) → Prop} (ho : UnR X (unaryOp op) r) (hs : Snd1 X.K r f) (ha : DE X E a ma) : DE X E (.UnaryOp op a pos) (dUn f ma) :=
  pe_weak (pe_un ho ha) fun σ H Q h => by
    obtain ⟨C, O, G, u, Qd, Ed, I, ek, hm, k⟩ := h
    refine ⟨C, O, G, u, _, Ed, I, ek, hm, fun x v u1 H1 I1 e1 r1 h1 => ?_⟩
    exact hs C.p O H1 x v _ Q I1.dom r1 h1 fun d z H' s r q => k d z u1 H' (I1.grow s) (e1.trans (Ex.same s)) r q

/-! ### names, constants -/
def dVar (i : Nat) : DM := fun G u Q _ => match G[i]? with
  | some (.va d) => Q d u
  | _ => False
def dC (d : Dat) : DM := fun _ u Q _ => Q d u
theorem dVar_some {i : Nat} {G : DEnv} {u : Nat} {Q E : QD} (h : dVar i G u Q E) : ∃ d, G[i]? = some (.va d) ∧ Q d u := by
  unfold dVar at h
  cases e : G[i]? with
  | none => rw [e] at h; exact h.elim
  | some s =>
    rw [e] at h
    cases s with
    | va d => exact ⟨d, rfl, h⟩
    | no => exact h.elim
    | ow d => exact h.elim
theorem de_tvar {e : Expr} {i : Nat} (h : PE X e (tVar i)) : DE X E e (dVar i) := pe_weak h fun σ H Q h => by
  obtain ⟨C, O, G, u, Qd, Ed, I, ek, hm, k⟩ := h
  obtain ⟨d, hd, q⟩ := dVar_some hm
  obtain ⟨v, e, r⟩ := I.va hd
  exact ⟨v, e, k d v u H I Ex.refl r q⟩
theorem de_tc {e : Expr} {v : V} {d : Dat} (h : PE X e (tC v)) (r : ∀ p H, Rp X.K p H d v) : DE X E e (dC d) := pe_weak h fun σ H Q h => by
  obtain ⟨C, O, G, u, Qd, Ed, I, ek, hm, k⟩ := h
  exact k d v u H I Ex.refl (r _ _) hm
theorem dv (i : Nat) {x : Str} (hN : X.N[i]? = some x := by rfl) (hv : Vis X.env.scope x := by first | exact Or.inl rfl | exact Or.inr (Or.inl rfl) | exact Or.inr (Or.inr rfl)) (hd : (x == ("__debug__" : Str)) = false := by decide) (hcd : (x == ("__classdict__" : Str)) = false := by decide) : DE X E (.Name x pos) (dVar i) :=
  de_tvar (pe_var hN hv hd hcd)
theorem de_int {i j} : DE X E (.Constant (.int i) j pos) (dC (.int i)) := de_tc pe_int fun _ _ => .int i
theorem de_bl {b j} : DE X E (.Constant (.bool b) j pos) (dC (.bl b)) := de_tc pe_bl fun _ _ => .bl b
theorem de_non {j} : DE X E (.Constant .none j pos) (dC .non) := de_tc pe_non fun _ _ => .non
theorem de_str {x j} : DE X E (.Constant (.str x) j pos) (dC (.str x)) := de_tc pe_str fun _ _ => .str x
theorem de_gint {x : Str} {i : Int} (hm : ∃ t, X.mg x = some (.int i t)) (hg : Gl X x) (hd : (x == ("__debug__" : Str)) = false := by decide) : DE X E (.Name x pos) (dC (.int i)) := by
  obtain ⟨t, hm⟩ := hm
  exact de_tc (v := .int i) (pe_glob hg hm ⟨t, rfl⟩ hd) fun _ _ => .int i
theorem de_gstr {x z : Str} (hm : ∃ t, X.mg x = some (.str z t)) (hg : Gl X x) (hd : (x == ("__debug__" : Str)) = false := by decide) : DE X E (.Name x pos) (dC (.str z)) := by
  obtain ⟨t, hm⟩ := hm
  exact de_tc (v := .str z) (pe_glob hg hm ⟨t, rfl⟩ hd) fun _ _ => .str z
theorem de_gref {x : Str} {a : Addr} (hm : X.mg x = some (.ref a)) (hg : Gl X x) (hd : (x == ("__debug__" : Str)) = false := by decide) : DE X E (.Name x pos) (dC (.raw (.ref a))) :=
  de_tc (v := .ref a) (pe_glob hg hm rfl hd) fun _ _ => .raw _
theorem de_bty {x : Str} {n : String} (hm : X.mg x = none) (hv : bootBuiltins x = some (.type n)) (hg : Gl X x) (hn : x ≠ "__name__" := by decide) (hd : (x == ("__debug__" : Str)) = false := by decide) : DE X E (.Name x pos) (dC (.raw (.ty n))) :=
  de_tc (v := .ty n) (pe_bltn hg hm hv rfl hn hd) fun _ _ => .raw _

/-! ### argument lists, displays -/
def dNil : DAM := fun _ u Q _ => Q [] u
def dCons (m : DM) (ms : DAM) : DAM := fun G u Q E => m G u (fun x u1 => ms G u1 (fun xs u2 => Q (x :: xs) u2) E) E
def dStar (m : DM) (ms : DAM) : DAM := fun G u Q E => m G u (fun x u1 => match x with
  | .lst ys => ms G u1 (fun xs u2 => Q (ys ++ xs) u2) E
  | .tup ys => ms G u1 (fun xs u2 => Q (ys ++ xs) u2) E
  | _ => False) E
variable {e : Expr} {es : List Expr} {m : DM} {ms : DAM}
theorem da_nil : DA X E [] dNil := pa_weak pa_nil fun σ H Q h => by
  obtain ⟨C, O, G, u, Qd, Ed, I, ek, hm, k⟩ := h
  exact k [] [] u H I Ex.refl .nil hm
theorem da_cons (ha : DE X E e m) (hr : DA X E es ms) (hs : starEach (e :: es) X.env = (false, eval e X.env) :: starEach es X.env := by rfl) : DA X E (e :: es) (dCons m ms) :=
  pa_weak (pa_cons ha hr hs) fun σ H Q h => by
    obtain ⟨C, O, G, u, Qd, Ed, I, ek, hm, k⟩ := h
    refine ⟨C, O, G, u, _, Ed, I, ek, hm, fun x v u1 H1 I1 e1 r1 h1 => ?_⟩
    exact ⟨C, O, G, u1, _, Ed, I1, ek, h1, fun xs vs u2 H2 I2 e2 r2 h2 => k _ _ u2 H2 I2 (e1.trans e2) (.cons (r1.mono (e2.hid I1.potO)) r2) h2⟩
theorem da_star {p : Pos} (ha : DE X E e m) (hr : DA X E es ms) (hs : starEach (.Starred e p :: es) X.env = (true, eval e X.env) :: starEach es X.env := by rfl) : DA X E (.Starred e p :: es) (dStar m ms) :=
  pa_weak (StX.pa_star ha hr hs) fun σ H Q h => by
    obtain ⟨C, O, G, u, Qd, Ed, I, ek, hm, k⟩ := h
    refine ⟨C, O, G, u, _, Ed, I, ek, hm, fun x v u1 H1 I1 e1 r1 h1 => ?_⟩
    cases r1 with
    | @tup a vs ds ha r =>
      exact ⟨a, vs, rfl, .inl (.inl (.inl (hid_le _ _ ha))), C, O, G, u1, _, Ed, I1, ek, h1, fun xs ws u2 H2 I2 e2 r2 h2 => k _ _ u2 H2 I2 (e1.trans e2) ((r.mono (e2.hid I1.potO)).app r2) h2⟩
    | @lst a vs ds ha r =>
      exact ⟨a, vs, rfl, .inr (.inl (.inl (hid_le _ _ ha))), C, O, G, u1, _, Ed, I1, ek, h1, fun xs ws u2 H2 I2 e2 r2 h2 => k _ _ u2 H2 I2 (e1.trans e2) ((r.mono (e2.hid I1.potO)).app r2) h2⟩
    | _ => exact h1.elim
def dTup (ms : DAM) : DM := fun G u Q E => ms G u (fun xs u1 => xs.length ≤ sizeLine ∧ Q (.tup xs) u1) E
def dLst (ms : DAM) : DM := fun G u Q E => ms G u (fun xs u1 => xs.length ≤ sizeLine ∧ Q (.lst xs) u1) E
theorem de_tup {x1} (h : DA X E es ms) : DE X E (.Tuple es x1 pos) (dTup ms) := pe_weak (pe_tup h) fun σ H Q h => by
  obtain ⟨C, O, G, u, Qd, Ed, I, ek, hm, k⟩ := h
  refine ⟨C, O, G, u, _, Ed, I, ek, hm, fun xs vs u1 H1 I1 e1 r1 h1 => ⟨by rw [← r1.length]; exact h1.1, fun p hp => ?_⟩⟩
  exact k _ _ u1 _ (I1.new hp) (e1.trans (Ex.new hp)) (.tup (hid_new I1.dom hp) (r1.mono (hid_same (same_new hp)))) h1.2
theorem de_lst (h : DA X E es ms) : DE X E (.List es pos) (dLst ms) := pe_weak (pe_lst h) fun σ H Q h => by
  obtain ⟨C, O, G, u, Qd, Ed, I, ek, hm, k⟩ := h
  refine ⟨C, O, G, u, _, Ed, I, ek, hm, fun xs vs u1 H1 I1 e1 r1 h1 => ⟨by rw [← r1.length]; exact h1.1, fun p hp => ?_⟩⟩
  exact k _ _ u1 _ (I1.new hp) (e1.trans (Ex.new hp)) (.lst (hid_new I1.dom hp) (r1.mono (hid_same (same_new hp)))) h1.2

/-! ### tests -/
def dTest (m : DM) : DTM := fun G u Q E => m G u (fun d u1 => match d with
  | .bl b => Q b u1
  | _ => False) E
theorem test_go {σ : L2.St} {H : Hp} {Q : Bool → Hp → Prop} (h : tT X.K E (dTest m) σ H Q) : tE X.K E m σ H fun x H1 => ∃ c, x = .bl c ∧ Q c H1 := by
  obtain ⟨C, O, G, u, Qd, Ed, I, ek, hm, k⟩ := h
  refine ⟨C, O, G, u, _, Ed, I, ek, hm, fun x v u1 H1 I1 e1 r1 h1 => ?_⟩
  cases r1 with
  | bl b => exact ⟨b, rfl, k b u1 H1 I1 e1 h1⟩
  | _ => exact h1.elim
theorem dt_val (h : DE X E e m) (he : ∀ whole, isTrue e X.env whole = (do let v ← whole; standAt e.pos; holding [v] (truthy v)) := by intro _; rfl) : DT X E e (dTest m) :=
  pt_weak (pt_val h he) fun _ _ _ h => test_go h
theorem dt_cmp {op : CmpOp} {r : R2} {f : Dat → Dat → (Dat → Prop) → Prop} (ho : OpR X (compareOp op) r) (hs : Snd2 X.K r f) (ha : DE X E a ma) (hb : DE X E b mb) (hm : behindInMarks op b = false) : DT X E (.Compare a [op] [b] pos) (dTest (dOp f ma mb)) :=
  pt_weak (pt_cmpR ho ha hb hm) fun σ H Q h => by
    have z := test_go h
    exact op_go hs z
def dNot (t : DTM) : DTM := fun G u Q E => t G u (fun b u1 => Q (!b) u1) E
def dAnd (t s : DTM) : DTM := fun G u Q E => t G u (fun b u1 => bif b then s G u1 Q E else Q false u1) E
def dOr (t s : DTM) : DTM := fun G u Q E => t G u (fun b u1 => bif b then Q true u1 else s G u1 Q E) E
variable {t s : DTM} {rest : List Expr}
theorem dt_not (h : DT X E a t) : DT X E (.UnaryOp .Not a pos) (dNot t) := pt_weak (pt_not h) fun σ H Q h => by
  obtain ⟨C, O, G, u, Qd, Ed, I, ek, hm, k⟩ := h
  exact ⟨C, O, G, u, _, Ed, I, ek, hm, fun x u1 H1 I1 e1 h1 => k _ u1 H1 I1 e1 h1⟩
abbrev DW (X : Cx) (E : XK) (e : Expr) (m : DTM) : Prop := PW X e (tT X.K E m)
theorem pw_weak {X : Cx} {e : Expr} {t t' : TT} (h : PW X e t) (w : ∀ σ H Q, t' σ H Q → t σ H Q) : PW X e t' := ⟨fun wh pins s σ H Q I q => h.run wh pins s σ H Q I (w σ H Q q)⟩
theorem dw_and1 (h : DT X E a t) : DW X E (.BoolOp .And [a] pos) t := pw_and1 h
theorem dw_or1 (h : DT X E a t) : DW X E (.BoolOp .Or [a] pos) t := pw_or1 h
theorem dw_and (ha : DT X E a t) (hb : DW X E (.BoolOp .And (b :: rest) pos) s) : DW X E (.BoolOp .And (a :: b :: rest) pos) (dAnd t s) := pw_weak (pw_and ha hb) fun σ H Q h => by
  obtain ⟨C, O, G, u, Qd, Ed, I, ek, hm, k⟩ := h
  refine ⟨C, O, G, u, _, Ed, I, ek, hm, fun x u1 H1 I1 e1 h1 => ?_⟩
  cases x with
  | true => exact iteT ⟨C, O, G, u1, _, Ed, I1, ek, h1, fun y u2 H2 I2 e2 h2 => k _ u2 H2 I2 (e1.trans e2) h2⟩
  | false => exact iteF (k _ u1 H1 I1 e1 h1)
theorem dw_or (ha : DT X E a t) (hb : DW X E (.BoolOp .Or (b :: rest) pos) s) : DW X E (.BoolOp .Or (a :: b :: rest) pos) (dOr t s) := pw_weak (pw_or ha hb) fun σ H Q h => by
  obtain ⟨C, O, G, u, Qd, Ed, I, ek, hm, k⟩ := h
  refine ⟨C, O, G, u, _, Ed, I, ek, hm, fun x u1 H1 I1 e1 h1 => ?_⟩
  cases x with
  | true => exact iteT (k _ u1 H1 I1 e1 h1)
  | false => exact iteF ⟨C, O, G, u1, _, Ed, I1, ek, h1, fun y u2 H2 I2 e2 h2 => k _ u2 H2 I2 (e1.trans e2) h2⟩
theorem dt_w (h : DW X E e t) : DT X E e t := PW.pt h
/-! ### and, or, not as values -/
def dAndV (m n : DM) : DM := fun G u Q E => m G u (fun d u1 => match d with
  | .bl b => bif b then n G u1 Q E else Q (.bl false) u1
  | _ => False) E
def dOrV (m n : DM) : DM := fun G u Q E => m G u (fun d u1 => match d with
  | .bl b => bif b then Q (.bl true) u1 else n G u1 Q E
  | _ => False) E
def dNotV (m : DM) : DM := fun G u Q E => m G u (fun d u1 => match d with
  | .bl b => Q (.bl (!b)) u1
  | _ => False) E
theorem de_one {op} (h : DE X E a ma) : DE X E (.BoolOp op [a] pos) ma := pe_one h
theorem de_and (ha : DE X E a ma) (hb : DE X E (.BoolOp .And (b :: rest) pos) mb) : DE X E (.BoolOp .And (a :: b :: rest) pos) (dAndV ma mb) := pe_weak (pe_and ha hb) fun σ H Q h => by
  obtain ⟨C, O, G, u, Qd, Ed, I, ek, hm, k⟩ := h
  refine ⟨C, O, G, u, _, Ed, I, ek, hm, fun x v u1 H1 I1 e1 r1 h1 => ?_⟩
  cases r1 with
  | bl b =>
    refine ⟨b, rfl, ?_⟩
    cases b with
    | true => exact iteT ⟨C, O, G, u1, _, Ed, I1, ek, h1, fun y w u2 H2 I2 e2 r2 h2 => k _ _ u2 H2 I2 (e1.trans e2) r2 h2⟩
    | false => exact iteF (k _ _ u1 H1 I1 e1 (.bl false) h1)
  | _ => exact h1.elim
theorem de_or (ha : DE X E a ma) (hb : DE X E (.BoolOp .Or (b :: rest) pos) mb) : DE X E (.BoolOp .Or (a :: b :: rest) pos) (dOrV ma mb) := pe_weak (pe_or ha hb) fun σ H Q h => by
  obtain ⟨C, O, G, u, Qd, Ed, I, ek, hm, k⟩ := h
  refine ⟨C, O, G, u, _, Ed, I, ek, hm, fun x v u1 H1 I1 e1 r1 h1 => ?_⟩
  cases r1 with
  | bl b =>
    refine ⟨b, rfl, ?_⟩
    cases b with
    | true => exact iteT (k _ _ u1 H1 I1 e1 (.bl true) h1)
    | false => exact iteF ⟨C, O, G, u1, _, Ed, I1, ek, h1, fun y w u2 H2 I2 e2 r2 h2 => k _ _ u2 H2 I2 (e1.trans e2) r2 h2⟩
  | _ => exact h1.elim
theorem de_not (ha : DE X E a ma) : DE X E (.UnaryOp .Not a pos) (dNotV ma) := pe_weak (pe_not ha) fun σ H Q h => by
  obtain ⟨C, O, G, u, Qd, Ed, I, ek, hm, k⟩ := h
  refine ⟨C, O, G, u, _, Ed, I, ek, hm, fun x v u1 H1 I1 e1 r1 h1 => ?_⟩
  cases r1 with
  | bl b => exact ⟨b, rfl, k _ _ u1 H1 I1 e1 (.bl _) h1⟩
  | _ => exact h1.elim
def dIfE (t : DTM) (m n : DM) : DM := fun G u Q E => t G u (fun b u1 => bif b then m G u1 Q E else n G u1 Q E) E
theorem de_if {c : Expr} (hc : DT X E c t) (ha : DE X E a ma) (hb : DE X E b mb) : DE X E (.IfExp c a b pos) (dIfE t ma mb) := pe_weak (pe_ifExp hc ha hb) fun σ H Q h => by
  obtain ⟨C, O, G, u, Qd, Ed, I, ek, hm, k⟩ := h
  refine ⟨C, O, G, u, _, Ed, I, ek, hm, fun x u1 H1 I1 e1 h1 => ?_⟩
  cases x with
  | true => exact iteT ⟨C, O, G, u1, _, Ed, I1, ek, h1, fun y w u2 H2 I2 e2 r2 h2 => k _ _ u2 H2 I2 (e1.trans e2) r2 h2⟩
  | false => exact iteF ⟨C, O, G, u1, _, Ed, I1, ek, h1, fun y w u2 H2 I2 e2 r2 h2 => k _ _ u2 H2 I2 (e1.trans e2) r2 h2⟩
/-- a < b < c -/
def dChain (f g : Dat → Dat → (Dat → Prop) → Prop) (ma mb mc : DM) : DM := fun G u Q E => ma G u (fun x u1 => mb G u1 (fun y u2 => f x y fun z => match z with
  | .bl k => bif k then mc G u2 (fun w u3 => g y w fun z => Q z u3) E else Q (.bl false) u2
  | _ => False) E) E
theorem chain_go {r r' : R2} {f g : Dat → Dat → (Dat → Prop) → Prop} {mc : DM} (hs : Snd2 X.K r f) (hs' : Snd2 X.K r' g) {σ : L2.St} {H : Hp} {Q : VK} (h : tE X.K E (dChain f g ma mb mc) σ H Q) : tChain r r' (tE X.K E ma) (tE X.K E mb) (tE X.K E mc) σ H Q := by
  obtain ⟨C, O, G, u, Qd, Ed, I, ek, hm, k⟩ := h
  refine ⟨C, O, G, u, _, Ed, I, ek, hm, fun x v u1 H1 I1 e1 r1 h1 => ?_⟩
  refine ⟨C, O, G, u1, _, Ed, I1, ek, h1, fun y w u2 H2 I2 e2 r2 h2 => ?_⟩
  refine hs C.p O H2 x y v w _ _ I2.dom (r1.mono (e2.hid I1.potO)) r2 h2 fun d z H' s r q => ?_
  have I3 := I2.grow s
  cases r with
  | bl b =>
    refine ⟨b, rfl, ?_⟩
    cases b with
    | true =>
      refine iteT ⟨C, O, G, u2, _, Ed, I3, ek, q, fun z zv u3 H3 I4 e3 r3 h3 => ?_⟩
      exact hs' C.p O H3 y z w zv _ Q I4.dom (r2.mono ((hid_same s).trans (e3.hid I3.potO))) r3 h3 fun d2 z2 H4 s2 r4 q2 => k d2 z2 u3 H4 (I4.grow s2) (((e1.trans e2).trans (Ex.same s)).trans (e3.trans (Ex.same s2))) r4 q2
    | false => exact iteF (k _ _ u2 H' I3 ((e1.trans e2).trans (Ex.same s)) (.bl false) q)
  | _ => exact q.elim
theorem de_chain {c : Expr} {mc : DM} {op op' : CmpOp} {r r' : R2} {f g : Dat → Dat → (Dat → Prop) → Prop} (ho : OpR X (compareOp op) r) (hs : Snd2 X.K r f) (ho' : OpR X (compareOp op') r') (hs' : Snd2 X.K r' g) (ha : DE X E a ma) (hb : DE X E b mb) (hc : DE X E c mc)
    (hm : lastMarks [op, op'] [b, c] = false := by with_unfolding_all rfl) : DE X E (.Compare a [op, op'] [b, c] pos) (dChain f g ma mb mc) := pe_weak (pe_chain ho ho' ha hb hc hm) fun _ _ _ h => chain_go hs hs' h
theorem dt_chain {c : Expr} {mc : DM} {op op' : CmpOp} {r r' : R2} {f g : Dat → Dat → (Dat → Prop) → Prop} (ho : OpR X (compareOp op) r) (hs : Snd2 X.K r f) (ho' : OpR X (compareOp op') r') (hs' : Snd2 X.K r' g) (ha : DE X E a ma) (hb : DE X E b mb) (hc : DE X E c mc)
    (hm : lastMarks [op, op'] [b, c] = false := by with_unfolding_all rfl) : DT X E (.Compare a [op, op'] [b, c] pos) (dTest (dChain f g ma mb mc)) := pt_weak (pt_chain ho ho' ha hb hc hm) fun _ _ _ h => chain_go hs hs' (test_go h)

/-! ### calls -/
theorem de_fnB {x : Str} {id : String} {p : Pos} {r : List V → Hp → VK → Prop} {f : List Dat → (Dat → Prop) → Prop} (hc : CallR X (.builtin id) r) (hs : SndN X.K r f) (hm : X.mg x = none) (hv : bootBuiltins x = some (.builtin id)) (ha : DA X E (e :: es) ms) (hg : Gl X x := by rfl) (hn : x ≠ "__name__" := by decide) (hdb : (x == ("__debug__" : Str)) = false := by decide)
    (he : starEach (e :: es) X.env = (false, eval e X.env) :: starEach es X.env := by rfl) (hpl : (backTo pos (starEach es X.env)).any (·.1) = false := by rfl) : DE X E (.Call (.Name x p) (e :: es) [] pos) (dFn f ms) :=
  pe_weak (pe_callB hc hg hm hv ha hn hdb he hpl) fun σ H Q h => by
    obtain ⟨C, O, G, u, Qd, Ed, I, ek, hm, k⟩ := h
    refine ⟨C, O, G, u, _, Ed, I, ek, hm, fun x v u1 H1 I1 e1 r1 h1 => ?_⟩
    exact hs C.p O H1 x v _ Q I1.dom r1 h1 fun d z H' s r q => k d z u1 H' (I1.grow s) (e1.trans (Ex.same s)) r q
theorem de_fnT {x : Str} {T : String} {p : Pos} {r : List V → Hp → VK → Prop} {f : List Dat → (Dat → Prop) → Prop} (hc : CallR X (.type T) r) (hs : SndN X.K r f) (hm : X.mg x = none) (hv : bootBuiltins x = some (.type T)) (ha : DA X E (e :: es) ms) (hg : Gl X x := by rfl) (hn : x ≠ "__name__" := by decide) (hdb : (x == ("__debug__" : Str)) = false := by decide)
    (he : starEach (e :: es) X.env = (false, eval e X.env) :: starEach es X.env := by rfl) (hpl : (backTo pos (starEach es X.env)).any (·.1) = false := by rfl) : DE X E (.Call (.Name x p) (e :: es) [] pos) (dFn f ms) :=
  pe_weak (pe_callTy hc hg hm hv ha hn hdb he hpl) fun σ H Q h => by
    obtain ⟨C, O, G, u, Qd, Ed, I, ek, hm, k⟩ := h
    refine ⟨C, O, G, u, _, Ed, I, ek, hm, fun x v u1 H1 I1 e1 r1 h1 => ?_⟩
    exact hs C.p O H1 x v _ Q I1.dom r1 h1 fun d z H' s r q => k d z u1 H' (I1.grow s) (e1.trans (Ex.same s)) r q
/-- a def of the program's own -/
def dCall (F : DF) (dds : List Dat) (ms : DAM) : DM := fun G u Q E => ms G u (fun ds u1 => F (ds ++ dds) u1 Q E) E
section
variable {K : PySem.W.Frag} {C : Cn} {O : List Addr} {G : DEnv} {u u' : Nat} {σ : L2.St} {H H' : Hp}
theorem PotOk.sub {p : Option Addr} {O O' : List Addr} (h : PotOk p O u H) (s : ∀ a ∈ O, a ∈ O') : PotOk p O' u H := fun a e => ⟨s a (h a e).1, (h a e).2⟩
theorem Iv.potOk (I : Iv K C O G u σ H) : PotOk C.p O u H := I.pot.sub I.sub
/-- behind a call -/
theorem Iv.called (I : Iv K C O G u σ H) (e : Ex C.p H H') (h : PotOk C.p O u' H') : Iv K C O G u' σ H' := I.ex e fun a q => ⟨(I.pot a q).1, (h a q).2⟩
theorem sp_of {F : DF} {ds : List Dat} {vs : List V} {Qd Ed : QD} {Q : VK} {E : XK} (I : Iv K C O G u σ H) (ek : EOk K C E Ed) (r : Rps K C.p (hid O H) ds vs) (h : F ds u Qd Ed)
    (k : ∀ d v u' H', Iv K C O G u' σ H' → Ex C.p H H' → Rp K C.p (hid O H') d v → Qd d u' → Q v H') : spD K F vs H Q E :=
  ⟨C.p, O, ds, u, Qd, Ed, I.dom, I.potOk, r, h, fun d v u' H' e po rr q => k d v u' H' (I.called e po) e rr q, fun c d v a u' H' e po hx rr q => by
    have J := I.called e po
    exact ek c d v a u' H' J.ok0 hx (rr.mono (hid_sub I.sub)) q⟩
end
/-- another error's wish: none leaves -/
theorem de_nox {E' : XK} (h : DE X E0 e m) : DE X E' e (fun G u Q _ => m G u Q fun _ _ => False) := pe_weak h fun σ H Q h => by
  obtain ⟨C, O, G, u, Qd, Ed, I, ek, hm, k⟩ := h
  exact ⟨C, O, G, u, Qd, _, I, fun _ _ _ _ _ _ _ _ _ z => z.elim, hm, k⟩
end
end DL

set_option Elab.async false
set_option linter.all false
set_option maxRecDepth 100000
set_option maxHeartbeats 1000000
namespace DL
open PySem PySem.Spec PyProof.Rows L2

/-! ### owned slots -/
section
variable {K : PySem.W.Frag} {C : Cn} {O : List Addr} {G : DEnv} {u u' : Nat} {σ : L2.St} {H H' : Hp} {i : Nat}
theorem set_get {α : Type} {l : List α} {i j : Nat} {x y : α} (h : (l.set i x)[j]? = some y) : (j = i ∧ y = x ∧ i < l.length) ∨ (j ≠ i ∧ l[j]? = some y) := by
  by_cases q : j = i
  · subst q
    by_cases l' : j < l.length
    · rw [List.getElem?_set_self l'] at h
      cases h
      exact .inl ⟨rfl, rfl, l'⟩
    · rw [List.getElem?_eq_none (by simpa using l')] at h; cases h
  · rw [List.getElem?_set_ne (Ne.symm q)] at h
    exact .inr ⟨q, h⟩
theorem OwnAt.keep {p : Option Addr} {O' : List Addr} {a : Addr} {d : Dat} (h : OwnAt K p O H a d) (e : H' a = H a) (s : Same (hid O H) (hid O' H')) : OwnAt K p O' H' a d := by
  cases h with
  | lst h r => exact .lst (e.trans h) (r.mono s)
  | dct h r => exact .dct (e.trans h) (r.mono s)
def fput (f : Nat → Addr) (i : Nat) (a : Addr) : Nat → Addr := fun j => if j = i then a else f j
theorem fput_same {f : Nat → Addr} {i : Nat} {a : Addr} : fput f i a i = a := by unfold fput; rw [if_pos rfl]
theorem fput_ne {f : Nat → Addr} {i j : Nat} {a : Addr} (h : j ≠ i) : fput f i a j = f j := by unfold fput; rw [if_neg h]
/-- a new object is owned by a slot -/
theorem Iv.setOwn (I : Iv K C O G u σ H) {a : Addr} {o : HO} {d : Dat} (ha : H a = none) (hd : OwnAt K C.p (a :: O) (upd H a o) a d) : Iv K C (a :: O) (G.set i (.ow d)) u (σ.set i (some (.ref a))) (upd H a o) := by
  obtain ⟨f, h1, h2⟩ := I.slots
  have na : a ∉ O := I.nin ha
  have hs : Same (hid O H) (hid (a :: O) (upd H a o)) := fun b x e => by
    obtain ⟨n, q⟩ := hid_some e
    have nb : b ≠ a := ne_of_none q ha
    rw [hid_out (by simp [nb, n]), upd_ne nb]; exact q
  have h0 : C.H0 a = none := by
    cases z : C.H0 a with
    | none => rfl
    | some x =>
      by_cases w : C.p = some a
      · exact absurd (I.potO a w) na
      · have := I.ext a x z w
        rw [ha] at this; cases this
  refine ⟨I.ext.trans (Ex.new ha), fun b hb => List.mem_cons_of_mem _ (I.sub b hb), fun b hb => ?_, fun b hb => ?_, fun b e => ⟨(I.pot b e).1, (I.pot b e).2.new ha⟩, by simpa using I.len, I.shr.trans hs, fput f i a, fun j s hj => ?_, fun j k x y hj hk q => ?_⟩
  · rcases List.mem_cons.mp hb with rfl | hb
    · exact .inr h0
    · exact I.own b hb
  · rcases List.mem_cons.mp hb with rfl | hb
    · rw [upd_same]; exact fun z => nomatch z
    · have := I.dom b hb
      by_cases z : b = a
      · exact absurd (z ▸ hb) na
      · rw [upd_ne z]; exact this
  · rcases set_get hj with ⟨rfl, rfl, l⟩ | ⟨ne, hj⟩
    · refine ⟨?_, ?_, ?_, ?_⟩
      · rw [fput_same]; exact List.getElem?_set_self (by rw [I.len]; exact l)
      · rw [fput_same]; exact List.mem_cons_self
      · rw [fput_same]; exact fun z => na (I.sub a z)
      · rw [fput_same]; exact hd
    · have h := h1 j s hj
      cases s with
      | no => trivial
      | va d => obtain ⟨w, e, z⟩ := h; exact ⟨w, by rw [List.getElem?_set_ne (Ne.symm ne)]; exact e, z.mono hs⟩
      | ow d =>
        obtain ⟨e, e2, e3, z⟩ := h
        refine ⟨?_, ?_, ?_, ?_⟩
        · rw [fput_ne ne, List.getElem?_set_ne (Ne.symm ne)]; exact e
        · rw [fput_ne ne]; exact List.mem_cons_of_mem _ e2
        · rw [fput_ne ne]; exact e3
        · rw [fput_ne ne]
          exact z.keep (upd_ne fun w => na (w ▸ e2)) hs
  · rcases set_get hj with ⟨rfl, e1, l⟩ | ⟨ne, hj'⟩
    · rcases set_get hk with ⟨rfl, e2, l⟩ | ⟨ne2, hk⟩
      · rfl
      · rw [fput_same, fput_ne ne2] at q
        have z := (h1 k _ hk).2.1
        rw [← q] at z
        exact absurd z na
    · rcases set_get hk with ⟨rfl, e2, l⟩ | ⟨ne2, hk⟩
      · rw [fput_ne ne, fput_same] at q
        have z := (h1 j _ hj').2.1
        rw [q] at z
        exact absurd z na
      · rw [fput_ne ne, fput_ne ne2] at q
        exact h2 j k x y hj' hk q
/-- what an owned slot holds -/
theorem Iv.ow (I : Iv K C O G u σ H) {d : Dat} (h : G[i]? = some (.ow d)) : ∃ a, σ[i]? = some (some (.ref a)) ∧ OwnAt K C.p O H a d ∧
    ∀ (o : HO) (d' : Dat), OwnAt K C.p O (upd H a o) a d' → Iv K C O (G.set i (.ow d')) u σ (upd H a o) := by
  obtain ⟨f, h1, h2⟩ := I.slots
  obtain ⟨e1, e2, e3, r⟩ := h1 i _ h
  refine ⟨f i, e1, r, fun o d' hd => ?_⟩
  have hh : hid O (upd H (f i) o) = hid O H := by
    funext b
    by_cases z : b ∈ O
    · rw [hid_in z, hid_in z]
    · rw [hid_out z, hid_out z, upd_ne fun w => z (by rw [w]; exact e2)]
  have h0 : C.H0 (f i) = none := by
    rcases I.own _ e2 with z | z
    · exact absurd z e3
    · exact z
  refine ⟨fun b x e n => ?_, I.sub, I.own, fun b hb => ?_, fun b e => ⟨(I.pot b e).1, ?_⟩, by simpa using I.len, by rw [hh]; exact I.shr, f, fun j s hj => ?_, fun j k x y hj hk q => ?_⟩
  · have nb : b ≠ f i := fun w => by rw [w, h0] at e; cases e
    rw [upd_ne nb]; exact I.ext b x e n
  · by_cases z : b = f i
    · rw [z, upd_same]; exact fun z => nomatch z
    · rw [upd_ne z]; exact I.dom b hb
  · have nb : b ≠ f i := fun w => e3 (w ▸ (I.pot b e).1)
    obtain ⟨x, y, z, q, r⟩ := (I.pot b e).2
    exact ⟨x, y, z, by rw [upd_ne nb]; exact q, r⟩
  · rcases set_get hj with ⟨rfl, rfl, l⟩ | ⟨ne, hj⟩
    · exact ⟨e1, e2, e3, hd⟩
    · have t := h1 j s hj
      cases s with
      | no => trivial
      | va d => obtain ⟨w, a, b⟩ := t; exact ⟨w, a, by rw [hh]; exact b⟩
      | ow d =>
        obtain ⟨a, b, c, z⟩ := t
        refine ⟨a, b, c, z.keep (upd_ne fun w => ne (h2 j i _ _ hj h w)) ?_⟩
        rw [hh]; exact Same.refl _
  · have go : ∀ {m : Nat} {x : Dat}, (G.set i (.ow d'))[m]? = some (.ow x) → ∃ y, G[m]? = some (.ow y) := fun {m x} e => by
      rcases set_get e with ⟨rfl, _, _⟩ | ⟨_, e⟩
      · exact ⟨_, h⟩
      · exact ⟨_, e⟩
    obtain ⟨_, a1⟩ := go hj
    obtain ⟨_, a2⟩ := go hk
    exact h2 j k _ _ a1 a2 q
/-- ownership is given up -/
def relSlot (i : Nat) (G : DEnv) : DEnv := match G[i]? with
  | some (.ow d) => G.set i (.va d)
  | _ => G
theorem Iv.rel (I : Iv K C O G u σ H) (i : Nat) : ∃ O', (∀ a ∈ O', a ∈ O) ∧ Iv K C O' (relSlot i G) u σ H ∧ (∀ b xs, H b = some (.tup xs) → b ∉ O' → b ∉ O) := by
  unfold relSlot
  cases e : G[i]? with
  | none => exact ⟨O, fun _ z => z, I, fun _ _ _ z => z⟩
  | some s =>
    cases s with
    | no => exact ⟨O, fun _ z => z, I, fun _ _ _ z => z⟩
    | va d => exact ⟨O, fun _ z => z, I, fun _ _ _ z => z⟩
    | ow d =>
      obtain ⟨f, h1, h2⟩ := I.slots
      obtain ⟨e1, e2, e3, r⟩ := h1 i _ e
      have mem : ∀ b, b ∈ O.filter (fun b => decide (b ≠ f i)) ↔ b ∈ O ∧ b ≠ f i := fun b => by simp
      have le : Same (hid O H) (hid (O.filter (fun b => decide (b ≠ f i))) H) := hid_sub fun a ha => ((mem a).mp ha).1
      refine ⟨O.filter (fun b => decide (b ≠ f i)), fun a ha => ((mem a).mp ha).1, ⟨I.ext, fun a ha => (mem a).mpr ⟨I.sub a ha, fun w => e3 (w ▸ ha)⟩, fun a ha => I.own a ((mem a).mp ha).1, fun a ha => I.dom a ((mem a).mp ha).1, I.pot, by simpa using I.len, I.shr.trans le, f, fun j s hj => ?_, fun j k x y hj hk q => ?_⟩, fun b xs hb nb ho => ?_⟩
      · rcases set_get hj with ⟨rfl, rfl, l⟩ | ⟨ne, hj⟩
        · refine ⟨_, e1, ?_⟩
          have na : f j ∉ O.filter (fun b => decide (b ≠ f j)) := fun z => ((mem _).mp z).2 rfl
          cases r with
          | lst h r => exact .lst (by rw [hid_out na]; exact h) (r.mono le)
          | dct h r => exact .dct (by rw [hid_out na]; exact h) (r.mono le)
        · have t := h1 j s hj
          cases s with
          | no => trivial
          | va d => obtain ⟨w, a, b⟩ := t; exact ⟨w, a, b.mono le⟩
          | ow d =>
            obtain ⟨a, b, c, z⟩ := t
            exact ⟨a, (mem _).mpr ⟨b, fun w => ne (h2 j i _ _ hj e w)⟩, c, z.keep rfl le⟩
      · rcases set_get hj with ⟨_, z, _⟩ | ⟨ne, hj⟩
        · cases z
        · rcases set_get hk with ⟨_, z, _⟩ | ⟨ne2, hk⟩
          · cases z
          · exact h2 j k x y hj hk q
      · have w : b = f i := Classical.byContradiction fun w => nb ((mem b).mpr ⟨ho, w⟩)
        rw [w] at hb
        cases r with
        | lst h r => rw [h] at hb; cases hb
        | dct h r => rw [h] at hb; cases hb
end

/-! ### data that no store can change -/
mutual
def Dat.imm : Dat → Bool
  | .non => true
  | .bl _ => true
  | .int _ => true
  | .str _ => true
  | .tup xs => immAll xs
  | .pot => true
  | .raw _ => true
  | _ => false
def immAll : List Dat → Bool
  | [] => true
  | d :: ds => d.imm && immAll ds
end
section
variable {K : PySem.W.Frag} {p : Option Addr} {H H' : Hp}
mutual
theorem Rp.imm (h : ∀ b xs, H b = some (.tup xs) → H' b = some (.tup xs)) : ∀ {d : Dat} {v : V}, d.imm = true → Rp K p H d v → Rp K p H' d v
  | _, _, _, .non => .non
  | _, _, _, .bl b => .bl b
  | _, _, _, .int i => .int i
  | _, _, _, .str x => .str x
  | _, _, q, .tup e r => .tup (h _ _ e) (Rps.imm h (by simpa [Dat.imm] using q) r)
  | _, _, _, .pot e => .pot e
  | _, _, _, .raw v => .raw v
theorem Rps.imm (h : ∀ b xs, H b = some (.tup xs) → H' b = some (.tup xs)) : ∀ {ds : List Dat} {vs : List V}, immAll ds = true → Rps K p H ds vs → Rps K p H' ds vs
  | _, _, _, .nil => .nil
  | _, _, q, .cons e r => by
    rw [immAll, Bool.and_eq_true] at q
    exact .cons (Rp.imm h q.1 e) (Rps.imm h q.2 r)
end
end

/-! ### statements -/
section
variable {X : Cx} {E : XK} {st : Stmt} {rest : List Stmt} {m n : DSM} {e : Expr} {me : DM} {pos : Pos}
def sNext : DSM := fun G u Z => Z.nx G u
def sSeq (m n : DSM) : DSM := fun G u Z => m G u { Z with nx := fun G' u' => n G' u' Z }
theorem dss_nil : DSs X E [] sNext := pss_weak pss_nil fun D σ H h => by
  obtain ⟨C, O, G, u, Z, I, ek, hm, k1, k2, k3, k4⟩ := h
  exact k1 O G u σ H I hm
theorem dss_cons (h1 : DS X E st m) (h2 : DSs X E rest n) : DSs X E (st :: rest) (sSeq m n) := pss_weak (pss_cons h1 h2) fun D σ H h => by
  obtain ⟨C, O, G, u, Z, I, ek, hm, k1, k2, k3, k4⟩ := h
  exact ⟨C, O, G, u, { Z with nx := fun G' u' => n G' u' Z }, I, ek, hm, fun O' G' u' σ' H' I' q => ⟨C, O', G', u', Z, I', ek, q, k1, k2, k3, k4⟩, k2, k3, k4⟩
theorem dss_one (h1 : DS X E st m) : DSs X E [st] m := pss_one h1
theorem ds_pass : DS X E (.Pass pos) sNext := ps_weak ps_pass fun D σ H h => by
  obtain ⟨C, O, G, u, Z, I, ek, hm, k1, k2, k3, k4⟩ := h
  exact k1 O G u σ H I hm
def sBreak : DSM := fun G u Z => Z.bk G u
def sCont : DSM := fun G u Z => Z.ct G u
theorem ds_break : DS X E (.Break pos) sBreak := ps_weak ps_break fun D σ H h => by
  obtain ⟨C, O, G, u, Z, I, ek, hm, k1, k2, k3, k4⟩ := h
  exact k2 O G u σ H I hm
theorem ds_continue : DS X E (.Continue pos) sCont := ps_weak ps_continue fun D σ H h => by
  obtain ⟨C, O, G, u, Z, I, ek, hm, k1, k2, k3, k4⟩ := h
  exact k3 O G u σ H I hm
def sRet (m : DM) : DSM := fun G u Z => m G u Z.rt Z.ex
theorem ds_ret (he : DE X E e me) : DS X E (.Return (some e) pos) (sRet me) := ps_weak (ps_ret he) fun D σ H h => by
  obtain ⟨C, O, G, u, Z, I, ek, hm, k1, k2, k3, k4⟩ := h
  exact ⟨C, O, G, u, Z.rt, Z.ex, I, ek, hm, fun d v u' H' I' e' r q => k4 d v u' H' I'.ok0 (r.mono (hid_sub I'.sub)) q⟩
def sRetN : DSM := fun _ u Z => Z.rt .non u
theorem ds_retN : DS X E (.Return none pos) sRetN := ps_weak ps_retN fun D σ H h => by
  obtain ⟨C, O, G, u, Z, I, ek, hm, k1, k2, k3, k4⟩ := h
  exact k4 _ _ u H I.ok0 .non hm
def sIf (t : DTM) (m n : DSM) : DSM := fun G u Z => t G u (fun b u1 => bif b then m G u1 Z else n G u1 Z) Z.ex
theorem ds_if {c : Expr} {a b : List Stmt} {t : DTM} (hc : DT X E c t) (ha : DSs X E a m) (hb : DSs X E b n) : DS X E (.If c a b pos) (sIf t m n) := ps_weak (ps_if hc ha hb) fun D σ H h => by
  obtain ⟨C, O, G, u, Z, I, ek, hm, k1, k2, k3, k4⟩ := h
  refine ⟨C, O, G, u, _, Z.ex, I, ek, hm, fun b u1 H1 I1 e1 h1 => ?_⟩
  cases b with
  | true => exact iteT ⟨C, O, G, u1, Z, I1, ek, h1, k1, k2, k3, k4⟩
  | false => exact iteF ⟨C, O, G, u1, Z, I1, ek, h1, k1, k2, k3, k4⟩
def sDrop (m : DM) : DSM := fun G u Z => m G u (fun _ u1 => Z.nx G u1) Z.ex
theorem ds_expr (he : DE X E e me) (hs : swapsWith e none pos.line X.env = pure false := by rfl) : DS X E (.Expr e pos) (sDrop me) := ps_weak (ps_expr he hs) fun D σ H h => by
  obtain ⟨C, O, G, u, Z, I, ek, hm, k1, k2, k3, k4⟩ := h
  exact ⟨C, O, G, u, _, Z.ex, I, ek, hm, fun d v u1 H1 I1 e1 r1 h1 => k1 O G u1 σ H1 I1 h1⟩
/-- ownership given up ahead of a statement -/
def sRel (i : Nat) (m : DSM) : DSM := fun G u Z => m (relSlot i G) u Z
theorem ds_rel (i : Nat) (h : DS X E st m) : DS X E st (sRel i m) := ps_weak h fun D σ H h => by
  obtain ⟨C, O, G, u, Z, I, ek, hm, k⟩ := h
  obtain ⟨O', _, I', _⟩ := I.rel i
  exact ⟨C, O', relSlot i G, u, Z, I', ek, hm, k⟩
/-- an owned thing lent to an expression that gives plain data -/
def dBor (i : Nat) (m : DM) : DM := fun G u Q E => m (relSlot i G) u (fun d u1 => d.imm = true ∧ Q d u1) E
theorem bor_go {i : Nat} {σ : L2.St} {H : Hp} {Q : VK} (h : tE X.K E (dBor i me) σ H Q) : tE X.K E me σ H Q := by
  obtain ⟨C, O, G, u, Qd, Ed, I, ek, hm, k⟩ := h
  obtain ⟨O', ho, I', ht⟩ := I.rel i
  refine ⟨C, O', relSlot i G, u, _, Ed, I', ek, hm, fun d v u1 H1 I1 e1 r1 h1 => ?_⟩
  have J : Iv X.K C O G u1 σ H1 := I.ex e1 I1.pot
  obtain ⟨O2, _, J2, ht2⟩ := J.rel i
  refine k d v u1 H1 J e1 (r1.imm (fun b xs q => ?_) h1.1) h1.2
  obtain ⟨n, q⟩ := hid_some q
  have nb : b ∉ O := by
    cases z : H b with
    | none => exact fun w => I.dom b w z
    | some x =>
      by_cases w : C.p = some b
      · obtain ⟨i, j, k, z2, _⟩ := (I1.pot b w).2
        rw [z2] at q; cases q
      · have z2 := e1 b x z w
        rw [q] at z2
        cases z2
        exact ht b xs z n
  rw [hid_out nb]; exact q
theorem de_bor (i : Nat) (h : DE X E e me) : DE X E e (dBor i me) := pe_weak h fun _ _ _ h => bor_go h
def tBor (i : Nat) (m : DTM) : DTM := fun G u Q E => m (relSlot i G) u Q E
theorem dt_bor (i : Nat) {t : DTM} (h : DT X E e t) : DT X E e (tBor i t) := pt_weak h fun σ H Q h => by
  obtain ⟨C, O, G, u, Qd, Ed, I, ek, hm, k⟩ := h
  obtain ⟨O', ho, I', ht⟩ := I.rel i
  exact ⟨C, O', relSlot i G, u, _, Ed, I', ek, hm, fun d u1 H1 I1 e1 h1 => k d u1 H1 (I.ex e1 I1.pot) e1 h1⟩

/-! ### stores -/
abbrev DB := Dat → DEnv → (DEnv → Prop) → Prop
abbrev DBs := List Dat → DEnv → (DEnv → Prop) → Prop
def tG (K : PySem.W.Frag) (xs : List Nat) (b : DB) : TG := fun v σ H Q => ∃ (C : Cn) (O : List Addr) (G : DEnv) (u : Nat) (d : Dat) (k : DEnv → Prop), Iv K C O G u σ H ∧ Rp K C.p (hid O H) d v ∧ b d G k ∧ ∀ G' σ', Iv K C O G' u σ' H → wipe σ' xs = wipe σ xs → k G' → Q σ' H
def tGs (K : PySem.W.Frag) (xs : List Nat) (b : DBs) : TGs := fun vs σ H Q => ∃ (C : Cn) (O : List Addr) (G : DEnv) (u : Nat) (ds : List Dat) (k : DEnv → Prop), Iv K C O G u σ H ∧ Rps K C.p (hid O H) ds vs ∧ b ds G k ∧ ∀ G' σ', Iv K C O G' u σ' H → wipe σ' xs = wipe σ xs → k G' → Q σ' H
abbrev DG (X : Cx) (xs : List Nat) (e : Expr) (b : DB) : Prop := PG X e (tG X.K xs b)
abbrev DGs (X : Cx) (xs : List Nat) (e : List Expr) (b : DBs) : Prop := PGs X e (tGs X.K xs b)
theorem pg_weak {X : Cx} {e : Expr} {t t' : TG} (h : PG X e t) (w : ∀ v σ H Q, t' v σ H Q → t v σ H Q) : PG X e t' := ⟨fun pins s σ H v u Q I r q => h.run pins s σ H v u Q I r (w v σ H Q q)⟩
theorem pgs_weak {X : Cx} {e : List Expr} {t t' : TGs} (h : PGs X e t) (w : ∀ v σ H Q, t' v σ H Q → t v σ H Q) : PGs X e t' := ⟨fun pins s σ H v u Q I r q => h.run pins s σ H v u Q I r (w v σ H Q q)⟩
theorem wipe_set {σ : L2.St} {i : Nat} {x : Option V} : ∀ {xs : List Nat}, i ∈ xs → wipe (σ.set i x) xs = wipe σ xs
  | v :: vs, h => by
    unfold wipe
    by_cases e : i = v
    · subst e
      by_cases q : i ∈ vs
      · rw [wipe_set q]
      · apply List.ext_getElem?
        intro j
        by_cases hj : j = i
        · subst hj
          have l1 : (wipe (σ.set j x) vs).length = (wipe σ vs).length := by rw [wipe_length, wipe_length, List.length_set]
          by_cases l : j < (wipe σ vs).length
          · rw [List.getElem?_set_self (by rw [l1]; exact l), List.getElem?_set_self l]
          · rw [List.getElem?_eq_none (by rw [List.length_set, l1]; omega), List.getElem?_eq_none (by rw [List.length_set]; omega)]
        · rw [List.getElem?_set_ne (Ne.symm hj), List.getElem?_set_ne (Ne.symm hj)]
          by_cases qj : j ∈ vs
          · have z : ∀ (τ : L2.St), τ.length = σ.length → (wipe τ vs)[j]? = if j < σ.length then some none else none := fun τ hl => by
              cases e : (wipe τ vs)[j]? with
              | none =>
                have := List.getElem?_eq_none_iff.mp e
                rw [wipe_length, hl] at this
                rw [if_neg (by omega)]
              | some o =>
                have l := (List.getElem?_eq_some_iff.mp e).1
                rw [wipe_length, hl] at l
                rw [if_pos l]
                cases o with
                | none => rfl
                | some w => exact absurd qj (wipe_some e).2
            rw [z _ (by rw [List.length_set]), z _ rfl]
          · rw [wipe_out qj, wipe_out qj, List.getElem?_set_ne (Ne.symm hj)]
    · rw [wipe_set (by simpa [e] using h)]
def bName (i : Nat) : DB := fun d G k => k (G.set i (.va d))
theorem dg_name {xs : List Nat} {i : Nat} {x : Str} (hN : X.N.Nodup) (hi : X.N[i]? = some x) (hx : Loc X.env.scope x) (hm : i ∈ xs := by decide) (hf : X.fn x = true ∨ X.env.scope.names.lookup x = some .local := by first | exact .inl rfl | exact .inr rfl | assumption) : DG X xs (.Name x pos) (bName i) :=
  pg_weak (pg_name hN hi hx hf) fun v σ H Q h => by
    obtain ⟨C, O, G, u, d, k, I, r, hb, q⟩ := h
    exact q _ _ (I.set r) (wipe_set hm) hb
def bNil : DBs := fun ds G k => match ds with
  | [] => k G
  | _ => False
def bCons (b : DB) (bs : DBs) : DBs := fun ds G k => match ds with
  | d :: r => b d G fun G' => bs r G' k
  | [] => False
theorem dgs_nil {xs : List Nat} : DGs X xs [] bNil := pgs_weak pgs_nil fun vs σ H Q h => by
  obtain ⟨C, O, G, u, ds, k, I, r, hb, q⟩ := h
  cases r with
  | nil => exact ⟨rfl, q _ _ I rfl hb⟩
  | cons _ _ => exact hb.elim
theorem dgs_cons {xs : List Nat} {es : List Expr} {b : DB} {bs : DBs} (h1 : DG X xs e b) (h2 : DGs X xs es bs) (hs : (assignEach (e :: es) X.env).map (·.2) = assign e X.env :: (assignEach es X.env).map (·.2) := by rfl) : DGs X xs (e :: es) (bCons b bs) :=
  pgs_weak (pgs_cons h1 h2 hs) fun vs σ H Q h => by
    obtain ⟨C, O, G, u, ds, k, I, r, hb, q⟩ := h
    cases r with
    | nil => exact hb.elim
    | cons r rr =>
      exact ⟨_, _, rfl, C, O, G, u, _, _, I, r, hb, fun G' σ' I' hw hk => ⟨C, O, G', u, _, k, I', rr, hk, fun G2 σ2 I2 hw2 hk2 => q G2 σ2 I2 (hw2.trans hw) hk2⟩⟩
def bTup (bs : DBs) : DB := fun d G k => match d with
  | .tup ds => bs ds G k
  | _ => False
def bTupN (n : Nat) (bs : DBs) : DB := fun d G k => match d with
  | .tup ds => ds.length = n ∧ bs ds G k
  | _ => False
theorem dg_tup {xs : List Nat} {es : List Expr} {k : Nat} {bs : DBs} {n : Nat} (hc : X.calm = true) (h : DGs X xs es bs) (hn : (assignEach es X.env).length = n := by rfl) (hst : (assignEach es X.env).findIdx? (·.1) = none := by rfl) : DG X xs (.Tuple es k pos) (bTupN n bs) :=
  pg_weak (pg_tup hc h hn hst) fun v σ H Q h => by
    obtain ⟨C, O, G, u, d, k, I, r, hb, q⟩ := h
    cases r with
    | tup ha r => exact ⟨_, _, rfl, .inl (.inl (hid_le _ _ ha)), by rw [← r.length]; exact hb.1, C, O, G, u, _, k, I, r, hb.2, q⟩
    | _ => exact hb.elim
/-- target = e -/
def sAsg (m : DM) (b : DB) : DSM := fun G u Z => m G u (fun d u1 => b d G fun G' => Z.nx G' u1) Z.ex
theorem asg_go {xs : List Nat} {b : DB} {D : Ends} {σ : L2.St} {H : Hp} (h : tS X.K E (sAsg me b) D σ H) : tAsg (tE X.K E me) (tG X.K xs b) D σ H := by
  obtain ⟨C, O, G, u, Z, I, ek, hm, k1, k2, k3, k4⟩ := h
  refine ⟨C, O, G, u, _, Z.ex, I, ek, hm, fun d v u1 H1 I1 e1 r1 h1 => ?_⟩
  exact ⟨C, O, G, u1, d, _, I1, r1, h1, fun G' σ' I' _ q => k1 O G' u1 σ' H1 I' q⟩
theorem ds_asg {xs : List Nat} {tg : Expr} {b : DB} (he : DE X E e me) (hg : DG X xs tg b) (hs : swapsWithSole [tg] e pos.line X.env = pure false := by rfl) (hw : swappedStores [tg] e X.env = pure none := by rfl)
    (h1 : (assignEach [tg] X.env).map (·.2) = [assign tg X.env] := by rfl) : DS X E (.Assign [tg] e pos) (sAsg me b) := ps_weak (ps_asg he hg hs hw h1) fun _ _ _ h => asg_go h
theorem ds_set {i : Nat} {x : Str} {pos' : Pos} (hN : X.N.Nodup) (hi : X.N[i]? = some x) (hx : Loc X.env.scope x) (he : DE X E e me) (hs : swapsWith e (some (.Name x pos')) pos.line X.env = pure false := by rfl) (hf : X.fn x = true ∨ X.env.scope.names.lookup x = some .local := by first | exact .inl rfl | exact .inr rfl | assumption) :
    DS X E (.Assign [.Name x pos'] e pos) (sAsg me (bName i)) := ps_weak (ps_set hN hi hx he hs hf) fun D σ H h => by
  obtain ⟨C, O, G, u, Z, I, ek, hm, k1, k2, k3, k4⟩ := h
  exact ⟨C, O, G, u, _, Z.ex, I, ek, hm, fun d v u1 H1 I1 e1 r1 h1 => k1 O _ u1 _ H1 (I1.set r1) h1⟩
/-- x = [..]: x owns it -/
def sOwnL (i : Nat) (ms : DAM) : DSM := fun G u Z => ms G u (fun xs u1 => xs.length ≤ sizeLine ∧ Z.nx (G.set i (.ow (.lst xs))) u1) Z.ex
theorem Iv.newL {K : PySem.W.Frag} {C : Cn} {O : List Addr} {G : DEnv} {u : Nat} {σ : L2.St} {H : Hp} {i : Nat} (I : Iv K C O G u σ H) {a : Addr} {ds : List Dat} {vs : List V} (ha : H a = none) (r : Rps K C.p (hid O H) ds vs) :
    Iv K C (a :: O) (G.set i (.ow (.lst ds))) u (σ.set i (some (.ref a))) (upd H a (.lst vs)) := I.setOwn ha (.lst upd_same (r.mono fun b x e => by
  obtain ⟨n, q⟩ := hid_some e
  have nb : b ≠ a := ne_of_none q ha
  rw [hid_out (by simp [nb, n]), upd_ne nb]; exact q))
theorem ds_ownL {i : Nat} {x : Str} {pos' pos2 : Pos} {es : List Expr} {ms : DAM} (hN : X.N.Nodup) (hi : X.N[i]? = some x) (hx : Loc X.env.scope x) (ha : DA X E es ms) (hs : swapsWith (.List es pos2) (some (.Name x pos')) pos.line X.env = pure false := by rfl) (hf : X.fn x = true ∨ X.env.scope.names.lookup x = some .local := by first | exact .inl rfl | exact .inr rfl | assumption) :
    DS X E (.Assign [.Name x pos'] (.List es pos2) pos) (sOwnL i ms) := ps_weak (ps_set hN hi hx (pe_lst ha) hs hf) fun D σ H h => by
  obtain ⟨C, O, G, u, Z, I, ek, hm, k1, k2, k3, k4⟩ := h
  refine ⟨C, O, G, u, _, Z.ex, I, ek, hm, fun ds vs u1 H1 I1 e1 r1 h1 => ⟨by rw [← r1.length]; exact h1.1, fun p hp => ?_⟩⟩
  exact k1 _ _ u1 _ _ (I1.newL hp r1) h1.2
/-- x.append(e), x.extend(e), x owned -/
def sAppend (i : Nat) (m : DM) : DSM := fun G u Z => (∃ xs, G[i]? = some (.ow (.lst xs))) ∧ m G u (fun d u1 => match G[i]? with
  | some (.ow (.lst xs)) => xs.length < sizeLine ∧ Z.nx (G.set i (.ow (.lst (xs ++ [d])))) u1
  | _ => False) Z.ex
def sExtend (i : Nat) (m : DM) : DSM := fun G u Z => (∃ xs, G[i]? = some (.ow (.lst xs))) ∧ m G u (fun d u1 => match G[i]?, d with
  | some (.ow (.lst xs)), .lst ys => xs.length + ys.length ≤ sizeLine ∧ Z.nx (G.set i (.ow (.lst (xs ++ ys)))) u1
  | _, _ => False) Z.ex
theorem own_lst {K : PySem.W.Frag} {p : Option Addr} {O : List Addr} {H : Hp} {a : Addr} {ds : List Dat} (h : OwnAt K p O H a (.lst ds)) : ∃ vs, H a = some (.lst vs) ∧ Rps K p (hid O H) ds vs := by
  cases h with
  | lst h r => exact ⟨_, h, r⟩
theorem hid_own {O : List Addr} {H : Hp} {a : Addr} {o : HO} (h : a ∈ O) : hid O (upd H a o) = hid O H := by
  funext b
  by_cases z : b ∈ O
  · rw [hid_in z, hid_in z]
  · rw [hid_out z, hid_out z, upd_ne fun w => z (by rw [w]; exact h)]
theorem Iv.owL {K : PySem.W.Frag} {C : Cn} {O : List Addr} {G : DEnv} {u : Nat} {σ : L2.St} {H : Hp} {i : Nat} (I : Iv K C O G u σ H) {ds : List Dat} (h : G[i]? = some (.ow (.lst ds))) : ∃ a vs, σ[i]? = some (some (.ref a)) ∧ H a = some (.lst vs) ∧ Rps K C.p (hid O H) ds vs ∧
    ∀ (ds' : List Dat) (vs' : List V), Rps K C.p (hid O H) ds' vs' → Iv K C O (G.set i (.ow (.lst ds'))) u σ (upd H a (.lst vs')) := by
  obtain ⟨a, e1, h1, k⟩ := I.ow h
  obtain ⟨vs, hv, r⟩ := own_lst h1
  refine ⟨a, vs, e1, hv, r, fun ds' vs' r' => k _ _ (.lst upd_same (r'.mono fun b x e => ?_))⟩
  obtain ⟨n, q⟩ := hid_some e
  have ao : a ∈ O := by
    obtain ⟨f, h1, _⟩ := I.slots
    obtain ⟨z1, z2, _⟩ := h1 i _ h
    rw [z1] at e1
    cases e1; exact z2
  rw [hid_own ao]; exact e
theorem ds_append {i : Nat} {x : Str} {a : Expr} {ma : DM} {p1 apos cpos : Pos} (hv : PE X (.Name x p1) (tVar i)) (ha : DE X E a ma)
    (hbase : attributeBase (.Name x p1) "append" X.env (eval (.Name x p1) X.env) = eval (.Name x p1) X.env := by rfl)
    (hfew : ((backTo cpos (starEach [a] X.env)).all (fun x => !x.1) && (backToKw cpos (keywordEach [] X.env)).all (fun x => x.1.isSome)
      && decide (([a] : List Expr).length + ([] : List Keyword).length + (if ([] : List Keyword).isEmpty then 0 else 1) < 30)) = true := by rfl)
    (hline : (apos.endLine == cpos.line) = true := by rfl) (hst : starEach [a] X.env = (false, eval a X.env) :: starEach [] X.env := by rfl)
    (hs : swapsWith (.Call (.Attribute (.Name x p1) "append" apos) [a] [] cpos) none pos.line X.env = pure false := by rfl) :
    DS X E (.Expr (.Call (.Attribute (.Name x p1) "append" apos) [a] [] cpos) pos) (sAppend i ma) :=
  ps_weak (ps_expr (pe_bm PySem.F.plainAttrs_list PySem.F.slot_list_append PySem.F.type_list_append mt_append hv (pa_cons ha pa_nil hst) hbase hfew hline hst rfl) hs) fun D σ H h => by
  obtain ⟨C, O, G, u, Z, I, ek, ⟨⟨xs, hx⟩, hm⟩, k1, k2, k3, k4⟩ := h
  obtain ⟨b, vs, e1, hv, r, _⟩ := I.owL hx
  refine ⟨_, e1, .inl ⟨rfl, _, SqL.of hv⟩, C, O, G, u, _, Z.ex, I, ek, hm, fun d w u1 H1 I1 ex r1 h1 => ?_⟩
  rw [hx] at h1
  obtain ⟨b', vs', e1', hv', r', kk⟩ := I1.owL hx
  rw [e1] at e1'
  cases e1'
  refine ⟨b, vs', w, rfl, rfl, hv', by rw [← r'.length]; exact h1.1, k1 O _ u1 σ _ (kk _ _ (r'.app (.one r1))) h1.2⟩
theorem ds_extend {i : Nat} {x : Str} {a : Expr} {ma : DM} {p1 apos cpos : Pos} (hv : PE X (.Name x p1) (tVar i)) (ha : DE X E a ma)
    (hbase : attributeBase (.Name x p1) "extend" X.env (eval (.Name x p1) X.env) = eval (.Name x p1) X.env := by rfl)
    (hfew : ((backTo cpos (starEach [a] X.env)).all (fun x => !x.1) && (backToKw cpos (keywordEach [] X.env)).all (fun x => x.1.isSome)
      && decide (([a] : List Expr).length + ([] : List Keyword).length + (if ([] : List Keyword).isEmpty then 0 else 1) < 30)) = true := by rfl)
    (hline : (apos.endLine == cpos.line) = true := by rfl) (hst : starEach [a] X.env = (false, eval a X.env) :: starEach [] X.env := by rfl)
    (hs : swapsWith (.Call (.Attribute (.Name x p1) "extend" apos) [a] [] cpos) none pos.line X.env = pure false := by rfl) :
    DS X E (.Expr (.Call (.Attribute (.Name x p1) "extend" apos) [a] [] cpos) pos) (sExtend i ma) :=
  ps_weak (ps_expr (pe_bm PySem.F.plainAttrs_list PySem.F.slot_list_extend PySem.F.type_list_extend mt_extend hv (pa_cons ha pa_nil hst) hbase hfew hline hst rfl) hs) fun D σ H h => by
  obtain ⟨C, O, G, u, Z, I, ek, ⟨⟨xs, hx⟩, hm⟩, k1, k2, k3, k4⟩ := h
  obtain ⟨b, vs, e1, hv, r, _⟩ := I.owL hx
  refine ⟨_, e1, .inl ⟨rfl, _, SqL.of hv⟩, C, O, G, u, _, Z.ex, I, ek, hm, fun d w u1 H1 I1 ex r1 h1 => ?_⟩
  rw [hx] at h1
  obtain ⟨b', vs', e1', hv', r', kk⟩ := I1.owL hx
  rw [e1] at e1'
  cases e1'
  cases r1 with
  | lst hc rc =>
    refine ⟨b, _, vs', _, rfl, rfl, hv', hid_le _ _ hc, by rw [← r'.length, ← rc.length]; exact h1.1, k1 O _ u1 σ _ (kk _ _ (r'.app rc)) h1.2⟩
  | _ => exact h1.elim
end
end DL

set_option Elab.async false
set_option linter.all false
set_option maxRecDepth 100000
set_option maxHeartbeats 1000000
namespace DL
open PySem PySem.Spec PyProof.Rows L2

/-- the walk J goes over the data ds, wherever S stands -/
def ItOk (K : PySem.W.Frag) (p : Option Addr) (ds : List Dat) (J : It) (S : Hp) : Prop := ∀ (i : Nat) (O : List Addr) (H : Hp), Same S (hid O H) → (∀ a ∈ O, H a ≠ none) →
  (ds.length ≤ i → J.stop i H) ∧ ∀ d, ds[i]? = some d → J.go i H ∧ ∀ x H', J.yld i H x H' → Same H H' ∧ Rp K p (hid O H') d x
def tI (K : PySem.W.Frag) (E : XK) (m : DAM) : TI := fun σ H R => ∃ (C : Cn) (O : List Addr) (G : DEnv) (u : Nat) (Qd : List Dat → Nat → Prop) (Ed : QD), Iv K C O G u σ H ∧ EOk K C E Ed ∧ m G u Qd Ed ∧
  ∀ ds u' H' J, Iv K C O G u' σ H' → Ex C.p H H' → ItOk K C.p ds J (hid O H') → Qd ds u' → R J H'
abbrev DI (X : Cx) (E : XK) (tg e : Expr) (m : DAM) : Prop := PI X tg e (tI X.K E m)
theorem pi_weak {X : Cx} {tg e : Expr} {t t' : TI} (h : PI X tg e t) (w : ∀ σ H Q, t' σ H Q → t σ H Q) : PI X tg e t' := ⟨fun pins s σ H Q I q => h.run pins s σ H Q I (w σ H Q q)⟩
section
variable {K : PySem.W.Frag} {p : Option Addr} {S : Hp} {a : Addr} {vs : List V} {ds : List Dat}
theorem it_list (h : S a = some (.lst vs)) (r : Rps K p S ds vs) : ItOk K p ds (Itl K a) S := fun i O H s _ => by
  have hh : H a = some (.lst vs) := hid_le _ _ (s _ _ h)
  refine ⟨fun hl => ⟨vs, SqL.of hh, by rw [← r.length]; exact hl⟩, fun d hd => ?_⟩
  obtain ⟨v, hv, rv⟩ := r.get' hd
  refine ⟨⟨vs, v, SqL.of hh, hv⟩, fun x H' hy => ?_⟩
  obtain ⟨rfl, hy⟩ := hy
  have e := hy vs (SqL.of hh)
  rw [hv] at e
  cases e
  exact ⟨Same.refl _, rv.mono s⟩
theorem it_tup (h : S a = some (.tup vs)) (r : Rps K p S ds vs) : ItOk K p ds (Itt K a) S := fun i O H s _ => by
  have hh : H a = some (.tup vs) := hid_le _ _ (s _ _ h)
  refine ⟨fun hl => ⟨vs, SqT.of hh, by rw [← r.length]; exact hl⟩, fun d hd => ?_⟩
  obtain ⟨v, hv, rv⟩ := r.get' hd
  refine ⟨⟨vs, v, SqT.of hh, hv⟩, fun x H' hy => ?_⟩
  obtain ⟨rfl, hy⟩ := hy
  have e := hy vs (SqT.of hh)
  rw [hv] at e
  cases e
  exact ⟨Same.refl _, rv.mono s⟩
def signs (x : Str) : List Dat := x.cps.toList.map fun c => .str ⟨#[c]⟩
theorem it_str {x : Str} : ItOk K p (signs x) (Its x) S := fun i O H s _ => by
  refine ⟨fun hl => by
    show x.cps.size ≤ i
    simpa [signs] using hl, fun d hd => ?_⟩
  unfold signs at hd
  rw [List.getElem?_map] at hd
  cases e : x.cps.toList[i]? with
  | none => rw [e] at hd; cases hd
  | some c =>
    rw [e] at hd
    cases hd
    have l : i < x.cps.size := by
      have := (List.getElem?_eq_some_iff.mp e).1
      simpa using this
    refine ⟨l, fun v H' hy => ?_⟩
    obtain ⟨rfl, c', hc, rfl⟩ := hy
    have : x.cps.toList[i]? = some c' := by rw [← hc]; simp
    rw [e] at this
    cases this
    exact ⟨Same.refl _, .str _⟩
def rgD (lo : Int) (n : Nat) : List Dat := (List.range n).map fun i => .int (lo + (i : Nat))
theorem rgD_get {lo : Int} {n i : Nat} {d : Dat} (h : (rgD lo n)[i]? = some d) : i < n ∧ d = .int (lo + (i : Nat)) := by
  unfold rgD at h
  rw [List.getElem?_map] at h
  cases e : (List.range n)[i]? with
  | none => rw [e] at h; cases h
  | some j =>
    rw [e] at h
    cases h
    obtain ⟨l, e⟩ := List.getElem?_eq_some_iff.mp e
    rw [List.getElem_range] at e
    subst e
    exact ⟨by simpa using l, rfl⟩
theorem it_range {lo : Int} {n : Nat} : ItOk K p (rgD lo n) (Itr lo n) S := fun i O H s _ => by
  refine ⟨fun hl => by
    show n ≤ i
    simpa [rgD] using hl, fun d hd => ?_⟩
  obtain ⟨l, rfl⟩ := rgD_get hd
  exact ⟨l, fun v H' ⟨e, ev⟩ => by subst e; subst ev; exact ⟨Same.refl _, .int _⟩⟩
def enums (ds : List Dat) : List Dat := (List.range ds.length).zipWith (fun (i : Nat) d => .tup [.int (i : Int), d]) ds
theorem enums_get {ds : List Dat} {i : Nat} {d : Dat} (h : (enums ds)[i]? = some d) : ∃ x, ds[i]? = some x ∧ d = .tup [.int (i : Int), x] := by
  unfold enums at h
  rw [List.getElem?_zipWith] at h
  cases e : (List.range ds.length)[i]? with
  | none => rw [e] at h; cases h
  | some j =>
    rw [e] at h
    obtain ⟨l, e⟩ := List.getElem?_eq_some_iff.mp e
    rw [List.getElem_range] at e
    subst e
    cases e2 : ds[i]? with
    | none => rw [e2] at h; cases h
    | some x =>
      rw [e2] at h
      cases h
      exact ⟨x, rfl, rfl⟩
theorem enums_len {ds : List Dat} : (enums ds).length = ds.length := by simp [enums]
theorem it_enum (h : S a = some (.lst vs)) (r : Rps K p S ds vs) : ItOk K p (enums ds) (Ite K a) S := fun i O H s hO => by
  have hh : H a = some (.lst vs) := hid_le _ _ (s _ _ h)
  refine ⟨fun hl => ⟨vs, SqL.of hh, by rw [← r.length, ← enums_len]; exact hl⟩, fun d hd => ?_⟩
  obtain ⟨x, hx, rfl⟩ := enums_get hd
  obtain ⟨v, hv, rv⟩ := r.get' hx
  refine ⟨⟨vs, v, SqL.of hh, hv⟩, fun y H' hy => ?_⟩
  obtain ⟨T, w, rfl, hT, rfl, hw⟩ := hy
  have e := hw vs (SqL.of hh)
  rw [hv] at e
  cases e
  exact ⟨same_new hT, .tup (hid_new hO hT) (.cons (.int _) (.one (rv.mono (s.trans (hid_same (same_new hT))))))⟩
end

section
variable {X : Cx} {E : XK} {tg e : Expr} {m : DM} {ms : DAM} {pos p : Pos}
def dItr (m : DM) : DAM := fun G u Q E => m G u (fun d u1 => match d with
  | .lst ds => Q ds u1
  | .tup ds => Q ds u1
  | .str x => Q (signs x) u1
  | _ => False) E
theorem pi_any {te : TE} (he : PE X e te) : PI X tg e (fun σ H R => te σ H fun x H1 => (∃ a, x = .ref a ∧ (∃ xs, SqL X.K H1 a xs) ∧ R (Itl X.K a) H1) ∨ (∃ a, x = .ref a ∧ (∃ xs, SqT X.K H1 a xs) ∧ R (Itt X.K a) H1) ∨ ∃ y, x = .str y ∧ R (Its y) H1) := by
  refine ⟨fun pins s σ H R I h => ?_⟩
  refine thn (he.run pins s σ H _ I h) fun v s1 ⟨x, H1, I1, r1, q1⟩ => ?_
  rcases q1 with ⟨a, rfl, ⟨xs, hq⟩, q⟩ | ⟨a, rfl, ⟨xs, hq⟩, q⟩ | ⟨y, rfl, q⟩
  · cases r1
    obtain ⟨its, rv, pl, hz⟩ := I1.list hq
    exact wpAny_pyIter_list pl.isList (pi_one (tk := s1.toks) I1 _ (turn_list a _) ⟨_, Heap.get?_push_size _ rfl, rfl, rfl⟩ q)
  · cases r1
    obtain ⟨its, rv, pl, hz⟩ := I1.tuple hq
    exact wpAny_pyIter_tuple (show s1.heap.IsTuple a its.toArray from pl) (pi_one (tk := s1.toks) I1 _ (turn_tuple a _) ⟨_, Heap.get?_push_size _ rfl, rfl, rfl⟩ q)
  · obtain ⟨t, rfl⟩ := r1
    cases ha : y.cps.all (· < 128)
    · exact wpAny_pyIter_wide ha (pi_one (tk := s1.toks) I1 _ (turn_str _ y t "str_iterator" (.inr rfl)) ⟨_, Heap.get?_push_size _ rfl, rfl, rfl⟩ q)
    · exact wpAny_pyIter_ascii ha (pi_one (tk := s1.toks) I1 _ (turn_str _ y t "str_ascii_iterator" (.inl rfl)) ⟨_, Heap.get?_push_size _ rfl, rfl, rfl⟩ q)
theorem di_any (he : DE X E e m) : DI X E tg e (dItr m) := pi_weak (pi_any he) fun σ H R h => by
  obtain ⟨C, O, G, u, Qd, Ed, I, ek, hm, k⟩ := h
  refine ⟨C, O, G, u, _, Ed, I, ek, hm, fun x v u1 H1 I1 e1 r1 h1 => ?_⟩
  cases r1 with
  | @lst a vs ds ha r => exact .inl ⟨a, rfl, ⟨vs, SqL.of (hid_le _ _ ha)⟩, k ds u1 H1 _ I1 e1 (it_list ha r) h1⟩
  | @tup a vs ds ha r => exact .inr (.inl ⟨a, rfl, ⟨vs, SqT.of (hid_le _ _ ha)⟩, k ds u1 H1 _ I1 e1 (it_tup ha r) h1⟩)
  | str x => exact .inr (.inr ⟨x, rfl, k _ u1 H1 _ I1 e1 it_str h1⟩)
  | _ => exact h1.elim
/-- one int, two ints as data -/
def int1 : List Dat → Option Int
  | [.int n] => some n
  | _ => none
def int2 : List Dat → Option (Int × Int)
  | [.int n, .int k] => some (n, k)
  | _ => none
theorem int1_ok {K : PySem.W.Frag} {p : Option Addr} {H : Hp} {ds : List Dat} {vs : List V} {n : Int} (r : Rps K p H ds vs) (h : int1 ds = some n) : vs = [.int n] := by
  unfold int1 at h
  split at h
  · cases h
    cases r with
    | cons r rr =>
      cases rr
      cases r
      rfl
  · cases h
theorem int2_ok {K : PySem.W.Frag} {p : Option Addr} {H : Hp} {ds : List Dat} {vs : List V} {n : Int × Int} (r : Rps K p H ds vs) (h : int2 ds = some n) : vs = [.int n.1, .int n.2] := by
  unfold int2 at h
  split at h
  · cases h
    cases r with
    | cons r rr =>
      cases rr with
      | cons r2 rr =>
        cases rr
        cases r
        cases r2
        rfl
  · cases h
/-- an option as a reading: none is refused -/
def opt {α : Type} (o : Option α) (q : α → Prop) : Prop := match o with
  | some a => q a
  | none => False
theorem opt_some {α : Type} {o : Option α} {q : α → Prop} (h : opt o q) : ∃ a, o = some a ∧ q a := by
  cases o with
  | none => exact h.elim
  | some a => exact ⟨a, rfl, h⟩
def dRng1 (ms : DAM) : DAM := fun G u Q E => ms G u (fun xs u1 => opt (int1 xs) fun n => -(2 ^ 62) ≤ n ∧ n < 2 ^ 62 ∧ Q (rgD 0 n.toNat) u1) E
def dRng2 (ms : DAM) : DAM := fun G u Q E => ms G u (fun xs u1 => opt (int2 xs) fun n => (-(2 ^ 62) ≤ n.1 ∧ n.1 < 2 ^ 62 ∧ -(2 ^ 62) ≤ n.2 ∧ n.2 < 2 ^ 62) ∧ Q (rgD n.1 (n.2 - n.1).toNat) u1) E
theorem di_range1 {a : Expr} (hm : X.mg "range" = none) (ha : DA X E [a] ms) (hg : Gl X "range" := by rfl) (hs : starEach [a] X.env = [(false, eval a X.env)] := by rfl) : DI X E tg (.Call (.Name "range" p) [a] [] pos) (dRng1 ms) :=
  pi_weak (pi_range1 hg hm ha hs) fun σ H R h => by
    obtain ⟨C, O, G, u, Qd, Ed, I, ek, hm, k⟩ := h
    refine ⟨C, O, G, u, _, Ed, I, ek, hm, fun x v u1 H1 I1 e1 r1 h1 => ?_⟩
    obtain ⟨n, en, h2, h3, h4⟩ := opt_some h1
    exact ⟨n, int1_ok r1 en, h2, h3, k _ u1 H1 _ I1 e1 it_range h4⟩
theorem di_range2 {a b : Expr} (hm : X.mg "range" = none) (ha : DA X E [a, b] ms) (hg : Gl X "range" := by rfl) (hs : starEach [a, b] X.env = [(false, eval a X.env), (false, eval b X.env)] := by rfl) (hs2 : starEach [b] X.env = [(false, eval b X.env)] := by rfl) :
    DI X E tg (.Call (.Name "range" p) [a, b] [] pos) (dRng2 ms) :=
  pi_weak (pi_range2 hg hm ha hs hs2) fun σ H R h => by
    obtain ⟨C, O, G, u, Qd, Ed, I, ek, hm, k⟩ := h
    refine ⟨C, O, G, u, _, Ed, I, ek, hm, fun x v u1 H1 I1 e1 r1 h1 => ?_⟩
    obtain ⟨n, en, h2, h4⟩ := opt_some h1
    exact ⟨n.1, n.2, int2_ok r1 en, h2, k _ u1 H1 _ I1 e1 it_range h4⟩
def lst1 : List Dat → Option (List Dat)
  | [.lst xs] => some xs
  | _ => none
theorem lst1_ok {K : PySem.W.Frag} {p : Option Addr} {H : Hp} {ds : List Dat} {vs : List V} {xs : List Dat} (r : Rps K p H ds vs) (h : lst1 ds = some xs) : ∃ a ws, vs = [.ref a] ∧ H a = some (.lst ws) ∧ Rps K p H xs ws := by
  unfold lst1 at h
  split at h
  · cases h
    cases r with
    | cons r rr =>
      cases rr
      cases r with
      | lst h r => exact ⟨_, _, rfl, h, r⟩
  · cases h
def dEnum (ms : DAM) : DAM := fun G u Q E => ms G u (fun xs u1 => opt (lst1 xs) fun ds => Q (enums ds) u1) E
theorem di_enum {a : Expr} {elts : List Expr} {kk : Nat} {tpos : Pos} (hm : X.mg "enumerate" = none) (ha : DA X E [a] ms) (hg : Gl X "enumerate" := by rfl) (hs : starEach [a] X.env = [(false, eval a X.env)] := by rfl) :
    DI X E (.Tuple elts kk tpos) (.Call (.Name "enumerate" p) [a] [] pos) (dEnum ms) :=
  pi_weak (pi_enum hg hm ha hs) fun σ H R h => by
    obtain ⟨C, O, G, u, Qd, Ed, I, ek, hm, k⟩ := h
    refine ⟨C, O, G, u, _, Ed, I, ek, hm, fun x v u1 H1 I1 e1 r1 h1 => ?_⟩
    obtain ⟨ds, en, h4⟩ := opt_some h1
    obtain ⟨a, ws, rfl, h5, h6⟩ := lst1_ok r1 en
    exact ⟨a, ws, rfl, SqL.of (hid_le _ _ h5), k _ u1 H1 _ I1 e1 (it_enum h5 h6) h4⟩

/-! ### for -/
def forGo (b : DB) (mb : DSM) (Z : DEnds) : List Dat → DEnv → Nat → Prop
  | [], G, u => Z.nx G u
  | d :: r, G, u => b d G fun G' => mb G' u { Z with nx := fun G2 u2 => forGo b mb Z r G2 u2, ct := fun G2 u2 => forGo b mb Z r G2 u2, bk := Z.nx }
def sFor (mi : DAM) (b : DB) (mb : DSM) : DSM := fun G u Z => mi G u (fun ds u1 => forGo b mb Z ds G u1) Z.ex
def Cn.at (C : Cn) (S : Hp) : Cn := { C with S := S }
section
variable {K : PySem.W.Frag} {C : Cn} {O : List Addr} {G : DEnv} {u : Nat} {σ : L2.St} {H S : Hp}
theorem Iv.rebase (I : Iv K C O G u σ H) : Iv K (C.at (hid O H)) O G u σ H := ⟨I.ext, I.sub, I.own, I.dom, I.pot, I.len, Same.refl _, I.slots⟩
theorem Iv.unbase (I : Iv K (C.at S) O G u σ H) (h : Same C.S S) : Iv K C O G u σ H := ⟨I.ext, I.sub, I.own, I.dom, I.pot, I.len, h.trans I.shr, I.slots⟩
theorem Ok0.unbase (h : Ok0 (C.at S) u H) : Ok0 C u H := ⟨h.ext, h.dom, h.pot⟩
theorem EOk.at {E : XK} {Ed : QD} (h : EOk K C E Ed) : EOk K (C.at S) E Ed := fun c d v a u H ok hx r q => h c d v a u H ok.unbase hx r q
end
theorem drop_cons {α : Type} {l : List α} {i : Nat} {x : α} (h : l[i]? = some x) : l.drop i = x :: l.drop (i + 1) := by
  obtain ⟨hl, e⟩ := List.getElem?_eq_some_iff.mp h
  rw [List.drop_eq_getElem_cons hl, e]
theorem ds_for {iter : Expr} {body : List Stmt} {xs : List Nat} {mi : DAM} {b : DB} {mb : DSM} (hp : PassesOwn (model X.prog X.w) X.A X.env X.xe) (hc : X.calm = true) (hi : DI X E tg iter mi) (hg : DG X xs tg b) (hb : DSs X E body mb)
    (hs : ∀ x, foldedSetIterable iter X.env x = pure x := by intro _; rfl) : DS X E (.For tg iter body [] pos) (sFor mi b mb) := ps_weak (ps_for hp hc hi hg hb hs) fun D σ H h => by
  obtain ⟨C, O, G, u, Z, I, ek, hm, k1, k2, k3, k4⟩ := h
  refine ⟨C, O, G, u, _, Z.ex, I, ek, hm, fun ds u1 H1 J I1 e1 it h1 => ?_⟩
  have un : ∀ {O' G' u' σ' H'}, Iv X.K (C.at (hid O H1)) O' G' u' σ' H' → Iv X.K C O' G' u' σ' H' := fun I => I.unbase I1.shr
  refine ⟨fun i n σ' H' => i + n = ds.length ∧ ∃ O' G' u', Iv X.K (C.at (hid O H1)) O' G' u' σ' H' ∧ forGo b mb Z (ds.drop i) G' u', ⟨ds.length, by omega, O, G, u1, I1.rebase, h1⟩, fun i n σ' H' hW => ?_⟩
  obtain ⟨en, O', G', u', I', hf⟩ := hW
  have it' := it i O' H' I'.shr I'.dom
  cases hd : ds[i]? with
  | none =>
    have hl := List.getElem?_eq_none_iff.mp hd
    rw [List.drop_of_length_le hl] at hf
    exact .inl ⟨it'.1 hl, k1 O' G' u' σ' H' (un I') hf⟩
  | some d =>
    have hl := (List.getElem?_eq_some_iff.mp hd).1
    rw [drop_cons hd] at hf
    obtain ⟨hgo, hy⟩ := it'.2 d hd
    refine .inr ⟨hgo, fun σ2 H2 => ∃ O2 G2 u2, Iv X.K (C.at (hid O H1)) O2 G2 u2 σ2 H2 ∧ forGo b mb Z (ds.drop (i + 1)) G2 u2, fun σ2 H2 hN => ⟨n - 1, by omega, by omega, hN⟩, fun x H2 hx => ?_⟩
    obtain ⟨s2, r2⟩ := hy x H2 hx
    refine ⟨C.at (hid O H1), O', G', u', d, _, I'.grow s2, r2, hf, fun G2 σ2 I2 _ q2 => ?_⟩
    exact ⟨C.at (hid O H1), O', G2, u', { Z with nx := fun G2 u2 => forGo b mb Z (ds.drop (i + 1)) G2 u2, ct := fun G2 u2 => forGo b mb Z (ds.drop (i + 1)) G2 u2, bk := Z.nx }, I2, ek.at, q2, fun O3 G3 u3 σ3 H3 I3 q3 => ⟨O3, G3, u3, I3, q3⟩, fun O3 G3 u3 σ3 H3 I3 q3 => k1 O3 G3 u3 σ3 H3 (un I3) q3, fun O3 G3 u3 σ3 H3 I3 q3 => ⟨O3, G3, u3, I3, q3⟩, fun d v u3 H3 ok r q => k4 d v u3 H3 ok.unbase r q⟩

/-! ### while -/
def sWhile (t : DTM) (mb : DSM) : DSM := fun G u Z => ∃ W : Nat → DEnv → Nat → Prop, (∃ n, W n G u) ∧ ∀ n G u, W n G u →
  t G u (fun b u1 => bif b then mb G u1 { Z with nx := fun G' u' => ∃ n', n' < n ∧ W n' G' u', ct := fun G' u' => ∃ n', n' < n ∧ W n' G' u', bk := Z.nx } else Z.nx G u1) Z.ex
theorem ds_while {c : Expr} {body : List Stmt} {t : DTM} {mb : DSM} (hp : PassesOwn (model X.prog X.w) X.A X.env X.xe) (hc : DT X E c t) (hb : DSs X E body mb) : DS X E (.While c body [] pos) (sWhile t mb) := ps_weak (ps_while hp hc hb) fun D σ H h => by
  obtain ⟨C, O, G, u, Z, I, ek, ⟨W, ⟨n, hW⟩, hm⟩, k1, k2, k3, k4⟩ := h
  refine ⟨fun n σ' H' => ∃ O' G' u', Iv X.K C O' G' u' σ' H' ∧ W n G' u', ⟨n, O, G, u, I, hW⟩, fun n σ' H' hV => ?_⟩
  obtain ⟨O', G', u', I', hW⟩ := hV
  refine ⟨C, O', G', u', _, Z.ex, I', ek, hm n G' u' hW, fun b u1 H1 I1 e1 h1 => ?_⟩
  cases b with
  | true =>
    refine iteT ⟨fun σ2 H2 => ∃ O2 G2 u2, Iv X.K C O2 G2 u2 σ2 H2 ∧ ∃ n', n' < n ∧ W n' G2 u2, fun σ2 H2 hN => ?_, C, O', G', u1, { Z with nx := fun G' u' => ∃ n', n' < n ∧ W n' G' u', ct := fun G' u' => ∃ n', n' < n ∧ W n' G' u', bk := Z.nx }, I1, ek, h1, fun O3 G3 u3 σ3 H3 I3 q3 => ⟨O3, G3, u3, I3, q3⟩, fun O3 G3 u3 σ3 H3 I3 q3 => k1 O3 G3 u3 σ3 H3 I3 q3, fun O3 G3 u3 σ3 H3 I3 q3 => ⟨O3, G3, u3, I3, q3⟩, k4⟩
    obtain ⟨O2, G2, u2, I2, n', l, hW'⟩ := hN
    exact ⟨n', l, O2, G2, u2, I2, hW'⟩
  | false => exact iteF (k1 O' G' u1 σ' H1 I1 h1)

/-! ### comprehensions -/
def wipeG (G : DEnv) : List Nat → DEnv
  | [] => G
  | v :: vs => (wipeG G vs).set v .no
theorem wipeG_len (G : DEnv) : ∀ vs : List Nat, (wipeG G vs).length = G.length
  | [] => rfl
  | v :: vs => by unfold wipeG; rw [List.length_set, wipeG_len G vs]
theorem wipeG_get {G : DEnv} {i : Nat} {s : Slot} : ∀ {vs : List Nat}, (wipeG G vs)[i]? = some s → s = .no ∨ (G[i]? = some s ∧ i ∉ vs)
  | [], h => .inr ⟨h, by simp⟩
  | v :: vs, h => by
    unfold wipeG at h
    rcases set_get h with ⟨_, e, _⟩ | ⟨ne, h⟩
    · exact .inl e
    · rcases wipeG_get h with e | ⟨e, n⟩
      · exact .inl e
      · exact .inr ⟨e, by simp [ne, n]⟩
def lcGo (b : DB) (t : DTM) (m : DM) (G : DEnv) (Q : QD) : List Dat → List Dat → Nat → Prop
  | [], acc, u => Q (.lst acc) u
  | d :: r, acc, u => b d G fun G' => t G' u (fun k u1 => bif k then m G' u1 (fun y u2 => acc.length < sizeLine ∧ lcGo b t m G Q r (acc ++ [y]) u2) (fun _ _ => False) else lcGo b t m G Q r acc u1) fun _ _ => False
def dLc (mi : DAM) (b : DB) (t : DTM) (m : DM) (vs : List Nat) : DM := fun G u Q E => mi G u (fun ds u1 => lcGo b t m (wipeG G vs) Q ds [] u1) E
section
variable {K : PySem.W.Frag} {C : Cn} {O : List Addr} {G : DEnv} {u : Nat} {σ : L2.St} {H : Hp}
/-- a new object hidden -/
theorem Iv.hide (I : Iv K C O G u σ H) {a : Addr} {o : HO} (ha : H a = none) : Iv K C (a :: O) G u σ (upd H a o) := by
  have J := Iv.setOwn (i := G.length) (d := .lst []) (o := .lst []) I ha (.lst upd_same .nil)
  have na : a ∉ O := I.nin ha
  have hs : Same (hid O H) (hid (a :: O) (upd H a o)) := fun b x e => by
    obtain ⟨n, q⟩ := hid_some e
    have nb : b ≠ a := ne_of_none q ha
    rw [hid_out (by simp [nb, n]), upd_ne nb]; exact q
  obtain ⟨f, h1, h2⟩ := I.slots
  refine ⟨I.ext.trans (Ex.new ha), J.sub, J.own, fun b hb => ?_, fun b e => ⟨(I.pot b e).1, (I.pot b e).2.new ha⟩, I.len, I.shr.trans hs, f, fun j s hj => ?_, h2⟩
  · rcases List.mem_cons.mp hb with rfl | hb
    · rw [upd_same]; exact fun z => nomatch z
    · rw [upd_ne fun w => na (by rw [← w]; exact hb)]; exact I.dom b hb
  · have h := h1 j s hj
    cases s with
    | no => trivial
    | va d => obtain ⟨w, e, z⟩ := h; exact ⟨w, e, z.mono hs⟩
    | ow d =>
      obtain ⟨e, e2, e3, z⟩ := h
      exact ⟨e, List.mem_cons_of_mem _ e2, e3, z.keep (upd_ne fun w => na (by rw [← w]; exact e2)) hs⟩
/-- a hidden object that no slot owns is written -/
theorem Iv.poke (I : Iv K C O G u σ H) {a : Addr} {o : HO} (ha : a ∈ O) (h0 : a ∉ C.O0) (hn : ∀ (j : Nat) (d : Dat), G[j]? = some (.ow d) → σ[j]? ≠ some (some (.ref a))) : Iv K C O G u σ (upd H a o) := by
  have hh : hid O (upd H a o) = hid O H := hid_own ha
  obtain ⟨f, h1, h2⟩ := I.slots
  have hz : C.H0 a = none := by
    rcases I.own _ ha with z | z
    · exact absurd z h0
    · exact z
  refine ⟨fun b x e n => ?_, I.sub, I.own, fun b hb => ?_, fun b e => ⟨(I.pot b e).1, ?_⟩, I.len, by rw [hh]; exact I.shr, f, fun j s hj => ?_, h2⟩
  · have nb : b ≠ a := fun w => by rw [w, hz] at e; cases e
    rw [upd_ne nb]; exact I.ext b x e n
  · by_cases z : b = a
    · rw [z, upd_same]; exact fun z => nomatch z
    · rw [upd_ne z]; exact I.dom b hb
  · have nb : b ≠ a := fun w => h0 (by rw [← w]; exact (I.pot b e).1)
    obtain ⟨x, y, z, q, r⟩ := (I.pot b e).2
    exact ⟨x, y, z, by rw [upd_ne nb]; exact q, r⟩
  · have t := h1 j s hj
    cases s with
    | no => trivial
    | va d => obtain ⟨w, a, b⟩ := t; exact ⟨w, a, by rw [hh]; exact b⟩
    | ow d =>
      obtain ⟨e, b, c, z⟩ := t
      have nf : f j ≠ a := fun w => hn j d hj (by rw [e, w])
      exact ⟨e, b, c, z.keep (upd_ne nf) (by rw [hh]; exact Same.refl _)⟩
/-- a hidden object is shown again -/
theorem Iv.unhide {a : Addr} (I : Iv K C (a :: O) G u σ H) (h0 : a ∉ C.O0) (na : a ∉ O) (hn : ∀ (j : Nat) (d : Dat), G[j]? = some (.ow d) → σ[j]? ≠ some (some (.ref a))) : Iv K C O G u σ H := by
  have le : Same (hid (a :: O) H) (hid O H) := hid_sub fun b hb => List.mem_cons_of_mem _ hb
  obtain ⟨f, h1, h2⟩ := I.slots
  refine ⟨I.ext, fun b hb => ?_, fun b hb => I.own b (List.mem_cons_of_mem _ hb), fun b hb => I.dom b (List.mem_cons_of_mem _ hb), I.pot, I.len, I.shr.trans le, f, fun j s hj => ?_, h2⟩
  · rcases List.mem_cons.mp (I.sub b hb) with e | e
    · exact absurd (by rw [← e]; exact hb) h0
    · exact e
  · have t := h1 j s hj
    cases s with
    | no => trivial
    | va d => obtain ⟨w, a, b⟩ := t; exact ⟨w, a, b.mono le⟩
    | ow d =>
      obtain ⟨e, b, c, z⟩ := t
      have nf : f j ≠ a := fun w => hn j d hj (by rw [e, w])
      refine ⟨e, ?_, c, z.keep rfl le⟩
      rcases List.mem_cons.mp b with w | w
      · exact absurd w nf
      · exact w
theorem Iv.wipe (I : Iv K C O G u σ H) (vs : List Nat) : Iv K C O (wipeG G vs) u (L2.wipe σ vs) H := I.forget (wipeG_len G vs) (wipe_length σ vs) fun i s h => by
  rcases wipeG_get h with e | ⟨e, n⟩
  · exact .inl e
  · exact .inr ⟨e, wipe_out n⟩
end
abbrev DTs (X : Cx) (es : List Expr) (t : DTM) : Prop := PTs X es (tT X.K E0 t)
def dYes : DTM := fun _ u Q _ => Q true u
theorem dts_nil : DTs X [] dYes := ⟨fun pins s σ H Q I h => by
  obtain ⟨C, O, G, u, Qd, Ed, J, ek, hm, k⟩ := h
  exact wpAny_tests_nil ⟨H, I, k true u H J Ex.refl hm⟩⟩
theorem dts_one {c : Expr} {t : DTM} (h : DT X E0 c t) : DTs X [c] t := pts_one h
theorem wipe_wipe {σ : L2.St} {xs : List Nat} : ∀ vs : List Nat, (∀ v ∈ vs, v ∈ xs) → wipe (wipe σ xs) vs = wipe σ xs
  | [], _ => rfl
  | v :: vs, hv => by
    show (wipe (wipe σ xs) vs).set v none = wipe σ xs
    rw [wipe_wipe vs fun w hw => hv w (List.mem_cons_of_mem _ hw)]
    apply List.ext_getElem?
    intro j
    by_cases hj : j = v
    · subst hj
      by_cases l : j < (wipe σ xs).length
      · rw [List.getElem?_set_self l]
        cases z : (wipe σ xs)[j]? with
        | none => rw [List.getElem?_eq_none_iff] at z; omega
        | some o =>
          cases o with
          | none => rfl
          | some w => exact absurd (hv j List.mem_cons_self) (wipe_some z).2
      · rw [List.getElem?_eq_none (by rw [List.length_set]; omega), List.getElem?_eq_none (by omega)]
    · rw [List.getElem?_set_ne (Ne.symm hj)]
theorem lc_go {xs : List Nat} {mi : DAM} {b : DB} {t : DTM} {σ : L2.St} {H : Hp} {Q : VK} (h : tE X.K E (dLc mi b t m xs) σ H Q) : tLc (tI X.K E mi) (tG X.K xs b) (tT X.K E0 t) (tE X.K E0 m) xs σ H Q := by
  obtain ⟨C, O, G, u, Qd, Ed, I, ek, hm, k⟩ := h
  refine ⟨C, O, G, u, _, Ed, I, ek, hm, fun ds u1 H1 J I1 e1 it h1 D hD => ?_⟩
  have nD : D ∉ O := I1.nin hD
  have n0 : D ∉ C.O0 := fun z => nD (I1.sub D z)
  have hn : ∀ (j : Nat) (d : Dat), G[j]? = some (.ow d) → σ[j]? ≠ some (some (.ref D)) := fun j d hj q => by
    obtain ⟨f, z1, _⟩ := I1.slots
    obtain ⟨w1, w2, _⟩ := z1 j _ hj
    rw [w1] at q
    cases q
    exact nD w2
  have I2 : Iv X.K (C.at (hid O H1)) (D :: O) G u1 σ (upd H1 D (.lst [])) := I1.rebase.hide hD
  refine ⟨fun i n H' => i + n = ds.length ∧ ∃ u' acc ws, Iv X.K (C.at (hid O H1)) (D :: O) G u' σ H' ∧ Ex C.p H1 H' ∧ H' D = some (.lst ws) ∧ Rps X.K C.p (hid (D :: O) H') acc ws ∧ lcGo b t m (wipeG G xs) Qd (ds.drop i) acc u',
    ⟨ds.length, by omega, u1, [], [], I2, Ex.new hD, upd_same, .nil, h1⟩, fun i n H' hW => ?_⟩
  obtain ⟨en, u', acc, ws, I', ex', hd', ra, hf⟩ := hW
  have it' := it i (D :: O) H' I'.shr I'.dom
  cases hd : ds[i]? with
  | none =>
    have hl := List.getElem?_eq_none_iff.mp hd
    rw [List.drop_of_length_le hl] at hf
    refine .inl ⟨it'.1 hl, k _ _ u' H' ((I'.unhide n0 nD hn).unbase I1.shr) (e1.trans ex') (.lst (by rw [hid_out nD]; exact hd') (ra.mono (hid_sub fun b hb => List.mem_cons_of_mem _ hb))) hf⟩
  | some d =>
    have hl := (List.getElem?_eq_some_iff.mp hd).1
    rw [drop_cons hd] at hf
    obtain ⟨hgo, hy⟩ := it'.2 d hd
    refine .inr ⟨hgo, fun H2 => ∃ u' acc ws, Iv X.K (C.at (hid O H1)) (D :: O) G u' σ H2 ∧ Ex C.p H1 H2 ∧ H2 D = some (.lst ws) ∧ Rps X.K C.p (hid (D :: O) H2) acc ws ∧ lcGo b t m (wipeG G xs) Qd (ds.drop (i + 1)) acc u', fun H2 hN => ⟨n - 1, by omega, by omega, hN⟩, fun x H2 hx => ?_⟩
    obtain ⟨s2, r2⟩ := hy x H2 hx
    have I3 := I'.grow s2
    refine ⟨C.at (hid O H1), D :: O, _, u', d, _, I3.wipe xs, r2, hf, fun G2 σ2 J2 hw q2 => ⟨?_, ?_⟩⟩
    · rw [hw]
      exact wipe_wipe xs fun _ z => z
    · refine ⟨C.at (hid O H1), D :: O, G2, u', _, _, J2, fun _ _ _ _ _ _ _ _ _ z => z.elim, q2, fun kb u3 H3 J3 e3 q3 => ?_⟩
      have I4 : Iv X.K (C.at (hid O H1)) (D :: O) G u3 σ H3 := I3.ex e3 J3.pot
      have pD : (C.at (hid O H1)).p ≠ some D := fun z => n0 (I1.pot D z).1
      have hd3 : H3 D = some (.lst ws) := e3 D _ (s2 _ _ hd') pD
      have ra3 : Rps X.K C.p (hid (D :: O) H3) acc ws := ra.mono ((hid_same s2).trans (e3.hid I3.potO))
      cases kb with
      | true =>
        refine iteT ⟨C.at (hid O H1), D :: O, G2, u3, _, _, J3, fun _ _ _ _ _ _ _ _ _ z => z.elim, q3, fun y w u4 H4 J4 e4 r4 q4 => ?_⟩
        have I5 : Iv X.K (C.at (hid O H1)) (D :: O) G u4 σ H4 := I4.ex e4 J4.pot
        have ra4 : Rps X.K C.p (hid (D :: O) H4) acc ws := ra3.mono (e4.hid I4.potO)
        refine ⟨ws, e4 D _ hd3 pD, by rw [← ra4.length]; exact q4.1, u4, acc ++ [y], ws ++ [w], I5.poke List.mem_cons_self n0 hn, ?_, upd_same, ?_, q4.2⟩
        · intro bb o eb nb
          have nbD : bb ≠ D := ne_of_none eb hD
          rw [upd_ne nbD]
          exact e4 bb o (e3 bb o (s2 bb o (ex' bb o eb nb)) nb) nb
        · rw [hid_own List.mem_cons_self]
          exact ra4.app (.one r4)
      | false =>
        refine iteF ⟨u3, acc, ws, I4, (ex'.trans (Ex.same s2)).trans e3, hd3, ra3, q3⟩
theorem de_lc {elt iter : Expr} {ifs : List Expr} {scope : Scope} {own : List (Str × Nat)} {mi : DAM} {b : DB} {t : DTM} (hc : X.calm = true) (hN : X.N.Nodup) (hi : DI X E tg iter mi) (ok : BlkOk X.N X.env.scope scope own)
    (hg : ∀ (s : Shared) (H : Hp) (C : Addr) (cl : List (Str × Addr)) (fp : List Addr), DG (X.blk s H scope (compEnvC scope cl C X.env) fp) (own.map (·.2)) tg b) (ht : ∀ (s : Shared) (H : Hp) (C : Addr) (cl : List (Str × Addr)) (fp : List Addr), DTs (X.blk s H scope (compEnvC scope cl C X.env) fp) ifs t)
    (he : ∀ (s : Shared) (H : Hp) (C : Addr) (cl : List (Str × Addr)) (fp : List Addr), DE (X.blk s H scope (compEnvC scope cl C X.env) fp) E0 elt m) (hs : ∀ x, foldedSetIterable iter X.env x = pure x := by intro _; rfl) :
    DE X E (.ListComp elt [⟨tg, iter, ifs, 0⟩] scope pos) (dLc mi b t m (own.map (·.2))) := pe_weak (pe_lc hc hN hi ok hg ht he hs) fun _ _ _ h => lc_go h
theorem ds_setLc {i : Nat} {y : Str} {py spos : Pos} {elt iter : Expr} {ifs : List Expr} {scope : Scope} {own : List (Str × Nat)} {mi : DAM} {b : DB} {t : DTM} (hc : X.calm = true) (hN : X.N.Nodup) (hy : X.N[i]? = some y) (hyl : X.env.scope.names.lookup y = some .local)
    (hsw : swapsWith (.ListComp elt [⟨tg, iter, ifs, 0⟩] scope pos) (some (.Name y py)) spos.line X.env = pure true) (hi : DI X E tg iter mi) (ok : BlkOk X.N X.env.scope scope own)
    (hg : ∀ (s : Shared) (H : Hp) (C : Addr) (cl : List (Str × Addr)) (fp : List Addr), DG (X.blk s H scope (compEnvC scope cl C X.env) fp) (own.map (·.2)) tg b) (ht : ∀ (s : Shared) (H : Hp) (C : Addr) (cl : List (Str × Addr)) (fp : List Addr), DTs (X.blk s H scope (compEnvC scope cl C X.env) fp) ifs t)
    (he : ∀ (s : Shared) (H : Hp) (C : Addr) (cl : List (Str × Addr)) (fp : List Addr), DE (X.blk s H scope (compEnvC scope cl C X.env) fp) E0 elt m) (hs : ∀ x, foldedSetIterable iter X.env x = pure x := by intro _; rfl) :
    DS X E (.Assign [.Name y py] (.ListComp elt [⟨tg, iter, ifs, 0⟩] scope pos) spos) (sAsg (dLc mi b t m (own.map (·.2))) (bName i)) := ps_weak (ps_setLc hc hN hy hyl hsw hi ok hg ht he hs) fun D σ H h => by
  obtain ⟨C, O, G, u, Z, I, ek, hm, k1, k2, k3, k4⟩ := h
  exact lc_go ⟨C, O, G, u, _, Z.ex, I, ek, hm, fun d v u1 H1 I1 e1 r1 h1 => k1 O _ u1 _ H1 (I1.set r1) h1⟩
end
end DL

set_option Elab.async false
set_option linter.all false
set_option maxRecDepth 100000
set_option maxHeartbeats 1000000
namespace DL
open PySem PySem.Spec PyProof.Rows L2

/-! ### defs: as HandS has them, and no guard of a repr stands around -/
structure FnG (P : Program) (w : World) (K : PySem.W.Frag) (mg : Str → Option Value) (base : Heap) (k : Nat) (f : Addr) (fd : FuncData) (ps : List Str) (sp : Sp) : Prop where
  len : ∀ vs H Q E, sp vs H Q E → vs.length = ps.length
  run : ∀ (A : Around) (outer : List Env) (s : Shared) (H : Hp) (args : Args) (us : List Value) (vs : List V) (Q : VK) (E : XK), Room k A → A.guards = some [] → Env0 P w K mg base A outer s H → BindsTo s fd args (ps.zip us) → Vals vs us → sp vs H Q E →
    codeAny (model P w) A (.call (.ref f) args) (CR (L2.CX P w) outer P w H s Q E) s
section
variable {P : Program} {w : World} {K : PySem.W.Frag} {mg : Str → Option Value} {base : Heap} {k : Nat} {f : Addr}
theorem FnG.mono {j : Nat} {fd : FuncData} {ps : List Str} {sp : Sp} (F : FnG P w K mg base j f fd ps sp) (h : j ≤ k) : FnG P w K mg base k f fd ps sp := ⟨F.len, fun A outer s H args us vs Q E hr => F.run A outer s H args us vs Q E (hr.mono h)⟩
theorem FnG.imp {fd : FuncData} {ps : List Str} {sp sp' : Sp} (F : FnG P w K mg base k f fd ps sp) (h : ∀ vs H Q E, sp' vs H Q E → sp vs H Q E) : FnG P w K mg base k f fd ps sp' :=
  ⟨fun vs H Q E q => F.len vs H Q E (h _ _ _ _ q), fun A outer s H args us vs Q E hr hg he hb hv hs => F.run A outer s H args us vs Q E hr hg he hb hv (h _ _ _ _ hs)⟩
/-- a def by its body -/
theorem fnG_of {name qual : Str} {params : Arguments} {body : List Stmt} {scope : Scope} {dvs : List V} {kws : List (Str × V)} {fd : FuncData} {N ps : List Str} {sp : Sp} (F : FunD K name qual params body scope dvs kws f fd) (S : FnScope N ps scope)
    (len : ∀ vs H Q E, sp vs H Q E → vs.length = ps.length)
    (hbody : ∀ (cdv : Value) (A : Around) (outer : List Env) (s : Shared) (H : Hp) (vs : List V) (Q : VK) (E : XK), Room k (A.deeper (envOfC qual scope s.heap.objs.size f cdv)) → A.guards = some [] → sp vs H Q E →
      ∃ t, PSs (cxOf (L2.CX P w) P w K mg base N qual scope f cdv A outer s H E) body t ∧ t { nx := fun _ H' => Q .non H', rt := Q } (start N vs) H) : FnG P w K mg base (k + 1) f fd ps sp := by
  obtain ⟨oc, od, dV, kV, doc, pm, an, cdv, ct, osl, rfl, lk, hcd, _, _⟩ := F.ex
  refine ⟨len, fun A outer s H args us vs Q E hr hg e0 hb r hsp => ?_⟩
  have hl := len _ _ _ _ hsp
  have KX : K.In s.heap := e0.mod.kin.keeps fun b o e => (e0.bs b o e).1
  have lim : s.heap.NoLimit := e0.mod.nolimit.keeps fun b o e => (e0.bs b o e).1
  refine codeAny_call_function hr.depth (KX _ _ lk) rfl S.co S.gen rfl (PySem.W.codeRec_of KX hcd) (hb _ _ _ _ ?_)
  refine wpAny_newFunctionEnv_cells S.kind (fun y hy => ?_) fun env he s1 x => ?_
  · rcases S.par y.1 (List.of_mem_zip (show (y.1, y.2) ∈ ps.zip us from hy)).1 with q | q
    · exact .inl q
    · exact .inr ⟨q, PySem.W.cellsFrom_some _ _ _ (.inl q)⟩
  subst he
  refine ⟨lim.keeps x.toInCall.keep, codeAny_func ?_⟩
  obtain ⟨t, ht, hq⟩ := hbody cdv A outer s H vs Q E (hr.deeper _) hg hsp
  have I : Inv (cxOf (L2.CX P w) P w K mg base N qual scope f cdv A outer s H E) [] (start N vs) H s1 := inv_start S hr.hd e0 hl r x
  refine wpAny_mono (ht.run [] s1 (start N vs) H _ I hq) (fun fl s' hs => ?_) fun e s' hs => hs
  cases fl with
  | ret u =>
    obtain ⟨v, σ', H', J, rv, q⟩ := hs
    exact ⟨v, H', J.os, J.bare, J.base, J.hok, rv, q⟩
  | next =>
    obtain ⟨σ', H', J, q⟩ := hs
    exact ⟨.non, H', J.os, J.bare, J.base, J.hok, rfl, q⟩
  | brk =>
    obtain ⟨_, _, _, q⟩ := hs
    exact q.elim
  | cont =>
    obtain ⟨_, _, _, q⟩ := hs
    exact q.elim
theorem gu_deeper {A : Around} {env : Env} (h : A.guards = some []) : (A.deeper env).guards = some [] := h
def startD (n : Nat) (ds : List Dat) : DEnv := ds.map Slot.va ++ List.replicate (n - ds.length) .no
theorem iv_start {p : Option Addr} {O : List Addr} {H : Hp} {u : Nat} {N : List Str} {ds : List Dat} {vs : List V} (hO : ∀ a ∈ O, H a ≠ none) (hp : PotOk p O u H) (r : Rps K p (hid O H) ds vs) (hl : vs.length ≤ N.length) :
    Iv K ⟨p, O, H, hid O H⟩ O (startD N.length ds) u (start N vs) H := by
  refine ⟨Ex.refl, fun _ z => z, fun _ z => .inl z, hO, hp, ?_, Same.refl _, fun _ => 0, fun i s hs => ?_, fun i j d e hi hj _ => ?_⟩
  · unfold L2.start startD
    rw [List.length_append, List.length_append, List.length_map, List.length_map, List.length_replicate, List.length_replicate, r.length]
  · unfold startD at hs
    by_cases q : i < ds.length
    · rw [List.getElem?_append_left (by simpa using q), List.getElem?_map] at hs
      cases e : ds[i]? with
      | none => rw [e] at hs; cases hs
      | some d =>
        rw [e] at hs
        cases hs
        obtain ⟨v, e2, rv⟩ := r.get' e
        refine ⟨v, ?_, rv⟩
        unfold L2.start
        rw [List.getElem?_append_left (by rw [List.length_map, ← r.length]; exact q), List.getElem?_map, e2]
        rfl
    · rw [List.getElem?_append_right (by simpa using q), List.getElem?_replicate] at hs
      split at hs
      · cases hs; trivial
      · cases hs
  · exfalso
    unfold startD at hi
    by_cases q : i < ds.length
    · rw [List.getElem?_append_left (by simpa using q), List.getElem?_map] at hi
      cases e : ds[i]? with
      | none => rw [e] at hi; cases hi
      | some d => rw [e] at hi; cases hi
    · rw [List.getElem?_append_right (by simpa using q), List.getElem?_replicate] at hi
      split at hi
      · cases hi
      · cases hi
/-- a def over data -/
theorem okD {name qual : Str} {params : Arguments} {body : List Stmt} {scope : Scope} {dvs : List V} {kws : List (Str × V)} {fd : FuncData} {N ps : List Str} {Fn : DF} (F : FunD K name qual params body scope dvs kws f fd) (S : FnScope N ps scope)
    (len : ∀ ds u Q E, Fn ds u Q E → ds.length = ps.length)
    (hbody : ∀ (cdv : Value) (A : Around) (outer : List Env) (s : Shared) (H : Hp) (E : XK), Room k (A.deeper (envOfC qual scope s.heap.objs.size f cdv)) → A.guards = some [] →
      ∃ m, DSs (cxOf (L2.CX P w) P w K mg base N qual scope f cdv A outer s H E) E body m ∧ ∀ ds u Qd Ed, Fn ds u Qd Ed → m (startD N.length ds) u { nx := fun _ u' => Qd .non u', rt := Qd, ex := Ed }) : FnG P w K mg base (k + 1) f fd ps (spD K Fn) := by
  refine fnG_of F S (fun vs H Q E h => ?_) fun cdv A outer s H vs Q E hr hg h => ?_
  · obtain ⟨p, O, ds, u, Qd, Ed, _, _, r, h, _⟩ := h
    rw [← r.length]; exact len _ _ _ _ h
  · obtain ⟨p, O, ds, u, Qd, Ed, hO, hp, r, h, k1, k2⟩ := h
    obtain ⟨m, hm, hq⟩ := hbody cdv A outer s H E hr hg
    have hl : vs.length ≤ N.length := by
      have e := len _ _ _ _ h
      have := congrArg List.length S.pre
      rw [List.length_take] at this
      rw [← r.length]; omega
    refine ⟨_, hm, ⟨p, O, H, hid O H⟩, O, startD N.length ds, u, { nx := fun _ u' => Qd .non u', rt := Qd, ex := Ed }, iv_start hO hp r hl, fun c d v a u' H' ok hx rr q => k2 c d v a u' H' ok.ext ok.pot hx rr q, hq ds u Qd Ed h, fun O' G' u' σ' H' I q => ?_, fun _ _ _ _ _ _ q => q.elim, fun _ _ _ _ _ _ q => q.elim, fun d v u' H' ok rr q => k1 d v u' H' ok.ext ok.pot rr q⟩
    exact k1 .non .non u' H' I.ok0.ext I.ok0.pot .non q
end

/-- a def that is called by its name, the last arguments (dds) by default -/
structure Cal (P : Program) (w : World) (K : PySem.W.Frag) (mg : Str → Option Value) (base : Heap) (k : Nat) (x : Str) (F : DF) (dds : List Dat) : Prop where
  ex : ∃ (f : Addr) (fd : FuncData) (ps : List Str) (ds : List Value) (dvs : List V), FnG P w K mg base k f fd ps (spD K F) ∧ mg x = some (.ref f) ∧ PySem.W.keepIn K (.ref f) = true ∧ Binds K fd ps ds ∧ Vals dvs ds ∧ ∀ p H, Rps K p H dds dvs
section
variable {X : Cx} {E : XK} {e : Expr} {es : List Expr} {ms : DAM} {pos : Pos} {k : Nat}
theorem run_fnG {f : Addr} {fd : FuncData} {ps : List Str} {sp : Sp} {pins : List (Addr × Obj)} {σ : L2.St} {H : Hp} {s : Shared} {Q : VK} {us ds : List Value} {vs dvs : List V} (F : FnG X.prog X.w X.K X.mg X.base k f fd ps sp) (hr : Room k X.A) (hG : X.A.guards = some []) (hb : Binds X.K fd ps ds) (hd : Vals dvs ds) (hx : Passes (L2.CX X.prog X.w) X E)
    (I : Inv X pins σ H s) (r : Vals vs us) (h : sp (vs ++ dvs) H Q E) : wpAny (model X.prog X.w) X.A (call (.ref f) us) (EP X pins σ Q) X.xe s := by
  have r2 : Vals (vs ++ dvs) (us ++ ds) := r.append hd
  have hl : (us ++ ds).length = ps.length := by rw [← r2.length]; exact F.len _ _ _ _ h
  refine wpAny_call (codeAny_mono (F.run X.A X.stack s H ⟨us, []⟩ (us ++ ds) (vs ++ dvs) Q E hr hG I.env0 (hb s us I.kIn hl) r2 h) fun r s' hq => ?_)
  cases r with
  | error e => exact hx pins σ H s e s' I hq
  | ok fl =>
    cases fl with
    | ret u => exact I.after hq
    | next => exact hq.elim
    | brk => exact hq.elim
    | cont => exact hq.elim
theorem pe_callG {f : Addr} {fd : FuncData} {ps : List Str} {sp : Sp} {x : Str} {p : Pos} {ds : List Value} {dvs : List V} {t : TA} (F : FnG X.prog X.w X.K X.mg X.base k f fd ps sp) (hr : Room k X.A) (hG : X.A.guards = some []) (hg : Gl X x) (hm : X.mg x = some (.ref f)) (hk : PySem.W.keepIn X.K (.ref f) = true) (hb : Binds X.K fd ps ds) (hd : Vals dvs ds) (hx : Passes (L2.CX X.prog X.w) X E)
    (ha : PA X (e :: es) t) (hdb : (x == ("__debug__" : Str)) = false) (he : starEach (e :: es) X.env = (false, eval e X.env) :: starEach es X.env) (hpl : (backTo pos (starEach es X.env)).any (·.1) = false) :
    PE X (.Call (.Name x p) (e :: es) [] pos) (tCall sp dvs E t) := by
  refine ⟨fun pins s σ H Q I h => wpAny_Call_Name_kw (ld_glob I hg hm ?_ hdb)⟩
  exact PySem.W.callWith_K (h₀ := X.base) I.ok.mod.kin hk (thn (ha.run pos pins s σ H _ I h) fun us s1 ⟨vs, H1, I1, r, q⟩ => ⟨I1.kIn, run_fnG F hr hG hb hd hx I1 r q⟩) he hpl
/-- in a def's own frame errors are let out; in a comprehension's none is raised -/
theorem passD {P : Program} {w : World} {K : PySem.W.Frag} {mg : Str → Option Value} {base : Heap} {N : List Str} {qual : Str} {scope : Scope} {f : Addr} {cdv : Value} {A : Around} {outer : List Env} {s : Shared} {H : Hp} {E : XK} :
    Passes (L2.CX P w) (cxOf (L2.CX P w) P w K mg base N qual scope f cdv A outer s H E) E := passes_call (W := fun cls d _ H => E cls d H) (takes_of rfl rfl rfl rfl) fun _ _ _ _ h => h
theorem pass0X {P : Program} {w : World} {X : Cx} : Passes (L2.CX P w) X E0 := fun _ _ _ _ _ _ _ c => by
  obtain ⟨_, _, _, _, _, _, _, _, _, _, _, _, z⟩ := c
  exact z.elim
theorem de_cal {F : DF} {dds : List Dat} {x : Str} {p : Pos} (h : Cal X.prog X.w X.K X.mg X.base k x F dds) (hr : Room k X.A) (hG : X.A.guards = some []) (ha : DA X E (e :: es) ms) (hx : Passes (L2.CX X.prog X.w) X E := by first | exact passD | exact pass0X)
    (hg : Gl X x := by rfl) (hdb : (x == ("__debug__" : Str)) = false := by decide) (he : starEach (e :: es) X.env = (false, eval e X.env) :: starEach es X.env := by rfl) (hpl : (backTo pos (starEach es X.env)).any (·.1) = false := by rfl) :
    DE X E (.Call (.Name x p) (e :: es) [] pos) (dCall F dds ms) := by
  obtain ⟨f, fd, ps, ds, dvs, FO, hm, hk, hb, hd, hdd⟩ := h.ex
  refine pe_weak (pe_callG FO hr hG hg hm hk hb hd hx ha hdb he hpl) fun σ H Q h => ?_
  obtain ⟨C, O, G, u, Qd, Ed, I, ek, hm, k⟩ := h
  refine ⟨C, O, G, u, _, Ed, I, ek, hm, fun xs vs u1 H1 I1 e1 r1 h1 => ?_⟩
  exact sp_of I1 ek (r1.app (hdd _ _)) h1 fun d v u' H' I2 e2 rr q => k d v u' H' I2 (e1.trans e2) rr q
end
end DL

set_option Elab.async false
set_option linter.all false
set_option maxRecDepth 100000
set_option maxHeartbeats 1000000
namespace DL
open PySem PySem.Spec PyProof.Rows L2

/-! ### data as the library's data -/
def keyPy : Key → PyData
  | .inl i => .int i
  | .inr x => .str x
mutual
def Dat.toPy : Dat → PyData
  | .bl b => .bool b
  | .int i => .int i
  | .str x => .str x
  | .tup xs => .tuple (toPys xs)
  | .lst xs => .list (toPys xs)
  | .dct kvs => .dict (toPyk kvs)
  | .non => .none
  | .exc _ _ => .none
  | .obj _ _ => .none
  | .pot => .none
  | .raw _ => .none
def toPys : List Dat → List PyData
  | [] => []
  | d :: ds => d.toPy :: toPys ds
def toPyk : List (Key × Dat) → List (PyData × PyData)
  | [] => []
  | (k, d) :: r => (keyPy k, d.toPy) :: toPyk r
end
mutual
def Dat.plain : Dat → Bool
  | .non => true
  | .bl _ => true
  | .int _ => true
  | .str _ => true
  | .tup xs => plainAll xs
  | .lst xs => plainAll xs
  | _ => false
def plainAll : List Dat → Bool
  | [] => true
  | d :: ds => d.plain && plainAll ds
end
section
variable {K : PySem.W.Frag} {p : Option Addr} {H : Hp}
mutual
theorem Rp.dp : ∀ {d : Dat} {v : V}, d.plain = true → Rp K p H d v → Dp K H v d.toPy
  | _, _, _, .non => by rw [Dat.toPy]; exact .non
  | _, _, _, .bl b => by rw [Dat.toPy]; exact .bl b
  | _, _, _, .int i => by rw [Dat.toPy]; exact .int i
  | _, _, _, .str x => by rw [Dat.toPy]; exact .str x
  | _, _, q, .tup h r => by
    rw [Dat.toPy]
    rw [Dat.plain] at q
    exact .tup (SqT.of h) (Rps.dp q r)
  | _, _, q, .lst h r => by
    rw [Dat.toPy]
    rw [Dat.plain] at q
    exact .lst (SqL.of h) (Rps.dp q r)
  | _, _, q, .dct _ _ => by simp [Dat.plain] at q
  | _, _, q, .exc _ _ _ => by simp [Dat.plain] at q
  | _, _, q, .obj _ _ => by simp [Dat.plain] at q
  | _, _, q, .pot _ => by simp [Dat.plain] at q
  | _, _, q, .raw _ => by simp [Dat.plain] at q
theorem Rps.dp : ∀ {ds : List Dat} {vs : List V}, plainAll ds = true → Rps K p H ds vs → DpAll K H vs (toPys ds)
  | _, _, _, .nil => by rw [toPys]; exact .nil
  | _, _, q, .cons h r => by
    rw [toPys]
    rw [plainAll, Bool.and_eq_true] at q
    exact .cons (Rp.dp q.1 h) (Rps.dp q.2 r)
end
end
/-- data that == takes at any depth -/
def Dat.fit (d : Dat) : Bool := d.plain && SeqAt.shaped d.toPy
def eqvD (x y : Dat) : Bool := PyData.eqv x.toPy y.toPy
/-- two scalars that are compared at once -/
def scalD : Dat → Dat → Bool
  | .non, .non => true | .non, .int _ => true | .int _, .non => true | .non, .bl _ => true | .bl _, .non => true | .non, .str _ => true | .str _, .non => true
  | .int _, .int _ => true | .bl _, .bl _ => true | .str _, .str _ => true
  | .int _, .str _ => true | .str _, .int _ => true | .bl _, .str _ => true | .str _, .bl _ => true
  | _, _ => false
def eqD : Dat → Dat → (Dat → Prop) → Prop := fun x y q => (scalD x y || (x.fit && y.fit)) = true ∧ q (.bl (eqvD x y))
def neD : Dat → Dat → (Dat → Prop) → Prop := fun x y q => (scalD x y || (x.fit && y.fit)) = true ∧ q (.bl (!eqvD x y))
theorem fit_of {d : Dat} (h : d.fit = true) : d.plain = true ∧ SeqAt.shaped d.toPy = true := by
  unfold Dat.fit at h
  rwa [Bool.and_eq_true] at h
theorem scal_ok {K : PySem.W.Frag} {p : Option Addr} {H : Hp} {x y : Dat} {v w : V} (h : scalD x y = true) (rx : Rp K p H x v) (ry : Rp K p H y w) : scal v w = true ∧ decide (v = w) = eqvD x y := by
  cases rx <;> cases ry <;> first
    | (exfalso; exact Bool.noConfusion h)
    | (refine ⟨rfl, ?_⟩; simp only [eqvD, Dat.toPy, PyData.eqv, dec_int, dec_bl, dec_str]; done)
    | (refine ⟨rfl, ?_⟩; simp only [eqvD, Dat.toPy, PyData.eqv]; rfl)
    | (refine ⟨rfl, ?_⟩; simp [eqvD, Dat.toPy, PyData.eqv]; done)
variable {X : Cx}
theorem op_eqU (hu : X.A.units + 64 < cLine) : OpR X (compareOp .Eq) (fun x y H Q => rEq x y H Q ∨ rEqD X.K x y H Q) := op_eq.or (op_eqD hu)
theorem op_neU (hu : X.A.units + 64 < cLine) : OpR X (compareOp .NotEq) (fun x y H Q => rNe x y H Q ∨ rNeD X.K x y H Q) := op_ne.or (op_neD hu)
theorem snd_eq {K : PySem.W.Frag} : Snd2 K (fun x y H Q => rEq x y H Q ∨ rEqD K x y H Q) eqD := fun p O H x y v w q Q hO rx ry h k => by
  obtain ⟨h1, h2⟩ := h
  rcases Bool.or_eq_true_iff.mp h1 with z | z
  · obtain ⟨s1, s2⟩ := scal_ok z rx ry
    exact .inl ⟨s1, by rw [s2]; exact k _ _ H (Same.refl _) (.bl _) h2⟩
  · rw [Bool.and_eq_true] at z
    obtain ⟨a1, a2⟩ := fit_of z.1
    obtain ⟨b1, b2⟩ := fit_of z.2
    exact .inr ⟨_, _, (rx.mono hid_le).dp a1, (ry.mono hid_le).dp b1, a2, b2, k _ _ H (Same.refl _) (.bl _) h2⟩
theorem snd_ne {K : PySem.W.Frag} : Snd2 K (fun x y H Q => rNe x y H Q ∨ rNeD K x y H Q) neD := fun p O H x y v w q Q hO rx ry h k => by
  obtain ⟨h1, h2⟩ := h
  rcases Bool.or_eq_true_iff.mp h1 with z | z
  · obtain ⟨s1, s2⟩ := scal_ok z rx ry
    exact .inl ⟨s1, by rw [s2]; exact k _ _ H (Same.refl _) (.bl _) h2⟩
  · rw [Bool.and_eq_true] at z
    obtain ⟨a1, a2⟩ := fit_of z.1
    obtain ⟨b1, b2⟩ := fit_of z.2
    exact .inr ⟨_, _, (rx.mono hid_le).dp a1, (ry.mono hid_le).dp b1, a2, b2, k _ _ H (Same.refl _) (.bl _) h2⟩

/-! ### + -/
def addD : Dat → Dat → (Dat → Prop) → Prop
  | .int i, .int j, q => q (.int (i + j))
  | .str x, .str y, q => x.length + y.length ≤ sizeLine ∧ q (.str (x ++ y))
  | .lst xs, .lst ys, q => xs.length + ys.length ≤ sizeLine ∧ q (.lst (xs ++ ys))
  | .tup xs, .tup ys, q => xs.length + ys.length ≤ sizeLine ∧ q (.tup (xs ++ ys))
  | _, _, _ => False
def rAddU (K : PySem.W.Frag) : R2 := fun x y H Q => rI0 (fun i j => .int (i + j)) x y H Q ∨ (∃ i j, x = .str i ∧ y = .str j ∧ i.length + j.length ≤ sizeLine ∧ Q (.str (i ++ j)) H) ∨ rCat x y H Q ∨ rCatA K x y H Q
theorem op_addU : OpR X (binaryOp .Add) (rAddU X.K) := op_add.or (op_add_str.or (op_cat.or op_catA))
theorem snd_add {K : PySem.W.Frag} : Snd2 K (rAddU K) addD := fun p O H x y v w q Q hO rx ry h k => by
  cases rx with
  | int i =>
    cases ry with
    | int j => exact .inl ⟨i, j, rfl, rfl, k _ _ H (Same.refl _) (.int _) h⟩
    | _ => exact h.elim
  | str i =>
    cases ry with
    | str j => exact .inr (.inl ⟨i, j, rfl, rfl, h.1, k _ _ H (Same.refl _) (.str _) h.2⟩)
    | _ => exact h.elim
  | @lst a vs xs ha ra =>
    cases ry with
    | @lst b ws ys hb rb =>
      refine .inr (.inr (.inl ⟨a, b, vs, ws, rfl, rfl, hid_le _ _ ha, hid_le _ _ hb, by rw [← ra.length, ← rb.length]; exact h.1, fun p hp => ?_⟩))
      exact k _ _ _ (same_new hp) (.lst (hid_new hO hp) ((ra.app rb).mono (hid_same (same_new hp)))) h.2
    | _ => exact h.elim
  | @tup a vs xs ha ra =>
    cases ry with
    | @tup b ws ys hb rb =>
      have e1 := ra.length
      have e2 := rb.length
      refine .inr (.inr (.inr ⟨a, b, vs, ws, rfl, rfl, SqT.of (hid_le _ _ ha), SqT.of (hid_le _ _ hb), by rw [← e1, ← e2]; exact h.1, fun z => ?_, fun _ z => ?_, fun _ _ p hp => ?_⟩))
      · subst z
        cases ra
        exact k _ _ _ (Same.refl _) (.tup hb rb) h.2
      · subst z
        cases rb
        have h2 := h.2
        rw [List.append_nil] at h2
        exact k _ _ _ (Same.refl _) (.tup ha ra) h2
      · exact k _ _ _ (same_new hp) (.tup (hid_new hO hp) ((ra.app rb).mono (hid_same (same_new hp)))) h.2
    | _ => exact h.elim
  | _ => exact h.elim

/-! ### ints -/
def intD (f : Int → Int → Dat) : Dat → Dat → (Dat → Prop) → Prop
  | .int i, .int j, q => q (f i j)
  | _, _, _ => False
def intC (c : Int → Int → Prop) (f : Int → Int → Dat) : Dat → Dat → (Dat → Prop) → Prop
  | .int i, .int j, q => c i j ∧ q (f i j)
  | _, _, _ => False
theorem snd_i0 {K : PySem.W.Frag} {g : Int → Int → V} {f : Int → Int → Dat} (h : ∀ i j p H, Rp K p H (f i j) (g i j)) : Snd2 K (rI0 g) (intD f) := fun p O H x y v w q Q hO rx ry hq k => by
  cases rx with
  | int i =>
    cases ry with
    | int j => exact ⟨i, j, rfl, rfl, k _ _ H (Same.refl _) (h i j _ _) hq⟩
    | _ => exact hq.elim
  | _ => exact hq.elim
theorem snd_iC {K : PySem.W.Frag} {c : Int → Int → Prop} {g : Int → Int → V} {f : Int → Int → Dat} (h : ∀ i j p H, Rp K p H (f i j) (g i j)) : Snd2 K (rI c g) (intC c f) := fun p O H x y v w q Q hO rx ry hq k => by
  cases rx with
  | int i =>
    cases ry with
    | int j => exact ⟨i, j, rfl, rfl, hq.1, k _ _ H (Same.refl _) (h i j _ _) hq.2⟩
    | _ => exact hq.elim
  | _ => exact hq.elim
section
variable {E : XK} {a b c : Expr} {ma mb mc : DM} {pos : Pos} {e : Expr} {es : List Expr} {ms : DAM} {m : DM}
theorem de_add (ha : DE X E a ma) (hb : DE X E b mb) : DE X E (.BinOp a .Add b pos) (dOp addD ma mb) := de_bin op_addU snd_add ha hb
theorem de_sub (ha : DE X E a ma) (hb : DE X E b mb) : DE X E (.BinOp a .Sub b pos) (dOp (intD fun i j => .int (i - j)) ma mb) := de_bin op_sub (snd_i0 fun _ _ _ _ => .int _) ha hb
theorem de_mod (ha : DE X E a ma) (hb : DE X E b mb) : DE X E (.BinOp a .Mod b pos) (dOp (intC (fun _ j => 0 < j) fun i j => .int (i % j)) ma mb) := de_bin op_mod (snd_iC fun _ _ _ _ => .int _) ha hb
theorem de_pow (ha : DE X E a ma) (hb : DE X E b mb) : DE X E (.BinOp a .Pow b pos) (dOp (intC CPow fun i j => .int (i ^ j.toNat)) ma mb) := de_bin op_pow (snd_iC fun _ _ _ _ => .int _) ha hb
abbrev ltF := intD fun i j => .bl (decide (i < j))
abbrev leF := intD fun i j => .bl (decide (i ≤ j))
abbrev gtF := intD fun i j => .bl (decide (j < i))
abbrev geF := intD fun i j => .bl (decide (j ≤ i))
theorem de_lt (ha : DE X E a ma) (hb : DE X E b mb) : DE X E (.Compare a [.Lt] [b] pos) (dOp ltF ma mb) := de_cmp op_lt (snd_i0 fun _ _ _ _ => .bl _) ha hb (nomark _)
theorem de_le (ha : DE X E a ma) (hb : DE X E b mb) : DE X E (.Compare a [.LtE] [b] pos) (dOp leF ma mb) := de_cmp op_le (snd_i0 fun _ _ _ _ => .bl _) ha hb (nomark _)
theorem de_gt (ha : DE X E a ma) (hb : DE X E b mb) : DE X E (.Compare a [.Gt] [b] pos) (dOp gtF ma mb) := de_cmp op_gt (snd_i0 fun _ _ _ _ => .bl _) ha hb (nomark _)
theorem de_ge (ha : DE X E a ma) (hb : DE X E b mb) : DE X E (.Compare a [.GtE] [b] pos) (dOp geF ma mb) := de_cmp op_ge (snd_i0 fun _ _ _ _ => .bl _) ha hb (nomark _)
theorem de_eq (hu : X.A.units + 64 < cLine) (ha : DE X E a ma) (hb : DE X E b mb) : DE X E (.Compare a [.Eq] [b] pos) (dOp eqD ma mb) := de_cmp (op_eqU hu) snd_eq ha hb (nomark _)
theorem de_ne (hu : X.A.units + 64 < cLine) (ha : DE X E a ma) (hb : DE X E b mb) : DE X E (.Compare a [.NotEq] [b] pos) (dOp neD ma mb) := de_cmp (op_neU hu) snd_ne ha hb (nomark _)
theorem dt_lt (ha : DE X E a ma) (hb : DE X E b mb) : DT X E (.Compare a [.Lt] [b] pos) (dTest (dOp ltF ma mb)) := dt_cmp op_lt (snd_i0 fun _ _ _ _ => .bl _) ha hb (nomark _)
theorem dt_le (ha : DE X E a ma) (hb : DE X E b mb) : DT X E (.Compare a [.LtE] [b] pos) (dTest (dOp leF ma mb)) := dt_cmp op_le (snd_i0 fun _ _ _ _ => .bl _) ha hb (nomark _)
theorem dt_gt (ha : DE X E a ma) (hb : DE X E b mb) : DT X E (.Compare a [.Gt] [b] pos) (dTest (dOp gtF ma mb)) := dt_cmp op_gt (snd_i0 fun _ _ _ _ => .bl _) ha hb (nomark _)
theorem dt_ge (ha : DE X E a ma) (hb : DE X E b mb) : DT X E (.Compare a [.GtE] [b] pos) (dTest (dOp geF ma mb)) := dt_cmp op_ge (snd_i0 fun _ _ _ _ => .bl _) ha hb (nomark _)
theorem dt_eq (hu : X.A.units + 64 < cLine) (ha : DE X E a ma) (hb : DE X E b mb) : DT X E (.Compare a [.Eq] [b] pos) (dTest (dOp eqD ma mb)) := dt_cmp (op_eqU hu) snd_eq ha hb (nomark _)
theorem dt_ne (hu : X.A.units + 64 < cLine) (ha : DE X E a ma) (hb : DE X E b mb) : DT X E (.Compare a [.NotEq] [b] pos) (dTest (dOp neD ma mb)) := dt_cmp (op_neU hu) snd_ne ha hb (nomark _)

/-! ### is None -/
def isN (d : Dat) : Bool := match d with
  | .non => true
  | _ => false
def isND : Dat → Dat → (Dat → Prop) → Prop := fun x y q => match x, y with
  | .raw _, _ => False
  | x, .non => q (.bl (isN x))
  | _, _ => False
def notND : Dat → Dat → (Dat → Prop) → Prop := fun x y q => match x, y with
  | .raw _, _ => False
  | x, .non => q (.bl (!isN x))
  | _, _ => False
theorem snd_isN {K : PySem.W.Frag} : Snd2 K (fun x y H Q => y = .non ∧ Q (.bl (decide (x = .non))) H) isND := fun p O H x y v w q Q hO rx ry h k => by
  cases rx <;> cases ry <;> first
    | exact h.elim
    | exact ⟨rfl, k _ _ H (Same.refl _) (.bl _) h⟩
theorem snd_notN {K : PySem.W.Frag} : Snd2 K (fun x y H Q => y = .non ∧ Q (.bl (!decide (x = .non))) H) notND := fun p O H x y v w q Q hO rx ry h k => by
  cases rx <;> cases ry <;> first
    | exact h.elim
    | exact ⟨rfl, k _ _ H (Same.refl _) (.bl _) h⟩
theorem de_isN (ha : DE X E a ma) (hb : DE X E b mb) : DE X E (.Compare a [.Is] [b] pos) (dOp isND ma mb) := de_cmp op_isN snd_isN ha hb (nomark _)
theorem de_notN (ha : DE X E a ma) (hb : DE X E b mb) : DE X E (.Compare a [.IsNot] [b] pos) (dOp notND ma mb) := de_cmp op_notN snd_notN ha hb (nomark _)
theorem dt_isN (ha : DE X E a ma) (hb : DE X E b mb) : DT X E (.Compare a [.Is] [b] pos) (dTest (dOp isND ma mb)) := dt_cmp op_isN snd_isN ha hb (nomark _)
theorem dt_notN (ha : DE X E a ma) (hb : DE X E b mb) : DT X E (.Compare a [.IsNot] [b] pos) (dTest (dOp notND ma mb)) := dt_cmp op_notN snd_notN ha hb (nomark _)

/-! ### subscripts -/
def keyOf : Dat → Option Key
  | .int i => some (.inl i)
  | .str x => some (.inr x)
  | _ => none
def dlook (kvs : List (Key × Dat)) (k : Key) : Option Dat := (kvs.find? fun kv => decide (kv.1 = k)).map (·.2)
theorem Rpk.look {K : PySem.W.Frag} {p : Option Addr} {H : Hp} {k : Key} {d : Dat} : ∀ {ds : List (Key × Dat)} {kvs : List (Key × V)}, Rpk K p H ds kvs → dlook ds k = some d → ∃ v, valV kvs k = some v ∧ Rp K p H d v
  | _, _, .nil, h => by simp [dlook] at h
  | _, _, .cons (k := k') r rr, h => by
    unfold dlook at h
    unfold valV
    rw [List.find?_cons] at h ⊢
    by_cases q : k' = k
    · have e : decide (k' = k) = true := decide_eq_true q
      simp only [e] at h ⊢
      cases h
      exact ⟨_, rfl, r⟩
    · have e : decide (k' = k) = false := decide_eq_false q
      simp only [e] at h ⊢
      exact Rpk.look rr h
theorem keyOf_ok {K : PySem.W.Frag} {p : Option Addr} {H : Hp} {d : Dat} {v : V} {k : Key} (r : Rp K p H d v) (h : keyOf d = some k) : v = kV k := by
  cases r with
  | int i => cases h; rfl
  | str x => cases h; rfl
  | _ => cases h
def ixD : Dat → Dat → (Dat → Prop) → Prop
  | .lst xs, .int i, q => opt (atI xs i) q
  | .tup xs, .int i, q => opt (atI xs i) q
  | .str x, .int i, q => x.length ≤ sizeLine ∧ opt (atI x.cps.toList i) fun c => q (.str ⟨#[c]⟩)
  | .dct kvs, k, q => opt (keyOf k) fun k => opt (dlook kvs k) q
  | _, _, _ => False
def rIxD : R2 := fun x y H Q => ∃ a v, x = .ref a ∧ DGet H a y (some v) ∧ Q v H
theorem ix_dict (hu : X.A.units + 1 < cLine) : IxR X rIxD := by
  intro value slice pins s σ H x y v u Q I rx ry h hs
  obtain ⟨a, z, rfl, g, q⟩ := h
  cases rx
  have hT := dict_typeIs I g
  unfold subscriptTail
  refine wpAny_bind ?_
  rw [getitemInPython_of_ne hT.not_modules]
  refine wpAny_bind (wpAny_specialOf hT PySem.F.slot_dict_getitem.lookup ?_)
  have fin : wpAny (model X.prog X.w) X.A (subscripted slice false (.ref a) u) (fun r s3 => wpAny (model X.prog X.w) X.A (letTemporaryGo value (.ref a) r >>= fun _ => pure r) (EP X pins σ Q) X.xe s3) X.xe s := by
    rw [hs]
    exact wpAny_operating (d_getItem hu I g ry fun w' s3 I3 rw' => wpAny_bind (wpAny_letTemporaryGo (wpAny_pure ⟨z, H, I3, rw', q⟩)))
  first
    | exact wpAny_pure (wpAny_bind fin)
    | exact wpAny_bind fin
def rIxU (K : PySem.W.Frag) : R2 := fun x y H Q => rIx K x y H Q ∨ rIxD x y H Q
theorem atI_map {K : PySem.W.Frag} {p : Option Addr} {H : Hp} {ds : List Dat} {vs : List V} {i : Int} {d : Dat} (r : Rps K p H ds vs) (h : atI ds i = some d) : ∃ v, atI vs i = some v ∧ Rp K p H d v := by
  unfold atI at h ⊢
  rw [← r.length]
  cases e : ixN ds.length i with
  | none => rw [e] at h; cases h
  | some j =>
    rw [e] at h
    obtain ⟨v, hv, rv⟩ := r.get' (show ds[j]? = some d from h)
    exact ⟨v, hv, rv⟩
theorem snd_ix {K : PySem.W.Frag} : Snd2 K (rIxU K) ixD := fun p O H x y v w q Q hO rx ry h k => by
  cases rx with
  | @lst a vs xs ha ra =>
    cases ry with
    | int i =>
      obtain ⟨d, e, hq⟩ := opt_some h
      obtain ⟨z, ez, rz⟩ := atI_map ra e
      exact .inl (.inl ⟨a, vs, i, z, rfl, rfl, SqL.of (hid_le _ _ ha), ez, k _ _ H (Same.refl _) rz hq⟩)
    | _ => exact h.elim
  | @tup a vs xs ha ra =>
    cases ry with
    | int i =>
      obtain ⟨d, e, hq⟩ := opt_some h
      obtain ⟨z, ez, rz⟩ := atI_map ra e
      exact .inl (.inr (.inl ⟨a, vs, i, z, rfl, rfl, SqT.of (hid_le _ _ ha), ez, k _ _ H (Same.refl _) rz hq⟩))
    | _ => exact h.elim
  | str x =>
    cases ry with
    | int i =>
      obtain ⟨hl, h⟩ := h
      obtain ⟨c, e, hq⟩ := opt_some h
      exact .inl (.inr (.inr ⟨x, i, c, rfl, rfl, hl, e, k _ _ H (Same.refl _) (.str _) hq⟩))
    | _ => exact h.elim
  | @dct a kvs ds ha ra =>
    have h2 : opt (keyOf y) fun k => opt (dlook ds k) q := by cases y <;> exact h
    obtain ⟨ky, ek, h3⟩ := opt_some h2
    obtain ⟨d, ed, hq⟩ := opt_some h3
    obtain ⟨z, ez, rz⟩ := ra.look ed
    have ew := keyOf_ok ry ek
    subst ew
    exact .inr ⟨a, z, rfl, by rw [← ez]; exact DGet.k (hid_le _ _ ha), k _ _ H (Same.refl _) rz hq⟩
  | _ => cases y <;> exact h.elim
theorem de_sub1 (hu : X.A.units + 1 < cLine) (ha : DE X E a ma) (hb : DE X E b mb) (hp : PlainIx b := by exact fun _ _ => rfl) : DE X E (.Subscript a b pos) (dOp ixD ma mb) := de_ix (ix_seq.or (ix_dict hu)) snd_ix ha hb hp

end
end DL

set_option Elab.async false
set_option linter.all false
set_option maxRecDepth 100000
set_option maxHeartbeats 1000000
namespace DL
open PySem PySem.Spec PyProof.Rows L2

/-! ### repr -/
mutual
def Dat.data : Dat → Bool
  | .non => true
  | .bl _ => true
  | .int _ => true
  | .str _ => true
  | .tup xs => dataAll xs
  | .lst xs => dataAll xs
  | .dct kvs => dataKv kvs
  | .exc _ _ => false
  | .obj _ _ => false
  | .pot => false
  | .raw _ => false
def dataAll : List Dat → Bool
  | [] => true
  | d :: ds => d.data && dataAll ds
def dataKv : List (Key × Dat) → Bool
  | [] => true
  | (_, d) :: ds => d.data && dataKv ds
end
section
variable {X : Cx} {pins : List (Addr × Obj)} {σ : L2.St} {H : Hp} {s : Shared} {p : Option Addr}
theorem app_tr {as bs : List Addr} (h1 : ∀ a ∈ as, H a ≠ none) (h2 : ∀ a ∈ bs, H a ≠ none) : ∀ a ∈ as ++ bs, H a ≠ none := fun a ha => by
  rcases List.mem_append.mp ha with z | z
  · exact h1 a z
  · exact h2 a z
theorem key_reads {k : Key} {v : Value} (h : keyIs k v = true) : Reads s.heap v (keyPy k) [] := by
  rcases keyIs_shape h with ⟨i, t, rfl, rfl⟩ | ⟨x, t, rfl, rfl⟩
  · exact .int i t
  · exact .str x t
mutual
theorem Rp.reads (I : Inv X pins σ H s) : ∀ {d : Dat} {v : V} {u : Value}, d.data = true → Rp X.K p H d v → RelV v u → ∃ as, Reads s.heap u d.toPy as ∧ ∀ a ∈ as, H a ≠ none
  | _, _, _, _, .non, r => by cases r; rw [Dat.toPy]; exact ⟨[], .none, fun _ z => nomatch z⟩
  | _, _, _, _, .bl b, r => by cases r; rw [Dat.toPy]; exact ⟨[], .bool b, fun _ z => nomatch z⟩
  | _, _, _, _, .int i, r => by obtain ⟨t, rfl⟩ := r; rw [Dat.toPy]; exact ⟨[], .int i t, fun _ z => nomatch z⟩
  | _, _, _, _, .str x, r => by obtain ⟨t, rfl⟩ := r; rw [Dat.toPy]; exact ⟨[], .str x t, fun _ z => nomatch z⟩
  | _, _, _, q, .tup h rr, r => by
    cases r
    rw [Dat.data] at q
    rw [Dat.toPy]
    obtain ⟨its, rv, ⟨o, ho, hc, n, hd⟩, _⟩ := I.tuple (SqT.of h)
    obtain ⟨as, hr, ha⟩ := Rps.reads I q rr rv
    exact ⟨_, .tuple ho hc hd hr, ha⟩
  | _, _, _, q, .lst (a := a) h rr, r => by
    cases r
    rw [Dat.data] at q
    rw [Dat.toPy]
    obtain ⟨its, rv, ⟨o, n, ho, hc, _, hd⟩, _⟩ := I.list (SqL.of h)
    obtain ⟨as, hr, ha⟩ := Rps.reads I q rr rv
    refine ⟨_, .list ho hc hd hr, fun b hb => ?_⟩
    rcases List.mem_cons.mp hb with rfl | hb
    · rw [h]; exact fun z => nomatch z
    · exact ha b hb
  | _, _, _, q, .dct (a := a) h rr, r => by
    cases r
    rw [Dat.data] at q
    rw [Dat.toPy]
    obtain ⟨_, _, vs, rel, o, es, ep, ho, hx, hd, _, hp, _⟩ := I.hok a _ h
    obtain ⟨as, bs, h1, h2, h3, h4⟩ := Rpk.reads I q rr rel hp
    refine ⟨_, .dict ho hx.1 hd h1 h2, ?_⟩
    refine app_tr (fun b hb => ?_) h4
    rcases List.mem_cons.mp hb with rfl | hb
    · rw [h]; exact fun z => nomatch z
    · exact h3 b hb
  | _, _, _, q, .exc _ _ _, _ => by simp [Dat.data] at q
  | _, _, _, q, .obj _ _, _ => by simp [Dat.data] at q
  | _, _, _, q, .pot _, _ => by simp [Dat.data] at q
  | _, _, _, q, .raw _, _ => by simp [Dat.data] at q
theorem Rps.reads (I : Inv X pins σ H s) : ∀ {ds : List Dat} {vs : List V} {us : List Value}, dataAll ds = true → Rps X.K p H ds vs → Vals vs us → ∃ as, ReadsAll s.heap us (toPys ds) as ∧ ∀ a ∈ as, H a ≠ none
  | _, _, _, _, .nil, r => by cases r; rw [toPys]; exact ⟨[], .nil, fun _ z => nomatch z⟩
  | _, _, _, q, .cons h rr, r => by
    rw [dataAll, Bool.and_eq_true] at q
    rw [toPys]
    cases r with
    | cons r1 r2 =>
      obtain ⟨as, h1, h2⟩ := Rp.reads I q.1 h r1
      obtain ⟨bs, h3, h4⟩ := Rps.reads I q.2 rr r2
      exact ⟨_, .cons h1 h3, app_tr h2 h4⟩
theorem Rpk.reads (I : Inv X pins σ H s) : ∀ {ds : List (Key × Dat)} {kvs : List (Key × V)} {vs : List (Key × Value)} {es : List DictEntry}, dataKv ds = true → Rpk X.K p H ds kvs → KV kvs vs → Pairs (mixKind X.prog X.w) es vs →
    ∃ as bs, ReadsAll s.heap (es.map (·.key)) ((toPyk ds).map (·.1)) as ∧ ReadsAll s.heap (es.map (·.val)) ((toPyk ds).map (·.2)) bs ∧ (∀ a ∈ as, H a ≠ none) ∧ ∀ a ∈ bs, H a ≠ none
  | _, _, _, _, _, .nil, r, hp => by
    cases r
    cases hp
    rw [toPyk]
    exact ⟨[], [], .nil, .nil, (fun _ z => nomatch z), fun _ z => nomatch z⟩
  | (k, _) :: _, (_, _) :: _, _, _, q, .cons h rr, r, hp => by
    rw [dataKv, Bool.and_eq_true] at q
    rw [toPyk]
    cases r with
    | cons r1 r2 =>
      cases hp with
      | cons k1 k2 hp =>
        obtain ⟨as, h1, h2⟩ := Rp.reads I q.1 h r1.2
        obtain ⟨bs, cs, h3, h4, h5, h6⟩ := Rpk.reads I q.2 rr r2 hp
        have k3 := k1
        rw [mixKind_is, ← r1.1] at k3
        rw [← k2] at h1
        exact ⟨_, _, .cons (key_reads k3) h3, .cons h1 h4, app_tr (fun _ z => nomatch z) h5, app_tr h2 h6⟩
end
theorem tr_nosys (I : Inv X pins σ H s) (hS : X.K.lookup sysModules ≠ none) {as : List Addr} (h : ∀ a ∈ as, H a ≠ none) : sysModules ∉ as := fun z => by
  cases e : X.K.lookup sysModules with
  | none => exact hS e
  | some o => exact h _ z (I.bs _ _ (I.ok.mod.kin _ _ e)).2
end
def reprD : List Dat → (Dat → Prop) → Prop
  | [d], q => d.data = true ∧ d.toPy.showable = true ∧ d.toPy.depth ≤ 60 ∧ d.toPy.shown.length ≤ sizeLine ∧ q (.str d.toPy.shown)
  | _, _ => False
def rRepr (K : PySem.W.Frag) : List V → Hp → VK → Prop := fun vs H Q => ∃ (p : Option Addr) (d : Dat) (v : V), vs = [v] ∧ Rp K p H d v ∧ d.data = true ∧ d.toPy.showable = true ∧ d.toPy.depth ≤ 60 ∧ d.toPy.shown.length ≤ sizeLine ∧ Q (.str d.toPy.shown) H
theorem call_repr {X : Cx} (hG : X.A.guards = some []) (hu : X.A.units + 64 < cLine) (hS : X.K.lookup sysModules ≠ none) : CallR X (.builtin "repr") (rRepr X.K) := by
  intro pins s σ H xs us Q I r h
  obtain ⟨p, d, v, rfl, rp, h1, h2, h3, h4, q⟩ := h
  obtain ⟨u, rfl, rv⟩ := vals1 r
  obtain ⟨as, hr, ha⟩ := rp.reads I h1 rv
  have fin : ∀ h' u tk, (∀ b o, s.heap.get? b = some o → h'.get? b = some o) → EP X pins σ Q (.str d.toPy.shown u) { s with heap := h', toks := tk } := fun h' u tk hk => ⟨.str _, H, I.kept hk, ⟨u, rfl⟩, q⟩
  have fin0 : ∀ tk, EP X pins σ Q (.str d.toPy.shown s.toks) { s with toks := tk } := fun tk => ⟨.str _, H, I.tok tk, ⟨_, rfl⟩, q⟩
  cases rp with
  | non =>
    cases rv
    rw [Dat.toPy, PyData.shown] at fin0
    exact PySem.P.repr_of_none (fin0 _)
  | bl b =>
    cases rv
    rw [Dat.toPy, PyData.shown] at fin0
    exact PySem.P.repr_of_bool (fin0 _)
  | int i =>
    obtain ⟨t, rfl⟩ := rv
    rw [Dat.toPy, PyData.shown] at fin0
    rw [Dat.toPy, PyData.showable] at h2
    exact PySem.P.repr_of_int (of_decide_eq_true h2) (fin0 _)
  | str x =>
    obtain ⟨t, rfl⟩ := rv
    rw [Dat.toPy, PyData.shown] at fin0
    rw [Dat.toPy, PyData.shown] at h4
    exact PySem.P.repr_of_str (fin0 _) h4
  | tup h rr => cases rv; exact repr_of_reads' hr h2 (fun _ => tr_nosys I hS ha) hG (by omega) (fun _ _ e => e) fin h4
  | lst h rr => cases rv; exact repr_of_reads' hr h2 (fun _ => tr_nosys I hS ha) hG (by omega) (fun _ _ e => e) fin h4
  | dct h rr => cases rv; exact repr_of_reads' hr h2 (fun _ => tr_nosys I hS ha) hG (by omega) (fun _ _ e => e) fin h4
  | exc _ _ _ => simp [Dat.data] at h1
  | obj _ _ => simp [Dat.data] at h1
  | pot _ => simp [Dat.data] at h1
  | raw _ => simp [Dat.data] at h1
theorem snd_repr {K : PySem.W.Frag} : SndN K (rRepr K) reprD := fun p O H xs vs q Q hO r h k => by
  cases r with
  | nil => exact h.elim
  | cons r rr =>
    cases rr with
    | cons _ _ => exact h.elim
    | nil => exact ⟨p, _, _, rfl, r.mono hid_le, h.1, h.2.1, h.2.2.1, h.2.2.2.1, k _ _ H (Same.refl _) (.str _) h.2.2.2.2⟩
end DL

set_option Elab.async false
set_option linter.all false
set_option maxRecDepth 100000
set_option maxHeartbeats 2000000
/-! the package's errors: a class over ValueError whose __init__ says super().__init__(value), self.value = value, and the classes over it -/
namespace PourX
open PySem PySem.W PySem.Calls PyProof.Rows PySem.HandSPX
def pArgs (p1 p2 : Pos) : Arguments := { posonlyargs := [], args := [{ arg := "self", annotation := none, pos := p1 }, { arg := "value", annotation := none, pos := p2 }], vararg := none, kwonlyargs := [], kw_defaults := [], kwarg := none, defaults := [] }
def pBody (a0 a1 a2 a3 a4 a5 b0 b1 b2 b3 : Pos) : List Stmt :=
  [.Expr (.Call (.Attribute (.Call (.Name "super" a0) [] [] a1) "__init__" a2) [.Name "value" a3] [] a4) a5, .Assign [.Attribute (.Name "self" b0) "value" b1] (.Name "value" b2) b3]
def pScope : Scope := { kind := .function, names := [(PySem.Str.ofString "self", .local), (PySem.Str.ofString "value", .local), (PySem.Str.ofString "__class__", .free), (PySem.Str.ofString "super", .globalImplicit)], isGenerator := false, isCoroutine := false, more := [] }
/-- the __init__ of the class at D, at fI -/
structure InitTxt (prog : Program) (K : Frag) (mg : Str → Option Value) (D fI : Addr) : Prop where
  fn : ∃ (oc kV doc pm ct ccl cl : Value) (od an cdd cld : Option Addr) (cda cc : Addr) (osl ccs csl : Array (Option Value)) (vs : Array Value) (file : Str) (tf : Tok) (cdD : ClassData) (p1 p2 a0 a1 a2 a3 a4 a5 b0 b1 b2 b3 : Pos),
    K.lookup fI = some ⟨oc, od, .func (ksFn "__init__" "PourError.__init__" (pArgs p1 p2) (pBody a0 a1 a2 a3 a4 a5 b0 b1 b2 b3) pScope .none kV doc pm an (.ref cda) ct cc), osl⟩ ∧ codeIn K (.ref cda) "PourError.__init__" = true ∧
    K.lookup cda = some ⟨ccl, cdd, .fields vs, ccs⟩ ∧ vs[2]? = some (.str file tf) ∧ ((prog.main.file : Str) == file) = true ∧ K.lookup cc = some ⟨cl, cld, .cell (some (.ref D)), csl⟩ ∧ clsIn K D = some cdD ∧ (a2.endLine == a4.line) = true
  noS : mg "super" = none
  top : (prog.main.scope.names.lookup ("super" : Str)).isSome = false
  tF : typeIn K (.ref fI) = some (.type "function")
  third : nsIn K cStatics "thirdparty.any" = some none
/-- a class C of these -/
structure ClsTxt (K : Frag) (D fI C : Addr) : Prop where
  exc : excInitIn K C veTail "ValueError.__new__" = true
  cls : ∃ cd, clsIn K C = some cd ∧ refsVE cd.mro = true ∧ cd.hasDict = true
  mro : mroIn K C (.ref D) = some true
  sup : ks_superIn K C D "__init__" = some (some (.builtin "ValueError.__init__"))
  subV : subIn K (.ref C) (.type "ValueError") = some true
  sa : findIn K (.ref C) "__setattr__" = some (some (.builtin "object.__setattr__"))
  ga : findIn K (.ref C) "__getattribute__" = some (some (.builtin "BaseException.__getattribute__"))
  gg : findIn K (.ref C) "__getattr__" = some none
  noV : findIn K (.ref C) "value" = some none
  ini : findIn K (.ref C) "__init__" = some (some (.ref fI))
  keep : keepIn K (.ref C) = true
  base : subIn K (.ref C) (.type "BaseException") = some true
  ty : typeIn K (.ref C) = some (.type "type")
  hd : hasDictIn K C = true
section
variable {prog : Program} {w : World} {A : Around} {E : Value → Shared → Prop} {R : Result → Shared → Prop} {s : Shared} {K : Frag} {mg : Str → Option Value} {D fI C : Addr}
theorem meth_eq {o : Expr} {name : Str} {apos pos : Pos} {args : List Expr} {env : Env} (hln : (apos.endLine == pos.line) = true) (hform : methodCallForm (args.length + ([] : List Keyword).length) (backTo pos (starEach args env)) (backToKw pos (keywordEach [] env)) = true) :
    eval (.Call (.Attribute o name apos) args [] pos) env = (do
      let ov ← attributeBase o name env (eval o env)
      standAt apos.atName
      let (f, first) ← holding [ov] (getMethod ov name (do return (← importBound o env).getD true))
      callWith pos f first (backTo pos (starEach args env)) []) := by
  rw [arm_eval_Call]
  simp only [methodCall, methodCallPos, calleeOf, hform, hln, Bool.not_true, Bool.false_or, if_true, pure_bind]
  rfl
/-- what __init__ leaves of a fresh exception at x -/
structure InitEnd (h h' : Heap) (x C dx t1 : Addr) (v : Value) : Prop where
  keep : ∀ b o, b ≠ x → h.get? b = some o → h'.get? b = some o
  obj : h'.get? x = some { cls := .ref C, dict := some dx, data := .fields #[.ref t1, .none, .none, .none, .bool false, .none] }
  dbig : h.objs.size ≤ dx
  dne : dx ≠ x
  ns : h'.Ns1 dx (fun y => if y = "value" then some v else none)
theorem pour_init (T : InitTxt prog K mg D fI) (TC : ClsTxt K D fI C) {x t0 : Addr} {v : Value} (X : K.In s.heap) (hlim : s.heap.NoLimit) (G : s.heap.Ns mainGlobals mg) (hB : ∃ mb, s.heap.Ns builtinsNs mb ∧ mb "super" = some (.type "super")) (hx : s.heap.get? x = some (excO C t0)) (hnx : K.lookup x = none) (hroom : A.depth < recursionLimit)
    (hq : ∀ h' tk dx t1, InitEnd s.heap h' x C dx t1 v → R (.ok (.ret .none)) { s with heap := h', toks := tk }) :
    codeAny (model prog w) A (.call (.ref fI) ⟨[.ref x, v], []⟩) R s := by
  obtain ⟨oc, kV, doc, pm, ct, ccl, cl, od, an, cdd, cld, cda, cc, osl, ccs, csl, vs, file, tf, cdD, p1, p2, a0, a1, a2, a3, a4, a5, b0, b1, b2, b3, lk, hcd, hcode, hvs, hfile, hcell, hD, hln⟩ := T.fn
  obtain ⟨cd, hcls, hmro, hhd⟩ := TC.cls
  obtain ⟨mb, hmb, hsup⟩ := hB
  refine ks_codeAny_call_defAt (fd := ksFn "__init__" "PourError.__init__" (pArgs p1 p2) (pBody a0 a1 a2 a3 a4 a5 b0 b1 b2 b3) pScope .none kV doc pm an (.ref cda) ct cc) (body := pBody a0 a1 a2 a3 a4 a5 b0 b1 b2 b3) (binds := [("self", .ref x), ("value", v)])
    hroom (X _ _ lk) rfl hlim (codeRec_of X hcd) rfl (BindsTo.of_eq (by first | rfl | with_unfolding_all rfl)) (show ∀ x ∈ pScope.names, x.2 ≠ .cell by decide) (by first | decide | (intro y hy; simp at hy; rcases hy with rfl | rfl <;> rfl)) (fun h0 hns hk => ?_)
  have X0 : K.In h0 := X.keeps hk
  have hx0 := hk _ _ hx
  have hL : s.heap.objs.size ≠ x := Nat.ne_of_gt (Heap.lt_size hx)
  have I0 : InstAt h0 x (excO C t0) C none := ⟨hx0, rfl, rfl, trivial⟩
  obtain ⟨oD, hD1, hD2⟩ : ∃ oD, h0.get? D = some oD ∧ oD.data = .cls cdD := by
    unfold clsIn at hD
    split at hD
    · rename_i c d cd' sl ho
      cases hD
      exact ⟨_, X0 _ _ ho, rfl⟩
    · cases hD
  refine ks_wpAt_execs_cons (ks_wpAt_Expr_any (ks_wpAt_MethodCall (pl := _) ?_ (meth_eq hln rfl)))
  refine ks_wpAt_super_base (env := ksEnv "PourError.__init__" pScope s.heap.objs.size fI (.ref cda) cc) (by rfl) (by rfl) (by decide) rfl (X0 _ _ lk) rfl rfl rfl (X0 _ _ hcode) rfl hvs hfile T.top ?_
  refine ks_loadName_global rfl rfl (loadGlobal_builtin (env := ksEnv "PourError.__init__" pScope s.heap.objs.size fI (.ref cda) cc) (G.keeps hk) T.noS (hmb.keeps hk) hsup ⟨rfl, ?_⟩)
  refine wpAny_loadName_free rfl rfl rfl ⟨_, X0 _ _ hcell, rfl⟩ ?_
  refine wpAny_loadName_local rfl rfl hns (show (List.lookup ("self" : Str) (List.reverse [(("self" : Str), Value.ref x), (("value" : Str), v)])) = some (.ref x) from rfl) ?_
  refine ks_wpAny_isType_cls hD1 hD2 ⟨rfl, ?_⟩
  obtain ⟨hs, g, d, t, os⟩ := s
  refine ks_wpAny_call_super hD1 hD2 hx0 rfl (fun c e => nomatch e) (looks_mroIn X0 TC.mro) (fun h1 hso k1 => ?_)
  have X1 : K.In h1 := X0.keeps k1
  have hx1 := k1 _ _ hx0
  have I1 : InstAt h1 x (excO C t0) C none := ⟨hx1, rfl, rfl, trivial⟩
  have hf : alongIn K "__init__" ((cd.mro.dropWhile (· != .ref D)).drop 1) = some (some (.builtin "ValueError.__init__")) := by
    have z := TC.sup
    unfold ks_superIn at z
    rw [hcls] at z
    exact z
  refine kxs_getMethod kxs_ValueError hso (looks_opaque X1 T.third) (l₀ := cd.mro) (fun A Q E s k q => wpAny_bind ((looks_clsIn X1 hcls) A _ E s k (wpAny_pure q))) rfl X1 hf (I1.type.andThen (looks_subIn X1 TC.subV)) (ks_ne X1 I1 hcls) (by decide) ?_
  have hu : (h1.push (kxs_mw "ValueError.__init__" x)).get? h1.objs.size = some (kxs_mw "ValueError.__init__" x) := Heap.get?_push_at rfl rfl
  have k2 : ∀ b o, h1.get? b = some o → (h1.push (kxs_mw "ValueError.__init__" x)).get? b = some o := fun b o e => Heap.get?_push_of_some _ e
  have hns2 := (hns.keeps k1).keeps k2
  refine kxs_callWith (i := "ValueError.__init__") (x := x) rfl (evalArgs_plain ?_)
  refine Calls.spliced_cons (wpAny_Name (wpAny_loadName_local rfl rfl hns2 (show (List.lookup ("value" : Str) (List.reverse [(("self" : Str), Value.ref x), (("value" : Str), v)])) = some v from rfl) ?_) (by decide))
  refine Calls.spliced_nil ⟨hu, ?_⟩
  obtain ⟨nm, N', qn, bs, bm, hdct, sn, sub, ab, col, dd, k0, kk1, kk2, kk3, kk5, hC, hT⟩ := excInit_of (X1.keeps k2) TC.exc
  refine wpAny_call (codeAny_of_tree ?_)
  show wpAny _ _ (callAny (.ref h1.objs.size) ⟨[v], []⟩) _ _ _
  simp only [callAny]
  refine wpAny_bind (wpAny_load hu ?_)
  simp only [kxs_mw, show (Value.type "method-wrapper" == Value.type "method" || Value.type "method-wrapper" == Value.type "builtin_function_or_method" || Value.type "method-wrapper" == Value.type "method-wrapper") = true by decide, if_true]
  refine KFB.if_so (by decide) ?_
  refine wpAny_bind (check_bound_init F.excBase_ValueError.toExcCallFacts hC (k2 _ _ hx1) rfl ?_)
  refine wpAny_bind (wpAny_pure (wpAny_pure ?_))
  refine ⟨plainId_quiet F.excBase_ValueError.init.plain _, codeAny_builtin F.excBase_ValueError.initEntry ?_⟩
  refine exc_init_tree (cls := .ref C) (t0 := t0) (dv := none) (c2 := .none) (c3 := .none) (b4 := .bool false) (k2 _ _ hx1) (by rw [sizeLine_eq]; exact (by decide : 1 ≤ 16777216)) fun h3 k3 hx3 _ => ?_
  have k03 : ∀ b o, b ≠ x → h0.get? b = some o → h3.get? b = some o := fun b o hb e => k3 b o hb (k2 _ _ (k1 _ _ e))
  have X3 : K.In h3 := fun b o e => k03 b o (fun z => by rw [z, hnx] at e; cases e) (X0 _ _ e)
  have hns3 : h3.Ns hs.objs.size (fun y => (List.reverse [(("self" : Str), Value.ref x), (("value" : Str), v)]).lookup y) := by
    obtain ⟨oL, es, ep, ho, r⟩ := hns2
    exact ⟨oL, es, ep, k3 _ _ hL ho, r⟩
  refine ks_wpAt_execs_cons (ks_wpAt_Assign_Attr (wpAt_of_wpAny ?_))
  refine wpAny_Name (wpAny_loadName_local rfl rfl hns3 (show (List.lookup ("value" : Str) (List.reverse [(("self" : Str), Value.ref x), (("value" : Str), v)])) = some v from rfl) ?_) (by decide)
  refine wpAny_Name (wpAny_loadName_local rfl rfl hns3 (show (List.lookup ("self" : Str) (List.reverse [(("self" : Str), Value.ref x), (("value" : Str), v)])) = some (.ref x) from rfl) ?_) (by decide)
  refine set_plain X3 (ox := excO C _) (od := none) ⟨hx3, rfl, rfl, trivial⟩ TC.sa ?_
  refine exc_osa X3 hx3 hcls hmro hhd TC.noV (fun h4 tk4 dx k4 dn dne hx4 hn4 => ?_)
  refine wpAt_of_wpAny (wpAny_execs_nil ?_)
  refine hq h4 tk4 dx _ ⟨fun b o hb e => k4 b o hb (k03 b o hb (hk b o e)), hx4, ?_, dne, hn4⟩
  have z1 : hs.objs.size < h3.objs.size := hns3.lt
  exact Nat.le_of_lt (Nat.lt_of_lt_of_le z1 dn)
end
end PourX

set_option Elab.async false
set_option linter.all false
set_option maxRecDepth 100000
set_option maxHeartbeats 2000000
namespace PourX
open PySem PySem.W PySem.Calls PyProof.Rows PySem.HandSPX
section
variable {prog : Program} {w : World} {A : Around} {E : Value → Shared → Prop} {R : Result → Shared → Prop} {s : Shared} {K : Frag} {mg : Str → Option Value} {D fI C : Addr}
/-- a made error -/
structure Made (h h' : Heap) (e C d : Addr) (v : Value) : Prop where
  keep : ∀ b o, h.get? b = some o → h'.get? b = some o
  new : h.objs.size ≤ e
  obj : ∃ t1 : Addr, h'.get? e = some { cls := .ref C, dict := some d, data := .fields #[.ref t1, .none, .none, .none, .bool false, .none] }
  dbig : h.objs.size ≤ d
  dne : d ≠ e
  ns : h'.Ns1 d (fun y => if y = "value" then some v else none)
theorem pour_made (T : InitTxt prog K mg D fI) (TC : ClsTxt K D fI C) {v : Value} (X : K.In s.heap) (hlim : s.heap.NoLimit) (G : s.heap.Ns mainGlobals mg) (hB : ∃ mb, s.heap.Ns builtinsNs mb ∧ mb "super" = some (.type "super")) (hroom : A.depth + 1 < recursionLimit)
    (hq : ∀ h' tk e d, Made s.heap h' e C d v → R (.ok (.ret (.ref e))) { s with heap := h', toks := tk }) : codeAny (model prog w) A (.call (.ref C) ⟨[v], []⟩) R s := by
  obtain ⟨nm, N', qn, bs, bm, hdct, sn, sub, ab, col, dd, k0, k1, k2, k3, k5, hC, hT⟩ := excInit_of X TC.exc
  obtain ⟨hp, g, dr, tk, os⟩ := s
  have k : ∀ b o, hp.get? b = some o → ((hp.push (kdv_tup [v])).push (excO C hp.objs.size)).get? b = some o := fun b o e => Heap.get?_push_of_some _ (Heap.get?_push_of_some _ e)
  have hget : ((hp.push (kdv_tup [v])).push (excO C hp.objs.size)).get? (hp.objs.size + 1) = some (excO C hp.objs.size) := by heap_get
  have hnx : K.lookup (hp.objs.size + 1) = none := by
    cases e : K.lookup (hp.objs.size + 1) with
    | none => rfl
    | some o =>
      have z : hp.get? (hp.objs.size + 1) = some o := X _ _ e
      exact absurd (Nat.lt_of_succ_lt (Heap.lt_size z)) (Nat.lt_irrefl _)
  refine call_own F.excBase_ValueError hT hC (looks_findIn X TC.ini) (fun self => bind_fn X self T.tF) (by rw [sizeLine_eq]; exact (by decide : 1 ≤ 16777216)) ?_
  obtain ⟨mb, hmb, hsup⟩ := hB
  refine pour_init (s := ⟨(hp.push (kdv_tup [v])).push (excO C hp.objs.size), g, dr, tk, os⟩) T TC (X.keeps k) (hlim.keeps k) (G.keeps k) ⟨mb, hmb.keeps k, hsup⟩ hget hnx (by show A.depth + 1 < recursionLimit; exact hroom) fun h' tk' dx t1 J => ?_
  have old : ∀ b o, hp.get? b = some o → h'.get? b = some o := fun b o e => J.keep b o (Nat.ne_of_lt (Nat.lt_succ_of_lt (Heap.lt_size e))) (k b o e)
  have z : hp.objs.size + 1 + 1 ≤ dx := by
    have q := J.dbig
    first
      | (simpa only [Heap.size_push] using q)
      | exact q
  exact ⟨rfl, hq h' tk' (hp.objs.size + 1) dx ⟨old, Nat.le_succ _, ⟨_, J.obj⟩, Nat.le_trans (Nat.le_trans (Nat.le_succ _) (Nat.le_succ _)) z, J.dne, J.ns⟩⟩

/-! ### isinstance of such an error -/
theorem class_exc {x : Addr} {ox : Obj} {od : Option Obj} {Q : Option Value → Shared → Prop} (hga : findIn K (.ref D) "__getattribute__" = some (some (.builtin "BaseException.__getattribute__"))) (hgt : findIn K (.ref D) "__getattr__" = some none) (hsub : subIn K (.ref D) (.type "BaseException") = some true)
    (hf : findObj K D od "__class__" = some (.bind (.builtin "getset_descriptor.__get__") (.builtin "object.__class__"))) (hm : mroIn K D (.type "object") = some true)
    (X : K.In s.heap) (I : InstAt s.heap x ox D od) (h : Q (some (.ref D)) { s with toks := s.toks + 1 }) : wpAny (model prog w) A (getAttr? (.ref x) "__class__") Q E s := by
  obtain ⟨hp, g, d, t, os⟩ := s
  have l0 := I.type (M := model prog w)
  have l1 := looks_findIn (M := model prog w) X hga
  have l2 := looks_findIn (M := model prog w) X hgt
  have l3 := looks_find (M := model prog w) X I hf
  have sub : Looks (model prog w) hp (isInstance (.ref x) (.type "BaseException")) true := l0.andThen (looks_subIn X hsub)
  have e2 : (Value.builtin "BaseException.__getattribute__" == Value.builtin "object.__getattribute__") = false := by decide +kernel
  have e1 : (onTheHeap (Value.ref D) && Value.builtin "BaseException.__getattribute__" == Value.builtin "object.__getattribute__") = false := by rw [e2]; rfl
  have e0 : (false && onTheHeap (Value.builtin "BaseException.__getattribute__")) = false := rfl
  unfold getAttr? getAttrBy? getAttrBy
  refine wpAny_bind (wpAny_mkText (wpAny_bind (wpAny_attempt (wpAny_holding (wpAny_bind (l0.at (wpAny_bind (l1.at ?_))))))))
  show wpAny _ _ (if (onTheHeap (Value.ref D) && Value.builtin "BaseException.__getattribute__" == Value.builtin "object.__getattribute__") = true then _ else _) _ _ _
  rw [e1, if_neg Bool.false_ne_true]
  unfold getAttrByItsOwn hookBefore
  refine wpAny_bind ?_
  rw [if_pos (show onTheHeap (Value.ref D) = true from rfl)]
  refine l2.at (wpAny_bind (wpAny_attempt (wpAny_holding ?_)))
  unfold callGetattribute
  rw [e0, if_neg Bool.false_ne_true]
  unfold boundAndCalled
  rw [PySem.F.excAttr_ValueError.ga.bind (.ref x)]
  refine wpAny_bind (wpAny_pure ?_)
  show wpAny _ _ (call (.builtin "BaseException.__getattribute__") [.ref x, .str "__class__" t]) _ _ _
  refine wpAny_call (codeAny_call_builtin PySem.F.excAttr_ValueError.ga.plain PySem.F.entry_bexc_ga ?_)
  refine @check_slot (model prog w) _ _ ⟨hp, g, d, t + 1, os⟩ "BaseException.__getattribute__" "BaseException" "__getattribute__" (.ref x) [.str "__class__" t] [] _ (by decide +kernel) (by decide +kernel) sub (PySem.F.args_bexc_ga (.ref x) (.str "__class__" t)) ?_
  unfold Builtin.«object.__getattribute__»
  refine wpAny_bind (wpAny_of_eq (a := ((Value.ref x : Value), [Value.str "__class__" t])) (by first | rfl | (simp only [slotArgs]; rfl)) ?_)
  refine wpAny_bind (wpAny_pure (wpAny_bind (l0.at (wpAny_bind (l3.at ?_)))))
  show wpAny _ _ (holding [Value.builtin "object.__class__"] (call (.builtin "getset_descriptor.__get__") [.builtin "object.__class__", .ref x, .ref D]) >>= ret) _ _ _
  refine wpAny_bind (wpAny_holding (wpAny_call (class_get (s := ⟨hp, g, d, t + 1, os⟩) (ox := ox) (od := od) X I hm ?_)))
  refine wpAny_pure ?_
  show wpAny _ _ (handedOut (.ref D)) _ _ _
  rw [handedOut_of (v := .ref D) rfl]
  first
    | exact wpAny_pure (wpAny_pure h)
    | exact wpAny_pure h
    | exact wpAny_pure (wpAny_bind (wpAny_pure (wpAny_pure h)))
theorem kit_exc {x : Addr} (Z : L2.ExcC K D) : KitX K (.ref x) (.ref D) (fun h => ∃ ox od, InstAt h x ox D (some od)) where
  ty := fun _ _ _ ⟨_, _, I⟩ => I.type
  it := fun _ _ X _ => by
    obtain ⟨cdD, hcD, _⟩ := any_some Z.hd
    unfold clsIn at hcD
    split at hcD
    · rename_i c' d' cd' sl' ho
      intro A' Q' E' s' k q
      unfold isType loadHead
      exact wpAny_bind (wpAny_loadPart (k _ _ (X _ _ ho)) (wpAny_pure q))
    · cases hcD
  ne := fun h tp dd its n sl X htp => by
    obtain ⟨cdD, hcD, _⟩ := any_some Z.hd
    refine Bool.eq_false_iff.mpr fun q => ?_
    have e : D = tp := Value.ref.inj (beq_iff_eq.mp q)
    subst e
    unfold clsIn at hcD
    split at hcD
    · rename_i c' d' cd' sl' ho
      have z := (X _ _ ho).symm.trans htp
      cases z
    · cases hcD
  ca := fun X ⟨_, _, I⟩ k => class_exc Z.hg Z.hk Z.hs (findObj_data (by obtain ⟨cd, hc, _⟩ := any_some Z.hd; rw [hc]; rfl) Z.ha Z.hn Z.ht) Z.hm X I k
end
end PourX

namespace DL
open PySem PySem.Spec PyProof.Rows L2
/-- what the top says of an error's class named c -/
structure Er (prog : Program) (K : PySem.W.Frag) (mg : Str → Option Value) (c : Str) : Prop where
  g : mg c = some (.ref (He.ga K c))
  it : ∃ D fI, PourX.InitTxt prog K mg D fI ∧ PourX.ClsTxt K D fI (He.ga K c)
  isi : L2.ExcC K (He.ga K c)
section
variable {X : Cx} {E : XK} {e : Expr} {es : List Expr} {m : DM} {ms : DAM} {pos : Pos}
theorem sup_boot : bootBuiltins "super" = some (.type "super") := by decide +kernel
theorem Inv.blt {pins : List (Addr × Obj)} {σ : L2.St} {H : Hp} {s : Shared} (I : Inv X pins σ H s) : ∃ mb, s.heap.Ns builtinsNs mb ∧ mb "super" = some (.type "super") := by
  obtain ⟨mb, h1, h2⟩ := I.mod.blt
  exact ⟨mb, h1.keeps I.bk, (h2 "super" (by decide)).trans sup_boot⟩
theorem relO_val {v : V} {v' : Value} (r : RelV v v') (f : Str) : RelO (List.lookup f [(("value" : Str), v)]) (if f = "value" then some v' else none) := by
  by_cases hw : f = "value"
  · subst hw
    rw [if_pos rfl]
    have q : List.lookup ("value" : Str) [(("value" : Str), v)] = some v := by simp [List.lookup]
    rw [q]
    exact r
  · rw [if_neg hw]
    have qw : (f == ("value" : Str)) = false := by simpa using hw
    have q2 : List.lookup f [(("value" : Str), v)] = none := by simp [List.lookup, qw]
    rw [q2]
    trivial
/-- C(e) as a value -/
theorem pe_errV {c : Str} {te : TE} {p : Pos} {k : Nat} (T : Er X.prog X.K X.mg c) (hr : Room k X.A) (he : PE X e te) (hg : Gl X c) (hs : starEach [e] X.env = (false, eval e X.env) :: starEach [] X.env) (hdb : (c == ("__debug__" : Str)) = false) :
    PE X (.Call (.Name c p) [e] [] pos) (fun σ H Q => te σ H fun v H1 => ∀ a dx, H1 a = none → H1 dx = none → a ≠ dx → Q (.ref a) (upd (upd H1 dx (.xd [("value", v)])) a (ErO X.K c a dx))) := by
  obtain ⟨D, fI, T1, T2⟩ := T.it
  refine ⟨fun pins s σ H Q I h => ?_⟩
  refine wpAny_Call_Name_kw (ld_glob I hg T.g ?_ hdb)
  refine PySem.W.callWith_K (h₀ := X.base) I.ok.mod.kin T2.keep ?_ hs (by rfl)
  rw [hs]
  show wpAny _ _ (spliced ((false, eval e X.env) :: backTo pos (starEach [] X.env))) _ _ s
  refine Calls.spliced_cons (thn (he.run pins s σ H _ I h) fun u s1 ⟨v, H1, I1, r1, q1⟩ => ?_)
  refine Calls.spliced_nil ⟨I1.kIn, ?_⟩
  show wpAny _ _ (call (.ref (He.ga X.K c)) [u]) _ _ _
  have hglob := I1.mod.glob.keeps I1.bk
  have hblt := Inv.blt I1
  have hlim := I1.nolimit
  obtain ⟨hp, g, dr, tk, os⟩ := s1
  refine wpAny_call (PourX.pour_made T1 T2 I1.kIn hlim hglob hblt (by have := hr.dp; omega) fun h' tk' a d M => ?_)
  obtain ⟨t1, hoe⟩ := M.obj
  obtain ⟨G', g1, g2⟩ := restrict h' fun b => decide (b ≠ a)
  have gk : ∀ b, b ≠ a → G'.get? b = h'.get? b := fun b hb => g1 b (decide_eq_true hb)
  have ge : G'.get? a = none := g2 a (by simp)
  have old : ∀ b o, hp.get? b = some o → G'.get? b = some o := fun b o q => (gk b (Nat.ne_of_lt (Nat.lt_of_lt_of_le (Heap.lt_size q) M.new))).trans (M.keep b o q)
  have na : H1 a = none := I1.hok.fresh M.new
  have nd : H1 d = none := I1.hok.fresh M.dbig
  have ob : ObjOk X.prog X.w (upd H1 d (.xd [(("value" : Str), v)])) G' d (.xd [(("value" : Str), v)]) := ⟨_, M.ns.at (fun o q => (gk d M.dne).trans q), fun f => relO_val r1 f⟩
  have J : Inv X pins σ (upd H1 d (.xd [(("value" : Str), v)])) ⟨G', g, dr, tk', os⟩ := I1.laid (t' := tk') old M.dbig ob
  have na2 : upd H1 d (.xd [(("value" : Str), v)]) a = none := by rw [upd_ne (Ne.symm M.dne)]; exact na
  have kk : ∀ b o, G'.get? b = some o → h'.get? b = some o := fun b o q => by
    by_cases hb : b = a
    · rw [hb, ge] at q; cases q
    · rw [← gk b hb]; exact q
  have J2 := J.laidN (h' := h') (t' := tk') (o := ErO X.K c a d) kk ge na2 ⟨⟨_, _, hoe, rfl, rfl, rfl⟩, ⟨_, hoe⟩, fun _ _ ⟨o, w, q, r⟩ k => ⟨o, w, k o q, r⟩⟩
  exact ⟨.ref a, _, J2, rfl, q1 a d na nd (Ne.symm M.dne)⟩
def dErr (c : Str) (m : DM) : DM := fun G u Q E => m G u (fun d u1 => Q (.exc c d) u1) E
theorem de_err {c : Str} {p : Pos} {k : Nat} (T : Er X.prog X.K X.mg c) (hr : Room k X.A) (he : DE X E e m) (hg : Gl X c := by rfl) (hs : starEach [e] X.env = (false, eval e X.env) :: starEach [] X.env := by rfl) (hdb : (c == ("__debug__" : Str)) = false := by decide) :
    DE X E (.Call (.Name c p) [e] [] pos) (dErr c m) := pe_weak (pe_errV T hr he hg hs hdb) fun σ H Q h => by
  obtain ⟨C, O, G, u, Qd, Ed, I, ek, hm, k⟩ := h
  refine ⟨C, O, G, u, _, Ed, I, ek, hm, fun d v u1 H1 I1 e1 r1 h1 a dx ha hdx hne => ?_⟩
  have s1 : Same H1 (upd H1 dx (.xd [("value", v)])) := same_new hdx
  have ha2 : upd H1 dx (.xd [("value", v)]) a = none := by rw [upd_ne hne]; exact ha
  have s2 := same_new (o := ErO X.K c a dx) ha2
  have I2 := I1.grow s1
  have I3 := I2.grow s2
  refine k _ _ u1 _ I3 (e1.trans (Ex.same (s1.trans s2))) (.exc (hid_new I2.dom ha2) ?_ (r1.mono (hid_same (s1.trans s2)))) h1
  rw [hid_out (I1.nin hdx)]
  exact s2 _ _ upd_same
/-- raise C(e) -/
theorem pmk_err {c : Str} {te : TE} {p : Pos} {k : Nat} (T : Er X.prog X.K X.mg c) (hr : Room k X.A) (he : PE X e te) (hg : Gl X c) (hs : starEach [e] X.env = (false, eval e X.env) :: starEach [] X.env) (hdb : (c == ("__debug__" : Str)) = false) :
    PMk X (.Call (.Name c p) [e] [] pos) (fun σ H Q => te σ H fun v H1 => ∀ d, H1 d = none → Q (.ref (He.ga X.K c)) (some d) (upd H1 d (.xd [("value", v)]))) := by
  obtain ⟨D, fI, T1, T2⟩ := T.it
  intro pins s σ H Q I h
  refine wpAny_Call_Name_kw (ld_glob I hg T.g ?_ hdb)
  refine PySem.W.callWith_K (h₀ := X.base) I.ok.mod.kin T2.keep ?_ hs (by rfl)
  rw [hs]
  show wpAny _ _ (spliced ((false, eval e X.env) :: backTo pos (starEach [] X.env))) _ _ s
  refine Calls.spliced_cons (thn (he.run pins s σ H _ I h) fun u s1 ⟨v, H1, I1, r1, q1⟩ => ?_)
  refine Calls.spliced_nil ⟨I1.kIn, ?_⟩
  show wpAny _ _ (call (.ref (He.ga X.K c)) [u]) _ _ _
  have hglob := I1.mod.glob.keeps I1.bk
  have hblt := Inv.blt I1
  have hlim := I1.nolimit
  obtain ⟨hp, g, dr, tk, os⟩ := s1
  refine wpAny_call (PourX.pour_made T1 T2 I1.kIn hlim hglob hblt (by have := hr.dp; omega) fun h' tk' a d M => ?_)
  obtain ⟨t1, hoe⟩ := M.obj
  obtain ⟨G', g1, g2⟩ := restrict h' fun b => decide (b ≠ a)
  have gk : ∀ b, b ≠ a → G'.get? b = h'.get? b := fun b hb => g1 b (decide_eq_true hb)
  have ge : G'.get? a = none := g2 a (by simp)
  have old : ∀ b o, hp.get? b = some o → G'.get? b = some o := fun b o q => (gk b (Nat.ne_of_lt (Nat.lt_of_lt_of_le (Heap.lt_size q) M.new))).trans (M.keep b o q)
  have ob : ObjOk X.prog X.w (upd H1 d (.xd [(("value" : Str), v)])) G' d (.xd [(("value" : Str), v)]) := ⟨_, M.ns.at (fun o q => (gk d M.dne).trans q), fun f => relO_val r1 f⟩
  have J : Inv X pins σ (upd H1 d (.xd [(("value" : Str), v)])) ⟨G', g, dr, tk', os⟩ := I1.laid (t' := tk') old M.dbig ob
  refine ⟨a, _, _, ⟨G', g, dr, tk', os⟩, _, .ref (He.ga X.K c), some d, rfl, J, fun b o q => ?_, ge, hoe, ⟨rfl, rfl⟩, rfl, rfl, ?_, rfl, I1.bare, raises_own T2.base T2.ty, q1 d (I1.hok.fresh M.dbig)⟩
  · by_cases hb : b = a
    · have q' : G'.get? b = some o := q
      rw [hb, ge] at q'; cases q'
    · exact (gk b hb).symm.trans q
  · rw [upd_ne (Ne.symm M.dne)]
    exact I1.hok.fresh M.new
def sRaise (c : Str) (m : DM) : DSM := fun G u Z => m G u (fun d u1 => Z.ex (.exc c d) u1) Z.ex
theorem ds_raise {c : Str} {p pos2 : Pos} {k : Nat} (hc : X.calm = true) (T : Er X.prog X.K X.mg c) (hr : Room k X.A) (tk : Takes X (fun cls d _ H => E cls d H)) (he : DE X E e m) (hg : Gl X c := by rfl) (hs : starEach [e] X.env = (false, eval e X.env) :: starEach [] X.env := by rfl) (hdb : (c == ("__debug__" : Str)) = false := by decide) :
    DS X E (.Raise (some (.Call (.Name c p) [e] [] pos)) none pos2) (sRaise c m) := ps_weak (ps_raise hc tk (pmk_err T hr he hg hs hdb)) fun D σ H h => by
  obtain ⟨C, O, G, u, Z, I, ek, hm, k1, k2, k3, k4⟩ := h
  refine ⟨C, O, G, u, _, Z.ex, I, ek, hm, fun d v u1 H1 I1 e1 r1 h1 a ha => ?_⟩
  have I2 := I1.new (o := .xd [("value", v)]) ha
  exact ek c d v a u1 _ I2.ok0 upd_same ((r1.mono (hid_same (same_new ha))).mono (hid_sub I2.sub)) h1
/-- err.value -/
def dVal (P : Str → Prop) (m : DM) : DM := fun G u Q E => m G u (fun d u1 => match d with
  | .exc c d => P c ∧ Q d u1
  | _ => False) E
theorem pe_value {te : TE} (he : PE X e te) (hb : attributeBase e "value" X.env (eval e X.env) = eval e X.env) :
    PE X (.Attribute e "value" pos) (fun σ H Q => te σ H fun x H1 => ∃ a dx c v, x = .ref a ∧ Er X.prog X.K X.mg c ∧ H1 a = some (ErO X.K c a dx) ∧ H1 dx = some (.xd [("value", v)]) ∧ Q v H1) := by
  refine ⟨fun pins s σ H Q I h => attr_of hb (thn (he.run pins s σ H _ I h) fun u s1 hh => ?_)⟩
  obtain ⟨x, H1, I1, rx, a, dx, c, v, rfl, T, ea, ed, q⟩ := hh
  cases rx
  obtain ⟨D, fI, T1, T2⟩ := T.it
  obtain ⟨⟨oe, vs, ho, hz1, hz2, hz3⟩, _, _⟩ := I1.hok a _ ea
  obtain ⟨mA, hns, hr⟩ := I1.hok dx _ ed
  obtain ⟨od, hod, hl⟩ := lookIn_ns hns
  have l : List.lookup ("value" : Str) [(("value" : Str), v)] = some v := by simp [List.lookup]
  obtain ⟨w, hw, rw'⟩ := RelO.some_of (v := v) (o := mA "value") (by rw [← l]; exact hr "value")
  have J : PySem.W.InstAt s1.heap a oe (He.ga X.K c) (some od) := ⟨ho, hz1, by unfold PySem.W.notCls; rw [hz3] <;> rfl, by rw [hz2]; exact hod⟩
  exact HandSPX.exc_get I1.kIn J T2.ga T2.gg T2.base (PySem.W.findObj_own T2.hd T2.noV rfl (by rw [hl, hw])) (handed_of rw') ⟨v, H1, I1.tok _, rw', q⟩
theorem de_value (he : DE X E e m) (hb : attributeBase e "value" X.env (eval e X.env) = eval e X.env := by rfl) : DE X E (.Attribute e "value" pos) (dVal (Er X.prog X.K X.mg) m) := pe_weak (pe_value he hb) fun σ H Q h => by
  obtain ⟨C, O, G, u, Qd, Ed, I, ek, hm, k⟩ := h
  refine ⟨C, O, G, u, _, Ed, I, ek, hm, fun d v u1 H1 I1 e1 r1 h1 => ?_⟩
  cases r1 with
  | exc ha hd r => exact ⟨_, _, _, _, rfl, h1.1, hid_le _ _ ha, hid_le _ _ hd, k _ _ u1 H1 I1 e1 r h1.2⟩
  | _ => exact h1.elim

/-! ### isinstance -/
/-- a class as data -/
def clsD : Dat → Option Value
  | .raw (.ty n) => some (.type n)
  | .raw (.ref a) => some (.ref a)
  | _ => none
/-- a value's class; of an own class by its name -/
def tyD (K : PySem.W.Frag) : Dat → Option Value
  | .non => some (.type "NoneType")
  | .bl _ => some (.type "bool")
  | .int _ => some (.type "int")
  | .str _ => some (.type "str")
  | .tup _ => some (.type "tuple")
  | .lst _ => some (.type "list")
  | .dct _ => some (.type "dict")
  | .exc c _ => some (.ref (He.ga K c))
  | .obj c _ => some (.ref (He.ga K c))
  | _ => none
/-- what isinstance asks of an own class named c -/
structure InsC (K : PySem.W.Frag) (c : Str) : Prop where
  cl : Cls K (He.ga K c)
  ha : PySem.W.findIn K (.ref (He.ga K c)) "__class__" = some (some (.builtin "object.__class__"))
  hn : PySem.W.specialIn K (.builtin "object.__class__") "__get__" = some (some (.builtin "getset_descriptor.__get__"))
  ht : PySem.W.takesIn K (.builtin "object.__class__") = some true
  hm : PySem.W.mroIn K (He.ga K c) (.type "object") = some true
def ownOk (K : PySem.W.Frag) : Dat → Prop
  | .exc c _ => L2.ExcC K (He.ga K c)
  | .obj c _ => InsC K c
  | _ => True
def isiD (K : PySem.W.Frag) : List Dat → (Dat → Prop) → Prop
  | [x, c], q => ownOk K x ∧ ∃ (t u : Value) (b : Bool), tyD K x = some t ∧ clsD c = some u ∧ PySem.W.kitOne K t u = some b ∧ q (.bl b)
  | _, _ => False
def rIsX (K : PySem.W.Frag) : List V → Hp → VK → Prop := fun xs H Q => ∃ (a dx : Addr) (cl : V) (c : Str) (w : V) (u : Value) (b : Bool), xs = [.ref a, cl] ∧ H a = some (ErO K c a dx) ∧ H dx = some (.xd [("value", w)]) ∧ L2.ExcC K (He.ga K c) ∧ ClsV cl u ∧ PySem.W.kitOne K (.ref (He.ga K c)) u = some b ∧ Q (.bl b) H
theorem call_isX : CallR X (.builtin "isinstance") (rIsX X.K) := by
  intro pins s σ H xs us Q I r h
  obtain ⟨a, dx, cl, c, w, u, b, rfl, ea, ed, Z, kc, e, q⟩ := h
  obtain ⟨u1, u2, rfl, r1, r2⟩ := vals2 r
  have e2 := kc.eq r2
  subst e2
  cases r1
  obtain ⟨⟨oe, vs, ho, hz1, hz2, hz3⟩, _, _⟩ := I.hok a _ ea
  obtain ⟨mA, hns, hr⟩ := I.hok dx _ ed
  obtain ⟨od, hod, hl⟩ := lookIn_ns hns
  have J : PySem.W.InstAt s.heap a oe (He.ga X.K c) (some od) := ⟨ho, hz1, by unfold PySem.W.notCls; rw [hz3] <;> rfl, by rw [hz2]; exact hod⟩
  exact PySem.W.kia_one (PourX.kit_exc Z) I.kIn ⟨_, _, J⟩ e (fun z => nomatch z) fun tk => ⟨.bl b, H, I.tok tk, rfl, q⟩
theorem clsD_ok {K : PySem.W.Frag} {p : Option Addr} {H : Hp} {d : Dat} {v : V} {u : Value} (r : Rp K p H d v) (h : clsD d = some u) : ClsV v u := by
  cases r with
  | raw v =>
    cases v with
    | ty n => cases h; exact .ty n
    | ref a => cases h; exact .own a
    | _ => cases h
  | _ => cases h
theorem snd_isi {K : PySem.W.Frag} : SndN K (fun xs H Q => rIsi K xs H Q ∨ rIsX K xs H Q) (isiD K) := fun p O H xs vs q Q hO r h k => by
  cases r with
  | nil => exact h.elim
  | cons r rr =>
    cases rr with
    | nil => exact h.elim
    | cons r2 rr =>
      cases rr with
      | cons _ _ => exact h.elim
      | nil =>
        obtain ⟨how, t, u, b, ht, hu, hk, hq⟩ := h
        have kc := clsD_ok r2 hu
        have fin : Q (.bl b) H := k _ _ H (Same.refl _) (.bl b) hq
        cases r with
        | non => cases ht; exact .inl ⟨_, _, _, _, _, rfl, kc, .base .non, hk, fin⟩
        | bl x => cases ht; exact .inl ⟨_, _, _, _, _, rfl, kc, .base (.bl x), hk, fin⟩
        | int x => cases ht; exact .inl ⟨_, _, _, _, _, rfl, kc, .base (.int x), hk, fin⟩
        | str x => cases ht; exact .inl ⟨_, _, _, _, _, rfl, kc, .base (.str x), hk, fin⟩
        | tup ha _ => cases ht; exact .inl ⟨_, _, _, _, _, rfl, kc, .base (.tup (hid_le _ _ ha)), hk, fin⟩
        | lst ha _ => cases ht; exact .inl ⟨_, _, _, _, _, rfl, kc, .base (.lst (hid_le _ _ ha)), hk, fin⟩
        | dct ha _ => cases ht; exact .inl ⟨_, _, _, _, _, rfl, kc, .base (.dK (hid_le _ _ ha)), hk, fin⟩
        | exc ha hd _ => cases ht; exact .inr ⟨_, _, _, _, _, _, _, rfl, hid_le _ _ ha, hid_le _ _ hd, how, kc, hk, fin⟩
        | obj ha _ =>
          cases ht
          have Z : InsC K _ := how
          exact .inl ⟨_, _, _, _, _, rfl, kc, .base (.ins (hid_le _ _ ha) Z.cl Z.ha Z.hn Z.ht Z.hm), hk, fin⟩
        | pot _ => cases ht
        | raw _ => cases ht
theorem de_isi {p : Pos} (hm : X.mg "isinstance" = none) (ha : DA X E (e :: es) ms) (hg : Gl X "isinstance" := by rfl) (he : starEach (e :: es) X.env = (false, eval e X.env) :: starEach es X.env := by rfl) (hpl : (backTo pos (starEach es X.env)).any (·.1) = false := by rfl) :
    DE X E (.Call (.Name "isinstance" p) (e :: es) [] pos) (dFn (isiD X.K) ms) := de_fnB (call_isi.or call_isX) snd_isi hm (by decide +kernel) ha hg (by decide) (by decide) he hpl

/-! ### repr, len, all, any -/
theorem de_repr {p : Pos} (hG : X.A.guards = some []) (hu : X.A.units + 64 < cLine) (hS : X.K.lookup sysModules ≠ none) (hm : X.mg "repr" = none) (ha : DA X E (e :: es) ms) (hg : Gl X "repr" := by rfl) (he : starEach (e :: es) X.env = (false, eval e X.env) :: starEach es X.env := by rfl) (hpl : (backTo pos (starEach es X.env)).any (·.1) = false := by rfl) :
    DE X E (.Call (.Name "repr" p) (e :: es) [] pos) (dFn reprD ms) := de_fnB (call_repr hG hu hS) snd_repr hm (by decide +kernel) ha hg (by decide) (by decide) he hpl
def lenD : List Dat → (Dat → Prop) → Prop
  | [.lst xs], q => q (.int xs.length)
  | [.tup xs], q => q (.int xs.length)
  | [.str x], q => x.length ≤ sizeLine ∧ q (.int x.length)
  | _, _ => False
theorem snd_len {K : PySem.W.Frag} : SndN K (fun xs H Q => ∃ x n, xs = [x] ∧ LenV K x H n ∧ Q (.int n) H) lenD := fun p O H xs vs q Q hO r h k => by
  cases r with
  | nil => exact h.elim
  | cons r rr =>
    cases rr with
    | cons _ _ => cases r <;> exact h.elim
    | nil =>
      cases r with
      | @lst a vs ds ha ra => exact ⟨_, ds.length, rfl, .inl ⟨vs, SqL.of (hid_le _ _ ha), ra.length⟩, k _ _ H (Same.refl _) (.int _) h⟩
      | @tup a vs ds ha ra => exact ⟨_, ds.length, rfl, .inr ⟨vs, SqT.of (hid_le _ _ ha), ra.length⟩, k _ _ H (Same.refl _) (.int _) h⟩
      | str x => exact ⟨_, x.length, rfl, ⟨h.1, rfl⟩, k _ _ H (Same.refl _) (.int _) h.2⟩
      | _ => exact h.elim
theorem de_len {p : Pos} (hm : X.mg "len" = none) (ha : DA X E (e :: es) ms) (hg : Gl X "len" := by rfl) (he : starEach (e :: es) X.env = (false, eval e X.env) :: starEach es X.env := by rfl) (hpl : (backTo pos (starEach es X.env)).any (·.1) = false := by rfl) :
    DE X E (.Call (.Name "len" p) (e :: es) [] pos) (dFn lenD ms) := de_fnB call_len snd_len hm PySem.boot_len ha hg (by decide) (by decide) he hpl
def blsOf : List Dat → Option (List Bool)
  | [] => some []
  | .bl b :: r => (blsOf r).map (b :: ·)
  | _ => none
theorem blsOf_ok {K : PySem.W.Frag} {p : Option Addr} {H : Hp} : ∀ {ds : List Dat} {vs : List V} {bs : List Bool}, Rps K p H ds vs → blsOf ds = some bs → vs = bs.map V.bl
  | _, _, _, .nil, h => by cases h; rfl
  | d :: ds, _, _, .cons r rr, h => by
    cases r with
    | bl b =>
      cases e : blsOf ds with
      | none => rw [blsOf, e] at h; cases h
      | some cs =>
        rw [blsOf, e] at h
        cases h
        rw [blsOf_ok rr e]
        rfl
    | _ => cases h
def bools1 (ds : List Dat) : Option (List Bool) := (lst1 ds).bind blsOf
def allD : List Dat → (Dat → Prop) → Prop := fun ds q => opt (bools1 ds) fun bs => q (.bl (bs.all id))
def anyD : List Dat → (Dat → Prop) → Prop := fun ds q => opt (bools1 ds) fun bs => q (.bl (bs.any id))
theorem bools1_ok {K : PySem.W.Frag} {p : Option Addr} {H : Hp} {ds : List Dat} {vs : List V} {bs : List Bool} (r : Rps K p H ds vs) (h : bools1 ds = some bs) : ∃ a, vs = [.ref a] ∧ H a = some (.lst (bs.map V.bl)) := by
  unfold bools1 at h
  cases e : lst1 ds with
  | none => rw [e] at h; cases h
  | some xs =>
    rw [e] at h
    obtain ⟨a, ws, e1, e2, e3⟩ := lst1_ok r e
    have := blsOf_ok e3 h
    subst this
    exact ⟨a, e1, e2⟩
theorem snd_all {K : PySem.W.Frag} : SndN K (rAll K) allD := fun p O H xs vs q Q hO r h k => by
  obtain ⟨bs, e, hq⟩ := opt_some h
  obtain ⟨a, rfl, ha⟩ := bools1_ok r e
  exact ⟨a, bs, rfl, SqL.of (hid_le _ _ ha), k _ _ H (Same.refl _) (.bl _) hq⟩
theorem snd_any {K : PySem.W.Frag} : SndN K (rAny K) anyD := fun p O H xs vs q Q hO r h k => by
  obtain ⟨bs, e, hq⟩ := opt_some h
  obtain ⟨a, rfl, ha⟩ := bools1_ok r e
  exact ⟨a, bs, rfl, SqL.of (hid_le _ _ ha), k _ _ H (Same.refl _) (.bl _) hq⟩
theorem de_all {p : Pos} (hc : X.calm = true) (hm : X.mg "all" = none) (ha : DA X E (e :: es) ms) (hg : Gl X "all" := by rfl) (he : starEach (e :: es) X.env = (false, eval e X.env) :: starEach es X.env := by rfl) (hpl : (backTo pos (starEach es X.env)).any (·.1) = false := by rfl) :
    DE X E (.Call (.Name "all" p) (e :: es) [] pos) (dFn allD ms) := de_fnB (cr_all hc) snd_all hm (by decide +kernel) ha hg (by decide) (by decide) he hpl
theorem de_any {p : Pos} (hc : X.calm = true) (hm : X.mg "any" = none) (ha : DA X E (e :: es) ms) (hg : Gl X "any" := by rfl) (he : starEach (e :: es) X.env = (false, eval e X.env) :: starEach es X.env := by rfl) (hpl : (backTo pos (starEach es X.env)).any (·.1) = false := by rfl) :
    DE X E (.Call (.Name "any" p) (e :: es) [] pos) (dFn anyD ms) := de_fnB (cr_any hc) snd_any hm (by decide +kernel) ha hg (by decide) (by decide) he hpl

/-! ### in -/
def flatD : Dat → Bool
  | .non => true
  | .bl _ => true
  | .int _ => true
  | .str _ => true
  | _ => false
def eqFl : Dat → Dat → Bool
  | .non, .non => true
  | .bl a, .bl b => a == b
  | .bl a, .int b => (if a then 1 else 0) == b
  | .int a, .bl b => a == (if b then 1 else 0)
  | .int a, .int b => a == b
  | .str a, .str b => a == b
  | _, _ => false
def inF (x : Dat) (xs : List Dat) : Bool := xs.any fun y => eqFl y x
theorem flat_ok {K : PySem.W.Frag} {p : Option Addr} {H : Hp} {d : Dat} {v : V} (r : Rp K p H d v) (h : flatD d = true) : flatV v = true := by
  cases r <;> first | rfl | exact absurd h Bool.false_ne_true
theorem flats_ok {K : PySem.W.Frag} {p : Option Addr} {H : Hp} : ∀ {ds : List Dat} {vs : List V}, Rps K p H ds vs → ds.all flatD = true → vs.all flatV = true
  | _, _, .nil, _ => rfl
  | _, _, .cons r rr, h => by
    rw [List.all_cons, Bool.and_eq_true] at h ⊢
    exact ⟨flat_ok r h.1, flats_ok rr h.2⟩
theorem eqFl_ok {K : PySem.W.Frag} {p : Option Addr} {H : Hp} {x y : Dat} {v w : V} (rx : Rp K p H x v) (ry : Rp K p H y w) (hx : flatD x = true) (hy : flatD y = true) : eqV v w = eqFl x y := by
  cases rx <;> cases ry <;> first | rfl | exact absurd hx Bool.false_ne_true | exact absurd hy Bool.false_ne_true
theorem inF_ok {K : PySem.W.Frag} {p : Option Addr} {H : Hp} {x : Dat} {v : V} (rx : Rp K p H x v) (hx : flatD x = true) : ∀ {ds : List Dat} {vs : List V}, Rps K p H ds vs → ds.all flatD = true → inV v vs = inF x ds
  | _, _, .nil, _ => rfl
  | _, _, .cons r rr, h => by
    rw [List.all_cons, Bool.and_eq_true] at h
    unfold inV inF
    rw [List.any_cons, List.any_cons, eqFl_ok r rx h.1 hx]
    have := inF_ok rx hx rr h.2
    unfold inV inF at this
    rw [this]
def inD (neg : Bool) : Dat → Dat → (Dat → Prop) → Prop
  | x, .lst ds, q => (flatD x && ds.all flatD) = true ∧ q (.bl (if neg then !inF x ds else inF x ds))
  | x, .tup ds, q => (flatD x && ds.all flatD) = true ∧ q (.bl (if neg then !inF x ds else inF x ds))
  | _, _, _ => False
theorem snd_in {K : PySem.W.Frag} {neg : Bool} : Snd2 K (rIn K neg) (inD neg) := fun p O H x y v w q Q hO rx ry h k => by
  cases ry with
  | @lst a vs ds ha ra =>
    obtain ⟨h1, h2⟩ := h
    rw [Bool.and_eq_true] at h1
    refine ⟨a, vs, rfl, .inl (SqL.of (hid_le _ _ ha)), flat_ok rx h1.1, flats_ok ra h1.2, ?_⟩
    rw [inF_ok rx h1.1 ra h1.2]
    exact k _ _ H (Same.refl _) (.bl _) h2
  | @tup a vs ds ha ra =>
    obtain ⟨h1, h2⟩ := h
    rw [Bool.and_eq_true] at h1
    refine ⟨a, vs, rfl, .inr (SqT.of (hid_le _ _ ha)), flat_ok rx h1.1, flats_ok ra h1.2, ?_⟩
    rw [inF_ok rx h1.1 ra h1.2]
    exact k _ _ H (Same.refl _) (.bl _) h2
  | _ => exact h.elim
variable {a b : Expr} {ma mb : DM}
theorem de_in (ha : DE X E a ma) (hb : DE X E b mb) (hm : behindInMarks .In b = false := by rfl) : DE X E (.Compare a [.In] [b] pos) (dOp (inD false) ma mb) := de_cmp op_in_seq snd_in ha hb hm
theorem dt_in (ha : DE X E a ma) (hb : DE X E b mb) (hm : behindInMarks .In b = false := by rfl) : DT X E (.Compare a [.In] [b] pos) (dTest (dOp (inD false) ma mb)) := dt_cmp op_in_seq snd_in ha hb hm
theorem de_nin (ha : DE X E a ma) (hb : DE X E b mb) (hm : behindInMarks .NotIn b = false := by rfl) : DE X E (.Compare a [.NotIn] [b] pos) (dOp (inD true) ma mb) := de_cmp op_notIn_seq snd_in ha hb hm
theorem dt_nin (ha : DE X E a ma) (hb : DE X E b mb) (hm : behindInMarks .NotIn b = false := by rfl) : DT X E (.Compare a [.NotIn] [b] pos) (dTest (dOp (inD true) ma mb)) := dt_cmp op_notIn_seq snd_in ha hb hm

/-! ### dicts written -/
def dPairs : List (DM × DM) → DEnv → Nat → (List (Dat × Dat) → Nat → Prop) → QD → Prop
  | [], _, u, Q, _ => Q [] u
  | (mk, mv) :: r, G, u, Q, E => mk G u (fun k u1 => mv G u1 (fun v u2 => dPairs r G u2 (fun ps u3 => Q ((k, v) :: ps) u3) E) E) E
def keyd : List (Dat × Dat) → Option (List (Key × Dat))
  | [] => some []
  | (k, v) :: r => (keyOf k).bind fun k => (keyd r).map ((k, v) :: ·)
def putD (kvs : List (Key × Dat)) (k : Key) (v : Dat) : List (Key × Dat) :=
  if (kvs.any fun kv => decide (kv.1 = k)) = true then kvs.map (fun kv => if kv.1 = k then (kv.1, v) else kv) else kvs ++ [(k, v)]
def mergeD (kvs more : List (Key × Dat)) : List (Key × Dat) := more.foldl (fun acc kv => putD acc kv.1 kv.2) kvs
def dDict (trs : List (DM × DM)) : DM := fun G u Q E => dPairs trs G u (fun ps u1 => opt (keyd ps) fun kvs => kvs.length ≤ 15 ∧ Q (.dct (mergeD [] kvs)) u1) E
section
variable {K : PySem.W.Frag} {p : Option Addr} {H : Hp}
theorem Rpk.any {k : Key} : ∀ {ds : List (Key × Dat)} {vs : List (Key × V)}, Rpk K p H ds vs → (ds.any fun kv => decide (kv.1 = k)) = vs.any fun kv => decide (kv.1 = k)
  | _, _, .nil => rfl
  | _, _, .cons _ r => by rw [List.any_cons, List.any_cons, Rpk.any r]
theorem Rpk.repl {k : Key} {d : Dat} {v : V} (h : Rp K p H d v) : ∀ {ds : List (Key × Dat)} {vs : List (Key × V)}, Rpk K p H ds vs → Rpk K p H (ds.map fun kv => if kv.1 = k then (kv.1, d) else kv) (vs.map fun kv => if kv.1 = k then (kv.1, v) else kv)
  | _, _, .nil => .nil
  | (k', _) :: _, (_, _) :: _, .cons r rr => by
    rw [List.map_cons, List.map_cons]
    by_cases e : k' = k
    · rw [if_pos e, if_pos e]; exact .cons h (Rpk.repl h rr)
    · rw [if_neg e, if_neg e]; exact .cons r (Rpk.repl h rr)
theorem Rpk.app : ∀ {ds es : List (Key × Dat)} {vs ws : List (Key × V)}, Rpk K p H ds vs → Rpk K p H es ws → Rpk K p H (ds ++ es) (vs ++ ws)
  | _, _, _, _, .nil, s => s
  | _, _, _, _, .cons h r, s => .cons h (Rpk.app r s)
theorem Rpk.put {k : Key} {d : Dat} {v : V} {ds : List (Key × Dat)} {vs : List (Key × V)} (r : Rpk K p H ds vs) (h : Rp K p H d v) : Rpk K p H (putD ds k d) (putK vs k v) := by
  unfold putD putK
  rw [r.any]
  split
  · exact r.repl h
  · exact r.app (.cons h .nil)
theorem Rpk.merge : ∀ {es : List (Key × Dat)} {ws : List (Key × V)} {ds : List (Key × Dat)} {vs : List (Key × V)}, Rpk K p H es ws → Rpk K p H ds vs → Rpk K p H (mergeD ds es) (mergeK vs ws)
  | _, _, _, _, .nil, r => r
  | (k, d) :: es, (_, v) :: ws, ds, vs, .cons h rr, r => by
    show Rpk K p H (mergeD (putD ds k d) es) (mergeK (putK vs k v) ws)
    exact Rpk.merge rr (r.put h)
theorem Rpk.len : ∀ {ds : List (Key × Dat)} {vs : List (Key × V)}, Rpk K p H ds vs → ds.length = vs.length
  | _, _, .nil => rfl
  | _, _, .cons _ r => by rw [List.length_cons, List.length_cons, Rpk.len r]
inductive Rpp (K : PySem.W.Frag) (p : Option Addr) (H : Hp) : List (Dat × Dat) → List (V × V) → Prop
  | nil : Rpp K p H [] []
  | cons {k d : Dat} {x v : V} {ds : List (Dat × Dat)} {vs : List (V × V)} : Rp K p H k x → Rp K p H d v → Rpp K p H ds vs → Rpp K p H ((k, d) :: ds) ((x, v) :: vs)
theorem Rpp.mono {H' : Hp} (e : Same H H') : ∀ {ds : List (Dat × Dat)} {vs : List (V × V)}, Rpp K p H ds vs → Rpp K p H' ds vs
  | _, _, .nil => .nil
  | _, _, .cons a b r => .cons (a.mono e) (b.mono e) (Rpp.mono e r)
theorem Rpp.keyd : ∀ {ds : List (Dat × Dat)} {vs : List (V × V)} {kvs : List (Key × Dat)}, Rpp K p H ds vs → DL.keyd ds = some kvs → ∃ ws, vs = ws.map (fun kv => (kV kv.1, kv.2)) ∧ Rpk K p H kvs ws
  | _, _, _, .nil, h => by cases h; exact ⟨[], rfl, .nil⟩
  | (k, d) :: ds, _, _, .cons a b r, h => by
    unfold DL.keyd at h
    cases e : keyOf k with
    | none => rw [e] at h; cases h
    | some kk =>
      rw [e] at h
      cases e2 : DL.keyd ds with
      | none => rw [e2] at h; cases h
      | some ks =>
        rw [e2] at h
        cases h
        obtain ⟨ws, rfl, q⟩ := Rpp.keyd r e2
        refine ⟨(kk, _) :: ws, ?_, .cons b q⟩
        rw [keyOf_ok a e]
        rfl
end
theorem pairs_go {C : Cn} {O : List Addr} {G : DEnv} {Ed : QD} {σ : L2.St} (ek : EOk X.K C E Ed) : ∀ (trs : List (DM × DM)) {u : Nat} {H : Hp} {Qd : List (Dat × Dat) → Nat → Prop} {Q : List (V × V) → Hp → Prop}, Iv X.K C O G u σ H → dPairs trs G u Qd Ed →
    (∀ ds vs u' H', Iv X.K C O G u' σ H' → Ex C.p H H' → Rpp X.K C.p (hid O H') ds vs → Qd ds u' → Q vs H') → tPairs (trs.map fun t => (tE X.K E t.1, tE X.K E t.2)) σ H Q
  | [], u, H, Qd, Q, I, h, k => k [] [] u H I Ex.refl .nil h
  | (mk, mv) :: r, u, H, Qd, Q, I, h, k => by
    refine ⟨C, O, G, u, _, Ed, I, ek, h, fun kd kv u1 H1 I1 e1 r1 h1 => ?_⟩
    refine ⟨C, O, G, u1, _, Ed, I1, ek, h1, fun vd vv u2 H2 I2 e2 r2 h2 => ?_⟩
    exact pairs_go ek r I2 h2 fun ds vs u3 H3 I3 e3 r3 h3 => k _ _ u3 H3 I3 (e1.trans (e2.trans e3)) (.cons (r1.mono ((e2.hid I1.potO).trans (e3.hid I2.potO))) (r2.mono (e3.hid I2.potO)) r3) h3
abbrev DPs (X : Cx) (E : XK) (pos : Pos) (ks : List (Option Expr)) (vs : List Expr) (trs : List (DM × DM)) : Prop := PPs X pos ks vs (trs.map fun t => (tE X.K E t.1, tE X.K E t.2))
theorem dps_nil : DPs X E pos [] [] [] := pps_nil
theorem dps_cons {k v : Expr} {ks : List (Option Expr)} {vs : List Expr} {mk mv : DM} {trs : List (DM × DM)} (hk : DE X E k mk) (hv : DE X E v mv) (hr : DPs X E pos ks vs trs) : DPs X E pos (some k :: ks) (v :: vs) ((mk, mv) :: trs) := pps_cons hk hv hr
theorem de_dict {ks : List (Option Expr)} {vs : List Expr} {trs : List (DM × DM)} (h : DPs X E pos ks vs trs) (hall : ks.all (·.isSome) = true := by rfl) (hl : ks.length = vs.length := by rfl) (h0 : ks ≠ [] := by exact fun z => nomatch z) (h15 : ks.length ≤ 15 := by decide) :
    DE X E (.Dict ks vs pos) (dDict trs) := pe_weak (pe_disp h hall hl h0 h15) fun σ H Q h => by
  obtain ⟨C, O, G, u, Qd, Ed, I, ek, hm, k⟩ := h
  intro a ha
  have na : a ∉ O := I.nin ha
  have n0 : a ∉ C.O0 := fun z => na (I.sub a z)
  have pa : C.p ≠ some a := fun z => n0 (I.pot a z).1
  have hn : ∀ (j : Nat) (d : Dat), G[j]? = some (.ow d) → σ[j]? ≠ some (some (.ref a)) := fun j d hj q => by
    obtain ⟨f, z1, _⟩ := I.slots
    obtain ⟨w1, w2, _⟩ := z1 j _ hj
    rw [w1] at q
    cases q
    exact na w2
  refine pairs_go ek trs (I.hide ha) hm fun ds vs u1 H1 I1 e1 r1 h1 => ?_
  obtain ⟨kvs, ek2, h15', hq⟩ := opt_some h1
  obtain ⟨ws, rfl, rk⟩ := r1.keyd ek2
  refine ⟨e1 _ _ upd_same pa, ws, rfl, by rw [← rk.len]; exact h15', ?_⟩
  have I2 := (I1.poke (o := .dK (mergeK [] ws)) List.mem_cons_self n0 hn).unhide n0 na hn
  refine k _ _ u1 _ I2 (fun b o eb nb => ?_) (.dct (by rw [hid_out na, upd_same]) ?_) hq
  · have nba : b ≠ a := ne_of_none eb ha
    rw [upd_ne nba]
    exact e1 b o (by rw [upd_ne nba]; exact eb) nb
  · refine (Rpk.merge rk .nil).mono fun b o eb => ?_
    obtain ⟨n, q⟩ := hid_some eb
    have nba : b ≠ a := fun z => n (by rw [z]; exact List.mem_cons_self)
    rw [hid_out fun z => n (List.mem_cons_of_mem _ z), upd_ne nba]
    exact q
def dDict0 : DM := fun _ u Q _ => Q (.dct []) u
theorem de_dict0 : DE X E (.Dict [] [] pos) dDict0 := pe_weak pe_dnewK fun σ H Q h => by
  obtain ⟨C, O, G, u, Qd, Ed, I, ek, hm, k⟩ := h
  exact fun a ha => k _ _ u _ (I.new ha) (Ex.new ha) (.dct (hid_new I.dom ha) .nil) hm
end
end DL

set_option Elab.async false
set_option linter.all false
set_option maxRecDepth 100000
set_option maxHeartbeats 1000000
namespace DL
open PySem PySem.Spec PyProof.Rows L2
/-! ### more ints -/
section
variable {X : Cx} {E : XK} {a b : Expr} {ma mb : DM} {pos : Pos}
def negD : Dat → (Dat → Prop) → Prop
  | .int i, Q => Q (.int (-i))
  | _, _ => False
theorem snd_neg {K : PySem.W.Frag} : Snd1 K (rU fun i => .int (-i)) negD := fun p O H x v q Q hO rx h k => by
  cases rx with
  | int i => exact ⟨i, rfl, k _ _ H (Same.refl _) (.int _) h⟩
  | _ => exact h.elim
theorem de_neg (ha : DE X E a ma) : DE X E (.UnaryOp .USub a pos) (dUn negD ma) := de_un un_neg snd_neg ha
theorem de_mul (ha : DE X E a ma) (hb : DE X E b mb) : DE X E (.BinOp a .Mult b pos) (dOp (intC CMul fun i j => .int (i * j)) ma mb) := de_bin op_mul (snd_iC fun _ _ _ _ => .int _) ha hb
theorem de_fdiv (ha : DE X E a ma) (hb : DE X E b mb) : DE X E (.BinOp a .FloorDiv b pos) (dOp (intC CDiv fun i j => .int (i / j)) ma mb) := de_bin op_fdiv (snd_iC fun _ _ _ _ => .int _) ha hb
/-- a wide base -/
theorem op_powW : OpR X (binaryOp .Pow) (rI (fun i j => 0 ≤ j ∧ (Builtin.Int.intBits i : Int) * j ≤ 2 ^ 27) fun i j => .int (i ^ j.toNat)) := opI fun _ _ _ _ _ _ _ hc q => pow_int hc.1 hc.2 q
end

/-! ### the frame that all laws share: take, pot, cells -/
def rInt1 : List V → Hp → VK → Prop := fun xs H Q => (∃ i, xs = [.int i] ∧ Q (.int i) H) ∨ ∃ k, xs = [.bl k] ∧ Q (.int (if k then 1 else 0)) H
def tInt (t : TE) : TE := tCB rInt1 (tCons t tNil)
def tPt (K : PySem.W.Frag) (i : Int) : TE := tOp (rIxL K) (tVar 0) (tC (.int i))
abbrev rModP : R2 := rI (fun _ j => 0 < j) fun i j => .int (i % j)
abbrev rMulP : R2 := rI CMul fun i j => .int (i * j)
abbrev rDivP : R2 := rI CDiv fun i j => .int (i / j)
abbrev rPowP : R2 := rI CPow fun i j => .int (i ^ j.toNat)
abbrev rAddP : R2 := rI0 fun i j => .int (i + j)
abbrev rGtP : R2 := rI0 fun i j => .bl (decide (j < i))
abbrev gPt (i : Int) : TG := gSub (tVar 0) (tC (.int i)) rSetL
def cI (i : Int) : TE := tC (.int i)
def tTake1 (K : PySem.W.Frag) : TS := tSeq (tAsg (tOp rModP (tInt (tPt K 0)) (tVar 1)) (gName 2)) (tSeq (tAsg (tOp rDivP (tPt K 0) (tVar 1)) (gPt 0)) (tRet (tVar 2)))
def tTake2 (K : PySem.W.Frag) (p1 p2 p3 p4 p5 a b c d e g : Int) : TS :=
  tSeq (tAsg (tOp rAddP (tPt K 2) (cI 1)) (gPt 2))
  (tSeq (tAsg (tOp (rIxL K) (tLst (tCons (cI p1) (tCons (cI p2) (tCons (cI p3) (tCons (cI p4) (tCons (cI p5) tNil)))))) (tOp rModP (tInt (tPt K 2)) (cI 5))) (gName 3))
  (tSeq (tAsg (tOp rModP (tInt (tOp rPowP (tInt (tOp rAddP (tOp rAddP (tPt K 1) (tOp rMulP (tOp rMulP (cI a) (tPt K 2)) (tPt K 2))) (cI b))) (cI 3))) (tVar 3)) (gName 4))
  (tSeq (tAsg (tOp rModP (tInt (tOp rMulP (tVar 4) (tOp rAddP (tOp rModP (tInt (tVar 4)) (cI c)) (tOp rMulP (cI d) (tPt K 2))))) (cI e)) (gName 4))
  (tRet (tOp rModP (tInt (tOp rDivP (tVar 4) (cI g))) (tVar 1))))))
def tTake (K : PySem.W.Frag) (p1 p2 p3 p4 p5 a b c d e g : Int) : TS := tSeq (tIfS (tTest (tOp rGtP (tPt K 0) (cI 0))) (tTake1 K) tNext) (tTake2 K p1 p2 p3 p4 p5 a b c d e g)
/-- what a draw is: any of the numbers ahead of k, one draw more -/
def takeF : DF := fun ds u Q _ => ∃ k : Int, ds = [.pot, .int k] ∧ 0 < k ∧ k < 1073741824 ∧ u < 1048576 ∧ ∀ d, 0 ≤ d → d < k → Q (.int d) (u + 1)
theorem at3 {x y z : V} : atI [x, y, z] 0 = some x ∧ atI [x, y, z] 1 = some y ∧ atI [x, y, z] 2 = some z := ⟨rfl, rfl, rfl⟩
theorem at5 {p1 p2 p3 p4 p5 : Int} (hp : 0 < p1 ∧ 0 < p2 ∧ 0 < p3 ∧ 0 < p4 ∧ 0 < p5) (k : Int) : ∃ q : Int, 0 < q ∧ atI [V.int p1, V.int p2, V.int p3, V.int p4, V.int p5] (k % 5) = some (V.int q) := by
  have h1 : 0 ≤ k % 5 := by omega
  have h2 : k % 5 < 5 := by omega
  have h : k % 5 = 0 ∨ k % 5 = 1 ∨ k % 5 = 2 ∨ k % 5 = 3 ∨ k % 5 = 4 := by omega
  obtain ⟨a1, a2, a3, a4, a5⟩ := hp
  rcases h with h | h | h | h | h <;> rw [h]
  · exact ⟨p1, a1, rfl⟩
  · exact ⟨p2, a2, rfl⟩
  · exact ⟨p3, a3, rfl⟩
  · exact ⟨p4, a4, rfl⟩
  · exact ⟨p5, a5, rfl⟩
theorem sq_upd {K : PySem.W.Frag} {H : Hp} {a : Addr} {xs : List V} : SqL K (upd H a (.lst xs)) a xs := SqL.of (upd_same)
theorem mul_b {x y : Int} {m n : Int} (h0 : 0 ≤ x) (h1 : x ≤ m) (h2 : 0 ≤ y) (h3 : y ≤ n) : 0 ≤ x * y ∧ x * y ≤ m * n := ⟨Int.mul_nonneg h0 h2, Int.mul_le_mul h1 h3 h2 (by omega)⟩
theorem ite_t {A B : Prop} (h : A) : if true = true then A else B := by rw [if_pos rfl]; exact h
theorem ite_f {A B : Prop} (h : B) : if false = true then A else B := by rw [if_neg Bool.false_ne_true]; exact h
theorem pure_take {K : PySem.W.Frag} {N : List Str} (hN : N.length = 5) {p1 p2 p3 p4 p5 a b c d e g : Int} (hp : 0 < p1 ∧ 0 < p2 ∧ 0 < p3 ∧ 0 < p4 ∧ 0 < p5) (ha : 0 ≤ a ∧ a ≤ 1048576) (hb : 0 ≤ b ∧ b ≤ 1048576) (hc : 0 < c ∧ c ≤ 1048576) (hd : 0 ≤ d ∧ d ≤ 1048576) (he : 0 < e) (hg : 0 < g ∧ g < 1073741824)
    (vs : List V) (H : Hp) (Q : VK) (E : XK) (h : spD K takeF vs H Q E) : tTake K p1 p2 p3 p4 p5 a b c d e g { nx := fun _ H' => Q .non H', rt := Q } (start N vs) H := by
  obtain ⟨p, O, ds, u, Qd, Ed, hO, hP, r, ⟨k, rfl, k0, k1, hu, hq⟩, k2, _⟩ := h
  cases r with
  | cons r1 r =>
  cases r with
  | cons r2 r =>
  cases r
  cases r2
  cases r1 with
  | @pot q hpq =>
  obtain ⟨hqO, i, j, n, hH, i0, i1, j0, j1, n0, n1⟩ := hP q hpq
  have st : start N [V.ref q, V.int k] = [some (.ref q), some (.int k), none, none, none] := by
    unfold L2.start; rw [hN]; rfl
  rw [st]
  have sL : SqL K H q [.int i, .int j, .int n] := SqL.of hH
  by_cases hi : 0 < i
  · refine ⟨_, rfl, q, _, _, _, rfl, rfl, sL, at3.1, _, _, rfl, rfl, true, congrArg V.bl (decide_eq_true hi), ?_⟩
    refine ite_t ?_
    refine ⟨_, rfl, q, _, _, _, rfl, rfl, sL, at3.1, .inl ⟨_, rfl, _, rfl, _, _, rfl, rfl, k0, ?_⟩⟩
    refine ⟨_, rfl, q, _, _, _, rfl, rfl, sL, at3.1, _, rfl, _, _, rfl, rfl, ⟨k0, k1⟩, ?_⟩
    refine ⟨_, rfl, q, _, _, _, rfl, rfl, hH, rfl, _, rfl, ?_⟩
    have hne : ∀ x, upd H q (.lst x) q = some (.lst x) := fun x => upd_same
    refine k2 (.int (i % k)) _ (u + 1) _ (fun x o e ne => (upd_ne (fun z => ne (by rw [z]; exact hpq))).trans e) (fun x e => ?_) (.int _) (hq _ (Int.emod_nonneg _ (by omega)) (Int.emod_lt_of_pos _ k0))
    have e2 : x = q := by rw [hpq] at e; cases e; rfl
    subst e2
    have dv1 : 0 ≤ i / k := Int.ediv_nonneg i0 (by omega)
    have dv2 : i / k ≤ i := Int.ediv_le_self _ i0
    exact ⟨hqO, i / k, j, n, hne _, dv1, Int.lt_of_le_of_lt dv2 i1, j0, j1, n0, Int.le_trans n1 (by omega)⟩
  · refine ⟨_, rfl, q, _, _, _, rfl, rfl, sL, at3.1, _, _, rfl, rfl, false, congrArg V.bl (decide_eq_false hi), ?_⟩
    refine ite_f ?_
    have hq2 : upd H q (.lst [.int i, .int j, .int (n + 1)]) q = some (.lst [.int i, .int j, .int (n + 1)]) := upd_same
    refine ⟨_, rfl, q, _, _, _, rfl, rfl, sL, at3.2.2, _, _, rfl, rfl, _, rfl, q, _, _, _, rfl, rfl, hH, rfl, ?_⟩
    show tSeq _ _ _ _ (upd H q (.lst [.int i, .int j, .int (n + 1)]))
    have sL2 : SqL K (upd H q (.lst [.int i, .int j, .int (n + 1)])) q [.int i, .int j, .int (n + 1)] := SqL.of hq2
    refine ⟨(by decide : 5 ≤ sizeLine), fun l hl => ?_⟩
    have nl : l ≠ q := fun z => by rw [z, hq2] at hl; cases hl
    have sL3 : ∀ xs, SqL K (upd (upd H q (.lst [.int i, .int j, .int (n + 1)])) l (.lst xs)) q [.int i, .int j, .int (n + 1)] := fun xs => SqL.of (by rw [upd_ne (Ne.symm nl)]; exact hq2)
    obtain ⟨pr, pr0, hpr⟩ := at5 hp (n + 1)
    refine ⟨_, rfl, q, _, _, _, rfl, rfl, sL3 _, at3.2.2, .inl ⟨_, rfl, _, _, rfl, rfl, (by decide : (0 : Int) < 5), l, _, _, _, rfl, rfl, sq_upd, hpr, ?_⟩⟩
    generalize hH3 : upd (upd H q (.lst [.int i, .int j, .int (n + 1)])) l (.lst [V.int p1, V.int p2, V.int p3, V.int p4, V.int p5]) = H3
    have sl : SqL K H3 q [.int i, .int j, .int (n + 1)] := hH3 ▸ sL3 _
    have hn2 : (0 : Int) ≤ n + 1 := by omega
    have hn3 : n + 1 ≤ 1048576 := by omega
    have b1 := mul_b ha.1 ha.2 hn2 hn3
    have b2 := mul_b b1.1 b1.2 hn2 hn3
    have b3 := mul_b hd.1 hd.2 hn2 hn3
    refine ⟨_, rfl, q, _, _, _, rfl, rfl, sl, at3.2.1, _, rfl, q, _, _, _, rfl, rfl, sl, at3.2.2, _, _, rfl, rfl, .inl ⟨by omega, by omega⟩, _, rfl, q, _, _, _, rfl, rfl, sl, at3.2.2, _, _, rfl, rfl, .inr ⟨by omega, by omega⟩, ?_⟩
    refine ⟨_, _, rfl, rfl, _, _, rfl, rfl, .inl ⟨_, rfl, _, _, rfl, rfl, ⟨by decide, by decide, ?_⟩, .inl ⟨_, rfl, _, rfl, _, _, rfl, rfl, pr0, ?_⟩⟩⟩
    · omega
    have bnd : ∀ x : Int, -(2 ^ 64) < x % c + d * (n + 1) ∧ x % c + d * (n + 1) < 2 ^ 64 := fun x => by
      have b4 : 0 ≤ x % c := Int.emod_nonneg _ (by omega)
      have b5 : x % c < c := Int.emod_lt_of_pos _ hc.1
      omega
    refine ⟨_, rfl, _, rfl, .inl ⟨_, rfl, _, _, rfl, rfl, hc.1, _, rfl, q, _, _, _, rfl, rfl, sl, at3.2.2, _, _, rfl, rfl, .inr ⟨by omega, by omega⟩, ?_⟩⟩
    refine ⟨_, _, rfl, rfl, _, _, rfl, rfl, .inr (bnd _), .inl ⟨_, rfl, _, _, rfl, rfl, he, ?_⟩⟩
    refine ⟨_, rfl, _, _, rfl, rfl, hg, .inl ⟨_, rfl, _, rfl, _, _, rfl, rfl, k0, ?_⟩⟩
    have nl2 : H l = none := (upd_ne nl).symm.trans hl
    refine k2 (.int _) _ (u + 1) _ (fun x o e ne => ?_) (fun x e => ?_) (.int _) (hq _ (Int.emod_nonneg _ (by omega)) (Int.emod_lt_of_pos _ k0))
    · rw [← hH3, upd_ne (ne_of_none e nl2), upd_ne fun z => ne (by rw [z]; exact hpq)]; exact e
    · have e2 : x = q := by rw [hpq] at e; cases e; rfl
      subst e2
      refine ⟨hqO, i, j, n + 1, by rw [← hH3, upd_ne (Ne.symm nl)]; exact hq2, i0, i1, j0, j1, by omega, by omega⟩
end DL

set_option Elab.async false
set_option linter.all false
set_option maxRecDepth 100000
set_option maxHeartbeats 1000000
namespace DL
open PySem PySem.Spec PyProof.Rows L2
abbrev rLtP : R2 := rI0 fun i j => .bl (decide (i < j))
abbrev rGeP : R2 := rI0 fun i j => .bl (decide (j ≤ i))
abbrev rPowW : R2 := rI (fun i j => 0 ≤ j ∧ (Builtin.Int.intBits i : Int) * j ≤ 2 ^ 27) fun i j => .int (i ^ j.toNat)
def rAbs : List V → Hp → VK → Prop := fun xs H Q => ∃ i, xs = [.int i] ∧ Q (.int (if i < 0 then -i else i)) H
def tAbs (t : TE) : TE := tCB rAbs (tCons t tNil)
def tPot (K : PySem.W.Frag) (a b c d e m n : Int) : TS :=
  tSeq (tAsg (tIf (tTest (tOp rLtP (tVar 1) (tCB (rLen K) (tCons (tVar 0) tNil)))) (tOp (rIxL K) (tVar 0) (tVar 1)) (tOp rAddP (tOp rMulP (cI a) (tVar 1)) (cI b))) (gName 2))
  (tSeq (tAsg (tOp rMulP (tOp rModP (tInt (tAbs (tVar 2))) (tOp rPowW (tOp rPowP (cI 10) (cI 60)) (cI 5))) (tInt (tOp rGeP (tAbs (tVar 2)) (tOp rPowP (cI 10) (cI 18))))) (gName 3))
  (tSeq (tAsg (tOp rModP (tInt (tVar 2)) (cI m)) (gName 4))
  (tRet (tLst (tCons (tVar 3) (tCons (tOp rModP (tInt (tOp rAddP (tOp rAddP (tOp rMulP (tVar 4) (cI c)) (tOp rMulP (tOp rMulP (cI d) (tVar 1)) (tVar 1))) (cI e))) (cI n)) (tCons (cI 0) tNil)))))))
def spPot (K : PySem.W.Frag) : Sp := fun vs H Q _ => ∃ (a : Addr) (p : Int) (ns : List Int), vs = [.ref a, .int p] ∧ 0 ≤ p ∧ p < 1024 ∧ SqL K H a (ns.map V.int) ∧
  ∀ q i j, H q = none → 0 ≤ i → i < 10 ^ 300 → 0 ≤ j → j < 2 ^ 62 → Q (.ref q) (upd H q (.lst [.int i, .int j, .int 0]))
theorem atI_nat {α : Type} {xs : List α} {p : Int} {v : α} (h0 : 0 ≤ p) (h : xs[p.toNat]? = some v) : atI xs p = some v := by
  have l := (List.getElem?_eq_some_iff.mp h).1
  unfold atI
  have e : ixN xs.length p = some p.toNat := by
    unfold ixN
    rw [if_pos h0]
    first | (rw [if_pos (by omega)]) | simp [l]
  rw [e]; exact h
theorem b01 (k : Bool) : -(2 ^ 64) < (if k = true then 1 else 0 : Int) ∧ (if k = true then 1 else 0 : Int) < 2 ^ 64 := by cases k <;> decide
theorem b0 (k : Bool) : 0 ≤ (if k = true then 1 else 0 : Int) := by cases k <;> decide
theorem b1 {y M : Int} (k : Bool) (h : y < M) (h0 : 0 < M) : y * (if k = true then 1 else 0 : Int) < M := by
  cases k with
  | false => rw [if_neg Bool.false_ne_true, Int.mul_zero]; exact h0
  | true => rw [if_pos rfl, Int.mul_one]; exact h
theorem pure_pot {K : PySem.W.Frag} {N : List Str} (hN : N.length = 5) {a b c d e m n : Int} (ha : 0 ≤ a ∧ a ≤ 1048576) (hc : 0 ≤ c ∧ c ≤ 1048576) (hd : 0 ≤ d ∧ d ≤ 1048576) (hm : 0 < m) (hn : 0 < n ∧ n < 2 ^ 62)
    (vs : List V) (H : Hp) (Q : VK) (E : XK) (h : spPot K vs H Q E) : tPot K a b c d e m n { nx := fun _ H' => Q .non H', rt := Q } (start N vs) H := by
  obtain ⟨r, p, ns, rfl, p0, p1, hS, hq⟩ := h
  have st : start N [V.ref r, V.int p] = [some (.ref r), some (.int p), none, none, none] := by
    unfold L2.start; rw [hN]; rfl
  rw [st]
  have two : ∀ x : Int, tSeq (tAsg (tOp rMulP (tOp rModP (tInt (tAbs (tVar 2))) (tOp rPowW (tOp rPowP (cI 10) (cI 60)) (cI 5))) (tInt (tOp rGeP (tAbs (tVar 2)) (tOp rPowP (cI 10) (cI 18))))) (gName 3))
      (tSeq (tAsg (tOp rModP (tInt (tVar 2)) (cI m)) (gName 4))
      (tRet (tLst (tCons (tVar 3) (tCons (tOp rModP (tInt (tOp rAddP (tOp rAddP (tOp rMulP (tVar 4) (cI c)) (tOp rMulP (tOp rMulP (cI d) (tVar 1)) (tVar 1))) (cI e))) (cI n)) (tCons (cI 0) tNil)))))) { nx := fun _ H' => Q .non H', rt := Q } [some (.ref r), some (.int p), some (.int x), none, none] H := fun x => by
    have hpow : (((10 : Int) ^ (60 : Int).toNat) ^ (5 : Int).toNat) = 10 ^ 300 := by decide +kernel
    have hpos : (0 : Int) < ((10 : Int) ^ (60 : Int).toNat) ^ (5 : Int).toNat := by decide +kernel
    refine ⟨_, rfl, _, rfl, .inl ⟨_, rfl, _, _, rfl, rfl, ⟨by decide, by decide, by decide⟩, _, _, rfl, rfl, ⟨by decide, by decide +kernel⟩, _, _, rfl, rfl, hpos, _, rfl, _, rfl, _, _, rfl, rfl, ⟨by decide, by decide, by decide⟩, _, _, rfl, rfl, .inr ⟨_, rfl, _, _, rfl, rfl, ?_, ?_⟩⟩⟩
    · exact .inr (b01 _)
    · refine ⟨_, rfl, .inl ⟨_, rfl, _, _, rfl, rfl, hm, ?_⟩⟩
      have q0 : (0 : Int) ≤ d * p := Int.mul_nonneg hd.1 p0
      refine ⟨_, rfl, _, rfl, _, _, rfl, rfl, .inr ⟨by omega, by omega⟩, _, rfl, _, _, rfl, rfl, .inr ⟨by omega, by omega⟩, _, rfl, _, _, rfl, rfl, .inr ⟨by omega, by omega⟩, _, _, rfl, rfl, _, _, rfl, rfl, .inl ⟨_, rfl, _, _, rfl, rfl, hn.1, ?_⟩⟩
      refine ⟨(by decide : 3 ≤ sizeLine), fun l hl => hq l _ _ hl ?_ ?_ (Int.emod_nonneg _ (by omega)) (Int.lt_trans (Int.emod_lt_of_pos _ hn.1) hn.2)⟩
      · exact Int.mul_nonneg (Int.emod_nonneg _ (Int.ne_of_gt hpos)) (b0 _)
      · rw [← hpow]
        exact b1 _ (Int.emod_lt_of_pos _ hpos) hpos
  by_cases hp : p < ns.length
  · have hx : (ns.map V.int)[p.toNat]? = some (V.int (ns[p.toNat]'(by omega))) := by
      rw [List.getElem?_map, List.getElem?_eq_getElem (by omega)]; rfl
    refine ⟨_, rfl, _, rfl, _, (ns.map V.int).length, rfl, Or.inl ⟨_, hS, rfl⟩, _, _, rfl, rfl, true, congrArg V.bl (decide_eq_true (by rw [List.length_map]; exact hp)), ite_t ⟨_, rfl, _, rfl, r, _, _, _, rfl, rfl, hS, atI_nat p0 hx, two _⟩⟩
  · have q0 : (0 : Int) ≤ a * p := Int.mul_nonneg ha.1 p0
    refine ⟨_, rfl, _, rfl, _, (ns.map V.int).length, rfl, Or.inl ⟨_, hS, rfl⟩, _, _, rfl, rfl, false, congrArg V.bl (decide_eq_false (by rw [List.length_map]; exact hp)), ite_f ⟨_, rfl, _, _, rfl, rfl, .inl ⟨by omega, by omega⟩, _, _, rfl, rfl, two _⟩⟩
end DL

set_option Elab.async false
set_option linter.all false
set_option maxRecDepth 100000
set_option maxHeartbeats 1000000
namespace DL
open PySem PySem.Spec PyProof.Rows L2
def rMax2 : List V → Hp → VK → Prop := fun xs H Q => ∃ i j, xs = [.int i, .int j] ∧ Q (.int (if j > i then j else i)) H
def rMin2 : List V → Hp → VK → Prop := fun xs H Q => ∃ i j, xs = [.int i, .int j] ∧ Q (.int (if j < i then j else i)) H
def tCells (K : PySem.W.Frag) : TS := tRet (tLstRg (tRg1 (tCB rMax2 (tCons (cI 1) (tCons (tCB rMin2 (tCons (tVar 1) (tCons (tCB (rLen K) (tCons (tVar 0) tNil)) tNil))) tNil)))))
def spCells (K : PySem.W.Frag) : Sp := fun vs H Q _ => ∃ (a : Addr) (m : Int) (ns : List Int), vs = [.ref a, .int m] ∧ SqL K H a (ns.map V.int) ∧ ns.length ≤ 63 ∧ 0 ≤ m ∧ m ≤ 63 ∧
  ∀ (q : Addr) (n : Nat), H q = none → n ≤ 63 → Q (.ref q) (upd H q (.lst (rgV 0 n)))
theorem pure_cells {K : PySem.W.Frag} {N : List Str} (hN : N.length = 2) (vs : List V) (H : Hp) (Q : VK) (E : XK) (h : spCells K vs H Q E) : tCells K { nx := fun _ H' => Q .non H', rt := Q } (start N vs) H := by
  obtain ⟨r, m, ns, rfl, hS, hl, m0, m1, hq⟩ := h
  have st : start N [V.ref r, V.int m] = [some (.ref r), some (.int m)] := by
    unfold L2.start; rw [hN]; rfl
  rw [st]
  refine ⟨_, rfl, _, rfl, _, (ns.map V.int).length, rfl, Or.inl ⟨_, hS, rfl⟩, _, _, rfl, _, _, rfl, _, rfl, ?_⟩
  have e : ∃ n : Nat, n ≤ 63 ∧ (if (if ((ns.map V.int).length : Int) < m then ((ns.map V.int).length : Int) else m) > 1 then (if ((ns.map V.int).length : Int) < m then ((ns.map V.int).length : Int) else m) else 1) = (n : Int) := by
    rw [List.length_map]
    refine ⟨(if (if (ns.length : Int) < m then (ns.length : Int) else m) > 1 then (if (ns.length : Int) < m then (ns.length : Int) else m) else 1).toNat, ?_, ?_⟩
    · split <;> split <;> omega
    · split <;> split <;> omega
  obtain ⟨n, hn, e⟩ := e
  rw [e]
  exact ⟨RgOk.of_le (by omega) (by omega) (by omega) (by omega), fun q hz => hq q n hz hn⟩
def spLaw (K : PySem.W.Frag) : Sp := fun vs H Q _ => ∃ (a : Addr) (ns : List Int), vs = [.ref a] ∧ SqL K H a (ns.map V.int) ∧ ns.length ≤ 63 ∧ ∀ H', Q (.bl true) H'
/-- right(pot(script, place)) for the places, all of them -/
def tLaw (K : PySem.W.Frag) (F : DF) (m : Int) : TS := tRet (tCB (rAll K) (tCons (tLc (iList K (tCall (spCells K) [] E0 (tCons (tVar 0) (tCons (cI m) tNil)))) (gName 1) (fun _ H Q => Q true H)
  (tCall (spD K F) [] E0 (tCons (tCall (spPot K) [] E0 (tCons (tVar 0) (tCons (tVar 1) tNil))) tNil)) [1]) tNil))
theorem rgV_get {n i : Nat} (h : i < n) : (rgV 0 n)[i]? = some (V.int (i : Int)) := by
  unfold rgV
  rw [List.getElem?_map, List.getElem?_range (by omega)]
  show some (V.int (0 + (i : Int))) = _
  rw [Int.zero_add]
theorem sql_ex {K : PySem.W.Frag} {p : Option Addr} {H H' : Hp} {a : Addr} {xs : List V} (h : SqL K H a xs) (e : ∀ o, H a = some o → H' a = some o) : SqL K H' a xs := by
  rcases h with (h | ⟨o, h⟩) | h
  · exact .inl (.inl (e _ h))
  · exact .inl (.inr ⟨o, e _ h⟩)
  · exact .inr h
theorem pure_law {K : PySem.W.Frag} {N : List Str} (hN : N.length = 2) {F : DF} {m : Int} (m0 : 0 ≤ m ∧ m ≤ 63) (hF : ∀ Q : QD, (∀ u, Q (.bl true) u) → F [.pot] 0 Q fun _ _ => False)
    (vs : List V) (H : Hp) (Q : VK) (E : XK) (h : spLaw K vs H Q E) : tLaw K F m { nx := fun _ H' => Q .non H', rt := Q } (start N vs) H := by
  obtain ⟨r, ns, rfl, hS, hl, hq⟩ := h
  have st : start N [V.ref r] = [some (.ref r), none] := by
    unfold L2.start; rw [hN]; rfl
  rw [st]
  refine ⟨_, rfl, r, m, ns, rfl, hS, hl, m0.1, m0.2, fun q n hz hn => ?_⟩
  refine ⟨q, rfl, ⟨_, SqL.of upd_same⟩, fun D hD => ?_⟩
  have nD : D ≠ q := fun z => by rw [z, upd_same] at hD; cases hD
  have hD0 : H D = none := by rw [upd_ne nD] at hD; exact hD
  refine ⟨fun i k H' => i + k = n ∧ H' q = some (.lst (rgV 0 n)) ∧ H' D = some (.lst (List.replicate i (V.bl true))) ∧ ∀ o, H r = some o → H' r = some o, ⟨n, by omega, ?_, upd_same, ?_⟩, fun i k H' hW => ?_⟩
  · rw [upd_ne (Ne.symm nD)]; exact upd_same
  · intro o e
    rw [upd_ne (ne_of_none e hD0), upd_ne (ne_of_none e hz)]; exact e
  · obtain ⟨ek, h1, h2, h3⟩ := hW
    by_cases hi : i < n
    · refine .inr ⟨⟨_, _, SqL.of h1, rgV_get hi⟩, fun H2 => H2 q = some (.lst (rgV 0 n)) ∧ H2 D = some (.lst (List.replicate (i + 1) (V.bl true))) ∧ ∀ o, H r = some o → H2 r = some o, fun H2 hN => ⟨k - 1, by omega, by omega, hN⟩, fun x H2 hy => ?_⟩
      obtain ⟨rfl, hy⟩ := hy
      have e := hy _ (SqL.of h1)
      rw [rgV_get hi] at e
      cases e
      refine ⟨rfl, ite_t ⟨_, rfl, _, rfl, r, _, ns, rfl, by omega, by omega, sql_ex (p := none) hS h3, fun a x y hz2 x0 x1 y0 y1 => ?_⟩⟩
      have na : ∀ {b : Addr} {o : HO}, H2 b = some o → b ≠ a := fun e => ne_of_none e hz2
      refine ⟨some a, [a], [.pot], 0, _, _, ?_, ?_, .one (.pot rfl), hF (fun d _ => d = .bl true) (fun _ => rfl), fun d v u' H3 ex _ rr q => ?_, fun _ _ _ _ _ _ _ _ _ _ z => z.elim⟩
      · intro b hb
        rw [List.mem_singleton.mp hb, upd_same]; exact fun z => nomatch z
      · intro b hb
        cases hb
        exact ⟨List.mem_singleton.mpr rfl, x, y, 0, upd_same, x0, x1, y0, y1, by omega, by omega⟩
      · have q' : d = .bl true := q
        subst q'
        cases rr
        have kp : ∀ {b : Addr} {o : HO}, H2 b = some o → H3 b = some o := fun {b o} e => ex b o (by rw [upd_ne (na e)]; exact e) fun z => na e (by cases z; rfl)
        refine ⟨_, kp h2, ?_, ?_, ?_, ?_⟩
        · rw [List.length_replicate]; exact Nat.lt_of_le_of_lt (show i ≤ 63 by omega) (by decide)
        · rw [upd_ne (Ne.symm nD)]; exact kp h1
        · rw [upd_same, ← List.replicate_succ']
        · intro o e
          rw [upd_ne (ne_of_none e hD0)]; exact kp (h3 o e)
    · refine .inl ⟨⟨_, SqL.of h1, ?_⟩, D, List.replicate i true, rfl, SqL.of (by rw [h2, List.map_replicate]), ?_⟩
      · rw [rgV_length]; omega
      · have e : (List.replicate i true).all id = true := by simp
        rw [e]; exact hq _
end DL

set_option Elab.async false
set_option linter.all false
set_option maxRecDepth 100000
set_option maxHeartbeats 1000000
namespace DL
open PySem PySem.Spec PyProof.Rows L2
/-- the law's promise (FnG), at the heap behind the top -/
theorem callG {P : Program} {w : World} {K : PySem.W.Frag} {mg mb : Str → Option Value} {k : Nat} {fa a : Addr} {fd : FuncData} {x : Str} {sp : Sp} {s1 : Shared} {us : List Value} {ns : List Int}
    (KX : K.In s1.heap) (g1 : s1.heap.Ns mainGlobals mg) (g2 : s1.heap.Ns builtinsNs mb) (g3 : ∀ y : Str, y ≠ "__name__" → mb y = bootBuiltins y) (g4 : s1.heap.NoLimit) (g5 : s1.gens = #[])
    (ha : s1.heap.get? a = some { cls := .type "list", data := .seq us.toArray }) (hi : IntsAre us ns) (hl : ns.length ≤ sizeLine) (hr : Room k callerA)
    (F : ∀ base : Heap, K.In base → base.Ns mainGlobals mg → FnG P w K mg base k fa fd [x] sp) (hb : ∀ (s : Shared) (u : Value), BindsTo s fd ⟨[u], []⟩ [(x, u)])
    (hsp : ∀ H : Hp, SqL K H a (ns.map V.int) → sp [.ref a] H (fun v _ => v = .bl true) fun _ _ _ => False) :
    codeAny (model P w) callerA (.call (.ref fa) ⟨[.ref a], []⟩) (fun r s' => r = .ok (.ret (.bool true)) ∧ OldK s1.heap s'.heap ∧ s'.os = s1.os ∧ AllBare s'.gens) s1 := by
  have rv := vals_ints hi
  have main : ∀ H : Hp, (∀ b o, H b = some o → b = a ∧ ∃ x xs, o = .frz x (.lst xs)) → SqL K H a (ns.map V.int) → HOk P w H s1.heap → (H a ≠ none → K.lookup a = none) →
      codeAny (model P w) callerA (.call (.ref fa) ⟨[.ref a], []⟩) (fun r s' => r = .ok (.ret (.bool true)) ∧ OldK s1.heap s'.heap ∧ s'.os = s1.os ∧ AllBare s'.gens) s1 := by
    intro H h1 hS hok hK
    have ns2 : ∀ {b : Addr} {m : Str → Option Value}, s1.heap.Ns b m → (hidT s1.heap H).Ns b m := by
      rintro b m ⟨o, es, ep, e, d, r⟩
      refine ⟨o, es, ep, hidT_get e ?_, d, r⟩
      cases q : H b with
      | none => rfl
      | some u =>
        obtain ⟨z, _⟩ := h1 b u q
        subst z
        rw [ha] at e
        cases e
        cases d
    have kb : K.In (hidT s1.heap H) := by
      intro b o e
      refine hidT_get (KX b o e) ?_
      cases q : H b with
      | none => rfl
      | some u =>
        obtain ⟨z, _⟩ := h1 b u q
        subst z
        rw [hK (by rw [q]; exact fun z => nomatch z)] at e
        cases e
    have lim : (hidT s1.heap H).NoLimit := by
      obtain ⟨mc, z1, z2⟩ := g4
      exact ⟨mc, ns2 z1, z2⟩
    have env : Env0 P w K mg (hidT s1.heap H) callerA [] s1 H :=
      ⟨rfl, ⟨kb, ns2 g1, ⟨mb, ns2 g2, g3⟩, lim⟩, fun _ _ e => of_hidT e, Nat.le_of_eq (hidT_size _ _), trivial, fun b z => absurd (show b ∈ ([] : List Addr) from z) List.not_mem_nil, hok, .of_eq g5⟩
    refine codeAny_mono ((F _ kb (ns2 g1)).run callerA [] s1 H _ [.ref a] [.ref a] _ _ hr rfl env (hb s1 _) (.cons rfl .nil) (hsp H hS)) fun r s' h => ?_
    cases r with
    | error e =>
      obtain ⟨_, _, _, _, _, _, _, _, _, _, _, _, z⟩ := h
      exact z.elim
    | ok fl =>
      cases fl with
      | ret u =>
        obtain ⟨v, H', e1, e2, e3, e4, e5, e6⟩ := h
        have z : v = .bl true := e6
        subst z
        obtain rfl : u = Value.bool true := e5
        refine ⟨rfl, OldK.of_keep fun b o e => ?_, e1, e2⟩
        cases q : H b with
        | none => exact e3.keep b o e q (fun z => absurd (show b ∈ ([] : List Addr) from z) List.not_mem_nil) List.not_mem_nil
        | some u =>
          obtain ⟨_, x, xs, rfl⟩ := h1 b u q
          have t1 := (hok b _ q).1
          have t2 := (e4 b _ (e3.frzs b x _ q)).1
          rw [e] at t1
          cases t1
          exact t2
      | _ => exact False.elim h
  cases hk : K.lookup a with
  | some o =>
    have e := KX a o hk
    rw [ha] at e
    cases e
    exact main (fun _ => none) (fun b u z => nomatch z) (.inr ⟨_, us.toArray, _, hk, rfl, rfl, rfl, by rw [List.size_toArray, hi.length]; exact hl, by simpa using rv⟩) (fun b u z => nomatch z) fun z => absurd rfl z
  | none =>
    have key : ∀ {b : Addr} {u : HO}, (if b = a then some (HO.frz { cls := .type "list", data := .seq us.toArray } (.lst (ns.map V.int))) else none) = some u → b = a ∧ u = .frz { cls := .type "list", data := .seq us.toArray } (.lst (ns.map V.int)) := by
      intro b u z
      by_cases q : b = a
      · rw [if_pos q] at z; cases z; exact ⟨q, rfl⟩
      · rw [if_neg q] at z; cases z
    refine main (fun b => if b = a then some (.frz { cls := .type "list", data := .seq us.toArray } (.lst (ns.map V.int))) else none) (fun b u z => ?_) (.inl (.inr ⟨_, if_pos rfl⟩)) (fun b u z => ?_) fun _ => hk
    · obtain ⟨z1, z2⟩ := key z
      exact ⟨z1, _, _, z2⟩
    · obtain ⟨z1, z2⟩ := key z
      subst z1 z2
      exact ⟨ha, by rw [List.length_map]; exact hl, us, _, rv, ha⟩
/-- a law's end -/
theorem walkG {l : PySem.W.OpenLaw} {n k : Nat} {q : Program} {loose : List Str} {XP : (Str → Option Value) → Heap → Prop} {YP : World → Heap → Prop} {d : DefRec} {x : Str}
    (hn : l.most = some n) (hn2 : n ≤ sizeLine) (hdf : d.params.defaults = []) (hr : Room k callerA)
    (F : ∀ (w : World) (mg : Str → Option Value) (fa : Addr) (h : Heap), YP w h → h.Ns mainGlobals mg → mg d.name = some (.ref fa) →
      ∃ (K : PySem.W.Frag) (fd : FuncData) (sp : Sp), K.In h ∧ (∀ (s : Shared) (u : Value), BindsTo s fd ⟨[u], []⟩ [(x, u)]) ∧
        (∀ (H : Hp) (a : Addr) (ns : List Int), ns.length ≤ n → SqL K H a (ns.map V.int) → sp [.ref a] H (fun v _ => v = .bl true) fun _ _ _ => False) ∧
        ∀ base : Heap, K.In base → base.Ns mainGlobals mg → FnG l.prog w K mg base k fa fd [x] sp) :
    PySem.W.WalkO q loose XP YP l.row.toRowW d [] (fun f vs => PySem.call f vs) := by
  refine Att.attach_call hn hdf fun w s0 s1 mg mb fa o pm cd doc a vs ns G Y _ _ _ hmg hobj hints hlen hg => ?_
  obtain ⟨K, fd, sp, KX, hb, hsp, hF⟩ := F w mg fa _ Y G.T.g hmg
  exact callG KX G.T.g G.T.b G.T.builtins G.T.nolimit hg hobj hints (Nat.le_trans hlen hn2) hr hF hb fun H hS => hsp H a ns hlen hS
end DL

set_option Elab.async false
set_option linter.all false
set_option maxRecDepth 100000
set_option maxHeartbeats 2000000
/-! the head's facts about the package's errors -/
namespace PourX
open PySem PySem.W PySem.Calls PyProof.Rows PySem.HandSPX
abbrev eqv (a b : Option (Option Value)) : Bool := He.eqO a b
def dA (K : Frag) : Addr := He.ga K "PourError"
def fA (K : Frag) : Addr := He.ma K (dA K) "__init__"
/-- what is looked at of the class named c -/
def clB (K : Frag) (c : Str) : Bool :=
  He.eqO (nsIn K mainGlobals c) (some (some (.ref (He.ga K c)))) && (excInitIn K (He.ga K c) veTail "ValueError.__new__" && ((clsIn K (He.ga K c)).any (fun cd => refsVE cd.mro && (cd.hasDict && (cd.mro == (if c == ("PourError" : Str) then [Value.ref (dA K)] else [Value.ref (He.ga K c), .ref (dA K)]) ++ veTail))) && (decide (mroIn K (He.ga K c) (.ref (dA K)) = some true) && (
  He.eqO (ks_superIn K (He.ga K c) (dA K) "__init__") (some (some (.builtin "ValueError.__init__"))) && (decide (subIn K (.ref (He.ga K c)) (.type "ValueError") = some true) && (He.eqO (findIn K (.ref (He.ga K c)) "__setattr__") (some (some (.builtin "object.__setattr__"))) && (
  He.eqO (findIn K (.ref (He.ga K c)) "__getattribute__") (some (some (.builtin "BaseException.__getattribute__"))) && (He.eqO (findIn K (.ref (He.ga K c)) "__getattr__") (some none) && (He.eqO (findIn K (.ref (He.ga K c)) "value") (some none) && (
  He.eqO (findIn K (.ref (He.ga K c)) "__init__") (some (some (.ref (fA K)))) && (keepIn K (.ref (He.ga K c)) && (decide (subIn K (.ref (He.ga K c)) (.type "BaseException") = some true) && (decide (typeIn K (.ref (He.ga K c)) = some (.type "type")) && (hasDictIn K (He.ga K c) && (
  He.eqO (findIn K (.ref (He.ga K c)) "__class__") (some (some (.builtin "object.__class__"))) && decide (mroIn K (He.ga K c) (.type "object") = some true))))))))))))))))
/-- what is looked at once -/
def baseB (prog : Program) (K : Frag) : Bool := (K.lookup sysModules).isSome && (He.eqO (nsIn K cStatics "thirdparty.any") (some none) && (He.eqO (nsIn K mainGlobals "super") (some none) && (decide (typeIn K (.ref (fA K)) = some (.type "function")) && (
  He.eqO (specialIn K (.builtin "object.__class__") "__get__") (some (some (.builtin "getset_descriptor.__get__"))) && (decide (takesIn K (.builtin "object.__class__") = some true) && (!(prog.main.scope.names.lookup ("super" : Str)).isSome && (
  match K.lookup (fA K) with
  | some ⟨_, _, .func fd, _⟩ => (match fd.code, fd.closure, fd.defaults with
    | .ref cda, [(x, cc)], .none => (x == ("__class__" : Str)) && (codeIn K (.ref cda) "PourError.__init__" && ((match K.lookup cda with
      | some ⟨_, _, .fields vs, _⟩ => (match (vs[2]? : Option Value) with
        | some (.str file _) => ((prog.main.file : Str) == file)
        | _ => false)
      | _ => false) && ((match K.lookup cc with
      | some ⟨_, _, .cell (some (.ref D)), _⟩ => D == dA K
      | _ => false) && (clsIn K (dA K)).isSome)))
    | _, _, _ => false)
  | _ => false)))))))
/-- the text of __init__ -/
abbrev InW : Type := Option (Str × Str × Arguments × FuncBody × Scope × Addr × Addr)
def inW (K : Frag) : InW := match K.lookup (fA K) with
  | some ⟨_, _, .func fd, _⟩ => some (fd.name, fd.qualname, fd.params, fd.body, fd.scope, fd.globals, fd.builtins)
  | _ => none
def inV (st : Stmt) : InW := some ("__init__", "PourError.__init__", L2.defArgs st, .stmts (L2.defBody st), L2.defScope st, mainGlobals, builtinsNs)
theorem ba {a b : Bool} (h : (a && b) = true) : a = true ∧ b = true := Bool.and_eq_true_iff.mp h
section
variable {prog : Program} {K : Frag} {mg : Str → Option Value} {h : Heap} {c : Str}
theorem clsTxt_of (e : clB K c = true) : ClsTxt K (dA K) (fA K) (He.ga K c) := by
  unfold clB at e
  obtain ⟨e1, e⟩ := ba e
  obtain ⟨e2, e⟩ := ba e
  obtain ⟨e3, e⟩ := ba e
  obtain ⟨e4, e⟩ := ba e
  obtain ⟨e5, e⟩ := ba e
  obtain ⟨e6, e⟩ := ba e
  obtain ⟨e7, e⟩ := ba e
  obtain ⟨e8, e⟩ := ba e
  obtain ⟨e9, e⟩ := ba e
  obtain ⟨e10, e⟩ := ba e
  obtain ⟨e11, e⟩ := ba e
  obtain ⟨e12, e⟩ := ba e
  obtain ⟨e13, e⟩ := ba e
  obtain ⟨e14, e⟩ := ba e
  obtain ⟨e15, e⟩ := ba e
  obtain ⟨cd, hcd, hp⟩ := any_some e3
  obtain ⟨p1, p2⟩ := ba hp
  obtain ⟨p2, p3⟩ := ba p2
  exact ⟨e2, ⟨cd, hcd, p1, p2⟩, of_decide_eq_true e4, He.eqO_ok e5, of_decide_eq_true e6, He.eqO_ok e7, He.eqO_ok e8, He.eqO_ok e9, He.eqO_ok e10, He.eqO_ok e11, e12, of_decide_eq_true e13, of_decide_eq_true e14, e15⟩
theorem excC_of (e : clB K c = true) (b : baseB prog K = true) : L2.ExcC K (He.ga K c) := by
  have T := clsTxt_of e
  unfold clB at e
  obtain ⟨e1, e⟩ := ba e
  obtain ⟨e2, e⟩ := ba e
  obtain ⟨e3, e⟩ := ba e
  obtain ⟨e4, e⟩ := ba e
  obtain ⟨e5, e⟩ := ba e
  obtain ⟨e6, e⟩ := ba e
  obtain ⟨e7, e⟩ := ba e
  obtain ⟨e8, e⟩ := ba e
  obtain ⟨e9, e⟩ := ba e
  obtain ⟨e10, e⟩ := ba e
  obtain ⟨e11, e⟩ := ba e
  obtain ⟨e12, e⟩ := ba e
  obtain ⟨e13, e⟩ := ba e
  obtain ⟨e14, e⟩ := ba e
  obtain ⟨e15, e⟩ := ba e
  obtain ⟨e16, e17⟩ := ba e
  unfold baseB at b
  obtain ⟨b1, b⟩ := ba b
  obtain ⟨b2, b⟩ := ba b
  obtain ⟨b3, b⟩ := ba b
  obtain ⟨b4, b⟩ := ba b
  obtain ⟨b5, b⟩ := ba b
  obtain ⟨b6, b⟩ := ba b
  exact ⟨T.ga, T.gg, T.base, T.hd, He.eqO_ok e16, He.eqO_ok b5, of_decide_eq_true b6, of_decide_eq_true e17⟩
theorem mro_of (e : clB K c = true) : ∃ cd, clsIn K (He.ga K c) = some cd ∧ cd.mro = (if c == ("PourError" : Str) then [Value.ref (dA K)] else [Value.ref (He.ga K c), .ref (dA K)]) ++ veTail := by
  unfold clB at e
  obtain ⟨e1, e⟩ := ba e
  obtain ⟨e2, e⟩ := ba e
  obtain ⟨e3, e⟩ := ba e
  obtain ⟨cd, hcd, hp⟩ := any_some e3
  obtain ⟨p1, p2⟩ := ba hp
  obtain ⟨p2, p3⟩ := ba p2
  exact ⟨cd, hcd, beq_iff_eq.mp p3⟩
theorem glo_of (X : K.In h) (G : h.Ns mainGlobals mg) (e : clB K c = true) : mg c = some (.ref (He.ga K c)) := by
  unfold clB at e
  exact mg_of X G (He.eqO_ok (ba e).1)
theorem initTxt_of (X : K.In h) (G : h.Ns mainGlobals mg) (b : baseB prog K = true) {st : Stmt} (w : inW K = inV st)
    (ht : ∃ p1 p2 a0 a1 a2 a3 a4 a5 b0 b1 b2 b3, L2.defArgs st = pArgs p1 p2 ∧ L2.defBody st = pBody a0 a1 a2 a3 a4 a5 b0 b1 b2 b3 ∧ L2.defScope st = pScope ∧ (a2.endLine == a4.line) = true) : InitTxt prog K mg (dA K) (fA K) := by
  obtain ⟨p1, p2, a0, a1, a2, a3, a4, a5, q0, q1, q2, q3, t1, t2, t3, t4⟩ := ht
  unfold baseB at b
  obtain ⟨b1, b⟩ := ba b
  obtain ⟨b2, b⟩ := ba b
  obtain ⟨b3, b⟩ := ba b
  obtain ⟨b4, b⟩ := ba b
  obtain ⟨b5, b⟩ := ba b
  obtain ⟨b6, b⟩ := ba b
  obtain ⟨b7, b⟩ := ba b
  refine ⟨?_, mg_none_of X G (He.eqO_ok b3), by simpa using b7, of_decide_eq_true b4, He.eqO_ok b2⟩
  unfold inW at w
  unfold inV at w
  rw [t1, t2, t3] at w
  cases q : K.lookup (fA K) with
  | none => rw [q] at b; cases b
  | some o =>
    obtain ⟨oc, od, dt, osl⟩ := o
    rw [q] at b w
    cases dt with
    | func fd =>
      obtain ⟨n1, n2, n3, n4, n5, n6, n7, n8, n9, n10, n11, n12, n13, n14, n15⟩ := fd
      simp only [Option.some.injEq, Prod.mk.injEq] at w
      obtain ⟨h1, h2, h3, h4, h5, h6, h8⟩ := w
      subst h1 h2 h3 h4 h5 h6 h8
      cases n13 with
      | ref cda =>
        cases n7 with
        | nil => cases b
        | cons y ys =>
          obtain ⟨x, cc⟩ := y
          cases ys with
          | cons _ _ => cases b
          | nil =>
            cases n8 with
            | none =>
              obtain ⟨x1, b⟩ := ba b
              obtain ⟨x2, b⟩ := ba b
              obtain ⟨x3, b⟩ := ba b
              obtain ⟨x4, x5⟩ := ba b
              have ex : x = "__class__" := by simpa using x1
              subst ex
              obtain ⟨cdD, hcd⟩ := Option.isSome_iff_exists.mp x5
              cases q2 : K.lookup cda with
              | none => rw [q2] at x3; cases x3
              | some oc2 =>
                obtain ⟨oc2, od2, dt2, osl2⟩ := oc2
                rw [q2] at x3
                cases dt2 with
                | fields vs =>
                  have x3' : (match (vs[2]? : Option Value) with
                    | some (.str file _) => ((prog.main.file : Str) == file)
                    | _ => false) = true := x3
                  cases q4 : (vs[2]? : Option Value) with
                  | none => rw [q4] at x3'; cases x3'
                  | some v2 =>
                    rw [q4] at x3'
                    cases v2 with
                    | str file tf =>
                      cases q3 : K.lookup cc with
                      | none => rw [q3] at x4; cases x4
                      | some oc3 =>
                        obtain ⟨oc3, od3, dt3, osl3⟩ := oc3
                        rw [q3] at x4
                        cases dt3 with
                        | cell ov =>
                          cases ov with
                          | none => cases x4
                          | some ov =>
                            cases ov with
                            | ref D =>
                              have eD : D = dA K := by
                                have z : (D == dA K) = true := x4
                                simpa using z
                              subst eD
                              exact ⟨oc, n9, n10, n11, n14, oc2, oc3, od, n12, od2, od3, cda, cc, osl, osl2, osl3, vs, file, tf, cdD, p1, p2, a0, a1, a2, a3, a4, a5, _, _, _, _, rfl, x2, q2, q4, x3', q3, hcd, t4⟩
                            | _ => cases x4
                        | _ => cases x4
                    | _ => cases x3'
                | _ => cases x3
            | _ => cases b
      | _ => cases b
    | _ => cases b
end
end PourX

set_option Elab.async false
set_option linter.all false
set_option maxRecDepth 100000
set_option maxHeartbeats 2000000
namespace DL
open PySem PySem.Spec PyProof.Rows L2
/-! ### isinstance of the errors -/
section
variable {K : PySem.W.Frag} {c c2 : Str}
theorem mem_mro {K : PySem.W.Frag} {c : Str} {cd : ClassData} (h : cd.mro = (if c == ("PourError" : Str) then [Value.ref (PourX.dA K)] else [Value.ref (He.ga K c), .ref (PourX.dA K)]) ++ HandSPX.veTail) (a : Addr) :
    cd.mro.contains (.ref a) = (decide (a = PourX.dA K) || (!(c == ("PourError" : Str)) && decide (a = He.ga K c))) := by
  have t : HandSPX.veTail.contains (Value.ref a) = false := by rfl
  have e : ∀ b : Addr, (Value.ref a == Value.ref b) = decide (a = b) := fun b => by
    by_cases q : a = b
    · subst q; simp
    · have : ¬ (Value.ref a = Value.ref b) := fun z => q (Value.ref.inj z)
      rw [decide_eq_false q]; exact beq_eq_false_iff_ne.mpr this
  rw [h]
  cases q : (c == ("PourError" : Str)) with
  | true =>
    rw [if_pos rfl]
    simp only [List.cons_append, List.nil_append, List.contains_cons, t, e, Bool.or_false, Bool.not_true, Bool.false_and]
  | false =>
    rw [if_neg Bool.false_ne_true]
    simp only [List.cons_append, List.nil_append, List.contains_cons, t, e, Bool.or_false, Bool.not_false, Bool.true_and]
    exact Bool.or_comm _ _
theorem kit_ref (h1 : PourX.clB K c = true) (h2 : PourX.clB K c2 = true) : PySem.W.kitOne K (.ref (He.ga K c)) (.ref (He.ga K c2)) = some (decide (He.ga K c = He.ga K c2) || (decide (He.ga K c2 = PourX.dA K) || (!(c == ("PourError" : Str)) && decide (He.ga K c2 = He.ga K c)))) := by
  obtain ⟨cd, e1, e2⟩ := PourX.mro_of h1
  obtain ⟨cd2, e3, _⟩ := PourX.mro_of h2
  have ty := (PourX.clsTxt_of h2).ty
  unfold PySem.W.kitOne
  by_cases q : He.ga K c = He.ga K c2
  · rw [q, if_pos (by simp), decide_eq_true rfl, Bool.true_or]
  · have n : ¬ ((Value.ref (He.ga K c) == Value.ref (He.ga K c2)) = true) := fun z => q (Value.ref.inj (beq_iff_eq.mp z))
    rw [if_neg n, decide_eq_false q, Bool.false_or]
    unfold PySem.W.kitCls
    simp only
    rw [e3, ty]
    rw [if_pos (by simp)]
    unfold PySem.W.subIn PySem.W.mroIn
    simp only
    rw [e1]
    show (if cd.mro.isEmpty = true then none else some (cd.mro.contains (.ref (He.ga K c2)))) = _
    rw [mem_mro e2, e2]
    cases (c == ("PourError" : Str)) <;> rfl
theorem kit_ve (h1 : PourX.clB K c = true) : PySem.W.kitOne K (.ref (He.ga K c)) (.type "ValueError") = some true := by
  unfold PySem.W.kitOne
  rw [if_neg (by intro z; cases (beq_iff_eq.mp z))]
  unfold PySem.W.kitCls
  simp only
  rw [if_pos (by decide +kernel)]
  exact (PourX.clsTxt_of h1).subV
end

/-! ### the hook -/
def asX (g : Addr → Option Obj) (n : Nat) : List Addr := He.asD g n ++ [sysModules, cStatics]
structure Hq where
  prog : Program
  fa : List He.Fa
  fn : List He.DefD
  ers : List Str
  ini : Stmt
def xB (q : Hq) (K : PySem.W.Frag) : Bool := PourX.baseB q.prog K && (q.ers.all (PourX.clB K) && decide ((q.ers.map (He.ga K)).Nodup))
abbrev AlX : Type := Bool × He.AlD × PourX.InW
def obsX (q : Hq) (K : PySem.W.Frag) : AlX := (xB q K, He.obsD q.fa q.fn K, PourX.inW K)
def valX (q : Hq) : AlX := (true, He.valD q.fn, PourX.inV q.ini)
def obsXG (q : Hq) (n : Nat) (g : Addr → Option Obj) : AlX := obsX q (He.frG g (asX g n))
def hookX (q : Hq) (n : Nat) : PySem.W.Hook where
  α := AlX
  obs := fun s => obsXG q n s.heap.get?
  val := fun _ => valX q
  says := fun _ h => ∃ K : PySem.W.Frag, K.In h ∧ obsX q K = valX q
  of := fun _ _ e => ⟨_, He.frG_in, e⟩
  keeps := fun _ _ _ ⟨K, hK, c⟩ k => ⟨K, PySem.W.Frag.In.keeps hK k, c⟩
theorem obsXG_eq {q : Hq} {n : Nat} {g : Addr → Option Obj} {s : Shared} (h : ∀ a, g a = s.heap.get? a) : obsXG q n g = (hookX q n).obs s := by
  have e : g = s.heap.get? := funext h
  rw [e] <;> rfl
theorem nodup_inj {α β : Type} {f : α → β} : ∀ {l : List α}, (l.map f).Nodup → ∀ {x y}, x ∈ l → y ∈ l → f x = f y → x = y
  | [], _, _, _, hx, _, _ => nomatch hx
  | a :: l, h, x, y, hx, hy, e => by
    rw [List.map_cons, List.nodup_cons] at h
    rcases List.mem_cons.mp hx with ex | hx2
    · rcases List.mem_cons.mp hy with ey | hy2
      · rw [ex, ey]
      · exact absurd (by rw [← ex, e]; exact List.mem_map_of_mem hy2) h.1
    · rcases List.mem_cons.mp hy with ey | hy2
      · exact absurd (by rw [← ey, ← e]; exact List.mem_map_of_mem hx2) h.1
      · exact nodup_inj h.2 hx2 hy2 e
section
variable {q : Hq} {K : PySem.W.Frag} {mg : Str → Option Value} {h : Heap}
structure SaysX (q : Hq) (K : PySem.W.Frag) : Prop where
  base : PourX.baseB q.prog K = true
  cls : ∀ c ∈ q.ers, PourX.clB K c = true
  inj : ∀ c ∈ q.ers, ∀ c2 ∈ q.ers, He.ga K c = He.ga K c2 → c = c2
  says : He.SaysD q.fa q.fn K
  ini : PourX.inW K = PourX.inV q.ini
theorem says_of (e : obsX q K = valX q) : SaysX q K := by
  have e1 : xB q K = true := congrArg (fun z : AlX => z.1) e
  obtain ⟨b1, b2⟩ := He.ba e1
  obtain ⟨b2, b3⟩ := He.ba b2
  exact ⟨b1, fun c hc => List.all_eq_true.mp b2 c hc, fun c hc c2 hc2 z => nodup_inj (of_decide_eq_true b3) hc hc2 z, congrArg (fun z : AlX => z.2.1) e, congrArg (fun z : AlX => z.2.2) e⟩
abbrev IniOk (st : Stmt) : Prop := ∃ p1 p2 a0 a1 a2 a3 a4 a5 b0 b1 b2 b3, L2.defArgs st = PourX.pArgs p1 p2 ∧ L2.defBody st = PourX.pBody a0 a1 a2 a3 a4 a5 b0 b1 b2 b3 ∧ L2.defScope st = PourX.pScope ∧ (a2.endLine == a4.line) = true
theorem SaysX.er (S : SaysX q K) (X : K.In h) (G : h.Ns mainGlobals mg) (ht : IniOk q.ini) {c : Str} (hc : c ∈ q.ers) : Er q.prog K mg c :=
  ⟨PourX.glo_of X G (S.cls c hc), ⟨_, _, PourX.initTxt_of X G S.base S.ini ht, PourX.clsTxt_of (S.cls c hc)⟩, PourX.excC_of (S.cls c hc) S.base⟩
theorem SaysX.kit (S : SaysX q K) (hp : ("PourError" : Str) ∈ q.ers) {c c2 : Str} (hc : c ∈ q.ers) (hc2 : c2 ∈ q.ers) (hn : (c2 == ("PourError" : Str)) = false) : PySem.W.kitOne K (.ref (He.ga K c)) (.ref (He.ga K c2)) = some (c == c2) := by
  rw [kit_ref (S.cls c hc) (S.cls c2 hc2)]
  have n1 : ¬ He.ga K c2 = PourX.dA K := fun z => by
    have := S.inj c2 hc2 _ hp z
    rw [this] at hn
    simp at hn
  by_cases e : c = c2
  · subst e
    rw [decide_eq_true rfl, Bool.true_or]
    simp
  · have e1 : ¬ He.ga K c = He.ga K c2 := fun z => e (S.inj c hc c2 hc2 z)
    rw [decide_eq_false e1, decide_eq_false n1, decide_eq_false (fun z => e1 z.symm), Bool.and_false]
    have : (c == c2) = false := by simpa using e
    rw [this]
    rfl
theorem SaysX.kitP (S : SaysX q K) (hp : ("PourError" : Str) ∈ q.ers) {c : Str} (hc : c ∈ q.ers) : PySem.W.kitOne K (.ref (He.ga K c)) (.ref (He.ga K "PourError")) = some true := by
  rw [kit_ref (S.cls c hc) (S.cls _ hp)]
  have : decide (He.ga K ("PourError" : Str) = PourX.dA K) = true := decide_eq_true rfl
  rw [this, Bool.true_or, Bool.or_true]
theorem SaysX.kitV (S : SaysX q K) {c : Str} (hc : c ∈ q.ers) : PySem.W.kitOne K (.ref (He.ga K c)) (.type "ValueError") = some true := kit_ve (S.cls c hc)
theorem SaysX.sys (S : SaysX q K) : K.lookup sysModules ≠ none := by
  have b := S.base
  unfold PourX.baseB at b
  have := (He.ba b).1
  intro z
  rw [z] at this
  cases this
end
end DL

set_option Elab.async false
set_option linter.all false
set_option maxRecDepth 100000
set_option maxHeartbeats 1000000
namespace Lw
open PySem PySem.Spec PyProof.Rows L2 DL
def top (i : Nat) : Stmt := PySem.Challenge.pw_dyedpours_k00_errors_keep_their_value.main.body.getD i (.Pass ⟨0, 0, 0, 0⟩)
abbrev s_law_take : Stmt := (top 55)
abbrev N_law_take : List Str := ["_law_pot_here", "_law_upto", "_law_digit", "_law_prime", "_law_blend"]
theorem sc_law_take : FnScope N_law_take ["_law_pot_here", "_law_upto"] (defScope s_law_take) := ⟨rfl, rfl, rfl, by decide +kernel, rfl, by decide +kernel, by decide +kernel⟩
abbrev s_law_pot : Stmt := (top 54)
abbrev N_law_pot : List Str := ["_law_script", "_law_place", "_law_cell", "_law_own", "_law_small"]
theorem sc_law_pot : FnScope N_law_pot ["_law_script", "_law_place"] (defScope s_law_pot) := ⟨rfl, rfl, rfl, by decide +kernel, rfl, by decide +kernel, by decide +kernel⟩
abbrev s_law_cells : Stmt := (top 57)
abbrev N_law_cells : List Str := ["_law_script", "_law_limit"]
theorem sc_law_cells : FnScope N_law_cells ["_law_script", "_law_limit"] (defScope s_law_cells) := ⟨rfl, rfl, rfl, by decide +kernel, rfl, by decide +kernel, by decide +kernel⟩
abbrev s_law : Stmt := (top 63)
abbrev N_law : List Str := ["_law_script", "_law_place"]
theorem sc_law : FnScope N_law ["_law_script"] (defScope s_law) := ⟨rfl, rfl, rfl, by decide +kernel, rfl, by decide +kernel, by decide +kernel⟩
section
variable {P : Program} {w : World} {K : PySem.W.Frag} {mg : Str → Option Value} {base : Heap} {f fR fP fC : Addr} {fd fdR fdP fdC : FuncData}
theorem ok_take (F : FunD K "_law_take" "_law_take" (defArgs s_law_take) (defBody s_law_take) (defScope s_law_take) [] [] f fd) (ni : mg "int" = none) : FnG P w K mg base 1 f fd ["_law_pot_here", "_law_upto"] (spD K takeF) := by
  refine fnG_of F sc_law_take (fun vs H Q E h => ?_) fun cdv A outer s H vs Q E hr hg h => ⟨tTake K 2147483647 2147483629 2147483587 2147483579 2147483563 98953 151 10501 169 2305843009213693907 139, ?_, pure_take rfl (by decide) (by decide) (by decide) (by decide) (by decide) (by decide) (by decide) vs H Q E h⟩
  · obtain ⟨_, _, ds, _, _, _, _, _, r, ⟨k, rfl, _⟩, _⟩ := h
    rw [← r.length]; rfl
  · exact pss_cons (ps_if (pt_cmpR op_gt (pe_ix ix_list (pv 0) pe_int fun _ _ => rfl) pe_int (nomark _))
      (pss_cons (ps_set (i := 2) sc_law_take.nd rfl (Or.inl rfl) (pe_op op_mod (pe_callTy call_int1 rfl ni (by decide +kernel) (pa_cons (pe_ix ix_list (pv 0) pe_int fun _ _ => rfl) pa_nil)) (pv 1)))
      (pss_cons (ps_asg (pe_op op_fdiv (pe_ix ix_list (pv 0) pe_int fun _ _ => rfl) (pv 1)) (pg_sub (pv 0) pe_int set_list))
      (pss_one (ps_ret (pv 2))))) pss_nil)
      (pss_cons (ps_asg (pe_op op_add (pe_ix ix_list (pv 0) pe_int fun _ _ => rfl) pe_int) (pg_sub (pv 0) pe_int set_list))
      (pss_cons (ps_set (i := 3) sc_law_take.nd rfl (Or.inl rfl) (pe_ix ix_list (pe_lst (pa_cons pe_int (pa_cons pe_int (pa_cons pe_int (pa_cons pe_int (pa_cons pe_int pa_nil)))))) (pe_op op_mod (pe_callTy call_int1 rfl ni (by decide +kernel) (pa_cons (pe_ix ix_list (pv 0) pe_int fun _ _ => rfl) pa_nil)) pe_int) fun _ _ => rfl))
      (pss_cons (ps_set (i := 4) sc_law_take.nd rfl (Or.inl rfl) (pe_op op_mod (pe_callTy call_int1 rfl ni (by decide +kernel) (pa_cons (pe_op op_pow (pe_callTy call_int1 rfl ni (by decide +kernel) (pa_cons (pe_op op_add (pe_op op_add (pe_ix ix_list (pv 0) pe_int fun _ _ => rfl) (pe_op op_mul (pe_op op_mul pe_int (pe_ix ix_list (pv 0) pe_int fun _ _ => rfl)) (pe_ix ix_list (pv 0) pe_int fun _ _ => rfl))) pe_int) pa_nil)) pe_int) pa_nil)) (pv 3)))
      (pss_cons (ps_set (i := 4) sc_law_take.nd rfl (Or.inl rfl) (pe_op op_mod (pe_callTy call_int1 rfl ni (by decide +kernel) (pa_cons (pe_op op_mul (pv 4) (pe_op op_add (pe_op op_mod (pe_callTy call_int1 rfl ni (by decide +kernel) (pa_cons (pv 4) pa_nil)) pe_int) (pe_op op_mul pe_int (pe_ix ix_list (pv 0) pe_int fun _ _ => rfl)))) pa_nil)) pe_int))
      (pss_one (ps_ret (pe_op op_mod (pe_callTy call_int1 rfl ni (by decide +kernel) (pa_cons (pe_op op_fdiv (pv 4) pe_int) pa_nil)) (pv 1))))))))
theorem ok_pot (F : FunD K "_law_pot" "_law_pot" (defArgs s_law_pot) (defBody s_law_pot) (defScope s_law_pot) [] [] f fd) (ni : mg "int" = none) (na : mg "abs" = none) (nl : mg "len" = none) : FnG P w K mg base 1 f fd ["_law_script", "_law_place"] (spPot K) := by
  refine fnG_of F sc_law_pot (fun vs H Q E h => ?_) fun cdv A outer s H vs Q E hr hg h => ⟨tPot K 331 97 77221 8101 181 2305843009213693951 2305843009213693921, ?_, pure_pot rfl (by decide) (by decide) (by decide) (by decide) (by decide) vs H Q E h⟩
  · obtain ⟨_, _, _, rfl, _⟩ := h
    rfl
  · exact pss_cons (ps_set (i := 2) sc_law_pot.nd rfl (Or.inl rfl) (pe_ifExp (pt_cmpR op_lt (pv 1) (pe_callB call_len rfl nl boot_len (pa_cons (pv 0) pa_nil)) (nomark _)) (pe_ix ix_list (pv 0) (pv 1) fun _ _ => rfl) (pe_op op_add (pe_op op_mul pe_int (pv 1)) pe_int)))
      (pss_cons (ps_set (i := 3) sc_law_pot.nd rfl (Or.inl rfl) (pe_op op_mul (pe_op op_mod (pe_callTy call_int1 rfl ni (by decide +kernel) (pa_cons (pe_callB call_abs rfl na (by decide +kernel) (pa_cons (pv 2) pa_nil)) pa_nil)) (pe_op op_powW (pe_op op_pow pe_int pe_int) pe_int))
        (pe_callTy call_int1 rfl ni (by decide +kernel) (pa_cons (pe_cmpR op_ge (pe_callB call_abs rfl na (by decide +kernel) (pa_cons (pv 2) pa_nil)) (pe_op op_pow pe_int pe_int) (nomark _)) pa_nil))))
      (pss_cons (ps_set (i := 4) sc_law_pot.nd rfl (Or.inl rfl) (pe_op op_mod (pe_callTy call_int1 rfl ni (by decide +kernel) (pa_cons (pv 2) pa_nil)) pe_int))
      (pss_one (ps_ret (pe_lst (pa_cons (pv 3) (pa_cons (pe_op op_mod (pe_callTy call_int1 rfl ni (by decide +kernel) (pa_cons (pe_op op_add (pe_op op_add (pe_op op_mul (pv 4) pe_int) (pe_op op_mul (pe_op op_mul pe_int (pv 1)) (pv 1))) pe_int) pa_nil)) pe_int) (pa_cons pe_int pa_nil))))))))
theorem ok_cells (F : FunD K "_law_cells" "_law_cells" (defArgs s_law_cells) (defBody s_law_cells) (defScope s_law_cells) [] [] f fd) (nl : mg "len" = none) (n1 : mg "max" = none) (n2 : mg "min" = none) (n3 : mg "list" = none) (n4 : mg "range" = none) : FnG P w K mg base 1 f fd ["_law_script", "_law_limit"] (spCells K) := by
  refine fnG_of F sc_law_cells (fun vs H Q E h => ?_) fun cdv A outer s H vs Q E hr hg h => ⟨tCells K, ?_, pure_cells rfl vs H Q E h⟩
  · obtain ⟨_, _, _, rfl, _⟩ := h
    rfl
  · exact pss_one (ps_ret (pe_listRg rfl rfl n3 (prg_1 rfl n4 (pe_callB (call_max2 rfl) rfl n1 (by decide +kernel) (pa_cons pe_int (pa_cons (pe_callB (call_min2 rfl) rfl n2 (by decide +kernel) (pa_cons (pv 1) (pa_cons (pe_callB call_len rfl nl boot_len (pa_cons (pv 0) pa_nil)) pa_nil))) pa_nil))))))
theorem ok_law {k : Nat} {Fr : DF} (F : FunD K "law" "law" (defArgs s_law) (defBody s_law) (defScope s_law) [] [] f fd) (na : mg "all" = none)
    (GC : FnG P w K mg base 1 fC fdC ["_law_script", "_law_limit"] (spCells K)) (gC : mg "_law_cells" = some (.ref fC)) (kC : PySem.W.keepIn K (.ref fC) = true) (bC : Binds K fdC ["_law_script", "_law_limit"] [])
    (GP : FnG P w K mg base 1 fP fdP ["_law_script", "_law_place"] (spPot K)) (gP : mg "_law_pot" = some (.ref fP)) (kP : PySem.W.keepIn K (.ref fP) = true) (bP : Binds K fdP ["_law_script", "_law_place"] [])
    (GR : FnG P w K mg base (k + 1) fR fdR ["_law_pot_here"] (spD K Fr)) (gR : mg "_law_right" = some (.ref fR)) (kR : PySem.W.keepIn K (.ref fR) = true) (bR : Binds K fdR ["_law_pot_here"] [])
    (hF : ∀ Q : QD, (∀ u, Q (.bl true) u) → Fr [.pot] 0 Q fun _ _ => False) : FnG P w K mg base (k + 2) f fd ["_law_script"] (spLaw K) := by
  refine fnG_of F sc_law (fun vs H Q E h => ?_) fun cdv A outer s H vs Q E hr hg h => ⟨tLaw K Fr 2, ?_, pure_law rfl (by decide) hF vs H Q E h⟩
  · obtain ⟨_, _, rfl, _⟩ := h
    rfl
  · exact pss_one (ps_ret (pe_callB (cr_all rfl) rfl na (by decide +kernel) (pa_cons (pe_lc (own := [("_law_place", 1)]) rfl sc_law.nd (pi_list (pe_callG GC (hr.mono (by omega)) hg rfl gC kC bC .nil pass0X (pa_cons (pv 0) (pa_cons pe_int pa_nil)) (by decide) rfl rfl)) (blkOk_by (own := [("_law_place", 1)]) (N := N_law) (sc := defScope s_law) (by decide +kernel))
      (fun _ _ _ _ _ => pg_name (i := 1) sc_law.nd rfl (Or.inl rfl)) (fun _ _ _ _ _ => pts_nil) (fun _ _ _ _ _ => pe_callG GR hr hg rfl gR kR bR .nil pass0X (pa_cons (pe_callG GP (hr.mono (by omega)) hg rfl gP kP bP .nil pass0X (pa_cons (pv 0) (pa_cons (pv 1) pa_nil)) (by decide) rfl rfl) pa_nil) (by decide) rfl rfl)) pa_nil)))
end
end Lw

set_option Elab.async false
set_option linter.all false
set_option maxRecDepth 100000
set_option maxHeartbeats 4000000
namespace Lw
open PySem PySem.Spec PyProof.Rows L2 DL
theorem ix_lst {xs : List Dat} {i : Int} {d : Dat} {q : Dat → Prop} (h : atI xs i = some d) (k : q d) : ixD (.lst xs) (.int i) q := by
  show opt (atI xs i) q
  rw [h]; exact k
def er1 : List Str := ["BadYard", "BadSpot", "NoVessel", "BadMoment", "BadStep", "Full", "BadSample", "Told", "NoSample", "NoStep", "NoEnd", "NoGlass"]
def er2 : List Str := ["Fixed", "OtherVessels", "Unlike", "BadAmount", "NotParted", "BadRow", "NotMixing", "TooMany", "BadCut", "BadLot", "NoMixing", "BadDyes"]
def er3 : List Str := ["BadWeights", "BadHeights"]
def er4 : List Str := ["BadSpots", "BadNumbers", "OtherSteps", "BadMarks", "NoSource", "Great", "BadMost", "BadPrices", "BadQuestion", "BadAnswers", "BadQuestions", "BadBlock"]
def er5 : List Str := ["BadMany", "BadOffers", "BadWishes", "BadChoice", "BadVessels", "Same", "TooLittle", "Torn", "NothingToUndo", "NothingToRedo", "NoTrial", "BadJournal"]
def er6 : List Str := ["BadLine"]
def hA : List Str := er1 ++ (er2 ++ er3)
def hB : List Str := er4 ++ (er5 ++ er6)
def errs : List Str := hA ++ hB
def pes : List Str := ("PourError" : Str) :: errs
structure Fx (P : Program) (K : PySem.W.Frag) (mg : Str → Option Value) : Prop where
  n_len : mg "len" = none
  n_isinstance : mg "isinstance" = none
  n_repr : mg "repr" = none
  n_range : mg "range" = none
  n_enumerate : mg "enumerate" = none
  n_ValueError : mg "ValueError" = none
  n_int : mg "int" = none
  n_abs : mg "abs" = none
  n_max : mg "max" = none
  n_min : mg "min" = none
  n_list : mg "list" = none
  n_all : mg "all" = none
  sys : K.lookup sysModules ≠ none
  er : ∀ c ∈ pes, Er P K mg c
  kit : ∀ c ∈ pes, ∀ c2 ∈ errs, PySem.W.kitOne K (.ref (He.ga K c)) (.ref (He.ga K c2)) = some (c == c2)
  kitP : ∀ c ∈ pes, PySem.W.kitOne K (.ref (He.ga K c)) (.ref (He.ga K "PourError")) = some true
  kitV : ∀ c ∈ pes, PySem.W.kitOne K (.ref (He.ga K c)) (.type "ValueError") = some true
theorem Fx.e_PourError {P : Program} {K : PySem.W.Frag} {mg : Str → Option Value} (T : Fx P K mg) : Er P K mg "PourError" := T.er "PourError" (by decide +kernel)
theorem Fx.e_BadYard {P : Program} {K : PySem.W.Frag} {mg : Str → Option Value} (T : Fx P K mg) : Er P K mg "BadYard" := T.er "BadYard" (by decide +kernel)
theorem Fx.e_BadSpot {P : Program} {K : PySem.W.Frag} {mg : Str → Option Value} (T : Fx P K mg) : Er P K mg "BadSpot" := T.er "BadSpot" (by decide +kernel)
theorem Fx.e_NoVessel {P : Program} {K : PySem.W.Frag} {mg : Str → Option Value} (T : Fx P K mg) : Er P K mg "NoVessel" := T.er "NoVessel" (by decide +kernel)
theorem Fx.e_BadMoment {P : Program} {K : PySem.W.Frag} {mg : Str → Option Value} (T : Fx P K mg) : Er P K mg "BadMoment" := T.er "BadMoment" (by decide +kernel)
theorem Fx.e_BadStep {P : Program} {K : PySem.W.Frag} {mg : Str → Option Value} (T : Fx P K mg) : Er P K mg "BadStep" := T.er "BadStep" (by decide +kernel)
theorem Fx.e_Full {P : Program} {K : PySem.W.Frag} {mg : Str → Option Value} (T : Fx P K mg) : Er P K mg "Full" := T.er "Full" (by decide +kernel)
theorem Fx.e_BadSample {P : Program} {K : PySem.W.Frag} {mg : Str → Option Value} (T : Fx P K mg) : Er P K mg "BadSample" := T.er "BadSample" (by decide +kernel)
theorem Fx.e_Told {P : Program} {K : PySem.W.Frag} {mg : Str → Option Value} (T : Fx P K mg) : Er P K mg "Told" := T.er "Told" (by decide +kernel)
theorem Fx.e_NoSample {P : Program} {K : PySem.W.Frag} {mg : Str → Option Value} (T : Fx P K mg) : Er P K mg "NoSample" := T.er "NoSample" (by decide +kernel)
theorem Fx.e_NoStep {P : Program} {K : PySem.W.Frag} {mg : Str → Option Value} (T : Fx P K mg) : Er P K mg "NoStep" := T.er "NoStep" (by decide +kernel)
theorem Fx.e_NoEnd {P : Program} {K : PySem.W.Frag} {mg : Str → Option Value} (T : Fx P K mg) : Er P K mg "NoEnd" := T.er "NoEnd" (by decide +kernel)
theorem Fx.e_NoGlass {P : Program} {K : PySem.W.Frag} {mg : Str → Option Value} (T : Fx P K mg) : Er P K mg "NoGlass" := T.er "NoGlass" (by decide +kernel)
theorem Fx.e_Fixed {P : Program} {K : PySem.W.Frag} {mg : Str → Option Value} (T : Fx P K mg) : Er P K mg "Fixed" := T.er "Fixed" (by decide +kernel)
theorem Fx.e_OtherVessels {P : Program} {K : PySem.W.Frag} {mg : Str → Option Value} (T : Fx P K mg) : Er P K mg "OtherVessels" := T.er "OtherVessels" (by decide +kernel)
theorem Fx.e_Unlike {P : Program} {K : PySem.W.Frag} {mg : Str → Option Value} (T : Fx P K mg) : Er P K mg "Unlike" := T.er "Unlike" (by decide +kernel)
theorem Fx.e_BadAmount {P : Program} {K : PySem.W.Frag} {mg : Str → Option Value} (T : Fx P K mg) : Er P K mg "BadAmount" := T.er "BadAmount" (by decide +kernel)
theorem Fx.e_NotParted {P : Program} {K : PySem.W.Frag} {mg : Str → Option Value} (T : Fx P K mg) : Er P K mg "NotParted" := T.er "NotParted" (by decide +kernel)
theorem Fx.e_BadRow {P : Program} {K : PySem.W.Frag} {mg : Str → Option Value} (T : Fx P K mg) : Er P K mg "BadRow" := T.er "BadRow" (by decide +kernel)
theorem Fx.e_NotMixing {P : Program} {K : PySem.W.Frag} {mg : Str → Option Value} (T : Fx P K mg) : Er P K mg "NotMixing" := T.er "NotMixing" (by decide +kernel)
theorem Fx.e_TooMany {P : Program} {K : PySem.W.Frag} {mg : Str → Option Value} (T : Fx P K mg) : Er P K mg "TooMany" := T.er "TooMany" (by decide +kernel)
theorem Fx.e_BadCut {P : Program} {K : PySem.W.Frag} {mg : Str → Option Value} (T : Fx P K mg) : Er P K mg "BadCut" := T.er "BadCut" (by decide +kernel)
theorem Fx.e_BadLot {P : Program} {K : PySem.W.Frag} {mg : Str → Option Value} (T : Fx P K mg) : Er P K mg "BadLot" := T.er "BadLot" (by decide +kernel)
theorem Fx.e_NoMixing {P : Program} {K : PySem.W.Frag} {mg : Str → Option Value} (T : Fx P K mg) : Er P K mg "NoMixing" := T.er "NoMixing" (by decide +kernel)
theorem Fx.e_BadDyes {P : Program} {K : PySem.W.Frag} {mg : Str → Option Value} (T : Fx P K mg) : Er P K mg "BadDyes" := T.er "BadDyes" (by decide +kernel)
theorem Fx.e_BadWeights {P : Program} {K : PySem.W.Frag} {mg : Str → Option Value} (T : Fx P K mg) : Er P K mg "BadWeights" := T.er "BadWeights" (by decide +kernel)
theorem Fx.e_BadHeights {P : Program} {K : PySem.W.Frag} {mg : Str → Option Value} (T : Fx P K mg) : Er P K mg "BadHeights" := T.er "BadHeights" (by decide +kernel)
theorem Fx.e_BadSpots {P : Program} {K : PySem.W.Frag} {mg : Str → Option Value} (T : Fx P K mg) : Er P K mg "BadSpots" := T.er "BadSpots" (by decide +kernel)
theorem Fx.e_BadNumbers {P : Program} {K : PySem.W.Frag} {mg : Str → Option Value} (T : Fx P K mg) : Er P K mg "BadNumbers" := T.er "BadNumbers" (by decide +kernel)
theorem Fx.e_OtherSteps {P : Program} {K : PySem.W.Frag} {mg : Str → Option Value} (T : Fx P K mg) : Er P K mg "OtherSteps" := T.er "OtherSteps" (by decide +kernel)
theorem Fx.e_BadMarks {P : Program} {K : PySem.W.Frag} {mg : Str → Option Value} (T : Fx P K mg) : Er P K mg "BadMarks" := T.er "BadMarks" (by decide +kernel)
theorem Fx.e_NoSource {P : Program} {K : PySem.W.Frag} {mg : Str → Option Value} (T : Fx P K mg) : Er P K mg "NoSource" := T.er "NoSource" (by decide +kernel)
theorem Fx.e_Great {P : Program} {K : PySem.W.Frag} {mg : Str → Option Value} (T : Fx P K mg) : Er P K mg "Great" := T.er "Great" (by decide +kernel)
theorem Fx.e_BadMost {P : Program} {K : PySem.W.Frag} {mg : Str → Option Value} (T : Fx P K mg) : Er P K mg "BadMost" := T.er "BadMost" (by decide +kernel)
theorem Fx.e_BadPrices {P : Program} {K : PySem.W.Frag} {mg : Str → Option Value} (T : Fx P K mg) : Er P K mg "BadPrices" := T.er "BadPrices" (by decide +kernel)
theorem Fx.e_BadQuestion {P : Program} {K : PySem.W.Frag} {mg : Str → Option Value} (T : Fx P K mg) : Er P K mg "BadQuestion" := T.er "BadQuestion" (by decide +kernel)
theorem Fx.e_BadAnswers {P : Program} {K : PySem.W.Frag} {mg : Str → Option Value} (T : Fx P K mg) : Er P K mg "BadAnswers" := T.er "BadAnswers" (by decide +kernel)
theorem Fx.e_BadQuestions {P : Program} {K : PySem.W.Frag} {mg : Str → Option Value} (T : Fx P K mg) : Er P K mg "BadQuestions" := T.er "BadQuestions" (by decide +kernel)
theorem Fx.e_BadBlock {P : Program} {K : PySem.W.Frag} {mg : Str → Option Value} (T : Fx P K mg) : Er P K mg "BadBlock" := T.er "BadBlock" (by decide +kernel)
theorem Fx.e_BadMany {P : Program} {K : PySem.W.Frag} {mg : Str → Option Value} (T : Fx P K mg) : Er P K mg "BadMany" := T.er "BadMany" (by decide +kernel)
theorem Fx.e_BadOffers {P : Program} {K : PySem.W.Frag} {mg : Str → Option Value} (T : Fx P K mg) : Er P K mg "BadOffers" := T.er "BadOffers" (by decide +kernel)
theorem Fx.e_BadWishes {P : Program} {K : PySem.W.Frag} {mg : Str → Option Value} (T : Fx P K mg) : Er P K mg "BadWishes" := T.er "BadWishes" (by decide +kernel)
theorem Fx.e_BadChoice {P : Program} {K : PySem.W.Frag} {mg : Str → Option Value} (T : Fx P K mg) : Er P K mg "BadChoice" := T.er "BadChoice" (by decide +kernel)
theorem Fx.e_BadVessels {P : Program} {K : PySem.W.Frag} {mg : Str → Option Value} (T : Fx P K mg) : Er P K mg "BadVessels" := T.er "BadVessels" (by decide +kernel)
theorem Fx.e_Same {P : Program} {K : PySem.W.Frag} {mg : Str → Option Value} (T : Fx P K mg) : Er P K mg "Same" := T.er "Same" (by decide +kernel)
theorem Fx.e_TooLittle {P : Program} {K : PySem.W.Frag} {mg : Str → Option Value} (T : Fx P K mg) : Er P K mg "TooLittle" := T.er "TooLittle" (by decide +kernel)
theorem Fx.e_Torn {P : Program} {K : PySem.W.Frag} {mg : Str → Option Value} (T : Fx P K mg) : Er P K mg "Torn" := T.er "Torn" (by decide +kernel)
theorem Fx.e_NothingToUndo {P : Program} {K : PySem.W.Frag} {mg : Str → Option Value} (T : Fx P K mg) : Er P K mg "NothingToUndo" := T.er "NothingToUndo" (by decide +kernel)
theorem Fx.e_NothingToRedo {P : Program} {K : PySem.W.Frag} {mg : Str → Option Value} (T : Fx P K mg) : Er P K mg "NothingToRedo" := T.er "NothingToRedo" (by decide +kernel)
theorem Fx.e_NoTrial {P : Program} {K : PySem.W.Frag} {mg : Str → Option Value} (T : Fx P K mg) : Er P K mg "NoTrial" := T.er "NoTrial" (by decide +kernel)
theorem Fx.e_BadJournal {P : Program} {K : PySem.W.Frag} {mg : Str → Option Value} (T : Fx P K mg) : Er P K mg "BadJournal" := T.er "BadJournal" (by decide +kernel)
theorem Fx.e_BadLine {P : Program} {K : PySem.W.Frag} {mg : Str → Option Value} (T : Fx P K mg) : Er P K mg "BadLine" := T.er "BadLine" (by decide +kernel)
theorem Fx.r_PourError {P : Program} {K : PySem.W.Frag} {mg : Str → Option Value} (T : Fx P K mg) : mg "PourError" = some (.ref (He.ga K "PourError")) := T.e_PourError.g
theorem Fx.r_BadYard {P : Program} {K : PySem.W.Frag} {mg : Str → Option Value} (T : Fx P K mg) : mg "BadYard" = some (.ref (He.ga K "BadYard")) := T.e_BadYard.g
theorem Fx.r_BadSpot {P : Program} {K : PySem.W.Frag} {mg : Str → Option Value} (T : Fx P K mg) : mg "BadSpot" = some (.ref (He.ga K "BadSpot")) := T.e_BadSpot.g
theorem Fx.r_NoVessel {P : Program} {K : PySem.W.Frag} {mg : Str → Option Value} (T : Fx P K mg) : mg "NoVessel" = some (.ref (He.ga K "NoVessel")) := T.e_NoVessel.g
theorem Fx.r_BadMoment {P : Program} {K : PySem.W.Frag} {mg : Str → Option Value} (T : Fx P K mg) : mg "BadMoment" = some (.ref (He.ga K "BadMoment")) := T.e_BadMoment.g
theorem Fx.r_BadStep {P : Program} {K : PySem.W.Frag} {mg : Str → Option Value} (T : Fx P K mg) : mg "BadStep" = some (.ref (He.ga K "BadStep")) := T.e_BadStep.g
theorem Fx.r_Full {P : Program} {K : PySem.W.Frag} {mg : Str → Option Value} (T : Fx P K mg) : mg "Full" = some (.ref (He.ga K "Full")) := T.e_Full.g
theorem Fx.r_BadSample {P : Program} {K : PySem.W.Frag} {mg : Str → Option Value} (T : Fx P K mg) : mg "BadSample" = some (.ref (He.ga K "BadSample")) := T.e_BadSample.g
theorem Fx.r_Told {P : Program} {K : PySem.W.Frag} {mg : Str → Option Value} (T : Fx P K mg) : mg "Told" = some (.ref (He.ga K "Told")) := T.e_Told.g
theorem Fx.r_NoSample {P : Program} {K : PySem.W.Frag} {mg : Str → Option Value} (T : Fx P K mg) : mg "NoSample" = some (.ref (He.ga K "NoSample")) := T.e_NoSample.g
theorem Fx.r_NoStep {P : Program} {K : PySem.W.Frag} {mg : Str → Option Value} (T : Fx P K mg) : mg "NoStep" = some (.ref (He.ga K "NoStep")) := T.e_NoStep.g
theorem Fx.r_NoEnd {P : Program} {K : PySem.W.Frag} {mg : Str → Option Value} (T : Fx P K mg) : mg "NoEnd" = some (.ref (He.ga K "NoEnd")) := T.e_NoEnd.g
theorem Fx.r_NoGlass {P : Program} {K : PySem.W.Frag} {mg : Str → Option Value} (T : Fx P K mg) : mg "NoGlass" = some (.ref (He.ga K "NoGlass")) := T.e_NoGlass.g
theorem Fx.r_Fixed {P : Program} {K : PySem.W.Frag} {mg : Str → Option Value} (T : Fx P K mg) : mg "Fixed" = some (.ref (He.ga K "Fixed")) := T.e_Fixed.g
theorem Fx.r_OtherVessels {P : Program} {K : PySem.W.Frag} {mg : Str → Option Value} (T : Fx P K mg) : mg "OtherVessels" = some (.ref (He.ga K "OtherVessels")) := T.e_OtherVessels.g
theorem Fx.r_Unlike {P : Program} {K : PySem.W.Frag} {mg : Str → Option Value} (T : Fx P K mg) : mg "Unlike" = some (.ref (He.ga K "Unlike")) := T.e_Unlike.g
theorem Fx.r_BadAmount {P : Program} {K : PySem.W.Frag} {mg : Str → Option Value} (T : Fx P K mg) : mg "BadAmount" = some (.ref (He.ga K "BadAmount")) := T.e_BadAmount.g
theorem Fx.r_NotParted {P : Program} {K : PySem.W.Frag} {mg : Str → Option Value} (T : Fx P K mg) : mg "NotParted" = some (.ref (He.ga K "NotParted")) := T.e_NotParted.g
theorem Fx.r_BadRow {P : Program} {K : PySem.W.Frag} {mg : Str → Option Value} (T : Fx P K mg) : mg "BadRow" = some (.ref (He.ga K "BadRow")) := T.e_BadRow.g
theorem Fx.r_NotMixing {P : Program} {K : PySem.W.Frag} {mg : Str → Option Value} (T : Fx P K mg) : mg "NotMixing" = some (.ref (He.ga K "NotMixing")) := T.e_NotMixing.g
theorem Fx.r_TooMany {P : Program} {K : PySem.W.Frag} {mg : Str → Option Value} (T : Fx P K mg) : mg "TooMany" = some (.ref (He.ga K "TooMany")) := T.e_TooMany.g
theorem Fx.r_BadCut {P : Program} {K : PySem.W.Frag} {mg : Str → Option Value} (T : Fx P K mg) : mg "BadCut" = some (.ref (He.ga K "BadCut")) := T.e_BadCut.g
theorem Fx.r_BadLot {P : Program} {K : PySem.W.Frag} {mg : Str → Option Value} (T : Fx P K mg) : mg "BadLot" = some (.ref (He.ga K "BadLot")) := T.e_BadLot.g
theorem Fx.r_NoMixing {P : Program} {K : PySem.W.Frag} {mg : Str → Option Value} (T : Fx P K mg) : mg "NoMixing" = some (.ref (He.ga K "NoMixing")) := T.e_NoMixing.g
theorem Fx.r_BadDyes {P : Program} {K : PySem.W.Frag} {mg : Str → Option Value} (T : Fx P K mg) : mg "BadDyes" = some (.ref (He.ga K "BadDyes")) := T.e_BadDyes.g
theorem Fx.r_BadWeights {P : Program} {K : PySem.W.Frag} {mg : Str → Option Value} (T : Fx P K mg) : mg "BadWeights" = some (.ref (He.ga K "BadWeights")) := T.e_BadWeights.g
theorem Fx.r_BadHeights {P : Program} {K : PySem.W.Frag} {mg : Str → Option Value} (T : Fx P K mg) : mg "BadHeights" = some (.ref (He.ga K "BadHeights")) := T.e_BadHeights.g
theorem Fx.r_BadSpots {P : Program} {K : PySem.W.Frag} {mg : Str → Option Value} (T : Fx P K mg) : mg "BadSpots" = some (.ref (He.ga K "BadSpots")) := T.e_BadSpots.g
theorem Fx.r_BadNumbers {P : Program} {K : PySem.W.Frag} {mg : Str → Option Value} (T : Fx P K mg) : mg "BadNumbers" = some (.ref (He.ga K "BadNumbers")) := T.e_BadNumbers.g
theorem Fx.r_OtherSteps {P : Program} {K : PySem.W.Frag} {mg : Str → Option Value} (T : Fx P K mg) : mg "OtherSteps" = some (.ref (He.ga K "OtherSteps")) := T.e_OtherSteps.g
theorem Fx.r_BadMarks {P : Program} {K : PySem.W.Frag} {mg : Str → Option Value} (T : Fx P K mg) : mg "BadMarks" = some (.ref (He.ga K "BadMarks")) := T.e_BadMarks.g
theorem Fx.r_NoSource {P : Program} {K : PySem.W.Frag} {mg : Str → Option Value} (T : Fx P K mg) : mg "NoSource" = some (.ref (He.ga K "NoSource")) := T.e_NoSource.g
theorem Fx.r_Great {P : Program} {K : PySem.W.Frag} {mg : Str → Option Value} (T : Fx P K mg) : mg "Great" = some (.ref (He.ga K "Great")) := T.e_Great.g
theorem Fx.r_BadMost {P : Program} {K : PySem.W.Frag} {mg : Str → Option Value} (T : Fx P K mg) : mg "BadMost" = some (.ref (He.ga K "BadMost")) := T.e_BadMost.g
theorem Fx.r_BadPrices {P : Program} {K : PySem.W.Frag} {mg : Str → Option Value} (T : Fx P K mg) : mg "BadPrices" = some (.ref (He.ga K "BadPrices")) := T.e_BadPrices.g
theorem Fx.r_BadQuestion {P : Program} {K : PySem.W.Frag} {mg : Str → Option Value} (T : Fx P K mg) : mg "BadQuestion" = some (.ref (He.ga K "BadQuestion")) := T.e_BadQuestion.g
theorem Fx.r_BadAnswers {P : Program} {K : PySem.W.Frag} {mg : Str → Option Value} (T : Fx P K mg) : mg "BadAnswers" = some (.ref (He.ga K "BadAnswers")) := T.e_BadAnswers.g
theorem Fx.r_BadQuestions {P : Program} {K : PySem.W.Frag} {mg : Str → Option Value} (T : Fx P K mg) : mg "BadQuestions" = some (.ref (He.ga K "BadQuestions")) := T.e_BadQuestions.g
theorem Fx.r_BadBlock {P : Program} {K : PySem.W.Frag} {mg : Str → Option Value} (T : Fx P K mg) : mg "BadBlock" = some (.ref (He.ga K "BadBlock")) := T.e_BadBlock.g
theorem Fx.r_BadMany {P : Program} {K : PySem.W.Frag} {mg : Str → Option Value} (T : Fx P K mg) : mg "BadMany" = some (.ref (He.ga K "BadMany")) := T.e_BadMany.g
theorem Fx.r_BadOffers {P : Program} {K : PySem.W.Frag} {mg : Str → Option Value} (T : Fx P K mg) : mg "BadOffers" = some (.ref (He.ga K "BadOffers")) := T.e_BadOffers.g
theorem Fx.r_BadWishes {P : Program} {K : PySem.W.Frag} {mg : Str → Option Value} (T : Fx P K mg) : mg "BadWishes" = some (.ref (He.ga K "BadWishes")) := T.e_BadWishes.g
theorem Fx.r_BadChoice {P : Program} {K : PySem.W.Frag} {mg : Str → Option Value} (T : Fx P K mg) : mg "BadChoice" = some (.ref (He.ga K "BadChoice")) := T.e_BadChoice.g
theorem Fx.r_BadVessels {P : Program} {K : PySem.W.Frag} {mg : Str → Option Value} (T : Fx P K mg) : mg "BadVessels" = some (.ref (He.ga K "BadVessels")) := T.e_BadVessels.g
theorem Fx.r_Same {P : Program} {K : PySem.W.Frag} {mg : Str → Option Value} (T : Fx P K mg) : mg "Same" = some (.ref (He.ga K "Same")) := T.e_Same.g
theorem Fx.r_TooLittle {P : Program} {K : PySem.W.Frag} {mg : Str → Option Value} (T : Fx P K mg) : mg "TooLittle" = some (.ref (He.ga K "TooLittle")) := T.e_TooLittle.g
theorem Fx.r_Torn {P : Program} {K : PySem.W.Frag} {mg : Str → Option Value} (T : Fx P K mg) : mg "Torn" = some (.ref (He.ga K "Torn")) := T.e_Torn.g
theorem Fx.r_NothingToUndo {P : Program} {K : PySem.W.Frag} {mg : Str → Option Value} (T : Fx P K mg) : mg "NothingToUndo" = some (.ref (He.ga K "NothingToUndo")) := T.e_NothingToUndo.g
theorem Fx.r_NothingToRedo {P : Program} {K : PySem.W.Frag} {mg : Str → Option Value} (T : Fx P K mg) : mg "NothingToRedo" = some (.ref (He.ga K "NothingToRedo")) := T.e_NothingToRedo.g
theorem Fx.r_NoTrial {P : Program} {K : PySem.W.Frag} {mg : Str → Option Value} (T : Fx P K mg) : mg "NoTrial" = some (.ref (He.ga K "NoTrial")) := T.e_NoTrial.g
theorem Fx.r_BadJournal {P : Program} {K : PySem.W.Frag} {mg : Str → Option Value} (T : Fx P K mg) : mg "BadJournal" = some (.ref (He.ga K "BadJournal")) := T.e_BadJournal.g
theorem Fx.r_BadLine {P : Program} {K : PySem.W.Frag} {mg : Str → Option Value} (T : Fx P K mg) : mg "BadLine" = some (.ref (He.ga K "BadLine")) := T.e_BadLine.g
section
variable {P : Program} {w : World} {K : PySem.W.Frag} {mg : Str → Option Value} {base : Heap} {f : Addr} {fd : FuncData}
abbrev s_law_of : Stmt := (top 56)
abbrev N_law_of : List Str := ["_law_pot_here", "_law_some"]
theorem sc_law_of : FnScope N_law_of ["_law_pot_here", "_law_some"] (defScope s_law_of) := ⟨rfl, rfl, rfl, by decide +kernel, rfl, by decide +kernel, by decide +kernel⟩
abbrev s_law_odd : Stmt := (top 58)
abbrev N_law_odd : List Str := ["_law_pot_here", "_law_some"]
theorem sc_law_odd : FnScope N_law_odd ["_law_pot_here"] (defScope s_law_odd) := ⟨rfl, rfl, rfl, by decide +kernel, rfl, by decide +kernel, by decide +kernel⟩
abbrev s_law_all_made : Stmt := (top 59)
abbrev N_law_all_made : List Str := ["_law_thing", "_law_found"]
theorem sc_law_all_made : FnScope N_law_all_made ["_law_thing"] (defScope s_law_all_made) := ⟨rfl, rfl, rfl, by decide +kernel, rfl, by decide +kernel, by decide +kernel⟩
abbrev s_law_first_half : Stmt := (top 60)
abbrev N_law_first_half : List Str := ["_law_error", "_law_found"]
theorem sc_law_first_half : FnScope N_law_first_half ["_law_error"] (defScope s_law_first_half) := ⟨rfl, rfl, rfl, by decide +kernel, rfl, by decide +kernel, by decide +kernel⟩
abbrev s_law_second_half : Stmt := (top 61)
abbrev N_law_second_half : List Str := ["_law_error", "_law_found"]
theorem sc_law_second_half : FnScope N_law_second_half ["_law_error"] (defScope s_law_second_half) := ⟨rfl, rfl, rfl, by decide +kernel, rfl, by decide +kernel, by decide +kernel⟩
abbrev s_law_right : Stmt := (top 62)
abbrev N_law_right : List Str := ["_law_pot_here", "_law_lap", "_law_thing", "_law_all_here", "_law_at", "_law_error", "_law_marks_here", "_law_bare", "_law_its"]
theorem sc_law_right : FnScope N_law_right ["_law_pot_here"] (defScope s_law_right) := ⟨rfl, rfl, rfl, by decide +kernel, rfl, by decide +kernel, by decide +kernel⟩
def ofF : DF := fun ds u Q _ => ∃ xs, ds = [.pot, .lst xs] ∧ xs ≠ [] ∧ xs.length < 1073741824 ∧ u < 1048576 ∧ ∀ d ∈ xs, Q d (u + 1)
theorem ofF_len (ds : List Dat) (u : Nat) (Q E : QD) (h : ofF ds u Q E) : ds.length = 2 := by obtain ⟨_, rfl, _⟩ := h; rfl
theorem ok_law_of (T : Fx P K mg) (c_law_take_2 : Cal P w K mg base 1 "_law_take" takeF []) (F : FunD K "_law_of" "_law_of" (defArgs s_law_of) (defBody s_law_of) (defScope s_law_of) [] [] f fd) : FnG P w K mg base 2 f fd ["_law_pot_here", "_law_some"] (spD K ofF) := by
  refine okD F sc_law_of (ofF_len) fun cdv A outer s H E hr hG => ⟨_, (dss_one (ds_ret (de_sub1 (hu_of hr) (dv 1) (de_cal c_law_take_2 (hr.mono (by decide)) hG (da_cons (dv 0) (da_cons (de_len T.n_len (da_cons (dv 1) da_nil)) da_nil)))))), ?_⟩
  intro ds u Qd Ed h
  obtain ⟨xs, rfl, h1, h2, h3, h4⟩ := h
  have hp : 0 < xs.length := List.length_pos_iff.mpr h1
  refine ⟨(xs.length : Int), rfl, by omega, by omega, h3, fun d d0 d1 => ?_⟩
  obtain ⟨y, hy⟩ : ∃ y, xs[d.toNat]? = some y := ⟨xs[d.toNat]'(by omega), List.getElem?_eq_getElem _⟩
  exact ix_lst (atI_nat d0 hy) (h4 y (List.mem_of_getElem? hy))
def oddL1 : List Dat := [.non, .bl true, .bl false, .int 0, .int 1, .int (-1), .int 7, .str "", .str "a", .str "by", .str "nosuch", .tup [], .lst [], .dct [], .tup [.int 0], .tup [.tup []], .lst [.int 0], .tup [.str "a"], .tup [.str "a", .int 0]]
def oddL2 : List Dat := [.tup [.str "by", .int 0], .tup [.str "in", .str "a", .int 1], .tup [.tup [.str "a", .int 0]], .tup [.non], .dct [(.inr "a", .int 1)], .str "A", .tup [.int 0, .int 0], .tup [.str "mixing", .tup []], .int 100000000]
def oddL : List Dat := oddL1 ++ oddL2
def oddF : DF := fun ds u Q _ => ds = [.pot] ∧ u < 1048576 ∧ ∀ d ∈ oddL, Q d (u + 1)
theorem oddF_len (ds : List Dat) (u : Nat) (Q E : QD) (h : oddF ds u Q E) : ds.length = 1 := by obtain ⟨rfl, _⟩ := h; rfl
theorem ok_law_odd (T : Fx P K mg) (c_law_of_2 : Cal P w K mg base 2 "_law_of" ofF []) (F : FunD K "_law_odd" "_law_odd" (defArgs s_law_odd) (defBody s_law_odd) (defScope s_law_odd) [] [] f fd) : FnG P w K mg base 3 f fd ["_law_pot_here"] (spD K oddF) := by
  refine okD F sc_law_odd (oddF_len) fun cdv A outer s H E hr hG => ⟨_, (dss_cons (ds_set (i := 1) sc_law_odd.nd rfl (Or.inl rfl) (de_lst (da_cons de_non (da_cons de_bl (da_cons de_bl (da_cons de_int (da_cons de_int (da_cons (de_neg de_int) (da_cons de_int (da_cons de_str (da_cons de_str (da_cons de_str (da_cons de_str (da_cons (de_tup da_nil) (da_cons (de_lst da_nil) (da_cons de_dict0 (da_cons (de_tup (da_cons de_int da_nil)) (da_cons (de_tup (da_cons (de_tup da_nil) da_nil)) (da_cons (de_lst (da_cons de_int da_nil)) (da_cons (de_tup (da_cons de_str da_nil)) (da_cons (de_tup (da_cons de_str (da_cons de_int da_nil))) da_nil)))))))))))))))))))))
      (dss_cons (ds_set (i := 1) sc_law_odd.nd rfl (Or.inl rfl) (de_add (dv 1) (de_lst (da_cons (de_tup (da_cons de_str (da_cons de_int da_nil))) (da_cons (de_tup (da_cons de_str (da_cons de_str (da_cons de_int da_nil)))) (da_cons (de_tup (da_cons (de_tup (da_cons de_str (da_cons de_int da_nil))) da_nil)) (da_cons (de_tup (da_cons de_non da_nil)) (da_cons (de_dict (dps_cons de_str de_int dps_nil)) (da_cons de_str (da_cons (de_tup (da_cons de_int (da_cons de_int da_nil))) (da_cons (de_tup (da_cons de_str (da_cons (de_tup da_nil) da_nil))) (da_cons (de_pow de_int de_int) da_nil))))))))))))
      (dss_one (ds_ret (de_cal c_law_of_2 (hr.mono (by decide)) hG (da_cons (dv 0) (da_cons (dv 1) da_nil))))))), ?_⟩
  intro ds u Qd Ed h
  obtain ⟨rfl, h1, h2⟩ := h
  have e : (10 : Int) ^ (8 : Int).toNat = 100000000 := by decide
  repeat refine ⟨by decide, ?_⟩
  refine ⟨⟨by decide, by decide, by decide⟩, (by decide : 9 ≤ sizeLine), (by decide : 19 + 9 ≤ sizeLine), oddL, ?_, by decide, by decide, h1, h2⟩
  rfl
def allF : DF := fun ds u Q _ => ∃ d, ds = [d] ∧ Q (.lst (errs.map fun c => .exc c d)) u
theorem allF_len (ds : List Dat) (u : Nat) (Q E : QD) (h : allF ds u Q E) : ds.length = 1 := by obtain ⟨_, rfl, _⟩ := h; rfl
theorem ok_law_all_made (T : Fx P K mg) (F : FunD K "_law_all_made" "_law_all_made" (defArgs s_law_all_made) (defBody s_law_all_made) (defScope s_law_all_made) [] [] f fd) : FnG P w K mg base 1 f fd ["_law_thing"] (spD K allF) := by
  refine okD F sc_law_all_made (allF_len) fun cdv A outer s H E hr hG => ⟨_, (dss_cons (ds_ownL (i := 1) sc_law_all_made.nd rfl (Or.inl rfl) da_nil)
      (dss_cons (ds_extend (pv 1) (de_lst (da_cons (de_err T.e_BadYard hr (dv 0)) (da_cons (de_err T.e_BadSpot hr (dv 0)) (da_cons (de_err T.e_NoVessel hr (dv 0)) (da_cons (de_err T.e_BadMoment hr (dv 0)) (da_cons (de_err T.e_BadStep hr (dv 0)) da_nil)))))))
      (dss_cons (ds_extend (pv 1) (de_lst (da_cons (de_err T.e_Full hr (dv 0)) (da_cons (de_err T.e_BadSample hr (dv 0)) (da_cons (de_err T.e_Told hr (dv 0)) (da_cons (de_err T.e_NoSample hr (dv 0)) (da_cons (de_err T.e_NoStep hr (dv 0)) (da_cons (de_err T.e_NoEnd hr (dv 0)) da_nil))))))))
      (dss_cons (ds_extend (pv 1) (de_lst (da_cons (de_err T.e_NoGlass hr (dv 0)) (da_cons (de_err T.e_Fixed hr (dv 0)) (da_cons (de_err T.e_OtherVessels hr (dv 0)) (da_cons (de_err T.e_Unlike hr (dv 0)) (da_cons (de_err T.e_BadAmount hr (dv 0)) da_nil)))))))
      (dss_cons (ds_extend (pv 1) (de_lst (da_cons (de_err T.e_NotParted hr (dv 0)) (da_cons (de_err T.e_BadRow hr (dv 0)) (da_cons (de_err T.e_NotMixing hr (dv 0)) (da_cons (de_err T.e_TooMany hr (dv 0)) (da_cons (de_err T.e_BadCut hr (dv 0)) da_nil)))))))
      (dss_cons (ds_extend (pv 1) (de_lst (da_cons (de_err T.e_BadLot hr (dv 0)) (da_cons (de_err T.e_NoMixing hr (dv 0)) (da_cons (de_err T.e_BadDyes hr (dv 0)) (da_cons (de_err T.e_BadWeights hr (dv 0)) (da_cons (de_err T.e_BadHeights hr (dv 0)) da_nil)))))))
      (dss_cons (ds_extend (pv 1) (de_lst (da_cons (de_err T.e_BadSpots hr (dv 0)) (da_cons (de_err T.e_BadNumbers hr (dv 0)) (da_cons (de_err T.e_OtherSteps hr (dv 0)) (da_cons (de_err T.e_BadMarks hr (dv 0)) (da_cons (de_err T.e_NoSource hr (dv 0)) da_nil)))))))
      (dss_cons (ds_extend (pv 1) (de_lst (da_cons (de_err T.e_Great hr (dv 0)) (da_cons (de_err T.e_BadMost hr (dv 0)) (da_cons (de_err T.e_BadPrices hr (dv 0)) (da_cons (de_err T.e_BadQuestion hr (dv 0)) (da_cons (de_err T.e_BadAnswers hr (dv 0)) da_nil)))))))
      (dss_cons (ds_extend (pv 1) (de_lst (da_cons (de_err T.e_BadQuestions hr (dv 0)) (da_cons (de_err T.e_BadBlock hr (dv 0)) (da_cons (de_err T.e_BadMany hr (dv 0)) (da_cons (de_err T.e_BadOffers hr (dv 0)) (da_cons (de_err T.e_BadWishes hr (dv 0)) da_nil)))))))
      (dss_cons (ds_extend (pv 1) (de_lst (da_cons (de_err T.e_BadChoice hr (dv 0)) (da_cons (de_err T.e_BadVessels hr (dv 0)) (da_cons (de_err T.e_Same hr (dv 0)) (da_cons (de_err T.e_TooLittle hr (dv 0)) (da_cons (de_err T.e_Torn hr (dv 0)) da_nil)))))))
      (dss_cons (ds_extend (pv 1) (de_lst (da_cons (de_err T.e_NothingToUndo hr (dv 0)) (da_cons (de_err T.e_NothingToRedo hr (dv 0)) (da_cons (de_err T.e_NoTrial hr (dv 0)) (da_cons (de_err T.e_BadJournal hr (dv 0)) da_nil))))))
      (dss_cons (ds_extend (pv 1) (de_lst (da_cons (de_err T.e_BadLine hr (dv 0)) da_nil)))
      (dss_one (ds_rel 1 (ds_ret (dv 1)))))))))))))))), ?_⟩
  intro ds u Qd Ed h
  obtain ⟨d, rfl, h1⟩ := h
  refine ⟨by decide, ?_⟩
  refine ⟨⟨_, rfl⟩, (by show 5 ≤ sizeLine; decide), (by show 0 + 5 ≤ sizeLine; decide), ?_⟩
  refine ⟨⟨_, rfl⟩, (by show 6 ≤ sizeLine; decide), (by show 5 + 6 ≤ sizeLine; decide), ?_⟩
  refine ⟨⟨_, rfl⟩, (by show 5 ≤ sizeLine; decide), (by show 11 + 5 ≤ sizeLine; decide), ?_⟩
  refine ⟨⟨_, rfl⟩, (by show 5 ≤ sizeLine; decide), (by show 16 + 5 ≤ sizeLine; decide), ?_⟩
  refine ⟨⟨_, rfl⟩, (by show 5 ≤ sizeLine; decide), (by show 21 + 5 ≤ sizeLine; decide), ?_⟩
  refine ⟨⟨_, rfl⟩, (by show 5 ≤ sizeLine; decide), (by show 26 + 5 ≤ sizeLine; decide), ?_⟩
  refine ⟨⟨_, rfl⟩, (by show 5 ≤ sizeLine; decide), (by show 31 + 5 ≤ sizeLine; decide), ?_⟩
  refine ⟨⟨_, rfl⟩, (by show 5 ≤ sizeLine; decide), (by show 36 + 5 ≤ sizeLine; decide), ?_⟩
  refine ⟨⟨_, rfl⟩, (by show 5 ≤ sizeLine; decide), (by show 41 + 5 ≤ sizeLine; decide), ?_⟩
  refine ⟨⟨_, rfl⟩, (by show 4 ≤ sizeLine; decide), (by show 46 + 4 ≤ sizeLine; decide), ?_⟩
  refine ⟨⟨_, rfl⟩, (by show 1 ≤ sizeLine; decide), (by show 50 + 1 ≤ sizeLine; decide), ?_⟩
  exact h1
theorem isi {K : PySem.W.Frag} {c c2 : Str} {d : Dat} {b : Bool} {q : Dat → Prop} (Z : L2.ExcC K (He.ga K c)) (h : PySem.W.kitOne K (.ref (He.ga K c)) (.ref (He.ga K c2)) = some b) (k : q (.bl b)) : isiD K [.exc c d, .raw (.ref (He.ga K c2))] q := ⟨Z, _, _, b, rfl, rfl, h, k⟩
def firF : DF := fun ds u Q _ => ∃ c d, ds = [.exc c d] ∧ c ∈ pes ∧ Q (.lst (hA.map fun x => .bl (c == x))) u
theorem firF_len (ds : List Dat) (u : Nat) (Q E : QD) (h : firF ds u Q E) : ds.length = 1 := by obtain ⟨_, _, rfl, _⟩ := h; rfl
def secF : DF := fun ds u Q _ => ∃ c d, ds = [.exc c d] ∧ c ∈ pes ∧ Q (.lst (hB.map fun x => .bl (c == x))) u
theorem secF_len (ds : List Dat) (u : Nat) (Q E : QD) (h : secF ds u Q E) : ds.length = 1 := by obtain ⟨_, _, rfl, _⟩ := h; rfl
theorem ok_law_first_half (T : Fx P K mg) (F : FunD K "_law_first_half" "_law_first_half" (defArgs s_law_first_half) (defBody s_law_first_half) (defScope s_law_first_half) [] [] f fd) : FnG P w K mg base 1 f fd ["_law_error"] (spD K firF) := by
  refine okD F sc_law_first_half (firF_len) fun cdv A outer s H E hr hG => ⟨_, (dss_cons (ds_ownL (i := 1) sc_law_first_half.nd rfl (Or.inl rfl) da_nil)
      (dss_cons (ds_extend (pv 1) (de_lst (da_cons (de_isi T.n_isinstance (da_cons (dv 0) (da_cons (de_gref T.r_BadYard rfl) da_nil))) (da_cons (de_isi T.n_isinstance (da_cons (dv 0) (da_cons (de_gref T.r_BadSpot rfl) da_nil))) (da_cons (de_isi T.n_isinstance (da_cons (dv 0) (da_cons (de_gref T.r_NoVessel rfl) da_nil))) da_nil)))))
      (dss_cons (ds_extend (pv 1) (de_lst (da_cons (de_isi T.n_isinstance (da_cons (dv 0) (da_cons (de_gref T.r_BadMoment rfl) da_nil))) (da_cons (de_isi T.n_isinstance (da_cons (dv 0) (da_cons (de_gref T.r_BadStep rfl) da_nil))) (da_cons (de_isi T.n_isinstance (da_cons (dv 0) (da_cons (de_gref T.r_Full rfl) da_nil))) da_nil)))))
      (dss_cons (ds_extend (pv 1) (de_lst (da_cons (de_isi T.n_isinstance (da_cons (dv 0) (da_cons (de_gref T.r_BadSample rfl) da_nil))) (da_cons (de_isi T.n_isinstance (da_cons (dv 0) (da_cons (de_gref T.r_Told rfl) da_nil))) (da_cons (de_isi T.n_isinstance (da_cons (dv 0) (da_cons (de_gref T.r_NoSample rfl) da_nil))) da_nil)))))
      (dss_cons (ds_extend (pv 1) (de_lst (da_cons (de_isi T.n_isinstance (da_cons (dv 0) (da_cons (de_gref T.r_NoStep rfl) da_nil))) (da_cons (de_isi T.n_isinstance (da_cons (dv 0) (da_cons (de_gref T.r_NoEnd rfl) da_nil))) (da_cons (de_isi T.n_isinstance (da_cons (dv 0) (da_cons (de_gref T.r_NoGlass rfl) da_nil))) da_nil)))))
      (dss_cons (ds_extend (pv 1) (de_lst (da_cons (de_isi T.n_isinstance (da_cons (dv 0) (da_cons (de_gref T.r_Fixed rfl) da_nil))) (da_cons (de_isi T.n_isinstance (da_cons (dv 0) (da_cons (de_gref T.r_OtherVessels rfl) da_nil))) (da_cons (de_isi T.n_isinstance (da_cons (dv 0) (da_cons (de_gref T.r_Unlike rfl) da_nil))) da_nil)))))
      (dss_cons (ds_extend (pv 1) (de_lst (da_cons (de_isi T.n_isinstance (da_cons (dv 0) (da_cons (de_gref T.r_BadAmount rfl) da_nil))) (da_cons (de_isi T.n_isinstance (da_cons (dv 0) (da_cons (de_gref T.r_NotParted rfl) da_nil))) (da_cons (de_isi T.n_isinstance (da_cons (dv 0) (da_cons (de_gref T.r_BadRow rfl) da_nil))) da_nil)))))
      (dss_cons (ds_extend (pv 1) (de_lst (da_cons (de_isi T.n_isinstance (da_cons (dv 0) (da_cons (de_gref T.r_NotMixing rfl) da_nil))) (da_cons (de_isi T.n_isinstance (da_cons (dv 0) (da_cons (de_gref T.r_TooMany rfl) da_nil))) (da_cons (de_isi T.n_isinstance (da_cons (dv 0) (da_cons (de_gref T.r_BadCut rfl) da_nil))) da_nil)))))
      (dss_cons (ds_extend (pv 1) (de_lst (da_cons (de_isi T.n_isinstance (da_cons (dv 0) (da_cons (de_gref T.r_BadLot rfl) da_nil))) (da_cons (de_isi T.n_isinstance (da_cons (dv 0) (da_cons (de_gref T.r_NoMixing rfl) da_nil))) (da_cons (de_isi T.n_isinstance (da_cons (dv 0) (da_cons (de_gref T.r_BadDyes rfl) da_nil))) da_nil)))))
      (dss_cons (ds_extend (pv 1) (de_lst (da_cons (de_isi T.n_isinstance (da_cons (dv 0) (da_cons (de_gref T.r_BadWeights rfl) da_nil))) (da_cons (de_isi T.n_isinstance (da_cons (dv 0) (da_cons (de_gref T.r_BadHeights rfl) da_nil))) da_nil))))
      (dss_one (ds_rel 1 (ds_ret (dv 1)))))))))))))), ?_⟩
  intro ds u Qd Ed h
  obtain ⟨c, d, rfl, hc, h1⟩ := h
  have Z := (T.er c hc).isi
  refine ⟨by decide, ?_⟩
  refine ⟨⟨_, rfl⟩, ?_⟩
  refine ⟨Z, _, _, _, rfl, rfl, T.kit c hc "BadYard" (by decide +kernel), ?_⟩
  refine ⟨Z, _, _, _, rfl, rfl, T.kit c hc "BadSpot" (by decide +kernel), ?_⟩
  refine ⟨Z, _, _, _, rfl, rfl, T.kit c hc "NoVessel" (by decide +kernel), ?_⟩
  refine ⟨(by show 3 ≤ sizeLine; decide), (by show 0 + 3 ≤ sizeLine; decide), ?_⟩
  refine ⟨⟨_, rfl⟩, ?_⟩
  refine ⟨Z, _, _, _, rfl, rfl, T.kit c hc "BadMoment" (by decide +kernel), ?_⟩
  refine ⟨Z, _, _, _, rfl, rfl, T.kit c hc "BadStep" (by decide +kernel), ?_⟩
  refine ⟨Z, _, _, _, rfl, rfl, T.kit c hc "Full" (by decide +kernel), ?_⟩
  refine ⟨(by show 3 ≤ sizeLine; decide), (by show 3 + 3 ≤ sizeLine; decide), ?_⟩
  refine ⟨⟨_, rfl⟩, ?_⟩
  refine ⟨Z, _, _, _, rfl, rfl, T.kit c hc "BadSample" (by decide +kernel), ?_⟩
  refine ⟨Z, _, _, _, rfl, rfl, T.kit c hc "Told" (by decide +kernel), ?_⟩
  refine ⟨Z, _, _, _, rfl, rfl, T.kit c hc "NoSample" (by decide +kernel), ?_⟩
  refine ⟨(by show 3 ≤ sizeLine; decide), (by show 6 + 3 ≤ sizeLine; decide), ?_⟩
  refine ⟨⟨_, rfl⟩, ?_⟩
  refine ⟨Z, _, _, _, rfl, rfl, T.kit c hc "NoStep" (by decide +kernel), ?_⟩
  refine ⟨Z, _, _, _, rfl, rfl, T.kit c hc "NoEnd" (by decide +kernel), ?_⟩
  refine ⟨Z, _, _, _, rfl, rfl, T.kit c hc "NoGlass" (by decide +kernel), ?_⟩
  refine ⟨(by show 3 ≤ sizeLine; decide), (by show 9 + 3 ≤ sizeLine; decide), ?_⟩
  refine ⟨⟨_, rfl⟩, ?_⟩
  refine ⟨Z, _, _, _, rfl, rfl, T.kit c hc "Fixed" (by decide +kernel), ?_⟩
  refine ⟨Z, _, _, _, rfl, rfl, T.kit c hc "OtherVessels" (by decide +kernel), ?_⟩
  refine ⟨Z, _, _, _, rfl, rfl, T.kit c hc "Unlike" (by decide +kernel), ?_⟩
  refine ⟨(by show 3 ≤ sizeLine; decide), (by show 12 + 3 ≤ sizeLine; decide), ?_⟩
  refine ⟨⟨_, rfl⟩, ?_⟩
  refine ⟨Z, _, _, _, rfl, rfl, T.kit c hc "BadAmount" (by decide +kernel), ?_⟩
  refine ⟨Z, _, _, _, rfl, rfl, T.kit c hc "NotParted" (by decide +kernel), ?_⟩
  refine ⟨Z, _, _, _, rfl, rfl, T.kit c hc "BadRow" (by decide +kernel), ?_⟩
  refine ⟨(by show 3 ≤ sizeLine; decide), (by show 15 + 3 ≤ sizeLine; decide), ?_⟩
  refine ⟨⟨_, rfl⟩, ?_⟩
  refine ⟨Z, _, _, _, rfl, rfl, T.kit c hc "NotMixing" (by decide +kernel), ?_⟩
  refine ⟨Z, _, _, _, rfl, rfl, T.kit c hc "TooMany" (by decide +kernel), ?_⟩
  refine ⟨Z, _, _, _, rfl, rfl, T.kit c hc "BadCut" (by decide +kernel), ?_⟩
  refine ⟨(by show 3 ≤ sizeLine; decide), (by show 18 + 3 ≤ sizeLine; decide), ?_⟩
  refine ⟨⟨_, rfl⟩, ?_⟩
  refine ⟨Z, _, _, _, rfl, rfl, T.kit c hc "BadLot" (by decide +kernel), ?_⟩
  refine ⟨Z, _, _, _, rfl, rfl, T.kit c hc "NoMixing" (by decide +kernel), ?_⟩
  refine ⟨Z, _, _, _, rfl, rfl, T.kit c hc "BadDyes" (by decide +kernel), ?_⟩
  refine ⟨(by show 3 ≤ sizeLine; decide), (by show 21 + 3 ≤ sizeLine; decide), ?_⟩
  refine ⟨⟨_, rfl⟩, ?_⟩
  refine ⟨Z, _, _, _, rfl, rfl, T.kit c hc "BadWeights" (by decide +kernel), ?_⟩
  refine ⟨Z, _, _, _, rfl, rfl, T.kit c hc "BadHeights" (by decide +kernel), ?_⟩
  refine ⟨(by show 2 ≤ sizeLine; decide), (by show 24 + 2 ≤ sizeLine; decide), ?_⟩
  exact h1
theorem ok_law_second_half (T : Fx P K mg) (F : FunD K "_law_second_half" "_law_second_half" (defArgs s_law_second_half) (defBody s_law_second_half) (defScope s_law_second_half) [] [] f fd) : FnG P w K mg base 1 f fd ["_law_error"] (spD K secF) := by
  refine okD F sc_law_second_half (secF_len) fun cdv A outer s H E hr hG => ⟨_, (dss_cons (ds_ownL (i := 1) sc_law_second_half.nd rfl (Or.inl rfl) da_nil)
      (dss_cons (ds_extend (pv 1) (de_lst (da_cons (de_isi T.n_isinstance (da_cons (dv 0) (da_cons (de_gref T.r_BadSpots rfl) da_nil))) (da_cons (de_isi T.n_isinstance (da_cons (dv 0) (da_cons (de_gref T.r_BadNumbers rfl) da_nil))) (da_cons (de_isi T.n_isinstance (da_cons (dv 0) (da_cons (de_gref T.r_OtherSteps rfl) da_nil))) da_nil)))))
      (dss_cons (ds_extend (pv 1) (de_lst (da_cons (de_isi T.n_isinstance (da_cons (dv 0) (da_cons (de_gref T.r_BadMarks rfl) da_nil))) (da_cons (de_isi T.n_isinstance (da_cons (dv 0) (da_cons (de_gref T.r_NoSource rfl) da_nil))) (da_cons (de_isi T.n_isinstance (da_cons (dv 0) (da_cons (de_gref T.r_Great rfl) da_nil))) da_nil)))))
      (dss_cons (ds_extend (pv 1) (de_lst (da_cons (de_isi T.n_isinstance (da_cons (dv 0) (da_cons (de_gref T.r_BadMost rfl) da_nil))) (da_cons (de_isi T.n_isinstance (da_cons (dv 0) (da_cons (de_gref T.r_BadPrices rfl) da_nil))) (da_cons (de_isi T.n_isinstance (da_cons (dv 0) (da_cons (de_gref T.r_BadQuestion rfl) da_nil))) da_nil)))))
      (dss_cons (ds_extend (pv 1) (de_lst (da_cons (de_isi T.n_isinstance (da_cons (dv 0) (da_cons (de_gref T.r_BadAnswers rfl) da_nil))) (da_cons (de_isi T.n_isinstance (da_cons (dv 0) (da_cons (de_gref T.r_BadQuestions rfl) da_nil))) (da_cons (de_isi T.n_isinstance (da_cons (dv 0) (da_cons (de_gref T.r_BadBlock rfl) da_nil))) da_nil)))))
      (dss_cons (ds_extend (pv 1) (de_lst (da_cons (de_isi T.n_isinstance (da_cons (dv 0) (da_cons (de_gref T.r_BadMany rfl) da_nil))) (da_cons (de_isi T.n_isinstance (da_cons (dv 0) (da_cons (de_gref T.r_BadOffers rfl) da_nil))) (da_cons (de_isi T.n_isinstance (da_cons (dv 0) (da_cons (de_gref T.r_BadWishes rfl) da_nil))) da_nil)))))
      (dss_cons (ds_extend (pv 1) (de_lst (da_cons (de_isi T.n_isinstance (da_cons (dv 0) (da_cons (de_gref T.r_BadChoice rfl) da_nil))) (da_cons (de_isi T.n_isinstance (da_cons (dv 0) (da_cons (de_gref T.r_BadVessels rfl) da_nil))) (da_cons (de_isi T.n_isinstance (da_cons (dv 0) (da_cons (de_gref T.r_Same rfl) da_nil))) da_nil)))))
      (dss_cons (ds_extend (pv 1) (de_lst (da_cons (de_isi T.n_isinstance (da_cons (dv 0) (da_cons (de_gref T.r_TooLittle rfl) da_nil))) (da_cons (de_isi T.n_isinstance (da_cons (dv 0) (da_cons (de_gref T.r_Torn rfl) da_nil))) (da_cons (de_isi T.n_isinstance (da_cons (dv 0) (da_cons (de_gref T.r_NothingToUndo rfl) da_nil))) da_nil)))))
      (dss_cons (ds_extend (pv 1) (de_lst (da_cons (de_isi T.n_isinstance (da_cons (dv 0) (da_cons (de_gref T.r_NothingToRedo rfl) da_nil))) (da_cons (de_isi T.n_isinstance (da_cons (dv 0) (da_cons (de_gref T.r_NoTrial rfl) da_nil))) (da_cons (de_isi T.n_isinstance (da_cons (dv 0) (da_cons (de_gref T.r_BadJournal rfl) da_nil))) da_nil)))))
      (dss_cons (ds_extend (pv 1) (de_lst (da_cons (de_isi T.n_isinstance (da_cons (dv 0) (da_cons (de_gref T.r_BadLine rfl) da_nil))) da_nil)))
      (dss_one (ds_rel 1 (ds_ret (dv 1)))))))))))))), ?_⟩
  intro ds u Qd Ed h
  obtain ⟨c, d, rfl, hc, h1⟩ := h
  have Z := (T.er c hc).isi
  refine ⟨by decide, ?_⟩
  refine ⟨⟨_, rfl⟩, ?_⟩
  refine ⟨Z, _, _, _, rfl, rfl, T.kit c hc "BadSpots" (by decide +kernel), ?_⟩
  refine ⟨Z, _, _, _, rfl, rfl, T.kit c hc "BadNumbers" (by decide +kernel), ?_⟩
  refine ⟨Z, _, _, _, rfl, rfl, T.kit c hc "OtherSteps" (by decide +kernel), ?_⟩
  refine ⟨(by show 3 ≤ sizeLine; decide), (by show 0 + 3 ≤ sizeLine; decide), ?_⟩
  refine ⟨⟨_, rfl⟩, ?_⟩
  refine ⟨Z, _, _, _, rfl, rfl, T.kit c hc "BadMarks" (by decide +kernel), ?_⟩
  refine ⟨Z, _, _, _, rfl, rfl, T.kit c hc "NoSource" (by decide +kernel), ?_⟩
  refine ⟨Z, _, _, _, rfl, rfl, T.kit c hc "Great" (by decide +kernel), ?_⟩
  refine ⟨(by show 3 ≤ sizeLine; decide), (by show 3 + 3 ≤ sizeLine; decide), ?_⟩
  refine ⟨⟨_, rfl⟩, ?_⟩
  refine ⟨Z, _, _, _, rfl, rfl, T.kit c hc "BadMost" (by decide +kernel), ?_⟩
  refine ⟨Z, _, _, _, rfl, rfl, T.kit c hc "BadPrices" (by decide +kernel), ?_⟩
  refine ⟨Z, _, _, _, rfl, rfl, T.kit c hc "BadQuestion" (by decide +kernel), ?_⟩
  refine ⟨(by show 3 ≤ sizeLine; decide), (by show 6 + 3 ≤ sizeLine; decide), ?_⟩
  refine ⟨⟨_, rfl⟩, ?_⟩
  refine ⟨Z, _, _, _, rfl, rfl, T.kit c hc "BadAnswers" (by decide +kernel), ?_⟩
  refine ⟨Z, _, _, _, rfl, rfl, T.kit c hc "BadQuestions" (by decide +kernel), ?_⟩
  refine ⟨Z, _, _, _, rfl, rfl, T.kit c hc "BadBlock" (by decide +kernel), ?_⟩
  refine ⟨(by show 3 ≤ sizeLine; decide), (by show 9 + 3 ≤ sizeLine; decide), ?_⟩
  refine ⟨⟨_, rfl⟩, ?_⟩
  refine ⟨Z, _, _, _, rfl, rfl, T.kit c hc "BadMany" (by decide +kernel), ?_⟩
  refine ⟨Z, _, _, _, rfl, rfl, T.kit c hc "BadOffers" (by decide +kernel), ?_⟩
  refine ⟨Z, _, _, _, rfl, rfl, T.kit c hc "BadWishes" (by decide +kernel), ?_⟩
  refine ⟨(by show 3 ≤ sizeLine; decide), (by show 12 + 3 ≤ sizeLine; decide), ?_⟩
  refine ⟨⟨_, rfl⟩, ?_⟩
  refine ⟨Z, _, _, _, rfl, rfl, T.kit c hc "BadChoice" (by decide +kernel), ?_⟩
  refine ⟨Z, _, _, _, rfl, rfl, T.kit c hc "BadVessels" (by decide +kernel), ?_⟩
  refine ⟨Z, _, _, _, rfl, rfl, T.kit c hc "Same" (by decide +kernel), ?_⟩
  refine ⟨(by show 3 ≤ sizeLine; decide), (by show 15 + 3 ≤ sizeLine; decide), ?_⟩
  refine ⟨⟨_, rfl⟩, ?_⟩
  refine ⟨Z, _, _, _, rfl, rfl, T.kit c hc "TooLittle" (by decide +kernel), ?_⟩
  refine ⟨Z, _, _, _, rfl, rfl, T.kit c hc "Torn" (by decide +kernel), ?_⟩
  refine ⟨Z, _, _, _, rfl, rfl, T.kit c hc "NothingToUndo" (by decide +kernel), ?_⟩
  refine ⟨(by show 3 ≤ sizeLine; decide), (by show 18 + 3 ≤ sizeLine; decide), ?_⟩
  refine ⟨⟨_, rfl⟩, ?_⟩
  refine ⟨Z, _, _, _, rfl, rfl, T.kit c hc "NothingToRedo" (by decide +kernel), ?_⟩
  refine ⟨Z, _, _, _, rfl, rfl, T.kit c hc "NoTrial" (by decide +kernel), ?_⟩
  refine ⟨Z, _, _, _, rfl, rfl, T.kit c hc "BadJournal" (by decide +kernel), ?_⟩
  refine ⟨(by show 3 ≤ sizeLine; decide), (by show 21 + 3 ≤ sizeLine; decide), ?_⟩
  refine ⟨⟨_, rfl⟩, ?_⟩
  refine ⟨Z, _, _, _, rfl, rfl, T.kit c hc "BadLine" (by decide +kernel), ?_⟩
  refine ⟨(by show 1 ≤ sizeLine; decide), (by show 24 + 1 ≤ sizeLine; decide), ?_⟩
  exact h1
end
end Lw

set_option Elab.async false
set_option linter.all false
set_option maxRecDepth 100000
set_option maxHeartbeats 4000000
namespace Lw
open PySem PySem.Spec PyProof.Rows L2 DL
theorem for_ind {b : DB} {mb : DSM} {Z : DEnds} (W : Nat → DEnv → Nat → Prop) {ds : List Dat} {G : DEnv} {u : Nat} (h0 : W 0 G u)
    (step : ∀ i d G u, ds[i]? = some d → W i G u → ∀ nx : DEnv → Nat → Prop, (∀ G2 u2, W (i + 1) G2 u2 → nx G2 u2) → b d G fun G' => mb G' u { Z with nx := nx, ct := nx, bk := Z.nx })
    (fin : ∀ G u, W ds.length G u → Z.nx G u) : forGo b mb Z ds G u := by
  have go : ∀ (r : List Dat) (i : Nat) (G : DEnv) (u : Nat), r = ds.drop i → i ≤ ds.length → W i G u → forGo b mb Z r G u := by
    intro r
    induction r with
    | nil =>
      intro i G u e hi w
      have l : ds.length ≤ i := List.drop_eq_nil_iff.mp e.symm
      have e2 : i = ds.length := by omega
      subst e2
      exact fin G u w
    | cons d r ih =>
      intro i G u e hi w
      have hd : ds[i]? = some d := by
        have := congrArg (fun l => l[0]?) e
        simpa using this.symm
      have e2 : r = ds.drop (i + 1) := by
        have := congrArg List.tail e
        simpa using this
      have hl := (List.getElem?_eq_some_iff.mp hd).1
      exact step i d G u hd w _ fun G2 u2 w2 => ih (i + 1) G2 u2 e2 (by omega) w2
  exact go ds 0 G u (by simp) (by omega) h0
section
variable {P : Program} {w : World} {K : PySem.W.Frag} {mg : Str → Option Value} {base : Heap} {f : Addr} {fd : FuncData}
def rigF : DF := fun ds u Q _ => ds = [.pot] ∧ u < 1000 ∧ ∀ u', Q (.bl true) u'
theorem rigF_len (ds : List Dat) (u : Nat) (Q E : QD) (h : rigF ds u Q E) : ds.length = 1 := by obtain ⟨rfl, _⟩ := h; rfl
theorem lc_map {b : DB} {t : DTM} {m : DM} {G : DEnv} {Q : QD} {h : Dat → Dat} {u : Nat} {ds : List Dat} (el : ∀ d ∈ ds, ∀ (R : QD) (X : Nat → Prop), R (h d) u → b d G fun G' => t G' u (fun k u1 => bif k then m G' u1 R (fun _ _ => False) else X u1) fun _ _ => False) :
    ∀ (acc : List Dat), acc.length + ds.length ≤ sizeLine → Q (.lst (acc ++ ds.map h)) u → lcGo b t m G Q ds acc u := by
  induction ds with
  | nil =>
    intro acc _ hq
    rw [List.map_nil, List.append_nil] at hq
    exact hq
  | cons d r ih =>
    intro acc hl hq
    rw [List.length_cons] at hl
    refine el d List.mem_cons_self _ (fun u1 => lcGo b t m G Q r acc u1) ⟨by omega, ih (fun x hx => el x (List.mem_cons_of_mem _ hx)) _ ?_ ?_⟩
    · rw [List.length_append, List.length_singleton]; omega
    · rw [List.append_assoc]; exact hq
def mkD (c : Str) : Dat := .lst ((hA.map fun x => .bl (c == x)) ++ (hB.map fun x => .bl (c == x)))
def mrD (j : Int) : Dat := .lst ((rgD 0 51).map fun d => .bl (eqvD (.int j) d))
def chk (j : Nat) : Bool := match errs[j]? with
  | some c => eqvD (mkD c) (mrD j) && ((mkD c).fit && (mrD j).fit)
  | none => true
theorem chk_all : (List.range 51).all chk = true := by decide +kernel
theorem errs_len : errs.length = 51 := by decide +kernel
theorem marks_of {j : Nat} {c : Str} (h : errs[j]? = some c) : (scalD (mkD c) (mrD j) || ((mkD c).fit && (mrD j).fit)) = true ∧ (!eqvD (mkD c) (mrD j)) = false := by
  have l := (List.getElem?_eq_some_iff.mp h).1
  rw [errs_len] at l
  have e := List.all_eq_true.mp chk_all j (List.mem_range.mpr l)
  unfold chk at e
  rw [h] at e
  have e2 : (eqvD (mkD c) (mrD j) && ((mkD c).fit && (mrD j).fit)) = true := e
  rw [Bool.and_eq_true] at e2
  exact ⟨by rw [e2.2, Bool.or_true], by rw [e2.1]; rfl⟩
theorem bifc {b : Bool} {A B : Prop} (h : b = false) (z : B) : bif b then A else B := by rw [h]; exact z
/-- what repr can show -/
def shB (d : Dat) : Bool := d.data && (d.toPy.showable && (decide (d.toPy.depth ≤ 60) && decide (d.toPy.shown.length ≤ sizeLine)))
theorem sh_of {d : Dat} (h : shB d = true) : d.data = true ∧ d.toPy.showable = true ∧ d.toPy.depth ≤ 60 ∧ d.toPy.shown.length ≤ sizeLine ∧ eqvD (.str d.toPy.shown) (.str d.toPy.shown) = true := by
  unfold shB at h
  rw [Bool.and_eq_true, Bool.and_eq_true, Bool.and_eq_true] at h
  exact ⟨h.1, h.2.1, of_decide_eq_true h.2.2.1, of_decide_eq_true h.2.2.2, by simp [eqvD, Dat.toPy, PyData.eqv]⟩
def thB (o : Dat) : Bool := shB o && (shB (.tup [o, .int 3]) && (shB (.lst [o]) && shB (.dct [(.inr "a", .tup [o])])))
theorem th_all : oddL.all thB = true := by decide +kernel
theorem th_of {o : Dat} (h : o ∈ oddL) : shB o = true ∧ shB (.tup [o, .int 3]) = true ∧ shB (.lst [o]) = true ∧ shB (.dct [(.inr "a", .tup [o])]) = true := by
  have := List.all_eq_true.mp th_all o h
  unfold thB at this
  rwa [Bool.and_eq_true, Bool.and_eq_true, Bool.and_eq_true] at this

theorem ok_law_right (T : Fx P K mg) (c_law_all_made_1 : Cal P w K mg base 1 "_law_all_made" allF []) (c_law_first_half_1 : Cal P w K mg base 1 "_law_first_half" firF []) (c_law_odd_1 : Cal P w K mg base 3 "_law_odd" oddF []) (c_law_of_2 : Cal P w K mg base 2 "_law_of" ofF []) (c_law_second_half_1 : Cal P w K mg base 1 "_law_second_half" secF []) (F : FunD K "_law_right" "_law_right" (defArgs s_law_right) (defBody s_law_right) (defScope s_law_right) [] [] f fd) : FnG P w K mg base 4 f fd ["_law_pot_here"] (spD K rigF) := by
  refine okD F sc_law_right (rigF_len) fun cdv A outer s H E hr hG => ⟨_, (dss_cons (ds_for (xs := [1]) (passes_of rfl) rfl (di_range1 T.n_range (da_cons de_int da_nil)) (dg_name (i := 1) sc_law_right.nd rfl (by first | exact Or.inl rfl | exact Or.inr rfl))
      (dss_cons (ds_set (i := 2) sc_law_right.nd rfl (by first | exact Or.inl rfl | exact Or.inr rfl) (de_cal c_law_of_2 (hr.mono (by decide)) hG (da_cons (dv 0) (da_cons (de_lst (da_cons (de_cal c_law_odd_1 (hr.mono (by decide)) hG (da_cons (dv 0) da_nil)) (da_cons (de_tup (da_cons (de_cal c_law_odd_1 (hr.mono (by decide)) hG (da_cons (dv 0) da_nil)) (da_cons de_int da_nil))) (da_cons (de_lst (da_cons (de_cal c_law_odd_1 (hr.mono (by decide)) hG (da_cons (dv 0) da_nil)) da_nil)) (da_cons (de_dict (dps_cons de_str (de_tup (da_cons (de_cal c_law_odd_1 (hr.mono (by decide)) hG (da_cons (dv 0) da_nil)) da_nil)) dps_nil)) da_nil))))) da_nil))))
      (dss_cons (ds_set (i := 3) sc_law_right.nd rfl (by first | exact Or.inl rfl | exact Or.inr rfl) (de_cal c_law_all_made_1 (hr.mono (by decide)) hG (da_cons (dv 2) da_nil)))
      (dss_cons (ds_for (xs := [4, 5]) (passes_of rfl) rfl (di_enum T.n_enumerate (da_cons (dv 3) da_nil)) (dg_tup rfl (dgs_cons (dg_name (i := 4) sc_law_right.nd rfl (by first | exact Or.inl rfl | exact Or.inr rfl)) (dgs_cons (dg_name (i := 5) sc_law_right.nd rfl (by first | exact Or.inl rfl | exact Or.inr rfl)) dgs_nil)))
      (dss_cons (ds_if (dt_w (dw_or (dt_not (dt_val (de_isi T.n_isinstance (da_cons (dv 5) (da_cons (de_gref T.r_PourError rfl) da_nil))))) (dw_or1 (dt_not (dt_val (de_isi T.n_isinstance (da_cons (dv 5) (da_cons (de_bty (n := "ValueError") T.n_ValueError (by decide +kernel) rfl) da_nil))))))))
      (dss_one (ds_ret de_bl))
      dss_nil)
      (dss_cons (ds_setLc (i := 6) (own := [("_law_its", 8)]) rfl sc_law_right.nd rfl rfl (sw_true rfl rfl rfl (by decide +kernel)) (di_range1 T.n_range (da_cons (de_len T.n_len (da_cons (dv 3) da_nil)) da_nil)) (blkOk_by (own := [("_law_its", 8)]) (N := N_law_right) (sc := defScope s_law_right) (by decide +kernel)) (fun _ _ _ _ _ => (dg_name (i := 8) sc_law_right.nd rfl (by first | exact Or.inl rfl | exact Or.inr rfl))) (fun _ _ _ _ _ => dts_nil) (fun _ _ _ _ _ => (de_eq hr.units (dv 4) (dv 8))))
      (dss_one (ds_if (dt_w (dw_or (dt_ne hr.units (de_repr hG hr.units T.sys T.n_repr (da_cons (de_value (dv 5)) da_nil)) (de_repr hG hr.units T.sys T.n_repr (da_cons (dv 2) da_nil))) (dw_or1 (dt_ne hr.units (de_add (de_cal c_law_first_half_1 (hr.mono (by decide)) hG (da_cons (dv 5) da_nil)) (de_cal c_law_second_half_1 (hr.mono (by decide)) hG (da_cons (dv 5) da_nil))) (dv 6)))))
      (dss_one (ds_ret de_bl))
      dss_nil)))))
      (dss_cons (ds_set (i := 7) sc_law_right.nd rfl (by first | exact Or.inl rfl | exact Or.inr rfl) (de_err T.e_PourError hr (dv 2)))
      (dss_cons (ds_if (dt_w (dw_or (dt_ne hr.units (de_repr hG hr.units T.sys T.n_repr (da_cons (de_value (dv 7)) da_nil)) (de_repr hG hr.units T.sys T.n_repr (da_cons (dv 2) da_nil))) (dw_or1 (dt_not (dt_val (de_isi T.n_isinstance (da_cons (dv 7) (da_cons (de_bty (n := "ValueError") T.n_ValueError (by decide +kernel) rfl) da_nil))))))))
      (dss_one (ds_ret de_bl))
      dss_nil)
      (dss_one (ds_if (dt_in de_bl (de_add (de_cal c_law_first_half_1 (hr.mono (by decide)) hG (da_cons (dv 7) da_nil)) (de_cal c_law_second_half_1 (hr.mono (by decide)) hG (da_cons (dv 7) da_nil))))
      (dss_one (ds_ret de_bl))
      dss_nil))))))))
      (dss_one (ds_ret de_bl))), ?_⟩
  intro ds u Qd Ed h
  obtain ⟨rfl, h1, h2⟩ := h
  refine ⟨by decide, by decide, ?_⟩
  show forGo _ _ _ (rgD 0 3) [.va .pot, .no, .no, .no, .no, .no, .no, .no, .no] u
  refine for_ind (fun i G u' => u' ≤ u + 100 * i ∧ ∃ s1 s2 s3 s4 s5 s6 s7 s8, G = [.va .pot, s1, s2, s3, s4, s5, s6, s7, s8]) ⟨by omega, _, _, _, _, _, _, _, _, rfl⟩ ?_ fun G u _ => h2 u
  intro i d G u1 hi hw nx hnx
  obtain ⟨hu, s1, s2, s3, s4, s5, s6, s7, s8, rfl⟩ := hw
  have hi3 : i < 3 := (List.getElem?_eq_some_iff.mp hi).1
  refine ⟨rfl, by omega, fun o1 ho1 => ?_⟩
  refine ⟨rfl, by omega, fun o2 ho2 => ⟨(by show 2 ≤ sizeLine; decide), ?_⟩⟩
  refine ⟨rfl, by omega, fun o3 ho3 => ⟨(by show 1 ≤ sizeLine; decide), ?_⟩⟩
  refine ⟨rfl, by omega, fun o4 ho4 => ⟨(by show 1 ≤ sizeLine; decide), (by show 1 ≤ 15; decide), (by show 4 ≤ sizeLine; decide), ?_⟩⟩
  refine ⟨_, rfl, (fun z => nomatch z), (by show 4 < 1073741824; decide), by omega, fun t ht => ?_⟩
  have hs : shB t = true := by
    rcases List.mem_cons.mp ht with rfl | ht
    · exact (th_of ho1).1
    rcases List.mem_cons.mp ht with rfl | ht
    · exact (th_of ho2).2.1
    rcases List.mem_cons.mp ht with rfl | ht
    · exact (th_of ho3).2.2.1
    rcases List.mem_cons.mp ht with rfl | ht
    · exact (th_of ho4).2.2.2
    cases ht
  obtain ⟨w1, w2, w3, w4, w5⟩ := sh_of hs
  refine ⟨t, rfl, ?_⟩
  generalize hL : errs.map (fun c => Dat.exc c t) = L
  show forGo _ _ _ (enums L) [.va .pot, .va d, .va t, .va (.lst L), s4, s5, s6, s7, s8] (u1 + 1 + 1 + 1 + 1 + 1)
  refine for_ind (fun i G u' => u' = u1 + 5 ∧ ∃ s4 s5 s6 s7 s8, G = [.va .pot, .va d, .va t, .va (.lst L), s4, s5, s6, s7, s8]) ⟨rfl, _, _, _, _, _, rfl⟩ ?_ ?_
  · intro j e G u2 hj hw nx2 hnx2
    obtain ⟨rfl, s4, s5, s6, s7, s8, rfl⟩ := hw
    obtain ⟨x, hx, rfl⟩ := enums_get hj
    rw [← hL, List.getElem?_map] at hx
    cases hc : errs[j]? with
    | none => rw [hc] at hx; cases hx
    | some c =>
    rw [hc] at hx
    cases hx
    have mc : c ∈ pes := List.mem_cons_of_mem _ (List.mem_of_getElem? hc)
    have Z := (T.er c mc).isi
    refine ⟨rfl, Z, _, _, _, rfl, rfl, T.kitP c mc, Z, _, _, _, rfl, rfl, T.kitV c mc, ?_⟩
    have hLl : L.length = 51 := by rw [← hL, List.length_map]; exact errs_len
    refine ⟨by show -(2 ^ 62) ≤ (L.length : Int); omega, by show (L.length : Int) < 2 ^ 62; omega, ?_⟩
    have hL2 : (L.length : Int).toNat = 51 := by omega
    show lcGo _ _ _ _ _ (rgD 0 (L.length : Int).toNat) [] _
    rw [hL2]
    refine lc_map (h := fun y => .bl (eqvD (.int (j : Int)) y)) (fun y hy R X hR => ?_) [] (by show 0 + 51 ≤ sizeLine; decide) ?_
    · obtain ⟨m, hm⟩ := List.getElem?_of_mem hy
      obtain ⟨_, rfl⟩ := rgD_get hm
      exact ⟨rfl, hR⟩
    refine ⟨T.er c mc, w1, w2, w3, w4, w1, w2, w3, w4, rfl, ?_⟩
    rw [w5]
    obtain ⟨x1, x2⟩ := marks_of hc
    refine ⟨c, t, rfl, mc, c, t, rfl, mc, (by show 26 + 25 ≤ sizeLine; decide), x1, ?_⟩
    dsimp only
    refine bifc x2 ?_
    exact hnx2 _ _ ⟨rfl, _, _, _, _, _, rfl⟩
  · intro G u2 hw
    obtain ⟨rfl, s4, s5, s6, s7, s8, rfl⟩ := hw
    have mp : ("PourError" : Str) ∈ pes := List.mem_cons_self
    have Z := (T.er _ mp).isi
    refine ⟨T.er _ mp, w1, w2, w3, w4, w1, w2, w3, w4, rfl, ?_⟩
    rw [w5]
    refine ⟨Z, _, _, _, rfl, rfl, T.kitV _ mp, ?_⟩
    refine ⟨_, t, rfl, mp, _, t, rfl, mp, (by show 26 + 25 ≤ sizeLine; decide), ?_⟩
    have nin : inF (.bl true) ((hA.map fun x => Dat.bl (("PourError" : Str) == x)) ++ (hB.map fun x => Dat.bl (("PourError" : Str) == x))) = false := by decide +kernel
    have fl : (flatD (.bl true) && ((hA.map fun x => Dat.bl (("PourError" : Str) == x)) ++ (hB.map fun x => Dat.bl (("PourError" : Str) == x))).all flatD) = true := by decide +kernel
    refine ⟨fl, ?_⟩
    dsimp only
    rw [if_neg Bool.false_ne_true, nin]
    exact hnx _ _ ⟨by omega, _, _, _, _, _, _, _, _, rfl⟩
end
end Lw

set_option Elab.async false
set_option linter.all false
set_option maxRecDepth 100000
set_option maxHeartbeats 0
namespace Lw
open PySem PySem.Spec PyProof.Rows L2 DL
def d_law_pot : He.DefD := ⟨("_law_pot", none), "_law_pot", "_law_pot", defArgs (top 54), defBody (top 54), defScope (top 54), [], []⟩
def d_law_take : He.DefD := ⟨("_law_take", none), "_law_take", "_law_take", defArgs (top 55), defBody (top 55), defScope (top 55), [], []⟩
def d_law_of : He.DefD := ⟨("_law_of", none), "_law_of", "_law_of", defArgs (top 56), defBody (top 56), defScope (top 56), [], []⟩
def d_law_cells : He.DefD := ⟨("_law_cells", none), "_law_cells", "_law_cells", defArgs (top 57), defBody (top 57), defScope (top 57), [], []⟩
def d_law_odd : He.DefD := ⟨("_law_odd", none), "_law_odd", "_law_odd", defArgs (top 58), defBody (top 58), defScope (top 58), [], []⟩
def d_law_all_made : He.DefD := ⟨("_law_all_made", none), "_law_all_made", "_law_all_made", defArgs (top 59), defBody (top 59), defScope (top 59), [], []⟩
def d_law_first_half : He.DefD := ⟨("_law_first_half", none), "_law_first_half", "_law_first_half", defArgs (top 60), defBody (top 60), defScope (top 60), [], []⟩
def d_law_second_half : He.DefD := ⟨("_law_second_half", none), "_law_second_half", "_law_second_half", defArgs (top 61), defBody (top 61), defScope (top 61), [], []⟩
def d_law_right : He.DefD := ⟨("_law_right", none), "_law_right", "_law_right", defArgs (top 62), defBody (top 62), defScope (top 62), [], []⟩
def d_law : He.DefD := ⟨("law", none), "law", "law", defArgs (top 63), defBody (top 63), defScope (top 63), [], []⟩
def fn : List He.DefD := [d_law_pot, d_law_take, d_law_of, d_law_cells, d_law_odd, d_law_all_made, d_law_first_half, d_law_second_half, d_law_right, d_law]
def fa0 : List He.Fa := [.glo "_law_pot", .glo "_law_take", .glo "_law_of", .glo "_law_cells", .glo "_law_odd", .glo "_law_all_made", .glo "_law_first_half", .glo "_law_second_half", .glo "_law_right", .glo "law", .free "ValueError", .free "abs"]
def fa1 : List He.Fa := [.free "all", .free "enumerate", .free "int", .free "isinstance", .free "len", .free "list", .free "max", .free "min", .free "range", .free "repr", .free "super"]
def fa : List He.Fa := fa0 ++ fa1
def loose0 : List PySem.Str := ["PourError", "BadYard", "BadSpot", "NoVessel", "BadMoment", "BadStep", "Full", "BadSample", "Told", "NoSample", "NoStep", "NoEnd"]
def loose1 : List PySem.Str := ["NoGlass", "Fixed", "OtherVessels", "Unlike", "BadAmount", "NotParted", "BadRow", "NotMixing", "TooMany", "BadCut", "BadLot", "NoMixing"]
def loose2 : List PySem.Str := ["BadDyes", "BadWeights", "BadHeights", "BadSpots", "BadNumbers", "OtherSteps", "BadMarks", "NoSource", "Great", "BadMost", "BadPrices", "BadQuestion"]
def loose3 : List PySem.Str := ["BadAnswers", "BadQuestions", "BadBlock", "BadMany", "BadOffers", "BadWishes", "BadChoice", "BadVessels", "Same", "TooLittle", "Torn", "NothingToUndo"]
def loose4 : List PySem.Str := ["NothingToRedo", "NoTrial", "BadJournal", "BadLine", "_law_pot", "_law_take", "_law_of", "_law_cells", "_law_odd", "_law_all_made", "_law_first_half", "_law_second_half"]
def loose5 : List PySem.Str := ["_law_right"]
def loose : List PySem.Str := loose0 ++ loose1 ++ loose2 ++ loose3 ++ loose4 ++ loose5
abbrev R : PySem.W.OpenRow := PySem.W.OpenLaw.row PySem.Challenge.rw_dyedpours_k00_errors_keep_their_value
def hq : Hq := ⟨R.prog, fa, fn, pes, inClass (top 1) 0⟩
abbrev hk : PySem.W.Hook := hookX hq 6
def ob (s : PySem.W.SharedT) : AlX := obsXG hq 6 (HandSHeadRun.getT s)
theorem ob_eq (s : PySem.W.SharedT) : ob s = hk.obs s.abs := obsXG_eq (HandSHeadRun.getT_eq s)
theorem run (w : World) : HandSHeadRun.RunEq R (PySem.W.view R.prog [63]) hk ob 20000 loose w := by
  intro os
  kernel_rfl
theorem ini_ok : IniOk (inClass (top 1) 0) := ⟨_, _, _, _, _, _, _, _, _, _, _, _, rfl, rfl, rfl, rfl⟩
end Lw

set_option Elab.async false
set_option linter.all false
set_option maxRecDepth 100000
set_option maxHeartbeats 0
namespace Lw
open PySem PySem.Spec PyProof.Rows L2 DL
theorem ne_pe : ∀ c ∈ errs, (c == ("PourError" : Str)) = false := by decide +kernel
theorem hR (Q : QD) (h : ∀ u, Q (.bl true) u) : rigF [.pot] 0 Q fun _ _ => False := ⟨rfl, by decide, h⟩
theorem facts {w : World} {K : PySem.W.Frag} {h : Heap} {mg : Str → Option Value} {f : Addr} (X : K.In h) (G : h.Ns mainGlobals mg) (hfa : mg ("law" : Str) = some (.ref f)) (S : SaysX hq K) :
    ∃ fd : FuncData, (∀ (s : Shared) (v : Value), BindsTo s fd ⟨[v], []⟩ [("_law_script", v)]) ∧ ∀ base : Heap, K.In base → base.Ns mainGlobals mg → FnG R.prog w K mg base 5 f fd ["_law_script"] (spLaw K) := by
  have c := S.says
  obtain ⟨fd_law_pot, F_law_pot⟩ := c.def_ 0 (d := d_law_pot) rfl
  have g_law_pot := He.glo_ok X G (c.fact 0 (f := .glo "_law_pot") rfl)
  obtain ⟨fd_law_take, F_law_take⟩ := c.def_ 1 (d := d_law_take) rfl
  have g_law_take := He.glo_ok X G (c.fact 1 (f := .glo "_law_take") rfl)
  obtain ⟨fd_law_cells, F_law_cells⟩ := c.def_ 3 (d := d_law_cells) rfl
  have g_law_cells := He.glo_ok X G (c.fact 3 (f := .glo "_law_cells") rfl)
  obtain ⟨fd_law_of, F_law_of⟩ := c.def_ 2 (d := d_law_of) rfl
  have g_law_of := He.glo_ok X G (c.fact 2 (f := .glo "_law_of") rfl)
  obtain ⟨fd_law_odd, F_law_odd⟩ := c.def_ 4 (d := d_law_odd) rfl
  have g_law_odd := He.glo_ok X G (c.fact 4 (f := .glo "_law_odd") rfl)
  obtain ⟨fd_law_all_made, F_law_all_made⟩ := c.def_ 5 (d := d_law_all_made) rfl
  have g_law_all_made := He.glo_ok X G (c.fact 5 (f := .glo "_law_all_made") rfl)
  obtain ⟨fd_law_first_half, F_law_first_half⟩ := c.def_ 6 (d := d_law_first_half) rfl
  have g_law_first_half := He.glo_ok X G (c.fact 6 (f := .glo "_law_first_half") rfl)
  obtain ⟨fd_law_second_half, F_law_second_half⟩ := c.def_ 7 (d := d_law_second_half) rfl
  have g_law_second_half := He.glo_ok X G (c.fact 7 (f := .glo "_law_second_half") rfl)
  obtain ⟨fd_law_right, F_law_right⟩ := c.def_ 8 (d := d_law_right) rfl
  have g_law_right := He.glo_ok X G (c.fact 8 (f := .glo "_law_right") rfl)
  obtain ⟨fd_law, F_law⟩ := c.def_ 9 (d := d_law) rfl
  have e := hfa.symm.trans (He.glo_ok X G (c.fact 9 (f := .glo "law") rfl))
  cases e
  have T : Fx R.prog K mg := ⟨He.free_ok X G (c.fact 16 (f := .free "len") rfl), He.free_ok X G (c.fact 15 (f := .free "isinstance") rfl), He.free_ok X G (c.fact 21 (f := .free "repr") rfl), He.free_ok X G (c.fact 20 (f := .free "range") rfl), He.free_ok X G (c.fact 13 (f := .free "enumerate") rfl), He.free_ok X G (c.fact 10 (f := .free "ValueError") rfl), He.free_ok X G (c.fact 14 (f := .free "int") rfl), He.free_ok X G (c.fact 11 (f := .free "abs") rfl), He.free_ok X G (c.fact 18 (f := .free "max") rfl), He.free_ok X G (c.fact 19 (f := .free "min") rfl), He.free_ok X G (c.fact 17 (f := .free "list") rfl), He.free_ok X G (c.fact 12 (f := .free "all") rfl), S.sys, fun c hc => S.er X G ini_ok hc, fun c hc c2 hc2 => S.kit List.mem_cons_self hc (List.mem_cons_of_mem _ hc2) (ne_pe c2 hc2), fun c hc => S.kitP List.mem_cons_self hc, fun c hc => S.kitV hc⟩
  have b_law_pot : Binds K fd_law_pot ["_law_script", "_law_place"] [] := F_law_pot.bindsN fun _ _ _ _ _ _ us hl => match us, hl with | [_, _], _ => rfl
  have b_law_take : Binds K fd_law_take ["_law_pot_here", "_law_upto"] [] := F_law_take.bindsN fun _ _ _ _ _ _ us hl => match us, hl with | [_, _], _ => rfl
  have b_law_cells : Binds K fd_law_cells ["_law_script", "_law_limit"] [] := F_law_cells.bindsN fun _ _ _ _ _ _ us hl => match us, hl with | [_, _], _ => rfl
  have b_law_of : Binds K fd_law_of ["_law_pot_here", "_law_some"] [] := F_law_of.bindsN fun _ _ _ _ _ _ us hl => match us, hl with | [_, _], _ => rfl
  have b_law_odd : Binds K fd_law_odd ["_law_pot_here"] [] := F_law_odd.bindsN fun _ _ _ _ _ _ us hl => match us, hl with | [_], _ => rfl
  have b_law_all_made : Binds K fd_law_all_made ["_law_thing"] [] := F_law_all_made.bindsN fun _ _ _ _ _ _ us hl => match us, hl with | [_], _ => rfl
  have b_law_first_half : Binds K fd_law_first_half ["_law_error"] [] := F_law_first_half.bindsN fun _ _ _ _ _ _ us hl => match us, hl with | [_], _ => rfl
  have b_law_second_half : Binds K fd_law_second_half ["_law_error"] [] := F_law_second_half.bindsN fun _ _ _ _ _ _ us hl => match us, hl with | [_], _ => rfl
  have b_law_right : Binds K fd_law_right ["_law_pot_here"] [] := F_law_right.bindsN fun _ _ _ _ _ _ us hl => match us, hl with | [_], _ => rfl
  have b := FunD.bindsA (ps := ["_law_script"]) F_law fun _ _ _ _ _ _ us hl => match us, hl with | [_], _ => rfl
  refine ⟨fd_law, fun s v => b s [v] rfl, fun base _ _ => ?_⟩
  have G_law_take : FnG R.prog w K mg base 1 _ fd_law_take _ _ := ok_take F_law_take T.n_int
  have c_law_take_2 : Cal R.prog w K mg base 1 "_law_take" takeF [] := ⟨_, _, _, _, _, G_law_take, g_law_take, F_law_take.kp, b_law_take, .nil, fun _ _ => .nil⟩
  have G_law_of := ok_law_of (w := w) (base := base) T c_law_take_2 F_law_of
  have c_law_of_2 : Cal R.prog w K mg base 2 "_law_of" ofF [] := ⟨_, _, _, _, _, G_law_of, g_law_of, F_law_of.kp, b_law_of, .nil, fun _ _ => .nil⟩
  have G_law_odd := ok_law_odd (w := w) (base := base) T c_law_of_2 F_law_odd
  have c_law_odd_1 : Cal R.prog w K mg base 3 "_law_odd" oddF [] := ⟨_, _, _, _, _, G_law_odd, g_law_odd, F_law_odd.kp, b_law_odd, .nil, fun _ _ => .nil⟩
  have G_law_all_made := ok_law_all_made (w := w) (base := base) T  F_law_all_made
  have c_law_all_made_1 : Cal R.prog w K mg base 1 "_law_all_made" allF [] := ⟨_, _, _, _, _, G_law_all_made, g_law_all_made, F_law_all_made.kp, b_law_all_made, .nil, fun _ _ => .nil⟩
  have G_law_first_half := ok_law_first_half (w := w) (base := base) T  F_law_first_half
  have c_law_first_half_1 : Cal R.prog w K mg base 1 "_law_first_half" firF [] := ⟨_, _, _, _, _, G_law_first_half, g_law_first_half, F_law_first_half.kp, b_law_first_half, .nil, fun _ _ => .nil⟩
  have G_law_second_half := ok_law_second_half (w := w) (base := base) T  F_law_second_half
  have c_law_second_half_1 : Cal R.prog w K mg base 1 "_law_second_half" secF [] := ⟨_, _, _, _, _, G_law_second_half, g_law_second_half, F_law_second_half.kp, b_law_second_half, .nil, fun _ _ => .nil⟩
  have G_law_right := ok_law_right (w := w) (base := base) T c_law_all_made_1 c_law_first_half_1 c_law_odd_1 c_law_of_2 c_law_second_half_1 F_law_right
  have c_law_right_1 : Cal R.prog w K mg base 4 "_law_right" rigF [] := ⟨_, _, _, _, _, G_law_right, g_law_right, F_law_right.kp, b_law_right, .nil, fun _ _ => .nil⟩
  have G_law_cells : FnG R.prog w K mg base 1 _ fd_law_cells _ _ := ok_cells F_law_cells T.n_len T.n_max T.n_min T.n_list T.n_range
  have G_law_pot : FnG R.prog w K mg base 1 _ fd_law_pot _ _ := ok_pot F_law_pot T.n_int T.n_abs T.n_len
  exact ok_law F_law T.n_all G_law_cells g_law_cells F_law_cells.kp b_law_cells G_law_pot g_law_pot F_law_pot.kp b_law_pot G_law_right g_law_right F_law_right.kp b_law_right fun Q hQ => hR Q hQ
end Lw
open PySem PySem.W PySem.Calls PyProof.Rows
theorem PySem.Challenge.cw_dyedpours_k00_errors_keep_their_value_holds : PySem.Challenge.rw_dyedpours_k00_errors_keep_their_value.Holds := by
  w_on; o_law
  refine HandSHeadRun.head_any (r := OpenLaw.row PySem.Challenge.rw_dyedpours_k00_errors_keep_their_value) (q := view (OpenLaw.row PySem.Challenge.rw_dyedpours_k00_errors_keep_their_value).prog [63]) (H := Lw.hk) (ob := Lw.ob) (M := 20000) (loose := Lw.loose) (d := HandSHeadRun.topDef (OpenLaw.row PySem.Challenge.rw_dyedpours_k00_errors_keep_their_value).prog 63) (kwd := []) Lw.ob_eq
    (by kernel_rfl) (fun s => by kernel_rfl) Lw.run (by kernel_rfl) (by kernel_rfl) (by kernel_rfl) (by rfl) (by first | assumption | decide +kernel) (by decide +kernel) ⟨rfl, rfl, rfl, rfl, rfl, by decide +kernel⟩ ?hw ?hc
  case hw => w_witness2
  case hc =>
    refine DL.walkG (l := PySem.Challenge.rw_dyedpours_k00_errors_keep_their_value) (n := 63) (k := 5) (x := "_law_script") rfl (by decide) (by kernel_rfl) ⟨rfl, by decide, by decide⟩ ?F
    intro w mg fa h Y G hmg0
    obtain ⟨K, KX, e⟩ := Y
    have hmg : mg ("law" : PySem.Str) = some (.ref fa) := by
      have e : (HandSHeadRun.topDef (OpenLaw.row PySem.Challenge.rw_dyedpours_k00_errors_keep_their_value).prog 63).name = ("law" : PySem.Str) := by kernel_rfl
      rw [← e]
      exact hmg0
    obtain ⟨fd, hb, hF⟩ := Lw.facts (w := w) KX G hmg (DL.says_of e)
    exact ⟨K, fd, DL.spLaw K, KX, hb, fun H a ns hl hS => ⟨a, ns, rfl, hS, hl, fun _ => rfl⟩, hF⟩

