import PyProof.Rows.All
import Wide.All
import OpenK.AllK
import Wide.FinOn
import HandS.ForMost
import HandS.Defaults
import HandS.Evl
import HandS.DictComp
import HandS.Zip
import HandS.TupAny
import HandS.IsInst
import HandS.TupMul
import KE.GoesEnum
import KE.GoesMore
import HandS.Walk
import HandS.More
import HandS.Conv
import HandS.Wide
import HandS.TupSets
import KE.SortData
import HandS.Strs
import HandS.Style
import HandS.Dict
import PyProof.ReprBulk
import PySem.Challenge.RW_sightsums_k47_telling_round_by_round
import HandS.Head0
import HandS.Head1
import HandS.Head2
import HandS.HeadEnd
import HandS.HeadHook1
import HandS.HeadHook2
set_option Elab.async false
set_option linter.all false
set_option autoImplicit false
set_option maxRecDepth 100000
set_option maxHeartbeats 0
/-! # The data layer: readings of the hand layer told by plain functions over data (D), with fresh lists owned by slots, a frozen part G of the heap, and the deck's two objects. -/
namespace DL
open PySem L2 Evl

/-- data: what a value stands for -/
inductive D where
  | non | bl (b : Bool) | int (i : Int) | str (x : Str) | tup (xs : List D) | lst (xs : List D) | dck

mutual
inductive Rep (K : PySem.W.Frag) (pd : Addr) (G : Hp) : D → V → Prop
  | non : Rep K pd G .non .non
  | bl {b : Bool} : Rep K pd G (.bl b) (.bl b)
  | int {i : Int} : Rep K pd G (.int i) (.int i)
  | str {x : Str} : Rep K pd G (.str x) (.str x)
  | tup {a : Addr} {ds : List D} {vs : List V} : SqT K G a vs → RepL K pd G ds vs → Rep K pd G (.tup ds) (.ref a)
  | lst {a : Addr} {ds : List D} {vs : List V} : SqL K G a vs → RepL K pd G ds vs → Rep K pd G (.lst ds) (.ref a)
  | dck : Rep K pd G .dck (.ref pd)
inductive RepL (K : PySem.W.Frag) (pd : Addr) (G : Hp) : List D → List V → Prop
  | nil : RepL K pd G [] []
  | cons {d : D} {v : V} {ds : List D} {vs : List V} : Rep K pd G d v → RepL K pd G ds vs → RepL K pd G (d :: ds) (v :: vs)
end

section
variable {K : PySem.W.Frag} {pd pc : Addr} {G G' H H' : Hp}
mutual
theorem Rep.mono (e : Ex G G') : ∀ {d : D} {v : V}, Rep K pd G d v → Rep K pd G' d v
  | _, _, .non => .non
  | _, _, .bl => .bl
  | _, _, .int => .int
  | _, _, .str => .str
  | _, _, .tup h r => .tup (ex_t e h) (RepL.mono e r)
  | _, _, .lst h r => .lst (ex_l e h) (RepL.mono e r)
  | _, _, .dck => .dck
theorem RepL.mono (e : Ex G G') : ∀ {ds : List D} {vs : List V}, RepL K pd G ds vs → RepL K pd G' ds vs
  | _, _, .nil => .nil
  | _, _, .cons h r => .cons (Rep.mono e h) (RepL.mono e r)
end
theorem RepL.length : ∀ {ds : List D} {vs : List V}, RepL K pd G ds vs → ds.length = vs.length
  | _, _, .nil => rfl
  | _, _, .cons _ r => congrArg Nat.succ (RepL.length r)
theorem RepL.get : ∀ {ds : List D} {vs : List V} {i : Nat} {d : D}, RepL K pd G ds vs → ds[i]? = some d → ∃ v, vs[i]? = some v ∧ Rep K pd G d v
  | _, _, _, _, .nil, e => by simp at e
  | _, _, 0, _, .cons h _, e => by simp at e; subst e; exact ⟨_, rfl, h⟩
  | _, _, i + 1, d, .cons _ r, e => by
    obtain ⟨v, h1, h2⟩ := RepL.get (i := i) r (by simpa using e)
    exact ⟨v, by simpa using h1, h2⟩
theorem RepL.append : ∀ {ds es : List D} {vs us : List V}, RepL K pd G ds vs → RepL K pd G es us → RepL K pd G (ds ++ es) (vs ++ us)
  | _, _, _, _, .nil, s => s
  | _, _, _, _, .cons h r, s => .cons h (RepL.append r s)
theorem RepL.take : ∀ {ds : List D} {vs : List V} (n : Nat), RepL K pd G ds vs → RepL K pd G (ds.take n) (vs.take n)
  | _, _, 0, _ => .nil
  | _, _, _ + 1, .nil => .nil
  | _, _, n + 1, .cons h r => .cons h (RepL.take n r)
theorem RepL.drop : ∀ {ds : List D} {vs : List V} (n : Nat), RepL K pd G ds vs → RepL K pd G (ds.drop n) (vs.drop n)
  | _, _, 0, r => r
  | _, _, _ + 1, .nil => .nil
  | _, _, n + 1, .cons _ r => RepL.drop n r
theorem RepL.ints : ∀ (ns : List Int), RepL K pd G (ns.map D.int) (ns.map V.int)
  | [] => .nil
  | _ :: ns => .cons .int (RepL.ints ns)
theorem RepL.ints_of : ∀ {ns : List Int} {vs : List V}, RepL K pd G (ns.map D.int) vs → vs = ns.map V.int
  | [], _, .nil => rfl
  | n :: ns, _, .cons h r => by
    cases h
    rw [RepL.ints_of r]
    rfl
theorem RepL.one {d : D} {vs : List V} (h : RepL K pd G [d] vs) : ∃ v, vs = [v] ∧ Rep K pd G d v := by
  cases h with
  | cons h r => cases r; exact ⟨_, rfl, h⟩
theorem RepL.two {d e : D} {vs : List V} (h : RepL K pd G [d, e] vs) : ∃ v u, vs = [v, u] ∧ Rep K pd G d v ∧ Rep K pd G e u := by
  cases h with
  | cons h r => cases r with
    | cons h2 r2 => cases r2; exact ⟨_, _, rfl, h, h2⟩
end

/-- the deck's state -/
structure Dk where
  cells : List Int
  mixed : Int
  draws : Int

/-- the frozen part lies in the heap, the deck stands -/
structure Good (pd pc : Addr) (G H : Hp) (S : Dk) : Prop where
  ex : Ex G H
  nd : G pd = none
  nc : G pc = none
  dk : H pd = some (.dK [(.inr "cells", .ref pc), (.inr "mixed", .int S.mixed), (.inr "draws", .int S.draws)])
  ck : H pc = some (.lst (S.cells.map V.int))
theorem Good.nepc {pd pc : Addr} {G H : Hp} {S : Dk} (g : Good pd pc G H S) : pd ≠ pc := ne_of g.dk g.ck (by intro z; cases z)

/-- from (G0, H0) to (G, H): what is tracked stays but for the deck, the frozen part grows by what is new -/
structure Ent (pd pc : Addr) (H0 G0 G H : Hp) : Prop where
  ex : Ex G0 G
  kp : ∀ a o, H0 a = some o → a ≠ pd → a ≠ pc → H a = some o
  nw : ∀ a, H0 a ≠ none → G a = G0 a
  dm : ∀ a, H0 a ≠ none → H a ≠ none
section
variable {pd pc : Addr} {H0 G0 G H G1 H1 G2 H2 : Hp}
theorem Ent.refl (G H : Hp) : Ent pd pc H G G H := ⟨Ex.refl G, fun _ _ e _ _ => e, fun _ _ => rfl, fun _ h => h⟩
theorem Ent.trans (a : Ent pd pc H0 G0 G1 H1) (b : Ent pd pc H1 G1 G2 H2) : Ent pd pc H0 G0 G2 H2 :=
  ⟨a.ex.trans b.ex, fun x o e n m => b.kp x o (a.kp x o e n m) n m, fun x h => (b.nw x (a.dm x h)).trans (a.nw x h), fun x h => b.dm x (a.dm x h)⟩
theorem Ent.fresh (a : Ent pd pc H0 G0 G H) {p : Addr} (h : H p = none) : H0 p = none := by
  cases e : H0 p with
  | none => rfl
  | some o => exact absurd h (a.dm p (by rw [e]; exact fun z => nomatch z))
/-- a new object, not frozen -/
theorem Ent.new {p : Addr} {o : HO} (h : H p = none) : Ent pd pc H G G (upd H p o) :=
  ⟨Ex.refl G, fun a u e _ _ => by rw [upd_ne (ne_of_none e h)]; exact e, fun _ _ => rfl, fun a e => by
    by_cases ha : a = p
    · subst ha; exact absurd h e
    · rw [upd_ne ha]; exact e⟩
/-- a new object, frozen at once -/
theorem Ent.newG {p : Addr} {o : HO} (g : Ex G H) (h : H p = none) : Ent pd pc H G (upd G p o) (upd H p o) := by
  have hg : G p = none := fresh_back g h
  refine ⟨Ex.new hg, fun a u e _ _ => by rw [upd_ne (ne_of_none e h)]; exact e, fun a e => ?_, fun a e => ?_⟩
  · by_cases ha : a = p
    · subst ha; exact absurd h e
    · rw [upd_ne ha]
  · by_cases ha : a = p
    · subst ha; exact absurd h e
    · rw [upd_ne ha]; exact e
theorem Good.ned {S : Dk} (g : Good pd pc G H S) {p : Addr} (h : H p = none) : p ≠ pd := fun e => by subst e; rw [g.dk] at h; cases h
theorem Good.nec {S : Dk} (g : Good pd pc G H S) {p : Addr} (h : H p = none) : p ≠ pc := fun e => by subst e; rw [g.ck] at h; cases h
theorem Good.new {S : Dk} (g : Good pd pc G H S) {p : Addr} {o : HO} (h : H p = none) : Good pd pc G (upd H p o) S :=
  ⟨g.ex.trans (Ex.new h), g.nd, g.nc, by rw [upd_ne (g.ned h).symm]; exact g.dk, by rw [upd_ne (g.nec h).symm]; exact g.ck⟩
theorem Good.newG {S : Dk} (g : Good pd pc G H S) {p : Addr} {o : HO} (h : H p = none) : Good pd pc (upd G p o) (upd H p o) S := by
  have hg : G p = none := fresh_back g.ex h
  refine ⟨fun a u e => ?_, by rw [upd_ne (g.ned h).symm]; exact g.nd, by rw [upd_ne (g.nec h).symm]; exact g.nc, by rw [upd_ne (g.ned h).symm]; exact g.dk, by rw [upd_ne (g.nec h).symm]; exact g.ck⟩
  by_cases ha : a = p
  · subst ha; rw [upd_same] at e ⊢; exact e
  · rw [upd_ne ha] at e ⊢; exact g.ex a u e
/-- an own object changes -/
theorem Good.chg {S : Dk} (g : Good pd pc G H S) {p : Addr} {o : HO} (hg : G p = none) (h1 : p ≠ pd) (h2 : p ≠ pc) : Good pd pc G (upd H p o) S :=
  ⟨g.ex.mut hg, g.nd, g.nc, by rw [upd_ne h1.symm]; exact g.dk, by rw [upd_ne h2.symm]; exact g.ck⟩
/-- an own object is frozen -/
theorem Good.frz {S : Dk} (g : Good pd pc G H S) {p : Addr} {o : HO} (hg : H p = some o) (h1 : p ≠ pd) (h2 : p ≠ pc) : Good pd pc (upd G p o) H S :=
  ⟨fun a u e => by
    by_cases ha : a = p
    · subst ha; rw [upd_same] at e; cases e; exact hg
    · rw [upd_ne ha] at e; exact g.ex a u e, by rw [upd_ne h1.symm]; exact g.nd, by rw [upd_ne h2.symm]; exact g.nc, g.dk, g.ck⟩
end

/-- an object of one's own: a list, a dict of int and text keys -/
inductive Fo where
  | lst (xs : List D)
  | dki (kvs : List (Key × D))
inductive RepK (K : PySem.W.Frag) (pd : Addr) (G : Hp) : List (Key × D) → List (Key × V) → Prop
  | nil : RepK K pd G [] []
  | cons {k : Key} {d : D} {v : V} {ds : List (Key × D)} {vs : List (Key × V)} : Rep K pd G d v → RepK K pd G ds vs → RepK K pd G ((k, d) :: ds) ((k, v) :: vs)
theorem RepK.mono {K : PySem.W.Frag} {pd : Addr} {G G' : Hp} (e : Ex G G') : ∀ {ds : List (Key × D)} {vs : List (Key × V)}, RepK K pd G ds vs → RepK K pd G' ds vs
  | _, _, .nil => .nil
  | _, _, .cons h r => .cons (h.mono e) (RepK.mono e r)
theorem RepK.keys {K : PySem.W.Frag} {pd : Addr} {G : Hp} : ∀ {ds : List (Key × D)} {vs : List (Key × V)}, RepK K pd G ds vs → vs.map (·.1) = ds.map (·.1)
  | _, _, .nil => rfl
  | _, _, .cons _ r => by rw [List.map_cons, List.map_cons, RepK.keys r]
def HoOf (K : PySem.W.Frag) (pd : Addr) (G : Hp) : Fo → HO → Prop
  | .lst ds, o => ∃ vs, o = .lst vs ∧ RepL K pd G ds vs
  | .dki ks, o => ∃ vs, o = .dK vs ∧ RepK K pd G ks vs
theorem HoOf.mono {K : PySem.W.Frag} {pd : Addr} {G G' : Hp} (e : Ex G G') {fo : Fo} {o : HO} (h : HoOf K pd G fo o) : HoOf K pd G' fo o := by
  cases fo with
  | lst ds => obtain ⟨vs, e1, r⟩ := h; exact ⟨vs, e1, r.mono e⟩
  | dki ks => obtain ⟨vs, e1, r⟩ := h; exact ⟨vs, e1, r.mono e⟩

/-- a slot: unknown, data, an object of one's own -/
inductive Sl where
  | un | dat (d : D) | own (fo : Fo)

structure EnvR (K : PySem.W.Frag) (pd pc : Addr) (H0 G H : Hp) (ρ : List Sl) (σ : L2.St) : Prop where
  len : ρ.length = σ.length
  dat : ∀ (i : Nat) (d : D), ρ[i]? = some (Sl.dat d) → ∃ v, σ[i]? = some (some v) ∧ Rep K pd G d v
  own : ∀ (i : Nat) (fo : Fo), ρ[i]? = some (Sl.own fo) → ∃ a o, σ[i]? = some (some (V.ref a)) ∧ H0 a = none ∧ G a = none ∧ a ≠ pd ∧ a ≠ pc ∧ H a = some o ∧ HoOf K pd G fo o
  sep : ∀ (i j : Nat) (fo fo' : Fo) (a : Addr), i ≠ j → ρ[i]? = some (Sl.own fo) → ρ[j]? = some (Sl.own fo') → σ[i]? = some (some (V.ref a)) → σ[j]? ≠ some (some (V.ref a))
section
variable {K : PySem.W.Frag} {pd pc : Addr} {H0 G H G' H' : Hp} {ρ : List Sl} {σ : L2.St}
theorem EnvR.step (r : EnvR K pd pc H0 G H ρ σ) (e : Ent pd pc H G G' H') : EnvR K pd pc H0 G' H' ρ σ := by
  refine ⟨r.len, fun i d h => ?_, fun i fo h => ?_, r.sep⟩
  · obtain ⟨v, h1, h2⟩ := r.dat i d h
    exact ⟨v, h1, h2.mono e.ex⟩
  · obtain ⟨a, o, h1, h2, h3, h4, h5, h6, h7⟩ := r.own i fo h
    exact ⟨a, o, h1, h2, by rw [e.nw a (by rw [h6]; exact fun z => nomatch z)]; exact h3, h4, h5, e.kp a o h6 h4 h5, h7.mono e.ex⟩
/-- a slot is set to data -/
theorem EnvR.setD (r : EnvR K pd pc H0 G H ρ σ) {d : D} {v : V} (h : Rep K pd G d v) (i : Nat) : EnvR K pd pc H0 G H (ρ.set i (.dat d)) (σ.set i (some v)) := by
  have hl := r.len
  refine ⟨by simp [hl], fun j e he => ?_, fun j fo he => ?_, fun j k fo fo' a hjk hj hk => ?_⟩
  · by_cases hij : i = j
    · subst hij
      have hi : i < ρ.length := by have := (List.getElem?_eq_some_iff.mp he).1; simpa using this
      rw [List.getElem?_set_self hi] at he
      cases he
      exact ⟨v, by rw [List.getElem?_set_self (by omega)], h⟩
    · rw [List.getElem?_set_ne hij] at he ⊢
      exact r.dat j e he
  · by_cases hij : i = j
    · subst hij
      have hi : i < ρ.length := by have := (List.getElem?_eq_some_iff.mp he).1; simpa using this
      rw [List.getElem?_set_self hi] at he
      cases he
    · rw [List.getElem?_set_ne hij] at he ⊢
      exact r.own j fo he
  · by_cases hij : i = j
    · subst hij
      have hi : i < ρ.length := by have := (List.getElem?_eq_some_iff.mp hj).1; simpa using this
      rw [List.getElem?_set_self hi] at hj
      cases hj
    · by_cases hik : i = k
      · subst hik
        have hi : i < ρ.length := by have := (List.getElem?_eq_some_iff.mp hk).1; simpa using this
        rw [List.getElem?_set_self hi] at hk
        cases hk
      · rw [List.getElem?_set_ne hij] at hj ⊢
        rw [List.getElem?_set_ne hik] at hk ⊢
        exact r.sep j k fo fo' a hjk hj hk
/-- a slot is forgotten -/
theorem EnvR.setU (r : EnvR K pd pc H0 G H ρ σ) (x : Option V) (i : Nat) : EnvR K pd pc H0 G H (ρ.set i .un) (σ.set i x) := by
  have hl := r.len
  refine ⟨by simp [hl], fun j e he => ?_, fun j fo he => ?_, fun j k fo fo' a hjk hj hk => ?_⟩
  · by_cases hij : i = j
    · subst hij
      have hi : i < ρ.length := by have := (List.getElem?_eq_some_iff.mp he).1; simpa using this
      rw [List.getElem?_set_self hi] at he
      cases he
    · rw [List.getElem?_set_ne hij] at he ⊢
      exact r.dat j e he
  · by_cases hij : i = j
    · subst hij
      have hi : i < ρ.length := by have := (List.getElem?_eq_some_iff.mp he).1; simpa using this
      rw [List.getElem?_set_self hi] at he
      cases he
    · rw [List.getElem?_set_ne hij] at he ⊢
      exact r.own j fo he
  · by_cases hij : i = j
    · subst hij
      have hi : i < ρ.length := by have := (List.getElem?_eq_some_iff.mp hj).1; simpa using this
      rw [List.getElem?_set_self hi] at hj
      cases hj
    · by_cases hik : i = k
      · subst hik
        have hi : i < ρ.length := by have := (List.getElem?_eq_some_iff.mp hk).1; simpa using this
        rw [List.getElem?_set_self hi] at hk
        cases hk
      · rw [List.getElem?_set_ne hij] at hj ⊢
        rw [List.getElem?_set_ne hik] at hk ⊢
        exact r.sep j k fo fo' a hjk hj hk
/-- a slot takes a fresh object -/
theorem EnvR.setO (r : EnvR K pd pc H0 G H ρ σ) {p : Addr} {o : HO} {fo : Fo} (hn : ∀ (j : Nat) (fo : Fo) (a : Addr), ρ[j]? = some (Sl.own fo) → σ[j]? = some (some (V.ref a)) → a ≠ p) (h0 : H0 p = none) (hg : G p = none) (h1 : p ≠ pd) (h2 : p ≠ pc) (h3 : H p = some o) (h4 : HoOf K pd G fo o) (i : Nat) :
    EnvR K pd pc H0 G H (ρ.set i (.own fo)) (σ.set i (some (.ref p))) := by
  have hl := r.len
  refine ⟨by simp [hl], fun j e he => ?_, fun j fo2 he => ?_, fun j k f1 f2 a hjk hj hk => ?_⟩
  · by_cases hij : i = j
    · subst hij
      have hi : i < ρ.length := by have := (List.getElem?_eq_some_iff.mp he).1; simpa using this
      rw [List.getElem?_set_self hi] at he
      cases he
    · rw [List.getElem?_set_ne hij] at he ⊢
      exact r.dat j e he
  · by_cases hij : i = j
    · subst hij
      have hi : i < ρ.length := by have := (List.getElem?_eq_some_iff.mp he).1; simpa using this
      rw [List.getElem?_set_self hi] at he
      cases he
      exact ⟨p, o, by rw [List.getElem?_set_self (by omega)], h0, hg, h1, h2, h3, h4⟩
    · rw [List.getElem?_set_ne hij] at he ⊢
      exact r.own j fo2 he
  · by_cases hij : i = j
    · subst hij
      have hi : i < ρ.length := by have := (List.getElem?_eq_some_iff.mp hj).1; simpa using this
      rw [List.getElem?_set_ne hjk] at hk ⊢
      rw [List.getElem?_set_self (by omega)]
      intro ha
      cases ha
      intro hb
      exact hn k f2 p hk hb rfl
    · rw [List.getElem?_set_ne hij] at hj ⊢
      by_cases hik : i = k
      · subst hik
        have hi : i < ρ.length := by have := (List.getElem?_eq_some_iff.mp hk).1; simpa using this
        rw [List.getElem?_set_self (by omega)]
        intro ha hb
        cases hb
        exact hn j f1 p hj ha rfl
      · rw [List.getElem?_set_ne hik] at hk ⊢
        exact r.sep j k f1 f2 a hjk hj hk
/-- an own object is changed in place -/
theorem EnvR.chg (r : EnvR K pd pc H0 G H ρ σ) {i : Nat} {p : Addr} {o : HO} {fo fo' : Fo} (hi : ρ[i]? = some (Sl.own fo)) (hs : σ[i]? = some (some (V.ref p))) (h4 : HoOf K pd G fo' o) : EnvR K pd pc H0 G (upd H p o) (ρ.set i (.own fo')) σ := by
  have hl := r.len
  have hil : i < ρ.length := (List.getElem?_eq_some_iff.mp hi).1
  refine ⟨by simp [hl], fun j e he => ?_, fun j fo2 he => ?_, fun j k f1 f2 a hjk hj hk => ?_⟩
  · by_cases hij : i = j
    · subst hij
      rw [List.getElem?_set_self hil] at he
      cases he
    · rw [List.getElem?_set_ne hij] at he
      exact r.dat j e he
  · by_cases hij : i = j
    · subst hij
      rw [List.getElem?_set_self hil] at he
      cases he
      obtain ⟨a, o', h1, h2, h3, h5, h6, h7, h8⟩ := r.own i fo hi
      rw [hs] at h1; cases h1
      exact ⟨p, o, hs, h2, h3, h5, h6, upd_same, h4⟩
    · rw [List.getElem?_set_ne hij] at he
      obtain ⟨a, o', h1, h2, h3, h5, h6, h7, h8⟩ := r.own j fo2 he
      refine ⟨a, o', h1, h2, h3, h5, h6, ?_, h8⟩
      rw [upd_ne]
      · exact h7
      · intro e
        subst e
        exact r.sep i j fo fo2 a hij hi he hs h1
  · have hj' : ∃ f, ρ[j]? = some (Sl.own f) := by
      by_cases hij : i = j
      · subst hij; exact ⟨_, hi⟩
      · rw [List.getElem?_set_ne hij] at hj; exact ⟨_, hj⟩
    have hk' : ∃ f, ρ[k]? = some (Sl.own f) := by
      by_cases hik : i = k
      · subst hik; exact ⟨_, hi⟩
      · rw [List.getElem?_set_ne hik] at hk; exact ⟨_, hk⟩
    obtain ⟨g1, hj'⟩ := hj'
    obtain ⟨g2, hk'⟩ := hk'
    exact r.sep j k g1 g2 a hjk hj' hk'
/-- own objects are not at p -/
theorem EnvR.ne (r : EnvR K pd pc H0 G H ρ σ) {p : Addr} (h : H p = none) : ∀ (j : Nat) (fo : Fo) (a : Addr), ρ[j]? = some (Sl.own fo) → σ[j]? = some (some (V.ref a)) → a ≠ p := by
  intro j fo a h1 h2 e
  obtain ⟨b, o, g1, _, _, _, _, g6, _⟩ := r.own j fo h1
  rw [h2] at g1; cases g1
  subst e
  rw [h] at g6; cases g6
end

/-- the slots of a block's own names forgotten -/
def wipeR (ρ : List Sl) : List Nat → List Sl
  | [] => ρ
  | v :: vs => (wipeR ρ vs).set v .un
theorem EnvR.wipe {K : PySem.W.Frag} {pd pc : Addr} {H0 G H : Hp} {ρ : List Sl} {σ : L2.St} (r : EnvR K pd pc H0 G H ρ σ) : ∀ vs : List Nat, EnvR K pd pc H0 G H (wipeR ρ vs) (L2.wipe σ vs)
  | [] => r
  | v :: vs => (EnvR.wipe r vs).setU none v
theorem wipe_in {σ : L2.St} {j : Nat} : ∀ {vs : List Nat}, j ∈ vs → j < σ.length → (L2.wipe σ vs)[j]? = some none
  | v :: vs, h, hl => by
    unfold L2.wipe
    by_cases e : v = j
    · subst e
      rw [List.getElem?_set_self (by rw [wipe_length]; exact hl)]
    · rw [List.getElem?_set_ne e]
      exact wipe_in (by rcases List.mem_cons.mp h with z | z; exact absurd z.symm e; exact z) hl
theorem wipe_out {σ : L2.St} {j : Nat} : ∀ {vs : List Nat}, j ∉ vs → (L2.wipe σ vs)[j]? = σ[j]?
  | [], _ => rfl
  | v :: vs, h => by
    unfold L2.wipe
    rw [List.getElem?_set_ne (fun e => h (by rw [e]; exact List.mem_cons_self)), wipe_out fun z => h (List.mem_cons_of_mem _ z)]
theorem wipe_back {σ σ' : L2.St} {vs is : List Nat} (hs : ∀ j ∈ is, j ∈ vs) (h : ∀ j, j ∉ is → σ'[j]? = (L2.wipe σ vs)[j]?) (hl : σ'.length = (L2.wipe σ vs).length) : L2.wipe σ' vs = L2.wipe σ vs := by
  rw [wipe_length] at hl
  apply List.ext_getElem?
  intro j
  by_cases hj : j ∈ vs
  · by_cases hlt : j < σ.length
    · rw [wipe_in hj (by omega), wipe_in hj hlt]
    · rw [List.getElem?_eq_none (by rw [wipe_length]; omega), List.getElem?_eq_none (by rw [wipe_length]; omega)]
  · rw [wipe_out hj, h j (fun z => hj (hs j z))]
end DL

/-! # The data layer: what readings mean over data -/
namespace DL
open PySem L2 Evl

abbrev FE := List Sl → Dk → Option (D × Dk)
abbrev FF := List Sl → Dk → Option (Fo × Dk)
abbrev FT := List Sl → Dk → Option (Bool × Dk)
abbrev FA := List Sl → Dk → Option (List D × Dk)
abbrev FO := List Sl → Dk → Option (Option Int × Dk)
abbrev FG := D → List Sl → Option (List Sl)
abbrev FGs := List D → List Sl → Option (List Sl)
/-- how a statement ends -/
inductive Out where
  | nx (ρ : List Sl) (S : Dk) | rt (d : D) (S : Dk) | rf (fo : Fo) (S : Dk) | br (ρ : List Sl) (S : Dk) | ct (ρ : List Sl) (S : Dk)
abbrev FS := List Sl → Dk → Option Out

def bnd {α β : Type} (x : Option (α × Dk)) (k : α → Dk → Option β) : Option β := match x with
  | none => none
  | some (a, S) => k a S
theorem bnd_some {α β : Type} {x : Option (α × Dk)} {k : α → Dk → Option β} {b : β} (h : bnd x k = some b) : ∃ a S, x = some (a, S) ∧ k a S = some b := by
  cases x with
  | none => cases h
  | some p => exact ⟨p.1, p.2, rfl, h⟩
def obd {α β : Type} (x : Option α) (k : α → Option β) : Option β := match x with
  | none => none
  | some a => k a
theorem obd_some {α β : Type} {x : Option α} {k : α → Option β} {b : β} (h : obd x k = some b) : ∃ a, x = some a ∧ k a = some b := by
  cases x with
  | none => cases h
  | some a => exact ⟨a, rfl, h⟩

/-- an expression gives data -/
def SemE (K : PySem.W.Frag) (t : TE) (f : FE) : Prop := ∀ (pd pc : Addr) (H0 G H : Hp) (ρ : List Sl) (σ : L2.St) (S : Dk) (d : D) (S' : Dk), Good pd pc G H S → EnvR K pd pc H0 G H ρ σ → f ρ S = some (d, S') →
  ∀ Q : VK, (∀ (G' H' : Hp) (v : V), Good pd pc G' H' S' → Ent pd pc H G G' H' → Rep K pd G' d v → Q v H') → t σ H Q
/-- an expression gives a fresh object -/
def SemF (K : PySem.W.Frag) (t : TE) (f : FF) : Prop := ∀ (pd pc : Addr) (H0 G H : Hp) (ρ : List Sl) (σ : L2.St) (S : Dk) (d : Fo) (S' : Dk), Good pd pc G H S → EnvR K pd pc H0 G H ρ σ → f ρ S = some (d, S') →
  ∀ Q : VK, (∀ (G' H' : Hp) (p : Addr) (o : HO), Good pd pc G' H' S' → Ent pd pc H G G' H' → H p = none → G' p = none → H' p = some o → HoOf K pd G' d o → Q (.ref p) H') → t σ H Q
def SemT (K : PySem.W.Frag) (t : TT) (f : FT) : Prop := ∀ (pd pc : Addr) (H0 G H : Hp) (ρ : List Sl) (σ : L2.St) (S : Dk) (b : Bool) (S' : Dk), Good pd pc G H S → EnvR K pd pc H0 G H ρ σ → f ρ S = some (b, S') →
  ∀ Q : Bool → Hp → Prop, (∀ (G' H' : Hp), Good pd pc G' H' S' → Ent pd pc H G G' H' → Q b H') → t σ H Q
def SemA (K : PySem.W.Frag) (t : TA) (f : FA) : Prop := ∀ (pd pc : Addr) (H0 G H : Hp) (ρ : List Sl) (σ : L2.St) (S : Dk) (ds : List D) (S' : Dk), Good pd pc G H S → EnvR K pd pc H0 G H ρ σ → f ρ S = some (ds, S') →
  ∀ Q : List V → Hp → Prop, (∀ (G' H' : Hp) (vs : List V), Good pd pc G' H' S' → Ent pd pc H G G' H' → RepL K pd G' ds vs → Q vs H') → t σ H Q
def SemO (K : PySem.W.Frag) (t : TO) (f : FO) : Prop := ∀ (pd pc : Addr) (H0 G H : Hp) (ρ : List Sl) (σ : L2.St) (S : Dk) (b : Option Int) (S' : Dk), Good pd pc G H S → EnvR K pd pc H0 G H ρ σ → f ρ S = some (b, S') →
  ∀ Q : Option Int → Hp → Prop, (∀ (G' H' : Hp), Good pd pc G' H' S' → Ent pd pc H G G' H' → Q b H') → t σ H Q
/-- what a walk's iterator gives -/
def ItOk (K : PySem.W.Frag) (pd pc : Addr) (G1 : Hp) (J : It) (ds : List D) : Prop := ∀ (G H : Hp) (S : Dk), Good pd pc G H S → Ex G1 G → ∀ i : Nat,
  (∀ d, ds[i]? = some d → J.go i H ∧ ∀ x H', J.yld i H x H' → ∃ G', Good pd pc G' H' S ∧ Ent pd pc H G G' H' ∧ Rep K pd G' d x) ∧ (ds.length = i → J.stop i H)
def SemI (K : PySem.W.Frag) (t : TI) (f : FA) : Prop := ∀ (pd pc : Addr) (H0 G H : Hp) (ρ : List Sl) (σ : L2.St) (S : Dk) (ds : List D) (S' : Dk), Good pd pc G H S → EnvR K pd pc H0 G H ρ σ → f ρ S = some (ds, S') →
  ∀ R : It → Hp → Prop, (∀ (G1 H1 : Hp) (J : It), Good pd pc G1 H1 S' → Ent pd pc H G G1 H1 → ItOk K pd pc G1 J ds → R J H1) → t σ H R
def SemG (K : PySem.W.Frag) (g : TG) (is : List Nat) (f : FG) : Prop := ∀ (pd pc : Addr) (H0 G H : Hp) (ρ : List Sl) (σ : L2.St) (d : D) (v : V) (ρ' : List Sl), Ex G H → EnvR K pd pc H0 G H ρ σ → Rep K pd G d v → f d ρ = some ρ' →
  ∀ Q : L2.St → Hp → Prop, (∀ σ' : L2.St, EnvR K pd pc H0 G H ρ' σ' → (∀ j, j ∉ is → σ'[j]? = σ[j]?) → σ'.length = σ.length → Q σ' H) → g v σ H Q
def SemGs (K : PySem.W.Frag) (g : TGs) (is : List Nat) (f : FGs) : Prop := ∀ (pd pc : Addr) (H0 G H : Hp) (ρ : List Sl) (σ : L2.St) (d : List D) (v : List V) (ρ' : List Sl), Ex G H → EnvR K pd pc H0 G H ρ σ → RepL K pd G d v → f d ρ = some ρ' →
  ∀ Q : L2.St → Hp → Prop, (∀ σ' : L2.St, EnvR K pd pc H0 G H ρ' σ' → (∀ j, j ∉ is → σ'[j]? = σ[j]?) → σ'.length = σ.length → Q σ' H) → g v σ H Q
/-- what is wanted behind a statement, by its outcome -/
def Post (K : PySem.W.Frag) (pd pc : Addr) (H0 G0 : Hp) (Dn : Ends) : Out → Prop
  | .nx ρ S => ∀ (G H : Hp) (σ : L2.St), Good pd pc G H S → Ent pd pc H0 G0 G H → EnvR K pd pc H0 G H ρ σ → Dn.nx σ H
  | .br ρ S => ∀ (G H : Hp) (σ : L2.St), Good pd pc G H S → Ent pd pc H0 G0 G H → EnvR K pd pc H0 G H ρ σ → Dn.bk σ H
  | .ct ρ S => ∀ (G H : Hp) (σ : L2.St), Good pd pc G H S → Ent pd pc H0 G0 G H → EnvR K pd pc H0 G H ρ σ → Dn.ct σ H
  | .rt d S => ∀ (G H : Hp) (v : V), Good pd pc G H S → Ent pd pc H0 G0 G H → Rep K pd G d v → Dn.rt v H
  | .rf fo S => ∀ (G H : Hp) (p : Addr) (o : HO), Good pd pc G H S → Ent pd pc H0 G0 G H → H0 p = none → G p = none → H p = some o → HoOf K pd G fo o → Dn.rt (.ref p) H
def SemS (K : PySem.W.Frag) (t : TS) (f : FS) : Prop := ∀ (pd pc : Addr) (H0 G0 G H : Hp) (ρ : List Sl) (σ : L2.St) (S : Dk) (out : Out), Good pd pc G H S → Ent pd pc H0 G0 G H → EnvR K pd pc H0 G H ρ σ → f ρ S = some out →
  ∀ Dn : Ends, Post K pd pc H0 G0 Dn out → t Dn σ H

section
variable {K : PySem.W.Frag}
/-! ### constants, names -/
def fC (d : D) : FE := fun _ S => some (d, S)
theorem sem_c {d : D} {v : V} (h : ∀ pd G, Rep K pd G d v) : SemE K (tC v) (fC d) := fun pd pc H0 G H ρ σ S d' S' g r e Q q => by
  cases e
  exact q G H v g (Ent.refl G H) (h pd G)
theorem sem_int {i : Int} : SemE K (tC (.int i)) (fC (.int i)) := sem_c fun _ _ => .int
theorem sem_bl {b : Bool} : SemE K (tC (.bl b)) (fC (.bl b)) := sem_c fun _ _ => .bl
theorem sem_non : SemE K (tC .non) (fC .non) := sem_c fun _ _ => .non
theorem sem_str {x : Str} : SemE K (tC (.str x)) (fC (.str x)) := sem_c fun _ _ => .str
def fV (i : Nat) : FE := fun ρ S => match ρ[i]? with
  | some (.dat d) => some (d, S)
  | _ => none
theorem sem_var (i : Nat) : SemE K (tVar i) (fV i) := fun pd pc H0 G H ρ σ S d' S' g r e Q q => by
  unfold fV at e
  split at e
  · rename_i d h
    cases e
    obtain ⟨v, h1, h2⟩ := r.dat i _ h
    exact ⟨v, h1, q G H v g (Ent.refl G H) h2⟩
  · cases e

/-! ### operators -/
def OpSem (K : PySem.W.Frag) (r : R2) (g : D → D → Option D) : Prop := ∀ (pd pc : Addr) (G H : Hp) (S : Dk) (x y z : D) (v u : V), Good pd pc G H S → Rep K pd G x v → Rep K pd G y u → g x y = some z →
  ∀ Q : VK, (∀ (G' H' : Hp) (w : V), Good pd pc G' H' S → Ent pd pc H G G' H' → Rep K pd G' z w → Q w H') → r v u H Q
def UnSem (K : PySem.W.Frag) (r : V → Hp → VK → Prop) (g : D → Option D) : Prop := ∀ (pd pc : Addr) (G H : Hp) (S : Dk) (x z : D) (v : V), Good pd pc G H S → Rep K pd G x v → g x = some z →
  ∀ Q : VK, (∀ (G' H' : Hp) (w : V), Good pd pc G' H' S → Ent pd pc H G G' H' → Rep K pd G' z w → Q w H') → r v H Q
def fOp (g : D → D → Option D) (fa fb : FE) : FE := fun ρ S => bnd (fa ρ S) fun x S1 => bnd (fb ρ S1) fun y S2 => obd (g x y) fun z => some (z, S2)
theorem sem_op {r : R2} {g : D → D → Option D} {ta tb : TE} {fa fb : FE} (hr : OpSem K r g) (ha : SemE K ta fa) (hb : SemE K tb fb) : SemE K (tOp r ta tb) (fOp g fa fb) := fun pd pc H0 G H ρ σ S d S' g0 r0 e Q q => by
  obtain ⟨x, S1, e1, e2⟩ := bnd_some e
  obtain ⟨y, S2, e3, e4⟩ := bnd_some e2
  obtain ⟨z, e5, e6⟩ := obd_some e4
  cases e6
  refine ha pd pc H0 G H ρ σ S x S1 g0 r0 e1 _ fun G1 H1 v g1 n1 rv => ?_
  refine hb pd pc H0 G1 H1 ρ σ S1 y _ g1 (r0.step n1) e3 _ fun G2 H2 u g2 n2 ru => ?_
  exact hr pd pc G2 H2 _ x y _ v u g2 (rv.mono n2.ex) ru e5 Q fun G3 H3 w g3 n3 rw' => q G3 H3 w g3 ((n1.trans n2).trans n3) rw'
def fUn (g : D → Option D) (fa : FE) : FE := fun ρ S => bnd (fa ρ S) fun x S1 => obd (g x) fun z => some (z, S1)
theorem sem_un {r : V → Hp → VK → Prop} {g : D → Option D} {ta : TE} {fa : FE} (hr : UnSem K r g) (ha : SemE K ta fa) : SemE K (tUn r ta) (fUn g fa) := fun pd pc H0 G H ρ σ S d S' g0 r0 e Q q => by
  obtain ⟨x, S1, e1, e2⟩ := bnd_some e
  obtain ⟨z, e5, e6⟩ := obd_some e2
  cases e6
  refine ha pd pc H0 G H ρ σ S x _ g0 r0 e1 _ fun G1 H1 v g1 n1 rv => ?_
  exact hr pd pc G1 H1 _ x _ v g1 rv e5 Q fun G3 H3 w g3 n3 rw' => q G3 H3 w g3 (n1.trans n3) rw'
def gI (f : Int → Int → D) : D → D → Option D
  | .int i, .int j => some (f i j)
  | _, _ => none
theorem gI_some {f : Int → Int → D} {x y z : D} (h : gI f x y = some z) : ∃ i j, x = .int i ∧ y = .int j ∧ z = f i j := by
  unfold gI at h
  split at h
  · cases h; exact ⟨_, _, rfl, rfl, rfl⟩
  · cases h
theorem osI0 {g : Int → Int → V} {f : Int → Int → D} (h : ∀ pd G i j, Rep K pd G (f i j) (g i j)) : OpSem K (rI0 g) (gI f) := fun pd pc G H S x y z v u g0 rx ry e Q q => by
  obtain ⟨i, j, rfl, rfl, rfl⟩ := gI_some e
  cases rx
  cases ry
  exact ⟨i, j, rfl, rfl, q G H _ g0 (Ent.refl G H) (h pd G i j)⟩
def gIc (c : Int → Int → Bool) (f : Int → Int → D) : D → D → Option D
  | .int i, .int j => if c i j = true then some (f i j) else none
  | _, _ => none
theorem osIc {C : Int → Int → Prop} {g : Int → Int → V} {c : Int → Int → Bool} {f : Int → Int → D} (hc : ∀ i j, c i j = true → C i j) (h : ∀ pd G i j, c i j = true → Rep K pd G (f i j) (g i j)) : OpSem K (rI C g) (gIc c f) := fun pd pc G H S x y z v u g0 rx ry e Q q => by
  unfold gIc at e
  split at e
  · rename_i i j
    split at e
    · rename_i hh
      cases e
      cases rx
      cases ry
      exact ⟨i, j, rfl, rfl, hc i j hh, q G H _ g0 (Ent.refl G H) (h pd G i j hh)⟩
    · cases e
  · cases e
def oAdd : D → D → Option D := gI fun i j => .int (i + j)
def oSub : D → D → Option D := gI fun i j => .int (i - j)
theorem os_add : OpSem K (rI0 fun i j => .int (i + j)) oAdd := osI0 fun _ _ _ _ => .int
theorem os_sub : OpSem K (rI0 fun i j => .int (i - j)) oSub := osI0 fun _ _ _ _ => .int
def cMul (i j : Int) : Bool := decide (-(2 ^ 64) < i ∧ i < 2 ^ 64) || decide (-(2 ^ 64) < j ∧ j < 2 ^ 64)
def oMul : D → D → Option D := gIc cMul fun i j => .int (i * j)
theorem os_mul : OpSem K (rI CMul fun i j => .int (i * j)) oMul := osIc (fun i j h => by
  unfold cMul at h
  rcases Bool.or_eq_true_iff.mp h with z | z
  · exact .inl (of_decide_eq_true z)
  · exact .inr (of_decide_eq_true z)) fun _ _ _ _ _ => .int
def oMod : D → D → Option D := gIc (fun _ j => decide (0 < j)) fun i j => .int (i % j)
theorem os_mod : OpSem K (rI (fun _ j => 0 < j) fun i j => .int (i % j)) oMod := osIc (fun _ _ h => of_decide_eq_true h) fun _ _ _ _ _ => .int
def oDiv : D → D → Option D := gIc (fun _ j => decide (0 < j ∧ j < 1073741824)) fun i j => .int (i / j)
theorem os_div : OpSem K (rI CDiv fun i j => .int (i / j)) oDiv := osIc (fun _ j h => (of_decide_eq_true h : 0 < j ∧ j < 1073741824)) fun _ _ _ _ _ => .int
def oPow : D → D → Option D := gIc (fun i j => decide (0 ≤ j ∧ j ≤ 1000000 ∧ i.natAbs < 2 ^ 64)) fun i j => .int (i ^ j.toNat)
theorem os_pow : OpSem K (rI CPow fun i j => .int (i ^ j.toNat)) oPow := osIc (fun i j h => (of_decide_eq_true h : 0 ≤ j ∧ j ≤ 1000000 ∧ i.natAbs < 2 ^ 64)) fun _ _ _ _ _ => .int
def oLt : D → D → Option D := gI fun i j => .bl (decide (i < j))
def oLe : D → D → Option D := gI fun i j => .bl (decide (i ≤ j))
def oGt : D → D → Option D := gI fun i j => .bl (decide (j < i))
def oGe : D → D → Option D := gI fun i j => .bl (decide (j ≤ i))
theorem os_lt : OpSem K (rI0 fun i j => .bl (decide (i < j))) oLt := osI0 fun _ _ _ _ => .bl
theorem os_le : OpSem K (rI0 fun i j => .bl (decide (i ≤ j))) oLe := osI0 fun _ _ _ _ => .bl
theorem os_gt : OpSem K (rI0 fun i j => .bl (decide (j < i))) oGt := osI0 fun _ _ _ _ => .bl
theorem os_ge : OpSem K (rI0 fun i j => .bl (decide (j ≤ i))) oGe := osI0 fun _ _ _ _ => .bl
/-- == of two ints, two texts, two bools -/
def oEq : D → D → Option D
  | .int i, .int j => some (.bl (decide (i = j)))
  | .str x, .str y => some (.bl (decide (x = y)))
  | .bl x, .bl y => some (.bl (decide (x = y)))
  | _, _ => none
def oNe : D → D → Option D
  | .int i, .int j => some (.bl (!decide (i = j)))
  | .str x, .str y => some (.bl (!decide (x = y)))
  | .bl x, .bl y => some (.bl (!decide (x = y)))
  | _, _ => none
theorem os_eq : OpSem K rEq oEq := fun pd pc G H S x y z v u g0 rx ry e Q q => by
  unfold oEq at e
  split at e
  · rename_i i j
    cases e; cases rx; cases ry
    refine ⟨rfl, ?_⟩
    have : decide (V.int i = V.int j) = decide (i = j) := by simp
    rw [this]
    exact q G H _ g0 (Ent.refl G H) .bl
  · rename_i i j
    cases e; cases rx; cases ry
    refine ⟨rfl, ?_⟩
    have : decide (V.str i = V.str j) = decide (i = j) := by simp
    rw [this]
    exact q G H _ g0 (Ent.refl G H) .bl
  · rename_i i j
    cases e; cases rx; cases ry
    refine ⟨rfl, ?_⟩
    have : decide (V.bl i = V.bl j) = decide (i = j) := by simp
    rw [this]
    exact q G H _ g0 (Ent.refl G H) .bl
  · cases e
theorem os_ne : OpSem K rNe oNe := fun pd pc G H S x y z v u g0 rx ry e Q q => by
  unfold oNe at e
  split at e
  · rename_i i j
    cases e; cases rx; cases ry
    refine ⟨rfl, ?_⟩
    have : decide (V.int i = V.int j) = decide (i = j) := by simp
    rw [this]
    exact q G H _ g0 (Ent.refl G H) .bl
  · rename_i i j
    cases e; cases rx; cases ry
    refine ⟨rfl, ?_⟩
    have : decide (V.str i = V.str j) = decide (i = j) := by simp
    rw [this]
    exact q G H _ g0 (Ent.refl G H) .bl
  · rename_i i j
    cases e; cases rx; cases ry
    refine ⟨rfl, ?_⟩
    have : decide (V.bl i = V.bl j) = decide (i = j) := by simp
    rw [this]
    exact q G H _ g0 (Ent.refl G H) .bl
  · cases e
theorem os_or {r r' : R2} {g g' : D → D → Option D} (h : OpSem K r g) (h' : OpSem K r' g') : OpSem K (fun x y H Q => r x y H Q ∨ r' x y H Q) (fun x y => (g x y).orElse fun _ => g' x y) := fun pd pc G H S x y z v u g0 rx ry e Q q => by
  cases e1 : g x y with
  | some w =>
    have e : (g x y).orElse (fun _ => g' x y) = some z := e
    rw [e1] at e
    cases e
    exact .inl (h pd pc G H S x y _ v u g0 rx ry e1 Q q)
  | none =>
    have e : (g x y).orElse (fun _ => g' x y) = some z := e
    rw [e1] at e
    exact .inr (h' pd pc G H S x y z v u g0 rx ry e Q q)
def ints? : List D → Option (List Int)
  | [] => some []
  | .int i :: r => (ints? r).map (i :: ·)
  | _ :: _ => none
theorem ints?_some : ∀ {ds : List D} {ns : List Int}, ints? ds = some ns → ds = ns.map D.int
  | [], _, h => by cases h; rfl
  | .int i :: r, ns, h => by
    unfold ints? at h
    cases e : ints? r with
    | none => rw [e] at h; cases h
    | some ms => rw [e] at h; cases h; rw [ints?_some e]; rfl
  | .non :: _, _, h => by cases h
  | .bl _ :: _, _, h => by cases h
  | .str _ :: _, _, h => by cases h
  | .tup _ :: _, _, h => by cases h
  | .lst _ :: _, _, h => by cases h
  | .dck :: _, _, h => by cases h
theorem ints?_map : ∀ (ns : List Int), ints? (ns.map D.int) = some ns
  | [] => rfl
  | n :: ns => by show (ints? (ns.map D.int)).map (n :: ·) = _; rw [ints?_map ns]; rfl
/-- < of two tuples of ints -/
def oLtT : D → D → Option D
  | .tup xs, .tup ys => obd (ints? xs) fun ns => obd (ints? ys) fun ms => some (.bl (HT.lexLt ns ms))
  | _, _ => none
theorem os_ltT : OpSem K (rLtT K) oLtT := fun pd pc G H S x y z v u g0 rx ry e Q q => by
  unfold oLtT at e
  split at e
  · obtain ⟨ns, e1, e2⟩ := obd_some e
    obtain ⟨ms, e3, e4⟩ := obd_some e2
    cases e4
    cases rx with
    | tup h1 r1 => cases ry with
      | tup h2 r2 =>
        rw [ints?_some e1] at r1
        rw [ints?_some e3] at r2
        rw [RepL.ints_of r1] at h1
        rw [RepL.ints_of r2] at h2
        exact ⟨_, _, ns, ms, rfl, rfl, ex_t g0.ex h1, ex_t g0.ex h2, q G H _ g0 (Ent.refl G H) .bl⟩
  · cases e
/-- + of two tuples -/
def oCat : D → D → Option D
  | .tup xs, .tup ys => if xs.length + ys.length ≤ 100000 then some (.tup (xs ++ ys)) else none
  | _, _ => none
theorem os_cat : OpSem K (rCatA K) oCat := fun pd pc G H S x y z v u g0 rx ry e Q q => by
  unfold oCat at e
  split at e
  · split at e
    · rename_i hl
      cases e
      cases rx with
      | tup h1 r1 => cases ry with
        | tup h2 r2 =>
          rename_i xs ys _ a vs b us
          have l1 := r1.length
          have l2 := r2.length
          refine ⟨_, _, _, _, rfl, rfl, ex_t g0.ex h1, ex_t g0.ex h2, Nat.le_trans (by omega) (by decide : 100000 ≤ sizeLine), fun ez => ?_, fun _ ez => ?_, fun _ _ p hp => ?_⟩
          · subst ez
            cases r1
            exact q G H _ g0 (Ent.refl G H) (.tup h2 r2)
          · subst ez
            cases r2
            exact q G H _ g0 (Ent.refl G H) (.tup h1 (by rw [List.append_nil]; exact r1))
          · have hg := fresh_back g0.ex hp
            exact q _ _ _ (g0.newG hp) (Ent.newG g0.ex hp) (.tup (SqT.of upd_same) ((r1.append r2).mono (Ex.new hg)))
    · cases e
  · cases e
/-- x[i] of a list, a tuple -/
def oIxL : D → D → Option D
  | .lst xs, .int i => atI xs i
  | _, _ => none
def oIxT : D → D → Option D
  | .tup xs, .int i => atI xs i
  | _, _ => none
end
end DL

/-! # The data layer: subscripts, displays, tests, statements, walks -/
namespace DL
open PySem L2 Evl
section
variable {K : PySem.W.Frag}
theorem RepL.atI {pd : Addr} {G : Hp} {ds : List D} {vs : List V} {i : Int} {d : D} (r : RepL K pd G ds vs) (h : L2.atI ds i = some d) : ∃ v, L2.atI vs i = some v ∧ Rep K pd G d v := by
  unfold L2.atI at h ⊢
  rw [← r.length]
  cases e : ixN ds.length i with
  | none => rw [e] at h; cases h
  | some j =>
    rw [e] at h
    exact r.get h
theorem os_ixL : OpSem K (rIxL K) oIxL := fun pd pc G H S x y z v u g0 rx ry e Q q => by
  unfold oIxL at e
  split at e
  · cases ry
    cases rx with
    | lst h1 r1 =>
      obtain ⟨v, h2, h3⟩ := r1.atI e
      exact ⟨_, _, _, v, rfl, rfl, ex_l g0.ex h1, h2, q G H _ g0 (Ent.refl G H) h3⟩
  · cases e
theorem os_ixT : OpSem K (rIxT K) oIxT := fun pd pc G H S x y z v u g0 rx ry e Q q => by
  unfold oIxT at e
  split at e
  · cases ry
    cases rx with
    | tup h1 r1 =>
      obtain ⟨v, h2, h3⟩ := r1.atI e
      exact ⟨_, _, _, v, rfl, rfl, ex_t g0.ex h1, h2, q G H _ g0 (Ent.refl G H) h3⟩
  · cases e

/-! ### a fresh object as data -/
def toD : Fo → Option D
  | .lst xs => some (.lst xs)
  | _ => none
def fFz (f : FF) : FE := fun ρ S => bnd (f ρ S) fun fo S1 => obd (toD fo) fun d => some (d, S1)
theorem sem_fz {t : TE} {f : FF} (h : SemF K t f) : SemE K t (fFz f) := fun pd pc H0 G H ρ σ S d S' g0 r0 e Q q => by
  obtain ⟨fo, S1, e1, e2⟩ := bnd_some e
  obtain ⟨d1, e3, e4⟩ := obd_some e2
  cases e4
  refine h pd pc H0 G H ρ σ S fo _ g0 r0 e1 _ fun G1 H1 p o g1 n1 hp hg ho hf => ?_
  cases fo with
  | lst xs =>
    cases e3
    obtain ⟨vs, rfl, r⟩ := hf
    have g2 := g1.frz ho (g0.ned hp) (g0.nec hp)
    refine q _ _ _ g2 ⟨n1.ex.trans (Ex.new hg), n1.kp, fun a ha => ?_, n1.dm⟩ (.lst (SqL.of upd_same) (r.mono (Ex.new hg)))
    rw [upd_ne]
    · exact n1.nw a ha
    · intro z
      subst z
      exact ha hp
  | dki ks => cases e3

/-! ### argument lists, displays -/
def fNil : FA := fun _ S => some ([], S)
def fCons (f : FE) (g : FA) : FA := fun ρ S => bnd (f ρ S) fun d S1 => bnd (g ρ S1) fun ds S2 => some (d :: ds, S2)
theorem sem_nil : SemA K tNil fNil := fun pd pc H0 G H ρ σ S ds S' g0 r0 e Q q => by
  cases e
  exact q G H [] g0 (Ent.refl G H) .nil
theorem sem_cons {ta : TE} {tr : TA} {f : FE} {g : FA} (ha : SemE K ta f) (hr : SemA K tr g) : SemA K (tCons ta tr) (fCons f g) := fun pd pc H0 G H ρ σ S ds S' g0 r0 e Q q => by
  obtain ⟨d, S1, e1, e2⟩ := bnd_some e
  obtain ⟨ds, S2, e3, e4⟩ := bnd_some e2
  cases e4
  refine ha pd pc H0 G H ρ σ S d S1 g0 r0 e1 _ fun G1 H1 v g1 n1 rv => ?_
  refine hr pd pc H0 G1 H1 ρ σ S1 ds _ g1 (r0.step n1) e3 _ fun G2 H2 vs g2 n2 rs => ?_
  exact q G2 H2 _ g2 (n1.trans n2) (.cons (rv.mono n2.ex) rs)
def fTup (f : FA) : FE := fun ρ S => bnd (f ρ S) fun ds S1 => if ds.length ≤ 100000 then some (.tup ds, S1) else none
theorem sem_tup {ta : TA} {f : FA} (h : SemA K ta f) : SemE K (tTup ta) (fTup f) := fun pd pc H0 G H ρ σ S d S' g0 r0 e Q q => by
  obtain ⟨ds, S1, e1, e2⟩ := bnd_some e
  split at e2
  · rename_i hl
    cases e2
    refine h pd pc H0 G H ρ σ S ds _ g0 r0 e1 _ fun G1 H1 vs g1 n1 rs => ?_
    refine ⟨sz_of (by rw [← rs.length]; exact hl), fun p hp => ?_⟩
    exact q _ _ _ (g1.newG hp) (n1.trans (Ent.newG g1.ex hp)) (.tup (SqT.of upd_same) (rs.mono (Ex.new (fresh_back g1.ex hp))))
  · cases e2
def fLst (f : FA) : FF := fun ρ S => bnd (f ρ S) fun ds S1 => if ds.length ≤ 100000 then some (.lst ds, S1) else none
theorem sem_lst {ta : TA} {f : FA} (h : SemA K ta f) : SemF K (tLst ta) (fLst f) := fun pd pc H0 G H ρ σ S d S' g0 r0 e Q q => by
  obtain ⟨ds, S1, e1, e2⟩ := bnd_some e
  split at e2
  · rename_i hl
    cases e2
    refine h pd pc H0 G H ρ σ S ds _ g0 r0 e1 _ fun G1 H1 vs g1 n1 rs => ?_
    refine ⟨sz_of (by rw [← rs.length]; exact hl), fun p hp => ?_⟩
    have n2 : Ent pd pc H1 G1 G1 (upd H1 p (.lst vs)) := Ent.new hp
    exact q _ _ p _ (g1.new hp) (n1.trans n2) (n1.fresh hp) (fresh_back g1.ex hp) upd_same ⟨vs, rfl, rs⟩
  · cases e2

/-! ### slices -/
def fO0 : FO := fun _ S => some (none, S)
def fO1 (f : FE) : FO := fun ρ S => bnd (f ρ S) fun d S1 => match d with
  | .int i => some (some i, S1)
  | _ => none
theorem sem_o1 {t : TE} {f : FE} (h : SemE K t f) : SemO K (tPart t) (fO1 f) := fun pd pc H0 G H ρ σ S b S' g0 r0 e Q q => by
  obtain ⟨d, S1, e1, e2⟩ := bnd_some e
  split at e2
  · cases e2
    refine h pd pc H0 G H ρ σ S _ _ g0 r0 e1 _ fun G1 H1 v g1 n1 rv => ?_
    cases rv
    exact ⟨_, rfl, q G1 H1 g1 n1⟩
  · cases e2
def cutD (xs : List D) (lo hi : Option Int) : List D := (xs.drop (HT.sIx xs.length 0 lo)).take (HT.sIx xs.length xs.length hi - HT.sIx xs.length 0 lo)
def fSl (f : FE) (lo hi : FO) : FE := fun ρ S => bnd (f ρ S) fun d S1 => bnd (lo ρ S1) fun l S2 => bnd (hi ρ S2) fun h S3 => match d with
  | .tup xs => some (.tup (cutD xs l h), S3)
  | _ => none
theorem rep_cut {pd : Addr} {G : Hp} {ds : List D} {vs : List V} (r : RepL K pd G ds vs) (lo hi : Option Int) : RepL K pd G (cutD ds lo hi) (cutV vs lo hi) := by
  unfold cutD cutV
  rw [← r.length]
  exact (r.drop _).take _
theorem cutD_all {xs : List D} {lo hi : Option Int} (h : HT.sIx xs.length 0 lo = 0 ∧ HT.sIx xs.length xs.length hi = xs.length) : cutD xs lo hi = xs := by
  unfold cutD
  rw [h.1, h.2]
  simp
/-- a tuple's slice -/
theorem sem_slT {t : TE} {tl th : TO} {f : FE} {lo hi : FO} (h : SemE K t f) (hl : SemO K tl lo) (hh : SemO K th hi) : SemE K (tSl (rSlA K) t tl th) (fSl f lo hi) := fun pd pc H0 G H ρ σ S d S' g0 r0 e Q q => by
  obtain ⟨d, S1, e1, e2⟩ := bnd_some e
  obtain ⟨l, S2, e3, e4⟩ := bnd_some e2
  obtain ⟨u, S3, e5, e6⟩ := bnd_some e4
  split at e6
  · cases e6
    refine h pd pc H0 G H ρ σ S _ S1 g0 r0 e1 _ fun G1 H1 v g1 n1 rv => ?_
    refine hl pd pc H0 G1 H1 ρ σ S1 l S2 g1 (r0.step n1) e3 _ fun G2 H2 g2 n2 => ?_
    refine hh pd pc H0 G2 H2 ρ σ S2 u _ g2 ((r0.step n1).step n2) e5 _ fun G3 H3 g3 n3 => ?_
    have n : Ent pd pc H G G3 H3 := (n1.trans n2).trans n3
    have rv3 := rv.mono (n2.ex.trans n3.ex)
    cases rv3 with
    | tup h1 r1 =>
      refine ⟨_, _, rfl, ex_t g3.ex h1, fun hz => ?_, fun hz p hp => ?_⟩
      · rw [← r1.length] at hz
        rw [cutD_all hz] at q
        exact q _ _ _ g3 n (.tup h1 r1)
      · exact q _ _ _ (g3.newG hp) (n.trans (Ent.newG g3.ex hp)) (.tup (SqT.of upd_same) ((rep_cut r1 l u).mono (Ex.new (fresh_back g3.ex hp))))
  · cases e6
theorem sem_o0 : SemO K (fun _ H Q => Q none H) fO0 := fun pd pc H0 G H ρ σ S b S' g0 r0 e Q q => by
  cases e
  exact q G H g0 (Ent.refl G H)

/-! ### tests -/
def fB (f : FE) : FT := fun ρ S => bnd (f ρ S) fun d S1 => match d with
  | .bl b => some (b, S1)
  | _ => none
theorem sem_B {t : TE} {f : FE} (h : SemE K t f) : SemT K (tB t) (fB f) := fun pd pc H0 G H ρ σ S b S' g0 r0 e Q q => by
  obtain ⟨d, S1, e1, e2⟩ := bnd_some e
  split at e2
  · cases e2
    refine h pd pc H0 G H ρ σ S _ _ g0 r0 e1 _ fun G1 H1 v g1 n1 rv => ?_
    cases rv
    exact ⟨_, rfl, q G1 H1 g1 n1⟩
  · cases e2
theorem sem_test {t : TE} {f : FE} (h : SemE K t f) : SemT K (tTest t) (fB f) := sem_B h
def fAnd (f g : FT) : FT := fun ρ S => bnd (f ρ S) fun b S1 => if b = true then g ρ S1 else some (false, S1)
def fOr (f g : FT) : FT := fun ρ S => bnd (f ρ S) fun b S1 => if b = true then some (true, S1) else g ρ S1
def fNot (f : FT) : FT := fun ρ S => bnd (f ρ S) fun b S1 => some (!b, S1)
theorem sem_and {t u : TT} {f g : FT} (h1 : SemT K t f) (h2 : SemT K u g) : SemT K (tAnd t u) (fAnd f g) := fun pd pc H0 G H ρ σ S b S' g0 r0 e Q q => by
  obtain ⟨c, S1, e1, e2⟩ := bnd_some e
  refine h1 pd pc H0 G H ρ σ S c S1 g0 r0 e1 _ fun G1 H1 g1 n1 => ?_
  cases c with
  | true => exact h2 pd pc H0 G1 H1 ρ σ S1 b S' g1 (r0.step n1) e2 Q fun G2 H2 g2 n2 => q G2 H2 g2 (n1.trans n2)
  | false => cases e2; exact q G1 H1 g1 n1
theorem sem_or {t u : TT} {f g : FT} (h1 : SemT K t f) (h2 : SemT K u g) : SemT K (tOr t u) (fOr f g) := fun pd pc H0 G H ρ σ S b S' g0 r0 e Q q => by
  obtain ⟨c, S1, e1, e2⟩ := bnd_some e
  refine h1 pd pc H0 G H ρ σ S c S1 g0 r0 e1 _ fun G1 H1 g1 n1 => ?_
  cases c with
  | false => exact h2 pd pc H0 G1 H1 ρ σ S1 b S' g1 (r0.step n1) e2 Q fun G2 H2 g2 n2 => q G2 H2 g2 (n1.trans n2)
  | true => cases e2; exact q G1 H1 g1 n1
theorem sem_not {t : TT} {f : FT} (h1 : SemT K t f) : SemT K (tNot t) (fNot f) := fun pd pc H0 G H ρ σ S b S' g0 r0 e Q q => by
  obtain ⟨c, S1, e1, e2⟩ := bnd_some e
  cases e2
  exact h1 pd pc H0 G H ρ σ S c _ g0 r0 e1 _ fun G1 H1 g1 n1 => q G1 H1 g1 n1
def fYes : FT := fun _ S => some (true, S)
theorem sem_yes : SemT K tYes fYes := fun pd pc H0 G H ρ σ S b S' g0 r0 e Q q => by
  cases e
  exact q G H g0 (Ent.refl G H)
/-- and, or, not as values -/
def fAndV (f g : FE) : FE := fun ρ S => bnd (f ρ S) fun d S1 => match d with
  | .bl true => bnd (g ρ S1) fun d2 S2 => some (d2, S2)
  | .bl false => some (.bl false, S1)
  | _ => none
def fOrV (f g : FE) : FE := fun ρ S => bnd (f ρ S) fun d S1 => match d with
  | .bl false => bnd (g ρ S1) fun d2 S2 => some (d2, S2)
  | .bl true => some (.bl true, S1)
  | _ => none
def fNotV (f : FE) : FE := fun ρ S => bnd (f ρ S) fun d S1 => match d with
  | .bl b => some (.bl (!b), S1)
  | _ => none
theorem sem_andV {ta tb : TE} {f g : FE} (h1 : SemE K ta f) (h2 : SemE K tb g) : SemE K (tAndV ta tb) (fAndV f g) := fun pd pc H0 G H ρ σ S d S' g0 r0 e Q q => by
  obtain ⟨c, S1, e1, e2⟩ := bnd_some e
  split at e2
  · obtain ⟨d2, S2, e3, e4⟩ := bnd_some e2
    cases e4
    refine h1 pd pc H0 G H ρ σ S _ S1 g0 r0 e1 _ fun G1 H1 v g1 n1 rv => ?_
    cases rv
    refine ⟨true, rfl, ?_⟩
    exact h2 pd pc H0 G1 H1 ρ σ S1 _ _ g1 (r0.step n1) e3 Q fun G2 H2 v2 g2 n2 r2 => q G2 H2 v2 g2 (n1.trans n2) r2
  · cases e2
    refine h1 pd pc H0 G H ρ σ S _ _ g0 r0 e1 _ fun G1 H1 v g1 n1 rv => ?_
    cases rv
    exact ⟨false, rfl, q G1 H1 _ g1 n1 .bl⟩
  · cases e2
theorem sem_orV {ta tb : TE} {f g : FE} (h1 : SemE K ta f) (h2 : SemE K tb g) : SemE K (tOrV ta tb) (fOrV f g) := fun pd pc H0 G H ρ σ S d S' g0 r0 e Q q => by
  obtain ⟨c, S1, e1, e2⟩ := bnd_some e
  split at e2
  · obtain ⟨d2, S2, e3, e4⟩ := bnd_some e2
    cases e4
    refine h1 pd pc H0 G H ρ σ S _ S1 g0 r0 e1 _ fun G1 H1 v g1 n1 rv => ?_
    cases rv
    refine ⟨false, rfl, ?_⟩
    exact h2 pd pc H0 G1 H1 ρ σ S1 _ _ g1 (r0.step n1) e3 Q fun G2 H2 v2 g2 n2 r2 => q G2 H2 v2 g2 (n1.trans n2) r2
  · cases e2
    refine h1 pd pc H0 G H ρ σ S _ _ g0 r0 e1 _ fun G1 H1 v g1 n1 rv => ?_
    cases rv
    exact ⟨true, rfl, q G1 H1 _ g1 n1 .bl⟩
  · cases e2
theorem sem_notV {ta : TE} {f : FE} (h1 : SemE K ta f) : SemE K (tNotV ta) (fNotV f) := fun pd pc H0 G H ρ σ S d S' g0 r0 e Q q => by
  obtain ⟨c, S1, e1, e2⟩ := bnd_some e
  split at e2
  · cases e2
    refine h1 pd pc H0 G H ρ σ S _ _ g0 r0 e1 _ fun G1 H1 v g1 n1 rv => ?_
    cases rv
    exact ⟨_, rfl, q G1 H1 _ g1 n1 .bl⟩
  · cases e2
/-- a < b < c -/
def fChain (g g' : D → D → Option D) (fa fb fc : FE) : FE := fun ρ S => bnd (fa ρ S) fun x S1 => bnd (fb ρ S1) fun y S2 => obd (g x y) fun z => match z with
  | .bl true => bnd (fc ρ S2) fun w S3 => obd (g' y w) fun z' => some (z', S3)
  | .bl false => some (.bl false, S2)
  | _ => none
theorem sem_chain {r r' : R2} {g g' : D → D → Option D} {ta tb tc : TE} {fa fb fc : FE} (hr : OpSem K r g) (hr' : OpSem K r' g') (ha : SemE K ta fa) (hb : SemE K tb fb) (hc : SemE K tc fc) : SemE K (tChain r r' ta tb tc) (fChain g g' fa fb fc) := fun pd pc H0 G H ρ σ S d S' g0 r0 e Q q => by
  obtain ⟨x, S1, e1, e2⟩ := bnd_some e
  obtain ⟨y, S2, e3, e4⟩ := bnd_some e2
  obtain ⟨z, e5, e6⟩ := obd_some e4
  refine ha pd pc H0 G H ρ σ S x S1 g0 r0 e1 _ fun G1 H1 v g1 n1 rv => ?_
  refine hb pd pc H0 G1 H1 ρ σ S1 y S2 g1 (r0.step n1) e3 _ fun G2 H2 u g2 n2 ru => ?_
  refine hr pd pc G2 H2 S2 x y z v u g2 (rv.mono n2.ex) ru e5 _ fun G3 H3 w g3 n3 rw' => ?_
  split at e6
  · obtain ⟨t, S3, e7, e8⟩ := bnd_some e6
    obtain ⟨z', e9, e10⟩ := obd_some e8
    cases e10
    cases rw'
    refine ⟨true, rfl, ?_⟩
    refine hc pd pc H0 G3 H3 ρ σ S2 t _ g3 (((r0.step n1).step n2).step n3) e7 _ fun G4 H4 t' g4 n4 rt => ?_
    exact hr' pd pc G4 H4 _ y t _ u t' g4 (ru.mono (n3.ex.trans n4.ex)) rt e9 Q fun G5 H5 w5 g5 n5 r5 => q G5 H5 w5 g5 ((((n1.trans n2).trans n3).trans n4).trans n5) r5
  · cases e6
    cases rw'
    exact ⟨false, rfl, q G3 H3 _ g3 ((n1.trans n2).trans n3) .bl⟩
  · cases e6
/-- a if t else b -/
def fIf (ft : FT) (fa fb : FE) : FE := fun ρ S => bnd (ft ρ S) fun b S1 => if b = true then fa ρ S1 else fb ρ S1
theorem sem_if {t : TT} {ta tb : TE} {ft : FT} {fa fb : FE} (h : SemT K t ft) (ha : SemE K ta fa) (hb : SemE K tb fb) : SemE K (tIf t ta tb) (fIf ft fa fb) := fun pd pc H0 G H ρ σ S d S' g0 r0 e Q q => by
  obtain ⟨c, S1, e1, e2⟩ := bnd_some e
  refine h pd pc H0 G H ρ σ S c S1 g0 r0 e1 _ fun G1 H1 g1 n1 => ?_
  cases c with
  | true => exact ha pd pc H0 G1 H1 ρ σ S1 d S' g1 (r0.step n1) e2 Q fun G2 H2 v g2 n2 r2 => q G2 H2 v g2 (n1.trans n2) r2
  | false => exact hb pd pc H0 G1 H1 ρ σ S1 d S' g1 (r0.step n1) e2 Q fun G2 H2 v g2 n2 r2 => q G2 H2 v g2 (n1.trans n2) r2
def fIfF (ft : FT) (fa fb : FF) : FF := fun ρ S => bnd (ft ρ S) fun b S1 => if b = true then fa ρ S1 else fb ρ S1
theorem sem_ifF {t : TT} {ta tb : TE} {ft : FT} {fa fb : FF} (h : SemT K t ft) (ha : SemF K ta fa) (hb : SemF K tb fb) : SemF K (tIf t ta tb) (fIfF ft fa fb) := fun pd pc H0 G H ρ σ S d S' g0 r0 e Q q => by
  obtain ⟨c, S1, e1, e2⟩ := bnd_some e
  refine h pd pc H0 G H ρ σ S c S1 g0 r0 e1 _ fun G1 H1 g1 n1 => ?_
  cases c with
  | true => exact ha pd pc H0 G1 H1 ρ σ S1 d S' g1 (r0.step n1) e2 Q fun G2 H2 p o g2 n2 h2 h3 h4 h5 => q G2 H2 p o g2 (n1.trans n2) (n1.fresh h2) h3 h4 h5
  | false => exact hb pd pc H0 G1 H1 ρ σ S1 d S' g1 (r0.step n1) e2 Q fun G2 H2 p o g2 n2 h2 h3 h4 h5 => q G2 H2 p o g2 (n1.trans n2) (n1.fresh h2) h3 h4 h5

/-! ### built-in calls -/
def CSem (K : PySem.W.Frag) (r : List V → Hp → VK → Prop) (g : List D → Option D) : Prop := ∀ (pd pc : Addr) (G H : Hp) (S : Dk) (ds : List D) (z : D) (vs : List V), Good pd pc G H S → RepL K pd G ds vs → g ds = some z →
  ∀ Q : VK, (∀ (G' H' : Hp) (w : V), Good pd pc G' H' S → Ent pd pc H G G' H' → Rep K pd G' z w → Q w H') → r vs H Q
def CSemF (K : PySem.W.Frag) (r : List V → Hp → VK → Prop) (g : List D → Option Fo) : Prop := ∀ (pd pc : Addr) (G H : Hp) (S : Dk) (ds : List D) (z : Fo) (vs : List V), Good pd pc G H S → RepL K pd G ds vs → g ds = some z →
  ∀ Q : VK, (∀ (G' H' : Hp) (p : Addr) (o : HO), Good pd pc G' H' S → Ent pd pc H G G' H' → H p = none → G' p = none → H' p = some o → HoOf K pd G' z o → Q (.ref p) H') → r vs H Q
def fCB (g : List D → Option D) (f : FA) : FE := fun ρ S => bnd (f ρ S) fun ds S1 => obd (g ds) fun z => some (z, S1)
theorem sem_cb {r : List V → Hp → VK → Prop} {g : List D → Option D} {ta : TA} {f : FA} (hr : CSem K r g) (h : SemA K ta f) : SemE K (tCB r ta) (fCB g f) := fun pd pc H0 G H ρ σ S d S' g0 r0 e Q q => by
  obtain ⟨ds, S1, e1, e2⟩ := bnd_some e
  obtain ⟨z, e3, e4⟩ := obd_some e2
  cases e4
  refine h pd pc H0 G H ρ σ S ds _ g0 r0 e1 _ fun G1 H1 vs g1 n1 rs => ?_
  exact hr pd pc G1 H1 _ ds _ vs g1 rs e3 Q fun G2 H2 w g2 n2 r2 => q G2 H2 w g2 (n1.trans n2) r2
def fCBF (g : List D → Option Fo) (f : FA) : FF := fun ρ S => bnd (f ρ S) fun ds S1 => obd (g ds) fun z => some (z, S1)
theorem sem_cbF {r : List V → Hp → VK → Prop} {g : List D → Option Fo} {ta : TA} {f : FA} (hr : CSemF K r g) (h : SemA K ta f) : SemF K (tCB r ta) (fCBF g f) := fun pd pc H0 G H ρ σ S d S' g0 r0 e Q q => by
  obtain ⟨ds, S1, e1, e2⟩ := bnd_some e
  obtain ⟨z, e3, e4⟩ := obd_some e2
  cases e4
  refine h pd pc H0 G H ρ σ S ds _ g0 r0 e1 _ fun G1 H1 vs g1 n1 rs => ?_
  exact hr pd pc G1 H1 _ ds _ vs g1 rs e3 Q fun G2 H2 p o g2 n2 h2 h3 h4 h5 => q G2 H2 p o g2 (n1.trans n2) (n1.fresh h2) h3 h4 h5

/-! ### own defs -/
/-- a def's promise: it gives what F says, the deck as F says -/
def spD (K : PySem.W.Frag) (n : Nat) (F : List D → Dk → Option (D × Dk)) : Sp := fun vs H Q _ => vs.length = n ∧ ∃ (pd pc : Addr) (G : Hp) (S : Dk) (ds : List D) (d : D) (S' : Dk), Good pd pc G H S ∧ RepL K pd G ds vs ∧ F ds S = some (d, S') ∧
  ∀ (G' H' : Hp) (v : V), Good pd pc G' H' S' → Ent pd pc H G G' H' → Rep K pd G' d v → Q v H'
def fCall (F : List D → Dk → Option (D × Dk)) (f : FA) : FE := fun ρ S => bnd (f ρ S) fun ds S1 => F ds S1
theorem sem_call {n : Nat} {F : List D → Dk → Option (D × Dk)} {E : XK} {ta : TA} {f : FA} (h : SemA K ta f) (hn : ∀ ds S x, F ds S = some x → ds.length = n) : SemE K (tCall (spD K n F) [] E ta) (fCall F f) := fun pd pc H0 G H ρ σ S d S' g0 r0 e Q q => by
  obtain ⟨ds, S1, e1, e2⟩ := bnd_some e
  refine h pd pc H0 G H ρ σ S ds S1 g0 r0 e1 _ fun G1 H1 vs g1 n1 rs => ?_
  show spD K n F (vs ++ []) H1 Q E
  rw [List.append_nil]
  exact ⟨by rw [← rs.length]; exact hn _ _ _ e2, pd, pc, G1, S1, ds, d, S', g1, rs, e2, fun G2 H2 v g2 n2 r2 => q G2 H2 v g2 (n1.trans n2) r2⟩

/-! ### targets -/
def tgN (i : Nat) : FG := fun d ρ => some (ρ.set i (.dat d))
theorem sem_gn (i : Nat) : SemG K (gName i) [i] (tgN i) := fun pd pc H0 G H ρ σ d v ρ' x0 r0 rv e Q q => by
  cases e
  refine q _ (r0.setD rv i) (fun j hj => ?_) (by simp)
  rw [List.getElem?_set_ne (fun z => hj (by simp [z]))]
def tgsNil : FGs := fun ds ρ => match ds with
  | [] => some ρ
  | _ => none
def tgsCons (f : FG) (g : FGs) : FGs := fun ds ρ => match ds with
  | d :: r => obd (f d ρ) fun ρ' => g r ρ'
  | [] => none
def tgT (n : Nat) (f : FGs) : FG := fun d ρ => match d with
  | .tup xs => if xs.length = n then f xs ρ else none
  | _ => none
theorem sem_gsn : SemGs K gNil [] tgsNil := fun pd pc H0 G H ρ σ ds vs ρ' x0 r0 rv e Q q => by
  unfold tgsNil at e
  split at e
  · cases e
    cases rv
    exact ⟨rfl, q σ r0 (fun _ _ => rfl) rfl⟩
  · cases e
theorem sem_gsc {g : TG} {gs : TGs} {is js : List Nat} {f : FG} {fs : FGs} (h : SemG K g is f) (hs : SemGs K gs js fs) : SemGs K (gCons g gs) (is ++ js) (tgsCons f fs) := fun pd pc H0 G H ρ σ ds vs ρ' x0 r0 rv e Q q => by
  unfold tgsCons at e
  split at e
  · obtain ⟨ρ1, e1, e2⟩ := obd_some e
    cases rv with
    | cons h1 r1 =>
      refine ⟨_, _, rfl, ?_⟩
      refine h pd pc H0 G H ρ σ _ _ ρ1 x0 r0 h1 e1 _ fun σ1 r2 k1 l1 => ?_
      refine hs pd pc H0 G H ρ1 σ1 _ _ ρ' x0 r2 r1 e2 Q fun σ2 r3 k2 l2 => ?_
      exact q σ2 r3 (fun j hj => (k2 j fun z => hj (List.mem_append_right _ z)).trans (k1 j fun z => hj (List.mem_append_left _ z))) (l2.trans l1)
  · cases e
theorem sem_gt {n : Nat} {gs : TGs} {js : List Nat} {fs : FGs} (hs : SemGs K gs js fs) : SemG K (gTup K n gs) js (tgT n fs) := fun pd pc H0 G H ρ σ d v ρ' x0 r0 rv e Q q => by
  unfold tgT at e
  split at e
  · split at e
    · rename_i hl
      cases rv with
      | tup h1 r1 => exact ⟨_, _, rfl, ex_t x0 h1, by rw [← r1.length]; exact hl, hs pd pc H0 G H ρ σ _ _ ρ' x0 r0 r1 e Q q⟩
    · cases e
  · cases e
end
end DL

/-! # The data layer: statements, walks, defs -/
namespace DL
open PySem L2 Evl
section
variable {K : PySem.W.Frag}
def fNext : FS := fun ρ S => some (.nx ρ S)
theorem sem_next : SemS K tNext fNext := fun pd pc H0 G0 G H ρ σ S out g n r e Dn q => by
  cases e
  exact q G H σ g n r
def fSeq (f g : FS) : FS := fun ρ S => match f ρ S with
  | some (.nx ρ' S') => g ρ' S'
  | o => o
theorem post_nx {pd pc : Addr} {H0 G0 : Hp} {Dn : Ends} {nx' : L2.St → Hp → Prop} {out : Out} (hn : ∀ ρ S, out ≠ .nx ρ S) (q : Post K pd pc H0 G0 Dn out) : Post K pd pc H0 G0 { Dn with nx := nx' } out := by
  cases out with
  | nx ρ S => exact absurd rfl (hn ρ S)
  | rt d S => exact q
  | rf d S => exact q
  | br ρ S => exact q
  | ct ρ S => exact q
theorem sem_seq {t u : TS} {f g : FS} (h1 : SemS K t f) (h2 : SemS K u g) : SemS K (tSeq t u) (fSeq f g) := fun pd pc H0 G0 G H ρ σ S out g0 n r e Dn q => by
  unfold fSeq at e
  split at e
  · rename_i ρ' S' e1
    refine h1 pd pc H0 G0 G H ρ σ S _ g0 n r e1 _ fun G1 H1 σ1 g1 n1 r1 => ?_
    exact h2 pd pc H0 G0 G1 H1 ρ' σ1 S' out g1 n1 r1 e Dn q
  · rename_i hne
    refine h1 pd pc H0 G0 G H ρ σ S out g0 n r e _ (post_nx (fun ρ' S' z => ?_) q)
    subst z
    exact hne ρ' S' e
/-- a name's store -/
def fAsg (f : FE) (tg : FG) : FS := fun ρ S => bnd (f ρ S) fun d S1 => obd (tg d ρ) fun ρ' => some (.nx ρ' S1)
theorem sem_asg {te : TE} {g : TG} {is : List Nat} {f : FE} {tg : FG} (h : SemE K te f) (hg : SemG K g is tg) : SemS K (tAsg te g) (fAsg f tg) := fun pd pc H0 G0 G H ρ σ S out g0 n r e Dn q => by
  obtain ⟨d, S1, e1, e2⟩ := bnd_some e
  obtain ⟨ρ', e3, e4⟩ := obd_some e2
  cases e4
  refine h pd pc H0 G H ρ σ S d _ g0 r e1 _ fun G1 H1 v g1 n1 rv => ?_
  exact hg pd pc H0 G1 H1 ρ σ d v ρ' g1.ex (r.step n1) rv e3 _ fun σ' r' _ _ => q G1 H1 σ' g1 (n.trans n1) r'
def fAsgO (f : FF) (i : Nat) : FS := fun ρ S => bnd (f ρ S) fun fo S1 => some (.nx (ρ.set i (.own fo)) S1)
theorem sem_asgO {te : TE} {f : FF} (i : Nat) (h : SemF K te f) : SemS K (tAsg te (gName i)) (fAsgO f i) := fun pd pc H0 G0 G H ρ σ S out g0 n r e Dn q => by
  obtain ⟨d, S1, e1, e2⟩ := bnd_some e
  cases e2
  refine h pd pc H0 G H ρ σ S d _ g0 r e1 _ fun G1 H1 p o g1 n1 h2 h3 h4 h5 => ?_
  refine q G1 H1 _ g1 (n.trans n1) ?_
  exact (r.step n1).setO (r.ne h2) (n.fresh h2) h3 (g0.ned h2) (g0.nec h2) h4 h5 i
def fRet (f : FE) : FS := fun ρ S => bnd (f ρ S) fun d S1 => some (.rt d S1)
theorem sem_ret {te : TE} {f : FE} (h : SemE K te f) : SemS K (tRet te) (fRet f) := fun pd pc H0 G0 G H ρ σ S out g0 n r e Dn q => by
  obtain ⟨d, S1, e1, e2⟩ := bnd_some e
  cases e2
  exact h pd pc H0 G H ρ σ S d _ g0 r e1 _ fun G1 H1 v g1 n1 rv => q G1 H1 v g1 (n.trans n1) rv
def fRetF (f : FF) : FS := fun ρ S => bnd (f ρ S) fun d S1 => some (.rf d S1)
theorem sem_retF {te : TE} {f : FF} (h : SemF K te f) : SemS K (tRet te) (fRetF f) := fun pd pc H0 G0 G H ρ σ S out g0 n r e Dn q => by
  obtain ⟨d, S1, e1, e2⟩ := bnd_some e
  cases e2
  exact h pd pc H0 G H ρ σ S d _ g0 r e1 _ fun G1 H1 p o g1 n1 h2 h3 h4 h5 => q G1 H1 p o g1 (n.trans n1) (n.fresh h2) h3 h4 h5
def fIfS (f : FT) (g h : FS) : FS := fun ρ S => bnd (f ρ S) fun b S1 => if b = true then g ρ S1 else h ρ S1
theorem sem_ifS {tt : TT} {t u : TS} {f : FT} {g h : FS} (h0 : SemT K tt f) (h1 : SemS K t g) (h2 : SemS K u h) : SemS K (tIfS tt t u) (fIfS f g h) := fun pd pc H0 G0 G H ρ σ S out g0 n r e Dn q => by
  obtain ⟨c, S1, e1, e2⟩ := bnd_some e
  refine h0 pd pc H0 G H ρ σ S c S1 g0 r e1 _ fun G1 H1 g1 n1 => ?_
  cases c with
  | true => exact h1 pd pc H0 G0 G1 H1 ρ σ S1 out g1 (n.trans n1) (r.step n1) e2 Dn q
  | false => exact h2 pd pc H0 G0 G1 H1 ρ σ S1 out g1 (n.trans n1) (r.step n1) e2 Dn q
/-- a statement that the proof never comes to -/
def fNever : FS := fun _ _ => none
theorem sem_never : SemS K tNever fNever := fun pd pc H0 G0 G H ρ σ S out g0 n r e Dn q => by cases e
def fBreak : FS := fun ρ S => some (.br ρ S)
theorem sem_break : SemS K tBreak fBreak := fun pd pc H0 G0 G H ρ σ S out g0 n r e Dn q => by
  cases e
  exact q G H σ g0 n r
def fCont : FS := fun ρ S => some (.ct ρ S)
theorem sem_cont : SemS K tCont fCont := fun pd pc H0 G0 G H ρ σ S out g0 n r e Dn q => by
  cases e
  exact q G H σ g0 n r
def fDrop (f : FE) : FS := fun ρ S => bnd (f ρ S) fun _ S1 => some (.nx ρ S1)
theorem sem_drop {te : TE} {f : FE} (h : SemE K te f) : SemS K (tDrop te) (fDrop f) := fun pd pc H0 G0 G H ρ σ S out g0 n r e Dn q => by
  obtain ⟨d, S1, e1, e2⟩ := bnd_some e
  cases e2
  exact h pd pc H0 G H ρ σ S d _ g0 r e1 _ fun G1 H1 v g1 n1 rv => q G1 H1 σ g1 (n.trans n1) (r.step n1)
/-! ### an own list is frozen (no step of the program) -/
def frz (i : Nat) (ρ : List Sl) : List Sl := match ρ[i]? with
  | some (.own (.lst xs)) => ρ.set i (.dat (.lst xs))
  | _ => ρ
def fFrz (i : Nat) (f : FS) : FS := fun ρ S => f (frz i ρ) S
theorem EnvR.frz {pd pc : Addr} {H0 G H : Hp} {ρ : List Sl} {σ : L2.St} {i : Nat} {a : Addr} {xs : List D} {vs : List V} (r : EnvR K pd pc H0 G H ρ σ) (hi : ρ[i]? = some (.own (.lst xs))) (hs : σ[i]? = some (some (V.ref a))) (hg : G a = none) (ha : H a = some (.lst vs)) (hr : RepL K pd G xs vs) :
    EnvR K pd pc H0 (upd G a (.lst vs)) H (ρ.set i (.dat (.lst xs))) σ := by
  have hil : i < ρ.length := (List.getElem?_eq_some_iff.mp hi).1
  have ex : Ex G (upd G a (.lst vs)) := Ex.new hg
  refine ⟨by simp [r.len], fun j e he => ?_, fun j fo2 he => ?_, fun j k f1 f2 b hjk hj hk => ?_⟩
  · by_cases hij : i = j
    · subst hij
      rw [List.getElem?_set_self hil] at he
      cases he
      exact ⟨_, hs, .lst (SqL.of upd_same) (hr.mono ex)⟩
    · rw [List.getElem?_set_ne hij] at he
      obtain ⟨v, h1, h2⟩ := r.dat j e he
      exact ⟨v, h1, h2.mono ex⟩
  · by_cases hij : i = j
    · subst hij
      rw [List.getElem?_set_self hil] at he
      cases he
    · rw [List.getElem?_set_ne hij] at he
      obtain ⟨b, o', h1, h2, h3, h5, h6, h7, h8⟩ := r.own j fo2 he
      refine ⟨b, o', h1, h2, ?_, h5, h6, h7, h8.mono ex⟩
      rw [upd_ne]
      · exact h3
      · intro z
        subst z
        exact r.sep i j _ fo2 b hij hi he hs h1
  · by_cases hij : i = j
    · subst hij
      rw [List.getElem?_set_self hil] at hj
      cases hj
    · by_cases hik : i = k
      · subst hik
        rw [List.getElem?_set_self hil] at hk
        cases hk
      · rw [List.getElem?_set_ne hij] at hj
        rw [List.getElem?_set_ne hik] at hk
        exact r.sep j k f1 f2 b hjk hj hk
theorem sem_frz {t : TS} {f : FS} (i : Nat) (h : SemS K t f) : SemS K t (fFrz i f) := fun pd pc H0 G0 G H ρ σ S out g0 n r e Dn q => by
  unfold fFrz frz at e
  split at e
  · rename_i xs hi
    obtain ⟨a, o, h1, h2, h3, h4, h5, h6, vs, rfl, hr⟩ := r.own i _ hi
    have n' : Ent pd pc H0 G0 (upd G a (.lst vs)) H := ⟨n.ex.trans (Ex.new h3), n.kp, fun b hb => by
      rw [upd_ne]
      · exact n.nw b hb
      · intro z
        subst z
        exact hb h2, n.dm⟩
    exact h pd pc H0 G0 _ H _ σ S out (g0.frz h6 h4 h5) n' (r.frz hi h1 h3 h6 hr) e Dn q
  · exact h pd pc H0 G0 G H ρ σ S out g0 n r e Dn q

/-! ### own lists grow -/
def fApp (i : Nat) (f : FE) : FS := fun ρ S => match ρ[i]? with
  | some (.own (.lst xs)) => bnd (f ρ S) fun d S1 => if xs.length < 100000 then some (.nx (ρ.set i (.own (.lst (xs ++ [d])))) S1) else none
  | _ => none
theorem sem_app {te : TE} {f : FE} (i : Nat) (h : SemE K te f) : SemS K (tDrop (tBM K "list" rAppend (tVar i) (tCons te tNil))) (fApp i f) := fun pd pc H0 G0 G H ρ σ S out g0 n r e Dn q => by
  unfold fApp at e
  split at e
  · rename_i xs hi
    obtain ⟨d, S1, e1, e2⟩ := bnd_some e
    split at e2
    · rename_i hl
      cases e2
      obtain ⟨a, o, h1, h2, h3, h4, h5, h6, vs, rfl, hr⟩ := r.own i _ hi
      refine ⟨_, h1, .inl ⟨rfl, _, sq_of h6⟩, ?_⟩
      refine h pd pc H0 G H ρ σ S d _ g0 r e1 _ fun G1 H1 v g1 n1 rv => ?_
      have h6' := n1.kp a _ h6 h4 h5
      have h3' : G1 a = none := by rw [n1.nw a (by rw [h6]; exact fun z => nomatch z)]; exact h3
      refine ⟨a, vs, v, rfl, rfl, h6', sz_lt (by rw [← hr.length]; exact hl), ?_⟩
      have r1 := (r.step n1).chg (fo' := .lst (xs ++ [d])) (o := .lst (vs ++ [v])) hi h1 ⟨_, rfl, (hr.mono n1.ex).append (.cons rv .nil)⟩
      have n2 := n.trans n1
      refine q G1 _ σ (g1.chg h3' h4 h5) ⟨n2.ex, fun b o e n m => ?_, n2.nw, fun b hb => ?_⟩ r1
      · rw [upd_ne]
        · exact n2.kp b o e n m
        · intro z
          subst z
          rw [h2] at e
          cases e
      · by_cases z : b = a
        · subst z
          exact absurd h2 hb
        · rw [upd_ne z]
          exact n2.dm b hb
    · cases e2
  · cases e
def fExt (i : Nat) (f : FF) : FS := fun ρ S => match ρ[i]? with
  | some (.own (.lst xs)) => bnd (f ρ S) fun fo S1 => match fo with
    | .lst ys => if xs.length + ys.length ≤ 100000 then some (.nx (ρ.set i (.own (.lst (xs ++ ys)))) S1) else none
    | _ => none
  | _ => none
theorem sem_ext {te : TE} {f : FF} (i : Nat) (h : SemF K te f) : SemS K (tDrop (tBM K "list" rExtend (tVar i) (tCons te tNil))) (fExt i f) := fun pd pc H0 G0 G H ρ σ S out g0 n r e Dn q => by
  unfold fExt at e
  split at e
  · rename_i xs hi
    obtain ⟨fo, S1, e1, e2⟩ := bnd_some e
    split at e2
    · rename_i ys
      split at e2
      · rename_i hl
        cases e2
        obtain ⟨a, o, h1, h2, h3, h4, h5, h6, vs, rfl, hr⟩ := r.own i _ hi
        refine ⟨_, h1, .inl ⟨rfl, _, sq_of h6⟩, ?_⟩
        refine h pd pc H0 G H ρ σ S _ _ g0 r e1 _ fun G1 H1 p o g1 n1 k2 k3 k4 k5 => ?_
        obtain ⟨us, rfl, hs⟩ := k5
        have h6' := n1.kp a _ h6 h4 h5
        have h3' : G1 a = none := by rw [n1.nw a (by rw [h6]; exact fun z => nomatch z)]; exact h3
        refine ⟨a, p, vs, us, rfl, rfl, h6', k4, sz_of (by rw [← hr.length, ← hs.length]; exact hl), ?_⟩
        have r1 := (r.step n1).chg (fo' := .lst (xs ++ ys)) (o := .lst (vs ++ us)) hi h1 ⟨_, rfl, (hr.mono n1.ex).append hs⟩
        have n2 := n.trans n1
        refine q G1 _ σ (g1.chg h3' h4 h5) ⟨n2.ex, fun b o e n m => ?_, n2.nw, fun b hb => ?_⟩ r1
        · rw [upd_ne]
          · exact n2.kp b o e n m
          · intro z
            subst z
            rw [h2] at e
            cases e
        · by_cases z : b = a
          · subst z
            exact absurd h2 hb
          · rw [upd_ne z]
            exact n2.dm b hb
      · cases e2
    · cases e2
  · cases e

/-! ### for -/
def forF (tg : FG) (body : FS) : List D → List Sl → Dk → Option Out
  | [], ρ, S => some (.nx ρ S)
  | d :: ds, ρ, S => obd (tg d ρ) fun ρ1 => match body ρ1 S with
    | some (.nx ρ2 S2) => forF tg body ds ρ2 S2
    | some (.ct ρ2 S2) => forF tg body ds ρ2 S2
    | some (.br ρ2 S2) => some (.nx ρ2 S2)
    | o => o
def fFor (fi : FA) (tg : FG) (body : FS) : FS := fun ρ S => bnd (fi ρ S) fun ds S1 => forF tg body ds ρ S1
theorem sem_for {wi : TI} {g : TG} {is : List Nat} {tb : TS} {fi : FA} {tg : FG} {fb : FS} (hi : SemI K wi fi) (hg : SemG K g is tg) (hb : SemS K tb fb) : SemS K (tFor wi g tb) (fFor fi tg fb) := fun pd pc H0 G0 G H ρ σ S out g0 n r e Dn q => by
  obtain ⟨ds, S1, e1, e2⟩ := bnd_some e
  refine hi pd pc H0 G H ρ σ S ds S1 g0 r e1 _ fun G1 H1 J g1 n1 it => ?_
  have n01 := n.trans n1
  refine ⟨fun i m σ' H' => m = ds.length - i ∧ i ≤ ds.length ∧ ∃ (G' : Hp) (ρ' : List Sl) (S' : Dk), Good pd pc G' H' S' ∧ Ent pd pc H0 G1 G' H' ∧ EnvR K pd pc H0 G' H' ρ' σ' ∧ forF tg fb (ds.drop i) ρ' S' = some out,
    ⟨ds.length, by simp, Nat.zero_le _, G1, ρ, S1, g1, ⟨Ex.refl _, n01.kp, fun _ _ => rfl, n01.dm⟩, r.step n1, by simpa using e2⟩, ?_⟩
  have back : ∀ {G' H' : Hp}, Ent pd pc H0 G1 G' H' → Ent pd pc H0 G0 G' H' := fun {G' H'} n' => ⟨n01.ex.trans n'.ex, n'.kp, fun a ha => (n'.nw a ha).trans (n01.nw a ha), n'.dm⟩
  rintro i m σ' H' ⟨rfl, hle, G', ρ', S', g', n', r', e'⟩
  obtain ⟨t1, t2⟩ := it G' H' S' g' n'.ex i
  by_cases hlt : i < ds.length
  · refine .inr ?_
    have hd : ds[i]? = some ds[i] := by simp [hlt]
    obtain ⟨k1, k2⟩ := t1 _ hd
    rw [List.drop_eq_getElem_cons hlt] at e'
    unfold forF at e'
    obtain ⟨ρ1, e3, e4⟩ := obd_some e'
    refine ⟨k1, fun σ2 H2 => ∃ m', m' = ds.length - (i + 1) ∧ i + 1 ≤ ds.length ∧ ∃ (G' : Hp) (ρ' : List Sl) (S' : Dk), Good pd pc G' H2 S' ∧ Ent pd pc H0 G1 G' H2 ∧ EnvR K pd pc H0 G' H2 ρ' σ2 ∧ forF tg fb (ds.drop (i + 1)) ρ' S' = some out, ?_, fun x H2 hy => ?_⟩
    · rintro σ2 H2 ⟨m', rfl, h1, h2⟩
      exact ⟨_, by omega, rfl, h1, h2⟩
    · obtain ⟨G2, g2, n2, rx⟩ := k2 x H2 hy
      refine hg pd pc H0 G2 H2 ρ' σ' _ x ρ1 g2.ex (r'.step n2) rx e3 _ fun σ3 r3 _ _ => ?_
      have n3 : Ent pd pc H0 G1 G2 H2 := ⟨n'.ex.trans n2.ex, fun a o h1 h2 h3 => n2.kp a o (n'.kp a o h1 h2 h3) h2 h3, fun a ha => (n2.nw a (n'.dm a ha)).trans (n'.nw a ha), fun a ha => n2.dm a (n'.dm a ha)⟩
      cases eb : fb ρ1 S' with
      | none => rw [eb] at e4; cases e4
      | some ob =>
        rw [eb] at e4
        refine hb pd pc H0 G1 G2 H2 ρ1 σ3 S' ob g2 n3 r3 eb _ ?_
        cases ob with
        | nx ρ4 S4 => exact fun G4 H4 σ4 g4 n4 r4 => ⟨_, rfl, hlt, G4, ρ4, S4, g4, n4, r4, e4⟩
        | ct ρ4 S4 => exact fun G4 H4 σ4 g4 n4 r4 => ⟨_, rfl, hlt, G4, ρ4, S4, g4, n4, r4, e4⟩
        | br ρ4 S4 =>
          cases e4
          exact fun G4 H4 σ4 g4 n4 r4 => q G4 H4 σ4 g4 (back n4) r4
        | rt d S4 =>
          cases e4
          exact fun G4 H4 v g4 n4 r4 => q G4 H4 v g4 (back n4) r4
        | rf d S4 =>
          cases e4
          exact fun G4 H4 p o g4 n4 k1 k2 k3 k4 => q G4 H4 p o g4 (back n4) k1 k2 k3 k4
  · refine .inl ⟨t2 (by omega), ?_⟩
    rw [List.drop_eq_nil_of_le (by omega)] at e'
    cases e'
    exact q G' H' σ' g' (back n') r'
end
end DL

/-! # The data layer: what is walked, comprehensions -/
/-! ### enumerate of a tuple -/
namespace PySem
open Sem (wp)
set_option maxHeartbeats 1000000 in
theorem meets_enumerate_new1 {v : Value} {o : Obj} {H : Heap → Prop} (B : Begins v o H) :
    Meets (Builtin.«enumerate.__new__» ⟨[.type "enumerate", v], []⟩) (fun _ R s => H s.heap ∧
      R (.ok (.ret (.ref (s.heap.push o).objs.size))) { s with heap := (s.heap.push o).push { cls := .type "enumerate", data := .fields #[.none, .bool false, .ref s.heap.objs.size, rawInt 0, .none, .none] } }) :=
  .of_wp fun prog w A R s h => by
    obtain ⟨hp, g, d, tk, os⟩ := s; obtain ⟨h1, h⟩ := h
    have hsub := sub_enumerate
    have q1 : ∀ {A' : Around} {E : Value → Shared → Prop} {Q : Value → Shared → Prop}, Q (.ref hp.objs.size) ⟨hp.push o, g, d, tk, os⟩ → wpAny (model prog w) A' (pyIter v) Q E ⟨hp, g, d, tk, os⟩ :=
      fun q => B.iter prog w _ _ ⟨hp, g, d, tk, os⟩ _ h1 q
    wp_walk using q1
    refine wpAny_stack_any fun st => wpAny_pure ?_
    split
    · rename_i c _ _ _ _ _
      cases (c == Value.type "enumerate")
      · wp_walk using q1
        exact ⟨_, rfl, h⟩
      · wp_walk using q1
        exact ⟨_, rfl, h⟩
    · wp_walk using q1
      exact ⟨_, rfl, h⟩
theorem enum_begins1 {prog : Program} {w : World} {A : Around} {E : Value → Shared → Prop} {s : Shared} {v : Value} {o : Obj} {H : Heap → Prop} {Q : Value → Shared → Prop} (B : Begins v o H) (h1 : H s.heap)
    (h : ∀ h', IsEnum h' (s.heap.objs.size + 1) s.heap.objs.size 0 .none → h'.get? s.heap.objs.size = some o → h'.objs.size = s.heap.objs.size + 2 →
      (∀ b o, s.heap.get? b = some o → h'.get? b = some o) → Q (.ref (s.heap.objs.size + 1)) { s with heap := h' }) :
    wpAny (model prog w) A (call (.type "enumerate") [v]) Q E s := by
  refine callType_new F.called_enumerate (by decide) (F.typeCall_enumerate_1 _) (F.newCall_enumerate_1 _) (fun obj => F.args_object_init_2 obj _) F.entry_enumerate_new
    (meets_enumerate_new1 B) ⟨h1, ?_⟩
  have hz : (s.heap.push o).objs.size = s.heap.objs.size + 1 := Heap.size_push ..
  show _ ∧ _
  rw [hz]
  have he : IsEnum ((s.heap.push o).push { cls := .type "enumerate", data := .fields #[.none, .bool false, .ref s.heap.objs.size, rawInt 0, .none, .none] }) (s.heap.objs.size + 1) s.heap.objs.size 0 .none := by
    have := Heap.get?_push_size (s.heap.push o) (o := { cls := .type "enumerate", data := .fields #[.none, .bool false, .ref s.heap.objs.size, rawInt 0, .none, .none] }) rfl
    rw [hz] at this; exact this
  refine ⟨⟨_, he, rfl⟩, h _ he (Heap.get?_push_of_some _ (Heap.get?_push_size _ B.free)) (by rw [Heap.size_push, hz]) fun b o x => Heap.get?_push_of_some _ (Heap.get?_push_of_some _ x)⟩
end PySem
namespace DL
open PySem L2 Evl PySem.Spec PyProof.Rows RZ
def IteT (K : PySem.W.Frag) (a : Addr) : It :=
  ⟨fun i H => ∃ (xs : List V) (x : V), SqT K H a xs ∧ xs[i]? = some x, fun i H v H' => ∃ T x, v = .ref T ∧ H T = none ∧ H' = upd H T (.tup [.int (i : Nat), x]) ∧ ∀ xs, SqT K H a xs → xs[i]? = some x, fun i H => ∃ xs : List V, SqT K H a xs ∧ xs.length = i⟩
theorem in1_handled {A : Around} (h : A.handled = none) : A.in1.handled = none := h
theorem turn_enumT {P : Program} {w : World} {K : PySem.W.Frag} {elts : List Expr} {kk : Nat} {tpos : Pos} (a e it : Addr) :
    Turn P w K (.Tuple elts kk tpos) (IteT K a) [e, it] e (fun i h => (∃ old, IsEnum h e it ((i : Nat) : Int) old) ∧ h.IsTupleIter it a i ∧ e ≠ it ∧ a ≠ it ∧ a ≠ e) where
  mem := by simp
  obj := fun i h st b hb => by
    obtain ⟨⟨old, he⟩, ⟨o, ho, hc, hd⟩, _⟩ := st
    have e' : b = e ∨ b = it := by simpa using hb
    rcases e' with z | z
    · rw [z]; exact ⟨_, he, fun v q => nomatch q⟩
    · rw [z]; exact ⟨o, ho, fun v q => by rw [hd] at q; cases q⟩
  keep := fun i h h' st k => let ⟨⟨old, he⟩, hi, hne⟩ := st; ⟨⟨old, k e (by simp) _ he⟩, hi.at fun o q => k it (by simp) o q, hne⟩
  item := by
    intro X hP hw hK hc i pins s σ H E I hf st hg
    subst hP hw hK
    obtain ⟨⟨old, he⟩, hit, hne, hai, hae⟩ := st
    obtain ⟨xs, x, hq, hx⟩ := hg
    obtain ⟨its, rv, p, hz⟩ := I.tuple hq
    obtain ⟨u, hu, ru⟩ := rv.get hx
    have hel : e < s.heap.objs.size := Heap.lt_size he
    have hil : it < s.heap.objs.size := by obtain ⟨_, q, _⟩ := hit; exact Heap.lt_size q
    have hlt : i < its.toArray.size := by
      have := (List.getElem?_eq_some_iff.mp hu).1
      simpa using this
    refine wpAny_pyNext_enum_itemD (Draws.tuple (in1_handled (I.ok.hd hc)) it a hai its.toArray) he ⟨hit, p⟩ hlt hne (by simp [hne, Ne.symm hae]) fun u' h' tk hP ho hst' hT hsz hk => ?_
    have eu : u' = u := by
      have z : its.toArray[i]? = some u' := hP
      rw [List.getElem?_toArray, hu] at z
      exact (Option.some.inj z).symm
    subst eu
    refine ⟨_, rfl, wpAny_letOwnedTupleGo_enum (s := { s with heap := h', toks := tk + 1 }) ho fun h'' he' sb => ?_⟩
    have hT2 : h''.get? s.heap.objs.size = some { cls := .type "tuple", data := .seq #[.int i tk, u'] } := (sb.2 _ (Nat.ne_of_gt hel)).trans hT
    have new : ObjOk X.prog X.w (upd H s.heap.objs.size (.tup [.int (i : Nat), x])) h'' s.heap.objs.size (.tup [.int (i : Nat), x]) :=
      ⟨by show 2 ≤ sizeLine; decide, [.int i tk, u'], .cons ⟨_, rfl⟩ (.cons ru .nil), ⟨_, hT2, rfl, _, rfl⟩⟩
    have I1 : Inv X pins σ (upd H s.heap.objs.size (.tup [.int (i : Nat), x])) { s with heap := h'', toks := tk + 1 } :=
      I.turnedNew (ch := [e, it]) (fun b ob hb q => (sb.2 b (fun z => hb (by simp [z]))).trans (hk b ob (fun z => hb (by simp [z])) (fun z => hb (by simp [z])) q)) hf (Nat.le_refl _) new
    refine ⟨.ref s.heap.objs.size, _, I1, rfl, ⟨_, x, rfl, I.hok.fresh (Nat.le_refl _), rfl, fun ys hy => by rw [I.tuple_inj hy hq]; exact hx⟩, ⟨⟨u', ?_⟩, hst'.1.at fun o q => (sb.2 it (Ne.symm hne)).trans q, hne, hai, hae⟩, fun b hb => ?_⟩
    · have e1 : ((i + 1 : Nat) : Int) = (i : Int) + 1 := by omega
      rw [e1]; exact he'
    · have hb' : b < s.heap.objs.size := by
        have e' : b = e ∨ b = it := by simpa using hb
        rcases e' with z | z
        · rw [z]; exact hel
        · rw [z]; exact hil
      rw [upd_ne (Nat.ne_of_lt hb')]
      exact (hf b hb).1
  done := by
    intro X hP hw hK hc i pins s σ H E I hf st hg
    subst hP hw hK
    obtain ⟨⟨old, he⟩, hit, hne, hai, hae⟩ := st
    obtain ⟨xs, hq, hx⟩ := hg
    obtain ⟨its, rv, p, hz⟩ := I.tuple hq
    obtain ⟨f0, f1, f2, f3, f4, f5⟩ := hf it (by simp)
    have hl := rv.length
    have ei : i = its.toArray.size := by simp; omega
    refine wpAny_pyNext_enum_endD (Draws.tuple (in1_handled (I.ok.hd hc)) it a hai its.toArray) he ⟨?_, p⟩ fun h' eb => ⟨rfl, I.turned (t' := s.toks) (fun b o hb q => eb b o hb q) f0 f1 f3 f4 f5⟩
    rw [← ei]
    exact hit
  self := fun A i s Q E st h => let ⟨⟨_, he⟩, _⟩ := st; wpAny_pyIter_enum he h
def iEnumT (K : PySem.W.Frag) (ta : TA) : TI := fun σ H R => ta σ H fun vs H1 => ∃ a xs, vs = [.ref a] ∧ SqT K H1 a xs ∧ R (IteT K a) H1
theorem pi_enumT {X : Cx} {e : Expr} {ta : TA} {p pos tpos : Pos} {elts : List Expr} {kk : Nat} (hg : Gl X "enumerate") (hm : X.mg "enumerate" = none) (ha : PA X [e] ta) (hs : starEach [e] X.env = [(false, eval e X.env)] := by rfl) :
    PI X (.Tuple elts kk tpos) (.Call (.Name "enumerate" p) [e] [] pos) (iEnumT X.K ta) := by
  refine ⟨fun pins s σ H R I h => ?_⟩
  refine Call_ (ld_blt I hg hm boot_enumerate (PyProof.Rows.callWith_type1 (thn (ha.run pos pins s σ H _ I h) fun us s1 ⟨vs, H1, I1, r1, q1⟩ => ?_) hs rfl))
  obtain ⟨a, xs, ex, hq, q⟩ := q1
  subst ex
  cases r1 with
  | cons r rr =>
    cases rr
    cases r
    obtain ⟨its, rv, p', hz⟩ := I1.tuple hq
    have hal : a < s1.heap.objs.size := p'.lt
    refine enum_begins1 (begins_tuple a its.toArray) p' fun h' he hit hsz hk => wpAny_pyIter_enum he ?_
    have I2 : Inv X pins σ H1 { s1 with heap := h' } := I1.kept (t' := s1.toks) hk
    refine ⟨s1.heap.objs.size + 1, [s1.heap.objs.size + 1, s1.heap.objs.size], _, _, H1, rfl, I2, turn_enumT a (s1.heap.objs.size + 1) s1.heap.objs.size, ⟨⟨.none, he⟩, ⟨_, hit, rfl, rfl⟩, Nat.succ_ne_self _, Nat.ne_of_lt hal, Nat.ne_of_lt (Nat.lt_succ_of_lt hal)⟩, fun b hb => ?_, q⟩
    have e' : b = s1.heap.objs.size + 1 ∨ b = s1.heap.objs.size := by simpa using hb
    have hle : s1.heap.objs.size ≤ b := by
      rcases e' with z | z
      · rw [z]; exact Nat.le_add_right _ _
      · rw [z]; exact Nat.le_refl _
    exact I1.fpOk hle (I1.hok.fresh hle)
/-! ### what is walked -/
section
variable {K : PySem.W.Frag}
def fIL (f : FE) : FA := fun ρ S => bnd (f ρ S) fun d S1 => match d with
  | .lst xs => some (xs, S1)
  | _ => none
def fIT (f : FE) : FA := fun ρ S => bnd (f ρ S) fun d S1 => match d with
  | .tup xs => some (xs, S1)
  | _ => none
theorem sem_il {t : TE} {f : FE} (h : SemE K t f) : SemI K (iList K t) (fIL f) := fun pd pc H0 G H ρ σ S ds S' g0 r0 e R q => by
  obtain ⟨d, S1, e1, e2⟩ := bnd_some e
  split at e2
  · cases e2
    refine h pd pc H0 G H ρ σ S _ _ g0 r0 e1 _ fun G1 H1 v g1 n1 rv => ?_
    cases rv with
    | lst h1 r1 =>
      refine ⟨_, rfl, ⟨_, ex_l g1.ex h1⟩, q G1 H1 _ g1 n1 fun G2 H2 S2 g2 x2 i => ⟨fun d hd => ?_, fun hl => ?_⟩⟩
      · obtain ⟨v, hv, rv⟩ := r1.get hd
        have h2 := ex_l (x2.trans g2.ex) h1
        refine ⟨⟨_, v, h2, hv⟩, fun x H' hy => ?_⟩
        obtain ⟨rfl, hy⟩ := hy
        have ex : x = v := Option.some.inj ((hy _ h2).symm.trans hv)
        subst ex
        exact ⟨G2, g2, Ent.refl _ _, rv.mono x2⟩
      · exact ⟨_, ex_l (x2.trans g2.ex) h1, by rw [← r1.length]; omega⟩
  · cases e2
theorem sem_it {t : TE} {f : FE} (h : SemE K t f) : SemI K (iTup K t) (fIT f) := fun pd pc H0 G H ρ σ S ds S' g0 r0 e R q => by
  obtain ⟨d, S1, e1, e2⟩ := bnd_some e
  split at e2
  · cases e2
    refine h pd pc H0 G H ρ σ S _ _ g0 r0 e1 _ fun G1 H1 v g1 n1 rv => ?_
    cases rv with
    | tup h1 r1 =>
      refine ⟨_, rfl, ⟨_, ex_t g1.ex h1⟩, q G1 H1 _ g1 n1 fun G2 H2 S2 g2 x2 i => ⟨fun d hd => ?_, fun hl => ?_⟩⟩
      · obtain ⟨v, hv, rv⟩ := r1.get hd
        have h2 := ex_t (x2.trans g2.ex) h1
        refine ⟨⟨_, v, h2, hv⟩, fun x H' hy => ?_⟩
        obtain ⟨rfl, hy⟩ := hy
        have ex : x = v := Option.some.inj ((hy _ h2).symm.trans hv)
        subst ex
        exact ⟨G2, g2, Ent.refl _ _, rv.mono x2⟩
      · exact ⟨_, ex_t (x2.trans g2.ex) h1, by rw [← r1.length]; omega⟩
  · cases e2
def rangeD (lo : Int) (n : Nat) : List D := (List.range n).map fun i => D.int (lo + (i : Nat))
theorem rangeD_get {lo : Int} {n i : Nat} {d : D} (h : (rangeD lo n)[i]? = some d) : i < n ∧ d = .int (lo + (i : Nat)) := by
  unfold rangeD at h
  rw [List.getElem?_map] at h
  by_cases hi : i < n
  · rw [List.getElem?_range hi] at h
    cases h
    exact ⟨hi, rfl⟩
  · rw [List.getElem?_eq_none (by rw [List.length_range]; omega)] at h
    cases h
theorem rangeD_len {lo : Int} {n : Nat} : (rangeD lo n).length = n := by simp [rangeD]
theorem it_range {pd pc : Addr} {G1 : Hp} {lo : Int} {n : Nat} : ItOk K pd pc G1 (Itr lo n) (rangeD lo n) := fun G2 H2 S2 g2 x2 i => ⟨fun d hd => by
  obtain ⟨h1, rfl⟩ := rangeD_get hd
  refine ⟨h1, fun x H' hy => ?_⟩
  obtain ⟨rfl, rfl⟩ := hy
  exact ⟨G2, g2, Ent.refl _ _, .int⟩, fun hl => by
  rw [rangeD_len] at hl
  exact Nat.le_of_eq hl⟩
def fR1 (f : FA) : FA := fun ρ S => bnd (f ρ S) fun ds S1 => match ds with
  | [.int j] => if -(2 ^ 62) ≤ j ∧ j < 2 ^ 62 then some (rangeD 0 j.toNat, S1) else none
  | _ => none
theorem sem_r1 {ta : TA} {f : FA} (h : SemA K ta f) : SemI K (iRng1 ta) (fR1 f) := fun pd pc H0 G H ρ σ S ds S' g0 r0 e R q => by
  obtain ⟨ds1, S1, e1, e2⟩ := bnd_some e
  split at e2
  · split at e2
    · rename_i hj
      cases e2
      refine h pd pc H0 G H ρ σ S _ _ g0 r0 e1 _ fun G1 H1 vs g1 n1 rs => ?_
      obtain ⟨v, rfl, rv⟩ := rs.one
      cases rv
      exact ⟨_, rfl, hj.1, hj.2, q G1 H1 _ g1 n1 it_range⟩
    · cases e2
  · cases e2
def fR2 (f : FA) : FA := fun ρ S => bnd (f ρ S) fun ds S1 => match ds with
  | [.int i, .int j] => if (-(2 ^ 62) ≤ i ∧ i < 2 ^ 62) ∧ (-(2 ^ 62) ≤ j ∧ j < 2 ^ 62) then some (rangeD i (j - i).toNat, S1) else none
  | _ => none
theorem sem_r2 {ta : TA} {f : FA} (h : SemA K ta f) : SemI K (iRng2 ta) (fR2 f) := fun pd pc H0 G H ρ σ S ds S' g0 r0 e R q => by
  obtain ⟨ds1, S1, e1, e2⟩ := bnd_some e
  split at e2
  · split at e2
    · rename_i hj
      cases e2
      refine h pd pc H0 G H ρ σ S _ _ g0 r0 e1 _ fun G1 H1 vs g1 n1 rs => ?_
      obtain ⟨v, u, rfl, rv, ru⟩ := rs.two
      cases rv
      cases ru
      exact ⟨_, _, rfl, ⟨hj.1.1, hj.1.2, hj.2.1, hj.2.2⟩, q G1 H1 _ g1 n1 it_range⟩
    · cases e2
  · cases e2
def enumD : List D → Nat → List D
  | [], _ => []
  | d :: ds, i => .tup [.int (i : Nat), d] :: enumD ds (i + 1)
theorem enumD_get : ∀ {ds : List D} {i j : Nat} {d : D}, (enumD ds i)[j]? = some d → ∃ e, ds[j]? = some e ∧ d = .tup [.int ((i + j : Nat) : Int), e]
  | [], _, _, _, h => by simp [enumD] at h
  | e :: ds, i, 0, d, h => by
    simp [enumD] at h
    subst h
    exact ⟨e, by simp, by simp⟩
  | e :: ds, i, j + 1, d, h => by
    have h' : (enumD ds (i + 1))[j]? = some d := by simpa [enumD] using h
    obtain ⟨e', h1, h2⟩ := enumD_get h'
    refine ⟨e', by simpa using h1, ?_⟩
    rw [h2]
    have : i + 1 + j = i + (j + 1) := by omega
    rw [this]
theorem enumD_len : ∀ (ds : List D) (i : Nat), (enumD ds i).length = ds.length
  | [], _ => rfl
  | _ :: ds, i => congrArg Nat.succ (enumD_len ds (i + 1))
theorem rep_pair {pd pc : Addr} {G H : Hp} {S : Dk} {T : Addr} {d1 d2 : D} {v1 v2 : V} (g : Good pd pc G H S) (hT : H T = none) (r1 : Rep K pd G d1 v1) (r2 : Rep K pd G d2 v2) :
    ∃ G', Good pd pc G' (upd H T (.tup [v1, v2])) S ∧ Ent pd pc H G G' (upd H T (.tup [v1, v2])) ∧ Rep K pd G' (.tup [d1, d2]) (.ref T) :=
  ⟨_, g.newG hT, Ent.newG g.ex hT, .tup (SqT.of upd_same) ((RepL.cons r1 (.cons r2 .nil)).mono (Ex.new (fresh_back g.ex hT)))⟩
def fEnT (f : FA) : FA := fun ρ S => bnd (f ρ S) fun ds S1 => match ds with
  | [.tup xs] => some (enumD xs 0, S1)
  | _ => none
theorem sem_enT {ta : TA} {f : FA} (h : SemA K ta f) : SemI K (iEnumT K ta) (fEnT f) := fun pd pc H0 G H ρ σ S ds S' g0 r0 e R q => by
  obtain ⟨ds1, S1, e1, e2⟩ := bnd_some e
  split at e2
  · cases e2
    refine h pd pc H0 G H ρ σ S _ _ g0 r0 e1 _ fun G1 H1 vs g1 n1 rs => ?_
    obtain ⟨v, rfl, rv⟩ := rs.one
    cases rv with
    | tup h1 r1 =>
      refine ⟨_, _, rfl, ex_t g1.ex h1, q G1 H1 _ g1 n1 fun G2 H2 S2 g2 x2 i => ⟨fun d hd => ?_, fun hl => ?_⟩⟩
      · obtain ⟨e, he, rfl⟩ := enumD_get hd
        obtain ⟨v, hv, rv⟩ := r1.get he
        have h2 := ex_t (x2.trans g2.ex) h1
        refine ⟨⟨_, v, h2, hv⟩, fun x H' hy => ?_⟩
        obtain ⟨T, y, rfl, hT, rfl, hy⟩ := hy
        have ex : y = v := Option.some.inj ((hy _ h2).symm.trans hv)
        subst ex
        rw [Nat.zero_add]
        exact rep_pair g2 hT .int (rv.mono x2)
      · rw [enumD_len] at hl
        exact ⟨_, ex_t (x2.trans g2.ex) h1, by rw [← r1.length]; exact hl⟩
  · cases e2
def fEnL (f : FA) : FA := fun ρ S => bnd (f ρ S) fun ds S1 => match ds with
  | [.lst xs] => some (enumD xs 0, S1)
  | _ => none
theorem sem_enL {ta : TA} {f : FA} (h : SemA K ta f) : SemI K (iEnum K ta) (fEnL f) := fun pd pc H0 G H ρ σ S ds S' g0 r0 e R q => by
  obtain ⟨ds1, S1, e1, e2⟩ := bnd_some e
  split at e2
  · cases e2
    refine h pd pc H0 G H ρ σ S _ _ g0 r0 e1 _ fun G1 H1 vs g1 n1 rs => ?_
    obtain ⟨v, rfl, rv⟩ := rs.one
    cases rv with
    | lst h1 r1 =>
      refine ⟨_, _, rfl, ex_l g1.ex h1, q G1 H1 _ g1 n1 fun G2 H2 S2 g2 x2 i => ⟨fun d hd => ?_, fun hl => ?_⟩⟩
      · obtain ⟨e, he, rfl⟩ := enumD_get hd
        obtain ⟨v, hv, rv⟩ := r1.get he
        have h2 := ex_l (x2.trans g2.ex) h1
        refine ⟨⟨_, v, h2, hv⟩, fun x H' hy => ?_⟩
        obtain ⟨T, y, rfl, hT, rfl, hy⟩ := hy
        have ex : y = v := Option.some.inj ((hy _ h2).symm.trans hv)
        subst ex
        rw [Nat.zero_add]
        exact rep_pair g2 hT .int (rv.mono x2)
      · rw [enumD_len] at hl
        exact ⟨_, ex_l (x2.trans g2.ex) h1, by rw [← r1.length]; omega⟩
  · cases e2
def zipD : List D → List D → List D
  | a :: as, b :: bs => .tup [a, b] :: zipD as bs
  | _, _ => []
theorem zipD_get : ∀ {as bs : List D} {i : Nat} {d : D}, (zipD as bs)[i]? = some d → ∃ a b, as[i]? = some a ∧ bs[i]? = some b ∧ d = .tup [a, b]
  | [], _, _, _, h => by simp [zipD] at h
  | _ :: _, [], _, _, h => by simp [zipD] at h
  | a :: as, b :: bs, 0, d, h => by
    simp [zipD] at h
    exact ⟨a, b, by simp, by simp, h.symm⟩
  | a :: as, b :: bs, i + 1, d, h => by
    have h' : (zipD as bs)[i]? = some d := by simpa [zipD] using h
    obtain ⟨x, y, h1, h2, h3⟩ := zipD_get h'
    exact ⟨x, y, by simpa using h1, by simpa using h2, h3⟩
theorem zipD_len : ∀ (as bs : List D), (zipD as bs).length = min as.length bs.length
  | [], _ => by simp [zipD]
  | _ :: _, [] => by simp [zipD]
  | a :: as, b :: bs => by simp [zipD, zipD_len as bs, Nat.succ_min_succ]
def fZip (f : FA) : FA := fun ρ S => bnd (f ρ S) fun ds S1 => match ds with
  | [.tup xs, .tup ys] => some (zipD xs ys, S1)
  | [.lst xs, .lst ys] => some (zipD xs ys, S1)
  | _ => none
theorem sem_zip {ta : TA} {f : FA} (h : SemA K ta f) : SemI K (iZipA K ta) (fZip f) := fun pd pc H0 G H ρ σ S ds S' g0 r0 e R q => by
  obtain ⟨ds1, S1, e1, e2⟩ := bnd_some e
  split at e2
  · cases e2
    refine h pd pc H0 G H ρ σ S _ _ g0 r0 e1 _ fun G1 H1 vs g1 n1 rs => ?_
    obtain ⟨v, u, rfl, rv, ru⟩ := rs.two
    cases rv with
    | tup h1 r1 => cases ru with
      | tup k1 s1 =>
        refine ⟨_, _, _, _, rfl, .inr ⟨ex_t g1.ex h1, ex_t g1.ex k1, q G1 H1 _ g1 n1 fun G2 H2 S2 g2 x2 i => ⟨fun d hd => ?_, fun hl => ?_⟩⟩⟩
        · obtain ⟨a, b, ha, hb, rfl⟩ := zipD_get hd
          obtain ⟨v, hv, rv⟩ := r1.get ha
          obtain ⟨u, hu, ru⟩ := s1.get hb
          have h2 := ex_t (x2.trans g2.ex) h1
          have k2 := ex_t (x2.trans g2.ex) k1
          refine ⟨⟨_, _, v, u, h2, k2, hv, hu⟩, fun x H' hy => ?_⟩
          obtain ⟨T, y, z, rfl, hT, rfl, hy, hz⟩ := hy
          have e1 : y = v := Option.some.inj ((hy _ h2).symm.trans hv)
          have e2 : z = u := Option.some.inj ((hz _ k2).symm.trans hu)
          subst e1 e2
          exact rep_pair g2 hT (rv.mono x2) (ru.mono x2)
        · rw [zipD_len] at hl
          have l1 := r1.length
          have l2 := s1.length
          exact ⟨_, _, ex_t (x2.trans g2.ex) h1, ex_t (x2.trans g2.ex) k1, by omega⟩
  · cases e2
    refine h pd pc H0 G H ρ σ S _ _ g0 r0 e1 _ fun G1 H1 vs g1 n1 rs => ?_
    obtain ⟨v, u, rfl, rv, ru⟩ := rs.two
    cases rv with
    | lst h1 r1 => cases ru with
      | lst k1 s1 =>
        refine ⟨_, _, _, _, rfl, .inl ⟨ex_l g1.ex h1, ex_l g1.ex k1, q G1 H1 _ g1 n1 fun G2 H2 S2 g2 x2 i => ⟨fun d hd => ?_, fun hl => ?_⟩⟩⟩
        · obtain ⟨a, b, ha, hb, rfl⟩ := zipD_get hd
          obtain ⟨v, hv, rv⟩ := r1.get ha
          obtain ⟨u, hu, ru⟩ := s1.get hb
          have h2 := ex_l (x2.trans g2.ex) h1
          have k2 := ex_l (x2.trans g2.ex) k1
          refine ⟨⟨_, _, v, u, h2, k2, hv, hu⟩, fun x H' hy => ?_⟩
          obtain ⟨T, y, z, rfl, hT, rfl, hy, hz⟩ := hy
          have e1 : y = v := Option.some.inj ((hy _ h2).symm.trans hv)
          have e2 : z = u := Option.some.inj ((hz _ k2).symm.trans hu)
          subst e1 e2
          exact rep_pair g2 hT (rv.mono x2) (ru.mono x2)
        · rw [zipD_len] at hl
          have l1 := r1.length
          have l2 := s1.length
          exact ⟨_, _, ex_l (x2.trans g2.ex) h1, ex_l (x2.trans g2.ex) k1, by omega⟩
  · cases e2
end
end DL

/-! # The data layer: comprehensions, defs -/
namespace DL
open PySem L2 Evl PySem.Spec PyProof.Rows
section
variable {K : PySem.W.Frag}
def lcF (vs : List Nat) (tg : FG) (ft : FT) (fe : FE) : List D → List Sl → Dk → Option (List D × Dk)
  | [], _, S => some ([], S)
  | d :: ds, ρ, S => obd (tg d (wipeR ρ vs)) fun ρ1 => bnd (ft ρ1 S) fun b S1 => if b = true then bnd (fe ρ1 S1) fun x S2 => bnd (lcF vs tg ft fe ds ρ S2) fun r S3 => some (x :: r, S3) else lcF vs tg ft fe ds ρ S1
def fLc (fi : FA) (tg : FG) (ft : FT) (fe : FE) (vs : List Nat) : FF := fun ρ S => bnd (fi ρ S) fun ds S1 => if ds.length ≤ 100000 then bnd (lcF vs tg ft fe ds ρ S1) fun r S2 => some (.lst r, S2) else none
/-- what a comprehension's heap is at a turn -/
structure LcAt (pd pc : Addr) (G1 H1 : Hp) (p : Addr) (G H : Hp) (S : Dk) : Prop where
  g : Good pd pc G H S
  n : Ent pd pc H1 G1 G H
  gp : G p = none
theorem LcAt.step {pd pc : Addr} {G1 H1 G H G' H' : Hp} {p : Addr} {S S' : Dk} {o : HO} (a : LcAt pd pc G1 H1 p G H S) (hp : H p = some o) (g : Good pd pc G' H' S') (n : Ent pd pc H G G' H') : LcAt pd pc G1 H1 p G' H' S' :=
  ⟨g, a.n.trans n, by rw [n.nw p (by rw [hp]; exact fun z => nomatch z)]; exact a.gp⟩
theorem LcAt.put {pd pc : Addr} {G1 H1 G H : Hp} {p : Addr} {S : Dk} {o : HO} (a : LcAt pd pc G1 H1 p G H S) (h1 : H1 p = none) (e1 : p ≠ pd) (e2 : p ≠ pc) : LcAt pd pc G1 H1 p G (upd H p o) S :=
  ⟨a.g.chg a.gp e1 e2, ⟨a.n.ex, fun b u e n m => by
    rw [upd_ne (ne_of_none e h1)]
    exact a.n.kp b u e n m, a.n.nw, fun b hb => by
    by_cases z : b = p
    · subst z; exact absurd h1 hb
    · rw [upd_ne z]; exact a.n.dm b hb⟩, a.gp⟩
theorem sem_lc {wi : TI} {g : TG} {is : List Nat} {tt : TT} {te : TE} {fi : FA} {tg : FG} {ft : FT} {fe : FE} {vs : List Nat} (hi : SemI K wi fi) (hg : SemG K g is tg) (ht : SemT K tt ft) (he : SemE K te fe) (hv : ∀ j ∈ is, j ∈ vs) :
    SemF K (tLc wi g tt te vs) (fLc fi tg ft fe vs) := fun pd pc H0 G H ρ σ S fo S' g0 r e Q q => by
  obtain ⟨ds, S1, e1, e2⟩ := bnd_some e
  split at e2
  · rename_i hlen
    obtain ⟨res, S2, e3, e4⟩ := bnd_some e2
    cases e4
    refine hi pd pc H0 G H ρ σ S ds S1 g0 r e1 _ fun G1 H1 J g1 n1 it => ?_
    intro p hp
    have e1' : p ≠ pd := g1.ned hp
    have e2' : p ≠ pc := g1.nec hp
    refine ⟨fun i m H' => m = ds.length - i ∧ i ≤ ds.length ∧ ∃ (G' : Hp) (Sx : Dk) (acc : List D) (av : List V), LcAt pd pc G1 H1 p G' H' Sx ∧ H' p = some (.lst av) ∧ RepL K pd G' acc av ∧ acc.length ≤ i ∧ ∃ rr, lcF vs tg ft fe (ds.drop i) ρ Sx = some (rr, S') ∧ acc ++ rr = res,
      ⟨ds.length, by simp, Nat.zero_le _, G1, S1, [], [], ⟨g1.new hp, Ent.new hp, fresh_back g1.ex hp⟩, upd_same, .nil, Nat.zero_le _, res, by simpa using e3, rfl⟩, ?_⟩
    rintro i m H' ⟨rfl, hle, G', Sx, acc, av, at', hp', ra, hal, rr, e5, e6⟩
    obtain ⟨t1, t2⟩ := it G' H' Sx at'.g at'.n.ex i
    by_cases hlt : i < ds.length
    · refine .inr ?_
      have hd : ds[i]? = some ds[i] := by simp [hlt]
      obtain ⟨k1, k2⟩ := t1 _ hd
      rw [List.drop_eq_getElem_cons hlt] at e5
      unfold lcF at e5
      obtain ⟨ρ1, e7, e8⟩ := obd_some e5
      obtain ⟨b, S3, e9, e10⟩ := bnd_some e8
      refine ⟨k1, fun H2 => ∃ m', m' = ds.length - (i + 1) ∧ i + 1 ≤ ds.length ∧ ∃ (G' : Hp) (Sx : Dk) (acc : List D) (av : List V), LcAt pd pc G1 H1 p G' H2 Sx ∧ H2 p = some (.lst av) ∧ RepL K pd G' acc av ∧ acc.length ≤ i + 1 ∧ ∃ rr, lcF vs tg ft fe (ds.drop (i + 1)) ρ Sx = some (rr, S') ∧ acc ++ rr = res, ?_, fun x H2 hy => ?_⟩
      · rintro H2 ⟨m', rfl, h1, h2⟩
        exact ⟨_, by omega, rfl, h1, h2⟩
      · obtain ⟨G2, g2, n2, rx⟩ := k2 x H2 hy
        have a2 := at'.step hp' g2 n2
        have hp2 := n2.kp p _ hp' e1' e2'
        have r2 : EnvR K pd pc H0 G2 H2 ρ σ := (r.step n1).step a2.n
        refine hg pd pc H0 G2 H2 _ _ _ x ρ1 g2.ex (r2.wipe vs) rx e7 _ fun σ3 r3 k3 l3 => ?_
        refine ⟨wipe_back hv k3 l3, ?_⟩
        refine ht pd pc H0 G2 H2 ρ1 σ3 Sx b S3 g2 r3 e9 _ fun G3 H3 g3 n3 => ?_
        have a3 := a2.step hp2 g3 n3
        have hp3 := n3.kp p _ hp2 e1' e2'
        cases b with
        | false =>
          rw [if_neg Bool.false_ne_true] at e10
          exact iteF ⟨_, rfl, hlt, G3, S3, acc, av, a3, hp3, ra.mono (n2.ex.trans n3.ex), by omega, rr, e10, e6⟩
        | true =>
          rw [if_pos rfl] at e10
          obtain ⟨y, S4, e11, e12⟩ := bnd_some e10
          obtain ⟨r5, S5, e13, e14⟩ := bnd_some e12
          cases e14
          refine iteT ?_
          refine he pd pc H0 G3 H3 ρ1 σ3 S3 y S4 g3 (r3.step n3) e11 _ fun G4 H4 v4 g4 n4 ry => ?_
          have a4 := a3.step hp3 g4 n4
          have hp4 := n4.kp p _ hp3 e1' e2'
          have ra4 := ra.mono ((n2.ex.trans n3.ex).trans n4.ex)
          refine ⟨av, hp4, sz_lt (by rw [← ra.length]; omega), _, rfl, hlt, G4, S4, acc ++ [y], av ++ [v4], a4.put hp e1' e2', upd_same, ra4.append (.cons ry .nil), by rw [List.length_append]; simp; omega, r5, e13, ?_⟩
          rw [← e6]
          simp
    · refine .inl ⟨t2 (by omega), ?_⟩
      rw [List.drop_eq_nil_of_le (by omega)] at e5
      cases e5
      rw [List.append_nil] at e6
      subst e6
      exact q G' H' p _ at'.g (n1.trans at'.n) (n1.fresh hp) at'.gp hp' ⟨av, rfl, ra⟩
  · cases e2
/-! ### a dict by a comprehension, keys ints or texts -/
def keyD : D → Option Key
  | .int i => some (.inl i)
  | .str x => some (.inr x)
  | _ => none
theorem keyD_rep {pd : Addr} {G : Hp} {d : D} {k : Key} {v : V} (h : keyD d = some k) (r : Rep K pd G d v) : v = kV k := by
  unfold keyD at h
  split at h
  · cases h; cases r; rfl
  · cases h; cases r; rfl
  · cases h
def putD (kvs : List (Key × D)) (k : Key) (d : D) : List (Key × D) :=
  if (kvs.any fun kv => decide (kv.1 = k)) = true then kvs.map (fun kv => if kv.1 = k then (kv.1, d) else kv) else kvs ++ [(k, d)]
theorem RepK.any {pd : Addr} {G : Hp} {k : Key} : ∀ {ds : List (Key × D)} {vs : List (Key × V)}, RepK K pd G ds vs → (vs.any fun kv => decide (kv.1 = k)) = (ds.any fun kv => decide (kv.1 = k))
  | _, _, .nil => rfl
  | _, _, .cons _ r => by rw [List.any_cons, List.any_cons, RepK.any r]
theorem RepK.mapS {pd : Addr} {G : Hp} {k : Key} {d : D} {v : V} (h : Rep K pd G d v) : ∀ {ds : List (Key × D)} {vs : List (Key × V)}, RepK K pd G ds vs → RepK K pd G (ds.map fun kv => if kv.1 = k then (kv.1, d) else kv) (vs.map fun kv => if kv.1 = k then (kv.1, v) else kv)
  | _, _, .nil => .nil
  | _, _, .cons (k := k') h1 r => by
    rw [List.map_cons, List.map_cons]
    by_cases e : k' = k
    · rw [if_pos e, if_pos e]; exact .cons h (RepK.mapS h r)
    · rw [if_neg e, if_neg e]; exact .cons h1 (RepK.mapS h r)
theorem RepK.app {pd : Addr} {G : Hp} {k : Key} {d : D} {v : V} (h : Rep K pd G d v) : ∀ {ds : List (Key × D)} {vs : List (Key × V)}, RepK K pd G ds vs → RepK K pd G (ds ++ [(k, d)]) (vs ++ [(k, v)])
  | _, _, .nil => .cons h .nil
  | _, _, .cons h1 r => .cons h1 (RepK.app h r)
theorem RepK.put {pd : Addr} {G : Hp} {k : Key} {d : D} {v : V} {ds : List (Key × D)} {vs : List (Key × V)} (r : RepK K pd G ds vs) (h : Rep K pd G d v) : RepK K pd G (putD ds k d) (putK vs k v) := by
  unfold putD putK
  rw [r.any]
  split
  · exact r.mapS h
  · exact r.app h
theorem RepK.length {pd : Addr} {G : Hp} : ∀ {ds : List (Key × D)} {vs : List (Key × V)}, RepK K pd G ds vs → ds.length = vs.length
  | _, _, .nil => rfl
  | _, _, .cons _ r => congrArg Nat.succ (RepK.length r)
theorem putD_len (kvs : List (Key × D)) (k : Key) (d : D) : (putD kvs k d).length ≤ kvs.length + 1 := by
  unfold putD
  split
  · rw [List.length_map]; omega
  · rw [List.length_append]; simp
def dcF (vs : List Nat) (tg : FG) (fk fv : FE) : List D → List (Key × D) → List Sl → Dk → Option (List (Key × D) × Dk)
  | [], acc, _, S => some (acc, S)
  | d :: ds, acc, ρ, S => obd (tg d (wipeR ρ vs)) fun ρ1 => bnd (fk ρ1 S) fun kd S1 => bnd (fv ρ1 S1) fun x S2 => obd (keyD kd) fun k => dcF vs tg fk fv ds (putD acc k x) ρ S2
def fDc (fi : FA) (tg : FG) (fk fv : FE) (vs : List Nat) : FF := fun ρ S => bnd (fi ρ S) fun ds S1 => if ds.length ≤ 100000 then bnd (dcF vs tg fk fv ds [] ρ S1) fun r S2 => some (.dki r, S2) else none
theorem sem_dc {wi : TI} {g : TG} {is : List Nat} {tk tv : TE} {fi : FA} {tg : FG} {fk fv : FE} {vs : List Nat} (hi : SemI K wi fi) (hg : SemG K g is tg) (hk : SemE K tk fk) (he : SemE K tv fv) (hv : ∀ j ∈ is, j ∈ vs) :
    SemF K (tDc wi g tYes tk tv vs) (fDc fi tg fk fv vs) := fun pd pc H0 G H ρ σ S fo S' g0 r e Q q => by
  obtain ⟨ds, S1, e1, e2⟩ := bnd_some e
  split at e2
  · rename_i hlen
    obtain ⟨res, S2, e3, e4⟩ := bnd_some e2
    cases e4
    refine hi pd pc H0 G H ρ σ S ds S1 g0 r e1 _ fun G1 H1 J g1 n1 it => ?_
    intro p hp
    have e1' : p ≠ pd := g1.ned hp
    have e2' : p ≠ pc := g1.nec hp
    refine ⟨fun i m H' => m = ds.length - i ∧ i ≤ ds.length ∧ ∃ (G' : Hp) (Sx : Dk) (acc : List (Key × D)) (av : List (Key × V)), LcAt pd pc G1 H1 p G' H' Sx ∧ H' p = some (.dK av) ∧ RepK K pd G' acc av ∧ acc.length ≤ i ∧ dcF vs tg fk fv (ds.drop i) acc ρ Sx = some (res, S'),
      ⟨ds.length, by simp, Nat.zero_le _, G1, S1, [], [], ⟨g1.new hp, Ent.new hp, fresh_back g1.ex hp⟩, upd_same, .nil, Nat.zero_le _, by simpa using e3⟩, ?_⟩
    rintro i m H' ⟨rfl, hle, G', Sx, acc, av, at', hp', ra, hal, e5⟩
    obtain ⟨t1, t2⟩ := it G' H' Sx at'.g at'.n.ex i
    by_cases hlt : i < ds.length
    · refine .inr ?_
      have hd : ds[i]? = some ds[i] := by simp [hlt]
      obtain ⟨k1, k2⟩ := t1 _ hd
      rw [List.drop_eq_getElem_cons hlt] at e5
      unfold dcF at e5
      obtain ⟨ρ1, e7, e8⟩ := obd_some e5
      obtain ⟨kd, S3, e9, e10⟩ := bnd_some e8
      obtain ⟨y, S4, e11, e12⟩ := bnd_some e10
      obtain ⟨k, e13, e14⟩ := obd_some e12
      refine ⟨k1, fun H2 => ∃ m', m' = ds.length - (i + 1) ∧ i + 1 ≤ ds.length ∧ ∃ (G' : Hp) (Sx : Dk) (acc : List (Key × D)) (av : List (Key × V)), LcAt pd pc G1 H1 p G' H2 Sx ∧ H2 p = some (.dK av) ∧ RepK K pd G' acc av ∧ acc.length ≤ i + 1 ∧ dcF vs tg fk fv (ds.drop (i + 1)) acc ρ Sx = some (res, S'), ?_, fun x H2 hy => ?_⟩
      · rintro H2 ⟨m', rfl, h1, h2⟩
        exact ⟨_, by omega, rfl, h1, h2⟩
      · obtain ⟨G2, g2, n2, rx⟩ := k2 x H2 hy
        have a2 := at'.step hp' g2 n2
        have hp2 := n2.kp p _ hp' e1' e2'
        have r2 : EnvR K pd pc H0 G2 H2 ρ σ := (r.step n1).step a2.n
        refine hg pd pc H0 G2 H2 _ _ _ x ρ1 g2.ex (r2.wipe vs) rx e7 _ fun σ3 r3 k3 l3 => ?_
        refine ⟨wipe_back hv k3 l3, ?_⟩
        unfold tYes
        refine iteT ?_
        refine hk pd pc H0 G2 H2 ρ1 σ3 Sx kd S3 g2 r3 e9 _ fun G3 H3 v3 g3 n3 rk => ?_
        have a3 := a2.step hp2 g3 n3
        have hp3 := n3.kp p _ hp2 e1' e2'
        refine he pd pc H0 G3 H3 ρ1 σ3 S3 y S4 g3 (r3.step n3) e11 _ fun G4 H4 v4 g4 n4 ry => ?_
        have a4 := a3.step hp3 g4 n4
        have hp4 := n4.kp p _ hp3 e1' e2'
        have ra4 := ra.mono ((n2.ex.trans n3.ex).trans n4.ex)
        refine ⟨av, k, keyD_rep e13 rk, hp4, sz_lt (by rw [← ra.length]; omega), _, rfl, hlt, G4, S4, putD acc k y, putK av k v4, a4.put hp e1' e2', upd_same, ra4.put ry, ?_, e14⟩
        have := putD_len acc k y
        omega
    · refine .inl ⟨t2 (by omega), ?_⟩
      rw [List.drop_eq_nil_of_le (by omega)] at e5
      cases e5
      exact q G' H' p _ at'.g (n1.trans at'.n) (n1.fresh hp) at'.gp hp' ⟨av, rfl, ra⟩
  · cases e2

/-! ### a def by its body -/
/-- what a body's outcome gives back -/
def outD : Option Out → Option (D × Dk)
  | some (.rt d S) => some (d, S)
  | some (.nx _ S) => some (.non, S)
  | some (.rf (.lst xs) S) => some (.lst xs, S)
  | _ => none
/-- the slots at the entry -/
def startR (n : Nat) (ds : List D) : List Sl := ds.map Sl.dat ++ List.replicate (n - ds.length) Sl.un
def runD (n k : Nat) (f : FS) : List D → Dk → Option (D × Dk) := fun ds S => if ds.length = k then outD (f (startR n ds) S) else none
theorem envR_start {pd pc : Addr} {G H : Hp} {N : List Str} {ds : List D} {vs : List V} (r : RepL K pd G ds vs) : EnvR K pd pc H G H (startR N.length ds) (L2.start N vs) := by
  have hl := r.length
  refine ⟨by unfold startR L2.start; simp [hl], fun i d hi => ?_, fun i fo hi => ?_, fun i j fo fo' a _ hi _ _ => ?_⟩
  · unfold startR at hi
    by_cases h : i < ds.length
    · rw [List.getElem?_append_left (by simpa using h), List.getElem?_map] at hi
      cases e : ds[i]? with
      | none => rw [e] at hi; cases hi
      | some d' =>
        rw [e] at hi
        cases hi
        obtain ⟨v, hv, rv⟩ := r.get e
        refine ⟨v, ?_, rv⟩
        unfold L2.start
        rw [List.getElem?_append_left (by simp; omega), List.getElem?_map, hv]
        rfl
    · rw [List.getElem?_append_right (by simpa using h), List.getElem?_replicate] at hi
      split at hi <;> cases hi
  · exfalso
    unfold startR at hi
    by_cases h : i < ds.length
    · rw [List.getElem?_append_left (by simpa using h), List.getElem?_map] at hi
      cases e : ds[i]? with
      | none => rw [e] at hi; cases hi
      | some d' => rw [e] at hi; cases hi
    · rw [List.getElem?_append_right (by simpa using h), List.getElem?_replicate] at hi
      split at hi <;> cases hi
  · exfalso
    unfold startR at hi
    by_cases h : i < ds.length
    · rw [List.getElem?_append_left (by simpa using h), List.getElem?_map] at hi
      cases e : ds[i]? with
      | none => rw [e] at hi; cases hi
      | some d' => rw [e] at hi; cases hi
    · rw [List.getElem?_append_right (by simpa using h), List.getElem?_replicate] at hi
      split at hi <;> cases hi
theorem body_sem {t : TS} {f : FS} {N : List Str} {k : Nat} (h : SemS K t f) {vs : List V} {H : Hp} {Q : VK} {E : XK} (hs : spD K k (runD N.length k f) vs H Q E) : t { nx := fun _ H' => Q .non H', rt := Q } (L2.start N vs) H := by
  obtain ⟨hn, pd, pc, G, S, ds, d, S', g, r, e, q⟩ := hs
  unfold runD at e
  split at e
  · cases eo : f (startR N.length ds) S with
    | none => rw [eo] at e; cases e
    | some out =>
      rw [eo] at e
      refine h pd pc H G G H _ _ S out g (Ent.refl G H) (envR_start r) eo _ ?_
      cases out with
      | rt d1 S1 => cases e; exact fun G' H' v g' n' rv => q G' H' v g' n' rv
      | nx ρ1 S1 => cases e; exact fun G' H' σ g' n' _ => q G' H' _ g' n' .non
      | rf fo S1 =>
        cases fo with
        | lst xs =>
          cases e
          rintro G' H' p o g' n' h1 h2 h3 ⟨vs', rfl, rr⟩
          refine q _ H' _ (g'.frz h3 (g.ned h1) (g.nec h1)) ⟨n'.ex.trans (Ex.new h2), n'.kp, fun a ha => ?_, n'.dm⟩ (.lst (SqL.of upd_same) (rr.mono (Ex.new h2)))
          rw [upd_ne]
          · exact n'.nw a ha
          · intro z; subst z; exact ha h1
        | dki ks => cases e
      | br ρ1 S1 => cases e
      | ct ρ1 S1 => cases e
  · cases e
theorem runD_len {n k : Nat} {f : FS} {ds : List D} {S : Dk} {x : D × Dk} (h : runD n k f ds S = some x) : ds.length = k := by
  unfold runD at h
  split at h
  · assumption
  · cases h
/-- THE RULE: a def keeps the promise that its body's function makes -/
theorem def_ok {P : Program} {w : World} {mg : Str → Option Value} {base : Heap} {x qual : Str} {params : Arguments} {body : List Stmt} {scope : Scope} {dvs : List V} {kws : List (Str × V)} {f : Addr} {fd : FuncData} {N ps : List Str} {k kk : Nat} {g : FS}
    (F : FunD K x qual params body scope dvs kws f fd) (Sc : FnScope N ps scope) (hk : ps.length = kk)
    (hb : ∀ (cdv : Value) (A : Around) (outer : List Env) (s : Shared) (H : Hp) (E : XK), Room k (A.deeper (envOfC qual scope s.heap.objs.size f cdv)) → ∃ t, PSs (cxOf CX0 P w K mg base N qual scope f cdv A outer s H E).nox body t ∧ SemS K t g) :
    FnOk P w K mg base CX0 (k + 1) f fd ps (spD K kk (runD N.length kk g)) := by
  refine F.ok Sc (fun vs H Q E h => by rw [hk]; exact h.1) (fun cdv A outer s H vs Q E hr h => ?_)
  obtain ⟨t, h1, h2⟩ := hb cdv A outer s H E hr
  exact ⟨t, h1.nox, body_sem h2 h⟩
end
end DL

/-! # The data layer: built-ins -/
namespace DL
open PySem L2 Evl PySem.Spec PyProof.Rows
section
variable {K : PySem.W.Frag}
/-! ### len, tuple, list -/
abbrev rLenQ (K : PySem.W.Frag) : List V → Hp → VK → Prop := fun xs H Q => ∃ p ys, xs = [.ref p] ∧ (SqL K H p ys ∨ SqT K H p ys) ∧ Q (.int ys.length) H
def bLen : List D → Option D
  | [.lst xs] => some (.int xs.length)
  | [.tup xs] => some (.int xs.length)
  | _ => none
theorem cs_len : CSem K (rLenQ K) bLen := fun pd pc G H S ds z vs g rs e Q q => by
  unfold bLen at e
  split at e
  · cases e
    obtain ⟨v, rfl, rv⟩ := rs.one
    cases rv with
    | lst h1 r1 => exact ⟨_, _, rfl, .inl (ex_l g.ex h1), q G H _ g (Ent.refl G H) (by rw [r1.length]; exact .int)⟩
  · cases e
    obtain ⟨v, rfl, rv⟩ := rs.one
    cases rv with
    | tup h1 r1 => exact ⟨_, _, rfl, .inr (ex_t g.ex h1), q G H _ g (Ent.refl G H) (by rw [r1.length]; exact .int)⟩
  · cases e
abbrev rTupQ (K : PySem.W.Frag) : List V → Hp → VK → Prop := fun xs H Q => ∃ p ys, xs = [.ref p] ∧ ((SqL K H p ys ∧ ∀ l, H l = none → Q (.ref l) (upd H l (.tup ys))) ∨ (SqT K H p ys ∧ Q (.ref p) H))
def bTup : List D → Option D
  | [.lst xs] => some (.tup xs)
  | [.tup xs] => some (.tup xs)
  | _ => none
theorem cs_tup : CSem K (rTupQ K) bTup := fun pd pc G H S ds z vs g rs e Q q => by
  unfold bTup at e
  split at e
  · cases e
    obtain ⟨v, rfl, rv⟩ := rs.one
    cases rv with
    | lst h1 r1 => exact ⟨_, _, rfl, .inl ⟨ex_l g.ex h1, fun l hl => q _ _ _ (g.newG hl) (Ent.newG g.ex hl) (.tup (SqT.of upd_same) (r1.mono (Ex.new (fresh_back g.ex hl))))⟩⟩
  · cases e
    obtain ⟨v, rfl, rv⟩ := rs.one
    cases rv with
    | tup h1 r1 => exact ⟨_, _, rfl, .inr ⟨ex_t g.ex h1, q G H _ g (Ent.refl G H) (.tup h1 r1)⟩⟩
  · cases e
abbrev rLstQ (K : PySem.W.Frag) : List V → Hp → VK → Prop := fun xs H Q => ∃ p ys, xs = [.ref p] ∧ (SqL K H p ys ∨ SqT K H p ys) ∧ ∀ l, H l = none → Q (.ref l) (upd H l (.lst ys))
def bLst : List D → Option Fo
  | [.lst xs] => some (.lst xs)
  | [.tup xs] => some (.lst xs)
  | _ => none
theorem cs_lst : CSemF K (rLstQ K) bLst := fun pd pc G H S ds z vs g rs e Q q => by
  unfold bLst at e
  split at e
  · cases e
    obtain ⟨v, rfl, rv⟩ := rs.one
    cases rv with
    | lst h1 r1 => exact ⟨_, _, rfl, .inl (ex_l g.ex h1), fun l hl => q G _ l _ (g.new hl) (Ent.new hl) hl (fresh_back g.ex hl) upd_same ⟨_, rfl, r1⟩⟩
  · cases e
    obtain ⟨v, rfl, rv⟩ := rs.one
    cases rv with
    | tup h1 r1 => exact ⟨_, _, rfl, .inr (ex_t g.ex h1), fun l hl => q G _ l _ (g.new hl) (Ent.new hl) hl (fresh_back g.ex hl) upd_same ⟨_, rfl, r1⟩⟩
  · cases e
/-! ### int, min, max -/
abbrev rInt1 : List V → Hp → VK → Prop := fun xs H Q => (∃ i, xs = [.int i] ∧ Q (.int i) H) ∨ ∃ k, xs = [.bl k] ∧ Q (.int (if k then 1 else 0)) H
def bInt : List D → Option D
  | [.int i] => some (.int i)
  | _ => none
theorem cs_int : CSem K rInt1 bInt := fun pd pc G H S ds z vs g rs e Q q => by
  unfold bInt at e
  split at e
  · cases e
    obtain ⟨v, rfl, rv⟩ := rs.one
    cases rv
    exact .inl ⟨_, rfl, q G H _ g (Ent.refl G H) .int⟩
  · cases e
abbrev rMin2' : List V → Hp → VK → Prop := fun xs H Q => ∃ i j, xs = [.int i, .int j] ∧ Q (.int (if j < i then j else i)) H
def bMin : List D → Option D
  | [.int i, .int j] => some (.int (if j < i then j else i))
  | _ => none
theorem cs_min : CSem K rMin2' bMin := fun pd pc G H S ds z vs g rs e Q q => by
  unfold bMin at e
  split at e
  · cases e
    obtain ⟨v, u, rfl, rv, ru⟩ := rs.two
    cases rv
    cases ru
    exact ⟨_, _, rfl, q G H _ g (Ent.refl G H) .int⟩
  · cases e
abbrev rMax2' : List V → Hp → VK → Prop := fun xs H Q => ∃ i j, xs = [.int i, .int j] ∧ Q (.int (if j > i then j else i)) H
def bMax : List D → Option D
  | [.int i, .int j] => some (.int (if j > i then j else i))
  | _ => none
theorem cs_max : CSem K rMax2' bMax := fun pd pc G H S ds z vs g rs e Q q => by
  unfold bMax at e
  split at e
  · cases e
    obtain ⟨v, u, rfl, rv, ru⟩ := rs.two
    cases rv
    cases ru
    exact ⟨_, _, rfl, q G H _ g (Ent.refl G H) .int⟩
  · cases e
/-! ### all, any, sum -/
def bools? : List D → Option (List Bool)
  | [] => some []
  | .bl i :: r => (bools? r).map (i :: ·)
  | _ :: _ => none
theorem bools?_some : ∀ {ds : List D} {ns : List Bool}, bools? ds = some ns → ds = ns.map D.bl
  | [], _, h => by cases h; rfl
  | .bl i :: r, ns, h => by
    unfold bools? at h
    cases e : bools? r with
    | none => rw [e] at h; cases h
    | some ms => rw [e] at h; cases h; rw [bools?_some e]; rfl
  | .non :: _, _, h => by cases h
  | .int _ :: _, _, h => by cases h
  | .str _ :: _, _, h => by cases h
  | .tup _ :: _, _, h => by cases h
  | .lst _ :: _, _, h => by cases h
  | .dck :: _, _, h => by cases h
theorem bools?_map : ∀ (ns : List Bool), bools? (ns.map D.bl) = some ns
  | [] => rfl
  | n :: ns => by show (bools? (ns.map D.bl)).map (n :: ·) = _; rw [bools?_map ns]; rfl
theorem RepL.bools_of {pd : Addr} {G : Hp} : ∀ {ns : List Bool} {vs : List V}, RepL K pd G (ns.map D.bl) vs → vs = ns.map V.bl
  | [], _, .nil => rfl
  | n :: ns, _, .cons h r => by
    cases h
    rw [RepL.bools_of r]
    rfl
def bAll : List D → Option D
  | [.lst xs] => obd (bools? xs) fun bs => some (.bl (bs.all id))
  | _ => none
def bAny : List D → Option D
  | [.lst xs] => obd (bools? xs) fun bs => some (.bl (bs.any id))
  | _ => none
def bSum : List D → Option D
  | [.lst xs] => obd (ints? xs) fun bs => some (.int bs.sum)
  | _ => none
theorem cs_all : CSem K (rAll K) bAll := fun pd pc G H S ds z vs g rs e Q q => by
  unfold bAll at e
  split at e
  · obtain ⟨bs, e1, e2⟩ := obd_some e
    cases e2
    obtain ⟨v, rfl, rv⟩ := rs.one
    cases rv with
    | lst h1 r1 =>
      rw [bools?_some e1] at r1
      rw [r1.bools_of] at h1
      exact ⟨_, bs, rfl, ex_l g.ex h1, q G H _ g (Ent.refl G H) .bl⟩
  · cases e
theorem cs_any : CSem K (rAny K) bAny := fun pd pc G H S ds z vs g rs e Q q => by
  unfold bAny at e
  split at e
  · obtain ⟨bs, e1, e2⟩ := obd_some e
    cases e2
    obtain ⟨v, rfl, rv⟩ := rs.one
    cases rv with
    | lst h1 r1 =>
      rw [bools?_some e1] at r1
      rw [r1.bools_of] at h1
      exact ⟨_, bs, rfl, ex_l g.ex h1, q G H _ g (Ent.refl G H) .bl⟩
  · cases e
theorem cs_sum : CSem K (rSum K) bSum := fun pd pc G H S ds z vs g rs e Q q => by
  unfold bSum at e
  split at e
  · obtain ⟨bs, e1, e2⟩ := obd_some e
    cases e2
    obtain ⟨v, rfl, rv⟩ := rs.one
    cases rv with
    | lst h1 r1 =>
      rw [ints?_some e1] at r1
      rw [RepL.ints_of r1] at h1
      exact ⟨_, bs, rfl, ex_l g.ex h1, q G H _ g (Ent.refl G H) .int⟩
  · cases e
/-! ### isinstance -/
def tyD : D → Option String
  | .non => some "NoneType"
  | .bl _ => some "bool"
  | .int _ => some "int"
  | .str _ => some "str"
  | .tup _ => some "tuple"
  | .lst _ => some "list"
  | .dck => none
theorem tyX_of {pd : Addr} {G H : Hp} {d : D} {v : V} {T : String} (ex : Ex G H) (r : Rep K pd G d v) (h : tyD d = some T) : TyX K H v (.type T) := by
  cases r with
  | non => cases h; exact .base .non
  | bl => cases h; exact .base (.bl _)
  | int => cases h; exact .base (.int _)
  | str => cases h; exact .base (.str _)
  | tup h1 _ =>
    cases h
    rcases h1 with (h1 | ⟨o, h1⟩) | ⟨o, its, n, h1, h2, _⟩
    · exact .base (.tup (ex _ _ h1))
    · exact .fTuple (ex _ _ h1)
    · exact .kTuple h1 h2
  | lst h1 _ =>
    cases h
    rcases h1 with (h1 | ⟨o, h1⟩) | ⟨o, its, n, h1, h2, _⟩
    · exact .base (.lst (ex _ _ h1))
    · exact .base (.frz (ex _ _ h1))
    · exact .kList h1 h2
  | dck => cases h
def fIsi (T : String) (f : FE) : FE := fun ρ S => bnd (f ρ S) fun d S1 => obd (tyD d) fun t => obd (kitB t T) fun b => some (.bl b, S1)
theorem sem_isi {T : String} {te : TE} {f : FE} (h : SemE K te f) : SemE K (tCB (rIsi K) (tCons te (tCons (tC (.ty T)) tNil))) (fIsi T f) := fun pd pc H0 G H ρ σ S d S' g0 r0 e Q q => by
  obtain ⟨x, S1, e1, e2⟩ := bnd_some e
  obtain ⟨t, e3, e4⟩ := obd_some e2
  obtain ⟨b, e5, e6⟩ := obd_some e4
  cases e6
  refine h pd pc H0 G H ρ σ S x _ g0 r0 e1 _ fun G1 H1 v g1 n1 rv => ?_
  exact ⟨v, .ty T, .type t, .type T, b, rfl, .ty T, tyX_of g1.ex rv e3, kit_ty e5, q G1 H1 _ g1 n1 .bl⟩
end
/-! ### repr of nested data -/
mutual
def pyD : D → Option PyData
  | .non => some .none
  | .bl b => some (.bool b)
  | .int i => some (.int i)
  | .str x => some (.str x)
  | .tup xs => (pyDs xs).map PyData.tuple
  | .lst xs => (pyDs xs).map PyData.list
  | .dck => none
def pyDs : List D → Option (List PyData)
  | [] => some []
  | d :: ds => obd (pyD d) fun p => (pyDs ds).map (p :: ·)
end
mutual
theorem dp_of {K : PySem.W.Frag} {pd : Addr} {G H : Hp} (ex : Ex G H) : ∀ {d : D} {v : V} {p : PyData}, Rep K pd G d v → pyD d = some p → Dp K H v p
  | _, _, _, .non, h => by cases h; exact .non
  | _, _, _, .bl, h => by cases h; exact .bl _
  | _, _, _, .int, h => by cases h; exact .int _
  | _, _, _, .str, h => by cases h; exact .str _
  | .tup ds, _, p, .tup h1 r1, h => by
    unfold pyD at h
    cases e : pyDs ds with
    | none => rw [e] at h; cases h
    | some ps => rw [e] at h; cases h; exact .tup (ex_t ex h1) (dps_of ex r1 e)
  | .lst ds, _, p, .lst h1 r1, h => by
    unfold pyD at h
    cases e : pyDs ds with
    | none => rw [e] at h; cases h
    | some ps => rw [e] at h; cases h; exact .lst (ex_l ex h1) (dps_of ex r1 e)
  | .dck, _, _, .dck, h => by cases h
theorem dps_of {K : PySem.W.Frag} {pd : Addr} {G H : Hp} (ex : Ex G H) : ∀ {ds : List D} {vs : List V} {ps : List PyData}, RepL K pd G ds vs → pyDs ds = some ps → DpAll K H vs ps
  | _, _, _, .nil, h => by cases h; exact .nil
  | d :: ds, _, _, .cons h1 r1, h => by
    unfold pyDs at h
    obtain ⟨p, e1, e2⟩ := obd_some h
    cases e : pyDs ds with
    | none => rw [e] at e2; cases e2
    | some ps => rw [e] at e2; cases e2; exact .cons (dp_of ex h1 e1) (dps_of ex r1 e)
end
/-- repr(x), x a tuple or list of data -/
def rRepr (K : PySem.W.Frag) : List V → Hp → VK → Prop := fun vs H Q => ∃ (a : Addr) (d : PyData), vs = [.ref a] ∧ Dp K H (.ref a) d ∧ d.showable = true ∧ d.hasDict = false ∧ d.depth ≤ 60 ∧ d.shown.length ≤ sizeLine ∧ Q (.str (PyData.shown d)) H
theorem cr_repr {X : Cx} {k : Nat} (hr : Room k X.A) (hh : X.A.guards = some []) : CallR X (.builtin "repr") (rRepr X.K) := by
  intro pins s σ H vs us Q I r h
  obtain ⟨a, d, rfl, hd, hs, hn, hdp, hz, q⟩ := h
  cases r with
  | cons r1 rr =>
    cases rr
    cases r1
    obtain ⟨as, hr2⟩ := Dp.reads I d _ _ hd rfl
    have hu := hr.units
    exact repr_of_reads' (h₀ := s.heap) hr2 hs (PyData.noDict_hsm hn) hh (by omega) (fun b o e => e) (fun h' u tk hk => ⟨.str d.shown, H, I.kept hk, ⟨u, rfl⟩, q⟩) hz
def reprGo (d : D) : Option D := obd (pyD d) fun p => if (p.showable && !p.hasDict && decide (p.depth ≤ 60) && decide (p.shown.length ≤ 1000000)) = true then some (.str p.shown) else none
def bRepr : List D → Option D
  | [.tup xs] => reprGo (.tup xs)
  | [.lst xs] => reprGo (.lst xs)
  | _ => none
theorem reprGo_ok {K : PySem.W.Frag} {pd pc : Addr} {G H : Hp} {S : Dk} {d z : D} {a : Addr} {Q : VK} (g : Good pd pc G H S) (rv : Rep K pd G d (.ref a)) (e : reprGo d = some z)
    (q : ∀ (G' H' : Hp) (w : V), Good pd pc G' H' S → Ent pd pc H G G' H' → Rep K pd G' z w → Q w H') : rRepr K [.ref a] H Q := by
  unfold reprGo at e
  obtain ⟨p, e1, e2⟩ := obd_some e
  split at e2
  · rename_i hc
    simp only [Bool.and_eq_true, Bool.not_eq_true', decide_eq_true_eq] at hc
    obtain ⟨⟨⟨h1, h2⟩, h3⟩, h4⟩ := hc
    cases e2
    exact ⟨_, p, rfl, dp_of g.ex rv e1, h1, h2, h3, Nat.le_trans h4 (by decide : 1000000 ≤ sizeLine), q G H _ g (Ent.refl G H) .str⟩
  · cases e2
theorem cs_repr {K : PySem.W.Frag} : CSem K (rRepr K) bRepr := fun pd pc G H S ds z vs g rs e Q q => by
  unfold bRepr at e
  split at e
  · obtain ⟨v, rfl, rv⟩ := rs.one
    cases rv with
    | tup h1 r1 => exact reprGo_ok g (.tup h1 r1) e q
  · obtain ⟨v, rfl, rv⟩ := rs.one
    cases rv with
    | lst h1 r1 => exact reprGo_ok g (.lst h1 r1) e q
  · cases e
end DL

/-! # The data layer: defs that are run where no repr goes on (so that repr of data is known), and their calls -/
namespace DL
open PySem L2 Evl PySem.Spec PyProof.Rows
/-- a def keeps a promise, called where no repr goes on; nothing leaves it by an exception -/
structure FnG (P : Program) (w : World) (K : PySem.W.Frag) (mg : Str → Option Value) (base : Heap) (k : Nat) (f : Addr) (fd : FuncData) (ps : List Str) (sp : Sp) : Prop where
  len : ∀ vs H Q, sp vs H Q E0 → vs.length = ps.length
  run : ∀ (A : Around) (outer : List Env) (s : Shared) (H : Hp) (args : Args) (us : List Value) (vs : List V) (Q : VK), A.guards = some [] → Room k A → Env0 P w K mg base A outer s H → BindsTo s fd args (ps.zip us) → Vals vs us → sp vs H Q E0 →
    codeAny (model P w) A (.call (.ref f) args) (CR CX0 outer P w H s Q E0) s
section
variable {P : Program} {w : World} {K : PySem.W.Frag} {mg : Str → Option Value} {base : Heap} {k kk : Nat} {f : Addr} {fd : FuncData} {N ps : List Str}
theorem FnG.mono {sp : Sp} {j : Nat} (F : FnG P w K mg base j f fd ps sp) (h : j ≤ k) : FnG P w K mg base k f fd ps sp :=
  ⟨F.len, fun A outer s H args us vs Q hg hr => F.run A outer s H args us vs Q hg (hr.mono h)⟩
/-- by its body -/
theorem fnG_of {x qual : Str} {params : Arguments} {body : List Stmt} {scope : Scope} {dvs : List V} {kws : List (Str × V)} {sp : Sp} (F : FunD K x qual params body scope dvs kws f fd) (Sc : FnScope N ps scope) (len : ∀ vs H Q, sp vs H Q E0 → vs.length = ps.length)
    (hb : ∀ (cdv : Value) (A : Around) (outer : List Env) (s : Shared) (H : Hp) (vs : List V) (Q : VK), A.guards = some [] → Room k (A.deeper (envOfC qual scope s.heap.objs.size f cdv)) → sp vs H Q E0 →
      ∃ t, PSs (cxOf CX0 P w K mg base N qual scope f cdv A outer s H E0).nox body t ∧ t { nx := fun _ H' => Q .non H', rt := Q } (L2.start N vs) H) : FnG P w K mg base (k + 1) f fd ps sp := by
  obtain ⟨oc, od, dV, kV, doc, pm, an, cdv, ct, osl, efd, lk, hcd, _, _⟩ := F.ex
  subst efd
  constructor
  · exact len
  · intro A outer s H args us vs Q hg hr e0 hbd r hs
    have hvl := len vs H Q hs
    have inK : K.In s.heap := e0.mod.kin.keeps (fun b o e => And.left (e0.bs b o e))
    have noLim : s.heap.NoLimit := e0.mod.nolimit.keeps (fun b o e => And.left (e0.bs b o e))
    have kinds : ∀ y ∈ ps.zip us, scope.names.lookup y.1 = some .local ∨ (scope.names.lookup y.1 = some .cell ∧ ((cellsFrom (s.heap.objs.size + 1) scope.names []).lookup y.1).isSome = true) := by
      intro y hy
      cases Sc.par y.1 (List.of_mem_zip hy).1 with
      | inl q => exact Or.inl q
      | inr q => exact Or.inr ⟨q, PySem.W.cellsFrom_some _ _ _ (Or.inl q)⟩
    have rec_ := PySem.W.codeRec_of inK hcd
    refine codeAny_call_function hr.depth (inK _ _ lk) rfl Sc.co Sc.gen rfl rec_ (hbd _ _ _ _ ?_)
    apply wpAny_newFunctionEnv_cells Sc.kind kinds
    intro env he s1 ic
    subst he
    refine ⟨noLim.keeps ic.toInCall.keep, codeAny_func ?_⟩
    obtain ⟨t, ht, hq⟩ := hb cdv A outer s H vs Q hg (hr.deeper _) hs
    have I0 := inv_start (CX := CX0) (E := E0) (P := P) (w := w) (mg := mg) (base := base) (cd := cdv) (qual := qual) (f := f) Sc hr.hd e0 hvl r ic
    have go := (ht.nox).run [] s1 (L2.start N vs) H _ I0 hq
    refine wpAny_mono go (fun fl s' hs' => ?_) (fun e s' z => z)
    cases fl with
    | ret u =>
      obtain ⟨v, σ', H', J, rv, q⟩ := hs'
      exact ⟨v, H', J.os, J.bare, J.base, J.hok, rv, q⟩
    | next =>
      obtain ⟨σ', H', J, q⟩ := hs'
      exact ⟨V.non, H', J.os, J.bare, J.base, J.hok, rfl, q⟩
    | brk =>
      obtain ⟨_, _, _, q⟩ := hs'
      exact q.elim
    | cont =>
      obtain ⟨_, _, _, q⟩ := hs'
      exact q.elim
/-- by its body over data -/
theorem defG {x qual : Str} {params : Arguments} {body : List Stmt} {scope : Scope} {dvs : List V} {kws : List (Str × V)} {g : FS} (F : FunD K x qual params body scope dvs kws f fd) (Sc : FnScope N ps scope) (hk : ps.length = kk)
    (hb : ∀ (cdv : Value) (A : Around) (outer : List Env) (s : Shared) (H : Hp), A.guards = some [] → Room k (A.deeper (envOfC qual scope s.heap.objs.size f cdv)) →
      ∃ t, PSs (cxOf CX0 P w K mg base N qual scope f cdv A outer s H E0).nox body t ∧ SemS K t g) : FnG P w K mg base (k + 1) f fd ps (spD K kk (runD N.length kk g)) := by
  refine fnG_of F Sc (fun vs H Q h => by rw [hk]; exact h.1) (fun cdv A outer s H vs Q hg hr h => ?_)
  obtain ⟨t, h1, h2⟩ := hb cdv A outer s H hg hr
  exact ⟨t, h1, body_sem h2 h⟩
/-- the promise by another function that agrees with it where it answers -/
theorem FnG.imp {F F' : List D → Dk → Option (D × Dk)} {n : Nat} (h : FnG P w K mg base k f fd ps (spD K n F)) (e : ∀ ds S x, F' ds S = some x → F ds S = some x) : FnG P w K mg base k f fd ps (spD K n F') := by
  have c : ∀ vs H Q, spD K n F' vs H Q E0 → spD K n F vs H Q E0 := fun vs H Q ⟨h1, pd, pc, G, S, ds, d, S', g, r, ef, q⟩ => ⟨h1, pd, pc, G, S, ds, d, S', g, r, e _ _ _ ef, q⟩
  exact ⟨fun vs H Q hs => h.len vs H Q (c _ _ _ hs), fun A outer s H args us vs Q hg hr he hb hv hs => h.run A outer s H args us vs Q hg hr he hb hv (c _ _ _ hs)⟩
end
section
variable {X : Cx} {k : Nat} {f : Addr} {fd : FuncData} {ps : List Str} {sp : Sp} {x : Str} {p pos : Pos} {e : Expr} {es : List Expr} {t : TA}
theorem runG {pins : List (Addr × Obj)} {σ : L2.St} {H : Hp} {s : Shared} {Q : VK} {vals : List Value} {kv : List (Str × Value)} {us : List Value} {vs : List V} (F : FnG X.prog X.w X.K X.mg X.base k f fd ps sp) (hg : X.A.guards = some []) (hr : Room k X.A) (I : Inv X pins σ H s)
    (hb : BindsTo s fd ⟨vals, kv⟩ (ps.zip us)) (r : Vals vs us) (h : sp vs H Q E0) : wpAny (model X.prog X.w) X.A (call (.ref f) vals kv) (EP X pins σ Q) X.xe s := by
  apply wpAny_call
  refine codeAny_mono (F.run X.A X.stack s H ⟨vals, kv⟩ us vs Q hg hr I.env0 hb r h) ?_
  intro res s' hq
  match res, hq with
  | .error e, z => exact z.elim
  | .ok (.ret u), z => exact I.after z
  | .ok .next, z => exact z.elim
  | .ok .brk, z => exact z.elim
  | .ok .cont, z => exact z.elim
/-- f(e, ..) -/
theorem pe_callG (F : FnG X.prog X.w X.K X.mg X.base k f fd ps sp) (hg : X.A.guards = some []) (hr : Room k X.A) (gl : Gl X x) (hm : X.mg x = some (.ref f)) (kp : PySem.W.keepIn X.K (.ref f) = true) (hb : Binds X.K fd ps []) (ha : PA X (e :: es) t)
    (hdb : (x == ("__debug__" : Str)) = false := by decide) (he : starEach (e :: es) X.env = (false, eval e X.env) :: starEach es X.env := by rfl) (hpl : (backTo pos (starEach es X.env)).any (·.1) = false := by rfl) :
    PE X (.Call (.Name x p) (e :: es) [] pos) (tCall sp [] E0 t) := by
  constructor
  intro pins s σ H Q I h
  apply wpAny_Call_Name_kw
  apply ld_glob I gl hm _ hdb
  refine PySem.W.callWith_K (h₀ := X.base) I.ok.mod.kin kp ?_ he hpl
  refine thn (ha.run pos pins s σ H _ I h) ?_
  rintro us s1 ⟨vs, H1, I1, r, q⟩
  have q' : sp (vs ++ []) H1 Q E0 := q
  rw [List.append_nil] at q'
  have hl : us.length = ps.length := by rw [← r.length]; exact F.len _ _ _ q'
  have hbd := hb s1 us I1.kIn (by rw [List.append_nil]; exact hl)
  rw [List.append_nil] at hbd
  exact ⟨I1.kIn, runG F hg hr I1 hbd r q'⟩
/-- f(k = v, ..): keywords alone; ks names them, g puts their values in the parameters' order -/
def tCallKw (sp : Sp) (g : List V → List V) (t : TA) : TE := fun σ H Q => t σ H fun zs H1 => sp (g zs) H1 Q E0
structure KwB (K : PySem.W.Frag) (fd : FuncData) (ps ks : List Str) (g : List Value → List Value) (gV : List V → List V) : Prop where
  to : ∀ (s : Shared) (ws : List Value), ws.length = ks.length → BindsTo s fd ⟨[], ks.zip ws⟩ (ps.zip (g ws))
  rel : ∀ {zs : List V} {ws : List Value}, Vals zs ws → Vals (gV zs) (g ws)
  lenV : ∀ zs : List V, (gV zs).length = ps.length → zs.length = ks.length
theorem pe_callKw {ks : List Str} {kws : List Keyword} {g : List Value → List Value} {gV : List V → List V} (F : FnG X.prog X.w X.K X.mg X.base k f fd ps sp) (hg : X.A.guards = some []) (hr : Room k X.A) (gl : Gl X x) (hm : X.mg x = some (.ref f)) (kp : PySem.W.keepIn X.K (.ref f) = true) (hb : KwB X.K fd ps ks g gV) (hkw : PK X kws t)
    (hall : (backToKw pos (keywordEach kws X.env)).all (·.1.isSome) = true := by rfl) (hks : (backToKw pos (keywordEach kws X.env)).filterMap (·.1) = ks := by rfl) (hdb : (x == ("__debug__" : Str)) = false := by decide)
    (hpl : ((backTo pos (starEach [] X.env)).any (·.1) || (backToKw pos (keywordEach kws X.env)).any (·.1.isNone)) = false := by rfl) :
    PE X (.Call (.Name x p) [] kws pos) (tCallKw sp gV t) := by
  constructor
  intro pins s σ H Q I h
  apply wpAny_Call_Name_kw
  apply ld_glob I gl hm _ hdb
  refine PySem.W.callWith_KW0 (h₀ := X.base) I.ok.mod.kin kp hall ?_ hpl
  refine thn (hkw.run pos pins s σ H _ I h) ?_
  rintro ws s1 ⟨zs, H1, I1, r, q⟩
  refine ⟨I1.kIn, ?_⟩
  rw [hks]
  have hl : ws.length = ks.length := by rw [← r.length]; exact hb.lenV _ (F.len _ _ _ q)
  exact runG (vals := []) F hg hr I1 (hb.to s1 ws hl) (hb.rel r) q
end
section
variable {K : PySem.W.Frag}
def fCallKw (F : List D → Dk → Option (D × Dk)) (gD : List D → List D) (f : FA) : FE := fun ρ S => bnd (f ρ S) fun ds S1 => F (gD ds) S1
/-- what the data layer asks of an order of keywords -/
def OrdOk (gV : List V → List V) (gD : List D → List D) : Prop := ∀ (K : PySem.W.Frag) (pd : Addr) (G : Hp) (ds : List D) (vs : List V), RepL K pd G ds vs → RepL K pd G (gD ds) (gV vs)
theorem sem_callKw {n : Nat} {F : List D → Dk → Option (D × Dk)} {ta : TA} {f : FA} {gV : List V → List V} {gD : List D → List D} (h : SemA K ta f) (hn : ∀ ds S x, F ds S = some x → ds.length = n) (ho : OrdOk gV gD) : SemE K (tCallKw (spD K n F) gV ta) (fCallKw F gD f) := fun pd pc H0 G H ρ σ S d S' g0 r0 e Q q => by
  obtain ⟨ds, S1, e1, e2⟩ := bnd_some e
  refine h pd pc H0 G H ρ σ S ds S1 g0 r0 e1 _ fun G1 H1 vs g1 n1 rs => ?_
  have rs' := ho K pd G1 ds vs rs
  exact ⟨by rw [← rs'.length]; exact hn _ _ _ e2, pd, pc, G1, S1, gD ds, d, S', g1, rs', e2, fun G2 H2 v g2 n2 r2 => q G2 H2 v g2 (n1.trans n2) r2⟩
end
/-! ### the law's own end -/
/-- an abstract heap that tracks the script at most -/
structure ScriptOnly (P : Program) (w : World) (K : PySem.W.Frag) (h : Heap) (a : Addr) (ns : List Int) (H : Hp) : Prop where
  only : Only H
  seq : SqL K H a (ns.map V.int)
  ok : HOk P w H h
  at_ : ∀ b, H b ≠ none → b = a
  off : H a ≠ none → K.lookup a = none
theorem scriptOnly {P : Program} {w : World} {K : PySem.W.Frag} {h : Heap} {a : Addr} {vs : List Value} {ns : List Int} (KX : K.In h) (ha : h.get? a = some { cls := .type "list", data := .seq vs.toArray }) (hi : IntsAre vs ns) (hl : ns.length ≤ sizeLine) : ∃ H, ScriptOnly P w K h a ns H := by
  have rv := vals_ints hi
  have hlen : vs.length = ns.length := hi.length
  by_cases hk : ∃ o, K.lookup a = some o
  · obtain ⟨o, hk⟩ := hk
    have e := KX a o hk
    have eo : o = { cls := .type "list", data := .seq vs.toArray } := by rw [ha] at e; exact (Option.some.inj e).symm
    subst eo
    refine ⟨fun _ => none, ⟨fun b => Or.inl rfl, Or.inr ⟨_, vs.toArray, _, hk, rfl, rfl, rfl, ?_, ?_⟩, (fun b u z => nomatch z), fun b z => absurd rfl z, fun z => absurd rfl z⟩⟩
    · rw [List.size_toArray, hlen]; exact hl
    · simpa using rv
  · refine ⟨fun b => if b = a then some (.frz { cls := .type "list", data := .seq vs.toArray } (.lst (ns.map V.int))) else none, ⟨fun b => ?_, Or.inl (Or.inr ⟨_, if_pos rfl⟩), fun b u z => ?_, fun b z => ?_, fun _ => ?_⟩⟩
    · by_cases e : b = a
      · exact Or.inr ⟨_, _, if_pos e⟩
      · exact Or.inl (if_neg e)
    · by_cases e : b = a
      · subst e
        have z' : some (HO.frz { cls := .type "list", data := .seq vs.toArray } (.lst (ns.map V.int))) = some u := by rw [← z]; exact (if_pos rfl).symm
        cases z'
        exact ⟨ha, by rw [List.length_map]; exact hl, vs, _, rv, ha⟩
      · have z' : (none : Option HO) = some u := by rw [← z]; exact (if_neg e).symm
        cases z'
    · by_cases e : b = a
      · exact e
      · exact absurd (if_neg e) z
    · cases e : K.lookup a with
      | none => rfl
      | some o => exact absurd ⟨o, e⟩ hk
/-- the law is called where nothing but its script is tracked -/
theorem law_end {P : Program} {w : World} {K : PySem.W.Frag} {mg mb : Str → Option Value} {k : Nat} {fa a : Addr} {fd : FuncData} {x : Str} {sp : Sp} {s₁ : Shared} {vs : List Value} {ns : List Int}
    (KX : K.In s₁.heap) (hns : s₁.heap.Ns mainGlobals mg) (hb : s₁.heap.Ns builtinsNs mb) (hbb : ∀ x : Str, x ≠ "__name__" → mb x = bootBuiltins x) (hlim : s₁.heap.NoLimit) (hg : s₁.gens = #[])
    (ha : s₁.heap.get? a = some { cls := .type "list", data := .seq vs.toArray }) (hi : IntsAre vs ns) (hl : ns.length ≤ sizeLine) (hr : Room k callerA)
    (F : ∀ base : Heap, K.In base → base.Ns mainGlobals mg → FnG P w K mg base k fa fd [x] sp) (hbind : ∀ (s : Shared) (u : Value), BindsTo s fd ⟨[u], []⟩ [(x, u)])
    (hsp : ∀ H : Hp, Only H → SqL K H a (ns.map V.int) → sp [.ref a] H (fun v _ => v = .bl true) E0) :
    codeAny (model P w) callerA (.call (.ref fa) ⟨[.ref a], []⟩) (fun r s' => r = .ok (.ret (.bool true)) ∧ OldK s₁.heap s'.heap ∧ s'.os = s₁.os ∧ AllBare s'.gens) s₁ := by
  obtain ⟨H, W⟩ := scriptOnly (P := P) (w := w) KX ha hi hl
  have free : ∀ {b : Addr} {o : Obj}, s₁.heap.get? b = some o → (∀ (es : Array Value) (n : Nat), o.data ≠ .seq es n) → H b = none := by
    intro b o e d
    cases q : H b with
    | none => rfl
    | some u =>
      have eb := W.at_ b (by rw [q]; exact fun z => nomatch z)
      rw [eb, ha] at e
      cases e
      exact absurd rfl (d _ _)
  have nsB : ∀ {b : Addr} {m : Str → Option Value}, s₁.heap.Ns b m → (hidT s₁.heap H).Ns b m := by
    rintro b m ⟨o, es, ep, e, d, r⟩
    exact ⟨o, es, ep, hidT_get e (free e (fun es n z => by rw [d] at z; cases z)), d, r⟩
  have inB : K.In (hidT s₁.heap H) := by
    intro b o e
    refine hidT_get (KX b o e) ?_
    cases q : H b with
    | none => rfl
    | some u =>
      have eb := W.at_ b (by rw [q]; exact fun z => nomatch z)
      rw [eb] at e q
      rw [W.off (by rw [q]; exact fun z => nomatch z)] at e
      cases e
  obtain ⟨mc, l1, l2⟩ := hlim
  have md : Mod K mg (hidT s₁.heap H) := ⟨inB, nsB hns, ⟨mb, nsB hb, hbb⟩, ⟨mc, nsB l1, l2⟩⟩
  have e0 : Env0 P w K mg (hidT s₁.heap H) callerA [] s₁ H := ⟨rfl, md, fun b o e => of_hidT e, Nat.le_of_eq (hidT_size _ _), trivial, fun b z => absurd (show b ∈ ([] : List Addr) from z) (by simp), W.ok, .of_eq hg⟩
  refine codeAny_mono ((F _ inB (nsB hns)).run callerA [] s₁ H ⟨[.ref a], []⟩ [.ref a] [.ref a] (fun v _ => v = .bl true) rfl hr e0 (hbind s₁ (.ref a)) (.cons rfl .nil) (hsp H W.only W.seq)) ?_
  intro r s' z
  match r, z with
  | .error e, z => exact z.elim
  | .ok .next, z => exact z.elim
  | .ok .brk, z => exact z.elim
  | .ok .cont, z => exact z.elim
  | .ok (.ret u), ⟨v, H', os, bare, un, hok', r', q⟩ =>
    have q' : v = .bl true := q
    subst q'
    have eu : u = Value.bool true := r'
    subst eu
    refine ⟨rfl, OldK.of_keep fun b o e => ?_, os, bare⟩
    cases q : H b with
    | none => exact un.keep b o e q (by intro z; exact absurd (show b ∈ ([] : List Addr) from z) (by simp)) (by simp)
    | some u =>
      rcases W.only b with z | ⟨ob, xs, z⟩
      · rw [q] at z; cases z
      · have h1 := (W.ok b _ z).1
        have h2 := (hok' b _ (un.frzs b ob _ z)).1
        rw [e] at h1
        cases h1
        exact h2
/-- .. over a head by facts -/
theorem walk_ofG {l : PySem.W.OpenLaw} {n k : Nat} {q : Program} {loose : List Str} {XP : (Str → Option Value) → Heap → Prop} {YP : World → Heap → Prop} {d : DefRec} {x : Str}
    (hn : l.most = some n) (hn2 : n ≤ sizeLine) (hdf : d.params.defaults = []) (hr : Room k callerA)
    (F : ∀ (w : World) (mg : Str → Option Value) (fa : Addr) (h : Heap), YP w h → h.Ns mainGlobals mg → mg d.name = some (.ref fa) →
      ∃ (K : PySem.W.Frag) (fd : FuncData) (sp : Sp), K.In h ∧ (∀ (s : Shared) (u : Value), BindsTo s fd ⟨[u], []⟩ [(x, u)]) ∧
        (∀ (H : Hp) (a : Addr) (ns : List Int), ns.length ≤ n → Only H → SqL K H a (ns.map V.int) → (∃ vs : List Value, IntsAre vs ns) → sp [.ref a] H (fun v _ => v = .bl true) E0) ∧
        ∀ base : Heap, K.In base → base.Ns mainGlobals mg → FnG l.prog w K mg base k fa fd [x] sp) :
    PySem.W.WalkO q loose XP YP l.row.toRowW d [] (fun f vs => PySem.call f vs) := by
  refine Att.attach_call hn hdf fun w s₀ s₁ mg mb fa o pm cd doc a vs ns G Y ho hd hcd hmg hobj hints hlen hg => ?_
  obtain ⟨K, fd, sp, KX, hb, hsp, hF⟩ := F w mg fa _ Y G.T.g hmg
  exact law_end KX G.T.g G.T.b G.T.builtins G.T.nolimit hg hobj hints (Nat.le_trans hlen hn2) hr hF hb (fun H hO hS => hsp H a ns hlen hO hS ⟨vs, hints⟩)
end DL

/-! # The data layer: the deck, further operators -/
namespace DL
open PySem L2 Evl PySem.Spec PyProof.Rows
section
variable {K : PySem.W.Frag}
/-! ### operators by kind -/
abbrev rAddX (K : PySem.W.Frag) : R2 := fun x y H Q => (fun x y H Q => ∃ i j, x = V.int i ∧ y = V.int j ∧ Q (V.int (i + j)) H) x y H Q ∨ rCatA K x y H Q
def oAddX : D → D → Option D
  | .int i, .int j => some (.int (i + j))
  | .tup xs, .tup ys => if xs.length + ys.length ≤ 100000 then some (.tup (xs ++ ys)) else none
  | _, _ => none
theorem op_addX {X : Cx} : OpR X (binaryOp .Add) (rAddX X.K) := OpR.or op_add op_catA
theorem os_addX : OpSem K (rAddX K) oAddX := fun pd pc G H S x y z v u g0 rx ry e Q q => by
  unfold oAddX at e
  split at e
  · exact .inl (os_add pd pc G H S _ _ z v u g0 rx ry (by rw [← e]; rfl) Q q)
  · exact .inr (os_cat pd pc G H S _ _ z v u g0 rx ry (by rw [← e]; rfl) Q q)
  · cases e
abbrev rLtX (K : PySem.W.Frag) : R2 := fun x y H Q => (fun x y H Q => ∃ i j, x = V.int i ∧ y = V.int j ∧ Q (V.bl (decide (i < j))) H) x y H Q ∨ rLtT K x y H Q
def oLtX : D → D → Option D
  | .int i, .int j => some (.bl (decide (i < j)))
  | .tup xs, .tup ys => oLtT (.tup xs) (.tup ys)
  | _, _ => none
theorem op_ltX {X : Cx} (hu : X.A.units < cLine) : OpR X (compareOp .Lt) (rLtX X.K) := OpR.or op_lt (op_ltT hu)
theorem os_ltX : OpSem K (rLtX K) oLtX := fun pd pc G H S x y z v u g0 rx ry e Q q => by
  unfold oLtX at e
  split at e
  · exact .inl (os_lt pd pc G H S _ _ z v u g0 rx ry (by rw [← e]; rfl) Q q)
  · exact .inr (os_ltT pd pc G H S _ _ z v u g0 rx ry e Q q)
  · cases e
abbrev rIxX (K : PySem.W.Frag) : R2 := fun x y H Q => rIxL K x y H Q ∨ rIxT K x y H Q
def oIx : D → D → Option D
  | .lst xs, .int i => atI xs i
  | .tup xs, .int i => atI xs i
  | _, _ => none
theorem ix_x {X : Cx} : IxR X (rIxX X.K) := ix_list.or ix_tup
theorem os_ix : OpSem K (rIxX K) oIx := fun pd pc G H S x y z v u g0 rx ry e Q q => by
  unfold oIx at e
  split at e
  · exact .inl (os_ixL pd pc G H S _ _ z v u g0 rx ry (by rw [← e]; rfl) Q q)
  · exact .inr (os_ixT pd pc G H S _ _ z v u g0 rx ry (by rw [← e]; rfl) Q q)
  · cases e
def oDivW : D → D → Option D := gIc (fun _ j => decide (0 < j ∧ j.natAbs.log2 < 9000)) fun i j => .int (i / j)
theorem os_divW : OpSem K (rI CDivW fun i j => .int (i / j)) oDivW := osIc (fun _ j h => (of_decide_eq_true h : 0 < j ∧ j.natAbs.log2 < 9000)) fun _ _ _ _ _ => .int
/-! ### a, b = x, y -/
def fPar (i j : Nat) (f : FA) : FS := fun ρ S => bnd (f ρ S) fun ds S1 => match ds with
  | [x, y] => some (.nx ((ρ.set i (.dat x)).set j (.dat y)) S1)
  | _ => none
theorem sem_par {i j : Nat} {ta : TA} {f : FA} (h : SemA K ta f) : SemS K (tPar i j ta) (fPar i j f) := fun pd pc H0 G0 G H ρ σ S out g0 n r e Dn q => by
  obtain ⟨ds, S1, e1, e2⟩ := bnd_some e
  split at e2
  · cases e2
    refine h pd pc H0 G H ρ σ S _ _ g0 r e1 _ fun G1 H1 vs g1 n1 rs => ?_
    obtain ⟨v, u, rfl, rv, ru⟩ := rs.two
    exact ⟨v, u, rfl, q G1 H1 _ g1 (n.trans n1) (((r.step n1).setD rv i).setD ru j)⟩
  · cases e2
/-! ### the deck -/
def kCells : Key := .inr "cells"
def kMixed : Key := .inr "mixed"
def kDraws : Key := .inr "draws"
theorem kne1 : ¬ kCells = kMixed := by decide +kernel
theorem kne2 : ¬ kCells = kDraws := by decide +kernel
theorem kne3 : ¬ kMixed = kDraws := by decide +kernel
def dkV (pc : Addr) (S : Dk) : List (Key × V) := [(.inr "cells", .ref pc), (.inr "mixed", .int S.mixed), (.inr "draws", .int S.draws)]
theorem dk_cells (pc : Addr) (S : Dk) : valV (dkV pc S) (.inr "cells") = some (.ref pc) := valV_pos rfl
theorem dk_mixed (pc : Addr) (S : Dk) : valV (dkV pc S) kMixed = some (.int S.mixed) :=
  (valV_neg (p := (kCells, V.ref pc)) kne1).trans (valV_pos rfl)
theorem dk_draws (pc : Addr) (S : Dk) : valV (dkV pc S) kDraws = some (.int S.draws) :=
  (valV_neg (p := (kCells, V.ref pc)) kne2).trans ((valV_neg (p := (kMixed, V.int S.mixed)) kne3).trans (valV_pos rfl))
theorem dk_put (pc : Addr) (S : Dk) (n : Int) : putK (dkV pc S) kDraws (.int n) = dkV pc { S with draws := n } := by
  have h : ((dkV pc S).any fun kv => decide (kv.1 = kDraws)) = true := by
    show (decide (kCells = kDraws) || (decide (kMixed = kDraws) || (decide (kDraws = kDraws) || false))) = true
    simp
  unfold putK
  rw [if_pos h]
  show [if kCells = kDraws then (kCells, V.int n) else (kCells, V.ref pc), if kMixed = kDraws then (kMixed, V.int n) else (kMixed, V.int S.mixed), if kDraws = kDraws then (kDraws, V.int n) else (kDraws, V.int S.draws)] = _
  rw [if_neg kne2, if_neg kne3, if_pos rfl]
  rfl
/-- deck["mixed"], deck["draws"] -/
def fMixed (i : Nat) : FE := fun ρ S => match ρ[i]? with
  | some (.dat .dck) => some (.int S.mixed, S)
  | _ => none
def fDraws (i : Nat) : FE := fun ρ S => match ρ[i]? with
  | some (.dat .dck) => some (.int S.draws, S)
  | _ => none
theorem sem_mixed (i : Nat) : SemE K (tDGet (tVar i) (tC (.str "mixed"))) (fMixed i) := fun pd pc H0 G H ρ σ S d S' g r e Q q => by
  unfold fMixed at e
  split at e
  · rename_i h
    cases e
    obtain ⟨v, h1, h2⟩ := r.dat i _ h
    cases h2
    exact ⟨_, h1, pd, .int S.mixed, rfl, .inl ⟨dkV pc S, .inr "mixed", .inl g.dk, rfl, (dk_mixed pc S).symm⟩, q G H _ g (Ent.refl G H) .int⟩
  · cases e
theorem sem_draws (i : Nat) : SemE K (tDGet (tVar i) (tC (.str "draws"))) (fDraws i) := fun pd pc H0 G H ρ σ S d S' g r e Q q => by
  unfold fDraws at e
  split at e
  · rename_i h
    cases e
    obtain ⟨v, h1, h2⟩ := r.dat i _ h
    cases h2
    exact ⟨_, h1, pd, .int S.draws, rfl, .inl ⟨dkV pc S, .inr "draws", .inl g.dk, rfl, (dk_draws pc S).symm⟩, q G H _ g (Ent.refl G H) .int⟩
  · cases e
theorem Good.deck {pd pc : Addr} {G H : Hp} {S S' : Dk} (g : Good pd pc G H S) (e : S'.cells = S.cells) : Good pd pc G (upd H pd (.dK (dkV pc S'))) S' :=
  ⟨g.ex.mut g.nd, g.nd, g.nc, upd_same, by rw [upd_ne g.nepc.symm, e]; exact g.ck⟩
theorem Good.cell {pd pc : Addr} {G H : Hp} {S : Dk} (g : Good pd pc G H S) (cs : List Int) : Good pd pc G (upd H pc (.lst (cs.map V.int))) { S with cells := cs } :=
  ⟨g.ex.mut g.nc, g.nd, g.nc, by rw [upd_ne g.nepc]; exact g.dk, upd_same⟩
theorem Ent.deck {pd pc : Addr} {G H : Hp} {o : HO} (h : H pd ≠ none) : Ent pd pc H G G (upd H pd o) :=
  ⟨Ex.refl G, fun a u e n _ => by rw [upd_ne n]; exact e, fun _ _ => rfl, fun a ha => by
    by_cases z : a = pd
    · subst z; rw [upd_same]; exact fun z => nomatch z
    · rw [upd_ne z]; exact ha⟩
theorem Ent.cell {pd pc : Addr} {G H : Hp} {o : HO} (h : H pc ≠ none) : Ent pd pc H G G (upd H pc o) :=
  ⟨Ex.refl G, fun a u e _ n => by rw [upd_ne n]; exact e, fun _ _ => rfl, fun a ha => by
    by_cases z : a = pc
    · subst z; rw [upd_same]; exact fun z => nomatch z
    · rw [upd_ne z]; exact ha⟩
/-- deck["draws"] = e -/
def fPutDraws (i : Nat) (f : FE) : FS := fun ρ S => bnd (f ρ S) fun d S1 => match ρ[i]?, d with
  | some (.dat .dck), .int n => some (.nx ρ { S1 with draws := n })
  | _, _ => none
theorem sem_putDraws {te : TE} {f : FE} (i : Nat) (h : SemE K te f) : SemS K (sDPut (tVar i) (tC (.str "draws")) te) (fPutDraws i f) := fun pd pc H0 G0 G H ρ σ S out g0 n r e Dn q => by
  obtain ⟨d, S1, e1, e2⟩ := bnd_some e
  split at e2
  · rename_i hi
    cases e2
    refine h pd pc H0 G H ρ σ S _ S1 g0 r e1 _ fun G1 H1 v g1 n1 rv => ?_
    cases rv
    rename_i nn
    have r1 := r.step n1
    obtain ⟨v, h1, h2⟩ := r1.dat i _ hi
    cases h2
    have hn : H1 pd ≠ none := by rw [g1.dk]; exact fun z => nomatch z
    refine ⟨_, h1, pd, upd H1 pd (.dK (dkV pc { S1 with draws := nn })), rfl, .inl ⟨dkV pc S1, .inr "draws", g1.dk, rfl, by show 3 < sizeLine; decide, congrArg (fun z => upd H1 pd (HO.dK z)) (dk_put pc S1 nn).symm⟩, ?_⟩
    exact q G1 _ σ (g1.deck rfl) ((n.trans n1).trans (Ent.deck hn)) (r1.step (Ent.deck hn))
  · cases e2
/-- deck["cells"].pop() -/
def fPop (i : Nat) : FE := fun ρ S => match ρ[i]? with
  | some (.dat .dck) => match S.cells.getLast? with
    | some n => some (.int n, { S with cells := S.cells.dropLast })
    | none => none
  | _ => none
theorem sem_pop (i : Nat) : SemE K (tBM0 K "list" rPop (tDGet (tVar i) (tC (.str "cells")))) (fPop i) := fun pd pc H0 G H ρ σ S d S' g r e Q q => by
  unfold fPop at e
  split at e
  · rename_i h
    split at e
    · rename_i n hn
      cases e
      obtain ⟨v, h1, h2⟩ := r.dat i _ h
      cases h2
      have hne : H pc ≠ none := by rw [g.ck]; exact fun z => nomatch z
      refine ⟨_, h1, pd, .ref pc, rfl, .inl ⟨dkV pc S, .inr "cells", .inl g.dk, rfl, (dk_cells pc S).symm⟩, .inl ⟨rfl, _, sq_of g.ck⟩, pc, S.cells.map V.int, .int n, rfl, rfl, g.ck, ?_, ?_⟩
      · rw [List.length_map, List.getElem?_map]
        rw [List.getLast?_eq_getElem?] at hn
        rw [hn]
        rfl
      · have e : (S.cells.map V.int).dropLast = S.cells.dropLast.map V.int := by rw [List.map_dropLast]
        rw [e]
        exact q G _ _ (g.cell _) (Ent.cell hne) .int
    · cases e
  · cases e
/-- deck["cells"].append(e) -/
def fPush (i : Nat) (f : FE) : FS := fun ρ S => match ρ[i]? with
  | some (.dat .dck) => bnd (f ρ S) fun d S1 => match d with
    | .int n => if S1.cells.length < 100000 then some (.nx ρ { S1 with cells := S1.cells ++ [n] }) else none
    | _ => none
  | _ => none
theorem sem_push {te : TE} {f : FE} (i : Nat) (h : SemE K te f) : SemS K (tDrop (tBM K "list" rAppend (tDGet (tVar i) (tC (.str "cells"))) (tCons te tNil))) (fPush i f) := fun pd pc H0 G0 G H ρ σ S out g0 n r e Dn q => by
  unfold fPush at e
  split at e
  · rename_i hi
    obtain ⟨d, S1, e1, e2⟩ := bnd_some e
    split at e2
    · rename_i nn
      split at e2
      · rename_i hl
        cases e2
        obtain ⟨v, h1, h2⟩ := r.dat i _ hi
        cases h2
        refine ⟨_, h1, pd, .ref pc, rfl, .inl ⟨dkV pc S, .inr "cells", .inl g0.dk, rfl, (dk_cells pc S).symm⟩, .inl ⟨rfl, _, sq_of g0.ck⟩, ?_⟩
        refine h pd pc H0 G H ρ σ S _ S1 g0 r e1 _ fun G1 H1 v g1 n1 rv => ?_
        cases rv
        have hne : H1 pc ≠ none := by rw [g1.ck]; exact fun z => nomatch z
        refine ⟨pc, S1.cells.map V.int, .int nn, rfl, rfl, g1.ck, sz_lt (by rw [List.length_map]; exact hl), ?_⟩
        have e : S1.cells.map V.int ++ [V.int nn] = (S1.cells ++ [nn]).map V.int := by simp
        rw [e]
        exact q G1 _ σ (g1.cell _) ((n.trans n1).trans (Ent.cell hne)) ((r.step n1).step (Ent.cell hne))
      · cases e2
    · cases e2
  · cases e
/-- deck["cells"] != [] -/
def fSome (i : Nat) : FT := fun ρ S => match ρ[i]? with
  | some (.dat .dck) => some (!S.cells.isEmpty, S)
  | _ => none
theorem dpAll_ints {H : Hp} : ∀ (ns : List Int), DpAll K H (ns.map V.int) (ns.map PyData.int)
  | [] => .nil
  | n :: ns => .cons (.int n) (dpAll_ints ns)
theorem canLay_ints : ∀ (ns : List Int), PyData.canLayAll0 (ns.map PyData.int) = true
  | [] => by simp [PyData.canLayAll0]
  | n :: ns => by
    rw [List.map_cons]
    simp only [PyData.canLayAll0, PyData.canLay0, canLay_ints ns, Bool.and_self, Bool.true_and]
theorem depth_ints : ∀ (ns : List Int), PyData.depthAll (ns.map PyData.int) ≤ 1
  | [] => by simp [PyData.depthAll]
  | n :: ns => by
    have := depth_ints ns
    rw [List.map_cons]
    simp only [PyData.depthAll, PyData.depth]
    omega
theorem shaped_ints (ns : List Int) : SeqAt.shaped (.list (ns.map PyData.int)) = true := by
  unfold SeqAt.shaped
  have h1 := canLay_ints ns
  have h2 := depth_ints ns
  have h3 : (PyData.list (ns.map PyData.int)).depth ≤ 64 := by
    show PyData.depthAll (ns.map PyData.int) + 1 ≤ 64
    omega
  have h4 : (PyData.list (ns.map PyData.int)).canLay0 = true := h1
  rw [h4, Bool.true_and]
  exact decide_eq_true h3
theorem sem_some (i : Nat) : SemT K (tTest (tOp (rNeD K) (tDGet (tVar i) (tC (.str "cells"))) (tLst tNil))) (fSome i) := fun pd pc H0 G H ρ σ S b S' g r e Q q => by
  unfold fSome at e
  split at e
  · rename_i h
    cases e
    obtain ⟨v, h1, h2⟩ := r.dat i _ h
    cases h2
    refine ⟨_, h1, pd, .ref pc, rfl, .inl ⟨dkV pc S, .inr "cells", .inl g.dk, rfl, (dk_cells pc S).symm⟩, Nat.zero_le _, fun p hp => ?_⟩
    have n1 : Ent pd pc H G G (upd H p (.lst [])) := Ent.new hp
    have hpc : (upd H p (.lst [])) pc = some (.lst (S.cells.map V.int)) := by rw [upd_ne (g.nec hp).symm]; exact g.ck
    refine ⟨.list (S.cells.map PyData.int), .list [], .lst (sq_of hpc) (dpAll_ints _), .lst (sq_of upd_same) .nil, shaped_ints _, shaped_ints [], _, rfl, ?_⟩
    have e : PyData.eqv (.list (S.cells.map PyData.int)) (.list []) = S.cells.isEmpty := by
      cases S.cells with
      | nil => rfl
      | cons n ns => rfl
    rw [e]
    exact q G _ (g.new hp) n1
  · cases e
end
end DL

/-! # The data layer: own dicts of ints, sorting of ints -/
namespace DL
open PySem L2 Evl PySem.Spec PyProof.Rows
section
variable {X : Cx}
/-- name = {..} on one line, the name a local of the def -/
theorem ps_setDc {i : Nat} {y : Str} {py : Pos} {kx vx tg iter : Expr} {ifs : List Expr} {scope : Scope} {own : List (Str × Nat)} {pos spos : Pos} {wi : TI} {g : TG} {tt : TT} {tk tv : TE} (hc : X.calm = true) (hN : X.N.Nodup) (hy : X.N[i]? = some y) (hyl : X.env.scope.names.lookup y = some .local)
    (hsw : swapsWith (.DictComp kx vx [⟨tg, iter, ifs, 0⟩] scope pos) (some (.Name y py)) spos.line X.env = pure true) (hi : PI X tg iter wi) (ok : BlkOk X.N X.env.scope scope own)
    (hg : ∀ (s : Shared) (H : Hp) (C : Addr) (cl : List (Str × Addr)) (fp : List Addr), PG (X.blk s H scope (compEnvC scope cl C X.env) fp) tg g) (ht : ∀ (s : Shared) (H : Hp) (C : Addr) (cl : List (Str × Addr)) (fp : List Addr), PTs (X.blk s H scope (compEnvC scope cl C X.env) fp) ifs tt)
    (hk : ∀ (s : Shared) (H : Hp) (C : Addr) (cl : List (Str × Addr)) (fp : List Addr), PE (X.blk s H scope (compEnvC scope cl C X.env) fp) kx tk)
    (he : ∀ (s : Shared) (H : Hp) (C : Addr) (cl : List (Str × Addr)) (fp : List Addr), PE (X.blk s H scope (compEnvC scope cl C X.env) fp) vx tv) (hs : ∀ x, foldedSetIterable iter X.env x = pure x := by intro _; rfl) :
    PS X (.Assign [.Name y py] (.DictComp kx vx [⟨tg, iter, ifs, 0⟩] scope pos) spos) (tAsg (tDc wi g tt tk tv (own.map (·.2))) (gName i)) := by
  constructor
  intro pins s σ H D I h
  rw [exec_Assign_Name_used _ _ _ _ hsw]
  apply wpAny_bind
  apply wpAny_standAt
  apply wpAny_bind
  show wpAny _ X.A (do let _ ← comprehension (.DictComp kx vx [⟨tg, iter, ifs, 0⟩] scope pos) scope X.env (firstIterPos [⟨tg, iter, ifs, 0⟩] pos) newDict false (eval iter X.env) (some (assign (.Name y py) X.env))) _ _ s
  have h' : tDc wi g tt tk tv (own.map (·.2)) σ H (fun x H1 => gName i x σ H1 D.nx) := h
  apply wpAny_bind
  refine thn (dc_core (Qf := fun _ s' => SP X pins D .next s') hc hN I hi ok hg ht hk he hs h' ?_) (fun _ s' hq => wpAny_pure (wpAny_pure hq))
  intro L C s' m H' I' q hn f
  show wpAny _ _ (assign (.Name y py) X.env (.ref L)) _ _ _
  apply wpAny_assign_Name
  refine store_ok2 (v := V.ref L) I' hN hy (Or.inl hyl) rfl ?_ (Or.inr hyl)
  intro s2 I2 hch
  obtain ⟨a, sb, ha⟩ := hch
  have apart : C ≠ a := by
    cases ha with
    | inl z => rw [z]; exact f.2.1
    | inr z => exact fun e => f.2.2.2.2.1 y a z e.symm
  refine ⟨m, hn.sameBut sb apart, fun h3 sb3 => ⟨_, H', ?_, q⟩⟩
  exact I2.turned (t' := s2.toks) (fun b o hb e => (sb3.2 b hb).trans e) f.1 f.2.1 f.2.2.2.1 f.2.2.2.2.1 f.2.2.2.2.2
theorem sw_trueD {kx vx : Expr} {gs : List Comprehension} {scope : Scope} {pos py : Pos} {y : Str} {l : Nat} {env : Env} (hk : env.scope.kind = .function) (hy : env.scope.names.lookup y = some .local) (hl : (py.line == pos.line) = true)
    (ha : (scope.names.any fun (n, k) => n == y && (k == .local || k == .cell)) = false) : swapsWith (.DictComp kx vx gs scope pos) (some (.Name y py)) l env = pure true := by
  have kinds : env.kindOf y = some .local := hy
  have blk : env.blockKind = .function := by unfold Env.blockKind; rw [hk]; rfl
  unfold swapsWith
  simp only [blk, kinds, ha, Expr.pos, hl]
  rfl
/-- d.update(e) -/
def mergeK (kvs more : List (Key × V)) : List (Key × V) := more.foldl (fun acc kv => putK acc kv.1 kv.2) kvs
def rUpd : V → List V → Hp → VK → Prop := fun x vs H Q => ∃ d o kvs more, x = .ref d ∧ vs = [.ref o] ∧ d ≠ o ∧ H d = some (.dK kvs) ∧ H o = some (.dK more) ∧ kvs.length + more.length ≤ sizeLine ∧ Q .non (upd H d (.dK (mergeK kvs more)))
theorem kv_merge : ∀ {more : List (Key × V)} {ms : List (Key × Value)} {kvs : List (Key × V)} {vs : List (Key × Value)}, KV more ms → KV kvs vs → KV (mergeK kvs more) (merged vs ms)
  | _, _, _, _, .nil, r => r
  | (k, v) :: more, (k', u) :: ms, kvs, vs, .cons h t, r => by
    obtain ⟨e, rv⟩ := h
    have e' : k = k' := e
    subst e'
    show KV (mergeK (putK kvs k v) more) (merged (stored vs k u) ms)
    exact kv_merge t (r.put k rv)
theorem mergeK_len : ∀ (more kvs : List (Key × V)), (mergeK kvs more).length ≤ kvs.length + more.length
  | [], _ => Nat.le_refl _
  | kv :: more, kvs => by
    have h1 := mergeK_len more (putK kvs kv.1 kv.2)
    have h2 := length_putK kvs kv.1 kv.2
    show (mergeK (putK kvs kv.1 kv.2) more).length ≤ _
    rw [List.length_cons]
    omega
theorem mt_update : MtM X "dict.update" rUpd := by
  intro pins s σ H x vs v us Q I rx rv h
  obtain ⟨d, o, kvs, more, rfl, rfl, hne, hd, ho, hl, q⟩ := h
  cases rx
  obtain ⟨u, rfl, ru⟩ := rv.one
  cases ru
  obtain ⟨z1, y1, ws, r1, dd1⟩ := dk_of I.hok hd
  obtain ⟨z2, y2, ms, r2, dd2⟩ := dk_of I.hok ho
  have l1 := Paired.length r1
  have l2 := Paired.length r2
  refine call_meetsIn PySem.F.slot_dict_update dd1.typeIs PySem.F.entry_dict_update (PySem.F.args_dict_update_2 _ _) (meets_dict_update (mixKind X.prog X.w) d o hne y2) ⟨ws, ms, dd1, dd2, by omega, fun h' hm _ hs => ?_⟩
  have hz : (mergeK kvs more).length ≤ sizeLine := Nat.le_trans (mergeK_len _ _) hl
  have he : ∃ q, h'.get? d = some q := let ⟨q, _, _, hq, _⟩ := hm; ⟨q, hq⟩
  exact ⟨.non, _, d_write I (by rw [hd]; exact True.intro) hs he (dk_new hz y1 (kv_merge r2 r1) hm), rfl, q⟩
end
section
variable {K : PySem.W.Frag}
def mergeD (kvs more : List (Key × D)) : List (Key × D) := more.foldl (fun acc kv => putD acc kv.1 kv.2) kvs
theorem RepK.merge {pd : Addr} {G : Hp} : ∀ {more : List (Key × D)} {ms : List (Key × V)} {kvs : List (Key × D)} {vs : List (Key × V)}, RepK K pd G more ms → RepK K pd G kvs vs → RepK K pd G (mergeD kvs more) (mergeK vs ms)
  | _, _, _, _, .nil, r => r
  | (k, d) :: more, (_, v) :: ms, kvs, vs, .cons h t, r => by
    show RepK K pd G (mergeD (putD kvs k d) more) (mergeK (putK vs k v) ms)
    exact RepK.merge t (r.put h)
/-- places.update({..}) -/
def fUpd (i : Nat) (f : FF) : FS := fun ρ S => match ρ[i]? with
  | some (.own (.dki xs)) => bnd (f ρ S) fun fo S1 => match fo with
    | .dki ys => if xs.length + ys.length ≤ 100000 then some (.nx (ρ.set i (.own (.dki (mergeD xs ys)))) S1) else none
    | _ => none
  | _ => none
theorem sem_upd {te : TE} {f : FF} (i : Nat) (h : SemF K te f) : SemS K (tDrop (tBM K "dict" rUpd (tVar i) (tCons te tNil))) (fUpd i f) := fun pd pc H0 G0 G H ρ σ S out g0 n r e Dn q => by
  unfold fUpd at e
  split at e
  · rename_i xs hi
    obtain ⟨fo, S1, e1, e2⟩ := bnd_some e
    split at e2
    · rename_i ys
      split at e2
      · rename_i hl
        cases e2
        obtain ⟨a, o, h1, h2, h3, h4, h5, h6, vs, rfl, hr⟩ := r.own i _ hi
        refine ⟨_, h1, .inr (.inr (.inl ⟨rfl, .inl ⟨_, h6⟩⟩)), ?_⟩
        refine h pd pc H0 G H ρ σ S _ _ g0 r e1 _ fun G1 H1 p o g1 n1 k2 k3 k4 k5 => ?_
        obtain ⟨us, rfl, hs⟩ := k5
        have h6' := n1.kp a _ h6 h4 h5
        have h3' : G1 a = none := by rw [n1.nw a (by rw [h6]; exact fun z => nomatch z)]; exact h3
        have hap : a ≠ p := fun z => by rw [z, k2] at h6; cases h6
        refine ⟨a, p, vs, us, rfl, rfl, hap, h6', k4, sz_of (by rw [← hr.length, ← hs.length]; exact hl), ?_⟩
        have r1 := (r.step n1).chg (fo' := .dki (mergeD xs ys)) (o := .dK (mergeK vs us)) hi h1 ⟨_, rfl, hs.merge (hr.mono n1.ex)⟩
        have n2 := n.trans n1
        refine q G1 _ σ (g1.chg h3' h4 h5) ⟨n2.ex, fun b o e n m => ?_, n2.nw, fun b hb => ?_⟩ r1
        · rw [upd_ne]
          · exact n2.kp b o e n m
          · intro z
            subst z
            rw [h2] at e
            cases e
        · by_cases z : b = a
          · subst z
            exact absurd h2 hb
          · rw [upd_ne z]
            exact n2.dm b hb
      · cases e2
    · cases e2
  · cases e
/-! ### sorting of ints -/
def sortI (ns : List Int) : List Int := ns.mergeSort (fun a b => decide (a ≤ b))
theorem sortI_perm (ns : List Int) : (sortI ns).Perm ns := List.mergeSort_perm _ _
theorem sortI_sorted (ns : List Int) : (sortI ns).Pairwise (· ≤ ·) := by
  have h := List.pairwise_mergeSort (le := fun a b : Int => decide (a ≤ b)) (fun a b c h1 h2 => by simp at *; omega) (fun a b => by simp; omega) ns
  exact h.imp fun h => by simpa using h
theorem sorted_unique : ∀ {l m : List Int}, l.Perm m → l.Pairwise (· ≤ ·) → m.Pairwise (· ≤ ·) → l = m
  | [], m, p, _, _ => (List.nil_perm.mp p).symm
  | a :: l, [], p, _, _ => absurd p.length_eq (by simp)
  | a :: l, b :: m, p, h1, h2 => by
    have ha := List.pairwise_cons.mp h1
    have hb := List.pairwise_cons.mp h2
    have m1 : a ∈ b :: m := p.mem_iff.mp List.mem_cons_self
    have m2 : b ∈ a :: l := p.mem_iff.mpr List.mem_cons_self
    have e : a = b := by
      rcases List.mem_cons.mp m1 with z | z
      · exact z
      · rcases List.mem_cons.mp m2 with y | y
        · exact y.symm
        · exact Int.le_antisymm (ha.1 b y) (hb.1 a z)
    subst e
    rw [sorted_unique (List.Perm.cons_inv p) ha.2 hb.2]
theorem sortI_of {ns ys : List Int} (p : ys.Perm ns) (h : ys.Pairwise (· ≤ ·)) : ys = sortI ns := sorted_unique (p.trans (sortI_perm ns).symm) h (sortI_sorted ns)
def keysI? : List (Key × D) → Option (List Int)
  | [] => some []
  | (.inl i, _) :: r => (keysI? r).map (i :: ·)
  | _ :: _ => none
theorem keysI?_some : ∀ {ds : List (Key × D)} {ns : List Int}, keysI? ds = some ns → ds.map (·.1) = ns.map Sum.inl
  | [], _, h => by cases h; rfl
  | (.inl i, d) :: r, ns, h => by
    unfold keysI? at h
    cases e : keysI? r with
    | none => rw [e] at h; cases h
    | some ms => rw [e] at h; cases h; rw [List.map_cons, keysI?_some e]; rfl
  | (.inr _, _) :: _, _, h => by cases h
abbrev rSortDI : List V → Hp → VK → Prop := fun xs H Q => ∃ (a : Addr) (kvs : List (Key × V)) (ks : List Int), xs = [.ref a] ∧ Rd H a (.dK kvs) ∧ kvs.map (·.1) = ks.map Sum.inl ∧ ks.length < 64 ∧
    ∀ (ys : List Int) (p : Addr), ys.Perm ks → ys.Pairwise (· ≤ ·) → H p = none → Q (.ref p) (upd H p (.lst (ys.map V.int)))
/-- sorted(d), d an own dict -/
def fSortD (i : Nat) : FF := fun ρ S => match ρ[i]? with
  | some (.own (.dki xs)) => obd (keysI? xs) fun ks => if ks.length < 64 then some (.lst ((sortI ks).map D.int), S) else none
  | _ => none
theorem sem_sortD (i : Nat) : SemF K (tCB rSortDI (tCons (tVar i) tNil)) (fSortD i) := fun pd pc H0 G H ρ σ S fo S' g r e Q q => by
  unfold fSortD at e
  split at e
  · rename_i xs hi
    obtain ⟨ks, e1, e2⟩ := obd_some e
    split at e2
    · rename_i hl
      cases e2
      obtain ⟨a, o, h1, h2, h3, h4, h5, h6, vs, rfl, hr⟩ := r.own i _ hi
      refine ⟨_, h1, a, vs, ks, rfl, .inl h6, by rw [hr.keys]; exact keysI?_some e1, hl, fun ys p hp hs hn => ?_⟩
      rw [sortI_of hp hs]
      exact q G _ p _ (g.new hn) (Ent.new hn) hn (fresh_back g.ex hn) upd_same ⟨_, rfl, RepL.ints _⟩
    · cases e2
  · cases e
end
end DL

/-! # The data layer: walks over what is a list or a tuple -/
namespace DL
open PySem L2 Evl PySem.Spec PyProof.Rows RZ
def iAny (K : PySem.W.Frag) (tl : TE) : TI := fun σ H R => tl σ H fun x H1 => ∃ a, x = .ref a ∧ (((∃ xs, SqL K H1 a xs) ∧ R (Itl K a) H1) ∨ ((∃ xs, SqT K H1 a xs) ∧ R (Itt K a) H1))
def iEnumA (K : PySem.W.Frag) (ta : TA) : TI := fun σ H R => ta σ H fun vs H1 => ∃ a, vs = [.ref a] ∧ (((∃ xs, SqL K H1 a xs) ∧ R (Ite K a) H1) ∨ ((∃ xs, SqT K H1 a xs) ∧ R (IteT K a) H1))
section
variable {X : Cx} {tg : Expr}
theorem pi_any {l : Expr} {tl : TE} (hl : PE X l tl) : PI X tg l (iAny X.K tl) := by
  constructor
  intro pins s σ H R I h
  refine thn (hl.run pins s σ H _ I h) ?_
  rintro v s1 ⟨x, H1, I1, r1, a, rfl, h2⟩
  cases r1
  have new : ∀ {it : Obj}, Inv X pins σ H1 { s1 with heap := s1.heap.push it } := I1.kept (t' := s1.toks) fun b o e => Heap.get?_push_of_some _ e
  have fp : ∀ b ∈ [s1.heap.objs.size], FpOk X pins H1 b := by
    intro b hb
    rw [List.mem_singleton.mp hb]
    exact I1.fpOk (Nat.le_refl _) (I1.hok.fresh (Nat.le_refl _))
  rcases h2 with ⟨⟨xs, hq⟩, q⟩ | ⟨⟨xs, hq⟩, q⟩
  · obtain ⟨its, rv, p, hz⟩ := I1.list hq
    exact wpAny_pyIter_list p.isList ⟨_, [s1.heap.objs.size], _, _, H1, rfl, new, turn_list a _, ⟨_, Heap.get?_push_size _ rfl, rfl, rfl⟩, fp, q⟩
  · obtain ⟨its, rv, p, hz⟩ := I1.tuple hq
    exact wpAny_pyIter_tuple (show s1.heap.IsTuple a its.toArray from p) ⟨_, [s1.heap.objs.size], _, _, H1, rfl, new, turn_tuple a _, ⟨_, Heap.get?_push_size _ rfl, rfl, rfl⟩, fp, q⟩
theorem pi_enumA {e : Expr} {ta : TA} {p pos tpos : Pos} {elts : List Expr} {kk : Nat} (hg : Gl X "enumerate") (hm : X.mg "enumerate" = none) (ha : PA X [e] ta) (hs : starEach [e] X.env = [(false, eval e X.env)] := by rfl) :
    PI X (.Tuple elts kk tpos) (.Call (.Name "enumerate" p) [e] [] pos) (iEnumA X.K ta) := by
  constructor
  intro pins s σ H R I h
  refine Call_ (ld_blt I hg hm boot_enumerate (PyProof.Rows.callWith_type1 (thn (ha.run pos pins s σ H _ I h) ?_) hs rfl))
  rintro us s1 ⟨vs, H1, I1, r1, a, rfl, h2⟩
  obtain ⟨u, rfl, ru⟩ := Vals.one r1
  cases ru
  have fp : ∀ b ∈ [s1.heap.objs.size + 1, s1.heap.objs.size], FpOk X pins H1 b := by
    intro b hb
    have hle : s1.heap.objs.size ≤ b := by
      rcases List.mem_cons.mp hb with z | z
      · omega
      · rw [List.mem_singleton.mp z]; exact Nat.le_refl _
    exact I1.fpOk hle (I1.hok.fresh hle)
  rcases h2 with ⟨⟨xs, hq⟩, q⟩ | ⟨⟨xs, hq⟩, q⟩
  · obtain ⟨its, rv, p', hz⟩ := I1.list hq
    refine enum_begins1 (begins_list a its.toArray) p'.isList fun h' he hit hsz hk => wpAny_pyIter_enum he ?_
    exact ⟨_, _, _, _, H1, rfl, I1.kept (t' := s1.toks) hk, turn_enum a (s1.heap.objs.size + 1) s1.heap.objs.size, ⟨⟨.none, he⟩, ⟨_, hit, rfl, rfl⟩, Nat.succ_ne_self _⟩, fp, q⟩
  · obtain ⟨its, rv, p', hz⟩ := I1.tuple hq
    have hal : a < s1.heap.objs.size := p'.lt
    refine enum_begins1 (begins_tuple a its.toArray) p' fun h' he hit hsz hk => wpAny_pyIter_enum he ?_
    exact ⟨_, _, _, _, H1, rfl, I1.kept (t' := s1.toks) hk, turn_enumT a (s1.heap.objs.size + 1) s1.heap.objs.size, ⟨⟨.none, he⟩, ⟨_, hit, rfl, rfl⟩, Nat.succ_ne_self _, Nat.ne_of_lt hal, Nat.ne_of_lt (Nat.lt_succ_of_lt hal)⟩, fp, q⟩
end
section
variable {K : PySem.W.Frag}
def seqD : D → Option (List D)
  | .lst xs => some xs
  | .tup xs => some xs
  | _ => none
def fIA (f : FE) : FA := fun ρ S => bnd (f ρ S) fun d S1 => obd (seqD d) fun xs => some (xs, S1)
theorem it_list {pd pc : Addr} {G1 : Hp} {a : Addr} {ds : List D} {vs : List V} (h1 : SqL K G1 a vs) (r1 : RepL K pd G1 ds vs) : ItOk K pd pc G1 (Itl K a) ds := fun G2 H2 S2 g2 x2 i => ⟨fun d hd => by
  obtain ⟨v, hv, rv⟩ := r1.get hd
  have h2 := ex_l (x2.trans g2.ex) h1
  refine ⟨⟨_, v, h2, hv⟩, fun x H' hy => ?_⟩
  obtain ⟨rfl, hy⟩ := hy
  have ex : x = v := Option.some.inj ((hy _ h2).symm.trans hv)
  subst ex
  exact ⟨G2, g2, Ent.refl _ _, rv.mono x2⟩, fun hl => ⟨_, ex_l (x2.trans g2.ex) h1, by rw [← r1.length]; omega⟩⟩
theorem it_tup {pd pc : Addr} {G1 : Hp} {a : Addr} {ds : List D} {vs : List V} (h1 : SqT K G1 a vs) (r1 : RepL K pd G1 ds vs) : ItOk K pd pc G1 (Itt K a) ds := fun G2 H2 S2 g2 x2 i => ⟨fun d hd => by
  obtain ⟨v, hv, rv⟩ := r1.get hd
  have h2 := ex_t (x2.trans g2.ex) h1
  refine ⟨⟨_, v, h2, hv⟩, fun x H' hy => ?_⟩
  obtain ⟨rfl, hy⟩ := hy
  have ex : x = v := Option.some.inj ((hy _ h2).symm.trans hv)
  subst ex
  exact ⟨G2, g2, Ent.refl _ _, rv.mono x2⟩, fun hl => ⟨_, ex_t (x2.trans g2.ex) h1, by rw [← r1.length]; omega⟩⟩
theorem sem_ia {t : TE} {f : FE} (h : SemE K t f) : SemI K (iAny K t) (fIA f) := fun pd pc H0 G H ρ σ S ds S' g0 r0 e R q => by
  obtain ⟨d, S1, e1, e2⟩ := bnd_some e
  obtain ⟨xs, e3, e4⟩ := obd_some e2
  cases e4
  refine h pd pc H0 G H ρ σ S d _ g0 r0 e1 _ fun G1 H1 v g1 n1 rv => ?_
  cases rv with
  | lst h1 r1 => cases e3; exact ⟨_, rfl, .inl ⟨⟨_, ex_l g1.ex h1⟩, q G1 H1 _ g1 n1 (it_list h1 r1)⟩⟩
  | tup h1 r1 => cases e3; exact ⟨_, rfl, .inr ⟨⟨_, ex_t g1.ex h1⟩, q G1 H1 _ g1 n1 (it_tup h1 r1)⟩⟩
  | _ => cases e3
def fEnA (f : FA) : FA := fun ρ S => bnd (f ρ S) fun ds S1 => match ds with
  | [d] => obd (seqD d) fun xs => some (enumD xs 0, S1)
  | _ => none
theorem sem_enA {ta : TA} {f : FA} (h : SemA K ta f) : SemI K (iEnumA K ta) (fEnA f) := fun pd pc H0 G H ρ σ S ds S' g0 r0 e R q => by
  obtain ⟨ds1, S1, e1, e2⟩ := bnd_some e
  split at e2
  · obtain ⟨xs, e3, e4⟩ := obd_some e2
    cases e4
    refine h pd pc H0 G H ρ σ S _ _ g0 r0 e1 _ fun G1 H1 vs g1 n1 rs => ?_
    obtain ⟨v, rfl, rv⟩ := rs.one
    cases rv with
    | tup h1 r1 =>
      cases e3
      refine ⟨_, rfl, .inr ⟨⟨_, ex_t g1.ex h1⟩, q G1 H1 _ g1 n1 fun G2 H2 S2 g2 x2 i => ⟨fun d hd => ?_, fun hl => ?_⟩⟩⟩
      · obtain ⟨e, he, rfl⟩ := enumD_get hd
        obtain ⟨v, hv, rv⟩ := r1.get he
        have h2 := ex_t (x2.trans g2.ex) h1
        refine ⟨⟨_, v, h2, hv⟩, fun x H' hy => ?_⟩
        obtain ⟨T, y, rfl, hT, rfl, hy⟩ := hy
        have ex : y = v := Option.some.inj ((hy _ h2).symm.trans hv)
        subst ex
        rw [Nat.zero_add]
        exact rep_pair g2 hT .int (rv.mono x2)
      · rw [enumD_len] at hl
        exact ⟨_, ex_t (x2.trans g2.ex) h1, by rw [← r1.length]; exact hl⟩
    | lst h1 r1 =>
      cases e3
      refine ⟨_, rfl, .inl ⟨⟨_, ex_l g1.ex h1⟩, q G1 H1 _ g1 n1 fun G2 H2 S2 g2 x2 i => ⟨fun d hd => ?_, fun hl => ?_⟩⟩⟩
      · obtain ⟨e, he, rfl⟩ := enumD_get hd
        obtain ⟨v, hv, rv⟩ := r1.get he
        have h2 := ex_l (x2.trans g2.ex) h1
        refine ⟨⟨_, v, h2, hv⟩, fun x H' hy => ?_⟩
        obtain ⟨T, y, rfl, hT, rfl, hy⟩ := hy
        have ex : y = v := Option.some.inj ((hy _ h2).symm.trans hv)
        subst ex
        rw [Nat.zero_add]
        exact rep_pair g2 hT .int (rv.mono x2)
      · rw [enumD_len] at hl
        exact ⟨_, ex_l (x2.trans g2.ex) h1, by rw [← r1.length]; omega⟩
    | _ => cases e3
  · cases e2
end
end DL

/-! # Sets of tuples of ints, up to 200 members: the table -/
namespace SQ
open PySem PySem.Spec PyProof.Rows L2
/-- the masks up to 300 members -/
def M4 (m : Nat) : Prop := m = 7 ∨ m = 31 ∨ m = 127 ∨ m = 511
/-- the slots that the first n steps from 0 meet, as bits -/
def seenBits (m : Nat) : Nat → Nat → Nat → Nat
  | 0, _, acc => acc
  | n + 1, x, acc => seenBits m n ((x * 5 + 1) % (m + 1)) (acc ||| 1 <<< x)
theorem seenBits_spec (m : Nat) : ∀ (n a acc : Nat) {j : Nat}, (seenBits m n (lcgN m a) acc).testBit j = true → acc.testBit j = true ∨ ∃ b, a ≤ b ∧ b < a + n ∧ lcgN m b = j
  | 0, _, _, _, h => .inl h
  | n + 1, a, acc, j, h => by
    have h' : (seenBits m n (lcgN m (a + 1)) (acc ||| 1 <<< lcgN m a)).testBit j = true := h
    rcases seenBits_spec m n (a + 1) _ h' with z | ⟨b, b1, b2, b3⟩
    · rw [Nat.testBit_or, Bool.or_eq_true] at z
      rcases z with z | z
      · exact .inl z
      · refine .inr ⟨a, Nat.le_refl _, by omega, ?_⟩
        rw [Nat.one_shiftLeft, Nat.testBit_two_pow] at z
        exact of_decide_eq_true z
    · exact .inr ⟨b, by omega, by omega, b3⟩
theorem bits511 : (seenBits 511 512 0 0 == (1 <<< 512) - 1) = true := by decide +kernel
theorem round511 : lcgN 511 512 = 0 := by decide +kernel
theorem all511 {j : Nat} (hj : j ≤ 511) : ∃ b, b ≤ 511 ∧ lcgN 511 b = j := by
  have e : seenBits 511 512 (lcgN 511 0) 0 = (1 <<< 512) - 1 := beq_iff_eq.mp bits511
  have h : (seenBits 511 512 (lcgN 511 0) 0).testBit j = true := by
    rw [e, Nat.one_shiftLeft, Nat.testBit_two_pow_sub_one]
    exact decide_eq_true (by omega)
  rcases seenBits_spec 511 512 0 0 h with z | ⟨b, _, b2, b3⟩
  · rw [Nat.zero_testBit] at z; cases z
  · exact ⟨b, by omega, b3⟩
theorem mod511 : ∀ k, lcgN 511 (512 + k) = lcgN 511 k
  | 0 => round511
  | k + 1 => congrArg (fun x => (x * 5 + 1) % 512) (mod511 k)
theorem meets511 (h : Int) {j : Nat} (hj : j ≤ 511) : ∃ n, n ≤ 511 + 12 ∧ runI 511 (SetTable.bits h) n = j := by
  obtain ⟨a, ha, ea⟩ := all511 (runI_le 511 (SetTable.bits h) 12)
  obtain ⟨b, hb, eb⟩ := all511 hj
  have key : ∀ k, runI 511 (SetTable.bits h) (12 + k) = lcgN 511 (a + k) := fun k => by
    rw [runI_tail (bits_lt h), ← ea, lcgN_add]
  by_cases c : a ≤ b
  · refine ⟨12 + (b - a), by omega, ?_⟩
    rw [key, show a + (b - a) = b by omega, eb]
  · refine ⟨12 + (512 + b - a), by omega, ?_⟩
    rw [key, show a + (512 + b - a) = 512 + b by omega, mod511, eb]
theorem meets {m : Nat} (hm : M4 m) (h : Int) {j : Nat} (hj : j ≤ m) : ∃ n, n ≤ m + 12 ∧ runI m (SetTable.bits h) n = j := by
  rcases hm with e | e | e | e
  · exact run_meets (.inl e) h hj
  · exact run_meets (.inr (.inl e)) h hj
  · exact run_meets (.inr (.inr e)) h hj
  · subst e; exact meets511 h hj
theorem way_in (m : Nat) (h : Int) (k : Nat) : way m h k ≤ m := by
  have lt : SetTable.bits h % (m + 1) < m + 1 := Nat.mod_lt _ (Nat.succ_pos _)
  have r := runEnd_bd (Nat.le_of_lt_succ lt)
  have q := nth_in (m := m) k (runAt m (SetTable.bits h % (m + 1)) (SetTable.bits h)) (show SetTable.bits h % (m + 1) + (SetTable.runEnd m (SetTable.bits h % (m + 1)) - SetTable.bits h % (m + 1)) ≤ m by omega)
  exact Nat.le_trans (Nat.le_add_right _ _) q
/-- the slots that stand ahead of k on h's way are all taken -/
def Ahead (m : Nat) (h : Int) (k : Nat) (T : Nat → Prop) : Prop := ∀ c, c < k → T (way m h c)
/-- where at most m slots are taken, the way comes to the first one that is not -/
theorem first_free {m : Nat} (hm : M4 m) (h : Int) (T : Nat → Prop) (ps : List Nat) (hl : ps.length ≤ m) (hT : ∀ j, j ≤ m → T j → j ∈ ps) : ∃ n K, n ≤ m + 12 ∧ K ≤ off m (SetTable.bits h % (m + 1)) (SetTable.bits h) n ∧ K ≤ 10 * n ∧ ¬ T (way m h K) ∧ Ahead m h K T := by
  obtain ⟨j, hj, hn⟩ := st_missing ps (m + 1) (by omega)
  obtain ⟨n, n1, n2⟩ := meets hm h (Nat.le_of_lt_succ hj)
  have off_le : ∀ (n i b : Nat), i ≤ m → off m i b n ≤ 10 * n := by
    intro n
    induction n with
    | zero => intro i b _; exact Nat.le_refl _
    | succ n ih =>
      intro i b hi
      have a1 := runEnd_bd hi
      have a2 := ih (SetTable.leap m i b).1 (SetTable.leap m i b).2 (leap_le m i b)
      show (SetTable.runEnd m i - i + 1) + off m (SetTable.leap m i b).1 (SetTable.leap m i b).2 n ≤ 10 * (n + 1)
      omega
  have at_ : way m h (off m (SetTable.bits h % (m + 1)) (SetTable.bits h) n) = j := by
    show (nth m (runAt m (SetTable.bits h % (m + 1)) (SetTable.bits h)) (off m (SetTable.bits h % (m + 1)) (SetTable.bits h) n)).j = j
    rw [nth_off, itL_run]
    exact n2
  obtain ⟨K, k1, k2, k3⟩ := st_least (p := fun k => ¬ T (way m h k)) (off m (SetTable.bits h % (m + 1)) (SetTable.bits h) n) (fun z => hn (hT j (Nat.le_of_lt_succ hj) (by rw [← at_]; exact z)))
  exact ⟨n, K, n1, k1, Nat.le_trans k1 (off_le n _ _ (Nat.le_of_lt_succ (Nat.mod_lt _ (Nat.succ_pos _)))), k2, fun c hc => Classical.byContradiction fun z => k3 c hc z⟩

/-- a table: slot i's hash finds it again -/
structure Tb (t : SetTable) (hs : List Int) : Prop where
  ris : Ris t.place.toList
  dm : t.dummies = #[]
  sz : t.place.size = hs.length
  msk : M4 t.mask
  reach : ∀ (i : Nat) (h : Int) (j : Nat), hs[i]? = some h → t.place.toList[i]? = some j → ∃ k, way t.mask h k = j ∧ Ahead t.mask h k (· ∈ t.place.toList)
theorem Tb.len {t : SetTable} {hs : List Int} (T : Tb t hs) : t.place.toList.length = hs.length := by rw [Array.length_toList]; exact T.sz
theorem Tb.first {t : SetTable} {hs : List Int} (T : Tb t hs) (hl : hs.length ≤ t.mask) (h : Int) : ∃ K, K < 10 * SetTable.turns t.mask ∧ way t.mask h K ∉ t.place.toList ∧ Ahead t.mask h K (· ∈ t.place.toList) := by
  obtain ⟨n, K, n1, _, k1, k2, k3⟩ := first_free T.msk h (· ∈ t.place.toList) t.place.toList (by rw [T.len]; exact hl) (fun _ _ z => z)
  exact ⟨K, by unfold SetTable.turns; omega, k2, k3⟩
/-- what is in is met ahead of the free slot -/
theorem Tb.met {t : SetTable} {hs : List Int} (T : Tb t hs) {h : Int} {K i : Nat} (hK : way t.mask h K ∉ t.place.toList) (hi : hs[i]? = some h) : ∃ c, c < K ∧ t.place.toList[i]? = some (way t.mask h c) := by
  have hl : i < t.place.toList.length := by rw [T.len]; exact (List.getElem?_eq_some_iff.mp hi).1
  obtain ⟨c, e, a⟩ := T.reach i h _ hi (List.getElem?_eq_getElem hl)
  refine ⟨c, ?_, by rw [List.getElem?_eq_getElem hl, e]⟩
  have in_ : way t.mask h c ∈ t.place.toList := by rw [e]; exact List.getElem_mem hl
  rcases Nat.lt_or_ge c K with z | z
  · exact z
  · rcases Nat.lt_or_ge K c with y | y
    · exact absurd (a K y) hK
    · rw [Nat.le_antisymm z y] at hK; exact absurd in_ hK
/-- one is put in -/
theorem Tb.put {t : SetTable} {hs : List Int} (T : Tb t hs) {h : Int} {K : Nat} (hK : way t.mask h K ∉ t.place.toList) (hb : Ahead t.mask h K (· ∈ t.place.toList)) {p : Nat} (hp : SetTable.below t.place (way t.mask h K) = p) :
    p ≤ hs.length ∧ Tb (t.put (way t.mask h K)).1 (hs.take p ++ h :: hs.drop p) ∧ (t.put (way t.mask h K)).1.fill = hs.length + 1 := by
  subst hp
  have cut := (below_cut T.ris (way t.mask h K)).1
  have pl := put_place t (way t.mask h K)
  have l1 : SetTable.below t.place (way t.mask h K) ≤ t.place.toList.length := by rw [Array.length_toList]; exact cut
  have l2 : SetTable.below t.place (way t.mask h K) ≤ hs.length := by rw [← T.sz]; exact cut
  have up : ∀ x, x ∈ t.place.toList → x ∈ (t.put (way t.mask h K)).1.place.toList := fun x hx => by rw [pl]; exact mem_ins.2 (.inr hx)
  have size : (t.put (way t.mask h K)).1.place.size = hs.length + 1 := by rw [← Array.length_toList, pl, len_ins _ l1, T.len]
  refine ⟨l2, ⟨ris_insert T.ris fun e => hK (List.mem_of_getElem? (by rw [Array.getElem?_toList]; exact e)), put_dm T.dm _, by rw [size, len_ins _ l2], T.msk, ?_⟩, ?_⟩
  · intro i h' j h1 h2
    rw [tins_get hs l2] at h1
    rw [pl, tins_get _ l1] at h2
    have old : ∀ i', hs[i']? = some h' → t.place.toList[i']? = some j → ∃ k, way t.mask h' k = j ∧ Ahead t.mask h' k (· ∈ (t.put (way t.mask h K)).1.place.toList) := fun i' a b => by
      obtain ⟨k, e, z⟩ := T.reach i' h' j a b
      exact ⟨k, e, fun c hc => up _ (z c hc)⟩
    split at h1
    · rename_i c
      rw [if_pos c] at h2
      exact old i h1 h2
    · rename_i c
      rw [if_neg c] at h2
      split at h1
      · rename_i d
        rw [if_pos d] at h2
        cases h1
        cases h2
        exact ⟨K, rfl, fun c hc => up _ (hb c hc)⟩
      · rename_i d
        rw [if_neg d] at h2
        exact old (i - 1) h1 h2
  · show (t.put (way t.mask h K)).1.place.size + (t.put (way t.mask h K)).1.dummies.size = hs.length + 1
    rw [size, put_dm T.dm]
    rfl

/-! ### laying anew -/
theorem own_step {m : Nat} (hm : M4 m) {done : List Int} {owner : Array (Option Nat)} (W : Own m done owner) (hl : done.length ≤ m) (h : Int) :
    ∃ j, SetTable.layClean.free m owner (SetTable.turns m) (SetTable.bits h % (m + 1)) (SetTable.bits h) = some j ∧ Own m (done ++ [h]) (owner.setIfInBounds j (some done.length)) := by
  obtain ⟨ps, hps, hin⟩ := W.ps
  obtain ⟨n, K, n1, k0, _, k2, k3⟩ := first_free hm h (fun j => oAt owner j ≠ none) ps (by omega) hin
  have free : oAt owner (way m h K) = none := Classical.byContradiction k2
  have jm := way_in m h K
  have found : SetTable.layClean.free m owner (SetTable.turns m) (SetTable.bits h % (m + 1)) (SetTable.bits h) = some (way m h K) := by
    refine free_spec m owner (SetTable.turns m) n _ _ K (by unfold SetTable.turns; omega) k0 (fun c hc => ?_) ?_
    · have q : oAt owner (way m h c) ≠ none := k3 c hc
      cases z : oAt owner (nth m (runAt m (SetTable.bits h % (m + 1)) (SetTable.bits h)) c).j with
      | none => exact absurd z q
      | some v => rfl
    · have q : oAt owner (nth m (runAt m (SetTable.bits h % (m + 1)) (SetTable.bits h)) K).j = none := free
      rw [q]
      rfl
  have self : oAt (owner.setIfInBounds (way m h K) (some done.length)) (way m h K) = some done.length := oAt_set_self _ (by rw [W.sz]; omega)
  have other : ∀ i, i ≠ way m h K → oAt (owner.setIfInBounds (way m h K) (some done.length)) i = oAt owner i := fun i hi => oAt_set_ne _ hi
  have still : ∀ i, oAt owner i ≠ none → oAt (owner.setIfInBounds (way m h K) (some done.length)) i ≠ none := fun i hi => by
    by_cases c : i = way m h K
    · rw [c, self]; exact fun z => nomatch z
    · rw [other i c]; exact hi
  refine ⟨_, found, ?_, fun j k hj e => ?_, fun k hk => ?_, way m h K :: ps, ?_, fun j hj e => ?_⟩
  · rw [Array.size_setIfInBounds]; exact W.sz
  · by_cases c : j = way m h K
    · rw [c, self] at e
      cases e
      refine ⟨h, K, ?_, c.symm, fun c hc => still _ (k3 c hc)⟩
      rw [List.getElem?_append_right (Nat.le_refl _), Nat.sub_self]
      rfl
    · rw [other j c] at e
      obtain ⟨h', K', a1, a2, a3⟩ := W.at_ j k hj e
      exact ⟨h', K', by rw [List.getElem?_append_left (List.getElem?_eq_some_iff.mp a1).1]; exact a1, a2, fun c hc => still _ (a3 c hc)⟩
  · rw [List.length_append, List.length_singleton] at hk
    rcases Nat.lt_or_ge k done.length with c | c
    · obtain ⟨j, hj, e⟩ := W.all k c
      refine ⟨j, hj, ?_⟩
      rw [other j]
      · exact e
      · intro z
        rw [z, free] at e
        cases e
    · exact ⟨way m h K, jm, by rw [self]; congr 1; omega⟩
  · rw [List.length_cons, List.length_append, hps]
    rfl
  · by_cases c : j = way m h K
    · rw [c]; exact List.mem_cons_self
    · rw [other j c] at e
      exact List.mem_cons_of_mem _ (hin j hj e)
theorem lay_all {m : Nat} (hm : M4 m) : ∀ (rest done : List Int) (owner : Array (Option Nat)), Own m done owner → done.length + rest.length ≤ m →
    ∃ o2, rest.foldl (stepF m) (some (owner, done.length)) = some (o2, (done ++ rest).length) ∧ Own m (done ++ rest) o2
  | [], done, owner, W, _ => ⟨owner, by simp, by simpa using W⟩
  | h :: rest, done, owner, W, hl => by
    have hl' : done.length + (rest.length + 1) ≤ m := hl
    obtain ⟨j, e, W1⟩ := own_step hm W (by omega) h
    have one : (done ++ [h]).length = done.length + 1 := List.length_append
    obtain ⟨o2, f, W2⟩ := lay_all hm rest (done ++ [h]) _ W1 (by omega)
    rw [one, List.append_assoc] at f
    rw [List.append_assoc] at W2
    exact ⟨o2, by rw [List.foldl_cons, stepF_some e]; exact f, W2⟩
/-- a table laid anew -/
theorem laid_ok (t : SetTable) {hs : Array Int} {wanted M : Nat} (hw : SetTable.sizeAbove wanted - 1 = M) (hM : M4 M) (hn : hs.size ≤ M) :
    ∃ t' order, t.relaid hs wanted = some (t', order) ∧ order.toList.Perm (List.range hs.size) ∧ Tb t' (order.toList.map fun i => hs.getD i 0) ∧ t'.mask = M ∧ t'.led = t.led ∧ t'.plain = t.plain := by
  obtain ⟨owner, f, W⟩ := lay_all hM hs.toList [] _ (Own.init M) (by rw [Array.length_toList]; show 0 + hs.size ≤ M; omega)
  rw [List.nil_append] at f W
  have clean : SetTable.layClean M hs = some owner := by
    rw [layClean_eq]
    have f0 : hs.toList.foldl (stepF M) (some (Array.replicate (M + 1) none, 0)) = some (owner, hs.toList.length) := f
    rw [f0]
    rfl
  have hr : t.relaid hs wanted = some (tabOf t M owner, ((liveOf M owner).map (·.2)).toArray) := by
    rw [relaid_eq, hw, clean]
    rfl
  have rl := ris_live (fun j => owner.getD j none) (List.range (M + 1)) List.pairwise_lt_range
  have r1 : Ris ((liveOf M owner).map (·.1)) := rl.1
  have taken : ∀ x, x ∈ (liveOf M owner).map (·.1) → x ≤ M ∧ oAt owner x ≠ none := fun x hx => by
    obtain ⟨⟨y, k⟩, hq, e⟩ := List.mem_map.mp hx
    cases e
    obtain ⟨b1, b2⟩ := (mem_live W.sz).1 hq
    exact ⟨b1, by rw [b2]; exact fun z => nomatch z⟩
  have each : ∀ k, k < hs.size → k ∈ (liveOf M owner).map (·.2) := fun k hk => by
    obtain ⟨j, b1, b2⟩ := W.all k (by rw [Array.length_toList]; exact hk)
    exact List.mem_map.mpr ⟨(j, k), (mem_live W.sz).2 ⟨b1, b2⟩, rfl⟩
  have len : (liveOf M owner).length = hs.size := by
    obtain ⟨ps, p1, p2⟩ := W.ps
    have nd : ((liveOf M owner).map (·.1)).Nodup := List.Pairwise.imp (fun h => Nat.ne_of_lt h) r1
    have a := nat_nodup_len ((liveOf M owner).map (·.1)) ps nd fun x hx => p2 x (taken x hx).1 (taken x hx).2
    have b := nat_nodup_len (List.range hs.size) ((liveOf M owner).map (·.2)) List.nodup_range fun k hk => each k (List.mem_range.mp hk)
    have p3 : ps.length = hs.size := p1
    rw [List.length_map, p3] at a
    rw [List.length_map, List.length_range] at b
    omega
  refine ⟨tabOf t M owner, _, hr, perm_range hs.size _ ?_ each, ⟨r1, rfl, ?_, hM, ?_⟩, rfl, rfl, rfl⟩
  · show ((liveOf M owner).map (·.2)).length = hs.size
    rw [List.length_map, len]
  · show ((liveOf M owner).map (·.1)).toArray.size = (((liveOf M owner).map (·.2)).map fun i => hs.getD i 0).length
    rw [List.size_toArray, List.length_map, List.length_map, List.length_map]
  · intro i h j h1 h2
    have g1 : (((liveOf M owner).map (·.2)).map fun i => hs.getD i 0)[i]? = some h := h1
    have g2 : ((liveOf M owner).map (·.1))[i]? = some j := h2
    rw [List.getElem?_map] at g2
    rw [List.getElem?_map, List.getElem?_map] at g1
    cases hq : (liveOf M owner)[i]? with
    | none => rw [hq] at g2; cases g2
    | some q =>
      rw [hq] at g1 g2
      obtain ⟨y, k⟩ := q
      cases g2
      have gh : hs.getD k 0 = h := Option.some.inj g1
      obtain ⟨b1, b2⟩ := (mem_live W.sz).1 (List.mem_of_getElem? hq)
      obtain ⟨h0, K, a1, a2, a3⟩ := W.at_ _ k b1 b2
      have e0 : hs.getD k 0 = h0 := by rw [Array.getD_eq_getD_getElem?, ← Array.getElem?_toList, a1]; rfl
      rw [e0] at gh
      subst gh
      refine ⟨K, a2, fun c hc => ?_⟩
      show way M h0 c ∈ (liveOf M owner).map (·.1)
      cases z : oAt owner (way M h0 c) with
      | none => exact absurd z (a3 c hc)
      | some k2 => exact List.mem_map.mpr ⟨(way M h0 c, k2), (mem_live W.sz).2 ⟨way_in M h0 c, z⟩, rfl⟩
theorem size_308 : SetTable.sizeAbove (SetTable.grown 77) = 512 := by decide +kernel
end SQ

/-! # Sets of tuples of ints, up to 200 members: search, add, set(t), sorted -/
namespace SQ
open PySem PySem.Spec PyProof.Rows L2
abbrev Mem := List (Addr × List Int)
section
variable {P : Program} {w : World} {A : Around} {E : Value → Shared → Prop} {s : Shared}
/-- the set at a has the tuples of M -/
structure SR (P : Program) (w : World) (h : Heap) (a : Addr) (M : Mem) (es : Array (Int × Value)) (ep : Nat) (t : SetTable) : Prop where
  ob : ∃ o, h.get? a = some o ∧ o.ExactSet ∧ o.data = .set es ep t
  rows : es.toList = rowsOf P w M
  tab : Tb t (M.map fun p => thash P w p.2)
  nd : (M.map (·.2)).Nodup
  tup : ∀ p ∈ M, IsT P w h p.2 p.1
  pl : t.plain = true
  ld : w.params.followText "set-order" = true ∨ t.led = true
  room : M.length * 5 < t.mask * 3
variable {a : Addr} {M : Mem} {es : Array (Int × Value)} {ep : Nat} {t : SetTable}
theorem rows_len (h : es.toList = rowsOf P w M) : es.size = M.length := by
  rw [← Array.length_toList, h]
  exact List.length_map _
theorem SR.size (R : SR P w s.heap a M es ep t) : es.size = M.length := rows_len R.rows
theorem SR.psize (R : SR P w s.heap a M es ep t) : t.place.size = M.length := by
  have z := R.tab.sz
  rwa [List.length_map] at z
theorem fits_of (h1 : t.place.size = es.size) (h2 : t.dummies = #[]) (h3 : es.size ≤ t.mask) : t.fits es.size = true := by
  unfold SetTable.fits SetTable.fill
  rw [h2, h1]
  simpa using h3
theorem SR.fits (R : SR P w s.heap a M es ep t) : t.fits es.size = true :=
  fits_of (R.psize.trans R.size.symm) R.tab.dm (by have := R.room; have := R.size; omega)
theorem SR.ent (R : SR P w s.heap a M es ep t) {i : Nat} {p : Addr × List Int} (h : M[i]? = some p) : es[i]? = some (thash P w p.2, Value.ref p.1) := by
  have e : (rowsOf P w M)[i]? = some (thash P w p.2, Value.ref p.1) := by
    unfold rowsOf
    rw [List.getElem?_map, h]
    rfl
  rw [← Array.getElem?_toList, R.rows, e]
theorem SR.stays (R : SR P w s.heap a M es ep t) : ¬ t.gaveWay = true := by
  unfold SetTable.gaveWay
  rcases R.tab.msk with e | e | e | e <;> rw [e] <;> decide
abbrev W0 (P : Program) (w : World) (t : SetTable) (k : List Int) : SetTable.Probe := runAt t.mask (SetTable.bits (thash P w k) % (t.mask + 1)) (SetTable.bits (thash P w k))
theorem no_dummy (m : Nat) : ∀ (n : Nat) (p : SetTable.Probe), p.dummy = none → (nth m p n).dummy = none
  | 0, _, h => h
  | n + 1, p, h => no_dummy m n (adv m p) (by unfold adv; split <;> exact h)
/-- the search, from the c-th step on; f its fuel, K the first free step -/
theorem seek (R : SR P w s.heap a M es ep t) {x : Addr} {k : List Int} (hx : IsT P w s.heap k x) (hu : A.units < cLine) {K : Nat} (hf : K < 10 * SetTable.turns t.mask)
    (hK : way t.mask (thash P w k) K ∉ t.place.toList) (hb : Ahead t.mask (thash P w k) K (· ∈ t.place.toList)) {Q : SetFound → Shared → Prop}
    (yes : k ∈ M.map (·.2) → Q (.there none) s) (no : k ∉ M.map (·.2) → Q (.free (way t.mask (thash P w k) K) false) s) :
    ∀ (f c : Nat) (stand : Option SetTable.Probe), stand.getD (t.probeStart (thash P w k)) = nth t.mask (W0 P w t k) c → c ≤ K → K - c < f →
      (∀ (i : Nat) (p : Addr × List Int), M[i]? = some p → p.2 = k → ∃ d, c ≤ d ∧ d < K ∧ t.place.toList[i]? = some (way t.mask (thash P w k) d)) →
      wpAny (model P w) A (setSearchFrom a (.ref x) (thash P w k) true f stand) Q E s := by
  obtain ⟨o, ho, hex, hd⟩ := R.ob
  intro f
  induction f with
  | zero => intro c stand _ _ z; omega
  | succ f ih =>
    intro c stand hst hc hf1 hleft
    have from_c : ∀ q, nth t.mask (nth t.mask (W0 P w t k) c) q = nth t.mask (W0 P w t k) (c + q) := fun q => (nth_add t.mask c _ q).symm
    have jc : ∀ q, (nth t.mask (nth t.mask (W0 P w t k) c) q).j = way t.mask (thash P w k) (c + q) := fun q => congrArg SetTable.Probe.j (from_c q)
    have at_ : ∀ (i : Nat) (p : Addr × List Int), M[i]? = some p → (fun i : Nat => (es[i]?.map (·.1)).getD 0) i = thash P w p.2 := fun i p hp => by
      show (es[i]?.map (·.1)).getD 0 = thash P w p.2
      rw [R.ent hp]
      rfl
    -- where k is in, its step lies ahead and has its hash
    have here : ∀ (i : Nat) (p : Addr × List Int), M[i]? = some p → p.2 = k → ∀ n, (∀ c' i', c' < n → t.place.toList[i']? = some (nth t.mask (nth t.mask (W0 P w t k) c) c').j → (fun i : Nat => (es[i]?.map (·.1)).getD 0) i' ≠ thash P w k) → ∃ d, c + n ≤ d ∧ d < K ∧ t.place.toList[i]? = some (way t.mask (thash P w k) d) := fun i p hp hk n hno => by
      obtain ⟨d, d1, d2, d3⟩ := hleft i p hp hk
      refine ⟨d, ?_, d2, d3⟩
      rcases Nat.lt_or_ge d (c + n) with z | z
      · refine absurd ((at_ i p hp).trans (congrArg (thash P w) hk)) (hno (d - c) i (by omega) ?_)
        rw [jc, show c + (d - c) = d by omega]
        exact d3
      · exact z
    rw [setSearchFrom_succ]
    refine wpAny_bind (wpAny_setState_of ho hd R.fits ?_)
    dsimp only
    refine wp_if_neg R.stays ?_
    try refine wpAny_bind (wpAny_pure ?_)
    have pr : t.probe (fun i : Nat => (es[i]?.map (·.1)).getD 0) (thash P w k) (stand.getD (t.probeStart (thash P w k))) = SetTable.probe.go t (fun i : Nat => (es[i]?.map (·.1)).getD 0) (thash P w k) (10 * SetTable.turns t.mask) (nth t.mask (W0 P w t k) c) := by
      rw [hst]
      rfl
    rcases go_spec t R.tab.ris R.tab.dm (fun i : Nat => (es[i]?.map (·.1)).getD 0) (thash P w k) (10 * SetTable.turns t.mask) (K - c) (nth t.mask (W0 P w t k) c) (no_dummy _ c _ rfl) (by omega)
      (fun q hq => by rw [jc]; exact hb (c + q) (by omega)) (by rw [jc, show c + (K - c) = K by omega]; exact hK) with ⟨n, i, n1, n2, n3, n4, n5⟩ | ⟨n4, n5⟩
    · rw [pr, n5, jc, from_c]
      rw [jc] at n2
      dsimp only
      have il : i < M.length := by
        have z := (List.getElem?_eq_some_iff.mp n2).1
        rw [Array.length_toList, R.psize] at z
        exact z
      obtain ⟨p, hp⟩ : ∃ p, M[i]? = some p := ⟨_, List.getElem?_eq_getElem il⟩
      have pM := List.mem_of_getElem? hp
      have rest : wpAny (model P w) A (searchRest a (.ref x) (thash P w k) true f es t (way t.mask (thash P w k) (c + n)) i (nth t.mask (W0 P w t k) (c + (n + 1)))) Q E s := by
        unfold searchRest
        rw [R.ent hp]
        dsimp only
        refine wpAny_bind (wpAny_holding (wpAny_eqBool_tuple hu (R.tup p pM) hx ?_))
        refine wpAny_bind (wpAny_setState_of ho hd R.fits ?_)
        dsimp only
        by_cases same : p.2 = k
        · refine wp_if_pos (by simp [same]) (wpAny_pure (yes ?_))
          rw [← same]
          exact List.mem_map_of_mem pM
        · refine wp_if_neg (by simp [same]) ?_
          try refine wpAny_bind (wpAny_pure ?_)
          have live := slot_live R.tab.ris n2
          rw [sameMem]
          dsimp only
          simp only [if_true, live, R.ent hp]
          refine wpAny_bind (wpAny_isSame_ref_self (wpAny_bind (wpAny_pure ?_)))
          simp only [if_true]
          refine wp_if_neg (by simp [same]) (ih (c + (n + 1)) (some _) rfl (by omega) (by omega) fun i' p' hp' hk' => ?_)
          obtain ⟨d, d1, d2, d3⟩ := here i' p' hp' hk' n n4
          refine ⟨d, ?_, d2, d3⟩
          rcases Nat.lt_or_ge (c + n) d with z | z
          · omega
          · exfalso
            rw [Nat.le_antisymm z d1] at d3
            have l2 := slot_live R.tab.ris d3
            rw [live] at l2
            cases l2
            rw [hp] at hp'
            cases hp'
            exact same hk'
      by_cases led : t.led = true
      · refine wp_if_neg (by simp [led]) ?_
        try refine wpAny_bind (wpAny_pure ?_)
        exact rest
      · refine wp_if_pos (by simp [led]) (wpAny_bind (seen_tup hx (fun y hy => ?_) ?_))
        · obtain ⟨e, he, ee⟩ := List.mem_map.mp hy
          have he' : e ∈ es := by
            have z : e ∈ es ∧ e.1 = thash P w k := by simpa using he
            exact z.1
          have e2 : e ∈ rowsOf P w M := by rw [← R.rows]; simpa using he'
          obtain ⟨q, q1, q2⟩ := List.mem_map.mp e2
          exact ⟨q.2, q.1, by rw [← ee, ← q2], R.tup q q1⟩
        · refine wp_if_neg (by decide) ?_
          try refine wpAny_bind (wpAny_pure ?_)
          exact rest
    · rw [pr, n5, jc, show c + (K - c) = K by omega]
      dsimp only
      refine wpAny_pure (no fun hm => ?_)
      obtain ⟨p, pM, hk⟩ := List.mem_map.mp hm
      obtain ⟨i, hi⟩ := List.mem_iff_getElem?.mp pM
      obtain ⟨d, d1, d2, _⟩ := here i p hi hk (K - c) n4
      omega
/-- .. as adding asks -/
theorem seek_all (R : SR P w s.heap a M es ep t) {x : Addr} {k : List Int} (hx : IsT P w s.heap k x) (hu : A.units < cLine) {Q : SetFound → Shared → Prop} (yes : k ∈ M.map (·.2) → Q (.there none) s)
    (no : ∀ K, k ∉ M.map (·.2) → way t.mask (thash P w k) K ∉ t.place.toList → Ahead t.mask (thash P w k) K (· ∈ t.place.toList) → Q (.free (way t.mask (thash P w k) K) false) s) :
    wpAny (model P w) A (setSearch a (.ref x) (thash P w k) true) Q E s := by
  obtain ⟨K, k1, k2, k3⟩ := R.tab.first (by rw [List.length_map]; have := R.room; omega) (thash P w k)
  have small : t.mask ≤ 511 := by rcases R.tab.msk with e | e | e | e <;> omega
  have small2 : 10 * SetTable.turns t.mask ≤ 5260 := by unfold SetTable.turns; omega
  unfold setSearch
  refine seek R hx hu k1 k2 k3 yes (fun z => no K z k2 k3) 100000 0 none rfl (Nat.zero_le _) (by omega) fun i p hp hk => ?_
  obtain ⟨d, d1, d2⟩ := R.tab.met (h := thash P w k) k2 (i := i) (by rw [List.getElem?_map, hp, ← hk]; rfl)
  exact ⟨d, Nat.zero_le _, d1, d2⟩
/-- the table laid anew -/
theorem relay {o : Obj} (ho : s.heap.get? a = some o) (hex : o.ExactSet) (hd : o.data = .set es ep t) (rows : es.toList = rowsOf P w M) (tab : Tb t (M.map fun p => thash P w p.2)) (hle : M.length ≤ t.mask) (nd : (M.map (·.2)).Nodup)
    (tup : ∀ p ∈ M, IsT P w s.heap p.2 p.1) (pl : t.plain = true) (ld : w.params.followText "set-order" = true ∨ t.led = true) {wanted m : Nat} (hw : SetTable.sizeAbove wanted = m + 1) (hm : M4 m) (hn : M.length * 5 < m * 3) {Q : Unit → Shared → Prop}
    (hQ : ∀ h' M' es' ep' t', Heap.SameBut a s.heap h' → SR P w h' a M' es' ep' t' → M'.Perm M → Q () { s with heap := h' }) : wpAny (model P w) A (setRelay a wanted) Q E s := by
  have sz := rows_len rows
  have psz : t.place.size = es.size := by rw [tab.sz, List.length_map, sz]
  have big : m ≤ 511 := by rcases hm with e | e | e | e <;> omega
  obtain ⟨t', order, e, pm, T, em, el, ep'⟩ := laid_ok t (hs := es.map (·.1)) (wanted := wanted) (M := m) (by omega) hm (by rw [Array.size_map]; omega)
  rw [Array.size_map, sz] at pm
  obtain ⟨M2, r1, r2, r3⟩ := order_rows M es order rows pm
  rw [← r3] at T
  have sz2 : (order.filterMap (es[·]?)).size = es.size := by rw [rows_len r1, r2.length_eq, sz]
  rw [setRelay_eq]
  refine wpAny_bind (wpAny_setState_of ho hd (fits_of psz tab.dm (by omega)) ?_)
  dsimp only
  refine wp_if_neg (by rw [hw, sizeLine_eq]; omega) ?_
  try refine wpAny_bind (wpAny_pure ?_)
  rw [e]
  dsimp only
  refine wpAny_bind (wp_if_neg (by rw [sz2]; simp) ?_)
  try refine wpAny_bind (wpAny_pure ?_)
  refine wpAny_pure ?_
  dsimp only
  have sb : Heap.SameBut a s.heap (s.heap.update a (Obj.putSet (order.filterMap (es[·]?)) t')) := Heap.SameBut.update ..
  refine wpAny_storeSet_of ho hd (hQ _ M2 _ (ep + 1) t' sb ⟨⟨_, store_at ho hd, hex, rfl⟩, r1, T, (r2.map (·.2)).nodup_iff.mpr nd, fun p hp => isT_same (tup p (r2.mem_iff.mp hp)) ho hd sb, by rw [ep']; exact pl, by rw [el]; exact ld, by rw [r2.length_eq, em]; exact hn⟩ r2) ?_
  rw [sz2, sz, sizeLine_eq]
  omega
/-- adding a tuple -/
theorem add (R : SR P w s.heap a M es ep t) {x : Addr} {k : List Int} (hx : IsT P w s.heap k x) (hu : A.units < cLine) (hfew : M.length < 250) {Q : Bool → Shared → Prop}
    (hQ : ∀ b h' M' es' ep' t', Heap.SameBut a s.heap h' → SR P w h' a M' es' ep' t' → (k ∈ M.map (·.2) → M' = M) → (k ∉ M.map (·.2) → M'.Perm ((x, k) :: M)) → Q b { s with heap := h' }) :
    wpAny (model P w) A (setAddHashed a (.ref x) (thash P w k)) Q E s := by
  obtain ⟨o, ho, hex, hd⟩ := R.ob
  unfold setAddHashed
  refine wpAny_holding ?_
  rw [show (100000 : Nat) = 99999 + 1 from rfl, setAddHashedIn_succ]
  refine wpAny_bind (wpAny_setState_of ho hd R.fits ?_)
  dsimp only
  refine wp_if_neg (by simp [byScan, Value.scannable]) ?_
  try refine wpAny_bind (wpAny_pure ?_)
  refine wpAny_bind (seek_all R hx hu (fun z => ?_) fun K hnew hK hb => ?_)
  · dsimp only
    exact wpAny_pure (hQ false s.heap M es ep t (Heap.SameBut.refl a s.heap) R (fun _ => rfl) fun y => absurd z y)
  · dsimp only
    refine wpAny_bind (wpAny_setState_of ho hd R.fits ?_)
    dsimp only
    obtain ⟨q1, q2, q3⟩ := R.tab.put hK hb rfl
    have pl1 : (t.put (way t.mask (thash P w k) K)).1.plain = true := R.pl
    have mk1 : (t.put (way t.mask (thash P w k) K)).1.mask = t.mask := rfl
    have ld1 : w.params.followText "set-order" = true ∨ (t.put (way t.mask (thash P w k) K)).1.led = true := R.ld
    have pp : (t.put (way t.mask (thash P w k) K)).2 = SetTable.below t.place (way t.mask (thash P w k) K) := rfl
    generalize t.put (way t.mask (thash P w k) K) = tp at q2 q3 pl1 mk1 ld1 pp ⊢
    obtain ⟨t1, p⟩ := tp
    dsimp only at q2 q3 pl1 mk1 ld1 pp ⊢
    rw [← pp] at q1 q2
    clear pp
    first
      | (refine wpAny_bind ?_; refine wp_if_pos pl1 ?_; refine hashBy_tup hx ?_)
      | refine wp_if_pos pl1 (wpAny_bind (hashBy_tup hx ?_))
    simp only [if_true]
    have rows1 : (SetTable.insertAt es p (thash P w k, Value.ref x)).toList = rowsOf P w (M.take p ++ (x, k) :: M.drop p) := by rw [SetTable.toList_insertAt, rows_put, R.rows]
    have pm : (M.take p ++ (x, k) :: M.drop p).Perm ((x, k) :: M) := put_perm M p (x, k)
    have hh : (M.map fun p => thash P w p.2).take p ++ thash P w k :: (M.map fun p => thash P w p.2).drop p = (M.take p ++ (x, k) :: M.drop p).map fun p => thash P w p.2 := by rw [List.map_append, List.map_cons, List.map_take, List.map_drop]
    rw [hh] at q2
    generalize M.take p ++ (x, k) :: M.drop p = M1 at rows1 pm q2
    generalize SetTable.insertAt es p (thash P w k, Value.ref x) = es1 at rows1 ⊢
    have len1 : M1.length = M.length + 1 := pm.length_eq
    have nd1 : (M1.map (·.2)).Nodup := (pm.map (·.2)).nodup_iff.mpr (List.nodup_cons.mpr ⟨hnew, R.nd⟩)
    have room := R.room
    refine wpAny_bind (wpAny_storeSet_of ho hd ?_ (by rw [rows_len rows1, len1, sizeLine_eq]; omega))
    have ho1 := store_at (es' := es1) (t' := t1) ho hd
    have sb : Heap.SameBut a s.heap (s.heap.update a (Obj.putSet es1 t1)) := Heap.SameBut.update ..
    generalize s.heap.update a (Obj.putSet es1 t1) = h1 at ho1 sb ⊢
    have tup1 : ∀ q ∈ M1, IsT P w h1 q.2 q.1 := fun q hq => by
      rcases List.mem_cons.mp (pm.mem_iff.mp hq) with e | z
      · rw [e]; exact isT_same hx ho hd sb
      · exact isT_same (R.tup q z) ho hd sb
    have full : t1.tooFull = decide ((M.length + 1) * 5 ≥ t.mask * 3) := by
      unfold SetTable.tooFull
      rw [q3, mk1, List.length_map]
    by_cases hf : (M.length + 1) * 5 ≥ t.mask * 3
    · rw [decide_eq_true hf] at full
      first
        | (refine wpAny_bind ?_; refine wp_if_pos (by simp [full]) ?_)
        | (refine wp_if_pos (by simp [full]) ?_; refine wpAny_bind ?_)
      rw [R.size]
      have go : ∀ m, SetTable.sizeAbove (SetTable.grown (M.length + 1)) = m + 1 → M4 m → (M.length + 1) * 5 < m * 3 →
          wpAny (model P w) A (setRelay a (SetTable.grown (M.length + 1))) (fun _ s' => wpAny (model P w) A (pure true) Q E s') E { s with heap := h1 } := fun m a1 a2 a3 =>
        relay (s := { s with heap := h1 }) ho1 hex rfl rows1 q2 (by rw [mk1, len1]; omega) nd1 tup1 pl1 ld1 a1 a2 (by rw [len1]; exact a3) fun h2 M2 es2 ep2 t2 sb2 R2 pm2 =>
          wpAny_pure (hQ true h2 M2 es2 ep2 t2 (sb.trans sb2) R2 (fun z => absurd z hnew) fun _ => pm2.trans pm)
      rcases R.tab.msk with e | e | e | e
      · have n : M.length = 4 := by rw [e] at room hf; omega
        exact go 31 (by rw [n, size_20]) (.inr (.inl rfl)) (by omega)
      · have n : M.length = 18 := by rw [e] at room hf; omega
        exact go 127 (by rw [n, size_76]) (.inr (.inr (.inl rfl))) (by omega)
      · have n : M.length = 76 := by rw [e] at room hf; omega
        exact go 511 (by rw [n, size_308]) (.inr (.inr (.inr rfl))) (by omega)
      · rw [e] at hf; omega
    · rw [decide_eq_false hf] at full
      first
        | refine wp_if_neg (by simp [full]) ?_
        | (refine wpAny_bind ?_; refine wp_if_neg (by simp [full]) ?_; refine wpAny_pure ?_)
      exact wpAny_pure (hQ true h1 M1 es1 (ep + 1) t1 sb ⟨⟨_, ho1, hex, rfl⟩, rows1, q2, nd1, tup1, pl1, ld1, by rw [len1, mk1]; omega⟩ (fun z => absurd z hnew) fun _ => pm)
end
end SQ

/-! # set(t), t a tuple or a list -/
namespace SQ
open PySem PySem.Spec PyProof.Rows L2
/-- a set as it is made -/
abbrev newS (w : World) : Obj := { cls := .type "set", dict := none, data := .set #[] 0 (.fresh 0 0 (!w.params.followText "set-order")) }
abbrev Keeps (h h' : Heap) : Prop := ∀ b o, h.get? b = some o → h'.get? b = some o
section
variable {P : Program} {w : World} {A : Around} {E : Value → Shared → Prop} {s : Shared}
/-- what set.update's loop is to do with the items -/
def Fills (P : Program) (w : World) (u : Nat) (h0 : Heap) (S : Addr) (items : Array Value) (Post : Heap → Prop) : Prop :=
  ∀ (A' : Around) (I : Addr) (fp wr : List Addr) (G : Array GenState → Array GenState → Prop) (Pv : Nat → Value → Prop) (St : Nat → Shared → Prop) (s1 : Shared) (R : Result → Shared → Prop), WalksS P w A'.in1 I fp wr G items.size Pv St → S ∉ fp → (∀ i v, Pv i v → items[i]? = some v) →
    (∀ b ∈ wr, h0.get? b = none) → A'.in1.units ≤ u → St 0 s1 → Keeps h0 s1.heap → s1.heap.get? S = some (newS w) →
    (∀ s', Moved (S :: wr) G s1 s' → Post s'.heap → Keeps h0 s'.heap → R (.ok (.ret .none)) s') → codeAny (model P w) A' (.builtin "set.update.loop" ⟨[.ref S, .ref I], []⟩) R s1
set_option maxHeartbeats 16000000 in
theorem call_set {l : Addr} {items : Array Value} {Post : Heap → Prop} {Q : Value → Shared → Prop} (hh : A.handled = none) (hl : s.heap.IsTuple l items ∨ s.heap.IsList l items) (fill : Fills P w (A.units + 3) s.heap s.heap.objs.size items Post)
    (q : ∀ (h' : Heap) (tk : Nat), Post h' → Keeps s.heap h' → Q (.ref s.heap.objs.size) { s with heap := h', toks := tk }) : wpAny (model P w) A (call (.type "set") [.ref l]) Q E s := by
  have hlS : l < s.heap.objs.size := by rcases hl with ⟨_, e, _⟩ | ⟨_, e, _⟩ <;> exact Heap.lt_size e
  have gone : ∀ b, s.heap.objs.size ≤ b → s.heap.get? b = none := fun b hb => by
    cases z : s.heap.get? b with
    | none => rfl
    | some o => exact absurd (Heap.lt_size z) (Nat.not_lt.mpr hb)
  obtain ⟨c, tl, hmro⟩ := F.called_set.mro
  have hmade := F.called_set.made; have hsub := F.called_set.sub
  refine wpAny_call (codeAny_of_tree (wpAny_pure ⟨Code.quiet_builtin _ (by decide +kernel), codeAny_builtin F.entry_type_call ?_⟩))
  rw [Around.under_plain (weight_type_call_type "set" [.ref l] []) rfl]
  have h1 := F.called_set.notType; have h2 := F.called_set.canCreate; have hct := F.typeCall_set_1 (.ref l)
  repeat (any_goals (first | assumption | wp_step))
  refine codeAny_mono (code_set_led1 (.ref l) (E := E) (Q₁ := fun obj s₁ => obj = .ref s.heap.objs.size ∧ s₁ = { s with heap := s.heap.push (newS w) }) ⟨rfl, rfl⟩) fun r s₁ hr => ?_
  match r, hr with
  | .error e, hr => exact hr
  | .ok .next, hr => exact hr.elim
  | .ok .brk, hr => exact hr.elim
  | .ok .cont, hr => exact hr.elim
  | .ok (.ret obj), hr =>
    obtain ⟨rfl, rfl⟩ := hr
    have hS : (s.heap.push (newS w)).get? s.heap.objs.size = some (newS w) := Heap.get?_push_size _ rfl
    have hT : Shared.TypeIs { s with heap := s.heap.push (newS w) } (.ref s.heap.objs.size) "set" := ⟨_, hS, rfl⟩
    have hli := F.called_set.init.lookup; have hbi := F.called_set.init.bind (.ref s.heap.objs.size)
    repeat (any_goals (first | assumption | wp_step))
    refine codeAny_mono (codeAny_call_builtin (R := wants (fun r s₂ => r = .none ∧ ∃ h' tk, s₂ = { s with heap := h', toks := tk } ∧ Post h' ∧ Keeps s.heap h') E) F.called_set.init.plain F.entry_set_init (check_set_init_1 hT ?_)) fun r₂ s₂ hr₂ => ?_
    · have sz : (s.heap.push (newS w)).objs.size = s.heap.objs.size + 1 := Heap.size_push ..
      have hneI : l ≠ (s.heap.push (newS w)).objs.size := by rw [sz]; exact Nat.ne_of_lt (Nat.lt_succ_of_lt hlS)
      have hSf : s.heap.objs.size ∉ [(s.heap.push (newS w)).objs.size, l] := by
        rw [sz]
        intro z
        rcases List.mem_cons.mp z with z | z
        · exact absurd z (Nat.ne_of_lt (Nat.lt_succ_self _))
        · exact absurd (List.mem_singleton.mp z) (Nat.ne_of_gt hlS)
      have hh3 : A.in1.in1.in1.handled = none := by simp [hh]
      have fin : ∀ {s1 s' : Shared} {G : Array GenState → Array GenState → Prop} {wr : List Addr}, Moved (s.heap.objs.size :: wr) G s1 s' → s1.gens = s.gens → s1.drawn = s.drawn → s1.os = s.os → (∀ a b : Array GenState, G a b → b = a) → ∃ h' tk, s' = { s with heap := h', toks := tk } := by
        intro s1 s' G wr hm e1 e2 e3 hG
        refine ⟨s'.heap, s'.toks, ?_⟩
        have g := hG _ _ hm.gens
        have d := hm.drawn
        have o := hm.os
        cases s'
        cases s
        cases s1
        cases e1; cases e2; cases e3; cases g; cases d; cases o
        rfl
      rcases hl with ⟨ol, hol, hcl, nl, hdl⟩ | ⟨ol, hol, hcl, nl, hdl⟩
      · obtain ⟨ocls, odict, odata, oslots⟩ := ol
        simp only at hcl hdl
        subst hcl; subst hdl
        have hol' : (s.heap.push (newS w)).get? l = some { cls := .type "tuple", dict := odict, data := .seq items nl, slots := oslots } := Heap.get?_push_of_some _ hol
        have hsls := F.sub_tuple_set; have hslf := F.sub_tuple_frozenset
        have hne : (Value.type "tuple" == Value.type "dict") = false := by decide
        have hl1 : (s.heap.push (newS w)).IsTuple l items := ⟨_, hol', rfl, nl, rfl⟩
        unfold Builtin.«set.__init__» noKeywords Builtin.Frozenset.updateFrom
        generalize hPI : pyIter = PI
        wp_walk
        subst hPI
        refine wpAny_pyIter_tuple hl1 (wpAny_bind (wpAny_runValue ?_))
        refine fill _ _ _ _ _ _ _ _ _ ((Walks.tuple hh3 _ l hneI items).toS) hSf (fun _ _ z => z) (fun b hb => gone b (by rw [List.mem_singleton.mp hb, sz]; exact Nat.le_succ _)) (Nat.le_refl _) ⟨⟨_, Heap.get?_push_size _ rfl, rfl, rfl⟩, (hl1.push _)⟩
          (fun b o e => Heap.get?_push_of_some _ (Heap.get?_push_of_some _ e)) (Heap.get?_push_of_some _ hS) fun s' hm hp hk => ?_
        obtain ⟨h', tk, e⟩ := fin hm rfl rfl rfl (fun _ _ z => z)
        subst e
        exact wpAny_pure (wpAny_pure ⟨rfl, h', tk, rfl, hp, hk⟩)
      · obtain ⟨ocls, odict, odata, oslots⟩ := ol
        simp only at hcl hdl
        subst hcl; subst hdl
        have hol' : (s.heap.push (newS w)).get? l = some { cls := .type "list", dict := odict, data := .seq items nl, slots := oslots } := Heap.get?_push_of_some _ hol
        have hsls := F.sub_list_set; have hslf := F.sub_list_frozenset
        have hne : (Value.type "list" == Value.type "dict") = false := by decide
        have hl1 : (s.heap.push (newS w)).IsList l items := ⟨_, hol', rfl, nl, rfl⟩
        unfold Builtin.«set.__init__» noKeywords Builtin.Frozenset.updateFrom
        generalize hPI : pyIter = PI
        wp_walk
        subst hPI
        refine wpAny_pyIter_list hl1 (wpAny_bind (wpAny_runValue ?_))
        refine fill _ _ _ _ _ _ _ _ _ ((Walks.list hh3 _ l hneI items).toS) hSf (fun _ _ z => z) (fun b hb => gone b (by rw [List.mem_singleton.mp hb, sz]; exact Nat.le_succ _)) (Nat.le_refl _) ⟨⟨_, Heap.get?_push_size _ rfl, rfl, rfl⟩, (hl1.push _)⟩
          (fun b o e => Heap.get?_push_of_some _ (Heap.get?_push_of_some _ e)) (Heap.get?_push_of_some _ hS) fun s' hm hp hk => ?_
        obtain ⟨h', tk, e⟩ := fin hm rfl rfl rfl (fun _ _ z => z)
        subst e
        exact wpAny_pure (wpAny_pure ⟨rfl, h', tk, rfl, hp, hk⟩)
    · match r₂, hr₂ with
      | .error e, z => exact z
      | .ok .next, z => exact z.elim
      | .ok .brk, z => exact z.elim
      | .ok .cont, z => exact z.elim
      | .ok (.ret r), z =>
        obtain ⟨rfl, h', tk, rfl, hp, hk⟩ := z
        repeat (any_goals (first | assumption | wp_step))
        exact q h' tk hp hk
end
end SQ

/-! # sorted(set(t)): rules -/
namespace SQ
open PySem PySem.Spec PyProof.Rows L2
section
variable {P : Program} {w : World} {A : Around} {E : Value → Shared → Prop} {s : Shared}
theorem SR.keep {h h' : Heap} {a : Addr} {M : Mem} {es : Array (Int × Value)} {ep : Nat} {t : SetTable} (R : SR P w h a M es ep t) (ha : ∀ o, h.get? a = some o → h'.get? a = some o) (ht : ∀ p ∈ M, IsT P w h' p.2 p.1) : SR P w h' a M es ep t :=
  ⟨let ⟨o, ho, r⟩ := R.ob; ⟨o, ha o ho, r⟩, R.rows, R.tab, R.nd, ht, R.pl, R.ld, R.room⟩
theorem sr_new {h : Heap} {a : Addr} (ho : h.get? a = some (newS w)) : SR P w h a [] #[] 0 (.fresh 0 0 (!w.params.followText "set-order")) where
  ob := ⟨_, ho, ⟨rfl, rfl, rfl⟩, rfl⟩
  rows := rfl
  tab := ⟨List.Pairwise.nil, rfl, rfl, .inl rfl, fun i h j hi => by simp at hi⟩
  nd := List.nodup_nil
  tup := fun p hp => by cases hp
  pl := rfl
  ld := by
    show _ ∨ (!w.params.followText "set-order") = true
    cases e : w.params.followText "set-order" with
    | true => exact .inl rfl
    | false => exact .inr rfl
  room := by
    show 0 * 5 < 7 * 3
    decide
/-- the loop over tuples -/
theorem fills_tups {S : Addr} {h0 : Heap} {items : Array Value} (ks : Mem) (hit : items.toList = ks.map fun p => Value.ref p.1) (hk : ∀ p ∈ ks, IsT P w h0 p.2 p.1) (hfew : ks.length < 250) (hS : h0.get? S = none) {u : Nat} (hu : u < cLine) :
    Fills P w u h0 S items (fun h' => ∃ M es ep t, SR P w h' S M es ep t ∧ Got ks ks.length M) := by
  intro A' I fp wr G Pv St s1 R W hSf hPv hwr hU hst hkp hnew hR
  have hz : items.size = ks.length := by
    rw [← Array.length_toList, hit]
    exact List.length_map _
  have hSw : S ∉ wr := fun z => hSf (W.sub _ z)
  have more : ∀ b ∈ wr, b ∈ S :: wr := fun b hb => List.mem_cons_of_mem _ hb
  have kept : ∀ {x y : Shared}, Moved wr G x y → Keeps h0 x.heap → Keeps h0 y.heap := fun hm k b o e => hm.heap b o (fun z => by rw [hwr b z] at e; cases e) (k b o e)
  have step : ∀ (d i : Nat) (x : Shared) (R : Result → Shared → Prop), items.size - i = d → i ≤ items.size → St i x → Keeps h0 x.heap → (∃ M es ep t, SR P w x.heap S M es ep t ∧ Got ks i M) →
      (∀ y, Moved (S :: wr) G x y → (∃ M es ep t, SR P w y.heap S M es ep t ∧ Got ks ks.length M) → Keeps h0 y.heap → R (.ok (.ret .none)) y) →
      codeAny (model P w) A' (.builtin "set.update.loop" ⟨[.ref S, .ref I], []⟩) R x := by
    intro d
    induction d with
    | zero =>
      intro i x R hd hi hst hkp ⟨M, es, ep, t, hS, g⟩ hR
      obtain rfl : i = items.size := by omega
      refine codeAny_builtin F.entry_set_update_loop ?_
      rw [Around.under_plainId F.plain_set_update_loop _]
      refine wpAny_bind (W.done x _ _ hst fun y hm => wpAny_pure (hR y (hm.mono more) ⟨M, es, ep, t, ?_, by rw [← hz]; exact g⟩ (kept hm hkp)))
      exact hS.keep (fun o e => hm.heap S o hSw e) fun p hp => isT_keep (hk p (List.mem_of_mem_take (g.sub p hp))) (kept hm hkp)
    | succ d ih =>
      intro i x R hd hi hst hkp ⟨M, es, ep, t, hS, g⟩ hR
      refine codeAny_builtin F.entry_set_update_loop ?_
      rw [Around.under_plainId F.plain_set_update_loop _]
      refine wpAny_bind (W.item i x _ _ (by omega) hst fun v y hP hst' hm => ?_)
      have ky := kept hm hkp
      have hi' := hPv i v hP
      rw [← Array.getElem?_toList, hit, List.getElem?_map] at hi'
      obtain ⟨p, hp, rfl⟩ := Option.map_eq_some_iff.mp hi'
      have hx : IsT P w y.heap p.2 p.1 := isT_keep (hk p (List.mem_of_getElem? hp)) ky
      refine wpAny_bind (wpAny_holding ?_)
      unfold setAdd
      refine wpAny_holding (wpAny_bind (wpAny_pyHash_tuple (Nat.lt_of_le_of_lt hU hu) hx ?_))
      have hy : SR P w y.heap S M es ep t := hS.keep (fun o e => hm.heap S o hSw e) fun p hp => isT_keep (hk p (List.mem_of_mem_take (g.sub p hp))) ky
      refine add (s := { y with toks := y.toks + (p.2.length + 1) }) hy hx (Nat.lt_of_le_of_lt hU hu) (by have := g.len; omega) fun b h' M' es' ep' t' sb R' c1 c2 => ?_
      have kh : Keeps h0 h' := fun b o e => (sb.2 b (fun z => by rw [z, ‹h0.get? S = none›] at e; cases e)).trans (ky b o e)
      have g' : Got ks (i + 1) M' := by
        rcases Classical.em (p.2 ∈ M.map (·.2)) with c | c
        · rw [c1 c]; exact g.same hp c
        · exact g.more hp (c2 c)
      refine wpAny_pure ⟨plainId_quiet F.plain_set_update_loop _, ih (i + 1) _ R (by omega) (by omega) (W.frame _ y _ _ hst' (Nat.le_add_right _ _) fun b hb o e => ?_) kh ⟨M', es', ep', t', R', g'⟩ fun z hm2 => hR z ?_⟩
      · rw [sb.2 b (fun z : b = S => hSf (by rw [← z]; exact hb))]
        exact e
      · exact Moved.trans W.gtrans ((hm.mono more).then_heap (Nat.le_add_right _ _) fun b o hb e => by
          rw [sb.2 b (fun z : b = S => hb (by rw [z]; exact List.mem_cons_self))]
          exact e) hm2
  exact step _ 0 s1 R rfl (Nat.zero_le _) hst hkp ⟨[], #[], 0, _, sr_new hnew, Got.zero ks⟩ hR
/-- .. over ints -/
theorem fills_ints {S : Addr} {h0 : Heap} {items : Array Value} (ns : List Int) (hit : IntsAre items.toList ns) (hfew : ns.length + 1 < scanBound) {u : Nat} (hS : h0.get? S = none) : Fills P w u h0 S items (fun h' => ∃ c, c ≤ ns.length ∧ SetR w h' S (fun j => decide (j ∈ ns)) c) := by
  intro A' I fp wr G Pv St s1 R W hSf hPv hwr hU hst hkp hnew hR
  have hz : items.size = ns.length := by
    have q := IntsAre.length hit
    rwa [Array.length_toList] at q
  refine set_update_ints W S hSf ns hz hfew (fun i v hv => ?_) items.size 0 s1 rfl (Nat.zero_le _) hst ⟨0, Nat.le_refl _, setR_new_at hnew⟩ fun s' c hm hc R' => hR s' hm ⟨c, by omega, R'⟩ fun b o e => ?_
  · have hv' := hPv i v hv
    have hi : i < ns.length := by rw [← hz]; exact (Array.getElem?_eq_some_iff.mp hv').1
    obtain ⟨t, e⟩ := IntsAre.int_at hit i v (by rw [Array.getElem?_toList]; exact hv')
    exact ⟨ns[i], t, List.getElem?_eq_getElem hi, by rw [e, List.getD_eq_getElem?_getD, List.getElem?_eq_getElem hi]; rfl⟩
  · refine hm.heap b o (fun z => ?_) (hkp b o e)
    rcases List.mem_cons.mp z with z | z
    · rw [z, hS] at e; cases e
    · rw [hwr b z] at e; cases e
/-! ### sorted -/
theorem reads_items {h : Heap} {k : List Int} {vs : List Value} (x : ItemsAre (intKind P w) k vs) : ReadsAll h vs (k.map PyData.int) [] := by
  induction x with
  | nil => exact .nil
  | cons h1 _ ih =>
    obtain ⟨t, rfl⟩ := Value.isInt_shape h1
    exact .cons (.int _ t) ih
theorem reads_tup {h : Heap} {k : List Int} {b : Addr} (x : IsT P w h k b) : Reads h (.ref b) (.tuple (k.map PyData.int)) [] := by
  obtain ⟨o, its, n, ho, hc, hd, hi⟩ := x
  exact .tuple ho hc hd (reads_items hi)
abbrev encT (p : Addr × List Int) : PyData := .tuple (p.2.map PyData.int)
theorem enc_le : PySem.W.dataLe false encT = fun p q => decide (p.2 ≤ q.2) := by
  funext p q
  show (!PySem.W.dataLt (.tuple (q.2.map .int)) (.tuple (p.2.map .int))) = _
  rw [PySem.W.dataLt_tuple]
  have e := PySem.W.dataLt_ints q.2 p.2
  unfold PySem.W.rowLt at e
  rw [e]
  by_cases h : q.2 < p.2
  · rw [decide_eq_true h, decide_eq_false (fun z : p.2 ≤ q.2 => z h)]; rfl
  · rw [decide_eq_false h, decide_eq_true (show p.2 ≤ q.2 from h)]; rfl
theorem depth_ints : ∀ k : List Int, PyData.depthAll (k.map PyData.int) = 0
  | [] => rfl
  | n :: k => by simp [PyData.depthAll, PyData.depth, depth_ints k]
theorem sorted_tuples {a : Addr} {M : Mem} {es : Array (Int × Value)} {ep : Nat} {t : SetTable} {Q : Value → Shared → Prop} (R : SR P w s.heap a M es ep t) (hh : A.handled = none) (hu : A.units + 64 < cLine) (hne : ∀ p ∈ M, p.2 ≠ []) (hfew : M.length < 1000)
    (hQ : ∀ s' p (out : Array Value) (c : Nat) (M' : Mem), Keeps s.heap s'.heap → s'.gens = s.gens → s'.os = s.os → s.heap.objs.size ≤ p → s'.heap.get? p = some (seqObj "list" out c) → out.toList = M'.map (fun q => Value.ref q.1) →
      M'.Perm M → M'.Pairwise (fun q r => q.2 ≤ r.2) → Q (.ref p) s') : wpAny (model P w) A (call (.builtin "sorted") [.ref a]) Q E s := by
  obtain ⟨o, ho, hex, hd⟩ := R.ob
  have hsz := R.size
  refine Calls.call_function_entry kind_sorted plain_sorted entry_sorted (args_sorted1 _) ?_
  unfold Builtin.«sorted»
  refine wpAny_bind (m := checkCount "sorted" 1 1 _) (wpAny_pure (wpAny_bind ?_))
  refine collect_set (A := A.in1) hh ⟨o, ho, hex.1, hd⟩ R.fits (by unfold scanBound; omega) R.tab.ris R.ld fun s1 vs k1 hz g1 o1 pm => ?_
  have hes : es.toList.map (·.2) = M.map fun q => Value.ref q.1 := by
    rw [R.rows]
    unfold rowsOf
    rw [List.map_map]
    rfl
  rw [hes] at pm
  -- which members the values are
  have back : ∀ us : List Value, (∀ v ∈ us, v ∈ M.map fun q => Value.ref q.1) → ∃ M1 : Mem, us = M1.map (fun q => Value.ref q.1) ∧ ∀ q ∈ M1, q ∈ M := by
    intro us
    induction us with
    | nil => exact fun _ => ⟨[], rfl, fun _ z => by cases z⟩
    | cons v us ih =>
      intro h
      obtain ⟨q, hq, e⟩ := List.mem_map.mp (h v List.mem_cons_self)
      obtain ⟨M1, e1, h1⟩ := ih fun u hu => h u (List.mem_cons_of_mem _ hu)
      exact ⟨q :: M1, by rw [e1, ← e]; rfl, fun r hr => by
        rcases List.mem_cons.mp hr with z | z
        · rw [z]; exact hq
        · exact h1 r z⟩
  obtain ⟨M1, rfl, in1⟩ := back vs fun v hv => pm.mem_iff.mp hv
  have ndM : M.Nodup := nodup_of_map R.nd
  have one : ∀ q ∈ M, ∀ r ∈ M, q.1 = r.1 → q = r := fun q hq r hr e => by
    have x := R.tup q hq
    rw [e] at x
    exact Prod.ext e (x.inj (R.tup r hr))
  have ndr : (M.map fun q => Value.ref q.1).Nodup := by
    unfold List.Nodup
    rw [List.pairwise_map]
    refine List.Pairwise.imp_of_mem (fun {q r} hq hr hn e => ?_) ndM
    injection e with e
    exact hn (one q hq r hr e)
  have pM : M1.Perm M := by
    refine (List.perm_ext_iff_of_nodup (nodup_of_map (pm.nodup_iff.mpr ndr)) ndM).mpr fun q => ⟨in1 q, fun hq => ?_⟩
    obtain ⟨r, hr, e⟩ := List.mem_map.mp (pm.mem_iff.mpr (List.mem_map_of_mem (f := fun q => Value.ref q.1) hq))
    injection e with e
    rw [← one r (in1 r hr) q hq e]
    exact hr
  have len1 : M1.length = M.length := pM.length_eq
  refine wpAny_bind (wpAny_newList ?_ (by rw [List.length_map, sizeLine_eq]; omega))
  have hoL : (s1.heap.push (seqObj "list" (M1.map fun q => Value.ref q.1).toArray 0)).get? s1.heap.objs.size = some (seqObj "list" (M1.map fun q => Value.ref q.1).toArray 0) := Heap.get?_push_size _ rfl
  have tk : ∀ q ∈ M, IsT P w (s1.heap.push (seqObj "list" (M1.map fun q => Value.ref q.1).toArray 0)) q.2 q.1 := fun q hq => isT_keep (R.tup q hq) fun b u e => Heap.get?_push_of_some _ (k1 b u e)
  have each : ∀ {X : Value → Addr × List Int → Prop} (M2 : Mem), (∀ q ∈ M2, X (.ref q.1) q) → PySem.W.EachIs X (M2.map fun q => Value.ref q.1) M2 := by
    intro X M2
    induction M2 with
    | nil => exact fun _ => .nil
    | cons q M2 ih => exact fun h => .cons (h q List.mem_cons_self) (ih fun r hr => h r (List.mem_cons_of_mem _ hr))
  have un : ∀ {us : List Value} {M2 : Mem}, PySem.W.EachIs (fun v (q : Addr × List Int) => v = Value.ref q.1) us M2 → us = M2.map fun q => Value.ref q.1 := by
    intro us M2 h
    induction h with
    | nil => rfl
    | cons h1 _ ih => rw [h1, ih]; rfl
  have hal : PySem.W.AllAlike (M1.map encT) := .of fun b b' => by
    show PySem.W.alike (.tuple _) (.tuple _) = true
    rw [PySem.W.alike]
    exact PySem.W.alike_ints _ _
  have hk : PySem.W.Sortable (M1.map encT) := .inl fun d hd => by
    obtain ⟨q, hq, rfl⟩ := List.mem_map.mp hd
    cases e : q.2 with
    | nil => exact absurd e (hne q (in1 q hq))
    | cons n k => exact ⟨.int n, k.map .int, by unfold encT; rw [e]; rfl⟩
  refine wpAny_bind (wpAny_holding (PySem.W.list_sort_data (s := { s1 with heap := s1.heap.push (seqObj "list" (M1.map fun q => Value.ref q.1).toArray 0) }) (enc := encT) (bs := M1) hoL (each (X := fun v q => v = Value.ref q.1) M1 fun _ _ => rfl)
    (each M1 fun q hq => ⟨[], reads_tup (tk q (in1 q hq)), by simp⟩) hal hk (by rw [sizeLine_eq]; omega) (fun b _ => ?_) fun out _ ho => ?_))
  · have e : (encT b).depth = 1 := by
      show PyData.depthAll (b.2.map PyData.int) + 1 = 1
      rw [depth_ints]
    rw [e]
    show A.units + 1 + 1 + 1 < cLine
    omega
  · rw [enc_le] at ho
    have eo := un ho
    have pS : (M1.mergeSort fun p q => decide (p.2 ≤ q.2)).Perm M := (List.mergeSort_perm _ _).trans pM
    have sS : (M1.mergeSort fun p q => decide (p.2 ≤ q.2)).Pairwise (fun q r => q.2 ≤ r.2) := by
      refine (List.pairwise_mergeSort (le := fun p q : Addr × List Int => decide (p.2 ≤ q.2)) (fun a b c h1 h2 => ?_) (fun a b => ?_) M1).imp fun h => of_decide_eq_true h
      · exact decide_eq_true (List.le_trans (of_decide_eq_true h1) (of_decide_eq_true h2))
      · rcases List.le_total a.2 b.2 with z | z
        · rw [decide_eq_true z]; rfl
        · rw [decide_eq_true z, Bool.or_true]
    obtain ⟨c, hc⟩ := sortedHeap_at (vs := M1.map fun q => Value.ref q.1) (out := List.toArray out) hoL
    refine wpAny_pure ⟨_, rfl, hQ _ s1.heap.objs.size (List.toArray out) c _ (fun b u e => ?_) g1 o1 hz hc eo pS sS⟩
    have lt := Heap.lt_size (k1 b u e)
    show (sortedHeap (s1.heap.push (seqObj "list" (M1.map fun q => Value.ref q.1).toArray 0)) s1.heap.objs.size (M1.map fun q => Value.ref q.1) (List.toArray out)).get? b = some u
    rw [sortedHeap_old (Nat.ne_of_lt lt) (by rw [size_push']; exact Nat.lt_succ_of_lt lt)]
    exact Heap.get?_push_of_some _ (k1 b u e)
end
end SQ

/-! # The data layer: sorted(set(..)) -/
namespace DL
open PySem L2 Evl PySem.Spec PyProof.Rows SQ
/-! ### the sorted list of what a list has, each once -/
section
variable {α : Type}
theorem strict_unique {lt : α → α → Prop} (ir : ∀ x, ¬ lt x x) (tr : ∀ x y z, lt x y → lt y z → lt x z) : ∀ {l m : List α}, l.Pairwise lt → m.Pairwise lt → (∀ x, x ∈ l ↔ x ∈ m) → l = m
  | [], [], _, _, _ => rfl
  | [], b :: m, _, _, h => absurd ((h b).mpr List.mem_cons_self) (by simp)
  | a :: l, [], _, _, h => absurd ((h a).mp List.mem_cons_self) (by simp)
  | a :: l, b :: m, h1, h2, h => by
    have ha := List.pairwise_cons.mp h1
    have hb := List.pairwise_cons.mp h2
    have e : a = b := by
      rcases List.mem_cons.mp ((h a).mp List.mem_cons_self) with z | z
      · exact z
      · rcases List.mem_cons.mp ((h b).mpr List.mem_cons_self) with y | y
        · exact y.symm
        · exact absurd (tr _ _ _ (ha.1 b y) (hb.1 a z)) (ir a)
    subst e
    refine congrArg (a :: ·) (strict_unique ir tr ha.2 hb.2 fun x => ⟨fun z => ?_, fun z => ?_⟩)
    · rcases List.mem_cons.mp ((h x).mp (List.mem_cons_of_mem _ z)) with y | y
      · rw [y] at z; exact absurd (ha.1 a z) (ir a)
      · exact y
    · rcases List.mem_cons.mp ((h x).mpr (List.mem_cons_of_mem _ z)) with y | y
      · rw [y] at z; exact absurd (hb.1 a z) (ir a)
      · exact y
def once [DecidableEq α] : List α → List α
  | [] => []
  | x :: xs => if x ∈ xs then once xs else x :: once xs
theorem mem_once [DecidableEq α] {x : α} : ∀ {l : List α}, x ∈ once l ↔ x ∈ l
  | [] => Iff.rfl
  | y :: l => by
    unfold once
    split
    · rename_i h
      rw [mem_once, List.mem_cons]
      exact ⟨.inr, fun z => z.elim (fun e => e ▸ h) id⟩
    · rw [List.mem_cons, List.mem_cons, mem_once]
theorem once_nodup [DecidableEq α] : ∀ l : List α, (once l).Nodup
  | [] => List.nodup_nil
  | y :: l => by
    unfold once
    split
    · exact once_nodup l
    · rename_i h
      exact List.nodup_cons.mpr ⟨fun z => h (mem_once.mp z), once_nodup l⟩
end
theorem nodup_le {α : Type} [DecidableEq α] : ∀ {l m : List α}, l.Nodup → (∀ x, x ∈ l → x ∈ m) → l.length ≤ m.length
  | [], _, _, _ => Nat.zero_le _
  | x :: l, m, hn, hs => by
    have h := List.nodup_cons.mp hn
    have hx := hs x List.mem_cons_self
    have ih := nodup_le (m := m.erase x) h.2 fun y hy => (List.mem_erase_of_ne (show y ≠ x from fun e => h.1 (e ▸ hy))).2 (hs y (List.mem_cons_of_mem _ hy))
    have e := List.length_erase_of_mem hx
    have p := List.length_pos_of_mem hx
    rw [List.length_cons]
    omega
def sortSI (ns : List Int) : List Int := sortI (once ns)
theorem sortSI_mem {ns : List Int} {x : Int} : x ∈ sortSI ns ↔ x ∈ ns := (sortI_perm _).mem_iff.trans mem_once
theorem sortSI_lt (ns : List Int) : (sortSI ns).Pairwise (· < ·) := by
  refine ((sortI_sorted (once ns)).and ((sortI_perm (once ns)).nodup_iff.mpr (once_nodup ns))).imp fun h => ?_
  have h1 := h.1
  have h2 := h.2
  omega
theorem sortSI_of {ns ys : List Int} (h : ys.Pairwise (· < ·)) (m : ∀ x, x ∈ ys ↔ x ∈ ns) : ys = sortSI ns :=
  strict_unique (fun x => Int.lt_irrefl x) (fun _ _ _ => Int.lt_trans) h (sortSI_lt ns) fun x => (m x).trans sortSI_mem.symm
def sortST (ks : List (List Int)) : List (List Int) := (once ks).mergeSort fun a b => decide (a ≤ b)
theorem sortST_mem {ks : List (List Int)} {x : List Int} : x ∈ sortST ks ↔ x ∈ ks := (List.mergeSort_perm _ _).mem_iff.trans mem_once
theorem le_lt {a b : List Int} (h : a ≤ b) (n : a ≠ b) : a < b := by
  rcases Classical.em (a < b) with z | z
  · exact z
  · exact absurd (List.le_antisymm h z) n
theorem sortST_lt (ks : List (List Int)) : (sortST ks).Pairwise (· < ·) := by
  have h : (sortST ks).Pairwise (· ≤ ·) := (List.pairwise_mergeSort (le := fun a b : List Int => decide (a ≤ b)) (fun a b c h1 h2 => decide_eq_true (List.le_trans (of_decide_eq_true h1) (of_decide_eq_true h2))) (fun a b => by
    rcases List.le_total a b with z | z
    · rw [decide_eq_true z]; rfl
    · rw [decide_eq_true z, Bool.or_true]) _).imp fun h => of_decide_eq_true h
  have n : (sortST ks).Nodup := (List.mergeSort_perm _ _).nodup_iff.mpr (once_nodup ks)
  exact (h.and n).imp fun h => le_lt h.1 h.2
theorem sortST_of {ks ys : List (List Int)} (h : ys.Pairwise (· < ·)) (m : ∀ x, x ∈ ys ↔ x ∈ ks) : ys = sortST ks :=
  strict_unique (fun x => List.lt_irrefl x) (fun _ _ _ => List.lt_trans) h (sortST_lt ks) fun x => (m x).trans sortST_mem.symm

/-! ### rules -/
section
variable {X : Cx}
def rSetI (K : PySem.W.Frag) (w : World) : List V → Hp → VK → Prop := fun vs H Q => ∃ (a : Addr) (ns : List Int), vs = [.ref a] ∧ (SqL K H a (ns.map V.int) ∨ SqT K H a (ns.map V.int)) ∧ ns.length < 4000 ∧
  ∀ (p : Addr) (n : Nat), H p = none → n ≤ (once ns).length → Q (.ref p) (upd H p (SetO w p (fun j => decide (j ∈ ns)) n))
theorem cr_setI (hc : X.calm = true) : CallR X (.type "set") (rSetI X.K X.w) := by
  intro pins s σ H vs us Q I r h
  obtain ⟨a, ns, rfl, hs, hz, q⟩ := h
  rw [Vals.ref1 r]
  have gone : s.heap.get? s.heap.objs.size = none := by
    cases z : s.heap.get? s.heap.objs.size with
    | none => rfl
    | some o => exact absurd (Heap.lt_size z) (Nat.lt_irrefl _)
  obtain ⟨its, hl, hi⟩ : ∃ its : List Value, (s.heap.IsTuple a its.toArray ∨ s.heap.IsList a its.toArray) ∧ IntsAre its ns := by
    rcases hs with hs | hs
    · obtain ⟨its, rv, p, _⟩ := I.list hs
      exact ⟨its, .inr p.isList, by simpa using RZ.intsAre_vals rv⟩
    · obtain ⟨its, rv, p, _⟩ := I.tuple hs
      exact ⟨its, .inl p, by simpa using RZ.intsAre_vals rv⟩
  refine call_set (P := X.prog) (w := X.w) (I.ok.hd hc) hl (fills_ints ns (by simpa using hi) (by unfold scanBound; omega) gone) fun h' tk ⟨c, hle, R⟩ k => ?_
  have few : c ≤ (once ns).length := by
    obtain ⟨o, es, ep, t, _, _, _, _, nd, mem, _, _, sz, _⟩ := R
    have e : (es.toList.map keyOf).length = c := by rw [List.length_map, Array.length_toList]; exact sz
    rw [← e]
    exact nodup_le nd fun x hx => mem_once.mpr (of_decide_eq_true ((mem x).mpr hx))
  exact ⟨.ref s.heap.objs.size, _, I.laid (t' := tk) k (Nat.le_refl _) (setO_new R), rfl, q _ c (I.hok.fresh (Nat.le_refl _)) few⟩
/-- a set of tuples, the tuples themselves apart -/
def S0 (P : Program) (w : World) (h : Heap) (a : Addr) (M : Mem) : Prop := ∃ (es : Array (Int × Value)) (ep : Nat) (t : SetTable), (∃ o, h.get? a = some o ∧ o.ExactSet ∧ o.data = .set es ep t) ∧
  ∀ h', (∃ o, h'.get? a = some o ∧ o.ExactSet ∧ o.data = .set es ep t) → (∀ p ∈ M, IsT P w h' p.2 p.1) → SR P w h' a M es ep t
theorem SR.s0 {P : Program} {w : World} {h : Heap} {a : Addr} {M : Mem} {es : Array (Int × Value)} {ep : Nat} {t : SetTable} (R : SR P w h a M es ep t) : S0 P w h a M :=
  ⟨es, ep, t, R.ob, fun h' ob ht => ⟨ob, R.rows, R.tab, R.nd, ht, R.pl, R.ld, R.room⟩⟩
def SO (P : Program) (w : World) (a : Addr) (M : Mem) : HO := .ext fun h => S0 P w h a M
theorem so_new {P : Program} {w : World} {H : Hp} {h : Heap} {a : Addr} {M : Mem} (R : S0 P w h a M) : ObjOk P w H h a (SO P w a M) := by
  refine ⟨R, ?_, fun h1 h2 p k => ?_⟩
  · obtain ⟨_, _, _, ⟨o, ho, _⟩, _⟩ := R
    exact ⟨o, ho⟩
  · have p' : S0 P w h1 a M := p
    obtain ⟨es, ep, t, ⟨o, ho, r⟩, z⟩ := p'
    exact ⟨es, ep, t, ⟨o, k o ho, r⟩, z⟩
def rSetT (K : PySem.W.Frag) (P : Program) (w : World) : List V → Hp → VK → Prop := fun vs H Q => ∃ (a : Addr) (ks : Mem), vs = [.ref a] ∧ (SqL K H a (ks.map fun p => V.ref p.1) ∨ SqT K H a (ks.map fun p => V.ref p.1)) ∧ (∀ p ∈ ks, SqT K H p.1 (p.2.map V.int)) ∧ ks.length < 250 ∧
  ∀ (p : Addr) (M : Mem), H p = none → (∀ q ∈ M, q ∈ ks) → (∀ q ∈ ks, q.2 ∈ M.map (·.2)) → (M.map (·.2)).Nodup → M.length ≤ ks.length → Q (.ref p) (upd H p (SO P w p M))
theorem cr_setT (hc : X.calm = true) (hu : X.A.units + 64 < cLine) : CallR X (.type "set") (rSetT X.K X.prog X.w) := by
  intro pins s σ H vs us Q I r h
  obtain ⟨a, ks, rfl, hs, hk, hz, q⟩ := h
  rw [Vals.ref1 r]
  have gone : s.heap.get? s.heap.objs.size = none := by
    cases z : s.heap.get? s.heap.objs.size with
    | none => rfl
    | some o => exact absurd (Heap.lt_size z) (Nat.lt_irrefl _)
  obtain ⟨its, hl, hi⟩ : ∃ its : List Value, (s.heap.IsTuple a its.toArray ∨ s.heap.IsList a its.toArray) ∧ its = ks.map fun p => Value.ref p.1 := by
    rcases hs with hs | hs
    · obtain ⟨its, rv, p, _⟩ := I.list hs
      exact ⟨its, .inr p.isList, refs_of_vals rv⟩
    · obtain ⟨its, rv, p, _⟩ := I.tuple hs
      exact ⟨its, .inl p, refs_of_vals rv⟩
  refine call_set (P := X.prog) (w := X.w) (I.ok.hd hc) hl (fills_tups ks (by simpa using hi) (fun p hp => I.isT (hk p hp)) hz gone (by omega)) fun h' tk ⟨M, es, ep, t, R, g⟩ k => ?_
  exact ⟨.ref s.heap.objs.size, _, I.laid (t' := tk) k (Nat.le_refl _) (so_new (SR.s0 R)), rfl, q _ M (I.hok.fresh (Nat.le_refl _)) (fun p hp => List.mem_of_mem_take (g.sub p hp)) (fun p hp => g.all p (by rw [List.take_length]; exact hp)) R.nd g.len⟩
def rSortT (K : PySem.W.Frag) (P : Program) (w : World) : List V → Hp → VK → Prop := fun vs H Q => ∃ (a : Addr) (M : Mem), vs = [.ref a] ∧ H a = some (SO P w a M) ∧ (∀ p ∈ M, SqT K H p.1 (p.2.map V.int)) ∧ (∀ p ∈ M, p.2 ≠ []) ∧ M.length < 1000 ∧
  ∀ (M' : Mem) (p : Addr), M'.Perm M → M'.Pairwise (fun q r => q.2 ≤ r.2) → H p = none → Q (.ref p) (upd H p (.lst (M'.map fun q => V.ref q.1)))
theorem cr_sortT' (hc : X.calm = true) (hu : X.A.units + 64 < cLine) : CallR X (.builtin "sorted") (rSortT X.K X.prog X.w) := by
  intro pins s σ H vs us Q I r h
  obtain ⟨a, M, rfl, ha, hk, hne, hz, q⟩ := h
  have R0 : S0 X.prog X.w s.heap a M := (I.hok a _ ha).1
  obtain ⟨es, ep, t, ob, z⟩ := R0
  rw [Vals.ref1 r]
  refine sorted_tuples (z s.heap ob fun p hp => I.isT (hk p hp)) (I.ok.hd hc) hu hne hz fun s' p out c M' k g o hp hg hout pm pw => ?_
  have len : (M'.map fun q => V.ref q.1).length ≤ sizeLine := by rw [List.length_map, pm.length_eq, sizeLine_eq]; omega
  have hn : H p = none := I.hok.fresh hp
  have hv : Vals (M'.map fun q => V.ref q.1) out.toList := by rw [hout]; exact vals_of_refs M'
  have J : Inv X pins σ (upd H p (.lst (M'.map fun q => V.ref q.1))) { s with heap := s'.heap, gens := s'.gens, drawn := s'.drawn, toks := s'.toks } :=
    I.call (ch := []) (Un.laid k hp hn) (I.hok.laid k hp ⟨len, out.toList, c, hv, hg⟩) (by rw [g]; exact I.bare) (fun _ z => nomatch z)
  have e : s' = { s with heap := s'.heap, gens := s'.gens, drawn := s'.drawn, toks := s'.toks } := by
    cases s'; cases s; cases o; rfl
  rw [e]
  exact ⟨.ref p, _, J, rfl, q M' p pm pw hn⟩
end
/-! ### over data -/
section
variable {K : PySem.W.Frag}
def fSortSetI (f : FE) : FF := fun ρ S => bnd (f ρ S) fun d S1 => obd (seqD d) fun xs => obd (ints? xs) fun ns => if (once ns).length < 64 ∧ ns.length < 4000 then some (.lst ((sortSI ns).map D.int), S1) else none
theorem sem_sortSetI {w : World} {te : TE} {f : FE} (h : SemE K te f) : SemF K (tCB (rSortedSet w) (tCons (tCB (rSetI K w) (tCons te tNil)) tNil)) (fSortSetI f) := fun pd pc H0 G H ρ σ S fo S' g0 r e Q q => by
  obtain ⟨d, S1, e1, e2⟩ := bnd_some e
  obtain ⟨xs, e3, e4⟩ := obd_some e2
  obtain ⟨ns, e5, e6⟩ := obd_some e4
  split at e6
  · rename_i hz
    cases e6
    refine h pd pc H0 G H ρ σ S d _ g0 r e1 _ fun G1 H1 v g1 n1 rv => ?_
    have key : ∀ (a : Addr), v = .ref a → (SqL K H1 a (ns.map V.int) ∨ SqT K H1 a (ns.map V.int)) → (fun vs H1 => rSetI K w vs H1 fun v H => (fun vs H => rSortedSet w vs H Q) [v] H) [v] H1 := by
      rintro a rfl hs
      refine ⟨a, ns, rfl, hs, hz.2, fun p n hp hn => ?_⟩
      refine ⟨p, _, n, rfl, upd_same, Nat.lt_of_le_of_lt hn hz.1, fun ys p2 h1 h2 h3 h4 => ?_⟩
      have e : ys = sortSI ns := sortSI_of h1 fun x => (h2 x).trans (by simp)
      subst e
      have n2 : Ent pd pc H1 G1 G1 (upd H1 p (SetO w p (fun j => decide (j ∈ ns)) n)) := Ent.new hp
      have g2 : Good pd pc G1 (upd H1 p (SetO w p (fun j => decide (j ∈ ns)) n)) _ := g1.new hp
      have n3 := (n1.trans n2).trans (Ent.new (o := .lst ((sortSI ns).map V.int)) h4)
      exact q G1 _ p2 _ (g2.new h4) n3 ((n1.trans n2).fresh h4) (fresh_back g2.ex h4) upd_same ⟨_, rfl, RepL.ints _⟩
    have ex := ints?_some e5
    subst ex
    cases rv with
    | lst h1 r1 => cases e3; rw [RepL.ints_of r1] at h1; exact key _ rfl (.inl (ex_l g1.ex h1))
    | tup h1 r1 => cases e3; rw [RepL.ints_of r1] at h1; exact key _ rfl (.inr (ex_t g1.ex h1))
    | _ => cases e3
  · cases e6
def tups? : List D → Option (List (List Int))
  | [] => some []
  | .tup xs :: r => obd (ints? xs) fun k => (tups? r).map (k :: ·)
  | _ :: _ => none
abbrev dT (k : List Int) : D := .tup (k.map D.int)
theorem tups?_some : ∀ {ds : List D} {ks : List (List Int)}, tups? ds = some ks → ds = ks.map dT
  | [], _, h => by cases h; rfl
  | .tup xs :: r, ks, h => by
    unfold tups? at h
    obtain ⟨k, e1, e2⟩ := obd_some h
    cases e : tups? r with
    | none => rw [e] at e2; cases e2
    | some l => rw [e] at e2; cases e2; rw [tups?_some e, ints?_some e1]; rfl
  | .non :: _, _, h => by cases h
  | .bl _ :: _, _, h => by cases h
  | .int _ :: _, _, h => by cases h
  | .str _ :: _, _, h => by cases h
  | .lst _ :: _, _, h => by cases h
  | .dck :: _, _, h => by cases h
theorem tups?_map : ∀ ks : List (List Int), tups? (ks.map dT) = some ks
  | [] => rfl
  | k :: ks => by
    show obd (ints? (k.map D.int)) (fun k => (tups? (ks.map dT)).map (k :: ·)) = _
    rw [ints?_map, tups?_map ks]
    rfl
theorem rep_mem {pd : Addr} {G : Hp} : ∀ {ks : List (List Int)} {vs : List V}, RepL K pd G (ks.map dT) vs → ∃ m : Mem, m.map (·.2) = ks ∧ vs = m.map (fun p => V.ref p.1) ∧ ∀ p ∈ m, SqT K G p.1 (p.2.map V.int)
  | [], _, .nil => ⟨[], rfl, rfl, fun _ z => by cases z⟩
  | k :: ks, _, .cons h r => by
    obtain ⟨m, m1, m2, m3⟩ := rep_mem r
    cases h with
    | tup h1 r1 =>
      rename_i a vs
      rw [RepL.ints_of r1] at h1
      exact ⟨(a, k) :: m, by rw [List.map_cons, m1], by rw [List.map_cons, m2], fun p hp => by
        rcases List.mem_cons.mp hp with z | z
        · rw [z]; exact h1
        · exact m3 p z⟩
theorem mem_rep {pd : Addr} {G : Hp} : ∀ {m : Mem}, (∀ p ∈ m, SqT K G p.1 (p.2.map V.int)) → RepL K pd G ((m.map (·.2)).map dT) (m.map fun p => V.ref p.1)
  | [], _ => .nil
  | p :: m, h => .cons (.tup (h p List.mem_cons_self) (RepL.ints p.2)) (mem_rep fun q hq => h q (List.mem_cons_of_mem _ hq))
def fSortSetT (f : FE) : FF := fun ρ S => bnd (f ρ S) fun d S1 => obd (seqD d) fun xs => obd (tups? xs) fun ks => if (decide (ks.length < 250) && ks.all fun k => !k.isEmpty) = true then some (.lst ((sortST ks).map dT), S1) else none
theorem sem_sortSetT {P : Program} {w : World} {te : TE} {f : FE} (h : SemE K te f) : SemF K (tCB (rSortT K P w) (tCons (tCB (rSetT K P w) (tCons te tNil)) tNil)) (fSortSetT f) := fun pd pc H0 G H ρ σ S fo S' g0 r e Q q => by
  obtain ⟨d, S1, e1, e2⟩ := bnd_some e
  obtain ⟨xs, e3, e4⟩ := obd_some e2
  obtain ⟨ks, e5, e6⟩ := obd_some e4
  split at e6
  · rename_i hz
    rw [Bool.and_eq_true, decide_eq_true_eq, List.all_eq_true] at hz
    obtain ⟨hz, hne⟩ := hz
    cases e6
    refine h pd pc H0 G H ρ σ S d _ g0 r e1 _ fun G1 H1 v g1 n1 rv => ?_
    have key : ∀ (a : Addr) (m : Mem), v = .ref a → m.map (·.2) = ks → (∀ p ∈ m, SqT K G1 p.1 (p.2.map V.int)) → (SqL K H1 a (m.map fun p => V.ref p.1) ∨ SqT K H1 a (m.map fun p => V.ref p.1)) → (fun vs H1 => rSetT K P w vs H1 fun v H => (fun vs H => rSortT K P w vs H Q) [v] H) [v] H1 := by
      rintro a m rfl rfl hm hs
      refine ⟨a, m, rfl, hs, fun p hp => ex_t g1.ex (hm p hp), by rw [← List.length_map (f := (·.2))]; exact hz, fun p M hp c1 c2 nd len => ?_⟩
      have n2 : Ent pd pc H1 G1 G1 (upd H1 p (SO P w p M)) := Ent.new hp
      have g2 : Good pd pc G1 (upd H1 p (SO P w p M)) _ := g1.new hp
      have len2 : m.length < 250 := by rw [← List.length_map (f := (·.2))]; exact hz
      refine ⟨p, M, rfl, upd_same, fun q hq => ex_t g2.ex (hm q (c1 q hq)), fun q hq z => ?_, by omega, fun M' p2 pm pw h4 => ?_⟩
      · have := hne q.2 (List.mem_map_of_mem (c1 q hq))
        rw [z] at this
        cases this
      · have nd' : (M'.map (·.2)).Nodup := (pm.map (·.2)).nodup_iff.mpr nd
        have lt : (M'.map (·.2)).Pairwise (· < ·) := by
          have le : (M'.map (·.2)).Pairwise (· ≤ ·) := List.pairwise_map.mpr pw
          exact (le.and nd').imp fun h => le_lt h.1 h.2
        have e : M'.map (·.2) = sortST (m.map (·.2)) := sortST_of lt fun x => by
          rw [(pm.map (·.2)).mem_iff]
          constructor
          · intro z
            obtain ⟨q, hq, e⟩ := List.mem_map.mp z
            exact List.mem_map.mpr ⟨q, c1 q hq, e⟩
          · intro z
            obtain ⟨q, hq, e⟩ := List.mem_map.mp z
            rw [← e]
            exact c2 q hq
        have n3 := (n1.trans n2).trans (Ent.new (o := .lst (M'.map fun q => V.ref q.1)) h4)
        refine q G1 _ p2 _ (g2.new h4) n3 ((n1.trans n2).fresh h4) (fresh_back g2.ex h4) upd_same ⟨_, rfl, ?_⟩
        rw [← e]
        exact mem_rep fun q hq => hm q (c1 q (pm.mem_iff.mp hq))
    have ex := tups?_some e5
    subst ex
    cases rv with
    | lst h1 r1 =>
      cases e3
      obtain ⟨m, m1, m2, m3⟩ := rep_mem r1
      rw [m2] at h1
      exact key _ m rfl m1 m3 (.inl (ex_l g1.ex h1))
    | tup h1 r1 =>
      cases e3
      obtain ⟨m, m1, m2, m3⟩ := rep_mem r1
      rw [m2] at h1
      exact key _ m rfl m1 m3 (.inr (ex_t g1.ex h1))
    | _ => cases e3
  · cases e6
end
end DL

/-! # The data layer: what is known of a def; the deck is made; the law's own def -/
namespace DL
open PySem L2 Evl PySem.Spec PyProof.Rows
/-- what is known of a def where it is called -/
structure CalK (P : Program) (w : World) (K : PySem.W.Frag) (mg : Str → Option Value) (base : Heap) (k : Nat) (x : Str) (ps : List Str) (sp : Sp) (f : Addr) (fd : FuncData) : Prop where
  gm : mg x = some (.ref f)
  kp : PySem.W.keepIn K (.ref f) = true
  b : Binds K fd ps []
  F : FnG P w K mg base k f fd ps sp
abbrev Cal (P : Program) (w : World) (K : PySem.W.Frag) (mg : Str → Option Value) (base : Heap) (k : Nat) (x : Str) (ps : List Str) (n : Nat) (d : List D → Dk → Option (D × Dk)) (f : Addr) (fd : FuncData) : Prop := CalK P w K mg base k x ps (spD K n d) f fd
/-- built-in names that the text leaves alone -/
structure Bn (mg : Str → Option Value) : Prop where
  isinstance : mg "isinstance" = none
  int : mg "int" = none
  bool : mg "bool" = none
  tuple : mg "tuple" = none
  list : mg "list" = none
  set : mg "set" = none
  len : mg "len" = none
  min : mg "min" = none
  max : mg "max" = none
  all : mg "all" = none
  zip : mg "zip" = none
  range : mg "range" = none
  enumerate : mg "enumerate" = none
  sorted : mg "sorted" = none
  repr : mg "repr" = none
/-! ### keywords in the order that is the parameters' turned round -/
theorem vals_rev {vs : List V} {us : List Value} (r : Vals vs us) : Vals vs.reverse us.reverse := by
  induction r with
  | nil => exact .nil
  | cons h _ ih => rw [List.reverse_cons, List.reverse_cons]; exact ih.append (.cons h .nil)
theorem ord_rev : OrdOk List.reverse List.reverse := fun K pd G ds vs r => by
  induction ds generalizing vs with
  | nil => cases r; exact .nil
  | cons d ds ih =>
    cases r with
    | cons h r => rw [List.reverse_cons, List.reverse_cons]; exact (ih _ r).append (.cons h .nil)
theorem FunD.kwRev {K : PySem.W.Frag} {x qual : Str} {params : Arguments} {body : List Stmt} {scope : Scope} {kws : List (Str × V)} {f : Addr} {fd : FuncData} {ps : List Str} (F : FunD K x qual params body scope [] kws f fd)
    (h : ∀ (kV doc pm : Value) (an : Option Addr) (cdv ct : Value) (ws : List Value), ws.length = ps.reverse.length → bindArgs (PySem.W.fnOf x qual params body scope .none kV doc pm an cdv ct) ⟨[], ps.reverse.zip ws⟩ = pure (ps.zip ws.reverse)) : KwB K fd ps ps.reverse List.reverse List.reverse := by
  obtain ⟨oc, od, dV, kV, doc, pm, an, cdv, ct, osl, rfl, lk, hcd, hD, hK⟩ := F.ex
  refine ⟨fun s ws hl => ?_, fun r => vals_rev r, fun zs hl => by rw [List.length_reverse] at hl ⊢; exact hl⟩
  rcases hD with ⟨_, rfl⟩ | ⟨e, _⟩
  · exact .of_eq (h kV doc pm an cdv ct ws hl)
  · exact absurd rfl e
/-! ### the deck is made -/
def spDeck (K : PySem.W.Frag) : Sp := fun vs H Q _ => ∃ (a : Addr) (ns : List Int), vs = [.ref a] ∧ SqL K H a (ns.map V.int) ∧ ns.length ≤ 63 ∧
  ∀ (pd pc : Addr) (H' : Hp) (m : Int) (cells : List Int), H' pd = some (.dK [(.inr "cells", .ref pc), (.inr "mixed", .int m), (.inr "draws", .int 0)]) → H' pc = some (.lst (cells.map V.int)) → cells.length ≤ 63 → Q (.ref pd) H'
/-! ### the law's own def -/
def spLaw (K : PySem.W.Frag) : Sp := fun vs H Q _ => ∃ (a : Addr) (ns : List Int), vs = [.ref a] ∧ SqL K H a (ns.map V.int) ∧ ns.length ≤ 63 ∧ ∀ H', Q (.bl true) H'
def lawR (n : Nat) : List Sl := (List.replicate n Sl.un).set 1 (.dat .dck)
theorem law_join {X : Cx} {N : List Str} {st : Stmt} {rest : List Stmt} {t : TS} {m : FS} {vs : List V} {H : Hp} {Q : VK} (h1 : PS X st (tAsg (tCall (spDeck X.K) [] E0 (tCons (tVar 0) tNil)) (gName 1))) (h2 : PSs X rest t) (h3 : SemS X.K t m)
    (plain : ∀ S : Dk, S.cells.length ≤ 63 → ∃ S', m (lawR N.length) S = some (.rt (.bl true) S')) (h : spLaw X.K vs H Q E0) (hN : 2 ≤ N.length := by decide) : ∃ t, PSs X (st :: rest) t ∧ t { nx := fun _ H' => Q .non H', rt := Q } (L2.start N vs) H := by
  refine ⟨_, pss_cons h1 h2, ?_⟩
  obtain ⟨a, ns, rfl, hs, hl, q⟩ := h
  refine ⟨_, rfl, ?_⟩
  refine ⟨a, ns, rfl, hs, hl, fun pd pc H' mm cells e1 e2 e3 => ?_⟩
  obtain ⟨S', e⟩ := plain ⟨cells, mm, 0⟩ e3
  have g : Good pd pc (fun _ => none) H' ⟨cells, mm, 0⟩ := ⟨(fun _ _ z => nomatch z), rfl, rfl, e1, e2⟩
  refine h3 pd pc H' (fun _ => none) (fun _ => none) H' _ _ _ _ g (Ent.refl _ _) ?_ e _ fun G2 H2 v g2 n2 rv => ?_
  · refine ⟨?_, fun i d hi => ?_, fun i fo hi => ?_, fun i j fo fo' b _ hi => ?_⟩
    · unfold lawR L2.start
      simp
      omega
    · unfold lawR at hi
      by_cases c : 1 = i
      · subst c
        rw [List.getElem?_set_self (by simp; omega)] at hi
        cases hi
        refine ⟨.ref pd, ?_, .dck⟩
        rw [List.getElem?_set_self]
        unfold L2.start
        simp
        omega
      · rw [List.getElem?_set_ne c, List.getElem?_replicate] at hi
        split at hi <;> cases hi
    · exfalso
      unfold lawR at hi
      by_cases c : 1 = i
      · subst c
        rw [List.getElem?_set_self (by simp; omega)] at hi
        cases hi
      · rw [List.getElem?_set_ne c, List.getElem?_replicate] at hi
        split at hi <;> cases hi
    · exfalso
      unfold lawR at hi
      by_cases c : 1 = i
      · subst c
        rw [List.getElem?_set_self (by simp; omega)] at hi
        cases hi
      · rw [List.getElem?_set_ne c, List.getElem?_replicate] at hi
        split at hi <;> cases hi
  · cases rv
    exact q H2
end DL

/-! # The data layer: how its functions run -/
namespace DL
open PySem L2
section
variable {ρ ρ' : List Sl} {S S' S1 S2 : Dk}
theorem seq_nx {f g : FS} (h : f ρ S = some (.nx ρ' S')) : fSeq f g ρ S = g ρ' S' := by unfold fSeq; rw [h]
theorem seq_rt {f g : FS} {d : D} (h : f ρ S = some (.rt d S')) : fSeq f g ρ S = some (.rt d S') := by unfold fSeq; rw [h]
theorem seq_rf {f g : FS} {d : Fo} (h : f ρ S = some (.rf d S')) : fSeq f g ρ S = some (.rf d S') := by unfold fSeq; rw [h]
theorem if_t {t : FT} {f g : FS} (h : t ρ S = some (true, S')) : fIfS t f g ρ S = f ρ S' := by unfold fIfS; rw [h]; rfl
theorem if_f {t : FT} {f g : FS} (h : t ρ S = some (false, S')) : fIfS t f g ρ S = g ρ S' := by unfold fIfS; rw [h]; rfl
theorem e_ret {f : FE} {d : D} (h : f ρ S = some (d, S')) : fRet f ρ S = some (.rt d S') := by unfold fRet; rw [h]; rfl
theorem e_asg {f : FE} {i : Nat} {d : D} (h : f ρ S = some (d, S')) : fAsg f (tgN i) ρ S = some (.nx (ρ.set i (.dat d)) S') := by unfold fAsg; rw [h]; rfl
theorem e_asgO {f : FF} {i : Nat} {d : Fo} (h : f ρ S = some (d, S')) : fAsgO f i ρ S = some (.nx (ρ.set i (.own d)) S') := by unfold fAsgO; rw [h]; rfl
theorem e_drop {f : FE} {d : D} (h : f ρ S = some (d, S')) : fDrop f ρ S = some (.nx ρ S') := by unfold fDrop; rw [h]; rfl
theorem e_V {i : Nat} {d : D} (h : ρ[i]? = some (Sl.dat d)) : fV i ρ S = some (d, S) := by unfold fV; rw [h]
theorem e_C {d : D} : fC d ρ S = some (d, S) := rfl
theorem e_nil : fNil ρ S = some ([], S) := rfl
theorem e_cons {f : FE} {g : FA} {d : D} {ds : List D} (h : f ρ S = some (d, S1)) (h2 : g ρ S1 = some (ds, S2)) : fCons f g ρ S = some (d :: ds, S2) := by unfold fCons; rw [h]; show bnd (g ρ S1) _ = _; rw [h2]; rfl
theorem e_one {f : FE} {d : D} (h : f ρ S = some (d, S1)) : fCons f fNil ρ S = some ([d], S1) := e_cons h rfl
theorem e_call {F : List D → Dk → Option (D × Dk)} {f : FA} {ds : List D} {x : Option (D × Dk)} (h : f ρ S = some (ds, S1)) (h2 : F ds S1 = x) : fCall F f ρ S = x := by unfold fCall; rw [h]; exact h2
theorem e_op {g : D → D → Option D} {fa fb : FE} {x y z : D} (h : fa ρ S = some (x, S1)) (h2 : fb ρ S1 = some (y, S2)) (h3 : g x y = some z) : fOp g fa fb ρ S = some (z, S2) := by unfold fOp; rw [h]; show bnd (fb ρ S1) _ = _; rw [h2]; show obd (g x y) _ = _; rw [h3]; rfl
theorem e_B {f : FE} {b : Bool} (h : f ρ S = some (.bl b, S')) : fB f ρ S = some (b, S') := by unfold fB; rw [h]; rfl
theorem e_not {f : FT} {b : Bool} (h : f ρ S = some (b, S')) : fNot f ρ S = some (!b, S') := by unfold fNot; rw [h]; rfl
theorem e_orF {f g : FT} {b : Bool} (h : f ρ S = some (false, S1)) (h2 : g ρ S1 = some (b, S2)) : fOr f g ρ S = some (b, S2) := by unfold fOr; rw [h]; exact h2
theorem e_fz {f : FF} {xs : List D} (h : f ρ S = some (.lst xs, S')) : fFz f ρ S = some (.lst xs, S') := by unfold fFz; rw [h]; rfl
theorem e_tup {f : FA} {ds : List D} (h : f ρ S = some (ds, S')) (hl : ds.length ≤ 100000) : fTup f ρ S = some (.tup ds, S') := by unfold fTup; rw [h]; exact if_pos hl
theorem e_lst {f : FA} {ds : List D} (h : f ρ S = some (ds, S')) (hl : ds.length ≤ 100000) : fLst f ρ S = some (.lst ds, S') := by unfold fLst; rw [h]; exact if_pos hl
theorem e_cb {g : List D → Option D} {f : FA} {ds : List D} {z : D} (h : f ρ S = some (ds, S')) (h2 : g ds = some z) : fCB g f ρ S = some (z, S') := by unfold fCB; rw [h]; show obd (g ds) _ = _; rw [h2]; rfl
theorem e_cbF {g : List D → Option Fo} {f : FA} {ds : List D} {z : Fo} (h : f ρ S = some (ds, S')) (h2 : g ds = some z) : fCBF g f ρ S = some (z, S') := by unfold fCBF; rw [h]; show obd (g ds) _ = _; rw [h2]; rfl
theorem e_IA {f : FE} {d : D} {xs : List D} (h : f ρ S = some (d, S')) (h2 : seqD d = some xs) : fIA f ρ S = some (xs, S') := by unfold fIA; rw [h]; show obd (seqD d) _ = _; rw [h2]; rfl
theorem e_EnA {f : FA} {d : D} {xs : List D} (h : f ρ S = some ([d], S')) (h2 : seqD d = some xs) : fEnA f ρ S = some (enumD xs 0, S') := by unfold fEnA; rw [h]; show obd (seqD d) _ = _; rw [h2]; rfl
theorem e_R1 {f : FA} {j : Int} (h : f ρ S = some ([.int j], S')) (h2 : -(2 ^ 62) ≤ j ∧ j < 2 ^ 62) : fR1 f ρ S = some (rangeD 0 j.toNat, S') := by unfold fR1; rw [h]; exact if_pos h2
theorem e_ifT {t : FT} {f g : FE} {x : Option (D × Dk)} (h : t ρ S = some (true, S1)) (h2 : f ρ S1 = x) : fIf t f g ρ S = x := by unfold fIf; rw [h]; exact h2
theorem e_ifF {t : FT} {f g : FE} {x : Option (D × Dk)} (h : t ρ S = some (false, S1)) (h2 : g ρ S1 = x) : fIf t f g ρ S = x := by unfold fIf; rw [h]; exact h2
theorem e_chain {g g' : D → D → Option D} {fa fb fc : FE} {x y w z : D} {S3 : Dk} (h : fa ρ S = some (x, S1)) (h2 : fb ρ S1 = some (y, S2)) (h3 : g x y = some (.bl true)) (h4 : fc ρ S2 = some (w, S3)) (h5 : g' y w = some z) : fChain g g' fa fb fc ρ S = some (z, S3) := by
  unfold fChain
  rw [h]
  show bnd (fb ρ S1) _ = _
  rw [h2]
  show obd (g x y) _ = _
  rw [h3]
  show bnd (fc ρ S2) _ = _
  rw [h4]
  show obd (g' y w) _ = _
  rw [h5]
  rfl
theorem e_andV {f g : FE} {d : D} (h : f ρ S = some (.bl true, S1)) (h2 : g ρ S1 = some (d, S2)) : fAndV f g ρ S = some (d, S2) := by
  unfold fAndV
  rw [h]
  show bnd (g ρ S1) _ = _
  rw [h2]
  rfl
theorem e_ifFT {t : FT} {f g : FF} {x : Option (Fo × Dk)} (h : t ρ S = some (true, S1)) (h2 : f ρ S1 = x) : fIfF t f g ρ S = x := by unfold fIfF; rw [h]; exact h2
theorem e_ifFF {t : FT} {f g : FF} {x : Option (Fo × Dk)} (h : t ρ S = some (false, S1)) (h2 : g ρ S1 = x) : fIfF t f g ρ S = x := by unfold fIfF; rw [h]; exact h2
theorem e_for {fi : FA} {tg : FG} {b : FS} {ds : List D} {x : Option Out} (h : fi ρ S = some (ds, S1)) (h2 : forF tg b ds ρ S1 = x) : fFor fi tg b ρ S = x := by unfold fFor; rw [h]; exact h2
theorem for_nil {tg : FG} {b : FS} : forF tg b [] ρ S = some (.nx ρ S) := rfl
theorem for_cons {tg : FG} {b : FS} {d : D} {ds : List D} {ρ1 : List Sl} (h : tg d ρ = some ρ1) (h2 : b ρ1 S = some (.nx ρ' S')) : forF tg b (d :: ds) ρ S = forF tg b ds ρ' S' := by
  show obd (tg d ρ) _ = _
  rw [h]
  show (match b ρ1 S with
    | some (.nx ρ2 S2) => forF tg b ds ρ2 S2
    | some (.ct ρ2 S2) => forF tg b ds ρ2 S2
    | some (.br ρ2 S2) => some (.nx ρ2 S2)
    | o => o) = _
  rw [h2]
theorem e_lc {fi : FA} {tg : FG} {ft : FT} {fe : FE} {vs : List Nat} {ds xs : List D} (h : fi ρ S = some (ds, S1)) (hl : ds.length ≤ 100000) (h2 : lcF vs tg ft fe ds ρ S1 = some (xs, S2)) : fLc fi tg ft fe vs ρ S = some (.lst xs, S2) := by
  unfold fLc
  rw [h]
  show (if ds.length ≤ 100000 then _ else none) = _
  rw [if_pos hl, h2]
  rfl
theorem frz_own {i : Nat} {xs : List D} {f : FS} (h : ρ[i]? = some (Sl.own (.lst xs))) : fFrz i f ρ S = f (ρ.set i (.dat (.lst xs))) S := by unfold fFrz frz; rw [h]
theorem e_app {i : Nat} {f : FE} {xs : List D} {d : D} (h : ρ[i]? = some (Sl.own (.lst xs))) (h2 : f ρ S = some (d, S')) (hl : xs.length < 100000) : fApp i f ρ S = some (.nx (ρ.set i (.own (.lst (xs ++ [d])))) S') := by
  unfold fApp
  rw [h]
  show bnd (f ρ S) _ = _
  rw [h2]
  exact if_pos hl
theorem e_ext {i : Nat} {f : FF} {xs ys : List D} (h : ρ[i]? = some (Sl.own (.lst xs))) (h2 : f ρ S = some (.lst ys, S')) (hl : xs.length + ys.length ≤ 100000) : fExt i f ρ S = some (.nx (ρ.set i (.own (.lst (xs ++ ys)))) S') := by
  unfold fExt
  rw [h]
  show bnd (f ρ S) _ = _
  rw [h2]
  exact if_pos hl
theorem run_eq {n k : Nat} {f : FS} {ds : List D} {x : D} (hl : ds.length = k) (h : f (startR n ds) S = some (.rt x S')) : runD n k f ds S = some (x, S') := by
  unfold runD
  rw [if_pos hl, h]
  rfl
theorem run_nx {n k : Nat} {f : FS} {ds : List D} (hl : ds.length = k) (h : f (startR n ds) S = some (.nx ρ' S')) : runD n k f ds S = some (.non, S') := by
  unfold runD
  rw [if_pos hl, h]
  rfl
/-! ### list comprehensions -/
/-- no draws: each item in turn, none left out -/
theorem lc_map {vs : List Nat} {tg : FG} {fe : FE} (f : D → D) : ∀ {ds : List D}, (∀ d ∈ ds, ∃ ρ1, tg d (wipeR ρ vs) = some ρ1 ∧ fe ρ1 S = some (f d, S)) → lcF vs tg fYes fe ds ρ S = some (ds.map f, S)
  | [], _ => rfl
  | d :: ds, h => by
    obtain ⟨ρ1, h1, h2⟩ := h d List.mem_cons_self
    have ih := lc_map f (ds := ds) fun x hx => h x (List.mem_cons_of_mem _ hx)
    unfold lcF
    rw [h1]
    show bnd (fe ρ1 S) _ = _
    rw [h2]
    show bnd (lcF vs tg fYes fe ds ρ S) _ = _
    rw [ih]
    rfl
/-- with draws: ok stays, P is true of each -/
theorem lc_all {vs : List Nat} {tg : FG} {fe : FE} (ok : Dk → Prop) (P : D → Prop) : ∀ {ds : List D} {S : Dk}, ok S → (∀ d ∈ ds, ∀ S, ok S → ∃ ρ1 x S', tg d (wipeR ρ vs) = some ρ1 ∧ fe ρ1 S = some (x, S') ∧ P x ∧ ok S') →
    ∃ xs S', lcF vs tg fYes fe ds ρ S = some (xs, S') ∧ xs.length = ds.length ∧ (∀ x ∈ xs, P x) ∧ ok S'
  | [], S, hS, _ => ⟨[], S, rfl, rfl, fun _ z => (by cases z), hS⟩
  | d :: ds, S, hS, h => by
    obtain ⟨ρ1, x, S1, h1, h2, h3, h4⟩ := h d List.mem_cons_self S hS
    obtain ⟨xs, S2, k1, k2, k3, k4⟩ := lc_all ok P (ds := ds) h4 fun x hx => h x (List.mem_cons_of_mem _ hx)
    refine ⟨x :: xs, S2, ?_, congrArg Nat.succ k2, fun y hy => ?_, k4⟩
    · unfold lcF
      rw [h1]
      show bnd (fe ρ1 S) _ = _
      rw [h2]
      show bnd (lcF vs tg fYes fe ds ρ S1) _ = _
      rw [k1]
      rfl
    · rcases List.mem_cons.mp hy with z | z
      · rw [z]; exact h3
      · exact k3 y z
/-- some items, by draws -/
theorem lc_sub {vs : List Nat} {tg : FG} {ft : FT} {fe : FE} (ok : Dk → Prop) : ∀ {ds : List D} {S : Dk}, ok S → (∀ d ∈ ds, ∀ S, ok S → ∃ ρ1 b S', tg d (wipeR ρ vs) = some ρ1 ∧ ft ρ1 S = some (b, S') ∧ fe ρ1 S' = some (d, S') ∧ ok S') →
    ∃ xs S', lcF vs tg ft fe ds ρ S = some (xs, S') ∧ xs.Sublist ds ∧ ok S'
  | [], S, hS, _ => ⟨[], S, rfl, .slnil, hS⟩
  | d :: ds, S, hS, h => by
    obtain ⟨ρ1, b, S1, h1, h2, h3, h4⟩ := h d List.mem_cons_self S hS
    obtain ⟨xs, S2, k1, k2, k3⟩ := lc_sub ok (ds := ds) h4 fun x hx => h x (List.mem_cons_of_mem _ hx)
    have e : lcF vs tg ft fe (d :: ds) ρ S = if b = true then some (d :: xs, S2) else some (xs, S2) := by
      show obd (tg d (wipeR ρ vs)) _ = _
      rw [h1]
      show bnd (ft ρ1 S) _ = _
      rw [h2]
      show (if b = true then bnd (fe ρ1 S1) _ else lcF vs tg ft fe ds ρ S1) = _
      rw [h3]
      show (if b = true then bnd (lcF vs tg ft fe ds ρ S1) _ else lcF vs tg ft fe ds ρ S1) = _
      rw [k1]
      rfl
    cases b with
    | true => exact ⟨d :: xs, S2, e, k2.cons₂ d, k3⟩
    | false => exact ⟨xs, S2, e, k2.cons d, k3⟩
end
end DL

/-! # The data layer: repr of data that are small -/
namespace DL
open PySem L2
/-- data that repr takes: at most n of them, k deep, ints below 10 ^ 12 -/
def Shw (n k : Nat) (d : D) : Prop := ∃ p, pyD d = some p ∧ p.showable = true ∧ p.hasDict = false ∧ p.leavesShort 13 = true ∧ p.bulk ≤ n ∧ p.depth ≤ k
theorem Shw.mono {n n' k k' : Nat} {d : D} (h : Shw n k d) (h1 : n ≤ n') (h2 : k ≤ k') : Shw n' k' d := by
  obtain ⟨p, a, b, c, e, f, g⟩ := h
  exact ⟨p, a, b, c, e, Nat.le_trans f h1, Nat.le_trans g h2⟩
theorem shw_int {i : Int} (h : i.natAbs < 10 ^ 12) : Shw 0 0 (.int i) := by
  refine ⟨.int i, rfl, ?_, rfl, ?_, Nat.le_of_eq (by simp [PyData.bulk]), Nat.le_of_eq (by simp [PyData.depth])⟩
  · show decide (i.natAbs.log2 < 1920) = true
    refine decide_eq_true ?_
    rcases Nat.eq_zero_or_pos i.natAbs with z | z
    · rw [z]; decide
    · have : i.natAbs.log2 < 60 := (Nat.log2_lt (by omega)).mpr (by omega)
      omega
  · show decide ((PyData.shown (.int i)).length ≤ 13) = true
    exact decide_eq_true (PyData.shown_int_le h)
theorem shw_all {n k : Nat} : ∀ {ds : List D}, (∀ d ∈ ds, Shw n k d) → ∃ ps, pyDs ds = some ps ∧ PyData.showableAll ps = true ∧ PyData.hasDictAll ps = false ∧ PyData.leavesShortAll 13 ps = true ∧ PyData.bulkAll ps ≤ ds.length * (n + 1) ∧ PyData.depthAll ps ≤ k
  | [], _ => ⟨[], rfl, by simp [PyData.showableAll], by simp [PyData.hasDictAll], by simp [PyData.leavesShortAll], by simp [PyData.bulkAll], by simp [PyData.depthAll]⟩
  | d :: ds, h => by
    obtain ⟨p, a, b, c, e, f, g⟩ := h d List.mem_cons_self
    obtain ⟨ps, a', b', c', e', f', g'⟩ := shw_all (ds := ds) fun x hx => h x (List.mem_cons_of_mem _ hx)
    refine ⟨p :: ps, ?_, by simp [PyData.showableAll, b, b'], by simp [PyData.hasDictAll, c, c'], by simp [PyData.leavesShortAll, e, e'], ?_, ?_⟩
    · unfold pyDs
      rw [a]
      show (pyDs ds).map (p :: ·) = _
      rw [a']
      rfl
    · simp only [PyData.bulkAll, List.length_cons, Nat.succ_mul]
      omega
    · simp only [PyData.depthAll]
      omega
theorem shw_tup {n k : Nat} {ds : List D} (h : ∀ d ∈ ds, Shw n k d) : Shw (ds.length * (n + 1)) (k + 1) (.tup ds) := by
  obtain ⟨ps, a, b, c, e, f, g⟩ := shw_all h
  refine ⟨.tuple ps, ?_, by simpa [PyData.showable] using b, by simpa [PyData.hasDict] using c, by simpa [PyData.leavesShort] using e, by simpa [PyData.bulk] using f, ?_⟩
  · unfold pyD
    rw [a]
    rfl
  · simp only [PyData.depth]
    omega
theorem repr_ok {n k : Nat} {xs : List D} (h : Shw n k (.tup xs)) (hn : n ≤ 60000) (hk : k ≤ 60) : ∃ s, bRepr [.tup xs] = some (.str s) := by
  obtain ⟨p, a, b, c, e, f, g⟩ := h
  refine ⟨p.shown, ?_⟩
  show reprGo (.tup xs) = _
  unfold reprGo
  rw [a]
  show (if _ then _ else _) = _
  rw [if_pos]
  have len := PyData.shown_le_bulk 13 (by decide) p e
  simp only [Bool.and_eq_true, Bool.not_eq_true', decide_eq_true_eq]
  exact ⟨⟨⟨b, c⟩, by omega⟩, by omega⟩
end DL

/-! # law k47: the defs over data -/
namespace K47
open PySem PySem.Spec PyProof.Rows L2 DL RZ
def top (i : Nat) : Stmt := PySem.Challenge.pw_sightsums_k47_telling_round_by_round.main.body.getD i (.Pass ⟨0, 0, 0, 0⟩)
abbrev FnP (K : PySem.W.Frag) (x : Str) (st : Stmt) (f : Addr) (fd : FuncData) : Prop := FunD K x x (defArgs st) (defBody st) (defScope st) [] [] f fd
section
variable {P : Program} {w : World} {K : PySem.W.Frag} {mg : Str → Option Value} {base : Heap}
/-! ### _law_deck -/
abbrev s_law_deck : Stmt := top 22
abbrev N_law_deck : List Str := ["script", "mixed", "cell"]
theorem sc_law_deck : FnScope N_law_deck ["script"] (defScope s_law_deck) := ⟨rfl, rfl, rfl, by decide +kernel, rfl, by decide +kernel, by decide +kernel⟩
abbrev tMixB : TE := tOp (rI (fun _ j => 0 < j) fun i j => .int (i % j)) (tCB rInt1 (tCons (tOp (rI0 fun i j => .int (i + j)) (tOp (rI0 fun i j => .int (i + j)) (tOp (rI CMul fun i j => .int (i * j)) (tVar 1) (tC (.int 69621)))
  (tOp (rI (fun _ j => 0 < j) fun i j => .int (i % j)) (tCB rInt1 (tCons (tVar 2) tNil)) (tC (.int 2147483629)))) (tC (.int 153))) tNil)) (tC (.int 2147483587))
abbrev tCutS (K : PySem.W.Frag) : TE := tSl (rSlL K) (tVar 0) tNoPart (tPart (tC (.int 63)))
abbrev t_law_deck (K : PySem.W.Frag) : TS := tSeq (tAsg (tC (.int 13742852)) (gName 1)) (tSeq (tFor (iList K (tCutS K)) (gName 2) (tAsg tMixB (gName 1)))
  (tRet (tDisp [(tC (.str "cells"), tRevL K (tCB (rLstQ K) (tCons (tCutS K) tNil))), (tC (.str "mixed"), tVar 1), (tC (.str "draws"), tC (.int 0))])))
theorem disp3 {p4 : Addr} {m : Int} : L2.mergeK [] [(.inr "cells", V.ref p4), (.inr "mixed", .int m), (.inr "draws", .int 0)] = [(.inr "cells", V.ref p4), (.inr "mixed", .int m), (.inr "draws", .int 0)] := by
  have h1 : ¬ (Sum.inr (Str.ofString "cells") : Key) = Sum.inr (Str.ofString "mixed") := by decide +kernel
  have h2 : ¬ (Sum.inr (Str.ofString "cells") : Key) = Sum.inr (Str.ofString "draws") := by decide +kernel
  have h3 : ¬ (Sum.inr (Str.ofString "mixed") : Key) = Sum.inr (Str.ofString "draws") := by decide +kernel
  show putK (putK (putK ([] : List (Key × V)) (.inr "cells") (V.ref p4)) (.inr "mixed") (.int m)) (.inr "draws") (.int 0) = _
  have e1 : putK ([] : List (Key × V)) (.inr "cells") (V.ref p4) = [(.inr "cells", V.ref p4)] := rfl
  have e2 : putK ([(.inr "cells", V.ref p4)] : List (Key × V)) (.inr "mixed") (.int m) = [(.inr "cells", V.ref p4), (.inr "mixed", .int m)] := by
    unfold putK
    rw [if_neg]
    · rfl
    · simp [h1]
  rw [e1, e2]
  unfold putK
  rw [if_neg]
  · rfl
  · simp [h2, h3]
theorem cut_all {ns : List Int} (h : ns.length ≤ 63) : cutV (ns.map V.int) none (some 63) = ns.map V.int := by
  unfold cutV
  have e : HT.sIx (ns.map V.int).length (ns.map V.int).length (some 63) = (ns.map V.int).length := by
    show (if (63 : Int) < 0 then ((63 : Int) + ((ns.map V.int).length : Int)).toNat else min (63 : Int).toNat (ns.map V.int).length) = _
    rw [if_neg (by decide), List.length_map]
    show min 63 ns.length = ns.length
    omega
  rw [e, HT.sIx_none, List.drop_zero, Nat.sub_zero, List.take_length]
theorem deck_run {vs : List V} {H : Hp} {Q : VK} (h : spDeck K vs H Q E0) : t_law_deck K { nx := fun _ H' => Q .non H', rt := Q } (L2.start N_law_deck vs) H := by
  obtain ⟨a, ns, rfl, hs, hl, q⟩ := h
  refine ⟨_, rfl, 63, rfl, a, _, rfl, hs, fun p hp => ?_⟩
  rw [cut_all hl]
  have ex : Evl.Ex H (upd H p (.lst (ns.map V.int))) := Evl.Ex.new hp
  refine ⟨p, rfl, ⟨_, SqL.of upd_same⟩, for_list (xs := ns.map V.int) (fun i σ H' => H' = upd H p (.lst (ns.map V.int)) ∧ ∃ (m : Int) (c : Option V), σ = [some (.ref a), some (.int m), c]) ⟨rfl, 13742852, none, rfl⟩ (fun i σ H' _ z => by rw [z.1]; exact SqL.of upd_same) ?_ ?_⟩
  · rintro i x σ H' hx ⟨rfl, m, c, rfl⟩
    rw [List.getElem?_map] at hx
    obtain ⟨n, hn, rfl⟩ := Option.map_eq_some_iff.mp hx
    exact ⟨_, rfl, _, _, rfl, rfl, .inr ⟨by decide, by decide⟩, _, rfl, .inl ⟨_, rfl, _, _, rfl, rfl, (by show (0 : Int) < 2147483629; decide), _, _, rfl, rfl, _, _, rfl, rfl, .inl ⟨_, rfl, _, _, rfl, rfl, (by show (0 : Int) < 2147483587; decide), rfl, _, _, rfl⟩⟩⟩
  · rintro σ H' ⟨rfl, m, c, rfl⟩
    intro d hd
    have ex2 : Evl.Ex H (upd (upd H p (.lst (ns.map V.int))) d (.dK [])) := ex.trans (Evl.Ex.new hd)
    refine ⟨_, rfl, 63, rfl, a, _, rfl, Evl.ex_l ex2 hs, fun p2 hp2 => ?_⟩
    rw [cut_all hl]
    refine ⟨p2, _, rfl, .inl (SqL.of upd_same), fun p3 hp3 => ⟨p3, _, rfl, SqL.of upd_same, fun p4 hp4 => ?_⟩⟩
    have d2 : p2 ≠ d := fun z => by rw [z, upd_same] at hp2; cases hp2
    have d3 : p3 ≠ d := fun z => by rw [z, upd_ne d2.symm, upd_same] at hp3; cases hp3
    have d4 : p4 ≠ d := fun z => by rw [z, upd_ne d3.symm, upd_ne d2.symm, upd_same] at hp4; cases hp4
    refine ⟨_, rfl, ?_, [(.inr "cells", .ref p4), (.inr "mixed", .int m), (.inr "draws", .int 0)], rfl, (by show 3 ≤ 15; decide), ?_⟩
    · rw [upd_ne d4.symm, upd_ne d3.symm, upd_ne d2.symm, upd_same]
    · refine q d p4 _ m ns.reverse ?_ ?_ (by rw [List.length_reverse]; exact hl)
      · rw [upd_same]
        exact congrArg (fun z => some (HO.dK z)) disp3
      · rw [upd_ne d4, upd_same, List.map_reverse]
theorem ok_law_deck (B : Bn mg) {f : Addr} {fd : FuncData} (F : FnP K "_law_deck" s_law_deck f fd) (gf : mg "_law_deck" = some (.ref f)) : CalK P w K mg base 1 "_law_deck" ["script"] (spDeck K) f fd := by
  refine ⟨gf, F.kp, F.bindsN (fun _ _ _ _ _ _ us hl => match us, hl with | [_], _ => rfl), ?_⟩
  refine fnG_of (N := N_law_deck) F sc_law_deck (fun vs H Q h => by obtain ⟨a, ns, rfl, _⟩ := h; rfl) (fun cdv A outer s H vs Q hg hr h => ⟨t_law_deck K, ?_, deck_run h⟩)
  have nd := sc_law_deck.nd
  have cut := fun (X : Cx) (h0 : X.N = N_law_deck) => h0
  exact pss_cons (ps_set (i := 1) nd rfl (Or.inl rfl) pe_int) (pss_cons (ps_for PassesOwn.never rfl (pi_list (pe_slice sl_list (pv 0) po_none (po_some pe_int))) (pg_name (i := 2) nd rfl (Or.inl rfl))
    (pss_one (ps_set (i := 1) nd rfl (Or.inl rfl) (pe_op op_mod (pe_callTy call_int1 rfl B.int PyProof.Rows.boot_int (pa_cons (pe_op op_add (pe_op op_add (pe_op op_mul (pv 1) pe_int) (pe_op op_mod (pe_callTy call_int1 rfl B.int PyProof.Rows.boot_int (pa_cons (pv 2) pa_nil)) pe_int)) pe_int) pa_nil)) pe_int))))
    (pss_one (ps_ret (pe_disp (pps_cons pe_str (pe_revL (pe_callTy call_list_of rfl B.list PyProof.Rows.boot_list (pa_cons (pe_slice sl_list (pv 0) po_none (po_some pe_int)) pa_nil))) (pps_cons pe_str (pv 1) (pps_cons pe_str pe_int pps_nil))) rfl rfl (by decide) (by decide)))))
/-! ### is_integer -/
abbrev s_is_integer : Stmt := top 9
abbrev N_is_integer : List Str := ["thing"]
theorem sc_is_integer : FnScope N_is_integer ["thing"] (defScope s_is_integer) := ⟨rfl, rfl, rfl, by decide +kernel, rfl, by decide +kernel, by decide +kernel⟩
def m_is_integer : FS :=
    (fRet (fAndV (fIsi "int" (fV 0)) (fNotV (fIsi "bool" (fV 0)))))
abbrev d_is_integer : List D → Dk → Option (D × Dk) := runD 1 1 m_is_integer
theorem ok_is_integer (B : Bn mg)   {f : Addr} {fd : FuncData} (F : FnP K "is_integer" s_is_integer f fd) (gf : mg "is_integer" = some (.ref f)) : Cal P w K mg base 1 "is_integer" ["thing"] 1 d_is_integer f fd := by
  refine ⟨gf, F.kp, F.bindsN (fun _ _ _ _ _ _ us hl => match us, hl with | [_], _ => rfl), ?_⟩
  refine defG (N := N_is_integer) F sc_is_integer rfl (fun cdv A outer s H hg hr => ?_)
  have nd := sc_is_integer.nd
  have hu := hu_of hr
  have hul := Nat.lt_of_succ_lt hu
  exact ⟨_, (pss_one (ps_ret (pe_and (pe_callB call_isi rfl B.isinstance PyProof.Rows.boot_isinstance (pa_cons (pv 0) (pa_cons (pe_bltn rfl B.int PyProof.Rows.boot_int (v := V.ty "int") rfl) pa_nil))) (pe_one (pe_not (pe_callB call_isi rfl B.isinstance PyProof.Rows.boot_isinstance (pa_cons (pv 0) (pa_cons (pe_bltn rfl B.bool PyProof.Rows.boot_bool (v := V.ty "bool") rfl) pa_nil)))))))),
    (sem_ret (sem_andV (sem_isi (T := "int") (sem_var 0)) (sem_notV (sem_isi (T := "bool") (sem_var 0)))))⟩
/-! ### is_between -/
abbrev s_is_between : Stmt := top 10
abbrev N_is_between : List Str := ["thing", "least", "most"]
theorem sc_is_between : FnScope N_is_between ["thing", "least", "most"] (defScope s_is_between) := ⟨rfl, rfl, rfl, by decide +kernel, rfl, by decide +kernel, by decide +kernel⟩
def m_is_between : FS :=
    (fRet (fAndV (fCall d_is_integer (fCons (fV 0) fNil)) (fChain oLe oLe (fV 1) (fV 0) (fV 2))))
abbrev d_is_between : List D → Dk → Option (D × Dk) := runD 3 3 m_is_between
theorem ok_is_between (B : Bn mg)  {f_is_integer : Addr} {fd_is_integer : FuncData} (C_is_integer : Cal P w K mg base 1 "is_integer" ["thing"] 1 d_is_integer f_is_integer fd_is_integer) {f : Addr} {fd : FuncData} (F : FnP K "is_between" s_is_between f fd) (gf : mg "is_between" = some (.ref f)) : Cal P w K mg base 2 "is_between" ["thing", "least", "most"] 3 d_is_between f fd := by
  refine ⟨gf, F.kp, F.bindsN (fun _ _ _ _ _ _ us hl => match us, hl with | [_, _, _], _ => rfl), ?_⟩
  refine defG (N := N_is_between) F sc_is_between rfl (fun cdv A outer s H hg hr => ?_)
  have nd := sc_is_between.nd
  have hu := hu_of hr
  have hul := Nat.lt_of_succ_lt hu
  exact ⟨_, (pss_one (ps_ret (pe_and (pe_callG C_is_integer.F hg (hr.mono (by decide)) rfl C_is_integer.gm C_is_integer.kp C_is_integer.b (pa_cons (pv 0) pa_nil)) (pe_one (pe_chain op_le op_le (pv 1) (pv 0) (pv 2)))))),
    (sem_ret (sem_andV (sem_call (sem_cons (sem_var 0) sem_nil) (fun _ _ _ h => runD_len h)) (sem_chain os_le os_le (sem_var 1) (sem_var 0) (sem_var 2))))⟩
/-! ### is_rising -/
abbrev s_is_rising : Stmt := top 11
abbrev N_is_rising : List Str := ["thing", "one", "other"]
theorem sc_is_rising : FnScope N_is_rising ["thing"] (defScope s_is_rising) := ⟨rfl, rfl, rfl, by decide +kernel, rfl, by decide +kernel, by decide +kernel⟩
def m_is_rising : FS :=
    (fRet (fCB bAll (fCons (fFz (fLc (fZip (fCons (fV 0) (fCons (fSl (fV 0) (fO1 (fC (.int 1))) fO0) fNil))) (tgT 2 (tgsCons (tgN 1) (tgsCons (tgN 2) tgsNil))) fYes (fOp oLtX (fV 1) (fV 2)) [1, 2])) fNil)))
abbrev d_is_rising : List D → Dk → Option (D × Dk) := runD 3 1 m_is_rising
theorem ok_is_rising (B : Bn mg)   {f : Addr} {fd : FuncData} (F : FnP K "is_rising" s_is_rising f fd) (gf : mg "is_rising" = some (.ref f)) : Cal P w K mg base 1 "is_rising" ["thing"] 1 d_is_rising f fd := by
  refine ⟨gf, F.kp, F.bindsN (fun _ _ _ _ _ _ us hl => match us, hl with | [_], _ => rfl), ?_⟩
  refine defG (N := N_is_rising) F sc_is_rising rfl (fun cdv A outer s H hg hr => ?_)
  have nd := sc_is_rising.nd
  have hu := hu_of hr
  have hul := Nat.lt_of_succ_lt hu
  exact ⟨_, (pss_one (ps_ret (pe_callB (cr_all rfl) rfl B.all PyProof.Rows.boot_all (pa_cons (pe_lc (own := [("one", 1), ("other", 2)]) rfl nd (pi_zipA rfl B.zip (pa_cons (pv 0) (pa_cons (pe_slice sl_tupA (pv 0) (po_some pe_int) po_none) pa_nil))) (blkOk_by (N := N_is_rising) (sc := defScope s_is_rising) (own := [("one", 1), ("other", 2)]) (by decide +kernel)) (fun _ _ _ _ _ => (pg_tup rfl (pgs_cons (pg_name (i := 1) nd rfl (by first | exact Or.inl rfl | exact Or.inr rfl)) (pgs_cons (pg_name (i := 2) nd rfl (by first | exact Or.inl rfl | exact Or.inr rfl)) pgs_nil)))) (fun _ _ _ _ _ => pts_nil) (fun _ _ _ _ _ => (pe_cmpR (op_ltX hul) (pv 1) (pv 2) (nomark _)))) pa_nil)))),
    (sem_ret (sem_cb cs_all (sem_cons (sem_fz (sem_lc (vs := [1, 2]) (sem_zip (sem_cons (sem_var 0) (sem_cons (sem_slT (sem_var 0) (sem_o1 sem_int) sem_o0) sem_nil))) (sem_gt (sem_gsc (sem_gn 1) (sem_gsc (sem_gn 2) sem_gsn))) sem_yes (sem_op os_ltX (sem_var 1) (sem_var 2)) (by decide))) sem_nil)))⟩
/-! ### is_shape_value -/
abbrev s_is_shape_value : Stmt := top 12
abbrev N_is_shape_value : List Str := ["thing", "many"]
theorem sc_is_shape_value : FnScope N_is_shape_value ["thing"] (defScope s_is_shape_value) := ⟨rfl, rfl, rfl, by decide +kernel, rfl, by decide +kernel, by decide +kernel⟩
def m_is_shape_value : FS :=
    (fSeq (fIfS (fOr (fNot (fB (fIsi "tuple" (fV 0)))) (fNot (fB (fChain oLe oLe (fC (.int 1)) (fCB bLen (fCons (fV 0) fNil)) (fC (.int 4)))))) (fRet (fC (.bl false))) fNext)
    (fRet (fCB bAll (fCons (fFz (fLc (fIA (fV 0)) (tgN 1) fYes (fCall d_is_between (fCons (fV 1) (fCons (fC (.int 1)) (fCons (fC (.int 4)) fNil)))) [1])) fNil))))
abbrev d_is_shape_value : List D → Dk → Option (D × Dk) := runD 2 1 m_is_shape_value
theorem ok_is_shape_value (B : Bn mg) (M_MOST_LETTERS : Σ' t, mg "MOST_LETTERS" = some (.int 4 t)) (M_MOST_PLACES : Σ' t, mg "MOST_PLACES" = some (.int 4 t)) {f_is_between : Addr} {fd_is_between : FuncData} (C_is_between : Cal P w K mg base 2 "is_between" ["thing", "least", "most"] 3 d_is_between f_is_between fd_is_between) {f : Addr} {fd : FuncData} (F : FnP K "is_shape_value" s_is_shape_value f fd) (gf : mg "is_shape_value" = some (.ref f)) : Cal P w K mg base 3 "is_shape_value" ["thing"] 1 d_is_shape_value f fd := by
  refine ⟨gf, F.kp, F.bindsN (fun _ _ _ _ _ _ us hl => match us, hl with | [_], _ => rfl), ?_⟩
  refine defG (N := N_is_shape_value) F sc_is_shape_value rfl (fun cdv A outer s H hg hr => ?_)
  have nd := sc_is_shape_value.nd
  have hu := hu_of hr
  have hul := Nat.lt_of_succ_lt hu
  exact ⟨_, (pss_cons (ps_if (PW.pt (pw_or (pt_not (pt_val (pe_callB call_isi rfl B.isinstance PyProof.Rows.boot_isinstance (pa_cons (pv 0) (pa_cons (pe_bltn rfl B.tuple PyProof.Rows.boot_tuple (v := V.ty "tuple") rfl) pa_nil))))) (pw_or1 (pt_not (pt_chain op_le op_le pe_int (pe_callB call_len_seq rfl B.len PySem.boot_len (pa_cons (pv 0) pa_nil)) (pe_glob (v := V.int 4) rfl M_MOST_PLACES.2 ⟨_, rfl⟩))))))
    (pss_one (ps_ret pe_bl)) pss_nil)
    (pss_one (ps_ret (pe_callB (cr_all rfl) rfl B.all PyProof.Rows.boot_all (pa_cons (pe_lc (own := [("many", 1)]) rfl nd (pi_any (pv 0)) (blkOk_by (N := N_is_shape_value) (sc := defScope s_is_shape_value) (own := [("many", 1)]) (by decide +kernel)) (fun _ _ _ _ _ => (pg_name (i := 1) nd rfl (by first | exact Or.inl rfl | exact Or.inr rfl))) (fun _ _ _ _ _ => pts_nil) (fun _ _ _ _ _ => (pe_callG C_is_between.F hg (hr.mono (by decide)) rfl C_is_between.gm C_is_between.kp C_is_between.b (pa_cons (pv 1) (pa_cons pe_int (pa_cons (pe_glob (v := V.int 4) rfl M_MOST_LETTERS.2 ⟨_, rfl⟩) pa_nil)))))) pa_nil))))),
    (sem_seq (sem_ifS (sem_or (sem_not (sem_B (sem_isi (T := "tuple") (sem_var 0)))) (sem_not (sem_test (sem_chain os_le os_le sem_int (sem_cb cs_len (sem_cons (sem_var 0) sem_nil)) sem_int)))) (sem_ret sem_bl) sem_next)
    (sem_ret (sem_cb cs_all (sem_cons (sem_fz (sem_lc (vs := [1]) (sem_ia (sem_var 0)) (sem_gn 1) sem_yes (sem_call (sem_cons (sem_var 1) (sem_cons sem_int (sem_cons sem_int sem_nil))) (fun _ _ _ h => runD_len h)) (by decide))) sem_nil))))⟩
/-! ### is_lot_value -/
abbrev s_is_lot_value : Stmt := top 13
abbrev N_is_lot_value : List Str := ["shape", "thing", "place"]
theorem sc_is_lot_value : FnScope N_is_lot_value ["shape", "thing"] (defScope s_is_lot_value) := ⟨rfl, rfl, rfl, by decide +kernel, rfl, by decide +kernel, by decide +kernel⟩
def m_is_lot_value : FS :=
    (fSeq (fIfS (fOr (fNot (fB (fIsi "tuple" (fV 1)))) (fNot (fB (fCB bAll (fCons (fFz (fLc (fIA (fV 1)) (tgN 2) fYes (fCall d_is_between (fCons (fV 2) (fCons (fC (.int 0)) (fCons (fOp oSub (fCB bLen (fCons (fV 0) fNil)) (fC (.int 1))) fNil)))) [2])) fNil))))) (fRet (fC (.bl false))) fNext)
    (fRet (fCall d_is_rising (fCons (fV 1) fNil))))
abbrev d_is_lot_value : List D → Dk → Option (D × Dk) := runD 3 2 m_is_lot_value
theorem ok_is_lot_value (B : Bn mg)  {f_is_between : Addr} {fd_is_between : FuncData} (C_is_between : Cal P w K mg base 2 "is_between" ["thing", "least", "most"] 3 d_is_between f_is_between fd_is_between) {f_is_rising : Addr} {fd_is_rising : FuncData} (C_is_rising : Cal P w K mg base 1 "is_rising" ["thing"] 1 d_is_rising f_is_rising fd_is_rising) {f : Addr} {fd : FuncData} (F : FnP K "is_lot_value" s_is_lot_value f fd) (gf : mg "is_lot_value" = some (.ref f)) : Cal P w K mg base 3 "is_lot_value" ["shape", "thing"] 2 d_is_lot_value f fd := by
  refine ⟨gf, F.kp, F.bindsN (fun _ _ _ _ _ _ us hl => match us, hl with | [_, _], _ => rfl), ?_⟩
  refine defG (N := N_is_lot_value) F sc_is_lot_value rfl (fun cdv A outer s H hg hr => ?_)
  have nd := sc_is_lot_value.nd
  have hu := hu_of hr
  have hul := Nat.lt_of_succ_lt hu
  exact ⟨_, (pss_cons (ps_if (PW.pt (pw_or (pt_not (pt_val (pe_callB call_isi rfl B.isinstance PyProof.Rows.boot_isinstance (pa_cons (pv 1) (pa_cons (pe_bltn rfl B.tuple PyProof.Rows.boot_tuple (v := V.ty "tuple") rfl) pa_nil))))) (pw_or1 (pt_not (pt_val (pe_callB (cr_all rfl) rfl B.all PyProof.Rows.boot_all (pa_cons (pe_lc (own := [("place", 2)]) rfl nd (pi_any (pv 1)) (blkOk_by (N := N_is_lot_value) (sc := defScope s_is_lot_value) (own := [("place", 2)]) (by decide +kernel)) (fun _ _ _ _ _ => (pg_name (i := 2) nd rfl (by first | exact Or.inl rfl | exact Or.inr rfl))) (fun _ _ _ _ _ => pts_nil) (fun _ _ _ _ _ => (pe_callG C_is_between.F hg (hr.mono (by decide)) rfl C_is_between.gm C_is_between.kp C_is_between.b (pa_cons (pv 2) (pa_cons pe_int (pa_cons (pe_op op_sub (pe_callB call_len_seq rfl B.len PySem.boot_len (pa_cons (pv 0) pa_nil)) pe_int) pa_nil)))))) pa_nil)))))))
    (pss_one (ps_ret pe_bl)) pss_nil)
    (pss_one (ps_ret (pe_callG C_is_rising.F hg (hr.mono (by decide)) rfl C_is_rising.gm C_is_rising.kp C_is_rising.b (pa_cons (pv 1) pa_nil))))),
    (sem_seq (sem_ifS (sem_or (sem_not (sem_B (sem_isi (T := "tuple") (sem_var 1)))) (sem_not (sem_B (sem_cb cs_all (sem_cons (sem_fz (sem_lc (vs := [2]) (sem_ia (sem_var 1)) (sem_gn 2) sem_yes (sem_call (sem_cons (sem_var 2) (sem_cons sem_int (sem_cons (sem_op os_sub (sem_cb cs_len (sem_cons (sem_var 0) sem_nil)) sem_int) sem_nil))) (fun _ _ _ h => runD_len h)) (by decide))) sem_nil))))) (sem_ret sem_bl) sem_next)
    (sem_ret (sem_call (sem_cons (sem_var 1) sem_nil) (fun _ _ _ h => runD_len h))))⟩
/-! ### need_shape -/
abbrev s_need_shape : Stmt := top 14
abbrev N_need_shape : List Str := ["shape"]
theorem sc_need_shape : FnScope N_need_shape ["shape"] (defScope s_need_shape) := ⟨rfl, rfl, rfl, by decide +kernel, rfl, by decide +kernel, by decide +kernel⟩
def m_need_shape : FS :=
    (fIfS (fNot (fB (fCall d_is_shape_value (fCons (fV 0) fNil)))) fNever fNext)
abbrev d_need_shape : List D → Dk → Option (D × Dk) := runD 1 1 m_need_shape
theorem ok_need_shape (B : Bn mg)  {f_is_shape_value : Addr} {fd_is_shape_value : FuncData} (C_is_shape_value : Cal P w K mg base 3 "is_shape_value" ["thing"] 1 d_is_shape_value f_is_shape_value fd_is_shape_value) {f : Addr} {fd : FuncData} (F : FnP K "need_shape" s_need_shape f fd) (gf : mg "need_shape" = some (.ref f)) : Cal P w K mg base 4 "need_shape" ["shape"] 1 d_need_shape f fd := by
  refine ⟨gf, F.kp, F.bindsN (fun _ _ _ _ _ _ us hl => match us, hl with | [_], _ => rfl), ?_⟩
  refine defG (N := N_need_shape) F sc_need_shape rfl (fun cdv A outer s H hg hr => ?_)
  have nd := sc_need_shape.nd
  have hu := hu_of hr
  have hul := Nat.lt_of_succ_lt hu
  exact ⟨_, (pss_one (ps_if (pt_not (pt_val (pe_callG C_is_shape_value.F hg (hr.mono (by decide)) rfl C_is_shape_value.gm C_is_shape_value.kp C_is_shape_value.b (pa_cons (pv 0) pa_nil))))
    pss_never pss_nil)),
    (sem_ifS (sem_not (sem_B (sem_call (sem_cons (sem_var 0) sem_nil) (fun _ _ _ h => runD_len h)))) sem_never sem_next)⟩
/-! ### are_lots -/
abbrev s_are_lots : Stmt := top 15
abbrev N_are_lots : List Str := ["shape", "thing", "lot"]
theorem sc_are_lots : FnScope N_are_lots ["shape", "thing"] (defScope s_are_lots) := ⟨rfl, rfl, rfl, by decide +kernel, rfl, by decide +kernel, by decide +kernel⟩
def m_are_lots : FS :=
    (fRet (fAndV (fIsi "tuple" (fV 1)) (fCB bAll (fCons (fFz (fLc (fIA (fV 1)) (tgN 2) fYes (fCall d_is_lot_value (fCons (fV 0) (fCons (fV 2) fNil))) [2])) fNil))))
abbrev d_are_lots : List D → Dk → Option (D × Dk) := runD 3 2 m_are_lots
theorem ok_are_lots (B : Bn mg)  {f_is_lot_value : Addr} {fd_is_lot_value : FuncData} (C_is_lot_value : Cal P w K mg base 3 "is_lot_value" ["shape", "thing"] 2 d_is_lot_value f_is_lot_value fd_is_lot_value) {f : Addr} {fd : FuncData} (F : FnP K "are_lots" s_are_lots f fd) (gf : mg "are_lots" = some (.ref f)) : Cal P w K mg base 4 "are_lots" ["shape", "thing"] 2 d_are_lots f fd := by
  refine ⟨gf, F.kp, F.bindsN (fun _ _ _ _ _ _ us hl => match us, hl with | [_, _], _ => rfl), ?_⟩
  refine defG (N := N_are_lots) F sc_are_lots rfl (fun cdv A outer s H hg hr => ?_)
  have nd := sc_are_lots.nd
  have hu := hu_of hr
  have hul := Nat.lt_of_succ_lt hu
  exact ⟨_, (pss_one (ps_ret (pe_and (pe_callB call_isi rfl B.isinstance PyProof.Rows.boot_isinstance (pa_cons (pv 1) (pa_cons (pe_bltn rfl B.tuple PyProof.Rows.boot_tuple (v := V.ty "tuple") rfl) pa_nil))) (pe_one (pe_callB (cr_all rfl) rfl B.all PyProof.Rows.boot_all (pa_cons (pe_lc (own := [("lot", 2)]) rfl nd (pi_any (pv 1)) (blkOk_by (N := N_are_lots) (sc := defScope s_are_lots) (own := [("lot", 2)]) (by decide +kernel)) (fun _ _ _ _ _ => (pg_name (i := 2) nd rfl (by first | exact Or.inl rfl | exact Or.inr rfl))) (fun _ _ _ _ _ => pts_nil) (fun _ _ _ _ _ => (pe_callG C_is_lot_value.F hg (hr.mono (by decide)) rfl C_is_lot_value.gm C_is_lot_value.kp C_is_lot_value.b (pa_cons (pv 0) (pa_cons (pv 2) pa_nil))))) pa_nil)))))),
    (sem_ret (sem_andV (sem_isi (T := "tuple") (sem_var 1)) (sem_cb cs_all (sem_cons (sem_fz (sem_lc (vs := [2]) (sem_ia (sem_var 1)) (sem_gn 2) sem_yes (sem_call (sem_cons (sem_var 0) (sem_cons (sem_var 2) sem_nil)) (fun _ _ _ h => runD_len h)) (by decide))) sem_nil))))⟩
/-! ### is_web -/
abbrev s_is_web : Stmt := top 17
abbrev N_is_web : List Str := ["many", "thing", "pair", "at"]
theorem sc_is_web : FnScope N_is_web ["many", "thing"] (defScope s_is_web) := ⟨rfl, rfl, rfl, by decide +kernel, rfl, by decide +kernel, by decide +kernel⟩
def m_is_web : FS :=
    (fSeq (fIfS (fNot (fB (fIsi "tuple" (fV 1)))) (fRet (fC (.bl false))) fNext)
    (fSeq (fFor (fIA (fV 1)) (tgN 2) (fSeq (fIfS (fOr (fNot (fB (fIsi "tuple" (fV 2)))) (fOr (fB (fOp oNe (fCB bLen (fCons (fV 2) fNil)) (fC (.int 2)))) (fNot (fB (fCB bAll (fCons (fFz (fLc (fIA (fV 2)) (tgN 3) fYes (fCall d_is_between (fCons (fV 3) (fCons (fC (.int 0)) (fCons (fOp oSub (fV 0) (fC (.int 1))) fNil)))) [3])) fNil)))))) (fRet (fC (.bl false))) fNext)
    (fIfS (fB (fOp oEq (fOp oIx (fV 2) (fC (.int 0))) (fOp oIx (fV 2) (fC (.int 1))))) (fRet (fC (.bl false))) fNext)))
    (fRet (fCall d_is_rising (fCons (fV 1) fNil)))))
abbrev d_is_web : List D → Dk → Option (D × Dk) := runD 4 2 m_is_web
theorem ok_is_web (B : Bn mg)  {f_is_between : Addr} {fd_is_between : FuncData} (C_is_between : Cal P w K mg base 2 "is_between" ["thing", "least", "most"] 3 d_is_between f_is_between fd_is_between) {f_is_rising : Addr} {fd_is_rising : FuncData} (C_is_rising : Cal P w K mg base 1 "is_rising" ["thing"] 1 d_is_rising f_is_rising fd_is_rising) {f : Addr} {fd : FuncData} (F : FnP K "is_web" s_is_web f fd) (gf : mg "is_web" = some (.ref f)) : Cal P w K mg base 3 "is_web" ["many", "thing"] 2 d_is_web f fd := by
  refine ⟨gf, F.kp, F.bindsN (fun _ _ _ _ _ _ us hl => match us, hl with | [_, _], _ => rfl), ?_⟩
  refine defG (N := N_is_web) F sc_is_web rfl (fun cdv A outer s H hg hr => ?_)
  have nd := sc_is_web.nd
  have hu := hu_of hr
  have hul := Nat.lt_of_succ_lt hu
  exact ⟨_, (pss_cons (ps_if (pt_not (pt_val (pe_callB call_isi rfl B.isinstance PyProof.Rows.boot_isinstance (pa_cons (pv 1) (pa_cons (pe_bltn rfl B.tuple PyProof.Rows.boot_tuple (v := V.ty "tuple") rfl) pa_nil)))))
    (pss_one (ps_ret pe_bl)) pss_nil)
    (pss_cons (ps_for PassesOwn.never rfl (pi_any (pv 1)) (pg_name (i := 2) nd rfl (by first | exact Or.inl rfl | exact Or.inr rfl))
    (pss_cons (ps_if (PW.pt (pw_or (pt_not (pt_val (pe_callB call_isi rfl B.isinstance PyProof.Rows.boot_isinstance (pa_cons (pv 2) (pa_cons (pe_bltn rfl B.tuple PyProof.Rows.boot_tuple (v := V.ty "tuple") rfl) pa_nil))))) (pw_or (pt_cmpR op_ne (pe_callB call_len_seq rfl B.len PySem.boot_len (pa_cons (pv 2) pa_nil)) pe_int (nomark _)) (pw_or1 (pt_not (pt_val (pe_callB (cr_all rfl) rfl B.all PyProof.Rows.boot_all (pa_cons (pe_lc (own := [("at", 3)]) rfl nd (pi_any (pv 2)) (blkOk_by (N := N_is_web) (sc := defScope s_is_web) (own := [("at", 3)]) (by decide +kernel)) (fun _ _ _ _ _ => (pg_name (i := 3) nd rfl (by first | exact Or.inl rfl | exact Or.inr rfl))) (fun _ _ _ _ _ => pts_nil) (fun _ _ _ _ _ => (pe_callG C_is_between.F hg (hr.mono (by decide)) rfl C_is_between.gm C_is_between.kp C_is_between.b (pa_cons (pv 3) (pa_cons pe_int (pa_cons (pe_op op_sub (pv 0) pe_int) pa_nil)))))) pa_nil))))))))
    (pss_one (ps_ret pe_bl)) pss_nil)
    (pss_one (ps_if (pt_cmpR op_eq (pe_ix ix_x (pv 2) pe_int (fun _ _ => rfl)) (pe_ix ix_x (pv 2) pe_int (fun _ _ => rfl)) (nomark _))
    (pss_one (ps_ret pe_bl)) pss_nil))))
    (pss_one (ps_ret (pe_callG C_is_rising.F hg (hr.mono (by decide)) rfl C_is_rising.gm C_is_rising.kp C_is_rising.b (pa_cons (pv 1) pa_nil)))))),
    (sem_seq (sem_ifS (sem_not (sem_B (sem_isi (T := "tuple") (sem_var 1)))) (sem_ret sem_bl) sem_next)
    (sem_seq (sem_for (sem_ia (sem_var 1)) (sem_gn 2) (sem_seq (sem_ifS (sem_or (sem_not (sem_B (sem_isi (T := "tuple") (sem_var 2)))) (sem_or (sem_test (sem_op os_ne (sem_cb cs_len (sem_cons (sem_var 2) sem_nil)) sem_int)) (sem_not (sem_B (sem_cb cs_all (sem_cons (sem_fz (sem_lc (vs := [3]) (sem_ia (sem_var 2)) (sem_gn 3) sem_yes (sem_call (sem_cons (sem_var 3) (sem_cons sem_int (sem_cons (sem_op os_sub (sem_var 0) sem_int) sem_nil))) (fun _ _ _ h => runD_len h)) (by decide))) sem_nil)))))) (sem_ret sem_bl) sem_next)
    (sem_ifS (sem_test (sem_op os_eq (sem_op os_ix (sem_var 2) sem_int) (sem_op os_ix (sem_var 2) sem_int))) (sem_ret sem_bl) sem_next)))
    (sem_ret (sem_call (sem_cons (sem_var 1) sem_nil) (fun _ _ _ h => runD_len h)))))⟩
/-! ### need_web -/
abbrev s_need_web : Stmt := top 18
abbrev N_need_web : List Str := ["many", "web"]
theorem sc_need_web : FnScope N_need_web ["many", "web"] (defScope s_need_web) := ⟨rfl, rfl, rfl, by decide +kernel, rfl, by decide +kernel, by decide +kernel⟩
def m_need_web : FS :=
    (fIfS (fNot (fB (fCall d_is_web (fCons (fV 0) (fCons (fV 1) fNil))))) fNever fNext)
abbrev d_need_web : List D → Dk → Option (D × Dk) := runD 2 2 m_need_web
theorem ok_need_web (B : Bn mg)  {f_is_web : Addr} {fd_is_web : FuncData} (C_is_web : Cal P w K mg base 3 "is_web" ["many", "thing"] 2 d_is_web f_is_web fd_is_web) {f : Addr} {fd : FuncData} (F : FnP K "need_web" s_need_web f fd) (gf : mg "need_web" = some (.ref f)) : Cal P w K mg base 4 "need_web" ["many", "web"] 2 d_need_web f fd := by
  refine ⟨gf, F.kp, F.bindsN (fun _ _ _ _ _ _ us hl => match us, hl with | [_, _], _ => rfl), ?_⟩
  refine defG (N := N_need_web) F sc_need_web rfl (fun cdv A outer s H hg hr => ?_)
  have nd := sc_need_web.nd
  have hu := hu_of hr
  have hul := Nat.lt_of_succ_lt hu
  exact ⟨_, (pss_one (ps_if (pt_not (pt_val (pe_callG C_is_web.F hg (hr.mono (by decide)) rfl C_is_web.gm C_is_web.kp C_is_web.b (pa_cons (pv 0) (pa_cons (pv 1) pa_nil)))))
    pss_never pss_nil)),
    (sem_ifS (sem_not (sem_B (sem_call (sem_cons (sem_var 0) (sem_cons (sem_var 1) sem_nil)) (fun _ _ _ h => runD_len h)))) sem_never sem_next)⟩
/-! ### lots_told -/
abbrev s_lots_told : Stmt := top 19
abbrev N_lots_told : List Str := ["lots", "web", "found", "at", "lot", "places", "place", "near", "far"]
theorem sc_lots_told : FnScope N_lots_told ["lots", "web"] (defScope s_lots_told) := ⟨rfl, rfl, rfl, by decide +kernel, rfl, by decide +kernel, by decide +kernel⟩
def m_lots_told : FS :=
    (fSeq (fAsgO (fLst fNil) 2)
    (fSeq (fFor (fEnA (fCons (fV 0) fNil)) (tgT 2 (tgsCons (tgN 3) (tgsCons (tgN 4) tgsNil))) (fSeq (fAsgO (fDc (fIA (fV 4)) (tgN 6) (fV 6) (fC (.bl true)) [6]) 5)
    (fSeq (fFor (fIA (fV 1)) (tgT 2 (tgsCons (tgN 7) (tgsCons (tgN 8) tgsNil))) (fIfS (fB (fOp oEq (fV 8) (fV 3))) (fUpd 5 (fDc (fIA (fOp oIx (fV 0) (fV 7))) (tgN 6) (fV 6) (fC (.bl true)) [6])) fNext))
    (fApp 2 (fCB bTup (fCons (fFz (fSortD 5)) fNil))))))
    (fFrz 2 (fRet (fCB bTup (fCons (fV 2) fNil))))))
abbrev d_lots_told : List D → Dk → Option (D × Dk) := runD 9 2 m_lots_told
theorem ok_lots_told (B : Bn mg)   {f : Addr} {fd : FuncData} (F : FnP K "lots_told" s_lots_told f fd) (gf : mg "lots_told" = some (.ref f)) : Cal P w K mg base 1 "lots_told" ["lots", "web"] 2 d_lots_told f fd := by
  refine ⟨gf, F.kp, F.bindsN (fun _ _ _ _ _ _ us hl => match us, hl with | [_, _], _ => rfl), ?_⟩
  refine defG (N := N_lots_told) F sc_lots_told rfl (fun cdv A outer s H hg hr => ?_)
  have nd := sc_lots_told.nd
  have hu := hu_of hr
  have hul := Nat.lt_of_succ_lt hu
  exact ⟨_, (pss_cons (ps_set (i := 2) nd rfl (by first | exact Or.inl rfl | exact Or.inr rfl) (pe_lst pa_nil))
    (pss_cons (ps_for PassesOwn.never rfl (pi_enumA rfl B.enumerate (pa_cons (pv 0) pa_nil)) (pg_tup rfl (pgs_cons (pg_name (i := 3) nd rfl (by first | exact Or.inl rfl | exact Or.inr rfl)) (pgs_cons (pg_name (i := 4) nd rfl (by first | exact Or.inl rfl | exact Or.inr rfl)) pgs_nil)))
    (pss_cons (ps_setDc (i := 5) (own := [("place", 6)]) rfl nd rfl rfl (sw_trueD rfl rfl rfl (by decide +kernel)) (pi_any (pv 4)) (blkOk_by (N := N_lots_told) (sc := defScope s_lots_told) (own := [("place", 6)]) (by decide +kernel)) (fun _ _ _ _ _ => (pg_name (i := 6) nd rfl (by first | exact Or.inl rfl | exact Or.inr rfl))) (fun _ _ _ _ _ => pts_nil) (fun _ _ _ _ _ => (pv 6)) (fun _ _ _ _ _ => pe_bl))
    (pss_cons (ps_for PassesOwn.never rfl (pi_any (pv 1)) (pg_tup rfl (pgs_cons (pg_name (i := 7) nd rfl (by first | exact Or.inl rfl | exact Or.inr rfl)) (pgs_cons (pg_name (i := 8) nd rfl (by first | exact Or.inl rfl | exact Or.inr rfl)) pgs_nil)))
    (pss_one (ps_if (pt_cmpR op_eq (pv 8) (pv 3) (nomark _))
    (pss_one (ps_expr (pe_bm PySem.F.plainAttrs_dict PySem.F.slot_dict_update PySem.F.type_dict_update mt_update (pv 5) (pa_cons (pe_dc (own := [("place", 6)]) rfl nd (pi_any (pe_ix ix_x (pv 0) (pv 7) (fun _ _ => rfl))) (blkOk_by (N := N_lots_told) (sc := defScope s_lots_told) (own := [("place", 6)]) (by decide +kernel)) (fun _ _ _ _ _ => (pg_name (i := 6) nd rfl (by first | exact Or.inl rfl | exact Or.inr rfl))) (fun _ _ _ _ _ => pts_nil) (fun _ _ _ _ _ => (pv 6)) (fun _ _ _ _ _ => pe_bl)) pa_nil)))) pss_nil)))
    (pss_one (ps_expr (pe_bm PySem.F.plainAttrs_list PySem.F.slot_list_append PySem.F.type_list_append mt_append (pv 2) (pa_cons (pe_callTy call_tuple_of rfl B.tuple PyProof.Rows.boot_tuple (pa_cons (pe_callB (call_sortedDI rfl) rfl B.sorted PyProof.Rows.boot_sorted (pa_cons (pv 5) pa_nil)) pa_nil)) pa_nil)))))))
    (pss_one (ps_ret (pe_callTy call_tuple_of rfl B.tuple PyProof.Rows.boot_tuple (pa_cons (pv 2) pa_nil)))))),
    (sem_seq (sem_asgO 2 (sem_lst sem_nil))
    (sem_seq (sem_for (sem_enA (sem_cons (sem_var 0) sem_nil)) (sem_gt (sem_gsc (sem_gn 3) (sem_gsc (sem_gn 4) sem_gsn))) (sem_seq (sem_asgO 5 (sem_dc (vs := [6]) (sem_ia (sem_var 4)) (sem_gn 6) (sem_var 6) sem_bl (by decide)))
    (sem_seq (sem_for (sem_ia (sem_var 1)) (sem_gt (sem_gsc (sem_gn 7) (sem_gsc (sem_gn 8) sem_gsn))) (sem_ifS (sem_test (sem_op os_eq (sem_var 8) (sem_var 3))) (sem_upd 5 (sem_dc (vs := [6]) (sem_ia (sem_op os_ix (sem_var 0) (sem_var 7))) (sem_gn 6) (sem_var 6) sem_bl (by decide))) sem_next))
    (sem_app 2 (sem_cb cs_tup (sem_cons (sem_fz (sem_sortD 5)) sem_nil))))))
    (sem_frz 2 (sem_ret (sem_cb cs_tup (sem_cons (sem_var 2) sem_nil))))))⟩
/-! ### sights_after -/
abbrev s_sights_after : Stmt := top 20
abbrev N_sights_after : List Str := ["shape", "lots", "web", "k", "turn"]
theorem sc_sights_after : FnScope N_sights_after ["shape", "lots", "web", "k"] (defScope s_sights_after) := ⟨rfl, rfl, rfl, by decide +kernel, rfl, by decide +kernel, by decide +kernel⟩
def m_sights_after : FS :=
    (fSeq (fDrop (fCall d_need_shape (fCons (fV 0) fNil)))
    (fSeq (fIfS (fNot (fB (fCall d_are_lots (fCons (fV 0) (fCons (fV 1) fNil))))) fNever fNext)
    (fSeq (fDrop (fCall d_need_web (fCons (fCB bLen (fCons (fV 1) fNil)) (fCons (fV 2) fNil))))
    (fSeq (fIfS (fOr (fNot (fB (fCall d_is_integer (fCons (fV 3) fNil)))) (fB (fOp oLtX (fV 3) (fC (.int 0))))) fNever fNext)
    (fSeq (fFor (fR1 (fCons (fCB bMin (fCons (fV 3) (fCons (fCB bLen (fCons (fV 1) fNil)) fNil))) fNil)) (tgN 4) (fAsg (fCall d_lots_told (fCons (fV 1) (fCons (fV 2) fNil))) (tgN 1)))
    (fRet (fV 1)))))))
abbrev d_sights_after : List D → Dk → Option (D × Dk) := runD 5 4 m_sights_after
theorem ok_sights_after (B : Bn mg)  {f_need_shape : Addr} {fd_need_shape : FuncData} (C_need_shape : Cal P w K mg base 4 "need_shape" ["shape"] 1 d_need_shape f_need_shape fd_need_shape) {f_are_lots : Addr} {fd_are_lots : FuncData} (C_are_lots : Cal P w K mg base 4 "are_lots" ["shape", "thing"] 2 d_are_lots f_are_lots fd_are_lots) {f_need_web : Addr} {fd_need_web : FuncData} (C_need_web : Cal P w K mg base 4 "need_web" ["many", "web"] 2 d_need_web f_need_web fd_need_web) {f_is_integer : Addr} {fd_is_integer : FuncData} (C_is_integer : Cal P w K mg base 1 "is_integer" ["thing"] 1 d_is_integer f_is_integer fd_is_integer) {f_lots_told : Addr} {fd_lots_told : FuncData} (C_lots_told : Cal P w K mg base 1 "lots_told" ["lots", "web"] 2 d_lots_told f_lots_told fd_lots_told) {f : Addr} {fd : FuncData} (F : FnP K "sights_after" s_sights_after f fd) (gf : mg "sights_after" = some (.ref f)) : Cal P w K mg base 5 "sights_after" ["shape", "lots", "web", "k"] 4 d_sights_after f fd := by
  refine ⟨gf, F.kp, F.bindsN (fun _ _ _ _ _ _ us hl => match us, hl with | [_, _, _, _], _ => rfl), ?_⟩
  refine defG (N := N_sights_after) F sc_sights_after rfl (fun cdv A outer s H hg hr => ?_)
  have nd := sc_sights_after.nd
  have hu := hu_of hr
  have hul := Nat.lt_of_succ_lt hu
  exact ⟨_, (pss_cons (ps_expr (pe_callG C_need_shape.F hg (hr.mono (by decide)) rfl C_need_shape.gm C_need_shape.kp C_need_shape.b (pa_cons (pv 0) pa_nil)))
    (pss_cons (ps_if (pt_not (pt_val (pe_callG C_are_lots.F hg (hr.mono (by decide)) rfl C_are_lots.gm C_are_lots.kp C_are_lots.b (pa_cons (pv 0) (pa_cons (pv 1) pa_nil)))))
    pss_never pss_nil)
    (pss_cons (ps_expr (pe_callG C_need_web.F hg (hr.mono (by decide)) rfl C_need_web.gm C_need_web.kp C_need_web.b (pa_cons (pe_callB call_len_seq rfl B.len PySem.boot_len (pa_cons (pv 1) pa_nil)) (pa_cons (pv 2) pa_nil))))
    (pss_cons (ps_if (PW.pt (pw_or (pt_not (pt_val (pe_callG C_is_integer.F hg (hr.mono (by decide)) rfl C_is_integer.gm C_is_integer.kp C_is_integer.b (pa_cons (pv 3) pa_nil)))) (pw_or1 (pt_cmpR (op_ltX hul) (pv 3) pe_int (nomark _)))))
    pss_never pss_nil)
    (pss_cons (ps_for PassesOwn.never rfl (pi_range1 rfl B.range (pa_cons (pe_callB (call_min2 rfl) rfl B.min PyProof.Rows.boot_min (pa_cons (pv 3) (pa_cons (pe_callB call_len_seq rfl B.len PySem.boot_len (pa_cons (pv 1) pa_nil)) pa_nil))) pa_nil)) (pg_name (i := 4) nd rfl (by first | exact Or.inl rfl | exact Or.inr rfl))
    (pss_one (ps_set (i := 1) nd rfl (by first | exact Or.inl rfl | exact Or.inr rfl) (pe_callG C_lots_told.F hg (hr.mono (by decide)) rfl C_lots_told.gm C_lots_told.kp C_lots_told.b (pa_cons (pv 1) (pa_cons (pv 2) pa_nil))))))
    (pss_one (ps_ret (pv 1)))))))),
    (sem_seq (sem_drop (sem_call (sem_cons (sem_var 0) sem_nil) (fun _ _ _ h => runD_len h)))
    (sem_seq (sem_ifS (sem_not (sem_B (sem_call (sem_cons (sem_var 0) (sem_cons (sem_var 1) sem_nil)) (fun _ _ _ h => runD_len h)))) sem_never sem_next)
    (sem_seq (sem_drop (sem_call (sem_cons (sem_cb cs_len (sem_cons (sem_var 1) sem_nil)) (sem_cons (sem_var 2) sem_nil)) (fun _ _ _ h => runD_len h)))
    (sem_seq (sem_ifS (sem_or (sem_not (sem_B (sem_call (sem_cons (sem_var 3) sem_nil) (fun _ _ _ h => runD_len h)))) (sem_test (sem_op os_ltX (sem_var 3) sem_int))) sem_never sem_next)
    (sem_seq (sem_for (sem_r1 (sem_cons (sem_cb cs_min (sem_cons (sem_var 3) (sem_cons (sem_cb cs_len (sem_cons (sem_var 1) sem_nil)) sem_nil))) sem_nil)) (sem_gn 4) (sem_asg (sem_call (sem_cons (sem_var 1) (sem_cons (sem_var 2) sem_nil)) (fun _ _ _ h => runD_len h)) (sem_gn 1)))
    (sem_ret (sem_var 1)))))))⟩
/-! ### _law_draw -/
abbrev s_law_draw : Stmt := top 23
abbrev N_law_draw : List Str := ["deck", "many", "number", "cell"]
theorem sc_law_draw : FnScope N_law_draw ["deck", "many"] (defScope s_law_draw) := ⟨rfl, rfl, rfl, by decide +kernel, rfl, by decide +kernel, by decide +kernel⟩
def m_law_draw : FS :=
    (fSeq (fPutDraws 0 (fOp oAddX (fDraws 0) (fC (.int 1))))
    (fSeq (fAsg (fOp oAddX (fMixed 0) (fOp oMul (fC (.int 61473)) (fDraws 0))) (tgN 2))
    (fSeq (fIfS (fSome 0) (fSeq (fAsg (fPop 0) (tgN 3))
    (fSeq (fIfS (fB (fOp oGe (fV 3) (fOp oPow (fC (.int 10)) (fC (.int 18))))) (fSeq (fPush 0 (fOp oDivW (fV 3) (fCB bMax (fCons (fC (.int 2)) (fCons (fV 1) fNil)))))
    (fRet (fOp oMod (fCB bInt (fCons (fV 3) fNil)) (fV 1)))) fNext)
    (fAsg (fOp oAddX (fV 2) (fOp oMod (fCB bInt (fCons (fV 3) fNil)) (fC (.int 2147483629)))) (tgN 2)))) fNext)
    (fSeq (fAsg (fOp oMod (fCB bInt (fCons (fOp oAddX (fOp oMul (fV 2) (fC (.int 39373))) (fC (.int 153))) fNil)) (fC (.int 2147483647))) (tgN 2))
    (fSeq (fAsg (fOp oMod (fCB bInt (fCons (fOp oAddX (fOp oAddX (fOp oMul (fV 2) (fV 2)) (fOp oMul (fC (.int 52713)) (fDraws 0))) (fC (.int 319))) fNil)) (fC (.int 2147483587))) (tgN 2))
    (fSeq (fAsg (fOp oMod (fCB bInt (fCons (fOp oMul (fV 2) (fC (.int 40692))) fNil)) (fC (.int 2147483563))) (tgN 2))
    (fRet (fOp oMod (fCB bInt (fCons (fOp oDivW (fV 2) (fC (.int 64))) fNil)) (fV 1)))))))))
abbrev d_law_draw : List D → Dk → Option (D × Dk) := runD 4 2 m_law_draw
theorem ok_law_draw (B : Bn mg)   {f : Addr} {fd : FuncData} (F : FnP K "_law_draw" s_law_draw f fd) (gf : mg "_law_draw" = some (.ref f)) : Cal P w K mg base 1 "_law_draw" ["deck", "many"] 2 d_law_draw f fd := by
  refine ⟨gf, F.kp, F.bindsN (fun _ _ _ _ _ _ us hl => match us, hl with | [_, _], _ => rfl), ?_⟩
  refine defG (N := N_law_draw) F sc_law_draw rfl (fun cdv A outer s H hg hr => ?_)
  have nd := sc_law_draw.nd
  have hu := hu_of hr
  have hul := Nat.lt_of_succ_lt hu
  exact ⟨_, (pss_cons (ps_dput hu (pv 0) pe_str (pe_op op_addX (pe_dget hu (pv 0) pe_str (fun _ _ => rfl)) pe_int) rfl)
    (pss_cons (ps_set (i := 2) nd rfl (by first | exact Or.inl rfl | exact Or.inr rfl) (pe_op op_addX (pe_dget hu (pv 0) pe_str (fun _ _ => rfl)) (pe_op op_mul pe_int (pe_dget hu (pv 0) pe_str (fun _ _ => rfl)))))
    (pss_cons (ps_if (pt_cmpR (op_neD hr.units) (pe_dget hu (pv 0) pe_str (fun _ _ => rfl)) (pe_lst pa_nil) (nomark _))
    (pss_cons (ps_set (i := 3) nd rfl (by first | exact Or.inl rfl | exact Or.inr rfl) (pe_bm0 PySem.F.plainAttrs_list PySem.F.slot_list_pop PySem.F.type_list_pop mt_pop (pe_dget hu (pv 0) pe_str (fun _ _ => rfl))))
    (pss_cons (ps_if (pt_cmpR op_ge (pv 3) (pe_op op_pow pe_int pe_int) (nomark _))
    (pss_cons (ps_expr (pe_bm PySem.F.plainAttrs_list PySem.F.slot_list_append PySem.F.type_list_append mt_append (pe_dget hu (pv 0) pe_str (fun _ _ => rfl)) (pa_cons (pe_op op_fdivW (pv 3) (pe_callB (call_max2 rfl) rfl B.max PyProof.Rows.boot_max (pa_cons pe_int (pa_cons (pv 1) pa_nil)))) pa_nil)))
    (pss_one (ps_ret (pe_op op_mod (pe_callTy call_int1 rfl B.int PyProof.Rows.boot_int (pa_cons (pv 3) pa_nil)) (pv 1))))) pss_nil)
    (pss_one (ps_set (i := 2) nd rfl (by first | exact Or.inl rfl | exact Or.inr rfl) (pe_op op_addX (pv 2) (pe_op op_mod (pe_callTy call_int1 rfl B.int PyProof.Rows.boot_int (pa_cons (pv 3) pa_nil)) pe_int)))))) pss_nil)
    (pss_cons (ps_set (i := 2) nd rfl (by first | exact Or.inl rfl | exact Or.inr rfl) (pe_op op_mod (pe_callTy call_int1 rfl B.int PyProof.Rows.boot_int (pa_cons (pe_op op_addX (pe_op op_mul (pv 2) pe_int) pe_int) pa_nil)) pe_int))
    (pss_cons (ps_set (i := 2) nd rfl (by first | exact Or.inl rfl | exact Or.inr rfl) (pe_op op_mod (pe_callTy call_int1 rfl B.int PyProof.Rows.boot_int (pa_cons (pe_op op_addX (pe_op op_addX (pe_op op_mul (pv 2) (pv 2)) (pe_op op_mul pe_int (pe_dget hu (pv 0) pe_str (fun _ _ => rfl)))) pe_int) pa_nil)) pe_int))
    (pss_cons (ps_set (i := 2) nd rfl (by first | exact Or.inl rfl | exact Or.inr rfl) (pe_op op_mod (pe_callTy call_int1 rfl B.int PyProof.Rows.boot_int (pa_cons (pe_op op_mul (pv 2) pe_int) pa_nil)) pe_int))
    (pss_one (ps_ret (pe_op op_mod (pe_callTy call_int1 rfl B.int PyProof.Rows.boot_int (pa_cons (pe_op op_fdivW (pv 2) pe_int) pa_nil)) (pv 1)))))))))),
    (sem_seq (sem_putDraws 0 (sem_op os_addX (sem_draws 0) sem_int))
    (sem_seq (sem_asg (sem_op os_addX (sem_mixed 0) (sem_op os_mul sem_int (sem_draws 0))) (sem_gn 2))
    (sem_seq (sem_ifS (sem_some 0) (sem_seq (sem_asg (sem_pop 0) (sem_gn 3))
    (sem_seq (sem_ifS (sem_test (sem_op os_ge (sem_var 3) (sem_op os_pow sem_int sem_int))) (sem_seq (sem_push 0 (sem_op os_divW (sem_var 3) (sem_cb cs_max (sem_cons sem_int (sem_cons (sem_var 1) sem_nil)))))
    (sem_ret (sem_op os_mod (sem_cb cs_int (sem_cons (sem_var 3) sem_nil)) (sem_var 1)))) sem_next)
    (sem_asg (sem_op os_addX (sem_var 2) (sem_op os_mod (sem_cb cs_int (sem_cons (sem_var 3) sem_nil)) sem_int)) (sem_gn 2)))) sem_next)
    (sem_seq (sem_asg (sem_op os_mod (sem_cb cs_int (sem_cons (sem_op os_addX (sem_op os_mul (sem_var 2) sem_int) sem_int) sem_nil)) sem_int) (sem_gn 2))
    (sem_seq (sem_asg (sem_op os_mod (sem_cb cs_int (sem_cons (sem_op os_addX (sem_op os_addX (sem_op os_mul (sem_var 2) (sem_var 2)) (sem_op os_mul sem_int (sem_draws 0))) sem_int) sem_nil)) sem_int) (sem_gn 2))
    (sem_seq (sem_asg (sem_op os_mod (sem_cb cs_int (sem_cons (sem_op os_mul (sem_var 2) sem_int) sem_nil)) sem_int) (sem_gn 2))
    (sem_ret (sem_op os_mod (sem_cb cs_int (sem_cons (sem_op os_divW (sem_var 2) sem_int) sem_nil)) (sem_var 1)))))))))⟩
/-! ### _law_pick -/
abbrev s_law_pick : Stmt := top 24
abbrev N_law_pick : List Str := ["deck", "some"]
theorem sc_law_pick : FnScope N_law_pick ["deck", "some"] (defScope s_law_pick) := ⟨rfl, rfl, rfl, by decide +kernel, rfl, by decide +kernel, by decide +kernel⟩
def m_law_pick : FS :=
    (fRet (fOp oIx (fV 1) (fCall d_law_draw (fCons (fV 0) (fCons (fCB bLen (fCons (fV 1) fNil)) fNil)))))
abbrev d_law_pick : List D → Dk → Option (D × Dk) := runD 2 2 m_law_pick
theorem ok_law_pick (B : Bn mg)  {f_law_draw : Addr} {fd_law_draw : FuncData} (C_law_draw : Cal P w K mg base 1 "_law_draw" ["deck", "many"] 2 d_law_draw f_law_draw fd_law_draw) {f : Addr} {fd : FuncData} (F : FnP K "_law_pick" s_law_pick f fd) (gf : mg "_law_pick" = some (.ref f)) : Cal P w K mg base 2 "_law_pick" ["deck", "some"] 2 d_law_pick f fd := by
  refine ⟨gf, F.kp, F.bindsN (fun _ _ _ _ _ _ us hl => match us, hl with | [_, _], _ => rfl), ?_⟩
  refine defG (N := N_law_pick) F sc_law_pick rfl (fun cdv A outer s H hg hr => ?_)
  have nd := sc_law_pick.nd
  have hu := hu_of hr
  have hul := Nat.lt_of_succ_lt hu
  exact ⟨_, (pss_one (ps_ret (pe_ix ix_x (pv 1) (pe_callG C_law_draw.F hg (hr.mono (by decide)) rfl C_law_draw.gm C_law_draw.kp C_law_draw.b (pa_cons (pv 0) (pa_cons (pe_callB call_len_seq rfl B.len PySem.boot_len (pa_cons (pv 1) pa_nil)) pa_nil))) (fun _ _ => rfl)))),
    (sem_ret (sem_op os_ix (sem_var 1) (sem_call (sem_cons (sem_var 0) (sem_cons (sem_cb cs_len (sem_cons (sem_var 1) sem_nil)) sem_nil)) (fun _ _ _ h => runD_len h))))⟩
/-! ### _law_all -/
abbrev s_law_all : Stmt := top 25
abbrev N_law_all : List Str := ["many", "found", "k", "later", "it", "x"]
theorem sc_law_all : FnScope N_law_all ["many"] (defScope s_law_all) := ⟨rfl, rfl, rfl, by decide +kernel, rfl, by decide +kernel, by decide +kernel⟩
def m_law_all : FS :=
    (fSeq (fAsg (fFz (fLst (fCons (fTup fNil) fNil))) (tgN 1))
    (fSeq (fFor (fIA (fV 0)) (tgN 2) (fSeq (fAsgO (fLst fNil) 3)
    (fSeq (fFor (fIA (fV 1)) (tgN 4) (fExt 3 (fLc (fR1 (fCons (fV 2) fNil)) (tgN 5) fYes (fOp oAddX (fV 4) (fTup (fCons (fV 5) fNil))) [5])))
    (fFrz 3 (fAsg (fV 3) (tgN 1))))))
    (fRet (fV 1))))
abbrev d_law_all : List D → Dk → Option (D × Dk) := runD 6 1 m_law_all
theorem ok_law_all (B : Bn mg)   {f : Addr} {fd : FuncData} (F : FnP K "_law_all" s_law_all f fd) (gf : mg "_law_all" = some (.ref f)) : Cal P w K mg base 1 "_law_all" ["many"] 1 d_law_all f fd := by
  refine ⟨gf, F.kp, F.bindsN (fun _ _ _ _ _ _ us hl => match us, hl with | [_], _ => rfl), ?_⟩
  refine defG (N := N_law_all) F sc_law_all rfl (fun cdv A outer s H hg hr => ?_)
  have nd := sc_law_all.nd
  have hu := hu_of hr
  have hul := Nat.lt_of_succ_lt hu
  exact ⟨_, (pss_cons (ps_set (i := 1) nd rfl (by first | exact Or.inl rfl | exact Or.inr rfl) (pe_lst (pa_cons (pe_tup pa_nil) pa_nil)))
    (pss_cons (ps_for PassesOwn.never rfl (pi_any (pv 0)) (pg_name (i := 2) nd rfl (by first | exact Or.inl rfl | exact Or.inr rfl))
    (pss_cons (ps_set (i := 3) nd rfl (by first | exact Or.inl rfl | exact Or.inr rfl) (pe_lst pa_nil))
    (pss_cons (ps_for PassesOwn.never rfl (pi_any (pv 1)) (pg_name (i := 4) nd rfl (by first | exact Or.inl rfl | exact Or.inr rfl))
    (pss_one (ps_expr (pe_bm PySem.F.plainAttrs_list PySem.F.slot_list_extend PySem.F.type_list_extend mt_extend (pv 3) (pa_cons (pe_lc (own := [("x", 5)]) rfl nd (pi_range1 rfl B.range (pa_cons (pv 2) pa_nil)) (blkOk_by (N := N_law_all) (sc := defScope s_law_all) (own := [("x", 5)]) (by decide +kernel)) (fun _ _ _ _ _ => (pg_name (i := 5) nd rfl (by first | exact Or.inl rfl | exact Or.inr rfl))) (fun _ _ _ _ _ => pts_nil) (fun _ _ _ _ _ => (pe_op op_addX (pv 4) (pe_tup (pa_cons (pv 5) pa_nil))))) pa_nil)))))
    (pss_one (ps_set (i := 1) nd rfl (by first | exact Or.inl rfl | exact Or.inr rfl) (pv 3))))))
    (pss_one (ps_ret (pv 1))))),
    (sem_seq (sem_asg (sem_fz (sem_lst (sem_cons (sem_tup sem_nil) sem_nil))) (sem_gn 1))
    (sem_seq (sem_for (sem_ia (sem_var 0)) (sem_gn 2) (sem_seq (sem_asgO 3 (sem_lst sem_nil))
    (sem_seq (sem_for (sem_ia (sem_var 1)) (sem_gn 4) (sem_ext 3 (sem_lc (vs := [5]) (sem_r1 (sem_cons (sem_var 2) sem_nil)) (sem_gn 5) sem_yes (sem_op os_addX (sem_var 4) (sem_tup (sem_cons (sem_var 5) sem_nil))) (by decide))))
    (sem_frz 3 (sem_asg (sem_var 3) (sem_gn 1))))))
    (sem_ret (sem_var 1))))⟩
/-! ### _law_lot -/
abbrev s_law_lot : Stmt := top 26
abbrev N_law_lot : List Str := ["deck", "shape", "place"]
theorem sc_law_lot : FnScope N_law_lot ["deck", "shape"] (defScope s_law_lot) := ⟨rfl, rfl, rfl, by decide +kernel, rfl, by decide +kernel, by decide +kernel⟩
def m_law_lot : FS :=
    (fRet (fCB bTup (fCons (fFz (fLc (fR1 (fCons (fCB bLen (fCons (fV 1) fNil)) fNil)) (tgN 2) (fB (fOp oLtX (fCall d_law_draw (fCons (fV 0) (fCons (fC (.int 5)) fNil))) (fC (.int 3)))) (fV 2) [2])) fNil)))
abbrev d_law_lot : List D → Dk → Option (D × Dk) := runD 3 2 m_law_lot
theorem ok_law_lot (B : Bn mg)  {f_law_draw : Addr} {fd_law_draw : FuncData} (C_law_draw : Cal P w K mg base 1 "_law_draw" ["deck", "many"] 2 d_law_draw f_law_draw fd_law_draw) {f : Addr} {fd : FuncData} (F : FnP K "_law_lot" s_law_lot f fd) (gf : mg "_law_lot" = some (.ref f)) : Cal P w K mg base 2 "_law_lot" ["deck", "shape"] 2 d_law_lot f fd := by
  refine ⟨gf, F.kp, F.bindsN (fun _ _ _ _ _ _ us hl => match us, hl with | [_, _], _ => rfl), ?_⟩
  refine defG (N := N_law_lot) F sc_law_lot rfl (fun cdv A outer s H hg hr => ?_)
  have nd := sc_law_lot.nd
  have hu := hu_of hr
  have hul := Nat.lt_of_succ_lt hu
  exact ⟨_, (pss_one (ps_ret (pe_callTy call_tuple_of rfl B.tuple PyProof.Rows.boot_tuple (pa_cons (pe_lc (own := [("place", 2)]) rfl nd (pi_range1 rfl B.range (pa_cons (pe_callB call_len_seq rfl B.len PySem.boot_len (pa_cons (pv 1) pa_nil)) pa_nil)) (blkOk_by (N := N_law_lot) (sc := defScope s_law_lot) (own := [("place", 2)]) (by decide +kernel)) (fun _ _ _ _ _ => (pg_name (i := 2) nd rfl (by first | exact Or.inl rfl | exact Or.inr rfl))) (fun _ _ _ _ _ => (pts_one (pt_cmpR (op_ltX hul) (pe_callG C_law_draw.F hg (hr.mono (by decide)) rfl C_law_draw.gm C_law_draw.kp C_law_draw.b (pa_cons (pv 0) (pa_cons pe_int pa_nil))) pe_int (nomark _)))) (fun _ _ _ _ _ => (pv 2))) pa_nil)))),
    (sem_ret (sem_cb cs_tup (sem_cons (sem_fz (sem_lc (vs := [2]) (sem_r1 (sem_cons (sem_cb cs_len (sem_cons (sem_var 1) sem_nil)) sem_nil)) (sem_gn 2) (sem_test (sem_op os_ltX (sem_call (sem_cons (sem_var 0) (sem_cons sem_int sem_nil)) (fun _ _ _ h => runD_len h)) sem_int)) (sem_var 2) (by decide))) sem_nil)))⟩
/-! ### _law_web -/
abbrev s_law_web : Stmt := top 27
abbrev N_law_web : List Str := ["deck", "many", "pairs", "a", "b", "few", "it"]
theorem sc_law_web : FnScope N_law_web ["deck", "many"] (defScope s_law_web) := ⟨rfl, rfl, rfl, by decide +kernel, rfl, by decide +kernel, by decide +kernel⟩
def m_law_web : FS :=
    (fSeq (fAsg (fFz (fLc (fIA (fCall d_law_all (fCons (fTup (fCons (fV 1) (fCons (fV 1) fNil))) fNil))) (tgT 2 (tgsCons (tgN 3) (tgsCons (tgN 4) tgsNil))) (fB (fOp oNe (fV 3) (fV 4))) (fTup (fCons (fV 3) (fCons (fV 4) fNil))) [3, 4])) (tgN 2))
    (fSeq (fAsg (fOp oSub (fCall d_law_draw (fCons (fV 0) (fCons (fC (.int 5)) fNil))) (fC (.int 1))) (tgN 5))
    (fRet (fCB bTup (fCons (fFz (fLc (fIA (fV 2)) (tgN 6) (fB (fOp oLe (fCall d_law_draw (fCons (fV 0) (fCons (fC (.int 4)) fNil))) (fV 5))) (fV 6) [6])) fNil)))))
abbrev d_law_web : List D → Dk → Option (D × Dk) := runD 7 2 m_law_web
theorem ok_law_web (B : Bn mg)  {f_law_all : Addr} {fd_law_all : FuncData} (C_law_all : Cal P w K mg base 1 "_law_all" ["many"] 1 d_law_all f_law_all fd_law_all) {f_law_draw : Addr} {fd_law_draw : FuncData} (C_law_draw : Cal P w K mg base 1 "_law_draw" ["deck", "many"] 2 d_law_draw f_law_draw fd_law_draw) {f : Addr} {fd : FuncData} (F : FnP K "_law_web" s_law_web f fd) (gf : mg "_law_web" = some (.ref f)) : Cal P w K mg base 2 "_law_web" ["deck", "many"] 2 d_law_web f fd := by
  refine ⟨gf, F.kp, F.bindsN (fun _ _ _ _ _ _ us hl => match us, hl with | [_, _], _ => rfl), ?_⟩
  refine defG (N := N_law_web) F sc_law_web rfl (fun cdv A outer s H hg hr => ?_)
  have nd := sc_law_web.nd
  have hu := hu_of hr
  have hul := Nat.lt_of_succ_lt hu
  exact ⟨_, (pss_cons (ps_setLc (i := 2) (own := [("a", 3), ("b", 4)]) rfl nd rfl rfl (sw_true rfl rfl rfl (by decide +kernel)) (pi_any (pe_callG C_law_all.F hg (hr.mono (by decide)) rfl C_law_all.gm C_law_all.kp C_law_all.b (pa_cons (pe_tup (pa_cons (pv 1) (pa_cons (pv 1) pa_nil))) pa_nil))) (blkOk_by (N := N_law_web) (sc := defScope s_law_web) (own := [("a", 3), ("b", 4)]) (by decide +kernel)) (fun _ _ _ _ _ => (pg_tup rfl (pgs_cons (pg_name (i := 3) nd rfl (by first | exact Or.inl rfl | exact Or.inr rfl)) (pgs_cons (pg_name (i := 4) nd rfl (by first | exact Or.inl rfl | exact Or.inr rfl)) pgs_nil)))) (fun _ _ _ _ _ => (pts_one (pt_cmpR op_ne (pv 3) (pv 4) (nomark _)))) (fun _ _ _ _ _ => (pe_tup (pa_cons (pv 3) (pa_cons (pv 4) pa_nil)))))
    (pss_cons (ps_set (i := 5) nd rfl (by first | exact Or.inl rfl | exact Or.inr rfl) (pe_op op_sub (pe_callG C_law_draw.F hg (hr.mono (by decide)) rfl C_law_draw.gm C_law_draw.kp C_law_draw.b (pa_cons (pv 0) (pa_cons pe_int pa_nil))) pe_int))
    (pss_one (ps_ret (pe_callTy call_tuple_of rfl B.tuple PyProof.Rows.boot_tuple (pa_cons (pe_lc (own := [("it", 6)]) rfl nd (pi_any (pv 2)) (blkOk_by (N := N_law_web) (sc := defScope s_law_web) (own := [("it", 6)]) (by decide +kernel)) (fun _ _ _ _ _ => (pg_name (i := 6) nd rfl (by first | exact Or.inl rfl | exact Or.inr rfl))) (fun _ _ _ _ _ => (pts_one (pt_cmpR op_le (pe_callG C_law_draw.F hg (hr.mono (by decide)) rfl C_law_draw.gm C_law_draw.kp C_law_draw.b (pa_cons (pv 0) (pa_cons pe_int pa_nil))) (pv 5) (nomark _)))) (fun _ _ _ _ _ => (pv 6))) pa_nil)))))),
    (sem_seq (sem_asg (sem_fz (sem_lc (vs := [3, 4]) (sem_ia (sem_call (sem_cons (sem_tup (sem_cons (sem_var 1) (sem_cons (sem_var 1) sem_nil))) sem_nil) (fun _ _ _ h => runD_len h))) (sem_gt (sem_gsc (sem_gn 3) (sem_gsc (sem_gn 4) sem_gsn))) (sem_test (sem_op os_ne (sem_var 3) (sem_var 4))) (sem_tup (sem_cons (sem_var 3) (sem_cons (sem_var 4) sem_nil))) (by decide))) (sem_gn 2))
    (sem_seq (sem_asg (sem_op os_sub (sem_call (sem_cons (sem_var 0) (sem_cons sem_int sem_nil)) (fun _ _ _ h => runD_len h)) sem_int) (sem_gn 5))
    (sem_ret (sem_cb cs_tup (sem_cons (sem_fz (sem_lc (vs := [6]) (sem_ia (sem_var 2)) (sem_gn 6) (sem_test (sem_op os_le (sem_call (sem_cons (sem_var 0) (sem_cons sem_int sem_nil)) (fun _ _ _ h => runD_len h)) (sem_var 5))) (sem_var 6) (by decide))) sem_nil)))))⟩
/-! ### _law_after -/
abbrev s_law_after : Stmt := top 28
abbrev N_law_after : List Str := ["lots", "web", "k", "turn", "later", "at", "lot", "seen", "a", "b"]
theorem sc_law_after : FnScope N_law_after ["lots", "web", "k"] (defScope s_law_after) := ⟨rfl, rfl, rfl, by decide +kernel, rfl, by decide +kernel, by decide +kernel⟩
def m_law_after : FS :=
    (fSeq (fFor (fR1 (fCons (fCB bMin (fCons (fV 2) (fCons (fOp oAddX (fCB bLen (fCons (fV 0) fNil)) (fC (.int 1))) fNil))) fNil)) (tgN 3) (fSeq (fAsgO (fLst fNil) 4)
    (fSeq (fFor (fEnA (fCons (fV 0) fNil)) (tgT 2 (tgsCons (tgN 5) (tgsCons (tgN 6) tgsNil))) (fSeq (fAsgO (fCBF bLst (fCons (fV 6) fNil)) 7)
    (fSeq (fFor (fIA (fV 1)) (tgT 2 (tgsCons (tgN 8) (tgsCons (tgN 9) tgsNil))) (fExt 7 (fIfF (fB (fOp oEq (fV 9) (fV 5))) (fCBF bLst (fCons (fOp oIx (fV 0) (fV 8)) fNil)) (fLst fNil))))
    (fFrz 7 (fApp 4 (fCB bTup (fCons (fFz (fSortSetI (fV 7))) fNil)))))))
    (fFrz 4 (fAsg (fCB bTup (fCons (fV 4) fNil)) (tgN 0))))))
    (fRet (fCB bTup (fCons (fV 0) fNil))))
abbrev d_law_after : List D → Dk → Option (D × Dk) := runD 10 3 m_law_after
theorem ok_law_after (B : Bn mg)   {f : Addr} {fd : FuncData} (F : FnP K "_law_after" s_law_after f fd) (gf : mg "_law_after" = some (.ref f)) : Cal P w K mg base 1 "_law_after" ["lots", "web", "k"] 3 d_law_after f fd := by
  refine ⟨gf, F.kp, F.bindsN (fun _ _ _ _ _ _ us hl => match us, hl with | [_, _, _], _ => rfl), ?_⟩
  refine defG (N := N_law_after) F sc_law_after rfl (fun cdv A outer s H hg hr => ?_)
  have nd := sc_law_after.nd
  have hu := hu_of hr
  have hul := Nat.lt_of_succ_lt hu
  exact ⟨_, (pss_cons (ps_for PassesOwn.never rfl (pi_range1 rfl B.range (pa_cons (pe_callB (call_min2 rfl) rfl B.min PyProof.Rows.boot_min (pa_cons (pv 2) (pa_cons (pe_op op_addX (pe_callB call_len_seq rfl B.len PySem.boot_len (pa_cons (pv 0) pa_nil)) pe_int) pa_nil))) pa_nil)) (pg_name (i := 3) nd rfl (by first | exact Or.inl rfl | exact Or.inr rfl))
    (pss_cons (ps_set (i := 4) nd rfl (by first | exact Or.inl rfl | exact Or.inr rfl) (pe_lst pa_nil))
    (pss_cons (ps_for PassesOwn.never rfl (pi_enumA rfl B.enumerate (pa_cons (pv 0) pa_nil)) (pg_tup rfl (pgs_cons (pg_name (i := 5) nd rfl (by first | exact Or.inl rfl | exact Or.inr rfl)) (pgs_cons (pg_name (i := 6) nd rfl (by first | exact Or.inl rfl | exact Or.inr rfl)) pgs_nil)))
    (pss_cons (ps_set (i := 7) nd rfl (by first | exact Or.inl rfl | exact Or.inr rfl) (pe_callTy call_list_of rfl B.list PyProof.Rows.boot_list (pa_cons (pv 6) pa_nil)))
    (pss_cons (ps_for PassesOwn.never rfl (pi_any (pv 1)) (pg_tup rfl (pgs_cons (pg_name (i := 8) nd rfl (by first | exact Or.inl rfl | exact Or.inr rfl)) (pgs_cons (pg_name (i := 9) nd rfl (by first | exact Or.inl rfl | exact Or.inr rfl)) pgs_nil)))
    (pss_one (ps_expr (pe_bm PySem.F.plainAttrs_list PySem.F.slot_list_extend PySem.F.type_list_extend mt_extend (pv 7) (pa_cons (pe_ifExp (pt_cmpR op_eq (pv 9) (pv 5) (nomark _)) (pe_callTy call_list_of rfl B.list PyProof.Rows.boot_list (pa_cons (pe_ix ix_x (pv 0) (pv 8) (fun _ _ => rfl)) pa_nil)) (pe_lst pa_nil)) pa_nil)))))
    (pss_one (ps_expr (pe_bm PySem.F.plainAttrs_list PySem.F.slot_list_append PySem.F.type_list_append mt_append (pv 4) (pa_cons (pe_callTy call_tuple_of rfl B.tuple PyProof.Rows.boot_tuple (pa_cons (pe_callB (cr_sortedSet rfl) rfl B.sorted PyProof.Rows.boot_sorted (pa_cons (pe_callTy (cr_setI rfl) rfl B.set PyProof.Rows.boot_set (pa_cons (pv 7) pa_nil)) pa_nil)) pa_nil)) pa_nil)))))))
    (pss_one (ps_set (i := 0) nd rfl (by first | exact Or.inl rfl | exact Or.inr rfl) (pe_callTy call_tuple_of rfl B.tuple PyProof.Rows.boot_tuple (pa_cons (pv 4) pa_nil)))))))
    (pss_one (ps_ret (pe_callTy call_tuple_of rfl B.tuple PyProof.Rows.boot_tuple (pa_cons (pv 0) pa_nil))))),
    (sem_seq (sem_for (sem_r1 (sem_cons (sem_cb cs_min (sem_cons (sem_var 2) (sem_cons (sem_op os_addX (sem_cb cs_len (sem_cons (sem_var 0) sem_nil)) sem_int) sem_nil))) sem_nil)) (sem_gn 3) (sem_seq (sem_asgO 4 (sem_lst sem_nil))
    (sem_seq (sem_for (sem_enA (sem_cons (sem_var 0) sem_nil)) (sem_gt (sem_gsc (sem_gn 5) (sem_gsc (sem_gn 6) sem_gsn))) (sem_seq (sem_asgO 7 (sem_cbF cs_lst (sem_cons (sem_var 6) sem_nil)))
    (sem_seq (sem_for (sem_ia (sem_var 1)) (sem_gt (sem_gsc (sem_gn 8) (sem_gsc (sem_gn 9) sem_gsn))) (sem_ext 7 (sem_ifF (sem_test (sem_op os_eq (sem_var 9) (sem_var 5))) (sem_cbF cs_lst (sem_cons (sem_op os_ix (sem_var 0) (sem_var 8)) sem_nil)) (sem_lst sem_nil))))
    (sem_frz 7 (sem_app 4 (sem_cb cs_tup (sem_cons (sem_fz (sem_sortSetI (sem_var 7))) sem_nil)))))))
    (sem_frz 4 (sem_asg (sem_cb cs_tup (sem_cons (sem_var 4) sem_nil)) (sem_gn 0))))))
    (sem_ret (sem_cb cs_tup (sem_cons (sem_var 0) sem_nil))))⟩
/-! ### _law_some_lots -/
abbrev s_law_some_lots : Stmt := top 29
abbrev N_law_some_lots : List Str := ["deck", "shape", "found", "at", "it"]
theorem sc_law_some_lots : FnScope N_law_some_lots ["deck", "shape"] (defScope s_law_some_lots) := ⟨rfl, rfl, rfl, by decide +kernel, rfl, by decide +kernel, by decide +kernel⟩
def m_law_some_lots : FS :=
    (fSeq (fAsg (fFz (fLc (fR1 (fCons (fCall d_law_pick (fCons (fV 0) (fCons (fFz (fLst (fCons (fC (.int 10)) (fCons (fCall d_law_draw (fCons (fV 0) (fCons (fC (.int 8)) fNil))) (fCons (fCall d_law_draw (fCons (fV 0) (fCons (fC (.int 8)) fNil))) fNil))))) fNil))) fNil)) (tgN 3) fYes (fCall d_law_lot (fCons (fV 0) (fCons (fV 1) fNil))) [3])) (tgN 2))
    (fRet (fCB bTup (fCons (fFz (fLc (fIA (fV 2)) (tgN 4) fYes (fIf (fB (fOp oGt (fCall d_law_draw (fCons (fV 0) (fCons (fC (.int 3)) fNil))) (fC (.int 0)))) (fV 4) (fCall d_law_pick (fCons (fV 0) (fCons (fFz (fLst (fCons (fTup fNil) (fCons (fTup (fCons (fC (.int 0)) fNil)) (fCons (fTup (fCons (fOp oSub (fCB bLen (fCons (fV 1) fNil)) (fC (.int 1))) fNil)) fNil))))) fNil)))) [4])) fNil))))
abbrev d_law_some_lots : List D → Dk → Option (D × Dk) := runD 5 2 m_law_some_lots
theorem ok_law_some_lots (B : Bn mg)  {f_law_pick : Addr} {fd_law_pick : FuncData} (C_law_pick : Cal P w K mg base 2 "_law_pick" ["deck", "some"] 2 d_law_pick f_law_pick fd_law_pick) {f_law_draw : Addr} {fd_law_draw : FuncData} (C_law_draw : Cal P w K mg base 1 "_law_draw" ["deck", "many"] 2 d_law_draw f_law_draw fd_law_draw) {f_law_lot : Addr} {fd_law_lot : FuncData} (C_law_lot : Cal P w K mg base 2 "_law_lot" ["deck", "shape"] 2 d_law_lot f_law_lot fd_law_lot) {f : Addr} {fd : FuncData} (F : FnP K "_law_some_lots" s_law_some_lots f fd) (gf : mg "_law_some_lots" = some (.ref f)) : Cal P w K mg base 3 "_law_some_lots" ["deck", "shape"] 2 d_law_some_lots f fd := by
  refine ⟨gf, F.kp, F.bindsN (fun _ _ _ _ _ _ us hl => match us, hl with | [_, _], _ => rfl), ?_⟩
  refine defG (N := N_law_some_lots) F sc_law_some_lots rfl (fun cdv A outer s H hg hr => ?_)
  have nd := sc_law_some_lots.nd
  have hu := hu_of hr
  have hul := Nat.lt_of_succ_lt hu
  exact ⟨_, (pss_cons (ps_setLc (i := 2) (own := [("at", 3)]) rfl nd rfl rfl (sw_true rfl rfl rfl (by decide +kernel)) (pi_range1 rfl B.range (pa_cons (pe_callG C_law_pick.F hg (hr.mono (by decide)) rfl C_law_pick.gm C_law_pick.kp C_law_pick.b (pa_cons (pv 0) (pa_cons (pe_lst (pa_cons pe_int (pa_cons (pe_callG C_law_draw.F hg (hr.mono (by decide)) rfl C_law_draw.gm C_law_draw.kp C_law_draw.b (pa_cons (pv 0) (pa_cons pe_int pa_nil))) (pa_cons (pe_callG C_law_draw.F hg (hr.mono (by decide)) rfl C_law_draw.gm C_law_draw.kp C_law_draw.b (pa_cons (pv 0) (pa_cons pe_int pa_nil))) pa_nil)))) pa_nil))) pa_nil)) (blkOk_by (N := N_law_some_lots) (sc := defScope s_law_some_lots) (own := [("at", 3)]) (by decide +kernel)) (fun _ _ _ _ _ => (pg_name (i := 3) nd rfl (by first | exact Or.inl rfl | exact Or.inr rfl))) (fun _ _ _ _ _ => pts_nil) (fun _ _ _ _ _ => (pe_callG C_law_lot.F hg (hr.mono (by decide)) rfl C_law_lot.gm C_law_lot.kp C_law_lot.b (pa_cons (pv 0) (pa_cons (pv 1) pa_nil)))))
    (pss_one (ps_ret (pe_callTy call_tuple_of rfl B.tuple PyProof.Rows.boot_tuple (pa_cons (pe_lc (own := [("it", 4)]) rfl nd (pi_any (pv 2)) (blkOk_by (N := N_law_some_lots) (sc := defScope s_law_some_lots) (own := [("it", 4)]) (by decide +kernel)) (fun _ _ _ _ _ => (pg_name (i := 4) nd rfl (by first | exact Or.inl rfl | exact Or.inr rfl))) (fun _ _ _ _ _ => pts_nil) (fun _ _ _ _ _ => (pe_ifExp (pt_cmpR op_gt (pe_callG C_law_draw.F hg (hr.mono (by decide)) rfl C_law_draw.gm C_law_draw.kp C_law_draw.b (pa_cons (pv 0) (pa_cons pe_int pa_nil))) pe_int (nomark _)) (pv 4) (pe_callG C_law_pick.F hg (hr.mono (by decide)) rfl C_law_pick.gm C_law_pick.kp C_law_pick.b (pa_cons (pv 0) (pa_cons (pe_lst (pa_cons (pe_tup pa_nil) (pa_cons (pe_tup (pa_cons pe_int pa_nil)) (pa_cons (pe_tup (pa_cons (pe_op op_sub (pe_callB call_len_seq rfl B.len PySem.boot_len (pa_cons (pv 1) pa_nil)) pe_int) pa_nil)) pa_nil)))) pa_nil)))))) pa_nil))))),
    (sem_seq (sem_asg (sem_fz (sem_lc (vs := [3]) (sem_r1 (sem_cons (sem_call (sem_cons (sem_var 0) (sem_cons (sem_fz (sem_lst (sem_cons sem_int (sem_cons (sem_call (sem_cons (sem_var 0) (sem_cons sem_int sem_nil)) (fun _ _ _ h => runD_len h)) (sem_cons (sem_call (sem_cons (sem_var 0) (sem_cons sem_int sem_nil)) (fun _ _ _ h => runD_len h)) sem_nil))))) sem_nil)) (fun _ _ _ h => runD_len h)) sem_nil)) (sem_gn 3) sem_yes (sem_call (sem_cons (sem_var 0) (sem_cons (sem_var 1) sem_nil)) (fun _ _ _ h => runD_len h)) (by decide))) (sem_gn 2))
    (sem_ret (sem_cb cs_tup (sem_cons (sem_fz (sem_lc (vs := [4]) (sem_ia (sem_var 2)) (sem_gn 4) sem_yes (sem_if (sem_test (sem_op os_gt (sem_call (sem_cons (sem_var 0) (sem_cons sem_int sem_nil)) (fun _ _ _ h => runD_len h)) sem_int)) (sem_var 4) (sem_call (sem_cons (sem_var 0) (sem_cons (sem_fz (sem_lst (sem_cons (sem_tup sem_nil) (sem_cons (sem_tup (sem_cons sem_int sem_nil)) (sem_cons (sem_tup (sem_cons (sem_op os_sub (sem_cb cs_len (sem_cons (sem_var 1) sem_nil)) sem_int) sem_nil)) sem_nil))))) sem_nil)) (fun _ _ _ h => runD_len h))) (by decide))) sem_nil))))⟩
/-! ### law -/
abbrev s_law : Stmt := top 30
abbrev N_law : List Str := ["script", "deck", "turn", "shape", "lots", "many", "web", "j", "at", "k", "due", "more"]
theorem sc_law : FnScope N_law ["script"] (defScope s_law) := ⟨rfl, rfl, rfl, by decide +kernel, rfl, by decide +kernel, by decide +kernel⟩
def m_law : FS :=
    (fSeq (fFor (fR1 (fCons (fC (.int 4)) fNil)) (tgN 2) (fSeq (fAsg (fCall d_law_pick (fCons (fV 1) (fCons (fFz (fLst (fCons (fTup (fCons (fC (.int 2)) (fCons (fC (.int 2)) fNil))) (fCons (fTup (fCons (fC (.int 2)) (fCons (fC (.int 2)) (fCons (fC (.int 2)) fNil)))) (fCons (fTup (fCons (fC (.int 1)) (fCons (fC (.int 3)) (fCons (fC (.int 1)) (fCons (fC (.int 2)) fNil))))) (fCons (fTup (fCons (fC (.int 2)) (fCons (fC (.int 2)) (fCons (fC (.int 2)) (fCons (fC (.int 2)) fNil))))) (fCons (fTup (fCons (fC (.int 4)) (fCons (fC (.int 1)) (fCons (fC (.int 2)) (fCons (fC (.int 3)) fNil))))) (fCons (fTup (fCons (fC (.int 3)) fNil)) fNil)))))))) fNil))) (tgN 3))
    (fSeq (fAsg (fCall d_law_some_lots (fCons (fV 1) (fCons (fV 3) fNil))) (tgN 4))
    (fSeq (fAsg (fCB bLen (fCons (fV 4) fNil)) (tgN 5))
    (fSeq (fPar 6 7 (fCons (fCall d_law_web (fCons (fV 1) (fCons (fV 5) fNil))) (fCons (fCall d_law_draw (fCons (fV 1) (fCons (fC (.int 4)) fNil))) fNil)))
    (fSeq (fIfS (fB (fOp oEq (fCall d_law_draw (fCons (fV 1) (fCons (fC (.int 4)) fNil))) (fC (.int 0)))) (fAsg (fCB bTup (fCons (fFz (fLc (fR1 (fCons (fOp oSub (fV 5) (fC (.int 1))) fNil)) (tgN 8) fYes (fTup (fCons (fV 8) (fCons (fOp oAddX (fV 8) (fC (.int 1))) fNil))) [8])) fNil)) (tgN 6)) fNext)
    (fSeq (fAsg (fCall d_law_pick (fCons (fV 1) (fCons (fFz (fLst (fCons (fC (.int 0)) (fCons (fC (.int 1)) (fCons (fC (.int 2)) (fCons (fC (.int 3)) (fCons (fCall d_law_draw (fCons (fV 1) (fCons (fC (.int 8)) fNil))) (fCons (fV 5) (fCons (fOp oAddX (fV 5) (fC (.int 1))) (fCons (fOp oPow (fC (.int 10)) (fC (.int 29))) fNil)))))))))) fNil))) (tgN 9))
    (fSeq (fAsg (fCall d_law_after (fCons (fV 4) (fCons (fV 6) (fCons (fV 9) fNil)))) (tgN 10))
    (fSeq (fIfS (fB (fOp oNe (fCB bRepr (fCons (fTup (fCons (fCall d_sights_after (fCons (fV 3) (fCons (fV 4) (fCons (fV 6) (fCons (fV 9) fNil))))) (fCons (fCallKw d_sights_after List.reverse (fCons (fV 9) (fCons (fV 6) (fCons (fV 4) (fCons (fV 3) fNil))))) fNil))) fNil)) (fCB bRepr (fCons (fTup (fCons (fV 10) (fCons (fV 10) fNil))) fNil)))) (fRet (fC (.bl false))) fNext)
    (fSeq (fIfS (fB (fOp oNe (fCB bRepr (fCons (fCall d_sights_after (fCons (fV 3) (fCons (fCall d_sights_after (fCons (fV 3) (fCons (fV 4) (fCons (fV 6) (fCons (fV 7) fNil))))) (fCons (fV 6) (fCons (fV 9) fNil))))) fNil)) (fCB bRepr (fCons (fCall d_law_after (fCons (fV 4) (fCons (fV 6) (fCons (fOp oAddX (fV 7) (fV 9)) fNil)))) fNil)))) (fRet (fC (.bl false))) fNext)
    (fSeq (fIfS (fB (fOp oNe (fCB bRepr (fCons (fCall d_sights_after (fCons (fV 3) (fCons (fV 4) (fCons (fV 6) (fCons (fV 5) fNil))))) fNil)) (fCB bRepr (fCons (fCall d_sights_after (fCons (fV 3) (fCons (fV 4) (fCons (fV 6) (fCons (fOp oAddX (fOp oAddX (fV 5) (fC (.int 1))) (fCall d_law_draw (fCons (fV 1) (fCons (fC (.int 5)) fNil)))) fNil))))) fNil)))) (fRet (fC (.bl false))) fNext)
    (fSeq (fAsg (fCB bTup (fCons (fFz (fSortSetT (fOp oAddX (fV 6) (fCall d_law_web (fCons (fV 1) (fCons (fV 5) fNil)))))) fNil)) (tgN 11))
    (fIfS (fB (fOp oNe (fCB bRepr (fCons (fCall d_sights_after (fCons (fV 3) (fCons (fV 4) (fCons (fV 11) (fCons (fV 9) fNil))))) fNil)) (fCB bRepr (fCons (fCall d_law_after (fCons (fV 4) (fCons (fV 11) (fCons (fV 9) fNil)))) fNil)))) (fRet (fC (.bl false))) fNext)))))))))))))
    (fRet (fC (.bl true))))
--abbrev d_law : List D → Dk → Option (D × Dk) := runD 12 1 m_law
theorem ok_law (B : Bn mg)  {f_law_pick : Addr} {fd_law_pick : FuncData} (C_law_pick : Cal P w K mg base 2 "_law_pick" ["deck", "some"] 2 d_law_pick f_law_pick fd_law_pick) {f_law_some_lots : Addr} {fd_law_some_lots : FuncData} (C_law_some_lots : Cal P w K mg base 3 "_law_some_lots" ["deck", "shape"] 2 d_law_some_lots f_law_some_lots fd_law_some_lots) {f_law_draw : Addr} {fd_law_draw : FuncData} (C_law_draw : Cal P w K mg base 1 "_law_draw" ["deck", "many"] 2 d_law_draw f_law_draw fd_law_draw) {f_law_web : Addr} {fd_law_web : FuncData} (C_law_web : Cal P w K mg base 2 "_law_web" ["deck", "many"] 2 d_law_web f_law_web fd_law_web) {f_law_after : Addr} {fd_law_after : FuncData} (C_law_after : Cal P w K mg base 1 "_law_after" ["lots", "web", "k"] 3 d_law_after f_law_after fd_law_after) {f_sights_after : Addr} {fd_sights_after : FuncData} (C_sights_after : Cal P w K mg base 5 "sights_after" ["shape", "lots", "web", "k"] 4 d_sights_after f_sights_after fd_sights_after) (kw_sights_after : KwB K fd_sights_after ["shape", "lots", "web", "k"] ["k", "web", "lots", "shape"] List.reverse List.reverse) {f_law_deck f : Addr} {fd_law_deck fd : FuncData} (C_law_deck : CalK P w K mg base 1 "_law_deck" ["script"] (spDeck K) f_law_deck fd_law_deck) (F : FnP K "law" s_law f fd) (plain : ∀ S : Dk, S.cells.length ≤ 63 → ∃ S', m_law (lawR 12) S = some (.rt (.bl true) S')) : FnG P w K mg base 6 f fd ["script"] (spLaw K) := by
  refine fnG_of (N := N_law) F sc_law (fun vs H Q h => by obtain ⟨a, ns, rfl, _⟩ := h; rfl) (fun cdv A outer s H vs Q hg hr h => ?_)
  have nd := sc_law.nd
  have hu := hu_of hr
  have hul := Nat.lt_of_succ_lt hu
  exact law_join (ps_set (i := 1) nd rfl (by first | exact Or.inl rfl | exact Or.inr rfl) (pe_callG C_law_deck.F hg (hr.mono (by decide)) rfl C_law_deck.gm C_law_deck.kp C_law_deck.b (pa_cons (pv 0) pa_nil)))
    (pss_cons (ps_for PassesOwn.never rfl (pi_range1 rfl B.range (pa_cons pe_int pa_nil)) (pg_name (i := 2) nd rfl (by first | exact Or.inl rfl | exact Or.inr rfl))
    (pss_cons (ps_set (i := 3) nd rfl (by first | exact Or.inl rfl | exact Or.inr rfl) (pe_callG C_law_pick.F hg (hr.mono (by decide)) rfl C_law_pick.gm C_law_pick.kp C_law_pick.b (pa_cons (pv 1) (pa_cons (pe_lst (pa_cons (pe_tup (pa_cons pe_int (pa_cons pe_int pa_nil))) (pa_cons (pe_tup (pa_cons pe_int (pa_cons pe_int (pa_cons pe_int pa_nil)))) (pa_cons (pe_tup (pa_cons pe_int (pa_cons pe_int (pa_cons pe_int (pa_cons pe_int pa_nil))))) (pa_cons (pe_tup (pa_cons pe_int (pa_cons pe_int (pa_cons pe_int (pa_cons pe_int pa_nil))))) (pa_cons (pe_tup (pa_cons pe_int (pa_cons pe_int (pa_cons pe_int (pa_cons pe_int pa_nil))))) (pa_cons (pe_tup (pa_cons pe_int pa_nil)) pa_nil))))))) pa_nil))))
    (pss_cons (ps_set (i := 4) nd rfl (by first | exact Or.inl rfl | exact Or.inr rfl) (pe_callG C_law_some_lots.F hg (hr.mono (by decide)) rfl C_law_some_lots.gm C_law_some_lots.kp C_law_some_lots.b (pa_cons (pv 1) (pa_cons (pv 3) pa_nil))))
    (pss_cons (ps_set (i := 5) nd rfl (by first | exact Or.inl rfl | exact Or.inr rfl) (pe_callB call_len_seq rfl B.len PySem.boot_len (pa_cons (pv 4) pa_nil)))
    (pss_cons (ps_par (i := 6) (j := 7) rfl nd rfl rfl (by decide) rfl rfl (pa_cons (pe_callG C_law_web.F hg (hr.mono (by decide)) rfl C_law_web.gm C_law_web.kp C_law_web.b (pa_cons (pv 1) (pa_cons (pv 5) pa_nil))) (pa_cons (pe_callG C_law_draw.F hg (hr.mono (by decide)) rfl C_law_draw.gm C_law_draw.kp C_law_draw.b (pa_cons (pv 1) (pa_cons pe_int pa_nil))) pa_nil)) (by rfl))
    (pss_cons (ps_if (pt_cmpR op_eq (pe_callG C_law_draw.F hg (hr.mono (by decide)) rfl C_law_draw.gm C_law_draw.kp C_law_draw.b (pa_cons (pv 1) (pa_cons pe_int pa_nil))) pe_int (nomark _))
    (pss_one (ps_set (i := 6) nd rfl (by first | exact Or.inl rfl | exact Or.inr rfl) (pe_callTy call_tuple_of rfl B.tuple PyProof.Rows.boot_tuple (pa_cons (pe_lc (own := [("at", 8)]) rfl nd (pi_range1 rfl B.range (pa_cons (pe_op op_sub (pv 5) pe_int) pa_nil)) (blkOk_by (N := N_law) (sc := defScope s_law) (own := [("at", 8)]) (by decide +kernel)) (fun _ _ _ _ _ => (pg_name (i := 8) nd rfl (by first | exact Or.inl rfl | exact Or.inr rfl))) (fun _ _ _ _ _ => pts_nil) (fun _ _ _ _ _ => (pe_tup (pa_cons (pv 8) (pa_cons (pe_op op_addX (pv 8) pe_int) pa_nil))))) pa_nil)))) pss_nil)
    (pss_cons (ps_set (i := 9) nd rfl (by first | exact Or.inl rfl | exact Or.inr rfl) (pe_callG C_law_pick.F hg (hr.mono (by decide)) rfl C_law_pick.gm C_law_pick.kp C_law_pick.b (pa_cons (pv 1) (pa_cons (pe_lst (pa_cons pe_int (pa_cons pe_int (pa_cons pe_int (pa_cons pe_int (pa_cons (pe_callG C_law_draw.F hg (hr.mono (by decide)) rfl C_law_draw.gm C_law_draw.kp C_law_draw.b (pa_cons (pv 1) (pa_cons pe_int pa_nil))) (pa_cons (pv 5) (pa_cons (pe_op op_addX (pv 5) pe_int) (pa_cons (pe_op op_pow pe_int pe_int) pa_nil))))))))) pa_nil))))
    (pss_cons (ps_set (i := 10) nd rfl (by first | exact Or.inl rfl | exact Or.inr rfl) (pe_callG C_law_after.F hg (hr.mono (by decide)) rfl C_law_after.gm C_law_after.kp C_law_after.b (pa_cons (pv 4) (pa_cons (pv 6) (pa_cons (pv 9) pa_nil)))))
    (pss_cons (ps_if (pt_cmpR op_ne (pe_callB (cr_repr hr hg) rfl B.repr PyProof.Rows.boot_repr (pa_cons (pe_tup (pa_cons (pe_callG C_sights_after.F hg (hr.mono (by decide)) rfl C_sights_after.gm C_sights_after.kp C_sights_after.b (pa_cons (pv 3) (pa_cons (pv 4) (pa_cons (pv 6) (pa_cons (pv 9) pa_nil))))) (pa_cons (pe_callKw C_sights_after.F hg (hr.mono (by decide)) rfl C_sights_after.gm C_sights_after.kp kw_sights_after (pk_cons (pv 9) (pk_cons (pv 6) (pk_cons (pv 4) (pk_cons (pv 3) pk_nil))))) pa_nil))) pa_nil)) (pe_callB (cr_repr hr hg) rfl B.repr PyProof.Rows.boot_repr (pa_cons (pe_tup (pa_cons (pv 10) (pa_cons (pv 10) pa_nil))) pa_nil)) (nomark _))
    (pss_one (ps_ret pe_bl)) pss_nil)
    (pss_cons (ps_if (pt_cmpR op_ne (pe_callB (cr_repr hr hg) rfl B.repr PyProof.Rows.boot_repr (pa_cons (pe_callG C_sights_after.F hg (hr.mono (by decide)) rfl C_sights_after.gm C_sights_after.kp C_sights_after.b (pa_cons (pv 3) (pa_cons (pe_callG C_sights_after.F hg (hr.mono (by decide)) rfl C_sights_after.gm C_sights_after.kp C_sights_after.b (pa_cons (pv 3) (pa_cons (pv 4) (pa_cons (pv 6) (pa_cons (pv 7) pa_nil))))) (pa_cons (pv 6) (pa_cons (pv 9) pa_nil))))) pa_nil)) (pe_callB (cr_repr hr hg) rfl B.repr PyProof.Rows.boot_repr (pa_cons (pe_callG C_law_after.F hg (hr.mono (by decide)) rfl C_law_after.gm C_law_after.kp C_law_after.b (pa_cons (pv 4) (pa_cons (pv 6) (pa_cons (pe_op op_addX (pv 7) (pv 9)) pa_nil)))) pa_nil)) (nomark _))
    (pss_one (ps_ret pe_bl)) pss_nil)
    (pss_cons (ps_if (pt_cmpR op_ne (pe_callB (cr_repr hr hg) rfl B.repr PyProof.Rows.boot_repr (pa_cons (pe_callG C_sights_after.F hg (hr.mono (by decide)) rfl C_sights_after.gm C_sights_after.kp C_sights_after.b (pa_cons (pv 3) (pa_cons (pv 4) (pa_cons (pv 6) (pa_cons (pv 5) pa_nil))))) pa_nil)) (pe_callB (cr_repr hr hg) rfl B.repr PyProof.Rows.boot_repr (pa_cons (pe_callG C_sights_after.F hg (hr.mono (by decide)) rfl C_sights_after.gm C_sights_after.kp C_sights_after.b (pa_cons (pv 3) (pa_cons (pv 4) (pa_cons (pv 6) (pa_cons (pe_op op_addX (pe_op op_addX (pv 5) pe_int) (pe_callG C_law_draw.F hg (hr.mono (by decide)) rfl C_law_draw.gm C_law_draw.kp C_law_draw.b (pa_cons (pv 1) (pa_cons pe_int pa_nil)))) pa_nil))))) pa_nil)) (nomark _))
    (pss_one (ps_ret pe_bl)) pss_nil)
    (pss_cons (ps_set (i := 11) nd rfl (by first | exact Or.inl rfl | exact Or.inr rfl) (pe_callTy call_tuple_of rfl B.tuple PyProof.Rows.boot_tuple (pa_cons (pe_callB (cr_sortT' rfl hr.units) rfl B.sorted PyProof.Rows.boot_sorted (pa_cons (pe_callTy (cr_setT rfl hr.units) rfl B.set PyProof.Rows.boot_set (pa_cons (pe_op op_addX (pv 6) (pe_callG C_law_web.F hg (hr.mono (by decide)) rfl C_law_web.gm C_law_web.kp C_law_web.b (pa_cons (pv 1) (pa_cons (pv 5) pa_nil)))) pa_nil)) pa_nil)) pa_nil)))
    (pss_one (ps_if (pt_cmpR op_ne (pe_callB (cr_repr hr hg) rfl B.repr PyProof.Rows.boot_repr (pa_cons (pe_callG C_sights_after.F hg (hr.mono (by decide)) rfl C_sights_after.gm C_sights_after.kp C_sights_after.b (pa_cons (pv 3) (pa_cons (pv 4) (pa_cons (pv 11) (pa_cons (pv 9) pa_nil))))) pa_nil)) (pe_callB (cr_repr hr hg) rfl B.repr PyProof.Rows.boot_repr (pa_cons (pe_callG C_law_after.F hg (hr.mono (by decide)) rfl C_law_after.gm C_law_after.kp C_law_after.b (pa_cons (pv 4) (pa_cons (pv 11) (pa_cons (pv 9) pa_nil)))) pa_nil)) (nomark _))
    (pss_one (ps_ret pe_bl)) pss_nil))))))))))))))
    (pss_one (ps_ret pe_bl)))
    (sem_seq (sem_for (sem_r1 (sem_cons sem_int sem_nil)) (sem_gn 2) (sem_seq (sem_asg (sem_call (sem_cons (sem_var 1) (sem_cons (sem_fz (sem_lst (sem_cons (sem_tup (sem_cons sem_int (sem_cons sem_int sem_nil))) (sem_cons (sem_tup (sem_cons sem_int (sem_cons sem_int (sem_cons sem_int sem_nil)))) (sem_cons (sem_tup (sem_cons sem_int (sem_cons sem_int (sem_cons sem_int (sem_cons sem_int sem_nil))))) (sem_cons (sem_tup (sem_cons sem_int (sem_cons sem_int (sem_cons sem_int (sem_cons sem_int sem_nil))))) (sem_cons (sem_tup (sem_cons sem_int (sem_cons sem_int (sem_cons sem_int (sem_cons sem_int sem_nil))))) (sem_cons (sem_tup (sem_cons sem_int sem_nil)) sem_nil)))))))) sem_nil)) (fun _ _ _ h => runD_len h)) (sem_gn 3))
    (sem_seq (sem_asg (sem_call (sem_cons (sem_var 1) (sem_cons (sem_var 3) sem_nil)) (fun _ _ _ h => runD_len h)) (sem_gn 4))
    (sem_seq (sem_asg (sem_cb cs_len (sem_cons (sem_var 4) sem_nil)) (sem_gn 5))
    (sem_seq (sem_par (i := 6) (j := 7) (sem_cons (sem_call (sem_cons (sem_var 1) (sem_cons (sem_var 5) sem_nil)) (fun _ _ _ h => runD_len h)) (sem_cons (sem_call (sem_cons (sem_var 1) (sem_cons sem_int sem_nil)) (fun _ _ _ h => runD_len h)) sem_nil)))
    (sem_seq (sem_ifS (sem_test (sem_op os_eq (sem_call (sem_cons (sem_var 1) (sem_cons sem_int sem_nil)) (fun _ _ _ h => runD_len h)) sem_int)) (sem_asg (sem_cb cs_tup (sem_cons (sem_fz (sem_lc (vs := [8]) (sem_r1 (sem_cons (sem_op os_sub (sem_var 5) sem_int) sem_nil)) (sem_gn 8) sem_yes (sem_tup (sem_cons (sem_var 8) (sem_cons (sem_op os_addX (sem_var 8) sem_int) sem_nil))) (by decide))) sem_nil)) (sem_gn 6)) sem_next)
    (sem_seq (sem_asg (sem_call (sem_cons (sem_var 1) (sem_cons (sem_fz (sem_lst (sem_cons sem_int (sem_cons sem_int (sem_cons sem_int (sem_cons sem_int (sem_cons (sem_call (sem_cons (sem_var 1) (sem_cons sem_int sem_nil)) (fun _ _ _ h => runD_len h)) (sem_cons (sem_var 5) (sem_cons (sem_op os_addX (sem_var 5) sem_int) (sem_cons (sem_op os_pow sem_int sem_int) sem_nil)))))))))) sem_nil)) (fun _ _ _ h => runD_len h)) (sem_gn 9))
    (sem_seq (sem_asg (sem_call (sem_cons (sem_var 4) (sem_cons (sem_var 6) (sem_cons (sem_var 9) sem_nil))) (fun _ _ _ h => runD_len h)) (sem_gn 10))
    (sem_seq (sem_ifS (sem_test (sem_op os_ne (sem_cb cs_repr (sem_cons (sem_tup (sem_cons (sem_call (sem_cons (sem_var 3) (sem_cons (sem_var 4) (sem_cons (sem_var 6) (sem_cons (sem_var 9) sem_nil)))) (fun _ _ _ h => runD_len h)) (sem_cons (sem_callKw (sem_cons (sem_var 9) (sem_cons (sem_var 6) (sem_cons (sem_var 4) (sem_cons (sem_var 3) sem_nil)))) (fun _ _ _ h => runD_len h) ord_rev) sem_nil))) sem_nil)) (sem_cb cs_repr (sem_cons (sem_tup (sem_cons (sem_var 10) (sem_cons (sem_var 10) sem_nil))) sem_nil)))) (sem_ret sem_bl) sem_next)
    (sem_seq (sem_ifS (sem_test (sem_op os_ne (sem_cb cs_repr (sem_cons (sem_call (sem_cons (sem_var 3) (sem_cons (sem_call (sem_cons (sem_var 3) (sem_cons (sem_var 4) (sem_cons (sem_var 6) (sem_cons (sem_var 7) sem_nil)))) (fun _ _ _ h => runD_len h)) (sem_cons (sem_var 6) (sem_cons (sem_var 9) sem_nil)))) (fun _ _ _ h => runD_len h)) sem_nil)) (sem_cb cs_repr (sem_cons (sem_call (sem_cons (sem_var 4) (sem_cons (sem_var 6) (sem_cons (sem_op os_addX (sem_var 7) (sem_var 9)) sem_nil))) (fun _ _ _ h => runD_len h)) sem_nil)))) (sem_ret sem_bl) sem_next)
    (sem_seq (sem_ifS (sem_test (sem_op os_ne (sem_cb cs_repr (sem_cons (sem_call (sem_cons (sem_var 3) (sem_cons (sem_var 4) (sem_cons (sem_var 6) (sem_cons (sem_var 5) sem_nil)))) (fun _ _ _ h => runD_len h)) sem_nil)) (sem_cb cs_repr (sem_cons (sem_call (sem_cons (sem_var 3) (sem_cons (sem_var 4) (sem_cons (sem_var 6) (sem_cons (sem_op os_addX (sem_op os_addX (sem_var 5) sem_int) (sem_call (sem_cons (sem_var 1) (sem_cons sem_int sem_nil)) (fun _ _ _ h => runD_len h))) sem_nil)))) (fun _ _ _ h => runD_len h)) sem_nil)))) (sem_ret sem_bl) sem_next)
    (sem_seq (sem_asg (sem_cb cs_tup (sem_cons (sem_fz (sem_sortSetT (sem_op os_addX (sem_var 6) (sem_call (sem_cons (sem_var 1) (sem_cons (sem_var 5) sem_nil)) (fun _ _ _ h => runD_len h))))) sem_nil)) (sem_gn 11))
    (sem_ifS (sem_test (sem_op os_ne (sem_cb cs_repr (sem_cons (sem_call (sem_cons (sem_var 3) (sem_cons (sem_var 4) (sem_cons (sem_var 11) (sem_cons (sem_var 9) sem_nil)))) (fun _ _ _ h => runD_len h)) sem_nil)) (sem_cb cs_repr (sem_cons (sem_call (sem_cons (sem_var 4) (sem_cons (sem_var 11) (sem_cons (sem_var 9) sem_nil))) (fun _ _ _ h => runD_len h)) sem_nil)))) (sem_ret sem_bl) sem_next)))))))))))))
    (sem_ret sem_bl)) plain h
end
end K47

namespace K47
open PySem L2 DL
theorem int_ok (i : Int) (S : Dk) : d_is_integer [.int i] S = some (.bl true, S) := by rfl
theorem isi_tup (xs : List D) (ρ : List Sl) (S : Dk) (j : Nat) (h : ρ[j]? = some (Sl.dat (.tup xs))) : fIsi "tuple" (fV j) ρ S = some (.bl true, S) := by
  unfold fIsi
  rw [e_V h]
  rfl
theorem between_ok {t lo hi : Int} (h1 : lo ≤ t) (h2 : t ≤ hi) (S : Dk) : d_is_between [.int t, .int lo, .int hi] S = some (.bl true, S) := by
  have e1 : oLe (.int lo) (.int t) = some (.bl true) := by
    show some (D.bl (decide (lo ≤ t))) = _
    rw [decide_eq_true h1]
  have e2 : oLe (.int t) (.int hi) = some (.bl true) := by
    show some (D.bl (decide (t ≤ hi))) = _
    rw [decide_eq_true h2]
  exact run_eq rfl (e_ret (e_andV (e_call (e_one (e_V rfl)) (int_ok t S)) (e_chain (e_V rfl) (e_V rfl) e1 (e_V rfl) e2)))
/-! ### rising -/
theorem bools_true : ∀ xs : List D, bools? (xs.map fun _ => D.bl true) = some (xs.map fun _ => true)
  | [] => rfl
  | x :: xs => by
    show (bools? (xs.map fun _ => D.bl true)).map (true :: ·) = _
    rw [bools_true xs]
    rfl
theorem all_true (xs : List D) : bAll [.lst (xs.map fun _ => D.bl true)] = some (.bl true) := by
  show obd (bools? (xs.map fun _ => D.bl true)) _ = _
  rw [bools_true]
  show some (D.bl ((xs.map fun _ => true).all id)) = _
  congr 2
  simp
/-- x < y by the program's own <: ints, tuples of ints -/
def Lt (x y : D) : Prop := oLtX x y = some (.bl true)
theorem lt_ints {i j : Int} (h : i < j) : Lt (.int i) (.int j) := by
  show some (D.bl (decide (i < j))) = _
  rw [decide_eq_true h]
theorem zip_mem : ∀ {xs ys : List D} {d : D}, d ∈ zipD xs ys → ∃ a b, d = .tup [a, b]
  | [], _, _, h => by simp [zipD] at h
  | _ :: _, [], _, h => by simp [zipD] at h
  | a :: as, b :: bs, d, h => by
    simp only [zipD, List.mem_cons] at h
    rcases h with h | h
    · exact ⟨a, b, h⟩
    · exact zip_mem h
theorem zip_lt : ∀ {xs : List D}, xs.Pairwise Lt → ∀ {a b : D}, D.tup [a, b] ∈ zipD xs (xs.drop 1) → Lt a b
  | [], _, _, _, h => by simp [zipD] at h
  | [x], _, _, _, h => by simp [zipD] at h
  | x :: y :: r, hp, a, b, h => by
    have hp' := List.pairwise_cons.mp hp
    have h' : D.tup [a, b] ∈ .tup [x, y] :: zipD (y :: r) r := h
    rcases List.mem_cons.mp h' with z | z
    · cases z
      exact hp'.1 y List.mem_cons_self
    · exact zip_lt (xs := y :: r) hp'.2 z
theorem rising_ok {xs : List D} (hp : xs.Pairwise Lt) (hl : xs.length ≤ 100000) (S : Dk) : d_is_rising [.tup xs] S = some (.bl true, S) := by
  have cut : fSl (fV 0) (fO1 (fC (.int 1))) fO0 (startR 3 [.tup xs]) S = some (.tup (xs.drop 1), S) := by
    show some (D.tup (cutD xs (some 1) none), S) = _
    congr 3
    unfold cutD
    rw [HT.sIx_none]
    have e : HT.sIx xs.length 0 (some 1) = min 1 xs.length := HT.sIx_nat xs.length 0 1
    rw [e]
    cases xs with
    | nil => rfl
    | cons x r =>
      have : min 1 (x :: r).length = 1 := by rw [List.length_cons]; omega
      rw [this]
      exact List.take_of_length_le (by rw [List.length_drop]; omega)
  have lz : (zipD xs (xs.drop 1)).length ≤ 100000 := by rw [zipD_len]; omega
  have it : fZip (fCons (fV 0) (fCons (fSl (fV 0) (fO1 (fC (.int 1))) fO0) fNil)) (startR 3 [.tup xs]) S = some (zipD xs (xs.drop 1), S) := by
    unfold fZip
    rw [e_cons (e_V rfl) (e_one cut)]
    rfl
  refine run_eq rfl (e_ret (e_cb (e_one (e_fz (e_lc it lz (lc_map (fun _ => .bl true) fun d hd => ?_)))) (all_true _)))
  obtain ⟨a, b, rfl⟩ := zip_mem hd
  exact ⟨[.dat (.tup xs), .dat a, .dat b], rfl, e_op (e_V rfl) (e_V rfl) (zip_lt hp hd)⟩
/-! ### lots, webs -/
def Up (k : List Int) : Prop := k.Pairwise (· < ·)
/-- a lot of a shape with n places -/
structure LotOk (n : Nat) (k : List Int) : Prop where
  up : Up k
  bd : ∀ p ∈ k, 0 ≤ p ∧ p ≤ (n : Int) - 1
theorem up_len {n : Nat} {k : List Int} (h : LotOk n k) : k.length ≤ n := by
  have e : k.length ≤ ((List.range n).map fun i : Nat => (i : Int)).length := by
    refine nodup_le (List.Pairwise.imp (fun h => Int.ne_of_lt h) h.up) fun x hx => ?_
    obtain ⟨h1, h2⟩ := h.bd x hx
    exact List.mem_map.mpr ⟨x.toNat, List.mem_range.mpr (by omega), by omega⟩
  rwa [List.length_map, List.length_range] at e
abbrev lotsD (lots : List (List Int)) : D := .tup (lots.map dT)
theorem lot_ok {shape : List D} {n : Nat} (hn : shape.length = n) (hn4 : n ≤ 4) {k : List Int} (h : LotOk n k) (S : Dk) : d_is_lot_value [.tup shape, dT k] S = some (.bl true, S) := by
  have len := up_len h
  have lz : (k.map D.int).length ≤ 100000 := by rw [List.length_map]; omega
  have each : fLc (fIA (fV 1)) (tgN 2) fYes (fCall d_is_between (fCons (fV 2) (fCons (fC (.int 0)) (fCons (fOp oSub (fCB bLen (fCons (fV 0) fNil)) (fC (.int 1))) fNil)))) [2] (startR 3 [.tup shape, dT k]) S = some (.lst ((k.map D.int).map fun _ => .bl true), S) := by
    refine e_lc (e_IA (e_V rfl) rfl) lz (lc_map (fun _ => .bl true) fun d hd => ?_)
    obtain ⟨p, hp, rfl⟩ := List.mem_map.mp hd
    obtain ⟨h1, h2⟩ := h.bd p hp
    refine ⟨[.dat (.tup shape), .dat (dT k), .dat (.int p)], rfl, e_call (e_cons (e_V rfl) (e_cons e_C (e_one (e_op (e_cb (e_one (e_V rfl)) rfl) e_C rfl)))) (between_ok h1 ?_ S)⟩
    rw [hn]
    exact h2
  have test : fOr (fNot (fB (fIsi "tuple" (fV 1)))) (fNot (fB (fCB bAll (fCons (fFz (fLc (fIA (fV 1)) (tgN 2) fYes (fCall d_is_between (fCons (fV 2) (fCons (fC (.int 0)) (fCons (fOp oSub (fCB bLen (fCons (fV 0) fNil)) (fC (.int 1))) fNil)))) [2])) fNil)))) (startR 3 [.tup shape, dT k]) S = some (false, S) :=
    e_orF (e_not (e_B (isi_tup _ _ _ 1 rfl))) (e_not (e_B (e_cb (e_one (e_fz each)) (all_true _))))
  refine run_eq rfl ?_
  rw [m_is_lot_value, seq_nx ((if_f test).trans rfl)]
  refine e_ret (e_call (e_one (e_V rfl)) (rising_ok ?_ lz S))
  exact List.pairwise_map.mpr (h.up.imp fun h => lt_ints h)
def LotsOk (n : Nat) (lots : List (List Int)) : Prop := ∀ k ∈ lots, LotOk n k
theorem lots_ok {shape : List D} {n : Nat} (hn : shape.length = n) (hn4 : n ≤ 4) {lots : List (List Int)} (h : LotsOk n lots) (hl : lots.length ≤ 1000) (S : Dk) : d_are_lots [.tup shape, lotsD lots] S = some (.bl true, S) := by
  refine run_eq rfl (e_ret (e_andV (isi_tup _ _ _ 1 rfl) (e_cb (e_one (e_fz (e_lc (e_IA (e_V rfl) rfl) (by rw [List.length_map]; omega) (lc_map (fun _ => .bl true) fun d hd => ?_)))) (all_true _))))
  obtain ⟨k, hk, rfl⟩ := List.mem_map.mp hd
  exact ⟨[.dat (.tup shape), .dat (lotsD lots), .dat (dT k)], rfl, e_call (e_cons (e_V rfl) (e_one (e_V rfl))) (lot_ok hn hn4 (h k hk) S)⟩
/-- a web of n lots: pairs, strictly upwards -/
structure WebOk (n : Nat) (web : List (List Int)) : Prop where
  pr : ∀ w ∈ web, ∃ a b : Nat, w = [(a : Int), (b : Int)] ∧ a < n ∧ b < n ∧ a ≠ b
  up : web.Pairwise (· < ·)
  few : web.length ≤ 250
theorem lex_lt : ∀ {x y : List Int}, x < y → HT.lexLt x y = true
  | [], [], h => absurd h (List.lt_irrefl _)
  | [], _ :: _, _ => rfl
  | _ :: _, [], h => absurd h (by simp)
  | a :: as, b :: bs, h => by
    rw [HT.lexLt_cons]
    rcases List.cons_lt_cons_iff.mp h with z | ⟨z, y⟩
    · rw [if_neg (Int.ne_of_lt z)]
      exact decide_eq_true z
    · rw [if_pos z]
      exact lex_lt y
theorem tup_lt {x y : List Int} (h : x < y) : Lt (dT x) (dT y) := by
  show obd (ints? (x.map D.int)) (fun ns => obd (ints? (y.map D.int)) fun ms => some (D.bl (HT.lexLt ns ms))) = _
  rw [ints?_map, ints?_map]
  show some (D.bl (HT.lexLt x y)) = _
  rw [lex_lt h]
theorem web_ok {n : Nat} {web : List (List Int)} (h : WebOk n web) (S : Dk) : d_is_web [.int (n : Int), lotsD web] S = some (.bl true, S) := by
  refine run_eq rfl ?_
  rw [m_is_web, seq_nx ((if_f (e_not (e_B (isi_tup _ _ _ 1 rfl)))).trans rfl)]
  have loop : ∀ (ws : List (List Int)) (x : Sl), (∀ w ∈ ws, w ∈ web) → ∃ x', forF (tgN 2) (fSeq (fIfS (fOr (fNot (fB (fIsi "tuple" (fV 2)))) (fOr (fB (fOp oNe (fCB bLen (fCons (fV 2) fNil)) (fC (.int 2)))) (fNot (fB (fCB bAll (fCons (fFz (fLc (fIA (fV 2)) (tgN 3) fYes (fCall d_is_between (fCons (fV 3) (fCons (fC (.int 0)) (fCons (fOp oSub (fV 0) (fC (.int 1))) fNil)))) [3])) fNil)))))) (fRet (fC (.bl false))) fNext)
      (fIfS (fB (fOp oEq (fOp oIx (fV 2) (fC (.int 0))) (fOp oIx (fV 2) (fC (.int 1))))) (fRet (fC (.bl false))) fNext)) (ws.map dT) [.dat (.int (n : Int)), .dat (lotsD web), x, .un] S = some (.nx [.dat (.int (n : Int)), .dat (lotsD web), x', .un] S) := by
    intro ws
    induction ws with
    | nil => exact fun x _ => ⟨x, rfl⟩
    | cons w ws ih =>
      intro x hw
      obtain ⟨x', e⟩ := ih (.dat (dT w)) fun v hv => hw v (List.mem_cons_of_mem _ hv)
      refine ⟨x', ?_⟩
      obtain ⟨a, b, rfl, ha, hb, hab⟩ := h.pr w (hw w List.mem_cons_self)
      rw [List.map_cons, for_cons (ρ1 := [.dat (.int (n : Int)), .dat (lotsD web), .dat (dT [(a : Int), (b : Int)]), .un]) (ρ' := [.dat (.int (n : Int)), .dat (lotsD web), .dat (dT [(a : Int), (b : Int)]), .un]) (S' := S) rfl]
      · exact e
      · have each : fLc (fIA (fV 2)) (tgN 3) fYes (fCall d_is_between (fCons (fV 3) (fCons (fC (.int 0)) (fCons (fOp oSub (fV 0) (fC (.int 1))) fNil)))) [3] [.dat (.int (n : Int)), .dat (lotsD web), .dat (dT [(a : Int), (b : Int)]), .un] S = some (.lst (([a, b].map fun i : Nat => D.int i).map fun _ => .bl true), S) := by
          refine e_lc (e_IA (e_V rfl) rfl) (by show 2 ≤ 100000; omega) (lc_map (ds := [a, b].map fun i : Nat => D.int i) (fun _ => .bl true) fun d hd => ?_)
          obtain ⟨p, hp, rfl⟩ := List.mem_map.mp hd
          have hpn : p < n := by
            rcases List.mem_cons.mp hp with z | z
            · omega
            · rw [List.mem_singleton.mp z]; exact hb
          exact ⟨[.dat (.int (n : Int)), .dat (lotsD web), .dat (dT [(a : Int), (b : Int)]), .dat (.int p)], rfl, e_call (e_cons (e_V rfl) (e_cons e_C (e_one (e_op (e_V rfl) e_C rfl)))) (between_ok (by omega) (by omega) S)⟩
        rw [seq_nx ((if_f (e_orF (e_not (e_B (isi_tup _ _ _ 2 rfl))) (e_orF (e_B (e_op (e_cb (e_one (e_V rfl)) rfl) e_C rfl)) (e_not (e_B (e_cb (e_one (e_fz each)) (all_true _))))))).trans rfl)]
        have ne : oEq (.int (a : Int)) (.int (b : Int)) = some (.bl false) := by
          show some (D.bl (decide ((a : Int) = (b : Int)))) = _
          rw [decide_eq_false (by omega)]
        exact (if_f (e_B (e_op (e_op (e_V rfl) e_C rfl) (e_op (e_V rfl) e_C rfl) ne))).trans rfl
  obtain ⟨x', e⟩ := loop web .un fun _ z => z
  refine (seq_nx (e_for (e_IA (e_V (i := 1) rfl) rfl) e)).trans ?_
  refine e_ret (e_call (e_one (e_V rfl)) (rising_ok (List.pairwise_map.mpr (h.up.imp fun h => tup_lt h)) ?_ S))
  have := h.few
  rw [List.length_map]
  omega
end K47

namespace K47
open PySem L2 DL
/-! ### one round, told -/
def pick (lots : List (List Int)) (at_ : Nat) : List Int → List Int
  | [a, b] => if b = (at_ : Int) then lots.getD a.toNat [] else []
  | _ => []
theorem pick_eq (lots : List (List Int)) (at_ a b : Nat) : pick lots at_ [(a : Int), (b : Int)] = if (b : Int) = (at_ : Int) then lots.getD a [] else [] := rfl
def seenOf (lots web : List (List Int)) (at_ : Nat) (lot : List Int) : List Int := lot ++ web.flatMap (pick lots at_)
def toldGo (all web : List (List Int)) : List (List Int) → Nat → List (List Int)
  | [], _ => []
  | lot :: r, i => sortSI (seenOf all web i lot) :: toldGo all web r (i + 1)
def told (web lots : List (List Int)) : List (List Int) := toldGo lots web lots 0
theorem toldGo_len (all web : List (List Int)) : ∀ (r : List (List Int)) (i : Nat), (toldGo all web r i).length = r.length
  | [], _ => rfl
  | _ :: r, i => congrArg Nat.succ (toldGo_len all web r (i + 1))
theorem told_len (web lots : List (List Int)) : (told web lots).length = lots.length := toldGo_len _ _ _ _
theorem small_len {n : Nat} {l : List Int} (nd : l.Nodup) (h : ∀ x ∈ l, 0 ≤ x ∧ x ≤ (n : Int) - 1) : l.length ≤ n := by
  have e : l.length ≤ ((List.range n).map fun i : Nat => (i : Int)).length := nodup_le nd fun x hx => by
    obtain ⟨h1, h2⟩ := h x hx
    exact List.mem_map.mpr ⟨x.toNat, List.mem_range.mpr (by omega), by omega⟩
  rwa [List.length_map, List.length_range] at e
theorem getD_ok {n : Nat} {lots : List (List Int)} (h : LotsOk n lots) (a : Nat) : LotOk n (lots.getD a []) := by
  by_cases c : a < lots.length
  · rw [List.getD_eq_getElem?_getD, List.getElem?_eq_getElem c]
    exact h _ (List.getElem_mem c)
  · rw [List.getD_eq_getElem?_getD, List.getElem?_eq_none (by omega)]
    exact ⟨List.Pairwise.nil, fun _ z => by cases z⟩
theorem pick_mem {n : Nat} {lots : List (List Int)} (h : LotsOk n lots) {at_ : Nat} {w : List Int} {x : Int} (hx : x ∈ pick lots at_ w) : 0 ≤ x ∧ x ≤ (n : Int) - 1 := by
  unfold pick at hx
  split at hx
  · split at hx
    · exact (getD_ok h _).bd x hx
    · cases hx
  · cases hx
theorem pick_len {n : Nat} {lots : List (List Int)} (h : LotsOk n lots) (at_ : Nat) (w : List Int) : (pick lots at_ w).length ≤ n := by
  unfold pick
  split
  · split
    · exact up_len (getD_ok h _)
    · exact Nat.zero_le _
  · exact Nat.zero_le _
theorem seen_mem {n : Nat} {lots web : List (List Int)} (h : LotsOk n lots) {at_ : Nat} {lot : List Int} (hl : LotOk n lot) {x : Int} (hx : x ∈ seenOf lots web at_ lot) : 0 ≤ x ∧ x ≤ (n : Int) - 1 := by
  rcases List.mem_append.mp hx with z | z
  · exact hl.bd x z
  · obtain ⟨w, _, hw⟩ := List.mem_flatMap.mp z
    exact pick_mem h hw
theorem flat_len {n : Nat} {lots : List (List Int)} (h : LotsOk n lots) (at_ : Nat) : ∀ ws : List (List Int), (ws.flatMap (pick lots at_)).length ≤ n * ws.length
  | [] => Nat.zero_le _
  | w :: ws => by
    have h1 := pick_len h at_ w
    have h2 := flat_len h at_ ws
    rw [List.flatMap_cons, List.length_append, List.length_cons, Nat.mul_succ]
    omega
theorem sorted_ok {n : Nat} {l : List Int} (h : ∀ x ∈ l, 0 ≤ x ∧ x ≤ (n : Int) - 1) : LotOk n (sortSI l) := ⟨sortSI_lt l, fun x hx => h x (sortSI_mem.mp hx)⟩
theorem toldGo_ok {n : Nat} {all web : List (List Int)} (h : LotsOk n all) : ∀ {r : List (List Int)} {i : Nat}, LotsOk n r → LotsOk n (toldGo all web r i)
  | [], _, _ => fun _ z => by cases z
  | lot :: r, i, hr => fun k hk => by
    rcases List.mem_cons.mp hk with z | z
    · rw [z]; exact sorted_ok fun x hx => seen_mem h (hr lot List.mem_cons_self) hx
    · exact toldGo_ok h (fun k hk => hr k (List.mem_cons_of_mem _ hk)) k z
theorem told_ok {n : Nat} {web lots : List (List Int)} (h : LotsOk n lots) : LotsOk n (told web lots) := toldGo_ok h h
def Pairs (m : Nat) (ws : List (List Int)) : Prop := ∀ w ∈ ws, ∃ a b : Nat, w = [(a : Int), (b : Int)] ∧ a < m ∧ b < m ∧ a ≠ b
theorem at_lots {lots : List (List Int)} {a : Nat} (ha : a < lots.length) : oIx (lotsD lots) (.int (a : Int)) = some (dT (lots.getD a [])) := by
  show L2.atI (lots.map dT) (a : Int) = _
  have hx : (lots.map dT)[a]? = some (dT (lots.getD a [])) := by
    rw [List.getElem?_map, List.getD_eq_getElem?_getD, List.getElem?_eq_getElem ha]
    rfl
  exact L2.atI_nat hx
/-! ### the law's own telling -/
abbrev bSeen : FS := fExt 7 (fIfF (fB (fOp oEq (fV 9) (fV 5))) (fCBF bLst (fCons (fOp oIx (fV 0) (fV 8)) fNil)) (fLst fNil))
abbrev tg2 (i j : Nat) : FG := tgT 2 (tgsCons (tgN i) (tgsCons (tgN j) tgsNil))
theorem eq_int (a b : Int) : oEq (.int a) (.int b) = some (.bl (decide (a = b))) := rfl
theorem seen_loop {n : Nat} {lots : List (List Int)} (h : LotsOk n lots) (hn : n ≤ 4) {at_ : Nat} {S : Dk} {s1 s2 s3 s4 s6 : Sl} : ∀ (ws : List (List Int)) (seen : List Int) (s8 s9 : Sl), Pairs lots.length ws → seen.length + 4 * ws.length ≤ 3000 →
    ∃ s8' s9', forF (tg2 8 9) bSeen (ws.map dT) [.dat (lotsD lots), s1, s2, s3, s4, .dat (.int (at_ : Int)), s6, .own (.lst (seen.map D.int)), s8, s9] S =
      some (.nx [.dat (lotsD lots), s1, s2, s3, s4, .dat (.int (at_ : Int)), s6, .own (.lst ((seen ++ ws.flatMap (pick lots at_)).map D.int)), s8', s9'] S)
  | [], seen, s8, s9, _, _ => ⟨s8, s9, by rw [List.flatMap_nil, List.append_nil]; rfl⟩
  | w :: ws, seen, s8, s9, hp, hl => by
    obtain ⟨a, b, rfl, ha, hb, hab⟩ := hp w List.mem_cons_self
    rw [List.length_cons] at hl
    have pl := pick_len h at_ [(a : Int), (b : Int)]
    obtain ⟨s8', s9', e⟩ := seen_loop h hn (S := S) (s1 := s1) (s2 := s2) (s3 := s3) (s4 := s4) (s6 := s6) ws (seen ++ pick lots at_ [(a : Int), (b : Int)]) (.dat (.int (a : Int))) (.dat (.int (b : Int))) (fun v hv => hp v (List.mem_cons_of_mem _ hv)) (by rw [List.length_append]; omega)
    refine ⟨s8', s9', ?_⟩
    rw [List.map_cons, List.flatMap_cons, ← List.append_assoc, ← e]
    refine for_cons (ρ1 := [.dat (lotsD lots), s1, s2, s3, s4, .dat (.int (at_ : Int)), s6, .own (.lst (seen.map D.int)), .dat (.int (a : Int)), .dat (.int (b : Int))]) rfl ?_
    have key : fIfF (fB (fOp oEq (fV 9) (fV 5))) (fCBF bLst (fCons (fOp oIx (fV 0) (fV 8)) fNil)) (fLst fNil) [.dat (lotsD lots), s1, s2, s3, s4, .dat (.int (at_ : Int)), s6, .own (.lst (seen.map D.int)), .dat (.int (a : Int)), .dat (.int (b : Int))] S = some (.lst ((pick lots at_ [(a : Int), (b : Int)]).map D.int), S) := by
      have t := e_B (e_op (ρ := [.dat (lotsD lots), s1, s2, s3, s4, .dat (.int (at_ : Int)), s6, .own (.lst (seen.map D.int)), .dat (.int (a : Int)), .dat (.int (b : Int))]) (S := S) (e_V (i := 9) rfl) (e_V (i := 5) rfl) (eq_int b at_))
      by_cases c : (b : Int) = (at_ : Int)
      · rw [decide_eq_true c] at t
        refine (e_ifFT t (e_cbF (e_one (e_op (e_V rfl) (e_V rfl) (at_lots ha))) rfl)).trans ?_
        rw [pick_eq, if_pos c]
      · rw [decide_eq_false c] at t
        refine (e_ifFF t (e_lst e_nil (by decide))).trans ?_
        rw [pick_eq, if_neg c]
        rfl
    refine (e_ext rfl key (by rw [List.length_map, List.length_map]; omega)).trans ?_
    rw [List.map_append]
    rfl
/-- the walk over the lots -/
abbrev bAfter : FS := fSeq (fAsgO (fCBF bLst (fCons (fV 6) fNil)) 7) (fSeq (fFor (fIA (fV 1)) (tg2 8 9) bSeen) (fFrz 7 (fApp 4 (fCB bTup (fCons (fFz (fSortSetI (fV 7))) fNil)))))
theorem after_loop {n : Nat} {lots web : List (List Int)} (h : LotsOk n lots) (hn : n ≤ 4) (hw : Pairs lots.length web) (hwl : web.length ≤ 250) {S : Dk} {s2 s3 : Sl} : ∀ (r : List (List Int)) (i : Nat) (acc : List (List Int)) (s5 s6 s7 s8 s9 : Sl), LotsOk n r → acc.length + r.length ≤ 1000 →
    ∃ s5' s6' s7' s8' s9', forF (tg2 5 6) bAfter (enumD (r.map dT) i) [.dat (lotsD lots), .dat (lotsD web), s2, s3, .own (.lst (acc.map dT)), s5, s6, s7, s8, s9] S =
      some (.nx [.dat (lotsD lots), .dat (lotsD web), s2, s3, .own (.lst ((acc ++ toldGo lots web r i).map dT)), s5', s6', s7', s8', s9'] S)
  | [], i, acc, s5, s6, s7, s8, s9, _, _ => ⟨s5, s6, s7, s8, s9, by rw [toldGo, List.append_nil]; rfl⟩
  | lot :: r, i, acc, s5, s6, s7, s8, s9, hr, hl => by
    rw [List.length_cons] at hl
    have hlot := hr lot List.mem_cons_self
    have len := up_len hlot
    have big : ∀ ws : List (List Int), ws.length ≤ 250 → 4 * ws.length ≤ 1000 := fun ws z => by omega
    obtain ⟨t8, t9, e1⟩ := seen_loop h hn (at_ := i) (S := S) (s1 := .dat (lotsD web)) (s2 := s2) (s3 := s3) (s4 := .own (.lst (acc.map dT))) (s6 := .dat (dT lot)) web lot s8 s9 hw (by omega)
    obtain ⟨s5', s6', s7', s8', s9', e2⟩ := after_loop h hn hw hwl (S := S) (s2 := s2) (s3 := s3) r (i + 1) (acc ++ [sortSI (seenOf lots web i lot)]) (.dat (.int (i : Nat))) (.dat (dT lot)) (.dat (.lst ((seenOf lots web i lot).map D.int))) t8 t9 (fun k hk => hr k (List.mem_cons_of_mem _ hk)) (by rw [List.length_append, List.length_singleton]; omega)
    refine ⟨s5', s6', s7', s8', s9', ?_⟩
    rw [List.map_cons, enumD, toldGo, show acc ++ sortSI (seenOf lots web i lot) :: toldGo lots web r (i + 1) = (acc ++ [sortSI (seenOf lots web i lot)]) ++ toldGo lots web r (i + 1) by simp, ← e2]
    refine for_cons (ρ1 := [.dat (lotsD lots), .dat (lotsD web), s2, s3, .own (.lst (acc.map dT)), .dat (.int (i : Nat)), .dat (dT lot), s7, s8, s9]) rfl ?_
    refine (seq_nx (e_asgO (e_cbF (e_one (e_V rfl)) rfl))).trans ?_
    refine (seq_nx (e_for (e_IA (e_V (i := 1) rfl) rfl) e1)).trans ?_
    refine (frz_own rfl).trans ?_
    have mem : ∀ x ∈ once (seenOf lots web i lot), 0 ≤ x ∧ x ≤ (n : Int) - 1 := fun x hx => seen_mem h hlot (mem_once.mp hx)
    have few := small_len (once_nodup _) mem
    have long : (seenOf lots web i lot).length < 4000 := by
      have z := flat_len h i web
      have y : n * web.length ≤ 4 * web.length := Nat.mul_le_mul_right _ hn
      show (lot ++ web.flatMap (pick lots i)).length < 4000
      rw [List.length_append]
      omega
    have srt : fSortSetI (fV 7) [.dat (lotsD lots), .dat (lotsD web), s2, s3, .own (.lst (acc.map dT)), .dat (.int (i : Nat)), .dat (dT lot), .dat (.lst ((seenOf lots web i lot).map D.int)), t8, t9] S = some (.lst ((sortSI (seenOf lots web i lot)).map D.int), S) := by
      unfold fSortSetI
      rw [e_V rfl]
      show obd (ints? ((seenOf lots web i lot).map D.int)) _ = _
      rw [ints?_map]
      exact if_pos ⟨by omega, long⟩
    refine (e_app rfl (e_cb (e_one (e_fz srt)) rfl) (by rw [List.length_map]; omega)).trans ?_
    rw [List.map_append]
    rfl
def rounds {α : Type} (f : α → α) : Nat → α → α
  | 0, x => x
  | n + 1, x => rounds f n (f x)
abbrev bRound : FS := fSeq (fAsgO (fLst fNil) 4) (fSeq (fFor (fEnA (fCons (fV 0) fNil)) (tg2 5 6) bAfter) (fFrz 4 (fAsg (fCB bTup (fCons (fV 4) fNil)) (tgN 0))))
theorem round_loop {n : Nat} {web : List (List Int)} (hn : n ≤ 4) (hwl : web.length ≤ 250) {S : Dk} {s2 : Sl} : ∀ (ds : List D) (lots : List (List Int)) (s3 s4 s5 s6 s7 s8 s9 : Sl), LotsOk n lots → Pairs lots.length web → lots.length ≤ 100 →
    ∃ s3' s4' s5' s6' s7' s8' s9', forF (tgN 3) bRound ds [.dat (lotsD lots), .dat (lotsD web), s2, s3, s4, s5, s6, s7, s8, s9] S =
      some (.nx [.dat (lotsD (rounds (told web) ds.length lots)), .dat (lotsD web), s2, s3', s4', s5', s6', s7', s8', s9'] S)
  | [], lots, s3, s4, s5, s6, s7, s8, s9, _, _, _ => ⟨s3, s4, s5, s6, s7, s8, s9, rfl⟩
  | d :: ds, lots, s3, s4, s5, s6, s7, s8, s9, h, hw, hl => by
    obtain ⟨t5, t6, t7, t8, t9, e1⟩ := after_loop h hn hw hwl (S := S) (s2 := s2) (s3 := .dat d) lots 0 [] s5 s6 s7 s8 s9 h (by show 0 + lots.length ≤ 1000; omega)
    obtain ⟨s3', s4', s5', s6', s7', s8', s9', e2⟩ := round_loop hn hwl (S := S) (s2 := s2) ds (told web lots) (.dat d) (.dat (.lst ((told web lots).map dT))) t5 t6 t7 t8 t9 (told_ok h) (by rw [told_len]; exact hw) (by rw [told_len]; exact hl)
    refine ⟨s3', s4', s5', s6', s7', s8', s9', ?_⟩
    show _ = some (Out.nx [.dat (lotsD (rounds (told web) ds.length (told web lots))), .dat (lotsD web), s2, s3', s4', s5', s6', s7', s8', s9'] S)
    rw [← e2]
    refine for_cons (ρ1 := [.dat (lotsD lots), .dat (lotsD web), s2, .dat d, s4, s5, s6, s7, s8, s9]) rfl ?_
    refine (seq_nx (e_asgO (e_lst e_nil (by decide)))).trans ?_
    refine (seq_nx (e_for (e_EnA (e_one (e_V rfl)) rfl) e1)).trans ?_
    refine (frz_own rfl).trans ?_
    exact e_asg (e_cb (e_one (e_V rfl)) rfl)
theorem range_len (m : Nat) : (rangeD 0 m).length = m := rangeD_len
theorem after_ok {n : Nat} {lots web : List (List Int)} (h : LotsOk n lots) (hn : n ≤ 4) (hw : Pairs lots.length web) (hwl : web.length ≤ 250) (hll : lots.length ≤ 100) {k : Int} (hk : 0 ≤ k) (S : Dk) :
    d_law_after [lotsD lots, lotsD web, .int k] S = some (lotsD (rounds (told web) (min k.toNat (lots.length + 1)) lots), S) := by
  have mn : bMin [.int k, .int ((lots.length : Int) + 1)] = some (.int ((min k.toNat (lots.length + 1) : Nat) : Int)) := by
    show some (D.int (if (lots.length : Int) + 1 < k then (lots.length : Int) + 1 else k)) = _
    congr 2
    split <;> omega
  obtain ⟨s3, s4, s5, s6, s7, s8, s9, e⟩ := round_loop hn hwl (S := S) (s2 := .dat (.int k)) (rangeD 0 (min k.toNat (lots.length + 1))) lots .un .un .un .un .un .un .un h hw hll
  rw [range_len] at e
  have len : bLen [lotsD lots] = some (.int (lots.length : Int)) := by
    show some (D.int ((lots.map dT).length : Int)) = _
    rw [List.length_map]
  have it : fR1 (fCons (fCB bMin (fCons (fV 2) (fCons (fOp oAddX (fCB bLen (fCons (fV 0) fNil)) (fC (.int 1))) fNil))) fNil) (startR 10 [lotsD lots, lotsD web, .int k]) S = some (rangeD 0 (min k.toNat (lots.length + 1)), S) := by
    have r := e_R1 (ρ := startR 10 [lotsD lots, lotsD web, .int k]) (S := S) (e_one (e_cb (e_cons (e_V (i := 2) rfl) (e_one (e_op (g := oAddX) (e_cb (e_one (e_V (i := 0) rfl)) len) (e_C (d := .int 1)) rfl))) mn)) (by omega)
    rw [Int.toNat_natCast] at r
    exact r
  refine run_eq rfl ?_
  refine (seq_nx (e_for it e)).trans ?_
  exact e_ret (e_cb (e_one (e_V rfl)) rfl)
end K47

namespace K47
open PySem L2 DL
/-! ### the program's telling: dicts whose keys are the places -/
def dk (ns : List Int) : List (Key × D) := ns.map fun n => (Sum.inl n, D.bl true)
def addK (ns : List Int) (n : Int) : List Int := if n ∈ ns then ns else ns ++ [n]
theorem dk_any (ns : List Int) (n : Int) : ((dk ns).any fun kv => decide (kv.1 = Sum.inl n)) = decide (n ∈ ns) := by
  induction ns with
  | nil => rfl
  | cons m ns ih =>
    show (decide ((Sum.inl m : Key) = Sum.inl n) || (dk ns).any fun kv => decide (kv.1 = Sum.inl n)) = _
    rw [ih]
    by_cases e : m = n
    · subst e; simp
    · have e' : ¬ (Sum.inl m : Key) = Sum.inl n := fun z => e (Sum.inl.inj z)
      simp [e', Ne.symm e]
theorem dk_map (ns : List Int) (n : Int) : (dk ns).map (fun kv => if kv.1 = (Sum.inl n : Key) then (kv.1, D.bl true) else kv) = dk ns := by
  unfold dk
  rw [List.map_map]
  refine List.map_congr_left fun m _ => ?_
  show (if (Sum.inl m : Key) = Sum.inl n then ((Sum.inl m : Key), D.bl true) else (Sum.inl m, D.bl true)) = (Sum.inl m, D.bl true)
  split <;> rfl
theorem put_dk (ns : List Int) (n : Int) : putD (dk ns) (.inl n) (.bl true) = dk (addK ns n) := by
  unfold putD addK
  rw [dk_any]
  by_cases h : n ∈ ns
  · rw [decide_eq_true h, if_pos rfl, if_pos h]
    exact dk_map ns n
  · rw [decide_eq_false h, if_neg Bool.false_ne_true, if_neg h]
    unfold dk
    rw [List.map_append]
    rfl
theorem addK_mem {ns : List Int} {n x : Int} : x ∈ addK ns n ↔ x ∈ ns ∨ x = n := by
  unfold addK
  split
  · rename_i h
    exact ⟨.inl, fun z => z.elim id fun e => e ▸ h⟩
  · simp
theorem addK_nodup {ns : List Int} (n : Int) (h : ns.Nodup) : (addK ns n).Nodup := by
  unfold addK
  split
  · exact h
  · rename_i hn
    refine List.nodup_append.mpr ⟨h, List.nodup_cons.mpr ⟨by simp, List.nodup_nil⟩, fun a ha b hb => ?_⟩
    rw [List.mem_singleton.mp hb]
    exact fun e => hn (e ▸ ha)
def addAll (ns ks : List Int) : List Int := ks.foldl addK ns
theorem addAll_mem {x : Int} : ∀ {ks ns : List Int}, x ∈ addAll ns ks ↔ x ∈ ns ∨ x ∈ ks
  | [], ns => by simp [addAll]
  | k :: ks, ns => by
    show x ∈ addAll (addK ns k) ks ↔ _
    rw [addAll_mem, addK_mem, List.mem_cons, or_assoc]
theorem addAll_nodup : ∀ {ks ns : List Int}, ns.Nodup → (addAll ns ks).Nodup
  | [], _, h => h
  | k :: ks, ns, h => addAll_nodup (ks := ks) (addK_nodup k h)
theorem merge_dk : ∀ (ms ns : List Int), mergeD (dk ns) (dk ms) = dk (addAll ns ms)
  | [], _ => rfl
  | m :: ms, ns => by
    show mergeD (putD (dk ns) (.inl m) (.bl true)) (dk ms) = _
    rw [put_dk, merge_dk ms (addK ns m)]
    rfl
theorem keys_dk : ∀ ns : List Int, keysI? (dk ns) = some ns
  | [] => rfl
  | n :: ns => by
    show (keysI? (dk ns)).map (n :: ·) = _
    rw [keys_dk ns]
    rfl
theorem dc_loop {S : Dk} {ρ : List Sl} (hρ : 6 < ρ.length) : ∀ (ks acc : List Int), dcF [6] (tgN 6) (fV 6) (fC (.bl true)) (ks.map D.int) (dk acc) ρ S = some (dk (addAll acc ks), S)
  | [], _ => rfl
  | k :: ks, acc => by
    rw [List.map_cons]
    unfold dcF
    show bnd (fV 6 ((wipeR ρ [6]).set 6 (.dat (.int k))) S) _ = _
    have hv : fV 6 ((wipeR ρ [6]).set 6 (.dat (.int k))) S = some (.int k, S) := e_V (by
      rw [List.getElem?_set_self]
      show 6 < (ρ.set 6 Sl.un).length
      rw [List.length_set]
      exact hρ)
    rw [hv]
    show dcF [6] (tgN 6) (fV 6) (fC (.bl true)) (ks.map D.int) (putD (dk acc) (.inl k) (.bl true)) ρ S = _
    rw [put_dk]
    exact dc_loop hρ ks (addK acc k)
theorem e_dc {fi : FA} {ρ : List Sl} {S : Dk} {ks : List Int} (hρ : 6 < ρ.length) (h : fi ρ S = some (ks.map D.int, S)) (hl : ks.length ≤ 1000) : fDc fi (tgN 6) (fV 6) (fC (.bl true)) [6] ρ S = some (.dki (dk (addAll [] ks)), S) := by
  unfold fDc
  rw [h]
  show (if (ks.map D.int).length ≤ 100000 then bnd (dcF [6] (tgN 6) (fV 6) (fC (.bl true)) (ks.map D.int) (dk []) ρ S) fun r S2 => some (Fo.dki r, S2) else none) = _
  rw [if_pos (by rw [List.length_map]; omega), dc_loop hρ]
  rfl
abbrev tailDc (e : FE) : FF := fDc (fIA e) (tgN 6) (fV 6) (fC (.bl true)) [6]
abbrev bPlaces : FS := fIfS (fB (fOp oEq (fV 8) (fV 3))) (fUpd 5 (tailDc (fOp oIx (fV 0) (fV 7)))) fNext
theorem e_upd {i : Nat} {f : FF} {ρ : List Sl} {S S' : Dk} {xs ys : List (Key × D)} (h : ρ[i]? = some (Sl.own (.dki xs))) (h2 : f ρ S = some (.dki ys, S')) (hl : xs.length + ys.length ≤ 100000) : fUpd i f ρ S = some (.nx (ρ.set i (.own (.dki (mergeD xs ys)))) S') := by
  unfold fUpd
  rw [h]
  show bnd (f ρ S) _ = _
  rw [h2]
  exact if_pos hl
theorem addAll_len : ∀ (ks ns : List Int), (addAll ns ks).length ≤ ns.length + ks.length
  | [], _ => Nat.le_refl _
  | k :: ks, ns => by
    have h := addAll_len ks (addK ns k)
    have h2 : (addK ns k).length ≤ ns.length + 1 := by
      unfold addK
      split
      · omega
      · rw [List.length_append]; exact Nat.le_refl _
    show (addAll (addK ns k) ks).length ≤ _
    rw [List.length_cons]
    omega
theorem places_loop {n : Nat} {lots : List (List Int)} (h : LotsOk n lots) (hn : n ≤ 4) {at_ : Nat} {S : Dk} {s1 s2 s4 s6 : Sl} : ∀ (ws : List (List Int)) (ns : List Int) (s7 s8 : Sl), Pairs lots.length ws → ns.length + 4 * ws.length ≤ 3000 →
    ∃ ns' s7' s8', forF (tg2 7 8) bPlaces (ws.map dT) [.dat (lotsD lots), s1, s2, .dat (.int (at_ : Int)), s4, .own (.dki (dk ns)), s6, s7, s8] S =
      some (.nx [.dat (lotsD lots), s1, s2, .dat (.int (at_ : Int)), s4, .own (.dki (dk ns')), s6, s7', s8'] S) ∧ (ns.Nodup → ns'.Nodup) ∧ ∀ x, x ∈ ns' ↔ x ∈ ns ∨ x ∈ ws.flatMap (pick lots at_)
  | [], ns, s7, s8, _, _ => ⟨ns, s7, s8, rfl, id, fun x => by simp⟩
  | w :: ws, ns, s7, s8, hp, hl => by
    obtain ⟨a, b, rfl, ha, hb, hab⟩ := hp w List.mem_cons_self
    rw [List.length_cons] at hl
    have gl := up_len (getD_ok h a)
    have pl := pick_len h at_ [(a : Int), (b : Int)]
    have a1 := addAll_len (addAll [] (pick lots at_ [(a : Int), (b : Int)])) ns
    have a2 := addAll_len (pick lots at_ [(a : Int), (b : Int)]) []
    obtain ⟨ns', s7', s8', e, nd, mem⟩ := places_loop h hn (S := S) (s1 := s1) (s2 := s2) (s4 := s4) (s6 := s6) ws (addAll ns (addAll [] (pick lots at_ [(a : Int), (b : Int)]))) (.dat (.int (a : Int))) (.dat (.int (b : Int))) (fun v hv => hp v (List.mem_cons_of_mem _ hv)) (by
      rw [List.length_nil] at a2; omega)
    refine ⟨ns', s7', s8', ?_, fun z => nd (addAll_nodup z), fun x => ?_⟩
    · rw [List.map_cons, ← e]
      refine for_cons (ρ1 := [.dat (lotsD lots), s1, s2, .dat (.int (at_ : Int)), s4, .own (.dki (dk ns)), s6, .dat (.int (a : Int)), .dat (.int (b : Int))]) rfl ?_
      have t := e_B (e_op (ρ := [.dat (lotsD lots), s1, s2, .dat (.int (at_ : Int)), s4, .own (.dki (dk ns)), s6, .dat (.int (a : Int)), .dat (.int (b : Int))]) (S := S) (e_V (i := 8) rfl) (e_V (i := 3) rfl) (eq_int b at_))
      rw [pick_eq]
      by_cases c : (b : Int) = (at_ : Int)
      · rw [decide_eq_true c] at t
        refine (if_t t).trans ?_
        refine (e_upd rfl (e_dc (by show 6 < 9; decide) (e_IA (e_op (e_V rfl) (e_V rfl) (at_lots ha)) rfl) (by omega)) ?_).trans ?_
        · have z := addAll_len (lots.getD a []) []
          unfold dk
          rw [List.length_map, List.length_map]
          rw [List.length_nil] at z
          omega
        · rw [merge_dk, if_pos c]
          rfl
      · rw [decide_eq_false c] at t
        refine (if_f t).trans ?_
        rw [if_neg c]
        rfl
    · rw [mem, addAll_mem, addAll_mem, List.flatMap_cons, List.mem_append, or_assoc]
      simp
abbrev bTold : FS := fSeq (fAsgO (tailDc (fV 4)) 5) (fSeq (fFor (fIA (fV 1)) (tg2 7 8) bPlaces) (fApp 2 (fCB bTup (fCons (fFz (fSortD 5)) fNil))))
theorem told_loop {n : Nat} {lots web : List (List Int)} (h : LotsOk n lots) (hn : n ≤ 4) (hw : Pairs lots.length web) (hwl : web.length ≤ 250) {S : Dk} : ∀ (r : List (List Int)) (i : Nat) (acc : List (List Int)) (s3 s4 s5 s6 s7 s8 : Sl), LotsOk n r → acc.length + r.length ≤ 1000 →
    ∃ s3' s4' s5' s6' s7' s8', forF (tg2 3 4) bTold (enumD (r.map dT) i) [.dat (lotsD lots), .dat (lotsD web), .own (.lst (acc.map dT)), s3, s4, s5, s6, s7, s8] S =
      some (.nx [.dat (lotsD lots), .dat (lotsD web), .own (.lst ((acc ++ toldGo lots web r i).map dT)), s3', s4', s5', s6', s7', s8'] S)
  | [], i, acc, s3, s4, s5, s6, s7, s8, _, _ => ⟨s3, s4, s5, s6, s7, s8, by rw [toldGo, List.append_nil]; rfl⟩
  | lot :: r, i, acc, s3, s4, s5, s6, s7, s8, hr, hl => by
    rw [List.length_cons] at hl
    have hlot := hr lot List.mem_cons_self
    have len := up_len hlot
    have l0 := addAll_len lot []
    rw [List.length_nil] at l0
    obtain ⟨ns, t7, t8, e1, nd, mem⟩ := places_loop h hn (at_ := i) (S := S) (s1 := .dat (lotsD web)) (s2 := .own (.lst (acc.map dT))) (s4 := .dat (dT lot)) (s6 := s6) web (addAll [] lot) s7 s8 hw (by omega)
    have nd' := nd (addAll_nodup List.nodup_nil)
    have mem' : ∀ x, x ∈ ns ↔ x ∈ seenOf lots web i lot := fun x => by
      rw [mem, addAll_mem]
      unfold seenOf
      rw [List.mem_append]
      simp
    have srtE : sortI ns = sortSI (seenOf lots web i lot) := by
      refine sortSI_of ?_ fun x => (sortI_perm ns).mem_iff.trans (mem' x)
      refine ((sortI_sorted ns).and ((sortI_perm ns).nodup_iff.mpr nd')).imp fun h => ?_
      have h1 := h.1
      have h2 := h.2
      omega
    obtain ⟨s3', s4', s5', s6', s7', s8', e2⟩ := told_loop h hn hw hwl (S := S) r (i + 1) (acc ++ [sortSI (seenOf lots web i lot)]) (.dat (.int (i : Nat))) (.dat (dT lot)) (.own (.dki (dk ns))) s6 t7 t8 (fun k hk => hr k (List.mem_cons_of_mem _ hk)) (by rw [List.length_append, List.length_singleton]; omega)
    refine ⟨s3', s4', s5', s6', s7', s8', ?_⟩
    rw [List.map_cons, enumD, toldGo, show acc ++ sortSI (seenOf lots web i lot) :: toldGo lots web r (i + 1) = (acc ++ [sortSI (seenOf lots web i lot)]) ++ toldGo lots web r (i + 1) by simp, ← e2]
    refine for_cons (ρ1 := [.dat (lotsD lots), .dat (lotsD web), .own (.lst (acc.map dT)), .dat (.int (i : Nat)), .dat (dT lot), s5, s6, s7, s8]) rfl ?_
    refine (seq_nx (e_asgO (e_dc (by show 6 < 9; decide) (e_IA (e_V rfl) rfl) (by omega)))).trans ?_
    refine (seq_nx (e_for (e_IA (e_V (i := 1) rfl) rfl) e1)).trans ?_
    have few : ns.length ≤ n := small_len nd' fun x hx => seen_mem h hlot ((mem' x).mp hx)
    have srt : fSortD 5 [.dat (lotsD lots), .dat (lotsD web), .own (.lst (acc.map dT)), .dat (.int (i : Nat)), .dat (dT lot), .own (.dki (dk ns)), s6, t7, t8] S = some (.lst ((sortSI (seenOf lots web i lot)).map D.int), S) := by
      show obd (keysI? (dk ns)) _ = _
      rw [keys_dk]
      show (if ns.length < 64 then some (Fo.lst ((sortI ns).map D.int), S) else none) = _
      rw [if_pos (by omega), srtE]
    refine (e_app rfl (e_cb (e_one (e_fz srt)) rfl) (by rw [List.length_map]; omega)).trans ?_
    rw [List.map_append]
    rfl
theorem told_run {n : Nat} {lots web : List (List Int)} (h : LotsOk n lots) (hn : n ≤ 4) (hw : Pairs lots.length web) (hwl : web.length ≤ 250) (hll : lots.length ≤ 100) (S : Dk) : d_lots_told [lotsD lots, lotsD web] S = some (lotsD (told web lots), S) := by
  obtain ⟨s3, s4, s5, s6, s7, s8, e⟩ := told_loop h hn hw hwl (S := S) lots 0 [] .un .un .un .un .un .un h (by show 0 + lots.length ≤ 1000; omega)
  refine run_eq rfl ?_
  refine (seq_nx (e_asgO (e_lst e_nil (by decide)))).trans ?_
  refine (seq_nx (e_for (e_EnA (e_one (e_V rfl)) rfl) e)).trans ?_
  refine (frz_own rfl).trans ?_
  exact e_ret (e_cb (e_one (e_V rfl)) rfl)
/-! ### sights_after -/
theorem sights_loop {n : Nat} {web : List (List Int)} (hn : n ≤ 4) (hwl : web.length ≤ 250) {S : Dk} {s0 s3 : Sl} : ∀ (ds : List D) (lots : List (List Int)) (s4 : Sl), LotsOk n lots → Pairs lots.length web → lots.length ≤ 100 →
    ∃ s4', forF (tgN 4) (fAsg (fCall d_lots_told (fCons (fV 1) (fCons (fV 2) fNil))) (tgN 1)) ds [s0, .dat (lotsD lots), .dat (lotsD web), s3, s4] S = some (.nx [s0, .dat (lotsD (rounds (told web) ds.length lots)), .dat (lotsD web), s3, s4'] S)
  | [], lots, s4, _, _, _ => ⟨s4, rfl⟩
  | d :: ds, lots, s4, h, hw, hl => by
    obtain ⟨s4', e⟩ := sights_loop hn hwl (S := S) (s0 := s0) (s3 := s3) ds (told web lots) (.dat d) (told_ok h) (by rw [told_len]; exact hw) (by rw [told_len]; exact hl)
    refine ⟨s4', ?_⟩
    show _ = some (Out.nx [s0, .dat (lotsD (rounds (told web) ds.length (told web lots))), .dat (lotsD web), s3, s4'] S)
    rw [← e]
    refine for_cons (ρ1 := [s0, .dat (lotsD lots), .dat (lotsD web), s3, .dat d]) rfl ?_
    exact e_asg (e_call (e_cons (e_V rfl) (e_one (e_V rfl))) (told_run h hn hw hwl hl S))
/-- a shape: the text takes it -/
structure ShapeOk (shape : List D) (n : Nat) : Prop where
  len : shape.length = n
  le : n ≤ 4
  need : ∀ S, d_need_shape [.tup shape] S = some (.non, S)
theorem sights_ok {n : Nat} {shape : List D} {lots web : List (List Int)} (sh : ShapeOk shape n) (h : LotsOk n lots) (hw : WebOk lots.length web) (hll : lots.length ≤ 100) {k : Int} (hk : 0 ≤ k) (S : Dk) :
    d_sights_after [.tup shape, lotsD lots, lotsD web, .int k] S = some (lotsD (rounds (told web) (min k.toNat lots.length) lots), S) := by
  have len : bLen [lotsD lots] = some (.int (lots.length : Int)) := by
    show some (D.int ((lots.map dT).length : Int)) = _
    rw [List.length_map]
  have mn : bMin [.int k, .int (lots.length : Int)] = some (.int ((min k.toNat lots.length : Nat) : Int)) := by
    show some (D.int (if (lots.length : Int) < k then (lots.length : Int) else k)) = _
    congr 2
    split <;> omega
  have wneed : d_need_web [.int (lots.length : Int), lotsD web] S = some (.non, S) :=
    run_nx rfl ((if_f (e_not (e_B (e_call (e_cons (e_V rfl) (e_one (e_V rfl))) (web_ok hw S))))).trans rfl)
  have lt0 : oLtX (.int k) (.int 0) = some (.bl false) := by
    show some (D.bl (decide (k < 0))) = _
    rw [decide_eq_false (by omega)]
  obtain ⟨s4, e⟩ := sights_loop sh.le hw.few (S := S) (s0 := .dat (.tup shape)) (s3 := .dat (.int k)) (rangeD 0 (min k.toNat lots.length)) lots .un h hw.pr hll
  rw [range_len] at e
  have it : fR1 (fCons (fCB bMin (fCons (fV 3) (fCons (fCB bLen (fCons (fV 1) fNil)) fNil))) fNil) (startR 5 [.tup shape, lotsD lots, lotsD web, .int k]) S = some (rangeD 0 (min k.toNat lots.length), S) := by
    have r := e_R1 (ρ := startR 5 [.tup shape, lotsD lots, lotsD web, .int k]) (S := S) (e_one (e_cb (e_cons (e_V (i := 3) rfl) (e_one (e_cb (e_one (e_V (i := 1) rfl)) len))) mn)) (by omega)
    rw [Int.toNat_natCast] at r
    exact r
  refine run_eq rfl ?_
  refine (seq_nx (e_drop (e_call (e_one (e_V rfl)) (sh.need S)))).trans ?_
  refine (seq_nx ((if_f (e_not (e_B (e_call (e_cons (e_V rfl) (e_one (e_V rfl))) (lots_ok sh.len sh.le h (by omega) S))))).trans rfl)).trans ?_
  refine (seq_nx (e_drop (e_call (e_cons (e_cb (e_one (e_V rfl)) len) (e_one (e_V rfl))) wneed))).trans ?_
  refine (seq_nx ((if_f (e_orF (e_not (e_B (e_call (e_one (e_V rfl)) (int_ok k S)))) (e_B (e_op (g := oLtX) (e_V rfl) e_C lt0)))).trans rfl)).trans ?_
  refine (seq_nx (e_for it e)).trans ?_
  exact e_ret (e_V rfl)
end K47

namespace K47
open PySem L2 DL
/-! ### behind as many rounds as there are lots nothing changes -/
theorem rounds_succ {α : Type} (f : α → α) : ∀ (n : Nat) (x : α), rounds f (n + 1) x = f (rounds f n x)
  | 0, _ => rfl
  | n + 1, x => rounds_succ f n (f x)
theorem rounds_add {α : Type} (f : α → α) : ∀ (a b : Nat) (x : α), rounds f (a + b) x = rounds f a (rounds f b x)
  | a, 0, _ => rfl
  | a, b + 1, x => rounds_add f a b (f x)
theorem rounds_len (web : List (List Int)) : ∀ (r : Nat) (lots : List (List Int)), (rounds (told web) r lots).length = lots.length
  | 0, _ => rfl
  | r + 1, lots => (rounds_len web r (told web lots)).trans (told_len web lots)
theorem rounds_ok {n : Nat} {web : List (List Int)} : ∀ (r : Nat) {lots : List (List Int)}, LotsOk n lots → LotsOk n (rounds (told web) r lots)
  | 0, _, h => h
  | r + 1, _, h => rounds_ok r (told_ok h)
theorem toldGo_get (all web : List (List Int)) : ∀ (r : List (List Int)) (j i : Nat), i < r.length → (toldGo all web r j).getD i [] = sortSI (seenOf all web (j + i) (r.getD i []))
  | [], _, _, h => absurd h (Nat.not_lt_zero _)
  | lot :: r, j, 0, _ => rfl
  | lot :: r, j, i + 1, h => by
    have ih := toldGo_get all web r (j + 1) i (by simpa using h)
    rw [show j + 1 + i = j + (i + 1) by omega] at ih
    simpa [toldGo] using ih
/-- which lots have a place -/
def has (p : Int) (lots : List (List Int)) (i : Nat) : Bool := decide (p ∈ lots.getD i [])
def grow (web : List (List Int)) (X : Nat → Bool) (i : Nat) : Bool := X i || web.any fun w => match w with
  | [a, b] => decide (b = (i : Int)) && X a.toNat
  | _ => false
theorem has_told {web lots : List (List Int)} {p : Int} {i : Nat} (hi : i < lots.length) : has p (told web lots) i = grow web (has p lots) i := by
  unfold has grow
  show decide (p ∈ (toldGo lots web lots 0).getD i []) = _
  rw [toldGo_get _ _ _ _ _ hi, Nat.zero_add]
  rw [Bool.eq_iff_iff, decide_eq_true_eq, sortSI_mem, Bool.or_eq_true, decide_eq_true_eq, List.any_eq_true]
  unfold seenOf
  rw [List.mem_append, List.mem_flatMap]
  refine or_congr Iff.rfl ⟨?_, ?_⟩
  · rintro ⟨w, hw, hp⟩
    refine ⟨w, hw, ?_⟩
    unfold pick at hp
    split at hp
    · split at hp
      · rename_i c
        show (decide _ && decide _) = true
        rw [decide_eq_true c, decide_eq_true hp]
        rfl
      · cases hp
    · cases hp
  · rintro ⟨w, hw, hp⟩
    refine ⟨w, hw, ?_⟩
    unfold pick
    split at hp
    · rw [Bool.and_eq_true, decide_eq_true_eq, decide_eq_true_eq] at hp
      show p ∈ (if _ then _ else _)
      rw [if_pos hp.1]
      exact hp.2
    · cases hp
theorem grow_congr {m : Nat} {web : List (List Int)} (hw : Pairs m web) {X Y : Nat → Bool} (h : ∀ i, i < m → X i = Y i) : ∀ i, i < m → grow web X i = grow web Y i := by
  intro i hi
  unfold grow
  rw [h i hi]
  congr 1
  rw [Bool.eq_iff_iff, List.any_eq_true, List.any_eq_true]
  constructor
  · rintro ⟨w, hw', hx⟩
    obtain ⟨a, b, rfl, ha, _⟩ := hw w hw'
    have hx' : (decide ((b : Int) = (i : Int)) && X a) = true := hx
    rw [h a ha] at hx'
    exact ⟨_, hw', hx'⟩
  · rintro ⟨w, hw', hx⟩
    obtain ⟨a, b, rfl, ha, _⟩ := hw w hw'
    have hx' : (decide ((b : Int) = (i : Int)) && Y a) = true := hx
    rw [← h a ha] at hx'
    exact ⟨_, hw', hx'⟩
theorem count_le {X Y : Nat → Bool} : ∀ l : List Nat, (∀ i ∈ l, X i = true → Y i = true) → l.countP X ≤ l.countP Y
  | [], _ => Nat.le_refl _
  | i :: l, h => by
    have ih := count_le l fun j hj => h j (List.mem_cons_of_mem _ hj)
    have hi := h i List.mem_cons_self
    rw [List.countP_cons, List.countP_cons]
    cases hx : X i with
    | false => simp; omega
    | true => rw [hi hx]; simp; omega
theorem count_lt {X Y : Nat → Bool} {k : Nat} (hk : X k = false) (hy : Y k = true) : ∀ l : List Nat, k ∈ l → (∀ i ∈ l, X i = true → Y i = true) → l.countP X < l.countP Y
  | [], h, _ => by cases h
  | i :: l, hm, h => by
    rw [List.countP_cons, List.countP_cons]
    have tail := fun j hj => h j (List.mem_cons_of_mem _ hj)
    rcases List.mem_cons.mp hm with e | hm
    · subst e
      have := count_le l tail
      rw [hk, hy]
      simp
      omega
    · have ih := count_lt hk hy l hm tail
      have hi := h i List.mem_cons_self
      cases hx : X i with
      | false => simp; omega
      | true => rw [hi hx]; simp; omega
theorem stable_at {m : Nat} {web : List (List Int)} (hw : Pairs m web) (X : Nat → Nat → Bool) (hX : ∀ r i, i < m → X (r + 1) i = grow web (X r) i) : ∀ i, i < m → X (m + 1) i = X m i := by
  have up : ∀ r i, i < m → X r i = true → X (r + 1) i = true := fun r i hi h => by
    rw [hX r i hi]
    unfold grow
    rw [h]
    rfl
  have next : ∀ r, (∀ i, i < m → X (r + 1) i = X r i) → ∀ i, i < m → X (r + 1 + 1) i = X (r + 1) i := fun r h i hi => by
    rw [hX (r + 1) i hi, hX r i hi]
    exact grow_congr hw h i hi
  have key : ∀ r, (∀ i, i < m → X (r + 1) i = X r i) ∨ r < (List.range m).countP (X (r + 1)) := by
    intro r
    have strict : ∀ r, ¬ (∀ i, i < m → X (r + 1) i = X r i) → (List.range m).countP (X r) < (List.range m).countP (X (r + 1)) := fun r h => by
      obtain ⟨i, hi⟩ := Classical.not_forall.mp h
      obtain ⟨him, hne⟩ := Classical.not_imp.mp hi
      have h0 : X r i = false := by
        cases z : X r i with
        | false => rfl
        | true => exact absurd ((up r i him z).trans z.symm) hne
      have h1 : X (r + 1) i = true := by
        cases z : X (r + 1) i with
        | true => rfl
        | false => exact absurd (z.trans h0.symm) hne
      exact count_lt h0 h1 _ (List.mem_range.mpr him) fun j hj => up r j (List.mem_range.mp hj)
    induction r with
    | zero =>
      rcases Classical.em (∀ i, i < m → X (0 + 1) i = X 0 i) with c | c
      · exact .inl c
      · exact .inr (Nat.lt_of_le_of_lt (Nat.zero_le _) (strict 0 c))
    | succ r ih =>
      rcases Classical.em (∀ i, i < m → X (r + 1 + 1) i = X (r + 1) i) with c | c
      · exact .inl c
      · refine .inr ?_
        have s := strict (r + 1) c
        rcases ih with z | z
        · exact absurd (next r z) c
        · omega
  rcases key m with z | z
  · exact z
  · have := List.countP_le_length (p := X (m + 1)) (l := List.range m)
    rw [List.length_range] at this
    omega
theorem settled {n : Nat} {web lots : List (List Int)} (h : LotsOk n lots) (hw : Pairs lots.length web) : told web (rounds (told web) lots.length lots) = rounds (told web) lots.length lots := by
  rw [← rounds_succ (told web) lots.length lots]
  have ok1 := rounds_ok (web := web) (lots.length + 1) h
  have ok0 := rounds_ok (web := web) lots.length h
  have l1 := rounds_len web (lots.length + 1) lots
  have l0 := rounds_len web lots.length lots
  have mem : ∀ i, i < lots.length → ∀ p, p ∈ (rounds (told web) (lots.length + 1) lots).getD i [] ↔ p ∈ (rounds (told web) lots.length lots).getD i [] := fun i hi p => by
    have e := stable_at hw (fun r i => has p (rounds (told web) r lots) i) (fun r i hi => by
      show has p (rounds (told web) (r + 1) lots) i = _
      rw [rounds_succ]
      exact has_told (by rw [rounds_len]; exact hi)) i hi
    have e' : has p (rounds (told web) (lots.length + 1) lots) i = has p (rounds (told web) lots.length lots) i := e
    unfold has at e'
    exact decide_eq_decide.mp e'
  refine List.ext_getElem (l1.trans l0.symm) fun i h1 h2 => ?_
  have hi : i < lots.length := by rw [← l1]; exact h1
  have g1 : (rounds (told web) (lots.length + 1) lots).getD i [] = (rounds (told web) (lots.length + 1) lots)[i] := by rw [List.getD_eq_getElem?_getD, List.getElem?_eq_getElem h1]; rfl
  have g0 : (rounds (told web) lots.length lots).getD i [] = (rounds (told web) lots.length lots)[i] := by rw [List.getD_eq_getElem?_getD, List.getElem?_eq_getElem h2]; rfl
  have m := mem i hi
  rw [g1, g0] at m
  exact strict_unique (fun x => Int.lt_irrefl x) (fun _ _ _ => Int.lt_trans) (ok1 _ (List.getElem_mem h1)).up (ok0 _ (List.getElem_mem h2)).up m
theorem rounds_from {n : Nat} {web lots : List (List Int)} (h : LotsOk n lots) (hw : Pairs lots.length web) : ∀ d : Nat, rounds (told web) (lots.length + d) lots = rounds (told web) lots.length lots
  | 0 => rfl
  | d + 1 => by
    show rounds (told web) (lots.length + d + 1) lots = _
    rw [rounds_succ, rounds_from h hw d, settled h hw]
theorem rounds_eq {n : Nat} {web lots : List (List Int)} (h : LotsOk n lots) (hw : Pairs lots.length web) {a b : Nat} (e : a = b ∨ (lots.length ≤ a ∧ lots.length ≤ b)) : rounds (told web) a lots = rounds (told web) b lots := by
  rcases e with e | ⟨h1, h2⟩
  · rw [e]
  · have ea := rounds_from h hw (a - lots.length)
    have eb := rounds_from h hw (b - lots.length)
    rw [show lots.length + (a - lots.length) = a by omega] at ea
    rw [show lots.length + (b - lots.length) = b by omega] at eb
    rw [ea, eb]
end K47

namespace K47
open PySem L2 DL
/-! ### draws -/
def Few (S : Dk) : Prop := S.cells.length ≤ 63
theorem mul_l {i : Int} (h : -(2 ^ 64) < i ∧ i < 2 ^ 64) (j : Int) : oMul (.int i) (.int j) = some (.int (i * j)) := by
  show (if cMul i j = true then some (D.int (i * j)) else none) = _
  rw [if_pos]
  unfold cMul
  rw [decide_eq_true h, Bool.true_or]
theorem mul_r {j : Int} (h : -(2 ^ 64) < j ∧ j < 2 ^ 64) (i : Int) : oMul (.int i) (.int j) = some (.int (i * j)) := by
  show (if cMul i j = true then some (D.int (i * j)) else none) = _
  rw [if_pos]
  unfold cMul
  rw [decide_eq_true h, Bool.or_true]
theorem mod_p {j : Int} (h : 0 < j) (i : Int) : oMod (.int i) (.int j) = some (.int (i % j)) := by
  show (if decide (0 < j) = true then some (D.int (i % j)) else none) = _
  rw [if_pos (decide_eq_true h)]
theorem log_small {j : Nat} (h : j < 2 ^ 60) : j.log2 < 9000 := by
  rcases Nat.eq_zero_or_pos j with z | z
  · rw [z]; decide
  · have : j.log2 < 60 := (Nat.log2_lt (by omega)).mpr h
    omega
theorem div_p {j : Int} (h : 0 < j) (h2 : j < 2 ^ 60) (i : Int) : oDivW (.int i) (.int j) = some (.int (i / j)) := by
  show (if decide (0 < j ∧ j.natAbs.log2 < 9000) = true then some (D.int (i / j)) else none) = _
  rw [if_pos (decide_eq_true ⟨h, log_small (by omega)⟩)]
theorem add_i (i j : Int) : oAddX (.int i) (.int j) = some (.int (i + j)) := rfl
abbrev tail1 : FS := fAsg (fOp oMod (fCB bInt (fCons (fOp oAddX (fOp oMul (fV 2) (fC (.int 39373))) (fC (.int 153))) fNil)) (fC (.int 2147483647))) (tgN 2)
abbrev tail2 : FS := fAsg (fOp oMod (fCB bInt (fCons (fOp oAddX (fOp oAddX (fOp oMul (fV 2) (fV 2)) (fOp oMul (fC (.int 52713)) (fDraws 0))) (fC (.int 319))) fNil)) (fC (.int 2147483587))) (tgN 2)
abbrev tail3 : FS := fAsg (fOp oMod (fCB bInt (fCons (fOp oMul (fV 2) (fC (.int 40692))) fNil)) (fC (.int 2147483563))) (tgN 2)
abbrev tail4 : FS := fRet (fOp oMod (fCB bInt (fCons (fOp oDivW (fV 2) (fC (.int 64))) fNil)) (fV 1))
theorem tail_ok {many : Int} (hm : 0 < many) (x : Int) (s3 : Sl) (S : Dk) : ∃ y : Int, fSeq tail1 (fSeq tail2 (fSeq tail3 tail4)) [.dat .dck, .dat (.int many), .dat (.int x), s3] S = some (.rt (.int (y % many)) S) := by
  have lt2 : ∀ y : Int, -(2 ^ 64) < y % 2147483647 ∧ y % 2147483647 < 2 ^ 64 := fun y => by
    have := Int.emod_nonneg y (show (2147483647 : Int) ≠ 0 by decide)
    have := Int.emod_lt_of_pos y (show (0 : Int) < 2147483647 by decide)
    omega
  refine ⟨(((x * 39373 + 153) % 2147483647 * ((x * 39373 + 153) % 2147483647) + 52713 * S.draws + 319) % 2147483587 * 40692 % 2147483563) / 64, ?_⟩
  refine (seq_nx (e_asg (e_op (g := oMod) (e_cb (g := bInt) (e_one (e_op (g := oAddX) (e_op (g := oMul) (e_V rfl) e_C (mul_r (by decide) x)) e_C rfl)) rfl) e_C (mod_p (by decide) _)))).trans ?_
  refine (seq_nx (e_asg (e_op (g := oMod) (e_cb (g := bInt) (e_one (e_op (g := oAddX) (e_op (g := oAddX) (e_op (g := oMul) (e_V rfl) (e_V rfl) (mul_l (lt2 _) _)) (e_op (g := oMul) e_C (show fDraws 0 _ S = some (.int S.draws, S) from rfl) (mul_l (by decide) _)) rfl) e_C rfl)) rfl) e_C (mod_p (by decide) _)))).trans ?_
  refine (seq_nx (e_asg (e_op (g := oMod) (e_cb (g := bInt) (e_one (e_op (g := oMul) (e_V rfl) e_C (mul_r (by decide) _))) rfl) e_C (mod_p (by decide) _)))).trans ?_
  exact e_ret (e_op (g := oMod) (e_cb (g := bInt) (e_one (e_op (g := oDivW) (e_V rfl) e_C (div_p (by decide) (by decide) _))) rfl) (e_V rfl) (mod_p hm _))
theorem pow18 : oPow (.int 10) (.int 18) = some (.int 1000000000000000000) := by rfl
theorem draw_ok {many : Int} (hm : 0 < many) (hm2 : many ≤ 1000) {S : Dk} (hS : Few S) : ∃ (d : Int) (S' : Dk), d_law_draw [.dck, .int many] S = some (.int d, S') ∧ 0 ≤ d ∧ d < many ∧ Few S' := by
  have res : ∀ y : Int, 0 ≤ y % many ∧ y % many < many := fun y => ⟨Int.emod_nonneg y (by omega), Int.emod_lt_of_pos y hm⟩
  have mul1 : oMul (.int 61473) (.int (S.draws + 1)) = some (.int (61473 * (S.draws + 1))) := mul_l (by decide) _
  cases hc : S.cells.getLast? with
  | none =>
    have hnil : S.cells = [] := List.getLast?_eq_none_iff.mp hc
    obtain ⟨y, e⟩ := tail_ok hm (S.mixed + 61473 * (S.draws + 1)) .un { S with draws := S.draws + 1 }
    refine ⟨y % many, { S with draws := S.draws + 1 }, run_eq rfl ?_, (res y).1, (res y).2, hS⟩
    · refine (seq_nx (ρ' := [.dat .dck, .dat (.int many), .un, .un]) (S' := { S with draws := S.draws + 1 }) rfl).trans ?_
      refine (seq_nx (e_asg (e_op (g := oAddX) (show fMixed 0 _ { S with draws := S.draws + 1 } = some (.int S.mixed, { S with draws := S.draws + 1 }) from rfl) (e_op (g := oMul) e_C (show fDraws 0 _ { S with draws := S.draws + 1 } = some (.int (S.draws + 1), { S with draws := S.draws + 1 }) from rfl) mul1) rfl))).trans ?_
      have t : fSome 0 [.dat .dck, .dat (.int many), .dat (.int (S.mixed + 61473 * (S.draws + 1))), .un] { S with draws := S.draws + 1 } = some (false, { S with draws := S.draws + 1 }) := by
        show some (!S.cells.isEmpty, _) = _
        rw [hnil]
        rfl
      refine (seq_nx ((if_f t).trans rfl)).trans ?_
      exact e
  | some c =>
    have hne : S.cells.isEmpty = false := by
      cases hcs : S.cells with
      | nil => rw [hcs] at hc; cases hc
      | cons a l => rfl
    have hlen : S.cells.dropLast.length + 1 ≤ 63 := by
      have := hS
      unfold Few at this
      rw [List.length_dropLast]
      cases hcs : S.cells with
      | nil => rw [hcs] at hc; cases hc
      | cons a l => rw [hcs] at this; simp at this ⊢; omega
    have pop : fPop 0 [.dat .dck, .dat (.int many), .dat (.int (S.mixed + 61473 * (S.draws + 1))), .un] { S with draws := S.draws + 1 } = some (.int c, { S with draws := S.draws + 1, cells := S.cells.dropLast }) := by
      unfold fPop
      show (match S.cells.getLast? with
        | some n => some (D.int n, { S with draws := S.draws + 1, cells := S.cells.dropLast })
        | none => none) = _
      rw [hc]
    have t : fSome 0 [.dat .dck, .dat (.int many), .dat (.int (S.mixed + 61473 * (S.draws + 1))), .un] { S with draws := S.draws + 1 } = some (true, { S with draws := S.draws + 1 }) := by
      show some (!S.cells.isEmpty, _) = _
      rw [hne]
      rfl
    have head : ∀ out, (fSeq (fIfS (fSome 0) (fSeq (fAsg (fPop 0) (tgN 3)) (fSeq (fIfS (fB (fOp oGe (fV 3) (fOp oPow (fC (.int 10)) (fC (.int 18))))) (fSeq (fPush 0 (fOp oDivW (fV 3) (fCB bMax (fCons (fC (.int 2)) (fCons (fV 1) fNil))))) (fRet (fOp oMod (fCB bInt (fCons (fV 3) fNil)) (fV 1)))) fNext)
        (fAsg (fOp oAddX (fV 2) (fOp oMod (fCB bInt (fCons (fV 3) fNil)) (fC (.int 2147483629)))) (tgN 2)))) fNext) (fSeq tail1 (fSeq tail2 (fSeq tail3 tail4)))) [.dat .dck, .dat (.int many), .dat (.int (S.mixed + 61473 * (S.draws + 1))), .un] { S with draws := S.draws + 1 } = out →
        m_law_draw (startR 4 [.dck, .int many]) S = out := fun out h => by
      refine (seq_nx (ρ' := [.dat .dck, .dat (.int many), .un, .un]) (S' := { S with draws := S.draws + 1 }) rfl).trans ?_
      refine (seq_nx (e_asg (e_op (g := oAddX) (show fMixed 0 _ { S with draws := S.draws + 1 } = some (.int S.mixed, { S with draws := S.draws + 1 }) from rfl) (e_op (g := oMul) e_C (show fDraws 0 _ { S with draws := S.draws + 1 } = some (.int (S.draws + 1), { S with draws := S.draws + 1 }) from rfl) mul1) rfl))).trans ?_
      exact h
    have ge : ∀ b : Bool, decide ((1000000000000000000 : Int) ≤ c) = b → fB (fOp oGe (fV 3) (fOp oPow (fC (.int 10)) (fC (.int 18)))) [.dat .dck, .dat (.int many), .dat (.int (S.mixed + 61473 * (S.draws + 1))), .dat (.int c)] { S with draws := S.draws + 1, cells := S.cells.dropLast } = some (b, { S with draws := S.draws + 1, cells := S.cells.dropLast }) := fun b hb => by
      refine e_B (e_op (g := oGe) (e_V rfl) (e_op (g := oPow) e_C e_C pow18) ?_)
      show some (D.bl (decide ((1000000000000000000 : Int) ≤ c))) = _
      rw [hb]
    by_cases big : (1000000000000000000 : Int) ≤ c
    · have mx : ∃ q : Int, bMax [.int 2, .int many] = some (.int q) ∧ 0 < q ∧ q < 2 ^ 60 := by
        refine ⟨if many > 2 then many else 2, rfl, ?_, ?_⟩ <;> split <;> omega
      obtain ⟨q, mq, q1, q2⟩ := mx
      refine ⟨c % many, { S with draws := S.draws + 1, cells := S.cells.dropLast ++ [c / q] }, run_eq rfl (head _ ?_), (res c).1, (res c).2, by show (S.cells.dropLast ++ [c / q]).length ≤ 63; rw [List.length_append]; exact hlen⟩
      refine seq_rt ((if_t t).trans ?_)
      refine (seq_nx (e_asg pop)).trans ?_
      refine seq_rt ((if_t (ge true (decide_eq_true big))).trans ?_)
      have push : fPush 0 (fOp oDivW (fV 3) (fCB bMax (fCons (fC (.int 2)) (fCons (fV 1) fNil)))) [.dat .dck, .dat (.int many), .dat (.int (S.mixed + 61473 * (S.draws + 1))), .dat (.int c)] { S with draws := S.draws + 1, cells := S.cells.dropLast } = some (.nx [.dat .dck, .dat (.int many), .dat (.int (S.mixed + 61473 * (S.draws + 1))), .dat (.int c)] { S with draws := S.draws + 1, cells := S.cells.dropLast ++ [c / q] }) := by
        unfold fPush
        show bnd (fOp oDivW (fV 3) (fCB bMax (fCons (fC (.int 2)) (fCons (fV 1) fNil))) [.dat .dck, .dat (.int many), .dat (.int (S.mixed + 61473 * (S.draws + 1))), .dat (.int c)] { S with draws := S.draws + 1, cells := S.cells.dropLast }) _ = _
        rw [e_op (g := oDivW) (e_V rfl) (e_cb (e_cons e_C (e_one (e_V rfl))) mq) (div_p q1 q2 c)]
        show (if S.cells.dropLast.length < 100000 then _ else _) = _
        rw [if_pos (by omega)]
      refine (seq_nx push).trans ?_
      exact e_ret (e_op (g := oMod) (e_cb (g := bInt) (e_one (e_V rfl)) rfl) (e_V rfl) (mod_p hm c))
    · obtain ⟨y, e⟩ := tail_ok hm (S.mixed + 61473 * (S.draws + 1) + c % 2147483629) (.dat (.int c)) { S with draws := S.draws + 1, cells := S.cells.dropLast }
      refine ⟨y % many, { S with draws := S.draws + 1, cells := S.cells.dropLast }, run_eq rfl (head _ ?_), (res y).1, (res y).2, by show S.cells.dropLast.length ≤ 63; omega⟩
      · refine (seq_nx (ρ' := [.dat .dck, .dat (.int many), .dat (.int (S.mixed + 61473 * (S.draws + 1) + c % 2147483629)), .dat (.int c)]) ((if_t t).trans ?_)).trans e
        refine (seq_nx (e_asg pop)).trans ?_
        refine (seq_nx ((if_f (ge false (decide_eq_false big))).trans rfl)).trans ?_
        exact e_asg (e_op (g := oAddX) (e_V rfl) (e_op (g := oMod) (e_cb (g := bInt) (e_one (e_V rfl)) rfl) e_C (mod_p (by decide) c)) rfl)
theorem pick_ok {xs : List D} (h0 : xs ≠ []) (hl : xs.length ≤ 1000) {S : Dk} (hS : Few S) : ∃ x S', d_law_pick [.dck, .lst xs] S = some (x, S') ∧ x ∈ xs ∧ Few S' := by
  have pos : 0 < xs.length := List.length_pos_iff.mpr h0
  obtain ⟨d, S', e, d0, d1, hS'⟩ := draw_ok (many := (xs.length : Int)) (by omega) (by omega) hS
  obtain ⟨i, rfl⟩ : ∃ i : Nat, d = (i : Int) := ⟨d.toNat, by omega⟩
  have hi : i < xs.length := by omega
  refine ⟨xs[i], S', run_eq rfl (e_ret (e_op (g := oIx) (e_V rfl) (e_call (e_cons (e_V rfl) (e_one (e_cb (e_one (e_V rfl)) rfl))) e) ?_)), List.getElem_mem hi, hS'⟩
  exact L2.atI_nat (List.getElem?_eq_getElem hi)
end K47

namespace K47
open PySem L2 DL
/-! ### lots and webs that the law makes -/
def upI (l : List Nat) : List Int := l.map fun i : Nat => (i : Int)
theorem sub_range {n : Nat} {xs : List D} (h : xs.Sublist (rangeD 0 n)) : ∃ k, xs = (k : List Int).map D.int ∧ LotOk n k := by
  unfold rangeD at h
  obtain ⟨l, h1, h2⟩ := List.sublist_map_iff.mp h
  refine ⟨upI l, ?_, ?_, fun p hp => ?_⟩
  · rw [h2]
    unfold upI
    rw [List.map_map]
    refine List.map_congr_left fun i _ => ?_
    show D.int (0 + (i : Int)) = D.int (i : Int)
    rw [Int.zero_add]
  · unfold Up upI
    rw [List.pairwise_map]
    exact (List.Pairwise.sublist h1 List.pairwise_lt_range).imp fun h => by omega
  · obtain ⟨i, hi, rfl⟩ := List.mem_map.mp hp
    have := List.mem_range.mp (h1.subset hi)
    omega
theorem lot_run {shape : List D} {n : Nat} (hn : shape.length = n) (h4 : n ≤ 4) {S : Dk} (hS : Few S) : ∃ k S', d_law_lot [.dck, .tup shape] S = some (dT k, S') ∧ LotOk n k ∧ Few S' := by
  have len : bLen [.tup shape] = some (.int (n : Int)) := by rw [← hn]; rfl
  have it : fR1 (fCons (fCB bLen (fCons (fV 1) fNil)) fNil) (startR 3 [.dck, .tup shape]) S = some (rangeD 0 n, S) := by
    have r := e_R1 (ρ := startR 3 [.dck, .tup shape]) (S := S) (e_one (e_cb (e_one (e_V (i := 1) rfl)) len)) (by omega)
    rw [Int.toNat_natCast] at r
    exact r
  obtain ⟨xs, S', e, sub, hS'⟩ := lc_sub (ρ := startR 3 [.dck, .tup shape]) (vs := [2]) (tg := tgN 2) (ft := fB (fOp oLtX (fCall d_law_draw (fCons (fV 0) (fCons (fC (.int 5)) fNil))) (fC (.int 3)))) (fe := fV 2) Few (ds := rangeD 0 n) hS fun d hd S hS => by
    obtain ⟨x, S1, e, _, _, hS1⟩ := draw_ok (many := 5) (by decide) (by decide) hS
    exact ⟨[.dat .dck, .dat (.tup shape), .dat d], decide (x < 3), S1, rfl, e_B (e_op (g := oLtX) (e_call (e_cons (e_V rfl) (e_one e_C)) e) e_C rfl), e_V rfl, hS1⟩
  obtain ⟨k, rfl, hk⟩ := sub_range sub
  exact ⟨k, S', run_eq rfl (e_ret (e_cb (e_one (e_fz (e_lc it (by rw [rangeD_len]; omega) e))) rfl)), hk, hS'⟩
/-! webs -/
def pairsK (m : Nat) : List (List Int) := (List.range m).flatMap fun a => ((List.range m).filter fun b => a != b).map fun b : Nat => [(a : Int), (b : Int)]
theorem pairs_pr {m : Nat} {w : List Int} (h : w ∈ pairsK m) : ∃ a b : Nat, w = [(a : Int), (b : Int)] ∧ a < m ∧ b < m ∧ a ≠ b := by
  unfold pairsK at h
  obtain ⟨a, ha, h⟩ := List.mem_flatMap.mp h
  obtain ⟨b, hb, rfl⟩ := List.mem_map.mp h
  obtain ⟨hb1, hb2⟩ := List.mem_filter.mp hb
  exact ⟨a, b, rfl, List.mem_range.mp ha, List.mem_range.mp hb1, by simpa using hb2⟩
theorem pairs_up : ∀ m, m < 11 → (pairsK m).Pairwise (· < ·) := by decide +kernel
theorem pairs_few : ∀ m, m < 11 → (pairsK m).length ≤ 90 := by decide +kernel
abbrev ePairs : FE := fFz (fLc (fIA (fCall d_law_all (fCons (fTup (fCons (fV 1) (fCons (fV 1) fNil))) fNil))) (tgT 2 (tgsCons (tgN 3) (tgsCons (tgN 4) tgsNil))) (fB (fOp oNe (fV 3) (fV 4))) (fTup (fCons (fV 3) (fCons (fV 4) fNil))) [3, 4])
theorem eval_pairs (S : Dk) : ∀ m : Nat, m < 11 → ePairs (startR 7 [.dck, .int (m : Int)]) S = some (.lst ((pairsK m).map dT), S)
  | 0, _ => by kernel_rfl
  | 1, _ => by kernel_rfl
  | 2, _ => by kernel_rfl
  | 3, _ => by kernel_rfl
  | 4, _ => by kernel_rfl
  | 5, _ => by kernel_rfl
  | 6, _ => by kernel_rfl
  | 7, _ => by kernel_rfl
  | 8, _ => by kernel_rfl
  | 9, _ => by kernel_rfl
  | 10, _ => by kernel_rfl
  | m + 11, h => absurd h (by omega)
end K47

namespace K47
open PySem L2 DL
theorem web_run {m : Nat} (hm : m < 11) {S : Dk} (hS : Few S) : ∃ web S', d_law_web [.dck, .int (m : Int)] S = some (lotsD web, S') ∧ WebOk m web ∧ web.length ≤ 90 ∧ Few S' := by
  obtain ⟨d, S1, e1, _, _, hS1⟩ := draw_ok (many := 5) (by decide) (by decide) hS
  obtain ⟨xs, S2, e2, sub, hS2⟩ := lc_sub (ρ := [.dat .dck, .dat (.int (m : Int)), .dat (.lst ((pairsK m).map dT)), .un, .un, .dat (.int (d - 1)), .un]) (vs := [6]) (tg := tgN 6) (ft := fB (fOp oLe (fCall d_law_draw (fCons (fV 0) (fCons (fC (.int 4)) fNil))) (fV 5))) (fe := fV 6) Few (ds := (pairsK m).map dT) hS1 fun w hw S hS => by
    obtain ⟨x, S1, e, _, _, hS1⟩ := draw_ok (many := 4) (by decide) (by decide) hS
    exact ⟨[.dat .dck, .dat (.int (m : Int)), .dat (.lst ((pairsK m).map dT)), .un, .un, .dat (.int (d - 1)), .dat w], decide (x ≤ d - 1), S1, rfl, e_B (e_op (g := oLe) (e_call (e_cons (e_V rfl) (e_one e_C)) e) (e_V rfl) rfl), e_V rfl, hS1⟩
  obtain ⟨web, h1, rfl⟩ := List.sublist_map_iff.mp sub
  have len : web.length ≤ 90 := Nat.le_trans h1.length_le (pairs_few m hm)
  have lz : ((pairsK m).map dT).length ≤ 100000 := by
    have := pairs_few m hm
    rw [List.length_map]
    omega
  refine ⟨web, S2, run_eq rfl ?_, ⟨fun w hw => pairs_pr (h1.subset hw), List.Pairwise.sublist h1 (pairs_up m hm), by omega⟩, len, hS2⟩
  refine (seq_nx (e_asg (eval_pairs S m hm))).trans ?_
  refine (seq_nx (e_asg (e_op (g := oSub) (e_call (e_cons (e_V rfl) (e_one e_C)) e1) e_C rfl))).trans ?_
  exact e_ret (e_cb (e_one (e_fz (e_lc (e_IA (e_V rfl) rfl) lz e2))) rfl)
def chainK (m : Nat) : List (List Int) := (List.range (m - 1)).map fun a : Nat => [(a : Int), ((a + 1 : Nat) : Int)]
theorem chain_ok {m : Nat} (hm : m < 11) : WebOk m (chainK m) where
  pr := fun w hw => by
    obtain ⟨a, ha, rfl⟩ := List.mem_map.mp hw
    have := List.mem_range.mp ha
    exact ⟨a, a + 1, rfl, by omega, by omega, by omega⟩
  up := by
    unfold chainK
    rw [List.pairwise_map]
    refine List.pairwise_lt_range.imp fun {a b} h => ?_
    exact List.cons_lt_cons_iff.mpr (.inl (by omega))
  few := by
    unfold chainK
    rw [List.length_map, List.length_range]
    omega
theorem chain_run {m : Nat} (hm : m < 11) (ρ : List Sl) (S : Dk) (h5 : ρ[5]? = some (Sl.dat (.int (m : Int)))) (h8 : 8 < ρ.length) :
    fCB bTup (fCons (fFz (fLc (fR1 (fCons (fOp oSub (fV 5) (fC (.int 1))) fNil)) (tgN 8) fYes (fTup (fCons (fV 8) (fCons (fOp oAddX (fV 8) (fC (.int 1))) fNil))) [8])) fNil) ρ S = some (lotsD (chainK m), S) := by
  have it : fR1 (fCons (fOp oSub (fV 5) (fC (.int 1))) fNil) ρ S = some (rangeD 0 (m - 1), S) := by
    have r := e_R1 (ρ := ρ) (S := S) (e_one (e_op (g := oSub) (e_V h5) (e_C (d := .int 1)) rfl)) (j := (m : Int) - 1) (by omega)
    rw [show ((m : Int) - 1).toNat = m - 1 by omega] at r
    exact r
  have mp := lc_map (ρ := ρ) (S := S) (vs := [8]) (tg := tgN 8) (fe := fTup (fCons (fV 8) (fCons (fOp oAddX (fV 8) (fC (.int 1))) fNil))) (fun d => match d with
    | .int i => .tup [.int i, .int (i + 1)]
    | _ => .non) (ds := rangeD 0 (m - 1)) fun d hd => by
    obtain ⟨i, hi, rfl⟩ := List.mem_map.mp hd
    have at8 : ((wipeR ρ [8]).set 8 (Sl.dat (.int (0 + (i : Int)))))[8]? = some (Sl.dat (.int (0 + (i : Int)))) := by
      rw [List.getElem?_set_self]
      show 8 < (ρ.set 8 Sl.un).length
      rw [List.length_set]
      exact h8
    exact ⟨(wipeR ρ [8]).set 8 (.dat (.int (0 + (i : Int)))), rfl, e_tup (e_cons (e_V at8) (e_one (e_op (g := oAddX) (e_V at8) e_C rfl))) (by show 2 ≤ 100000; omega)⟩
  have eq : (rangeD 0 (m - 1)).map (fun d => match d with
    | .int i => .tup [.int i, .int (i + 1)]
    | _ => .non) = (chainK m).map dT := by
    unfold rangeD chainK
    rw [List.map_map, List.map_map]
    refine List.map_congr_left fun i _ => ?_
    show D.tup [.int (0 + (i : Int)), .int (0 + (i : Int) + 1)] = D.tup [.int (i : Int), .int ((i + 1 : Nat) : Int)]
    rw [Int.zero_add]
    rfl
  rw [eq] at mp
  exact e_cb (e_one (e_fz (e_lc it (by rw [rangeD_len]; omega) mp))) rfl
theorem lots_of {n : Nat} : ∀ {xs : List D}, (∀ x ∈ xs, ∃ k, x = dT k ∧ LotOk n k) → ∃ lots, xs = lots.map dT ∧ LotsOk n lots
  | [], _ => ⟨[], rfl, fun _ z => by cases z⟩
  | x :: xs, h => by
    obtain ⟨k, rfl, hk⟩ := h x List.mem_cons_self
    obtain ⟨lots, rfl, hl⟩ := lots_of (xs := xs) fun y hy => h y (List.mem_cons_of_mem _ hy)
    exact ⟨k :: lots, rfl, fun z hz => by
      rcases List.mem_cons.mp hz with e | e
      · rw [e]; exact hk
      · exact hl z e⟩
theorem some_lots_run {shape : List D} {n : Nat} (hn : shape.length = n) (h1 : 1 ≤ n) (h4 : n ≤ 4) {S : Dk} (hS : Few S) : ∃ lots S', d_law_some_lots [.dck, .tup shape] S = some (lotsD lots, S') ∧ LotsOk n lots ∧ lots.length < 11 ∧ Few S' := by
  obtain ⟨x1, S1, e1, a1, b1, hS1⟩ := draw_ok (many := 8) (by decide) (by decide) hS
  obtain ⟨x2, S2, e2, a2, b2, hS2⟩ := draw_ok (many := 8) (by decide) (by decide) hS1
  obtain ⟨x3, S3, e3, m3, hS3⟩ := pick_ok (xs := [.int 10, .int x1, .int x2]) (by simp) (by simp) hS2
  obtain ⟨c, hc, c0, c1⟩ : ∃ c : Int, x3 = .int c ∧ 0 ≤ c ∧ c < 11 := by
    rcases List.mem_cons.mp m3 with z | z
    · exact ⟨10, z, by decide, by decide⟩
    · rcases List.mem_cons.mp z with z | z
      · exact ⟨x1, z, a1, by omega⟩
      · exact ⟨x2, List.mem_singleton.mp z, a2, by omega⟩
  subst hc
  have it : fR1 (fCons (fCall d_law_pick (fCons (fV 0) (fCons (fFz (fLst (fCons (fC (.int 10)) (fCons (fCall d_law_draw (fCons (fV 0) (fCons (fC (.int 8)) fNil))) (fCons (fCall d_law_draw (fCons (fV 0) (fCons (fC (.int 8)) fNil))) fNil))))) fNil))) fNil) (startR 5 [.dck, .tup shape]) S = some (rangeD 0 c.toNat, S3) :=
    e_R1 (e_one (e_call (e_cons (e_V rfl) (e_one (e_fz (e_lst (e_cons e_C (e_cons (e_call (e_cons (e_V rfl) (e_one e_C)) e1) (e_one (e_call (e_cons (e_V rfl) (e_one e_C)) e2)))) (by show 3 ≤ 100000; omega))))) e3)) (by omega)
  obtain ⟨xs, S4, e4, l4, p4, hS4⟩ := lc_all (ρ := startR 5 [.dck, .tup shape]) (vs := [3]) (tg := tgN 3) (fe := fCall d_law_lot (fCons (fV 0) (fCons (fV 1) fNil))) Few (fun x => ∃ k, x = dT k ∧ LotOk n k) (ds := rangeD 0 c.toNat) hS3 fun d hd S hS => by
    obtain ⟨k, S', e, hk, hS'⟩ := lot_run hn h4 hS
    exact ⟨[.dat .dck, .dat (.tup shape), .un, .dat d, .un], dT k, S', rfl, e_call (e_cons (e_V rfl) (e_one (e_V rfl))) e, ⟨k, rfl, hk⟩, hS'⟩
  rw [rangeD_len] at l4
  have len : bLen [.tup shape] = some (.int (n : Int)) := by rw [← hn]; rfl
  have lk0 : LotOk n [] := ⟨List.Pairwise.nil, fun _ z => by cases z⟩
  have lk1 : ∀ p : Int, 0 ≤ p → p ≤ (n : Int) - 1 → LotOk n [p] := fun p h h' => ⟨List.pairwise_singleton _ _, fun q hq => by rw [List.mem_singleton.mp hq]; exact ⟨h, h'⟩⟩
  obtain ⟨ys, S5, e5, l5, p5, hS5⟩ := lc_all (ρ := [.dat .dck, .dat (.tup shape), .dat (.lst xs), .un, .un]) (vs := [4]) (tg := tgN 4)
    (fe := fIf (fB (fOp oGt (fCall d_law_draw (fCons (fV 0) (fCons (fC (.int 3)) fNil))) (fC (.int 0)))) (fV 4) (fCall d_law_pick (fCons (fV 0) (fCons (fFz (fLst (fCons (fTup fNil) (fCons (fTup (fCons (fC (.int 0)) fNil)) (fCons (fTup (fCons (fOp oSub (fCB bLen (fCons (fV 1) fNil)) (fC (.int 1))) fNil)) fNil))))) fNil))))
    Few (fun x => ∃ k, x = dT k ∧ LotOk n k) (ds := xs) hS4 fun d hd S hS => by
    obtain ⟨x, S6, e6, _, _, hS6⟩ := draw_ok (many := 3) (by decide) (by decide) hS
    have t := e_B (e_op (g := oGt) (ρ := [.dat .dck, .dat (.tup shape), .dat (.lst xs), .un, .dat d]) (e_call (e_cons (e_V (i := 0) rfl) (e_one (e_C (d := .int 3)))) e6) (e_C (d := .int 0)) rfl)
    by_cases c : (0 : Int) < x
    · rw [decide_eq_true c] at t
      exact ⟨[.dat .dck, .dat (.tup shape), .dat (.lst xs), .un, .dat d], d, S6, rfl, e_ifT t (e_V rfl), p4 d hd, hS6⟩
    · rw [decide_eq_false c] at t
      obtain ⟨y, S7, e7, m7, hS7⟩ := pick_ok (xs := [.tup [], .tup [.int 0], .tup [.int ((n : Int) - 1)]]) (by simp) (by simp) hS6
      refine ⟨[.dat .dck, .dat (.tup shape), .dat (.lst xs), .un, .dat d], y, S7, rfl, e_ifF t (e_call (e_cons (e_V rfl) (e_one (e_fz (e_lst (e_cons (e_tup e_nil (by decide)) (e_cons (e_tup (e_one e_C) (by show 1 ≤ 100000; omega)) (e_one (e_tup (e_one (e_op (g := oSub) (e_cb (e_one (e_V rfl)) len) e_C rfl)) (by show 1 ≤ 100000; omega))))) (by show 3 ≤ 100000; omega))))) e7), ?_, hS7⟩
      rcases List.mem_cons.mp m7 with z | z
      · exact ⟨[], z, lk0⟩
      · rcases List.mem_cons.mp z with z | z
        · exact ⟨[0], z, lk1 0 (by omega) (by omega)⟩
        · exact ⟨[(n : Int) - 1], List.mem_singleton.mp z, lk1 _ (by omega) (by omega)⟩
  obtain ⟨lots, rfl, hlots⟩ := lots_of p5
  refine ⟨lots, S5, run_eq rfl ?_, hlots, ?_, hS5⟩
  · refine (seq_nx (e_asg (e_fz (e_lc it (by rw [rangeD_len]; omega) e4)))).trans ?_
    exact e_ret (e_cb (e_one (e_fz (e_lc (e_IA (e_V rfl) rfl) (by omega) e5))) rfl)
  · rw [List.length_map] at l5
    omega
end K47

namespace K47
open PySem L2 DL
/-! ### the law over data -/
theorem shw_lots {n : Nat} {lots : List (List Int)} (h : LotsOk n lots) (h4 : n ≤ 4) (hl : lots.length ≤ 10) : Shw 50 2 (lotsD lots) := by
  have each : ∀ d ∈ lots.map dT, Shw 4 1 d := fun d hd => by
    obtain ⟨k, hk, rfl⟩ := List.mem_map.mp hd
    have lk := h k hk
    have z : ∀ e ∈ k.map D.int, Shw 0 0 e := fun e he => by
      obtain ⟨p, hp, rfl⟩ := List.mem_map.mp he
      have := lk.bd p hp
      exact shw_int (by omega)
    refine (shw_tup z).mono ?_ (Nat.le_refl _)
    have := up_len lk
    rw [List.length_map]
    omega
  refine (shw_tup each).mono ?_ (Nat.le_refl _)
  rw [List.length_map]
  omega
theorem repr_lots {n : Nat} {lots : List (List Int)} (h : LotsOk n lots) (h4 : n ≤ 4) (hl : lots.length ≤ 10) : ∃ s, bRepr [lotsD lots] = some (.str s) := repr_ok (shw_lots h h4 hl) (by decide) (by decide)
theorem repr_two {n : Nat} {lots : List (List Int)} (h : LotsOk n lots) (h4 : n ≤ 4) (hl : lots.length ≤ 10) : ∃ s, bRepr [.tup [lotsD lots, lotsD lots]] = some (.str s) := by
  have z : ∀ d ∈ [lotsD lots, lotsD lots], Shw 50 2 d := fun d hd => by
    rcases List.mem_cons.mp hd with e | e
    · rw [e]; exact shw_lots h h4 hl
    · rw [List.mem_singleton.mp e]; exact shw_lots h h4 hl
  exact repr_ok (shw_tup z) (by show 2 * 51 ≤ 60000; decide) (by decide)
theorem ne_self (s : Str) : oNe (.str s) (.str s) = some (.bl false) := by
  show some (D.bl (!decide (s = s))) = _
  rw [decide_eq_true rfl]
  rfl
theorem e_kw {F : List D → Dk → Option (D × Dk)} {g : List D → List D} {f : FA} {ρ : List Sl} {S S1 : Dk} {ds : List D} {x : Option (D × Dk)} (h : f ρ S = some (ds, S1)) (h2 : F (g ds) S1 = x) : fCallKw F g f ρ S = x := by
  unfold fCallKw
  rw [h]
  exact h2
theorem e_par {i j : Nat} {f : FA} {ρ : List Sl} {S S1 : Dk} {x y : D} (h : f ρ S = some ([x, y], S1)) : fPar i j f ρ S = some (.nx ((ρ.set i (.dat x)).set j (.dat y)) S1) := by
  unfold fPar
  rw [h]
  rfl
theorem more_ok {m : Nat} {w1 w2 : List (List Int)} (h1 : WebOk m w1) (h2 : WebOk m w2) (l : w1.length + w2.length ≤ 240) : WebOk m (sortST (w1 ++ w2)) where
  pr := fun w hw => by
    rcases List.mem_append.mp (sortST_mem.mp hw) with z | z
    · exact h1.pr w z
    · exact h2.pr w z
  up := sortST_lt _
  few := by
    unfold sortST
    rw [List.length_mergeSort]
    have := nodup_le (once_nodup (w1 ++ w2)) (m := w1 ++ w2) fun x hx => mem_once.mp hx
    rw [List.length_append] at this
    omega
theorem more_run {m : Nat} {w1 w2 : List (List Int)} (h1 : WebOk m w1) (h2 : WebOk m w2) (l : w1.length + w2.length ≤ 240) {fa : FE} {ρ : List Sl} {S S1 S2 : Dk} {fb : FE} (ea : fa ρ S = some (lotsD w1, S1)) (eb : fb ρ S1 = some (lotsD w2, S2)) :
    fCB bTup (fCons (fFz (fSortSetT (fOp oAddX fa fb))) fNil) ρ S = some (lotsD (sortST (w1 ++ w2)), S2) := by
  have add : oAddX (lotsD w1) (lotsD w2) = some (lotsD (w1 ++ w2)) := by
    show (if (w1.map dT).length + (w2.map dT).length ≤ 100000 then some (D.tup (w1.map dT ++ w2.map dT)) else none) = _
    rw [if_pos (by rw [List.length_map, List.length_map]; omega), ← List.map_append]
  have e : fSortSetT (fOp oAddX fa fb) ρ S = some (.lst ((sortST (w1 ++ w2)).map dT), S2) := by
    unfold fSortSetT
    rw [e_op ea eb add]
    show obd (tups? ((w1 ++ w2).map dT)) _ = _
    rw [tups?_map]
    show (if _ then _ else _) = _
    rw [if_pos]
    rw [Bool.and_eq_true, decide_eq_true_eq, List.all_eq_true]
    refine ⟨by rw [List.length_append]; omega, fun w hw => ?_⟩
    rcases List.mem_append.mp hw with z | z
    · obtain ⟨a, b, rfl, _⟩ := h1.pr w z; rfl
    · obtain ⟨a, b, rfl, _⟩ := h2.pr w z; rfl
  exact e_cb (e_one (e_fz e)) rfl
abbrev shapes : List D := [.tup [.int 2, .int 2], .tup [.int 2, .int 2, .int 2], .tup [.int 1, .int 3, .int 1, .int 2], .tup [.int 2, .int 2, .int 2, .int 2], .tup [.int 4, .int 1, .int 2, .int 3], .tup [.int 3]]
theorem need1 (S : Dk) : d_need_shape [.tup [.int 2, .int 2]] S = some (.non, S) := by kernel_rfl
theorem need2 (S : Dk) : d_need_shape [.tup [.int 2, .int 2, .int 2]] S = some (.non, S) := by kernel_rfl
theorem need3 (S : Dk) : d_need_shape [.tup [.int 1, .int 3, .int 1, .int 2]] S = some (.non, S) := by kernel_rfl
theorem need4 (S : Dk) : d_need_shape [.tup [.int 2, .int 2, .int 2, .int 2]] S = some (.non, S) := by kernel_rfl
theorem need5 (S : Dk) : d_need_shape [.tup [.int 4, .int 1, .int 2, .int 3]] S = some (.non, S) := by kernel_rfl
theorem need6 (S : Dk) : d_need_shape [.tup [.int 3]] S = some (.non, S) := by kernel_rfl
theorem shape_of {x : D} (h : x ∈ shapes) : ∃ shape n, x = .tup shape ∧ ShapeOk shape n ∧ 1 ≤ n := by
  simp only [shapes, List.mem_cons, List.not_mem_nil, or_false] at h
  rcases h with h | h | h | h | h | h
  · exact ⟨_, 2, h, ⟨rfl, by decide, need1⟩, by decide⟩
  · exact ⟨_, 3, h, ⟨rfl, by decide, need2⟩, by decide⟩
  · exact ⟨_, 4, h, ⟨rfl, by decide, need3⟩, by decide⟩
  · exact ⟨_, 4, h, ⟨rfl, by decide, need4⟩, by decide⟩
  · exact ⟨_, 4, h, ⟨rfl, by decide, need5⟩, by decide⟩
  · exact ⟨_, 1, h, ⟨rfl, by decide, need6⟩, by decide⟩
theorem pow29 : oPow (.int 10) (.int 29) = some (.int 100000000000000000000000000000) := by rfl
def bTurn : FS :=
    (fSeq (fAsg (fCall d_law_pick (fCons (fV 1) (fCons (fFz (fLst (fCons (fTup (fCons (fC (.int 2)) (fCons (fC (.int 2)) fNil))) (fCons (fTup (fCons (fC (.int 2)) (fCons (fC (.int 2)) (fCons (fC (.int 2)) fNil)))) (fCons (fTup (fCons (fC (.int 1)) (fCons (fC (.int 3)) (fCons (fC (.int 1)) (fCons (fC (.int 2)) fNil))))) (fCons (fTup (fCons (fC (.int 2)) (fCons (fC (.int 2)) (fCons (fC (.int 2)) (fCons (fC (.int 2)) fNil))))) (fCons (fTup (fCons (fC (.int 4)) (fCons (fC (.int 1)) (fCons (fC (.int 2)) (fCons (fC (.int 3)) fNil))))) (fCons (fTup (fCons (fC (.int 3)) fNil)) fNil)))))))) fNil))) (tgN 3))
    (fSeq (fAsg (fCall d_law_some_lots (fCons (fV 1) (fCons (fV 3) fNil))) (tgN 4))
    (fSeq (fAsg (fCB bLen (fCons (fV 4) fNil)) (tgN 5))
    (fSeq (fPar 6 7 (fCons (fCall d_law_web (fCons (fV 1) (fCons (fV 5) fNil))) (fCons (fCall d_law_draw (fCons (fV 1) (fCons (fC (.int 4)) fNil))) fNil)))
    (fSeq (fIfS (fB (fOp oEq (fCall d_law_draw (fCons (fV 1) (fCons (fC (.int 4)) fNil))) (fC (.int 0)))) (fAsg (fCB bTup (fCons (fFz (fLc (fR1 (fCons (fOp oSub (fV 5) (fC (.int 1))) fNil)) (tgN 8) fYes (fTup (fCons (fV 8) (fCons (fOp oAddX (fV 8) (fC (.int 1))) fNil))) [8])) fNil)) (tgN 6)) fNext)
    (fSeq (fAsg (fCall d_law_pick (fCons (fV 1) (fCons (fFz (fLst (fCons (fC (.int 0)) (fCons (fC (.int 1)) (fCons (fC (.int 2)) (fCons (fC (.int 3)) (fCons (fCall d_law_draw (fCons (fV 1) (fCons (fC (.int 8)) fNil))) (fCons (fV 5) (fCons (fOp oAddX (fV 5) (fC (.int 1))) (fCons (fOp oPow (fC (.int 10)) (fC (.int 29))) fNil)))))))))) fNil))) (tgN 9))
    (fSeq (fAsg (fCall d_law_after (fCons (fV 4) (fCons (fV 6) (fCons (fV 9) fNil)))) (tgN 10))
    (fSeq (fIfS (fB (fOp oNe (fCB bRepr (fCons (fTup (fCons (fCall d_sights_after (fCons (fV 3) (fCons (fV 4) (fCons (fV 6) (fCons (fV 9) fNil))))) (fCons (fCallKw d_sights_after List.reverse (fCons (fV 9) (fCons (fV 6) (fCons (fV 4) (fCons (fV 3) fNil))))) fNil))) fNil)) (fCB bRepr (fCons (fTup (fCons (fV 10) (fCons (fV 10) fNil))) fNil)))) (fRet (fC (.bl false))) fNext)
    (fSeq (fIfS (fB (fOp oNe (fCB bRepr (fCons (fCall d_sights_after (fCons (fV 3) (fCons (fCall d_sights_after (fCons (fV 3) (fCons (fV 4) (fCons (fV 6) (fCons (fV 7) fNil))))) (fCons (fV 6) (fCons (fV 9) fNil))))) fNil)) (fCB bRepr (fCons (fCall d_law_after (fCons (fV 4) (fCons (fV 6) (fCons (fOp oAddX (fV 7) (fV 9)) fNil)))) fNil)))) (fRet (fC (.bl false))) fNext)
    (fSeq (fIfS (fB (fOp oNe (fCB bRepr (fCons (fCall d_sights_after (fCons (fV 3) (fCons (fV 4) (fCons (fV 6) (fCons (fV 5) fNil))))) fNil)) (fCB bRepr (fCons (fCall d_sights_after (fCons (fV 3) (fCons (fV 4) (fCons (fV 6) (fCons (fOp oAddX (fOp oAddX (fV 5) (fC (.int 1))) (fCall d_law_draw (fCons (fV 1) (fCons (fC (.int 5)) fNil)))) fNil))))) fNil)))) (fRet (fC (.bl false))) fNext)
    (fSeq (fAsg (fCB bTup (fCons (fFz (fSortSetT (fOp oAddX (fV 6) (fCall d_law_web (fCons (fV 1) (fCons (fV 5) fNil)))))) fNil)) (tgN 11))
    (fIfS (fB (fOp oNe (fCB bRepr (fCons (fCall d_sights_after (fCons (fV 3) (fCons (fV 4) (fCons (fV 11) (fCons (fV 9) fNil))))) fNil)) (fCB bRepr (fCons (fCall d_law_after (fCons (fV 4) (fCons (fV 11) (fCons (fV 9) fNil)))) fNil)))) (fRet (fC (.bl false))) fNext))))))))))))
theorem turn_ok {d : D} {s2 s3 s4 s5 s6 s7 s8 s9 s10 s11 : Sl} {S : Dk} (hS : Few S) : ∃ s3' s4' s5' s6' s7' s8' s9' s10' s11' S', bTurn [.un, .dat .dck, .dat d, s3, s4, s5, s6, s7, s8, s9, s10, s11] S = some (.nx [.un, .dat .dck, .dat d, s3', s4', s5', s6', s7', s8', s9', s10', s11'] S') ∧ Few S' := by
  obtain ⟨sx, S1, e1, m1, hS1⟩ := pick_ok (xs := shapes) (by simp [shapes]) (by show 6 ≤ 1000; omega) hS
  obtain ⟨shape, n, rfl, sh, n1⟩ := shape_of m1
  have n4 := sh.le
  obtain ⟨lots, S2, e2, hl, ll, hS2⟩ := some_lots_run sh.len n1 n4 hS1
  obtain ⟨web1, S3, e3, hw1, lw1, hS3⟩ := web_run ll hS2
  obtain ⟨j, S4, e4, j0, j1, hS4⟩ := draw_ok (many := 4) (by decide) (by decide) hS3
  obtain ⟨q, S5, e5, _, _, hS5⟩ := draw_ok (many := 4) (by decide) (by decide) hS4
  have lenL : bLen [lotsD lots] = some (.int (lots.length : Int)) := by
    show some (D.int ((lots.map dT).length : Int)) = _
    rw [List.length_map]
  -- the web, or a chain
  obtain ⟨web, hw, lw, e6⟩ : ∃ web, WebOk lots.length web ∧ web.length ≤ 90 ∧ ∀ s8 s9 s10 s11 : Sl, (fIfS (fB (fOp oEq (fCall d_law_draw (fCons (fV 1) (fCons (fC (.int 4)) fNil))) (fC (.int 0)))) (fAsg (fCB bTup (fCons (fFz (fLc (fR1 (fCons (fOp oSub (fV 5) (fC (.int 1))) fNil)) (tgN 8) fYes (fTup (fCons (fV 8) (fCons (fOp oAddX (fV 8) (fC (.int 1))) fNil))) [8])) fNil)) (tgN 6)) fNext)
      [.un, .dat .dck, .dat d, .dat (.tup shape), .dat (lotsD lots), .dat (.int (lots.length : Int)), .dat (lotsD web1), .dat (.int j), s8, s9, s10, s11] S4 = some (.nx [.un, .dat .dck, .dat d, .dat (.tup shape), .dat (lotsD lots), .dat (.int (lots.length : Int)), .dat (lotsD web), .dat (.int j), s8, s9, s10, s11] S5) := by
    by_cases c : q = 0
    · refine ⟨chainK lots.length, chain_ok ll, ?_, fun s8 s9 s10 s11 => ?_⟩
      · unfold chainK
        rw [List.length_map, List.length_range]
        omega
      · have t := e_B (e_op (g := oEq) (ρ := [.un, .dat .dck, .dat d, .dat (.tup shape), .dat (lotsD lots), .dat (.int (lots.length : Int)), .dat (lotsD web1), .dat (.int j), s8, s9, s10, s11]) (e_call (e_cons (e_V (i := 1) rfl) (e_one (e_C (d := .int 4)))) e5) (e_C (d := .int 0)) (eq_int q 0))
        rw [decide_eq_true c] at t
        exact (if_t t).trans (e_asg (chain_run ll _ _ rfl (by show 8 < 12; decide)))
    · refine ⟨web1, hw1, lw1, fun s8 s9 s10 s11 => ?_⟩
      have t := e_B (e_op (g := oEq) (ρ := [.un, .dat .dck, .dat d, .dat (.tup shape), .dat (lotsD lots), .dat (.int (lots.length : Int)), .dat (lotsD web1), .dat (.int j), s8, s9, s10, s11]) (e_call (e_cons (e_V (i := 1) rfl) (e_one (e_C (d := .int 4)))) e5) (e_C (d := .int 0)) (eq_int q 0))
      rw [decide_eq_false c] at t
      exact (if_f t).trans rfl
  obtain ⟨y, S6, e7, y0, y1, hS6⟩ := draw_ok (many := 8) (by decide) (by decide) hS5
  obtain ⟨kx, S7, e8, m8, hS7⟩ := pick_ok (xs := [.int 0, .int 1, .int 2, .int 3, .int y, .int (lots.length : Int), .int ((lots.length : Int) + 1), .int 100000000000000000000000000000]) (by simp) (by show 8 ≤ 1000; omega) hS6
  obtain ⟨k, rfl, k0⟩ : ∃ k : Int, kx = .int k ∧ 0 ≤ k := by
    simp only [List.mem_cons, List.not_mem_nil, or_false] at m8
    rcases m8 with h | h | h | h | h | h | h | h
    · exact ⟨_, h, by decide⟩
    · exact ⟨_, h, by decide⟩
    · exact ⟨_, h, by decide⟩
    · exact ⟨_, h, by decide⟩
    · exact ⟨_, h, y0⟩
    · exact ⟨_, h, by omega⟩
    · exact ⟨_, h, by omega⟩
    · exact ⟨_, h, by decide⟩
  obtain ⟨x5, S8, e9, x0, x1, hS8⟩ := draw_ok (many := 5) (by decide) (by decide) hS7
  obtain ⟨web2, S9, e10, hw2, lw2, hS9⟩ := web_run ll hS8
  have okr : ∀ (w : List (List Int)) r, LotsOk n (rounds (told w) r lots) := fun w r => rounds_ok r hl
  have lenr : ∀ (w : List (List Int)) r, (rounds (told w) r lots).length = lots.length := fun w r => rounds_len w r lots
  -- what either tells
  have sight : ∀ (w : List (List Int)), WebOk lots.length w → ∀ (k : Int), 0 ≤ k → ∀ S, d_sights_after [.tup shape, lotsD lots, lotsD w, .int k] S = some (lotsD (rounds (told w) (min k.toNat lots.length) lots), S) := fun w hw k k0 S => sights_ok sh hl hw (by omega) k0 S
  have after : ∀ (w : List (List Int)), WebOk lots.length w → ∀ (k : Int), 0 ≤ k → ∀ S, d_law_after [lotsD lots, lotsD w, .int k] S = some (lotsD (rounds (told w) (min k.toNat lots.length) lots), S) := fun w hw k k0 S => by
    rw [after_ok hl n4 hw.pr hw.few (by omega) k0 S, rounds_eq hl hw.pr (a := min k.toNat (lots.length + 1)) (b := min k.toNat lots.length) (by omega)]
  have more := more_ok hw hw2 (by omega)
  obtain ⟨r1, er1⟩ := repr_two (okr web (min k.toNat lots.length)) n4 (by rw [lenr]; omega)
  obtain ⟨r2, er2⟩ := repr_lots (okr web (min (j + k).toNat lots.length)) n4 (by rw [lenr]; omega)
  obtain ⟨r3, er3⟩ := repr_lots (okr web lots.length) n4 (by rw [lenr]; omega)
  obtain ⟨r4, er4⟩ := repr_lots (okr (sortST (web ++ web2)) (min k.toNat lots.length)) n4 (by rw [lenr]; omega)
  have twice : ∀ S, d_sights_after [.tup shape, lotsD (rounds (told web) (min j.toNat lots.length) lots), lotsD web, .int k] S = some (lotsD (rounds (told web) (min (j + k).toNat lots.length) lots), S) := fun S => by
    rw [sights_ok sh (okr web _) (by rw [lenr]; exact hw) (by rw [lenr]; omega) k0 S, lenr, ← rounds_add, rounds_eq hl hw.pr (a := min k.toNat lots.length + min j.toNat lots.length) (b := min (j + k).toNat lots.length) (by omega)]
  have all3 : ∀ (v : Int), (lots.length : Int) ≤ v → ∀ S, d_sights_after [.tup shape, lotsD lots, lotsD web, .int v] S = some (lotsD (rounds (told web) lots.length lots), S) := fun v hv S => by
    rw [sight web hw v (by omega) S, show min v.toNat lots.length = lots.length by omega]
  refine ⟨.dat (.tup shape), .dat (lotsD lots), .dat (.int (lots.length : Int)), .dat (lotsD web), .dat (.int j), s8, .dat (.int k), .dat (lotsD (rounds (told web) (min k.toNat lots.length) lots)), .dat (lotsD (sortST (web ++ web2))), S9, ?_, hS9⟩
  refine (seq_nx (e_asg (e_call (e_cons (e_V (i := 1) rfl) (e_one (e_fz (e_lst (ds := shapes) rfl (by show 6 ≤ 100000; omega))))) e1))).trans ?_
  refine (seq_nx (e_asg (e_call (e_cons (e_V (i := 1) rfl) (e_one (e_V (i := 3) rfl))) e2))).trans ?_
  refine (seq_nx (e_asg (e_cb (e_one (e_V (i := 4) rfl)) lenL))).trans ?_
  refine (seq_nx (e_par (e_cons (e_call (e_cons (e_V (i := 1) rfl) (e_one (e_V (i := 5) rfl))) e3) (e_one (e_call (e_cons (e_V (i := 1) rfl) (e_one e_C)) e4))))).trans ?_
  refine (seq_nx (e6 s8 s9 s10 s11)).trans ?_
  refine (seq_nx (e_asg (e_call (e_cons (e_V (i := 1) rfl) (e_one (e_fz (e_lst (e_cons e_C (e_cons e_C (e_cons e_C (e_cons e_C (e_cons (e_call (e_cons (e_V (i := 1) rfl) (e_one e_C)) e7) (e_cons (e_V (i := 5) rfl) (e_cons (e_op (g := oAddX) (e_V (i := 5) rfl) (e_C (d := .int 1)) rfl) (e_one (e_op (g := oPow) e_C e_C pow29))))))))) (by show 8 ≤ 100000; omega))))) e8))).trans ?_
  refine (seq_nx (e_asg (e_call (e_cons (e_V (i := 4) rfl) (e_cons (e_V (i := 6) rfl) (e_one (e_V (i := 9) rfl)))) (after web hw k k0 S7)))).trans ?_
  refine (seq_nx ((if_f (e_B (e_op (g := oNe) (e_cb (e_one (e_tup (e_cons (e_call (e_cons (e_V (i := 3) rfl) (e_cons (e_V (i := 4) rfl) (e_cons (e_V (i := 6) rfl) (e_one (e_V (i := 9) rfl))))) (sight web hw k k0 S7)) (e_one (e_kw (e_cons (e_V (i := 9) rfl) (e_cons (e_V (i := 6) rfl) (e_cons (e_V (i := 4) rfl) (e_one (e_V (i := 3) rfl))))) (sight web hw k k0 S7)))) (by show 2 ≤ 100000; omega))) er1) (e_cb (e_one (e_tup (e_cons (e_V (i := 10) rfl) (e_one (e_V (i := 10) rfl))) (by show 2 ≤ 100000; omega))) er1) (ne_self r1)))).trans rfl)).trans ?_
  refine (seq_nx ((if_f (e_B (e_op (g := oNe) (e_cb (e_one (e_call (e_cons (e_V (i := 3) rfl) (e_cons (e_call (e_cons (e_V (i := 3) rfl) (e_cons (e_V (i := 4) rfl) (e_cons (e_V (i := 6) rfl) (e_one (e_V (i := 7) rfl))))) (sight web hw j j0 S7)) (e_cons (e_V (i := 6) rfl) (e_one (e_V (i := 9) rfl))))) (twice S7))) er2) (e_cb (e_one (e_call (e_cons (e_V (i := 4) rfl) (e_cons (e_V (i := 6) rfl) (e_one (e_op (g := oAddX) (e_V (i := 7) rfl) (e_V (i := 9) rfl) rfl)))) (after web hw (j + k) (by omega) S7))) er2) (ne_self r2)))).trans rfl)).trans ?_
  refine (seq_nx ((if_f (e_B (e_op (g := oNe) (e_cb (e_one (e_call (e_cons (e_V (i := 3) rfl) (e_cons (e_V (i := 4) rfl) (e_cons (e_V (i := 6) rfl) (e_one (e_V (i := 5) rfl))))) (all3 _ (Int.le_refl _) S7))) er3) (e_cb (e_one (e_call (e_cons (e_V (i := 3) rfl) (e_cons (e_V (i := 4) rfl) (e_cons (e_V (i := 6) rfl) (e_one (e_op (g := oAddX) (e_op (g := oAddX) (e_V (i := 5) rfl) (e_C (d := .int 1)) rfl) (e_call (e_cons (e_V (i := 1) rfl) (e_one e_C)) e9) rfl))))) (all3 ((lots.length : Int) + 1 + x5) (by omega) S8))) er3) (ne_self r3)))).trans rfl)).trans ?_
  refine (seq_nx (e_asg (more_run hw hw2 (by omega) (e_V (i := 6) rfl) (e_call (e_cons (e_V (i := 1) rfl) (e_one (e_V (i := 5) rfl))) e10)))).trans ?_
  exact (if_f (e_B (e_op (g := oNe) (e_cb (e_one (e_call (e_cons (e_V (i := 3) rfl) (e_cons (e_V (i := 4) rfl) (e_cons (e_V (i := 11) rfl) (e_one (e_V (i := 9) rfl))))) (sight _ more k k0 S9))) er4) (e_cb (e_one (e_call (e_cons (e_V (i := 4) rfl) (e_cons (e_V (i := 11) rfl) (e_one (e_V (i := 9) rfl)))) (after _ more k k0 S9))) er4) (ne_self r4)))).trans rfl
theorem turns_ok : ∀ (ds : List D) (s2 s3 s4 s5 s6 s7 s8 s9 s10 s11 : Sl) (S : Dk), Few S → ∃ ρ' S', forF (tgN 2) bTurn ds [.un, .dat .dck, s2, s3, s4, s5, s6, s7, s8, s9, s10, s11] S = some (.nx ρ' S')
  | [], _, _, _, _, _, _, _, _, _, _, S, _ => ⟨_, S, rfl⟩
  | d :: ds, s2, s3, s4, s5, s6, s7, s8, s9, s10, s11, S, hS => by
    obtain ⟨t3, t4, t5, t6, t7, t8, t9, t10, t11, S1, e, hS1⟩ := turn_ok (d := d) (s2 := s2) (s3 := s3) (s4 := s4) (s5 := s5) (s6 := s6) (s7 := s7) (s8 := s8) (s9 := s9) (s10 := s10) (s11 := s11) hS
    obtain ⟨ρ', S', e'⟩ := turns_ok ds (.dat d) t3 t4 t5 t6 t7 t8 t9 t10 t11 S1 hS1
    exact ⟨ρ', S', (for_cons (ρ1 := [.un, .dat .dck, .dat d, s3, s4, s5, s6, s7, s8, s9, s10, s11]) rfl e).trans e'⟩
theorem plain (S : Dk) (hS : S.cells.length ≤ 63) : ∃ S', m_law (lawR 12) S = some (.rt (.bl true) S') := by
  obtain ⟨ρ', S', e⟩ := turns_ok (rangeD 0 4) .un .un .un .un .un .un .un .un .un .un S hS
  refine ⟨S', ?_⟩
  refine (seq_nx (e_for (e_R1 (j := 4) (e_one e_C) (by decide)) e)).trans ?_
  exact e_ret e_C
end K47

namespace K47
open PySem PySem.Spec PyProof.Rows L2 DL RZ
/-! ### the head -/
def hd_law_deck : He.DefD := ⟨("_law_deck", none), "_law_deck", "_law_deck", defArgs s_law_deck, defBody s_law_deck, defScope s_law_deck, [], []⟩
def hd_is_integer : He.DefD := ⟨("is_integer", none), "is_integer", "is_integer", defArgs s_is_integer, defBody s_is_integer, defScope s_is_integer, [], []⟩
def hd_is_between : He.DefD := ⟨("is_between", none), "is_between", "is_between", defArgs s_is_between, defBody s_is_between, defScope s_is_between, [], []⟩
def hd_is_rising : He.DefD := ⟨("is_rising", none), "is_rising", "is_rising", defArgs s_is_rising, defBody s_is_rising, defScope s_is_rising, [], []⟩
def hd_is_shape_value : He.DefD := ⟨("is_shape_value", none), "is_shape_value", "is_shape_value", defArgs s_is_shape_value, defBody s_is_shape_value, defScope s_is_shape_value, [], []⟩
def hd_is_lot_value : He.DefD := ⟨("is_lot_value", none), "is_lot_value", "is_lot_value", defArgs s_is_lot_value, defBody s_is_lot_value, defScope s_is_lot_value, [], []⟩
def hd_need_shape : He.DefD := ⟨("need_shape", none), "need_shape", "need_shape", defArgs s_need_shape, defBody s_need_shape, defScope s_need_shape, [], []⟩
def hd_are_lots : He.DefD := ⟨("are_lots", none), "are_lots", "are_lots", defArgs s_are_lots, defBody s_are_lots, defScope s_are_lots, [], []⟩
def hd_is_web : He.DefD := ⟨("is_web", none), "is_web", "is_web", defArgs s_is_web, defBody s_is_web, defScope s_is_web, [], []⟩
def hd_need_web : He.DefD := ⟨("need_web", none), "need_web", "need_web", defArgs s_need_web, defBody s_need_web, defScope s_need_web, [], []⟩
def hd_lots_told : He.DefD := ⟨("lots_told", none), "lots_told", "lots_told", defArgs s_lots_told, defBody s_lots_told, defScope s_lots_told, [], []⟩
def hd_sights_after : He.DefD := ⟨("sights_after", none), "sights_after", "sights_after", defArgs s_sights_after, defBody s_sights_after, defScope s_sights_after, [], []⟩
def hd_law_draw : He.DefD := ⟨("_law_draw", none), "_law_draw", "_law_draw", defArgs s_law_draw, defBody s_law_draw, defScope s_law_draw, [], []⟩
def hd_law_pick : He.DefD := ⟨("_law_pick", none), "_law_pick", "_law_pick", defArgs s_law_pick, defBody s_law_pick, defScope s_law_pick, [], []⟩
def hd_law_all : He.DefD := ⟨("_law_all", none), "_law_all", "_law_all", defArgs s_law_all, defBody s_law_all, defScope s_law_all, [], []⟩
def hd_law_lot : He.DefD := ⟨("_law_lot", none), "_law_lot", "_law_lot", defArgs s_law_lot, defBody s_law_lot, defScope s_law_lot, [], []⟩
def hd_law_web : He.DefD := ⟨("_law_web", none), "_law_web", "_law_web", defArgs s_law_web, defBody s_law_web, defScope s_law_web, [], []⟩
def hd_law_after : He.DefD := ⟨("_law_after", none), "_law_after", "_law_after", defArgs s_law_after, defBody s_law_after, defScope s_law_after, [], []⟩
def hd_law_some_lots : He.DefD := ⟨("_law_some_lots", none), "_law_some_lots", "_law_some_lots", defArgs s_law_some_lots, defBody s_law_some_lots, defScope s_law_some_lots, [], []⟩
def hd_law : He.DefD := ⟨("law", none), "law", "law", defArgs s_law, defBody s_law, defScope s_law, [], []⟩
def fn : List He.DefD := [hd_law_deck, hd_is_integer, hd_is_between, hd_is_rising, hd_is_shape_value, hd_is_lot_value, hd_need_shape, hd_are_lots, hd_is_web, hd_need_web, hd_lots_told, hd_sights_after, hd_law_draw, hd_law_pick, hd_law_all, hd_law_lot, hd_law_web, hd_law_after, hd_law_some_lots, hd_law]
def fa : List He.Fa := [.glo "_law_deck", .glo "is_integer", .glo "is_between", .glo "is_rising", .glo "is_shape_value", .glo "is_lot_value", .glo "need_shape", .glo "are_lots", .glo "is_web", .glo "need_web", .glo "lots_told", .glo "sights_after", .glo "_law_draw", .glo "_law_pick", .glo "_law_all", .glo "_law_lot", .glo "_law_web", .glo "_law_after", .glo "_law_some_lots", .glo "law", .free "isinstance", .free "int", .free "bool", .free "tuple", .free "list", .free "set", .free "len", .free "min", .free "max", .free "all", .free "zip", .free "range", .free "enumerate", .free "sorted", .free "repr", .int "MOST_PLACES" 4, .int "MOST_LETTERS" 4]
abbrev R : PySem.W.OpenRow := PySem.W.OpenLaw.row PySem.Challenge.rw_sightsums_k47_telling_round_by_round
abbrev hk : PySem.W.Hook := He.hookD 4 fa fn
def ob (s : PySem.W.SharedT) : He.AlD := He.obsDG 4 fa fn (HandSHeadRun.getT s)
theorem ob_eq (s : PySem.W.SharedT) : ob s = hk.obs s.abs := He.obsDG_eq (HandSHeadRun.getT_eq s)
abbrev loose : List Str := ["SightError", "BadShape", "BadFamily", "BadWeb", "BadNumber", "MOST_PLACES", "MOST_LETTERS", "is_integer", "is_between", "is_rising", "is_shape_value", "is_lot_value", "need_shape", "are_lots", "is_web", "need_web", "lots_told", "sights_after", "_law_deck", "_law_draw", "_law_pick", "_law_all", "_law_lot", "_law_web", "_law_after", "_law_some_lots"]
theorem run (w : World) : HandSHeadRun.RunEq R (PySem.W.view R.prog [30]) hk ob 3000 loose w := by
  intro os
  kernel_rfl
theorem bn_of {K : PySem.W.Frag} {h : Heap} {mg : Str → Option Value} (X : K.In h) (G : h.Ns mainGlobals mg) (c : He.SaysD fa fn K) : Bn mg where
  isinstance := He.free_ok X G (c.fact 20 (f := .free "isinstance") rfl)
  int := He.free_ok X G (c.fact 21 (f := .free "int") rfl)
  bool := He.free_ok X G (c.fact 22 (f := .free "bool") rfl)
  tuple := He.free_ok X G (c.fact 23 (f := .free "tuple") rfl)
  list := He.free_ok X G (c.fact 24 (f := .free "list") rfl)
  set := He.free_ok X G (c.fact 25 (f := .free "set") rfl)
  len := He.free_ok X G (c.fact 26 (f := .free "len") rfl)
  min := He.free_ok X G (c.fact 27 (f := .free "min") rfl)
  max := He.free_ok X G (c.fact 28 (f := .free "max") rfl)
  all := He.free_ok X G (c.fact 29 (f := .free "all") rfl)
  zip := He.free_ok X G (c.fact 30 (f := .free "zip") rfl)
  range := He.free_ok X G (c.fact 31 (f := .free "range") rfl)
  enumerate := He.free_ok X G (c.fact 32 (f := .free "enumerate") rfl)
  sorted := He.free_ok X G (c.fact 33 (f := .free "sorted") rfl)
  repr := He.free_ok X G (c.fact 34 (f := .free "repr") rfl)
theorem facts {P : Program} {w : World} {K : PySem.W.Frag} {h : Heap} {mg : Str → Option Value} {f : Addr} (X : K.In h) (G : h.Ns mainGlobals mg) (hfa : mg ("law" : Str) = some (.ref f)) (c : He.SaysD fa fn K) :
    ∃ fd : FuncData, (∀ (s : Shared) (v : Value), BindsTo s fd ⟨[v], []⟩ [("script", v)]) ∧ ∀ base : Heap, K.In base → base.Ns mainGlobals mg → FnG P w K mg base 6 f fd ["script"] (spLaw K) := by
  have B := bn_of X G c
  obtain ⟨fd_law_deck, F_law_deck⟩ := c.def_ 0 (d := hd_law_deck) rfl
  have g_law_deck := He.glo_ok X G (c.fact 0 (f := .glo "_law_deck") rfl)
  obtain ⟨fd_is_integer, F_is_integer⟩ := c.def_ 1 (d := hd_is_integer) rfl
  have g_is_integer := He.glo_ok X G (c.fact 1 (f := .glo "is_integer") rfl)
  obtain ⟨fd_is_between, F_is_between⟩ := c.def_ 2 (d := hd_is_between) rfl
  have g_is_between := He.glo_ok X G (c.fact 2 (f := .glo "is_between") rfl)
  obtain ⟨fd_is_rising, F_is_rising⟩ := c.def_ 3 (d := hd_is_rising) rfl
  have g_is_rising := He.glo_ok X G (c.fact 3 (f := .glo "is_rising") rfl)
  obtain ⟨fd_is_shape_value, F_is_shape_value⟩ := c.def_ 4 (d := hd_is_shape_value) rfl
  have g_is_shape_value := He.glo_ok X G (c.fact 4 (f := .glo "is_shape_value") rfl)
  obtain ⟨fd_is_lot_value, F_is_lot_value⟩ := c.def_ 5 (d := hd_is_lot_value) rfl
  have g_is_lot_value := He.glo_ok X G (c.fact 5 (f := .glo "is_lot_value") rfl)
  obtain ⟨fd_need_shape, F_need_shape⟩ := c.def_ 6 (d := hd_need_shape) rfl
  have g_need_shape := He.glo_ok X G (c.fact 6 (f := .glo "need_shape") rfl)
  obtain ⟨fd_are_lots, F_are_lots⟩ := c.def_ 7 (d := hd_are_lots) rfl
  have g_are_lots := He.glo_ok X G (c.fact 7 (f := .glo "are_lots") rfl)
  obtain ⟨fd_is_web, F_is_web⟩ := c.def_ 8 (d := hd_is_web) rfl
  have g_is_web := He.glo_ok X G (c.fact 8 (f := .glo "is_web") rfl)
  obtain ⟨fd_need_web, F_need_web⟩ := c.def_ 9 (d := hd_need_web) rfl
  have g_need_web := He.glo_ok X G (c.fact 9 (f := .glo "need_web") rfl)
  obtain ⟨fd_lots_told, F_lots_told⟩ := c.def_ 10 (d := hd_lots_told) rfl
  have g_lots_told := He.glo_ok X G (c.fact 10 (f := .glo "lots_told") rfl)
  obtain ⟨fd_sights_after, F_sights_after⟩ := c.def_ 11 (d := hd_sights_after) rfl
  have g_sights_after := He.glo_ok X G (c.fact 11 (f := .glo "sights_after") rfl)
  obtain ⟨fd_law_draw, F_law_draw⟩ := c.def_ 12 (d := hd_law_draw) rfl
  have g_law_draw := He.glo_ok X G (c.fact 12 (f := .glo "_law_draw") rfl)
  obtain ⟨fd_law_pick, F_law_pick⟩ := c.def_ 13 (d := hd_law_pick) rfl
  have g_law_pick := He.glo_ok X G (c.fact 13 (f := .glo "_law_pick") rfl)
  obtain ⟨fd_law_all, F_law_all⟩ := c.def_ 14 (d := hd_law_all) rfl
  have g_law_all := He.glo_ok X G (c.fact 14 (f := .glo "_law_all") rfl)
  obtain ⟨fd_law_lot, F_law_lot⟩ := c.def_ 15 (d := hd_law_lot) rfl
  have g_law_lot := He.glo_ok X G (c.fact 15 (f := .glo "_law_lot") rfl)
  obtain ⟨fd_law_web, F_law_web⟩ := c.def_ 16 (d := hd_law_web) rfl
  have g_law_web := He.glo_ok X G (c.fact 16 (f := .glo "_law_web") rfl)
  obtain ⟨fd_law_after, F_law_after⟩ := c.def_ 17 (d := hd_law_after) rfl
  have g_law_after := He.glo_ok X G (c.fact 17 (f := .glo "_law_after") rfl)
  obtain ⟨fd_law_some_lots, F_law_some_lots⟩ := c.def_ 18 (d := hd_law_some_lots) rfl
  have g_law_some_lots := He.glo_ok X G (c.fact 18 (f := .glo "_law_some_lots") rfl)
  obtain ⟨fd_law, F_law⟩ := c.def_ 19 (d := hd_law) rfl
  have g_law := He.glo_ok X G (c.fact 19 (f := .glo "law") rfl)
  obtain ⟨t_MOST_PLACES, e_MOST_PLACES⟩ := He.int_ok X G (c.fact 35 (f := .int "MOST_PLACES" 4) rfl)
  obtain ⟨t_MOST_LETTERS, e_MOST_LETTERS⟩ := He.int_ok X G (c.fact 36 (f := .int "MOST_LETTERS" 4) rfl)
  have e := hfa.symm.trans g_law
  cases e
  have b := FunD.bindsA (ps := ["script"]) F_law fun _ _ _ _ _ _ us hl => match us, hl with | [_], _ => rfl
  refine ⟨fd_law, fun s v => b s [v] rfl, fun base _ _ => ?_⟩
  have C_law_deck := ok_law_deck (P := P) (w := w) (base := base) B F_law_deck g_law_deck
  have C_is_integer := ok_is_integer (P := P) (w := w) (base := base) B F_is_integer g_is_integer
  have C_is_between := ok_is_between (P := P) (w := w) (base := base) B C_is_integer F_is_between g_is_between
  have C_is_rising := ok_is_rising (P := P) (w := w) (base := base) B F_is_rising g_is_rising
  have C_is_shape_value := ok_is_shape_value (P := P) (w := w) (base := base) B ⟨t_MOST_LETTERS, e_MOST_LETTERS⟩ ⟨t_MOST_PLACES, e_MOST_PLACES⟩ C_is_between F_is_shape_value g_is_shape_value
  have C_is_lot_value := ok_is_lot_value (P := P) (w := w) (base := base) B C_is_between C_is_rising F_is_lot_value g_is_lot_value
  have C_need_shape := ok_need_shape (P := P) (w := w) (base := base) B C_is_shape_value F_need_shape g_need_shape
  have C_are_lots := ok_are_lots (P := P) (w := w) (base := base) B C_is_lot_value F_are_lots g_are_lots
  have C_is_web := ok_is_web (P := P) (w := w) (base := base) B C_is_between C_is_rising F_is_web g_is_web
  have C_need_web := ok_need_web (P := P) (w := w) (base := base) B C_is_web F_need_web g_need_web
  have C_lots_told := ok_lots_told (P := P) (w := w) (base := base) B F_lots_told g_lots_told
  have C_sights_after := ok_sights_after (P := P) (w := w) (base := base) B C_need_shape C_are_lots C_need_web C_is_integer C_lots_told F_sights_after g_sights_after
  have C_law_draw := ok_law_draw (P := P) (w := w) (base := base) B F_law_draw g_law_draw
  have C_law_pick := ok_law_pick (P := P) (w := w) (base := base) B C_law_draw F_law_pick g_law_pick
  have C_law_all := ok_law_all (P := P) (w := w) (base := base) B F_law_all g_law_all
  have C_law_lot := ok_law_lot (P := P) (w := w) (base := base) B C_law_draw F_law_lot g_law_lot
  have C_law_web := ok_law_web (P := P) (w := w) (base := base) B C_law_all C_law_draw F_law_web g_law_web
  have C_law_after := ok_law_after (P := P) (w := w) (base := base) B F_law_after g_law_after
  have C_law_some_lots := ok_law_some_lots (P := P) (w := w) (base := base) B C_law_pick C_law_draw C_law_lot F_law_some_lots g_law_some_lots
  exact ok_law B C_law_pick C_law_some_lots C_law_draw C_law_web C_law_after C_sights_after (FunD.kwRev F_sights_after fun _ _ _ _ _ _ ws hl => match ws, hl with | [_, _, _, _], _ => rfl) C_law_deck F_law plain
end K47
open PySem PySem.W PySem.Calls PyProof.Rows
theorem PySem.Challenge.cw_sightsums_k47_telling_round_by_round_holds : PySem.Challenge.rw_sightsums_k47_telling_round_by_round.Holds := by
  w_on; o_law
  refine HandSHeadRun.head_any (r := OpenLaw.row PySem.Challenge.rw_sightsums_k47_telling_round_by_round) (q := view (OpenLaw.row PySem.Challenge.rw_sightsums_k47_telling_round_by_round).prog [30]) (H := K47.hk) (ob := K47.ob) (M := 3000) (loose := K47.loose) (d := HandSHeadRun.topDef (OpenLaw.row PySem.Challenge.rw_sightsums_k47_telling_round_by_round).prog 30) (kwd := []) K47.ob_eq
    (by kernel_rfl) (fun s => by kernel_rfl) K47.run (by kernel_rfl) (by kernel_rfl) (by kernel_rfl) (by rfl) (by first | assumption | decide +kernel) (by decide +kernel) ⟨rfl, rfl, rfl, rfl, rfl, by decide +kernel⟩ ?hw ?hc
  case hw => w_witness2
  case hc =>
    refine DL.walk_ofG (l := PySem.Challenge.rw_sightsums_k47_telling_round_by_round) (n := 63) (k := 6) (x := "script") rfl (by decide) (by kernel_rfl) ⟨rfl, by decide, by decide⟩ ?F
    intro w mg fa h Y G hmg0
    obtain ⟨K, KX, c⟩ := Y
    have hmg : mg ("law" : PySem.Str) = some (.ref fa) := by
      have e : (HandSHeadRun.topDef (OpenLaw.row PySem.Challenge.rw_sightsums_k47_telling_round_by_round).prog 30).name = ("law" : PySem.Str) := by kernel_rfl
      rw [← e]
      exact hmg0
    obtain ⟨fd, hb, hF⟩ := K47.facts (P := (PySem.Challenge.rw_sightsums_k47_telling_round_by_round).prog) (w := w) KX G hmg c
    exact ⟨K, fd, DL.spLaw K, KX, hb, fun H a ns hl _ hS _ => ⟨a, ns, rfl, hS, hl, fun _ => rfl⟩, hF⟩
