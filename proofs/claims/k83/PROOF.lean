import PyProof.Rows.All
import Wide.All
import OpenK.AllK
import Wide.FinOn
import HandS.ForMost
import HandS.Walk
import KE.GoesEnum
import HandS.Defaults
import HandS.TupAny
import HandS.IsInst
import HandS.Wide
import KE.DataMinMax
import KE.DataFind
import KE.KStateDown
import Lean
import HandS.More
import HandS.WordsExc
import HandS.Head0
import HandS.Head1
import HandS.Head2
import HandS.HeadEnd
import HandS.HeadHook1
import HandS.HeadHook2
import KE.DatumOrd
import PySem.Challenge.RW_stillread_k83_whole_stretches_borne
set_option Elab.async false
set_option linter.all false
set_option maxRecDepth 100000
set_option maxHeartbeats 0
/-! LyA: data in the abstract heap, states of slots, what a reading gives. -/
namespace Ly
open PySem PySem.Spec L2

abbrev Av := Addr → Prop
/-- an object of the written part that is a list, a tuple -/
def KLst (K : PySem.W.Frag) (a : Addr) (xs : List V) : Prop :=
  ∃ (o : Obj) (its : Array Value) (n : Nat), K.lookup a = some o ∧ o.cls = .type "list" ∧ o.dict = none ∧ o.data = .seq its n ∧ its.size ≤ sizeLine ∧ Vals xs its.toList
def KTup (K : PySem.W.Frag) (a : Addr) (xs : List V) : Prop :=
  ∃ (o : Obj) (its : Array Value) (n : Nat), K.lookup a = some o ∧ o.cls = .type "tuple" ∧ o.dict = none ∧ o.data = .seq its n ∧ its.size ≤ sizeLine ∧ Vals xs its.toList
def RL (K : PySem.W.Frag) (av : Av) (H : Hp) (a : Addr) (xs : List V) : Prop := (Rd H a (.lst xs) ∧ ¬ av a) ∨ KLst K a xs
/-- a tuple: its object is known, it has no dict -/
def FT (H : Hp) (a : Addr) (xs : List V) : Prop := ∃ ob : Obj, H a = some (.frz ob (.tup xs)) ∧ ob.dict = none
def RT (K : PySem.W.Frag) (av : Av) (H : Hp) (a : Addr) (xs : List V) : Prop := (FT H a xs ∧ ¬ av a) ∨ KTup K a xs
section
variable {K : PySem.W.Frag} {av av' ms : Av} {H H' : Hp} {a : Addr} {xs : List V}
theorem RL.sq (h : RL K av H a xs) : SqL K H a xs := h.imp (fun z => z.1) (fun z => z)
theorem RT.sq (h : RT K av H a xs) : SqT K H a xs := h.imp (fun ⟨⟨o, e, _⟩, _⟩ => .inr ⟨o, e⟩) (fun ⟨o, its, n, h1, h2, _, h3⟩ => ⟨o, its, n, h1, h2, h3⟩)
/-- all that stands but at ms stands as it was; what is there stays there -/
structure Fr (ms : Av) (H H' : Hp) : Prop where
  keep : ∀ a o, ¬ ms a → H a = some o → H' a = some o
  dom : ∀ a, H a ≠ none → H' a ≠ none
theorem Fr.refl : Fr ms H H := ⟨fun _ _ _ h => h, fun _ h => h⟩
theorem Fr.mono (f : Fr ms H H') (h : ∀ a, ms a → av a) : Fr av H H' := ⟨fun a o n e => f.keep a o (fun z => n (h a z)) e, f.dom⟩
theorem Fr.trans {H1 : Hp} (f : Fr ms H H1) (g : Fr ms H1 H') : Fr ms H H' := ⟨fun a o n e => g.keep a o n (f.keep a o n e), fun a h => g.dom a (f.dom a h)⟩
theorem Fr.new {p : Addr} {o : HO} (h : H p = none) : Fr ms H (upd H p o) := ⟨fun a u _ e => by rw [upd_ne (ne_of_none e h)]; exact e, fun a e => by
  unfold upd
  split
  · exact fun z => nomatch z
  · exact e⟩
theorem Fr.put {p : Addr} {o : HO} (h : ms p) : Fr ms H (upd H p o) := ⟨fun a u n e => by
  rw [upd_ne (fun z => by subst z; exact n h)]
  exact e, fun a e => by
  unfold upd
  split
  · exact fun z => nomatch z
  · exact e⟩
theorem Fr.rd {u : HO} (f : Fr ms H H') (n : ¬ ms a) (h : Rd H a u) : Rd H' a u := h.imp (fun e => f.keep a _ n e) (fun ⟨o, e⟩ => ⟨o, f.keep a _ n e⟩)
theorem rd_there {u : HO} (h : Rd H a u) : H a ≠ none := by
  rcases h with e | ⟨o, e⟩ <;> (rw [e]; exact fun z => nomatch z)
theorem RL.mono (f : Fr ms H H') (m : ∀ a, ms a → av a) (h : RL K av H a xs) : RL K av H' a xs := h.imp (fun ⟨r, n⟩ => ⟨f.rd (fun z => n (m a z)) r, n⟩) (fun z => z)
theorem RT.mono (f : Fr ms H H') (m : ∀ a, ms a → av a) (h : RT K av H a xs) : RT K av H' a xs := h.imp (fun ⟨⟨o, e, d⟩, n⟩ => ⟨⟨o, f.keep a _ (fun z => n (m a z)) e, d⟩, n⟩) (fun z => z)
theorem RL.weak (w : ∀ a, av' a → av a ∨ H a = none) (h : RL K av H a xs) : RL K av' H a xs := h.imp (fun ⟨r, n⟩ => ⟨r, fun z => (w a z).elim n (fun e => rd_there r e)⟩) (fun z => z)
theorem RT.weak (w : ∀ a, av' a → av a ∨ H a = none) (h : RT K av H a xs) : RT K av' H a xs := h.imp (fun ⟨⟨o, e, d⟩, n⟩ => ⟨⟨o, e, d⟩, fun z => (w a z).elim n (fun q => by rw [e] at q; cases q)⟩) (fun z => z)
end

/-! ### data that stands in the heap, its cells not in av -/
mutual
inductive Rp (K : PySem.W.Frag) (av : Av) (H : Hp) : V → PyData → Prop
  | non : Rp K av H .non .none
  | bl (b : Bool) : Rp K av H (.bl b) (.bool b)
  | int (i : Int) : Rp K av H (.int i) (.int i)
  | str (x : Str) : Rp K av H (.str x) (.str x)
  | lst {a : Addr} {xs : List V} {ds : List PyData} : RL K av H a xs → RpA K av H xs ds → Rp K av H (.ref a) (.list ds)
  | tup {a : Addr} {xs : List V} {ds : List PyData} : RT K av H a xs → RpA K av H xs ds → Rp K av H (.ref a) (.tuple ds)
inductive RpA (K : PySem.W.Frag) (av : Av) (H : Hp) : List V → List PyData → Prop
  | nil : RpA K av H [] []
  | cons {v : V} {vs : List V} {d : PyData} {ds : List PyData} : Rp K av H v d → RpA K av H vs ds → RpA K av H (v :: vs) (d :: ds)
end
section
variable {K : PySem.W.Frag} {av av' ms : Av} {H H' : Hp}
mutual
theorem Rp.mono (f : Fr ms H H') (m : ∀ a, ms a → av a) : ∀ (d : PyData) (v : V), Rp K av H v d → Rp K av H' v d
  | .none, _, h => by cases h; exact .non
  | .bool b, _, h => by cases h; exact .bl b
  | .int i, _, h => by cases h; exact .int i
  | .str x, _, h => by cases h; exact .str x
  | .list ds, _, h => by
    cases h with
    | lst hs ha => exact .lst (hs.mono f m) (RpA.mono f m ds _ ha)
  | .tuple ds, _, h => by
    cases h with
    | tup hs ha => exact .tup (hs.mono f m) (RpA.mono f m ds _ ha)
  | .dict _, _, h => by cases h
theorem RpA.mono (f : Fr ms H H') (m : ∀ a, ms a → av a) : ∀ (ds : List PyData) (vs : List V), RpA K av H vs ds → RpA K av H' vs ds
  | [], _, h => by cases h; exact .nil
  | d :: ds, _, h => by
    cases h with
    | cons h1 h2 => exact .cons (Rp.mono f m d _ h1) (RpA.mono f m ds _ h2)
end
mutual
theorem Rp.weak (w : ∀ a, av' a → av a ∨ H a = none) : ∀ (d : PyData) (v : V), Rp K av H v d → Rp K av' H v d
  | .none, _, h => by cases h; exact .non
  | .bool b, _, h => by cases h; exact .bl b
  | .int i, _, h => by cases h; exact .int i
  | .str x, _, h => by cases h; exact .str x
  | .list ds, _, h => by
    cases h with
    | lst hs ha => exact .lst (hs.weak w) (RpA.weak w ds _ ha)
  | .tuple ds, _, h => by
    cases h with
    | tup hs ha => exact .tup (hs.weak w) (RpA.weak w ds _ ha)
  | .dict _, _, h => by cases h
theorem RpA.weak (w : ∀ a, av' a → av a ∨ H a = none) : ∀ (ds : List PyData) (vs : List V), RpA K av H vs ds → RpA K av' H vs ds
  | [], _, h => by cases h; exact .nil
  | d :: ds, _, h => by
    cases h with
    | cons h1 h2 => exact .cons (Rp.weak w d _ h1) (RpA.weak w ds _ h2)
end
mutual
theorem Rp.dp : ∀ (d : PyData) (v : V), Rp K av H v d → Dp K H v d
  | .none, _, h => by cases h; exact .non
  | .bool b, _, h => by cases h; exact .bl b
  | .int i, _, h => by cases h; exact .int i
  | .str x, _, h => by cases h; exact .str x
  | .list ds, _, h => by
    cases h with
    | lst hs ha => exact .lst hs.sq (RpA.dp ds _ ha)
  | .tuple ds, _, h => by
    cases h with
    | tup hs ha => exact .tup hs.sq (RpA.dp ds _ ha)
  | .dict _, _, h => by cases h
theorem RpA.dp : ∀ (ds : List PyData) (vs : List V), RpA K av H vs ds → DpAll K H vs ds
  | [], _, h => by cases h; exact .nil
  | d :: ds, _, h => by
    cases h with
    | cons h1 h2 => exact .cons (Rp.dp d _ h1) (RpA.dp ds _ h2)
end
theorem Rp.to {d : PyData} {v : V} (h : Rp K av H v d) (f : Fr ms H H') (m : ∀ a, ms a → av a) (w : ∀ a, av' a → av a ∨ H a = none) : Rp K av' H' v d := by
  refine Rp.weak (av := fun a => av a ∨ H a = none) (fun a z => .inl (w a z)) d v (Rp.mono f (fun a z => .inl (m a z)) d v (Rp.weak (fun a z => z) d v h))
theorem RpA.to {ds : List PyData} {vs : List V} (h : RpA K av H vs ds) (f : Fr ms H H') (m : ∀ a, ms a → av a) (w : ∀ a, av' a → av a ∨ H a = none) : RpA K av' H' vs ds := by
  refine RpA.weak (av := fun a => av a ∨ H a = none) (fun a z => .inl (w a z)) ds vs (RpA.mono f (fun a z => .inl (m a z)) ds vs (RpA.weak (fun a z => z) ds vs h))
theorem RpA.length {ds : List PyData} {vs : List V} (h : RpA K av H vs ds) : vs.length = ds.length := by
  induction ds generalizing vs with
  | nil => cases h; rfl
  | cons d ds ih => cases h with
    | cons h1 h2 => rw [List.length_cons, List.length_cons, ih h2]
theorem RpA.get : ∀ {ds : List PyData} {vs : List V} {i : Nat} {d : PyData}, RpA K av H vs ds → ds[i]? = some d → ∃ v, vs[i]? = some v ∧ Rp K av H v d
  | [], _, _, _, _, e => by simp at e
  | d0 :: ds, _, 0, d, h, e => by
    cases h with
    | cons h1 h2 =>
      have e1 : d0 = d := by simpa using e
      subst e1
      exact ⟨_, rfl, h1⟩
  | d0 :: ds, _, i + 1, d, h, e => by
    cases h with
    | cons h1 h2 =>
      obtain ⟨v, e1, r⟩ := RpA.get (i := i) h2 (by simpa using e)
      exact ⟨v, by simpa using e1, r⟩
theorem RpA.get' : ∀ {ds : List PyData} {vs : List V} {i : Nat} {v : V}, RpA K av H vs ds → vs[i]? = some v → ∃ d, ds[i]? = some d ∧ Rp K av H v d
  | [], _, _, _, h, e => by cases h; simp at e
  | d0 :: ds, _, 0, v, h, e => by
    cases h with
    | cons h1 h2 =>
      have e1 := Option.some.inj (show some _ = some v by simpa using e)
      subst e1
      exact ⟨_, rfl, h1⟩
  | d0 :: ds, _, i + 1, v, h, e => by
    cases h with
    | cons h1 h2 =>
      obtain ⟨d, e1, r⟩ := RpA.get' (i := i) h2 (by simpa using e)
      exact ⟨d, by simpa using e1, r⟩
theorem RpA.append : ∀ {ds es : List PyData} {vs us : List V}, RpA K av H vs ds → RpA K av H us es → RpA K av H (vs ++ us) (ds ++ es)
  | [], _, _, _, h, g => by cases h; exact g
  | d0 :: ds, _, _, _, h, g => by
    cases h with
    | cons h1 h2 => exact .cons h1 (RpA.append h2 g)
theorem RpA.drop : ∀ {ds : List PyData} {vs : List V} (n : Nat), RpA K av H vs ds → RpA K av H (vs.drop n) (ds.drop n)
  | [], _, n, h => by cases h; simp; exact .nil
  | d0 :: ds, _, 0, h => h
  | d0 :: ds, _, n + 1, h => by
    cases h with
    | cons h1 h2 => exact RpA.drop n h2
theorem RpA.take : ∀ {ds : List PyData} {vs : List V} (n : Nat), RpA K av H vs ds → RpA K av H (vs.take n) (ds.take n)
  | [], _, n, h => by cases h; simp; exact .nil
  | d0 :: ds, _, 0, h => .nil
  | d0 :: ds, _, n + 1, h => by
    cases h with
    | cons h1 h2 => exact .cons h1 (RpA.take n h2)
theorem RpA.set : ∀ {ds : List PyData} {vs : List V} {v : V} {d : PyData} (n : Nat), RpA K av H vs ds → Rp K av H v d → RpA K av H (vs.set n v) (ds.set n d)
  | [], _, _, _, n, h, _ => by cases h; exact .nil
  | d0 :: ds, _, _, _, 0, h, g => by
    cases h with
    | cons h1 h2 => exact .cons g h2
  | d0 :: ds, _, _, _, n + 1, h, g => by
    cases h with
    | cons h1 h2 => exact .cons h1 (RpA.set n h2 g)
theorem RpA.eraseIdx : ∀ {ds : List PyData} {vs : List V} (n : Nat), RpA K av H vs ds → RpA K av H (vs.eraseIdx n) (ds.eraseIdx n)
  | [], _, n, h => by cases h; exact .nil
  | d0 :: ds, _, 0, h => by
    cases h with
    | cons h1 h2 => exact h2
  | d0 :: ds, _, n + 1, h => by
    cases h with
    | cons h1 h2 => exact .cons h1 (RpA.eraseIdx n h2)
theorem RpA.one {v : V} {d : PyData} (h : Rp K av H v d) : RpA K av H [v] [d] := .cons h .nil
theorem RpA.ints : ∀ {ns : List Int}, RpA K av H (ns.map V.int) (ns.map PyData.int)
  | [] => .nil
  | n :: ns => .cons (.int n) RpA.ints
end

/-! ### slots -/
inductive SlotV where
  /-- nothing is said -/
  | un
  /-- data that nobody changes -/
  | dat (d : PyData)
  /-- a list of this frame's own (or one that the caller lends), no one else holds it -/
  | lst (ds : List PyData)
abbrev SS := List SlotV
/-- what an expression gives: data; a new list that no one else holds; the list of the slot i -/
inductive EV where
  | dat (d : PyData)
  | own (ds : List PyData)
  | bor (i : Nat)
abbrev M (α : Type) := SS → Option (α × SS)

def SlotA (ss : SS) (σ : St) : Av := fun a => ∃ (i : Nat) (ds : List PyData), ss[i]? = some (.lst ds) ∧ σ[i]? = some (some (.ref a))
def AvS (fo : Av) (ss : SS) (σ : St) : Av := fun a => fo a ∨ SlotA ss σ a
structure StR (K : PySem.W.Frag) (fo : Av) (ss : SS) (σ : St) (H : Hp) : Prop where
  len : ss.length = σ.length
  dat : ∀ (i : Nat) (d : PyData), ss[i]? = some (.dat d) → ∃ v, σ[i]? = some (some v) ∧ Rp K (AvS fo ss σ) H v d
  lst : ∀ (i : Nat) (ds : List PyData), ss[i]? = some (.lst ds) → ∃ p vs, σ[i]? = some (some (.ref p)) ∧ H p = some (.lst vs) ∧ RpA K (AvS fo ss σ) H vs ds
  dis : ∀ (i j : Nat) (p : Addr) (ds es : List PyData), ss[i]? = some (.lst ds) → ss[j]? = some (.lst es) → σ[i]? = some (some (.ref p)) → σ[j]? = some (some (.ref p)) → i = j
  alive : ∀ a, fo a → H a ≠ none
  apart : ∀ a, fo a → ¬ SlotA ss σ a
/-- what stands for ev: fo0 is what was foreign before, fo what is now -/
def EVr (K : PySem.W.Frag) (fo0 fo : Av) (ss : SS) (σ : St) (H : Hp) (v : V) : EV → Prop
  | .dat d => Rp K (AvS fo ss σ) H v d
  | .own ds => ∃ p vs, v = .ref p ∧ fo p ∧ ¬ fo0 p ∧ H p = some (.lst vs) ∧ RpA K (AvS fo ss σ) H vs ds
  | .bor i => σ[i]? = some (some v)
inductive EVrs (K : PySem.W.Frag) (fo0 fo : Av) (ss : SS) (σ : St) (H : Hp) : List V → List EV → Prop
  | nil : EVrs K fo0 fo ss σ H [] []
  | cons {v : V} {vs : List V} {e : EV} {es : List EV} : EVr K fo0 fo ss σ H v e → EVrs K fo0 fo ss σ H vs es → EVrs K fo0 fo ss σ H (v :: vs) (e :: es)
/-- a step: what is not a slot's list stays; what is to be avoided grows by new cells alone -/
structure Tn (fo : Av) (ss : SS) (σ : St) (H : Hp) (fo' : Av) (ss' : SS) (σ' : St) (H' : Hp) : Prop where
  fr : Fr (SlotA ss σ) H H'
  fm : ∀ a, fo a → fo' a
  av : ∀ a, AvS fo' ss' σ' a → AvS fo ss σ a ∨ H a = none
section
variable {K : PySem.W.Frag} {fo0 fo fo' fo1 fo2 : Av} {ss ss' ss1 ss2 : SS} {σ σ' σ1 σ2 : St} {H H' H1 H2 : Hp} {v : V} {ev : EV}
theorem Tn.refl : Tn fo ss σ H fo ss σ H := ⟨.refl, fun _ h => h, fun _ h => .inl h⟩
theorem Tn.trans (a : Tn fo ss σ H fo1 ss1 σ1 H1) (s : StR K fo1 ss1 σ1 H1) (b : Tn fo1 ss1 σ1 H1 fo2 ss2 σ2 H2) : Tn fo ss σ H fo2 ss2 σ2 H2 where
  fr := ⟨fun x o n e => b.fr.keep x o (fun z => by
      rcases a.av x (.inr z) with (q | q) | q
      · exact s.apart x (a.fm x q) z
      · exact n q
      · rw [q] at e
        cases e) (a.fr.keep x o n e), fun x h => b.fr.dom x (a.fr.dom x h)⟩
  fm := fun x h => b.fm x (a.fm x h)
  av := fun x h => by
    rcases b.av x h with q | q
    · exact a.av x q
    · refine .inr ?_
      cases e : H x with
      | none => rfl
      | some o => exact absurd q (a.fr.dom x (by rw [e]; exact fun z => nomatch z))
/-- only the heap has grown -/
theorem Tn.grow (f : Fr (fun _ => False) H H') : Tn fo ss σ H fo ss σ H' := ⟨f.mono fun _ z => z.elim, fun _ h => h, fun _ h => .inl h⟩
/-- less is foreign behind it -/
theorem Tn.less (t : Tn fo ss σ H fo' ss' σ' H') : Tn fo ss σ H fo ss' σ' H' := ⟨t.fr, fun _ h => h, fun a h => t.av a (h.imp (t.fm a) fun q => q)⟩
theorem slotA_av : ∀ a, SlotA ss σ a → AvS fo ss σ a := fun _ h => .inr h
theorem StR.mono (s : StR K fo ss σ H) (f : Fr (fun _ => False) H H') : StR K fo ss σ H' where
  len := s.len
  dat := fun i d e => let ⟨v, e1, r⟩ := s.dat i d e; ⟨v, e1, Rp.mono f (fun _ z => z.elim) _ _ r⟩
  lst := fun i ds e => let ⟨p, vs, e1, h, r⟩ := s.lst i ds e; ⟨p, vs, e1, f.keep _ _ (fun z => z) h, RpA.mono f (fun _ z => z.elim) _ _ r⟩
  dis := s.dis
  alive := fun a h => f.dom a (s.alive a h)
  apart := s.apart
/-- less is foreign -/
theorem StR.less (s : StR K fo' ss σ H) (h : ∀ a, fo a → fo' a) : StR K fo ss σ H where
  len := s.len
  dat := fun i d e => let ⟨v, e1, r⟩ := s.dat i d e; ⟨v, e1, Rp.weak (fun a z => .inl (z.imp (h a) (fun q => q))) _ _ r⟩
  lst := fun i ds e => let ⟨p, vs, e1, q, r⟩ := s.lst i ds e; ⟨p, vs, e1, q, RpA.weak (fun a z => .inl (z.imp (h a) (fun q => q))) _ _ r⟩
  dis := s.dis
  alive := fun a z => s.alive a (h a z)
  apart := fun a z => s.apart a (h a z)
/-- more is foreign: new cells -/
theorem StR.more (s : StR K fo ss σ H) (h : ∀ a, fo' a → AvS fo ss σ a ∨ H a = none) (f : Fr (fun _ => False) H H') (al : ∀ a, fo' a → H' a ≠ none) (ap : ∀ a, fo' a → ¬ SlotA ss σ a) : StR K fo' ss σ H' where
  len := s.len
  dat := fun i d e => let ⟨v, e1, r⟩ := s.dat i d e; ⟨v, e1, r.to f (fun _ z => z.elim) (fun a z => z.elim (h a) (fun q => .inl (.inr q)))⟩
  lst := fun i ds e => let ⟨p, vs, e1, q, r⟩ := s.lst i ds e; ⟨p, vs, e1, f.keep _ _ (fun z => z) q, r.to f (fun _ z => z.elim) (fun a z => z.elim (h a) (fun q => .inl (.inr q)))⟩
  dis := s.dis
  alive := al
  apart := ap
theorem StR.there (s : StR K fo ss σ H) {a : Addr} (h : SlotA ss σ a) : H a ≠ none := by
  obtain ⟨i, ds, e1, e2⟩ := h
  obtain ⟨p, vs, e3, e4, _⟩ := s.lst i ds e1
  rw [e2] at e3
  cases e3
  rw [e4]
  exact fun z => nomatch z
/-- a value in flight stays -/
theorem EVr.stay (t : Tn fo ss σ H fo' ss' σ H') (s : StR K fo ss σ H) (h : EVr K fo0 fo ss σ H v ev) : EVr K fo0 fo' ss' σ H' v ev := by
  cases ev with
  | dat d => exact Rp.to h t.fr slotA_av t.av
  | own ds =>
    obtain ⟨p, vs, e1, e2, e3, e4, r⟩ := h
    exact ⟨p, vs, e1, t.fm p e2, e3, t.fr.keep p _ (s.apart p e2) e4, r.to t.fr slotA_av t.av⟩
  | bor i => exact h
theorem EVr.base (hb : ∀ a, fo0 a → fo1 a) (h : EVr K fo1 fo ss σ H v ev) : EVr K fo0 fo ss σ H v ev := by
  cases ev with
  | dat d => exact h
  | own ds =>
    obtain ⟨p, vs, e1, e2, e3, e4, r⟩ := h
    exact ⟨p, vs, e1, e2, fun z => e3 (hb p z), e4, r⟩
  | bor i => exact h
end

/-! ### reading a value's data -/
/-- data at v whose own cell may be a list of av; what lies in it is not -/
def RvS (K : PySem.W.Frag) (av : Av) (H : Hp) (v : V) (d : PyData) : Prop :=
  Rp K av H v d ∨ ∃ p vs ds, v = .ref p ∧ d = .list ds ∧ H p = some (.lst vs) ∧ RpA K av H vs ds
def val (ss : SS) : EV → Option PyData
  | .dat d => some d
  | .own ds => some (.list ds)
  | .bor i => match ss[i]? with
    | some (.lst ds) => some (.list ds)
    | _ => none
def frz : EV → Option PyData
  | .dat d => some d
  | .own ds => some (.list ds)
  | .bor _ => none
section
variable {K : PySem.W.Frag} {fo0 fo fo' fo1 fo2 av : Av} {ss ss' ss1 ss2 : SS} {σ : St} {H H' H1 H2 : Hp} {v : V} {ev : EV} {d : PyData}
theorem EVr.rv (s : StR K fo ss σ H) (h : EVr K fo0 fo ss σ H v ev) (e : val ss ev = some d) : RvS K (AvS fo ss σ) H v d := by
  cases ev with
  | dat d' =>
    cases e
    exact .inl h
  | own ds =>
    cases e
    obtain ⟨p, vs, e1, _, _, e4, r⟩ := h
    exact .inr ⟨p, vs, ds, e1, rfl, e4, r⟩
  | bor i =>
    unfold val at e
    cases q : ss[i]? with
    | none =>
      simp only [q] at e
      cases e
    | some sl =>
      simp only [q] at e
      cases sl with
      | lst ds =>
        cases e
        obtain ⟨p, vs, e1, e2, r⟩ := s.lst i ds q
        have h' : σ[i]? = some (some v) := h
        rw [e1] at h'
        cases h'
        exact .inr ⟨p, vs, ds, rfl, rfl, e2, r⟩
      | un => cases e
      | dat d => cases e
theorem EVr.fz (s : StR K fo ss σ H) (hb : ∀ a, fo0 a → fo a) (h : EVr K fo0 fo ss σ H v ev) (e : frz ev = some d) : Rp K (AvS fo0 ss σ) H v d := by
  cases ev with
  | dat d' =>
    cases e
    exact Rp.weak (fun a z => .inl (z.imp (hb a) (fun q => q))) _ _ h
  | own ds =>
    cases e
    obtain ⟨p, vs, e1, e2, e3, e4, r⟩ := h
    subst e1
    exact .lst (.inl ⟨.inl e4, fun z => z.elim e3 (s.apart p e2)⟩) (RpA.weak (fun a z => .inl (z.imp (hb a) (fun q => q))) _ _ r)
  | bor i => cases e
theorem RvS.dp (h : RvS K av H v d) : Dp K H v d := by
  rcases h with h | ⟨p, vs, ds, rfl, rfl, e, r⟩
  · exact Rp.dp _ _ h
  · exact .lst (SqL.of e) (RpA.dp _ _ r)
theorem RvS.list {ds : List PyData} (h : RvS K av H v (.list ds)) : ∃ p vs, v = .ref p ∧ SqL K H p vs ∧ RpA K av H vs ds := by
  rcases h with h | ⟨p, vs, es, rfl, e0, e, r⟩
  · cases h with
    | lst h1 h2 => exact ⟨_, _, rfl, h1.sq, h2⟩
  · cases e0
    exact ⟨p, vs, rfl, SqL.of e, r⟩
theorem RvS.tuple {ds : List PyData} (h : RvS K av H v (.tuple ds)) : ∃ p vs, v = .ref p ∧ RT K av H p vs ∧ RpA K av H vs ds := by
  rcases h with h | ⟨p, vs, es, rfl, e0, e, r⟩
  · cases h with
    | tup h1 h2 => exact ⟨_, _, rfl, h1, h2⟩
  · cases e0
theorem RvS.int {i : Int} (h : RvS K av H v (.int i)) : v = .int i := by
  rcases h with h | ⟨p, vs, es, rfl, e0, e, r⟩
  · cases h; rfl
  · cases e0
theorem RvS.bool {b : Bool} (h : RvS K av H v (.bool b)) : v = .bl b := by
  rcases h with h | ⟨p, vs, es, rfl, e0, e, r⟩
  · cases h; rfl
  · cases e0
theorem RvS.str {x : Str} (h : RvS K av H v (.str x)) : v = .str x := by
  rcases h with h | ⟨p, vs, es, rfl, e0, e, r⟩
  · cases h; rfl
  · cases e0
theorem RvS.none (h : RvS K av H v .none) : v = .non := by
  rcases h with h | ⟨p, vs, es, rfl, e0, e, r⟩
  · cases h; rfl
  · cases e0
end

/-! ### what an operation gives -/
inductive Res where
  | dat (d : PyData)
  | own (ds : List PyData)
def Res.ev : Res → EV
  | .dat d => .dat d
  | .own ds => .own ds
def ResR (K : PySem.W.Frag) (av : Av) (H H' : Hp) (v : V) : Res → Prop
  | .dat d => Rp K av H' v d
  | .own ds => ∃ p vs, v = .ref p ∧ H p = none ∧ H' p = some (.lst vs) ∧ RpA K (fun a => av a ∨ a = p) H' vs ds
abbrev Fr0 (H H' : Hp) : Prop := Fr (fun _ => False) H H'
/-- behind an operation -/
theorem res_end {K : PySem.W.Frag} {fo fo' : Av} {ss' : SS} {σ : St} {H1 H' : Hp} {v : V} {r : Res} (s : StR K fo' ss' σ H1) (hb : ∀ a, fo a → fo' a) (f : Fr0 H1 H') (h : ResR K (AvS fo' ss' σ) H1 H' v r) :
    ∃ fo2 : Av, Tn fo ss' σ H1 fo2 ss' σ H' ∧ StR K fo2 ss' σ H' ∧ EVr K fo fo2 ss' σ H' v r.ev := by
  cases r with
  | dat d => exact ⟨fo, .grow f, (s.less hb).mono f, Rp.weak (fun a z => .inl (z.imp (hb a) (fun q => q))) _ _ h⟩
  | own ds =>
    obtain ⟨p, vs, e1, e2, e3, r⟩ := h
    have np : ¬ fo p := fun z => s.alive p (hb p z) e2
    refine ⟨fun a => fo a ∨ a = p, ⟨f.mono fun _ z => z.elim, fun _ z => .inl z, fun a z => ?_⟩, (s.less hb).more (fun a z => ?_) f (fun a z => ?_) (fun a z => ?_), ⟨p, vs, e1, .inr rfl, np, e3, RpA.weak (fun a z => .inl ?_) _ _ r⟩⟩
    · rcases z with (z | z) | z
      · exact .inl (.inl z)
      · exact .inr (z ▸ e2)
      · exact .inl (.inr z)
    · rcases z with z | z
      · exact .inl (.inl z)
      · exact .inr (z ▸ e2)
    · rcases z with z | z
      · exact f.dom a (s.alive a (hb a z))
      · subst z
        rw [e3]
        exact fun q => nomatch q
    · rcases z with z | z
      · exact s.apart a (hb a z)
      · subst z
        exact fun q => s.there q e2
    · rcases z with (z | z) | z
      · exact .inl (.inl (hb a z))
      · exact .inr z
      · exact .inl (.inr z)
/-! ### what readings give -/
def TEv (K : PySem.W.Frag) (te : TE) (f : M EV) : Prop := ∀ (fo : Av) (ss : SS) (σ : St) (H : Hp) (ev : EV) (ss' : SS) (Q : VK), StR K fo ss σ H → f ss = some (ev, ss') →
  (∀ fo' v H', Tn fo ss σ H fo' ss' σ H' → StR K fo' ss' σ H' → EVr K fo fo' ss' σ H' v ev → Q v H') → te σ H Q
def TTv (K : PySem.W.Frag) (tt : TT) (f : M Bool) : Prop := ∀ (fo : Av) (ss : SS) (σ : St) (H : Hp) (b : Bool) (ss' : SS) (Q : Bool → Hp → Prop), StR K fo ss σ H → f ss = some (b, ss') →
  (∀ H', Tn fo ss σ H fo ss' σ H' → StR K fo ss' σ H' → Q b H') → tt σ H Q
def TAv (K : PySem.W.Frag) (ta : TA) (f : M (List EV)) : Prop := ∀ (fo : Av) (ss : SS) (σ : St) (H : Hp) (evs : List EV) (ss' : SS) (Q : List V → Hp → Prop), StR K fo ss σ H → f ss = some (evs, ss') →
  (∀ fo' vs H', Tn fo ss σ H fo' ss' σ H' → StR K fo' ss' σ H' → EVrs K fo fo' ss' σ H' vs evs → Q vs H') → ta σ H Q
end Ly

/-! LyB: expressions: names, constants, operators, tests, calls. -/
namespace Ly
open PySem PySem.Spec L2

/-- the widest reading that gives f -/
def cE (K : PySem.W.Frag) (f : M EV) : TE := fun σ H Q => ∃ (fo : Av) (ss : SS) (ev : EV) (ss' : SS), StR K fo ss σ H ∧ f ss = some (ev, ss') ∧
  ∀ fo' v H', Tn fo ss σ H fo' ss' σ H' → StR K fo' ss' σ H' → EVr K fo fo' ss' σ H' v ev → Q v H'
def cT (K : PySem.W.Frag) (f : M Bool) : TT := fun σ H Q => ∃ (fo : Av) (ss : SS) (b : Bool) (ss' : SS), StR K fo ss σ H ∧ f ss = some (b, ss') ∧
  ∀ H', Tn fo ss σ H fo ss' σ H' → StR K fo ss' σ H' → Q b H'
def cA (K : PySem.W.Frag) (f : M (List EV)) : TA := fun σ H Q => ∃ (fo : Av) (ss : SS) (evs : List EV) (ss' : SS), StR K fo ss σ H ∧ f ss = some (evs, ss') ∧
  ∀ fo' vs H', Tn fo ss σ H fo' ss' σ H' → StR K fo' ss' σ H' → EVrs K fo fo' ss' σ H' vs evs → Q vs H'
theorem tev_cE {K : PySem.W.Frag} {f : M EV} : TEv K (cE K f) f := fun fo ss σ H ev ss' Q s e q => ⟨fo, ss, ev, ss', s, e, q⟩
theorem ttv_cT {K : PySem.W.Frag} {f : M Bool} : TTv K (cT K f) f := fun fo ss σ H ev ss' Q s e q => ⟨fo, ss, ev, ss', s, e, q⟩
theorem tav_cA {K : PySem.W.Frag} {f : M (List EV)} : TAv K (cA K f) f := fun fo ss σ H ev ss' Q s e q => ⟨fo, ss, ev, ss', s, e, q⟩
structure SE (X : Cx) (e : Expr) (f : M EV) : Prop where
  pe : PE X e (cE X.K f)
structure ST (X : Cx) (e : Expr) (f : M Bool) : Prop where
  pt : PT X e (cT X.K f)
/-- a test inside and, or -/
structure SW (X : Cx) (e : Expr) (f : M Bool) : Prop where
  pw : PW X e (cT X.K f)
structure SA (X : Cx) (es : List Expr) (f : M (List EV)) : Prop where
  pa : PA X es (cA X.K f)
theorem SE.of {X : Cx} {e : Expr} {te : TE} {f : M EV} (p : PE X e te) (k : TEv X.K te f) : SE X e f :=
  ⟨⟨fun pins s σ H Q I ⟨fo, ss, ev, ss', st, e1, q⟩ => p.run pins s σ H Q I (k fo ss σ H ev ss' Q st e1 q)⟩⟩
theorem ST.of {X : Cx} {e : Expr} {tt : TT} {f : M Bool} (p : PT X e tt) (k : TTv X.K tt f) : ST X e f :=
  ⟨⟨fun pins s σ H Q I ⟨fo, ss, ev, ss', st, e1, q⟩ => p.run pins s σ H Q I (k fo ss σ H ev ss' Q st e1 q)⟩⟩
theorem SW.of {X : Cx} {e : Expr} {tt : TT} {f : M Bool} (p : PW X e tt) (k : TTv X.K tt f) : SW X e f :=
  ⟨⟨fun whole pins s σ H Q I ⟨fo, ss, ev, ss', st, e1, q⟩ => p.run whole pins s σ H Q I (k fo ss σ H ev ss' Q st e1 q)⟩⟩
theorem SA.of {X : Cx} {es : List Expr} {ta : TA} {f : M (List EV)} (p : PA X es ta) (k : TAv X.K ta f) : SA X es f :=
  ⟨⟨fun pos pins s σ H Q I ⟨fo, ss, ev, ss', st, e1, q⟩ => p.run pos pins s σ H Q I (k fo ss σ H ev ss' Q st e1 q)⟩⟩
theorem SE.ex {X : Cx} {e : Expr} {f : M EV} (h : SE X e f) : ∃ te, PE X e te ∧ TEv X.K te f := ⟨_, h.pe, tev_cE⟩
theorem ST.ex {X : Cx} {e : Expr} {f : M Bool} (h : ST X e f) : ∃ te, PT X e te ∧ TTv X.K te f := ⟨_, h.pt, ttv_cT⟩
theorem SW.ex {X : Cx} {e : Expr} {f : M Bool} (h : SW X e f) : ∃ te, PW X e te ∧ TTv X.K te f := ⟨_, h.pw, ttv_cT⟩
theorem SA.ex {X : Cx} {e : List Expr} {f : M (List EV)} (h : SA X e f) : ∃ te, PA X e te ∧ TAv X.K te f := ⟨_, h.pa, tav_cA⟩

theorem StR.avthere {K : PySem.W.Frag} {fo : Av} {ss : SS} {σ : St} {H : Hp} (s : StR K fo ss σ H) : ∀ a, AvS fo ss σ a → H a ≠ none := fun a z => z.elim (s.alive a) s.there
inductive RvA (K : PySem.W.Frag) (av : Av) (H : Hp) : List V → List PyData → Prop
  | nil : RvA K av H [] []
  | cons {v : V} {vs : List V} {d : PyData} {ds : List PyData} : RvS K av H v d → RvA K av H vs ds → RvA K av H (v :: vs) (d :: ds)
def vals (ss : SS) : List EV → Option (List PyData)
  | [] => some []
  | e :: es => (val ss e).bind fun d => (vals ss es).bind fun ds => some (d :: ds)
def frzs : List EV → Option (List PyData)
  | [] => some []
  | e :: es => (frz e).bind fun d => (frzs es).bind fun ds => some (d :: ds)
section
variable {K : PySem.W.Frag} {fo0 fo fo' fo1 fo2 av : Av} {ss ss' ss1 ss2 : SS} {σ σ' : St} {H H' H1 H2 : Hp} {v : V} {ev : EV} {d : PyData} {vs : List V} {evs : List EV} {ds : List PyData}
theorem EVrs.stay (t : Tn fo ss σ H fo' ss' σ' H') (hσ : σ' = σ) (s : StR K fo ss σ H) (h : EVrs K fo0 fo ss σ H vs evs) : EVrs K fo0 fo' ss' σ H' vs evs := by
  subst hσ
  induction h with
  | nil => exact .nil
  | cons h1 _ ih => exact .cons (h1.stay t s) ih
theorem EVrs.base (hb : ∀ a, fo0 a → fo1 a) (h : EVrs K fo1 fo ss σ H vs evs) : EVrs K fo0 fo ss σ H vs evs := by
  induction h with
  | nil => exact .nil
  | cons h1 _ ih => exact .cons (h1.base hb) ih
theorem EVrs.rv (s : StR K fo ss σ H) (h : EVrs K fo0 fo ss σ H vs evs) (e : vals ss evs = some ds) : RvA K (AvS fo ss σ) H vs ds := by
  induction h generalizing ds with
  | nil => cases e; exact .nil
  | cons h1 _ ih =>
    unfold vals at e
    obtain ⟨d, e1, e⟩ := Option.bind_eq_some_iff.mp e
    obtain ⟨ds', e2, e⟩ := Option.bind_eq_some_iff.mp e
    cases e
    exact .cons (h1.rv s e1) (ih e2)
theorem EVrs.fz (s : StR K fo ss σ H) (hb : ∀ a, fo0 a → fo a) (h : EVrs K fo0 fo ss σ H vs evs) (e : frzs evs = some ds) : RpA K (AvS fo0 ss σ) H vs ds := by
  induction h generalizing ds with
  | nil => cases e; exact .nil
  | cons h1 _ ih =>
    unfold frzs at e
    obtain ⟨d, e1, e⟩ := Option.bind_eq_some_iff.mp e
    obtain ⟨ds', e2, e⟩ := Option.bind_eq_some_iff.mp e
    cases e
    exact .cons (h1.fz s hb e1) (ih e2)
end

/-! ### names, constants -/
def eC (d : PyData) : M EV := fun ss => some (.dat d, ss)
def eV (i : Nat) : M EV := fun ss => match ss[i]? with
  | some (.dat d) => some (.dat d, ss)
  | some (.lst _) => some (.bor i, ss)
  | _ => none
/-- the list of the slot is given away: the name is not read again -/
def eMv (i : Nat) : M EV := fun ss => match ss[i]? with
  | some (.lst ds) => some (.own ds, ss.set i .un)
  | some (.dat d) => some (.dat d, ss)
  | _ => none
/-- the list of the slot is not changed any more -/
def eFz (i : Nat) : M EV := fun ss => match ss[i]? with
  | some (.lst ds) => some (.dat (.list ds), ss.set i (.dat (.list ds)))
  | some (.dat d) => some (.dat d, ss)
  | _ => none
section
variable {K : PySem.W.Frag} {fo : Av} {ss : SS} {σ : St} {H : Hp} {i : Nat} {ds : List PyData}
theorem set_get {α : Type} {l : List α} {i j : Nat} {x y : α} (h : (l.set i x)[j]? = some y) : (j = i ∧ y = x) ∨ (j ≠ i ∧ l[j]? = some y) := by
  by_cases e : j = i
  · subst e
    rw [List.getElem?_set] at h
    simp only [if_true] at h
    split at h
    · cases h
      exact .inl ⟨rfl, rfl⟩
    · cases h
  · rw [List.getElem?_set_ne (Ne.symm e)] at h
    exact .inr ⟨e, h⟩
theorem slotA_set {sl : SlotV} (h : ∀ ds, sl ≠ .lst ds) : ∀ a, SlotA (ss.set i sl) σ a → SlotA ss σ a := fun a ⟨j, ds, e1, e2⟩ => by
  rcases set_get e1 with ⟨_, q⟩ | ⟨_, q⟩
  · exact absurd q.symm (h ds)
  · exact ⟨j, ds, q, e2⟩
theorem slotA_un : ∀ a, SlotA (ss.set i .un) σ a → SlotA ss σ a := slotA_set (fun _ q => by cases q)
theorem slotA_dat {d : PyData} : ∀ a, SlotA (ss.set i (.dat d)) σ a → SlotA ss σ a := slotA_set (fun _ q => by cases q)
theorem tev_c {d : PyData} {v : V} (h : ∀ av H, Rp K av H v d) : TEv K (tC v) (eC d) := fun fo ss σ H ev ss' Q s e q => by
  cases e
  exact q fo v H .refl s (h _ _)
theorem tev_v {i : Nat} : TEv K (tVar i) (eV i) := fun fo ss σ H ev ss' Q s e q => by
  unfold eV at e
  split at e
  · rename_i d h
    cases e
    obtain ⟨v, e1, r⟩ := s.dat i d h
    exact ⟨v, e1, q fo v H .refl s r⟩
  · rename_i ds h
    cases e
    obtain ⟨p, vs, e1, e2, r⟩ := s.lst i ds h
    exact ⟨_, e1, q fo _ H .refl s e1⟩
  · cases e
/-- the slot i is let go: its list is foreign now -/
theorem StR.let_go (s : StR K fo ss σ H) {p : Addr} (h : ss[i]? = some (.lst ds)) (hp : σ[i]? = some (some (.ref p))) : StR K (fun a => fo a ∨ a = p) (ss.set i .un) σ H := by
  have sub : ∀ a, AvS (fun a => fo a ∨ a = p) (ss.set i .un) σ a → AvS fo ss σ a := fun a z => by
    rcases z with (z | z) | z
    · exact .inl z
    · subst z
      exact .inr ⟨i, ds, h, hp⟩
    · exact .inr (slotA_un a z)
  refine ⟨by rw [List.length_set]; exact s.len, fun j d e => ?_, fun j es e => ?_, fun j k q es es' e1 e2 e3 e4 => ?_, fun a z => ?_, fun a z q => ?_⟩
  · rcases set_get e with ⟨_, q⟩ | ⟨_, q⟩
    · cases q
    · obtain ⟨v, e1, r⟩ := s.dat j d q
      exact ⟨v, e1, Rp.weak (fun a z => .inl (sub a z)) _ _ r⟩
  · rcases set_get e with ⟨_, q⟩ | ⟨_, q⟩
    · cases q
    · obtain ⟨q1, vs, e1, e2, r⟩ := s.lst j es q
      exact ⟨q1, vs, e1, e2, RpA.weak (fun a z => .inl (sub a z)) _ _ r⟩
  · rcases set_get e1 with ⟨_, w⟩ | ⟨_, w⟩
    · cases w
    · rcases set_get e2 with ⟨_, w2⟩ | ⟨_, w2⟩
      · cases w2
      · exact s.dis j k q es es' w w2 e3 e4
  · rcases z with z | z
    · exact s.alive a z
    · subst z
      exact s.there ⟨i, ds, h, hp⟩
  · rcases z with z | z
    · exact s.apart a z (slotA_un a q)
    · subst z
      obtain ⟨j, es, e1, e2⟩ := q
      rcases set_get e1 with ⟨_, w⟩ | ⟨ne, w⟩
      · cases w
      · exact ne (s.dis j i a es ds w h e2 hp)
theorem tev_mv {i : Nat} : TEv K (tVar i) (eMv i) := fun fo ss σ H ev ss' Q s e q => by
  unfold eMv at e
  split at e
  · rename_i ds h
    cases e
    obtain ⟨p, vs, e1, e2, r⟩ := s.lst i ds h
    have s' := s.let_go h e1
    refine ⟨_, e1, q _ _ H ⟨.refl, fun _ z => .inl z, fun a z => .inl ?_⟩ s' ⟨p, vs, rfl, .inr rfl, fun z => s.apart p z ⟨i, ds, h, e1⟩, e2, RpA.weak (fun a z => .inl ?_) _ _ r⟩⟩ <;>
    · rcases z with (z | z) | z
      · exact .inl z
      · subst z
        exact .inr ⟨i, ds, h, e1⟩
      · exact .inr (slotA_un a z)
  · rename_i d h
    cases e
    obtain ⟨v, e1, r⟩ := s.dat i d h
    exact ⟨v, e1, q fo v H .refl s r⟩
  · cases e
theorem tev_fz {i : Nat} : TEv K (tVar i) (eFz i) := fun fo ss σ H ev ss' Q s e q => by
  unfold eFz at e
  split at e
  · rename_i ds h
    cases e
    obtain ⟨p, vs, e1, e2, r⟩ := s.lst i ds h
    have s1 := (s.let_go h e1).less (fo := fo) fun _ z => .inl z
    have sub : ∀ a, AvS fo (ss.set i (.dat (.list ds))) σ a → AvS fo ss σ a := fun a z => z.imp (fun z => z) (slotA_dat a)
    have sub2 : ∀ a, AvS fo (ss.set i (.dat (.list ds))) σ a → AvS fo (ss.set i .un) σ a := fun a z => z.imp (fun z => z) fun ⟨j, es, e1, e2⟩ => by
      rcases set_get e1 with ⟨_, w⟩ | ⟨ne, w⟩
      · cases w
      · exact ⟨j, es, by rw [List.getElem?_set_ne (Ne.symm ne)]; exact w, e2⟩
    have np : ¬ AvS fo (ss.set i (.dat (.list ds))) σ p := fun z => by
      rcases z with z | ⟨j, es, w1, w2⟩
      · exact s.apart p z ⟨i, ds, h, e1⟩
      · rcases set_get w1 with ⟨_, w⟩ | ⟨ne, w⟩
        · cases w
        · exact ne (s.dis j i p es ds w h w2 e1)
    have rp : Rp K (AvS fo (ss.set i (.dat (.list ds))) σ) H (.ref p) (.list ds) := .lst (.inl ⟨.inl e2, np⟩) (RpA.weak (fun a z => .inl (sub a z)) _ _ r)
    have back : ∀ {j : Nat} {es : List PyData}, (ss.set i (.dat (.list ds)))[j]? = some (.lst es) → (ss.set i .un)[j]? = some (.lst es) := fun {j es} w => by
      rcases set_get w with ⟨_, w⟩ | ⟨ne, w⟩
      · cases w
      · rw [List.getElem?_set_ne (Ne.symm ne)]
        exact w
    refine ⟨_, e1, q fo _ H ⟨.refl, fun _ z => z, fun a z => .inl (sub a z)⟩ ⟨by rw [List.length_set]; exact s.len, fun j d w => ?_, fun j es w => ?_, fun j k q es es' w1 w2 w3 w4 => s1.dis j k q es es' (back w1) (back w2) w3 w4, s.alive, fun a z ⟨j, es, w1, w2⟩ => s1.apart a z ⟨j, es, back w1, w2⟩⟩ rp⟩
    · rcases set_get w with ⟨w1, w2⟩ | ⟨ne, w⟩
      · cases w2
        subst w1
        exact ⟨_, e1, rp⟩
      · obtain ⟨v, w1, r⟩ := s1.dat j d (by rw [List.getElem?_set_ne (Ne.symm ne)]; exact w)
        exact ⟨v, w1, Rp.weak (fun a z => .inl (sub2 a z)) _ _ r⟩
    · obtain ⟨q1, vs, w1, w2, r⟩ := s1.lst j es (back w)
      exact ⟨q1, vs, w1, w2, RpA.weak (fun a z => .inl (sub2 a z)) _ _ r⟩
  · rename_i d h
    cases e
    obtain ⟨v, e1, r⟩ := s.dat i d h
    exact ⟨v, e1, q fo v H .refl s r⟩
  · cases e
end
section
variable {X : Cx}
theorem se_int {i j pos} : SE X (.Constant (.int i) j pos) (eC (.int i)) := SE.of (pe_int) (tev_c fun _ _ => .int i)
theorem se_bl {b j pos} : SE X (.Constant (.bool b) j pos) (eC (.bool b)) := SE.of (pe_bl) (tev_c fun _ _ => .bl b)
theorem se_non {j pos} : SE X (.Constant .none j pos) (eC .none) := SE.of (pe_non) (tev_c fun _ _ => .non)
theorem se_str {x j pos} : SE X (.Constant (.str x) j pos) (eC (.str x)) := SE.of (pe_str) (tev_c fun _ _ => .str x)
theorem se_v (i : Nat) {x : Str} {pos : Pos} (hN : X.N[i]? = some x := by rfl) (hv : Vis X.env.scope x := by first | exact Or.inl rfl | exact Or.inr (Or.inl rfl) | exact Or.inr (Or.inr rfl)) (hd : (x == ("__debug__" : Str)) = false := by decide)
    (hcd : (x == ("__classdict__" : Str)) = false := by decide) : SE X (.Name x pos) (eV i) := SE.of (pe_var hN hv hd hcd) (tev_v)
theorem se_mv (i : Nat) {x : Str} {pos : Pos} (hN : X.N[i]? = some x := by rfl) (hv : Vis X.env.scope x := by first | exact Or.inl rfl | exact Or.inr (Or.inl rfl) | exact Or.inr (Or.inr rfl)) (hd : (x == ("__debug__" : Str)) = false := by decide)
    (hcd : (x == ("__classdict__" : Str)) = false := by decide) : SE X (.Name x pos) (eMv i) := SE.of (pe_var hN hv hd hcd) (tev_mv)
theorem se_fz (i : Nat) {x : Str} {pos : Pos} (hN : X.N[i]? = some x := by rfl) (hv : Vis X.env.scope x := by first | exact Or.inl rfl | exact Or.inr (Or.inl rfl) | exact Or.inr (Or.inr rfl)) (hd : (x == ("__debug__" : Str)) = false := by decide)
    (hcd : (x == ("__classdict__" : Str)) = false := by decide) : SE X (.Name x pos) (eFz i) := SE.of (pe_var hN hv hd hcd) (tev_fz)
/-- a module's constant: an int, a text, .. -/
theorem se_gint {x : Str} {i : Int} {pos : Pos} (hm : ∃ t, X.mg x = some (.int i t)) (hg : Gl X x := by rfl) (hd : (x == ("__debug__" : Str)) = false := by decide) : SE X (.Name x pos) (eC (.int i)) := by
  obtain ⟨t, hm⟩ := hm
  exact SE.of (pe_glob (v := .int i) hg hm ⟨t, rfl⟩ hd) (tev_c fun _ _ => .int i)
theorem se_gstr {x z : Str} {pos : Pos} (hm : ∃ t, X.mg x = some (.str z t)) (hg : Gl X x := by rfl) (hd : (x == ("__debug__" : Str)) = false := by decide) : SE X (.Name x pos) (eC (.str z)) := by
  obtain ⟨t, hm⟩ := hm
  exact SE.of (pe_glob (v := .str z) hg hm ⟨t, rfl⟩ hd) (tev_c fun _ _ => .str z)
end

/-! ### operators -/
def OpSp (K : PySem.W.Frag) (r : R2) (g : PyData → PyData → Option Res) : Prop := ∀ (av : Av) (H : Hp) (x y : V) (d e : PyData) (res : Res) (Q : VK), RvS K av H x d → RvS K av H y e → g d e = some res → (∀ a, av a → H a ≠ none) →
  (∀ v H', Fr0 H H' → ResR K av H H' v res → Q v H') → r x y H Q
def UnSp (K : PySem.W.Frag) (r : V → Hp → VK → Prop) (g : PyData → Option Res) : Prop := ∀ (av : Av) (H : Hp) (x : V) (d : PyData) (res : Res) (Q : VK), RvS K av H x d → g d = some res → (∀ a, av a → H a ≠ none) →
  (∀ v H', Fr0 H H' → ResR K av H H' v res → Q v H') → r x H Q
def CallSp (K : PySem.W.Frag) (r : List V → Hp → VK → Prop) (g : List PyData → Option Res) : Prop := ∀ (av : Av) (H : Hp) (xs : List V) (ds : List PyData) (res : Res) (Q : VK), RvA K av H xs ds → g ds = some res → (∀ a, av a → H a ≠ none) →
  (∀ v H', Fr0 H H' → ResR K av H H' v res → Q v H') → r xs H Q
def eOp2 (g : PyData → PyData → Option Res) (fa fb : M EV) : M EV := fun ss =>
  (fa ss).bind fun a => (fb a.2).bind fun b => (val b.2 a.1).bind fun x => (val b.2 b.1).bind fun y => (g x y).bind fun r => some (r.ev, b.2)
def eUn (g : PyData → Option Res) (fa : M EV) : M EV := fun ss =>
  (fa ss).bind fun a => (val a.2 a.1).bind fun x => (g x).bind fun r => some (r.ev, a.2)
def eCB (g : List PyData → Option Res) (fa : M (List EV)) : M EV := fun ss =>
  (fa ss).bind fun a => (vals a.2 a.1).bind fun ds => (g ds).bind fun r => some (r.ev, a.2)
section
variable {K : PySem.W.Frag} {ta tb te : TE} {fa fb : M EV} {X : Cx} {a b : Expr} {pos : Pos}
/-- two operands: what holds behind them -/
theorem two {fo : Av} {ss s1 s2 : SS} {σ : St} {H : Hp} {ea eb : EV} {x y : PyData} {R : V → V → Hp → Prop} (ha : TEv K ta fa) (hb : TEv K tb fb) (s : StR K fo ss σ H) (e1 : fa ss = some (ea, s1)) (e2 : fb s1 = some (eb, s2)) (v1 : val s2 ea = some x) (v2 : val s2 eb = some y)
    (k : ∀ fo' u v H', Tn fo ss σ H fo' s2 σ H' → StR K fo' s2 σ H' → RvS K (AvS fo' s2 σ) H' u x → RvS K (AvS fo' s2 σ) H' v y → R u v H') : ta σ H fun u H1 => tb σ H1 fun v H2 => R u v H2 := by
  refine ha fo ss σ H ea s1 _ s e1 fun fo1 u H1 t1 st1 r1 => ?_
  refine hb fo1 s1 σ H1 eb s2 _ st1 e2 fun fo2 v H2 t2 st2 r2 => ?_
  exact k fo2 u v H2 (t1.trans st1 t2) st2 ((r1.stay t2 st1).rv st2 v1) (r2.rv st2 v2)
theorem tev_op2 {r : R2} {g : PyData → PyData → Option Res} (hr : OpSp K r g) (ha : TEv K ta fa) (hb : TEv K tb fb) : TEv K (tOp r ta tb) (eOp2 g fa fb) := fun fo ss σ H ev ss' Q s e q => by
  unfold eOp2 at e
  obtain ⟨⟨ea, s1⟩, e1, e⟩ := Option.bind_eq_some_iff.mp e
  obtain ⟨⟨eb, s2⟩, e2, e⟩ := Option.bind_eq_some_iff.mp e
  obtain ⟨x, e3, e⟩ := Option.bind_eq_some_iff.mp e
  obtain ⟨y, e4, e⟩ := Option.bind_eq_some_iff.mp e
  obtain ⟨res, e5, e⟩ := Option.bind_eq_some_iff.mp e
  cases e
  refine two ha hb s e1 e2 e3 e4 fun fo' u v H' t st ru rv => ?_
  refine hr _ H' u v x y res Q ru rv e5 st.avthere fun z H2 f rz => ?_
  obtain ⟨fo2, t2, st2, r2⟩ := res_end st t.fm f rz
  exact q fo2 z H2 ((t.less).trans (st.less t.fm) t2) st2 r2
theorem tev_un {r : V → Hp → VK → Prop} {g : PyData → Option Res} (hr : UnSp K r g) (ha : TEv K ta fa) : TEv K (tUn r ta) (eUn g fa) := fun fo ss σ H ev ss' Q s e q => by
  unfold eUn at e
  obtain ⟨⟨ea, s1⟩, e1, e⟩ := Option.bind_eq_some_iff.mp e
  obtain ⟨x, e3, e⟩ := Option.bind_eq_some_iff.mp e
  obtain ⟨res, e5, e⟩ := Option.bind_eq_some_iff.mp e
  cases e
  refine ha fo ss σ H ea s1 _ s e1 fun fo1 u H1 t1 st1 r1 => ?_
  refine hr _ H1 u x res Q (r1.rv st1 e3) e5 st1.avthere fun z H2 f rz => ?_
  obtain ⟨fo2, t2, st2, r2⟩ := res_end st1 t1.fm f rz
  exact q fo2 z H2 ((t1.less).trans (st1.less t1.fm) t2) st2 r2
theorem se_op2 {op : Operator} {r : R2} {g : PyData → PyData → Option Res} (ho : OpR X (binaryOp op) r) (hr : OpSp X.K r g) (ha : SE X a fa) (hb : SE X b fb) : SE X (.BinOp a op b pos) (eOp2 g fa fb) := by
  obtain ⟨ta, pa, ka⟩ := ha.ex
  obtain ⟨tb, pb, kb⟩ := hb.ex
  exact SE.of (pe_op ho pa pb) (tev_op2 hr ka kb)
theorem se_un {op : UnaryOp} {r : V → Hp → VK → Prop} {g : PyData → Option Res} (ho : UnR X (unaryOp op) r) (hr : UnSp X.K r g) (ha : SE X a fa) : SE X (.UnaryOp op a pos) (eUn g fa) := by
  obtain ⟨ta, pa, ka⟩ := ha.ex
  exact SE.of (pe_un ho pa) (tev_un hr ka)
theorem se_cmp {op : CmpOp} {r : R2} {g : PyData → PyData → Option Res} (ho : OpR X (compareOp op) r) (hr : OpSp X.K r g) (ha : SE X a fa) (hb : SE X b fb) (hm : behindInMarks op b = false) : SE X (.Compare a [op] [b] pos) (eOp2 g fa fb) := by
  obtain ⟨ta, pa, ka⟩ := ha.ex
  obtain ⟨tb, pb, kb⟩ := hb.ex
  exact SE.of (pe_cmpR ho pa pb hm) (tev_op2 hr ka kb)
theorem se_ix {r : R2} {g : PyData → PyData → Option Res} (ho : IxR X r) (hr : OpSp X.K r g) (ha : SE X a fa) (hb : SE X b fb) (hs : PlainIx b) : SE X (.Subscript a b pos) (eOp2 g fa fb) := by
  obtain ⟨ta, pa, ka⟩ := ha.ex
  obtain ⟨tb, pb, kb⟩ := hb.ex
  exact SE.of (pe_ix ho pa pb hs) (tev_op2 hr ka kb)
/-- tests -/
def mT (t : M EV) (g : PyData → Option Bool) : M Bool := fun ss => (t ss).bind fun a => (val a.2 a.1).bind fun x => (g x).bind fun b => some (b, a.2)
def boolD : PyData → Option Bool
  | .bool b => some b
  | _ => none
theorem ttv_B {f : M EV} (h : TEv K ta f) : TTv K (tTest ta) (mT f boolD) := fun fo ss σ H b ss' Q s e q => by
  unfold mT at e
  obtain ⟨⟨ea, s1⟩, e1, e⟩ := Option.bind_eq_some_iff.mp e
  obtain ⟨x, e3, e⟩ := Option.bind_eq_some_iff.mp e
  obtain ⟨k, e5, e⟩ := Option.bind_eq_some_iff.mp e
  cases e
  refine h fo ss σ H ea s1 _ s e1 fun fo1 u H1 t1 st1 r1 => ?_
  cases x with
  | bool c =>
    cases e5
    exact ⟨_, (r1.rv st1 e3).bool, q H1 t1.less (st1.less t1.fm)⟩
  | _ => cases e5
theorem st_cmp {op : CmpOp} {r : R2} {g : PyData → PyData → Option Res} (ho : OpR X (compareOp op) r) (hr : OpSp X.K r g) (ha : SE X a fa) (hb : SE X b fb) (hm : behindInMarks op b = false) : ST X (.Compare a [op] [b] pos) (mT (eOp2 g fa fb) boolD) := by
  obtain ⟨ta, pa, ka⟩ := ha.ex
  obtain ⟨tb, pb, kb⟩ := hb.ex
  exact ST.of (pt_cmpR ho pa pb hm) (ttv_B (tev_op2 hr ka kb))
/-- truth -/
def big : Nat := 1000000
theorem big_ok {n : Nat} (h : n ≤ big) : n ≤ sizeLine := Nat.le_trans h (by decide)
theorem big_lt {n : Nat} (h : n < big) : n < sizeLine := Nat.lt_of_lt_of_le h (by decide)
def truD : PyData → Option Bool
  | .none => some false
  | .bool b => some b
  | .int i => some (i != 0)
  | .str x => if x.length ≤ big then some ((x.length : Int) != 0) else none
  | .list xs => some (!xs.isEmpty)
  | .tuple xs => some (!xs.isEmpty)
  | _ => none
theorem isEmpty_rp {av : Av} {H : Hp} {vs : List V} {ds : List PyData} (h : RpA K av H vs ds) : vs.isEmpty = ds.isEmpty := by
  cases h <;> rfl
theorem ttv_tr {f : M EV} (h : TEv K ta f) : TTv K (fun σ H Q => ta σ H fun x H' => ∃ k, TruV K x H' k ∧ Q k H') (mT f truD) := fun fo ss σ H b ss' Q s e q => by
  unfold mT at e
  obtain ⟨⟨ea, s1⟩, e1, e⟩ := Option.bind_eq_some_iff.mp e
  obtain ⟨x, e3, e⟩ := Option.bind_eq_some_iff.mp e
  obtain ⟨k, e5, e⟩ := Option.bind_eq_some_iff.mp e
  cases e
  refine h fo ss σ H ea s1 _ s e1 fun fo1 u H1 t1 st1 r1 => ?_
  refine ⟨b, ?_, q H1 t1.less (st1.less t1.fm)⟩
  have rv := r1.rv st1 e3
  cases x with
  | none => rw [rv.none]; cases e5; rfl
  | bool c => rw [rv.bool]; cases e5; rfl
  | int c => rw [rv.int]; cases e5; rfl
  | str c =>
    rw [rv.str]
    simp only [truD] at e5
    split at e5
    · rename_i hb
      cases e5
      exact ⟨big_ok hb, rfl⟩
    · cases e5
  | list xs =>
    obtain ⟨p, vs, rfl, h1, h2⟩ := rv.list
    cases e5
    exact .inl ⟨vs, h1, by rw [isEmpty_rp h2]⟩
  | tuple xs =>
    obtain ⟨p, vs, rfl, h1, h2⟩ := rv.tuple
    cases e5
    exact .inr (.inl ⟨vs, h1.sq, by rw [isEmpty_rp h2]⟩)
  | dict _ => cases e5
theorem st_tr {f : M EV} (h : SE X a f) (he : ∀ whole, isTrue a X.env whole = (do let v ← whole; standAt a.pos; holding [v] (truthy v)) := by intro _; rfl) : ST X a (mT f truD) := by
  obtain ⟨ta, pa, ka⟩ := h.ex
  exact ST.of (pt_truth pa he) (ttv_tr ka)
def mAnd (f g : M Bool) : M Bool := fun ss => (f ss).bind fun a => if a.1 = true then g a.2 else some (false, a.2)
def mOr (f g : M Bool) : M Bool := fun ss => (f ss).bind fun a => if a.1 = true then some (true, a.2) else g a.2
def mNot (f : M Bool) : M Bool := fun ss => (f ss).bind fun a => some (!a.1, a.2)
variable {ft fu : M Bool} {tt tu : TT} {rest : List Expr}
theorem ttv_and (h1 : TTv K tt ft) (h2 : TTv K tu fu) : TTv K (tAnd tt tu) (mAnd ft fu) := fun fo ss σ H b ss' Q s e q => by
  unfold mAnd at e
  obtain ⟨⟨c, s1⟩, e1, e⟩ := Option.bind_eq_some_iff.mp e
  refine h1 fo ss σ H c s1 _ s e1 fun H1 t1 st1 => ?_
  cases c with
  | true =>
    exact (show tu σ H1 Q from h2 fo s1 σ H1 b ss' Q st1 e fun H2 t2 st2 => q H2 (t1.trans st1 t2) st2)
  | false =>
    cases e
    exact (show Q false H1 from q H1 t1 st1)
theorem ttv_or (h1 : TTv K tt ft) (h2 : TTv K tu fu) : TTv K (tOr tt tu) (mOr ft fu) := fun fo ss σ H b ss' Q s e q => by
  unfold mOr at e
  obtain ⟨⟨c, s1⟩, e1, e⟩ := Option.bind_eq_some_iff.mp e
  refine h1 fo ss σ H c s1 _ s e1 fun H1 t1 st1 => ?_
  cases c with
  | false =>
    exact (show tu σ H1 Q from h2 fo s1 σ H1 b ss' Q st1 e fun H2 t2 st2 => q H2 (t1.trans st1 t2) st2)
  | true =>
    cases e
    exact (show Q true H1 from q H1 t1 st1)
theorem ttv_not (h1 : TTv K tt ft) : TTv K (tNot tt) (mNot ft) := fun fo ss σ H b ss' Q s e q => by
  unfold mNot at e
  obtain ⟨⟨c, s1⟩, e1, e⟩ := Option.bind_eq_some_iff.mp e
  cases e
  exact h1 fo ss σ H c s1 _ s e1 fun H1 t1 st1 => q H1 t1 st1
theorem sw_and1 (h : ST X a ft) : SW X (.BoolOp .And [a] pos) ft := let ⟨t, p, k⟩ := h.ex; SW.of (pw_and1 p) (k)
theorem sw_or1 (h : ST X a ft) : SW X (.BoolOp .Or [a] pos) ft := let ⟨t, p, k⟩ := h.ex; SW.of (pw_or1 p) (k)
theorem sw_and (h : ST X a ft) (h2 : SW X (.BoolOp .And (b :: rest) pos) fu) : SW X (.BoolOp .And (a :: b :: rest) pos) (mAnd ft fu) := by
  obtain ⟨t, p, k⟩ := h.ex
  obtain ⟨t2, p2, k2⟩ := h2.ex
  exact SW.of (pw_and p p2) (ttv_and k k2)
theorem sw_or (h : ST X a ft) (h2 : SW X (.BoolOp .Or (b :: rest) pos) fu) : SW X (.BoolOp .Or (a :: b :: rest) pos) (mOr ft fu) := by
  obtain ⟨t, p, k⟩ := h.ex
  obtain ⟨t2, p2, k2⟩ := h2.ex
  exact SW.of (pw_or p p2) (ttv_or k k2)
theorem st_w (h : SW X a ft) : ST X a ft := let ⟨t, p, k⟩ := h.ex; ST.of (p.pt) (k)
theorem st_not (h : ST X a ft) : ST X (.UnaryOp .Not a pos) (mNot ft) := let ⟨t, p, k⟩ := h.ex; ST.of (pt_not p) (ttv_not k)
/-- and, or, not as values: all but the last True or False -/
def eAnd (f g : M EV) : M EV := fun ss => (f ss).bind fun a => match a.1 with
  | .dat (.bool true) => g a.2
  | .dat (.bool false) => some (.dat (.bool false), a.2)
  | _ => none
def eOr (f g : M EV) : M EV := fun ss => (f ss).bind fun a => match a.1 with
  | .dat (.bool false) => g a.2
  | .dat (.bool true) => some (.dat (.bool true), a.2)
  | _ => none
def notD : PyData → Option Res
  | .bool b => some (.dat (.bool (!b)))
  | _ => none
def eNot (f : M EV) : M EV := eUn notD f
theorem dat_bool {fo0 fo : Av} {ss : SS} {σ : St} {H : Hp} {v : V} {b : Bool} (h : EVr K fo0 fo ss σ H v (.dat (.bool b))) : v = .bl b := by
  cases (show Rp K (AvS fo ss σ) H v (.bool b) from h)
  rfl
theorem tev_and (h1 : TEv K ta fa) (h2 : TEv K tb fb) : TEv K (tAndV ta tb) (eAnd fa fb) := fun fo ss σ H ev ss' Q s e q => by
  unfold eAnd at e
  obtain ⟨⟨c, s1⟩, e1, e⟩ := Option.bind_eq_some_iff.mp e
  refine h1 fo ss σ H c s1 _ s e1 fun fo1 u H1 t1 st1 r1 => ?_
  split at e
  · rename_i hc
    cases hc
    refine ⟨true, dat_bool r1, ?_⟩
    exact (show tb σ H1 Q from h2 fo s1 σ H1 ev ss' Q (st1.less t1.fm) e fun fo2 v H2 t2 st2 r2 => q fo2 v H2 (t1.less.trans (st1.less t1.fm) t2) st2 r2)
  · rename_i hc
    cases hc
    cases e
    refine ⟨false, dat_bool r1, ?_⟩
    exact (show Q (.bl false) H1 from q fo _ H1 t1.less (st1.less t1.fm) (show Rp K _ _ _ _ from .bl false))
  · cases e
theorem tev_or (h1 : TEv K ta fa) (h2 : TEv K tb fb) : TEv K (tOrV ta tb) (eOr fa fb) := fun fo ss σ H ev ss' Q s e q => by
  unfold eOr at e
  obtain ⟨⟨c, s1⟩, e1, e⟩ := Option.bind_eq_some_iff.mp e
  refine h1 fo ss σ H c s1 _ s e1 fun fo1 u H1 t1 st1 r1 => ?_
  split at e
  · rename_i hc
    cases hc
    refine ⟨false, dat_bool r1, ?_⟩
    exact (show tb σ H1 Q from h2 fo s1 σ H1 ev ss' Q (st1.less t1.fm) e fun fo2 v H2 t2 st2 r2 => q fo2 v H2 (t1.less.trans (st1.less t1.fm) t2) st2 r2)
  · rename_i hc
    cases hc
    cases e
    refine ⟨true, dat_bool r1, ?_⟩
    exact (show Q (.bl true) H1 from q fo _ H1 t1.less (st1.less t1.fm) (show Rp K _ _ _ _ from .bl true))
  · cases e
theorem tev_not (h1 : TEv K ta fa) : TEv K (tNotV ta) (eNot fa) := fun fo ss σ H ev ss' Q s e q => by
  unfold eNot eUn at e
  obtain ⟨⟨ea, s1⟩, e1, e⟩ := Option.bind_eq_some_iff.mp e
  obtain ⟨x, e3, e⟩ := Option.bind_eq_some_iff.mp e
  obtain ⟨res, e5, e⟩ := Option.bind_eq_some_iff.mp e
  cases e
  refine h1 fo ss σ H ea s1 _ s e1 fun fo1 u H1 t1 st1 r1 => ?_
  cases x with
  | bool c =>
    cases e5
    exact ⟨c, (r1.rv st1 e3).bool, q fo _ H1 t1.less (st1.less t1.fm) (show Rp K _ _ _ _ from .bl _)⟩
  | _ => cases e5
theorem se_one {op} (h : SE X a fa) : SE X (.BoolOp op [a] pos) fa := let ⟨t, p, k⟩ := h.ex; SE.of (pe_one p) (k)
theorem se_and (h : SE X a fa) (h2 : SE X (.BoolOp .And (b :: rest) pos) fb) : SE X (.BoolOp .And (a :: b :: rest) pos) (eAnd fa fb) := by
  obtain ⟨t, p, k⟩ := h.ex
  obtain ⟨t2, p2, k2⟩ := h2.ex
  exact SE.of (pe_and p p2) (tev_and k k2)
theorem se_or (h : SE X a fa) (h2 : SE X (.BoolOp .Or (b :: rest) pos) fb) : SE X (.BoolOp .Or (a :: b :: rest) pos) (eOr fa fb) := by
  obtain ⟨t, p, k⟩ := h.ex
  obtain ⟨t2, p2, k2⟩ := h2.ex
  exact SE.of (pe_or p p2) (tev_or k k2)
theorem se_not (h : SE X a fa) : SE X (.UnaryOp .Not a pos) (eNot fa) := let ⟨t, p, k⟩ := h.ex; SE.of (pe_not p) (tev_not k)
/-- a if c else b -/
def eIf (c : M Bool) (f g : M EV) : M EV := fun ss => (c ss).bind fun a => if a.1 = true then f a.2 else g a.2
theorem tev_if (hc : TTv K tt ft) (h1 : TEv K ta fa) (h2 : TEv K tb fb) : TEv K (tIf tt ta tb) (eIf ft fa fb) := fun fo ss σ H ev ss' Q s e q => by
  unfold eIf at e
  obtain ⟨⟨c, s1⟩, e1, e⟩ := Option.bind_eq_some_iff.mp e
  refine hc fo ss σ H c s1 _ s e1 fun H1 t1 st1 => ?_
  cases c with
  | true => exact (show ta σ H1 Q from h1 fo s1 σ H1 ev ss' Q st1 e fun fo2 v H2 t2 st2 r2 => q fo2 v H2 (t1.trans st1 t2) st2 r2)
  | false => exact (show tb σ H1 Q from h2 fo s1 σ H1 ev ss' Q st1 e fun fo2 v H2 t2 st2 r2 => q fo2 v H2 (t1.trans st1 t2) st2 r2)
theorem se_if {c : Expr} (hc : ST X c ft) (h1 : SE X a fa) (h2 : SE X b fb) : SE X (.IfExp c a b pos) (eIf ft fa fb) := by
  obtain ⟨t, p, k⟩ := hc.ex
  obtain ⟨t1, p1, k1⟩ := h1.ex
  obtain ⟨t2, p2, k2⟩ := h2.ex
  exact SE.of (pe_ifExp p p1 p2) (tev_if k k1 k2)
/-- a op b op' c -/
def eChain (g g' : PyData → PyData → Option Res) (fa fb fc : M EV) : M EV := fun ss =>
  (fa ss).bind fun a => (fb a.2).bind fun b => (val b.2 a.1).bind fun x => (val b.2 b.1).bind fun y => match g x y with
    | some (.dat (.bool true)) => (fc b.2).bind fun c => (val c.2 b.1).bind fun y => (val c.2 c.1).bind fun z => (g' y z).bind fun r => some (r.ev, c.2)
    | some (.dat (.bool false)) => some (.dat (.bool false), b.2)
    | _ => none
theorem rp_bool {av : Av} {H : Hp} {v : V} {b : Bool} (h : Rp K av H v (.bool b)) : v = .bl b := by
  cases h
  rfl
theorem tev_chain {fc : M EV} {tc : TE} {r r' : R2} {g g' : PyData → PyData → Option Res} (hr : OpSp K r g) (hr' : OpSp K r' g') (ha : TEv K ta fa) (hb : TEv K tb fb) (hc : TEv K tc fc) : TEv K (tChain r r' ta tb tc) (eChain g g' fa fb fc) := fun fo ss σ H ev ss' Q s e q => by
  unfold eChain at e
  obtain ⟨⟨ea, s1⟩, e1, e⟩ := Option.bind_eq_some_iff.mp e
  obtain ⟨⟨eb, s2⟩, e2, e⟩ := Option.bind_eq_some_iff.mp e
  obtain ⟨x, e3, e⟩ := Option.bind_eq_some_iff.mp e
  obtain ⟨y, e4, e⟩ := Option.bind_eq_some_iff.mp e
  refine ha fo ss σ H ea s1 _ s e1 fun fo1 u H1 t1 st1 r1 => ?_
  refine hb fo1 s1 σ H1 eb s2 _ st1 e2 fun fo2 v H2 t2 st2 r2 => ?_
  have t12 := t1.trans st1 t2
  have ru := (r1.stay t2 st1).rv st2 e3
  have rv := r2.rv st2 e4
  split at e
  · rename_i hg
    refine hr _ H2 u v x y _ _ ru rv hg st2.avthere fun z H3 f rz => ?_
    have ez := rp_bool (show Rp K _ _ _ _ from rz)
    refine ⟨true, ez, ?_⟩
    refine (show tc σ H3 fun w' H4 => r' v w' H4 Q from ?_)
    obtain ⟨⟨ec, s3⟩, e5, e⟩ := Option.bind_eq_some_iff.mp e
    obtain ⟨y', e6, e⟩ := Option.bind_eq_some_iff.mp e
    obtain ⟨z', e7, e⟩ := Option.bind_eq_some_iff.mp e
    obtain ⟨res, e8, e⟩ := Option.bind_eq_some_iff.mp e
    cases e
    have t23 : Tn fo2 s2 σ H2 fo2 s2 σ H3 := .grow f
    have st3 := st2.mono f
    refine hc fo2 s2 σ H3 ec s3 _ st3 e5 fun fo4 w H4 t4 st4 r4 => ?_
    have rv4 := ((r2.stay t23 st2).stay t4 st3).rv st4 e6
    refine hr' _ H4 v w y' z' res Q rv4 (r4.rv st4 e7) e8 st4.avthere fun z2 H5 f5 rz2 => ?_
    have t04 := (t12.trans st2 t23).trans st3 t4
    obtain ⟨fo5, t5, st5, r5⟩ := res_end st4 t04.fm f5 rz2
    exact q fo5 z2 H5 ((t04.less).trans (st4.less t04.fm) t5) st5 r5
  · rename_i hg
    cases e
    refine hr _ H2 u v x y _ _ ru rv hg st2.avthere fun z H3 f rz => ?_
    have ez := rp_bool (show Rp K _ _ _ _ from rz)
    refine ⟨false, ez, ?_⟩
    refine (show Q (.bl false) H3 from ?_)
    have t23 : Tn fo s2 σ H2 fo s2 σ H3 := .grow f
    exact q fo _ H3 (t12.less.trans (st2.less t12.fm) t23) ((st2.less t12.fm).mono f) (show Rp K _ _ _ _ from .bl false)
  · cases e
variable {c : Expr} {fc : M EV} {op op' : CmpOp}
theorem se_chain {r r' : R2} {g g' : PyData → PyData → Option Res} (ho : OpR X (compareOp op) r) (ho' : OpR X (compareOp op') r') (hr : OpSp X.K r g) (hr' : OpSp X.K r' g') (ha : SE X a fa) (hb : SE X b fb) (hc : SE X c fc)
    (hm : lastMarks [op, op'] [b, c] = false := by with_unfolding_all rfl) : SE X (.Compare a [op, op'] [b, c] pos) (eChain g g' fa fb fc) := by
  obtain ⟨t, p, k⟩ := ha.ex
  obtain ⟨t1, p1, k1⟩ := hb.ex
  obtain ⟨t2, p2, k2⟩ := hc.ex
  exact SE.of (pe_chain ho ho' p p1 p2 hm) (tev_chain hr hr' k k1 k2)
theorem st_chain {r r' : R2} {g g' : PyData → PyData → Option Res} (ho : OpR X (compareOp op) r) (ho' : OpR X (compareOp op') r') (hr : OpSp X.K r g) (hr' : OpSp X.K r' g') (ha : SE X a fa) (hb : SE X b fb) (hc : SE X c fc)
    (hm : lastMarks [op, op'] [b, c] = false := by with_unfolding_all rfl) : ST X (.Compare a [op, op'] [b, c] pos) (mT (eChain g g' fa fb fc) boolD) := by
  obtain ⟨t, p, k⟩ := ha.ex
  obtain ⟨t1, p1, k1⟩ := hb.ex
  obtain ⟨t2, p2, k2⟩ := hc.ex
  exact ST.of (pt_chain ho ho' p p1 p2 hm) (ttv_B (tev_chain hr hr' k k1 k2))
end

/-! ### arguments, displays, calls -/
def aNil : M (List EV) := fun ss => some ([], ss)
def aCons (f : M EV) (g : M (List EV)) : M (List EV) := fun ss => (f ss).bind fun a => (g a.2).bind fun b => some (a.1 :: b.1, b.2)
def eTup (f : M (List EV)) : M EV := fun ss => (f ss).bind fun a => (frzs a.1).bind fun ds => if ds.length ≤ big then some (.dat (.tuple ds), a.2) else none
def eLst (f : M (List EV)) : M EV := fun ss => (f ss).bind fun a => (frzs a.1).bind fun ds => if ds.length ≤ big then some (.own ds, a.2) else none
/-- a new tuple whose object is known -/
def NewT (H1 : Hp) (xs : List V) (Q : VK) : Prop := ∀ p ob, H1 p = none → ob.dict = none → Q (.ref p) (upd H1 p (.frz ob (.tup xs)))
theorem newT_end {K : PySem.W.Frag} {av : Av} {H : Hp} {vs : List V} {ds : List PyData} {Q : VK} (r : RpA K av H vs ds) (hb : ∀ a, av a → H a ≠ none) (q : ∀ v H', Fr0 H H' → ResR K av H H' v (.dat (.tuple ds)) → Q v H') : NewT H vs Q := fun p ob hp hd =>
  q _ _ (.new hp) (show Rp K av _ _ _ from .tup (.inl ⟨⟨ob, upd_same, hd⟩, fun z => hb p z hp⟩) (RpA.mono (.new (ms := av) hp) (fun _ z => z) _ _ r))
def tTupF (t : TA) : TE := fun σ H Q => t σ H fun xs H1 => xs.length ≤ sizeLine ∧ NewT H1 xs Q
section
variable {X : Cx} {es : List Expr} {pos : Pos} {t : TA} {K : PySem.W.Frag} {f : M EV} {g : M (List EV)} {e : Expr} {te : TE}
/-- the object of a new tuple -/
theorem objT {P : Program} {w : World} {H : Hp} {h : Heap} {p : Addr} {xs : List V} {us : List Value} {ob : Obj} (r : Vals xs us) (z : xs.length ≤ sizeLine) (e : h.get? p = some ob) (hc : ob.cls = .type "tuple") (hd : ∃ n, ob.data = .seq us.toArray n) : ObjOk P w H h p (.frz ob (.tup xs)) :=
  ⟨e, z, us, r, ⟨ob, e, hc, hd⟩⟩
theorem pe_tupF {x1} (h : PA X es t) : PE X (.Tuple es x1 pos) (tTupF t) := by
  refine ⟨fun pins s σ H Q I hq => ?_⟩
  refine wpAny_Tuple_spliced (thn (h.run pos pins s σ H _ I hq) fun us s1 ⟨xs, H1, I1, r, z, q⟩ => ⟨by rw [← r.length]; exact z, ?_⟩)
  have hf : H1 s1.heap.objs.size = none := I1.hok.fresh (Nat.le_refl _)
  refine ⟨.ref s1.heap.objs.size, upd H1 s1.heap.objs.size (.frz { cls := .type "tuple", data := .seq us.toArray } (.tup xs)), I1.laid (t' := s1.toks) (fun b u e => Heap.get?_push_of_some _ e) (Nat.le_refl _) ?_, rfl, q _ _ hf rfl⟩
  exact objT r z (Heap.get?_push_size _ rfl) rfl ⟨_, rfl⟩
theorem tev_tup (h : TAv K t g) : TEv K (tTupF t) (eTup g) := fun fo ss σ H ev ss' Q s e q => by
  unfold eTup at e
  obtain ⟨⟨evs, s1⟩, e1, e⟩ := Option.bind_eq_some_iff.mp e
  obtain ⟨ds, e2, e⟩ := Option.bind_eq_some_iff.mp e
  split at e
  · rename_i hb
    cases e
    refine h fo ss σ H evs s1 _ s e1 fun fo1 vs H1 t1 st1 r1 => ?_
    have rp := r1.fz st1 t1.fm e2
    have s0 := st1.less t1.fm
    refine ⟨by rw [rp.length]; exact big_ok hb, newT_end rp s0.avthere fun v H' f r => ?_⟩
    exact q fo v H' (t1.less.trans s0 (.grow f)) (s0.mono f) r
  · cases e
theorem tev_lst (h : TAv K t g) : TEv K (tLst t) (eLst g) := fun fo ss σ H ev ss' Q s e q => by
  unfold eLst at e
  obtain ⟨⟨evs, s1⟩, e1, e⟩ := Option.bind_eq_some_iff.mp e
  obtain ⟨ds, e2, e⟩ := Option.bind_eq_some_iff.mp e
  split at e
  · rename_i hb
    cases e
    refine h fo ss σ H evs s1 _ s e1 fun fo1 vs H1 t1 st1 r1 => ?_
    have rp := r1.fz st1 t1.fm e2
    have s0 := st1.less t1.fm
    refine ⟨by rw [rp.length]; exact big_ok hb, fun p hp => ?_⟩
    have f : Fr0 H1 (upd H1 p (.lst vs)) := .new hp
    obtain ⟨fo2, t2, st2, r2⟩ := res_end (v := .ref p) (r := .own ds) s0 (fun _ z => z) f ⟨p, vs, rfl, hp, upd_same, rp.to f (fun _ z => z.elim) (fun a z => z.imp (fun z => z) (fun z => by subst z; exact hp))⟩
    exact q fo2 _ _ (t1.less.trans s0 t2) st2 r2
  · cases e
theorem tav_nil : TAv K tNil aNil := fun fo ss σ H evs ss' Q s e q => by
  cases e
  exact q fo [] H .refl s .nil
theorem tav_cons (h : TEv K te f) (hr : TAv K t g) : TAv K (tCons te t) (aCons f g) := fun fo ss σ H evs ss' Q s e q => by
  unfold aCons at e
  obtain ⟨⟨ea, s1⟩, e1, e⟩ := Option.bind_eq_some_iff.mp e
  obtain ⟨⟨er, s2⟩, e2, e⟩ := Option.bind_eq_some_iff.mp e
  cases e
  refine h fo ss σ H ea s1 _ s e1 fun fo1 u H1 t1 st1 r1 => ?_
  refine hr fo1 s1 σ H1 er s2 _ st1 e2 fun fo2 us H2 t2 st2 r2 => ?_
  exact q fo2 (u :: us) H2 (t1.trans st1 t2) st2 (.cons (r1.stay t2 st1) (r2.base t1.fm))
theorem sa_nil : SA X [] aNil := SA.of (pa_nil) (tav_nil)
theorem sa_cons (h : SE X e f) (hr : SA X es g) (hs : starEach (e :: es) X.env = (false, eval e X.env) :: starEach es X.env := by rfl) : SA X (e :: es) (aCons f g) := by
  obtain ⟨t, p, k⟩ := h.ex
  obtain ⟨t2, p2, k2⟩ := hr.ex
  exact SA.of (pa_cons p p2 hs) (tav_cons k k2)
theorem se_tup {x1} (h : SA X es g) : SE X (.Tuple es x1 pos) (eTup g) := let ⟨_, p, k⟩ := h.ex; SE.of (pe_tupF p) (tev_tup k)
theorem se_lst (h : SA X es g) : SE X (.List es pos) (eLst g) := let ⟨_, p, k⟩ := h.ex; SE.of (pe_lst p) (tev_lst k)
theorem tev_cb {r : List V → Hp → VK → Prop} {c : List PyData → Option Res} (hr : CallSp K r c) (h : TAv K t g) : TEv K (tCB r t) (eCB c g) := fun fo ss σ H ev ss' Q s e q => by
  unfold eCB at e
  obtain ⟨⟨evs, s1⟩, e1, e⟩ := Option.bind_eq_some_iff.mp e
  obtain ⟨ds, e2, e⟩ := Option.bind_eq_some_iff.mp e
  obtain ⟨res, e3, e⟩ := Option.bind_eq_some_iff.mp e
  cases e
  refine h fo ss σ H evs s1 _ s e1 fun fo1 vs H1 t1 st1 r1 => ?_
  refine hr _ H1 vs ds res Q (r1.rv st1 e2) e3 st1.avthere fun z H2 f rz => ?_
  obtain ⟨fo2, t2, st2, r2⟩ := res_end st1 t1.fm f rz
  exact q fo2 z H2 (t1.less.trans (st1.less t1.fm) t2) st2 r2
end
end Ly

/-! LyC: calls, methods, targets, statements, loops, comprehensions, defs. -/
namespace Ly
open PySem PySem.Spec L2

section
variable {K : PySem.W.Frag} {fo fo' fo'' : Av} {ss ss' ss'' : SS} {σ σ' σ'' : St} {H H' : Hp} {v : V} {d : PyData} {ds : List PyData} {i : Nat} {p : Addr} {vs : List V}
theorem Tn.shrink (t : Tn fo ss σ H fo' ss' σ' H') (fm : ∀ a, fo a → fo'' a) (sub : ∀ a, AvS fo'' ss'' σ'' a → AvS fo' ss' σ' a) : Tn fo ss σ H fo'' ss'' σ'' H' := ⟨t.fr, fm, fun a h => t.av a (sub a h)⟩
/-- the slot i gets data -/
theorem StR.setD (s : StR K fo ss σ H) (r : Rp K (AvS fo ss σ) H v d) : StR K fo (ss.set i (.dat d)) (σ.set i (some v)) H ∧ ∀ a, AvS fo (ss.set i (.dat d)) (σ.set i (some v)) a → AvS fo ss σ a := by
  have back : ∀ {j : Nat} {es : List PyData}, (ss.set i (.dat d))[j]? = some (.lst es) → j ≠ i ∧ ss[j]? = some (.lst es) := fun {j es} w => by
    rcases set_get w with ⟨_, w⟩ | w
    · cases w
    · exact w
  have sb : ∀ {j : Nat} {x : Option V}, j ≠ i → (σ.set i (some v))[j]? = some x → σ[j]? = some x := fun {j x} h e => by
    rw [List.getElem?_set_ne (Ne.symm h)] at e
    exact e
  have sub : ∀ a, AvS fo (ss.set i (.dat d)) (σ.set i (some v)) a → AvS fo ss σ a := fun a z => z.imp (fun z => z) fun ⟨j, es, w1, w2⟩ => ⟨j, es, (back w1).2, sb (back w1).1 w2⟩
  refine ⟨⟨by rw [List.length_set, List.length_set]; exact s.len, fun j e w => ?_, fun j es w => ?_, fun j k q es es' w1 w2 w3 w4 => s.dis j k q es es' (back w1).2 (back w2).2 (sb (back w1).1 w3) (sb (back w2).1 w4), s.alive, fun a z ⟨j, es, w1, w2⟩ => s.apart a z ⟨j, es, (back w1).2, sb (back w1).1 w2⟩⟩, sub⟩
  · rcases set_get w with ⟨rfl, w2⟩ | ⟨ne, w⟩
    · cases w2
      have hj : j < ss.length := by
        have := (List.getElem?_eq_some_iff.mp w).1
        rw [List.length_set] at this
        exact this
      exact ⟨v, by rw [List.getElem?_set_self (by rw [← s.len]; exact hj)], Rp.weak (fun a z => .inl (sub a z)) _ _ r⟩
    · obtain ⟨u, e1, r1⟩ := s.dat j e w
      exact ⟨u, by rw [List.getElem?_set_ne (Ne.symm ne)]; exact e1, Rp.weak (fun a z => .inl (sub a z)) _ _ r1⟩
  · obtain ⟨ne, w⟩ := back w
    obtain ⟨q, us, e1, e2, r1⟩ := s.lst j es w
    exact ⟨q, us, by rw [List.getElem?_set_ne (Ne.symm ne)]; exact e1, e2, RpA.weak (fun a z => .inl (sub a z)) _ _ r1⟩
/-- the slot i gets a list of its own -/
theorem StR.setL (s : StR K fo' ss σ H) (hb : ∀ a, fo a → fo' a) (hp : fo' p) (np : ¬ fo p) (e : H p = some (.lst vs)) (r : RpA K (AvS fo' ss σ) H vs ds) :
    StR K fo (ss.set i (.lst ds)) (σ.set i (some (.ref p))) H ∧ ∀ a, AvS fo (ss.set i (.lst ds)) (σ.set i (some (.ref p))) a → AvS fo' ss σ a := by
  have back : ∀ {j : Nat} {es : List PyData}, (ss.set i (.lst ds))[j]? = some (.lst es) → (j = i ∧ es = ds) ∨ (j ≠ i ∧ ss[j]? = some (.lst es)) := fun {j es} w => by
    rcases set_get w with ⟨w1, w⟩ | w
    · cases w
      exact .inl ⟨w1, rfl⟩
    · exact .inr w
  have sb : ∀ {j : Nat} {x : Option V}, j ≠ i → (σ.set i (some (.ref p)))[j]? = some x → σ[j]? = some x := fun {j x} h e => by
    rw [List.getElem?_set_ne (Ne.symm h)] at e
    exact e
  have si : ∀ {x : Option V}, (σ.set i (some (.ref p)))[i]? = some x → x = some (.ref p) := fun {x} e => by
    rcases set_get e with ⟨_, q⟩ | ⟨q, _⟩
    · exact q
    · exact absurd rfl q
  have sub : ∀ a, AvS fo (ss.set i (.lst ds)) (σ.set i (some (.ref p))) a → AvS fo' ss σ a := fun a z => by
    rcases z with z | ⟨j, es, w1, w2⟩
    · exact .inl (hb a z)
    · rcases back w1 with ⟨rfl, _⟩ | ⟨ne, w⟩
      · cases si w2
        exact .inl hp
      · exact .inr ⟨j, es, w, sb ne w2⟩
  have nsl : ¬ SlotA ss σ p := s.apart p hp
  refine ⟨⟨by rw [List.length_set, List.length_set]; exact s.len, fun j e w => ?_, fun j es w => ?_, fun j k q es es' w1 w2 w3 w4 => ?_, fun a z => s.alive a (hb a z), fun a z ⟨j, es, w1, w2⟩ => ?_⟩, sub⟩
  · rcases set_get w with ⟨rfl, w2⟩ | ⟨ne, w⟩
    · cases w2
    · obtain ⟨u, e1, r1⟩ := s.dat j e w
      exact ⟨u, by rw [List.getElem?_set_ne (Ne.symm ne)]; exact e1, Rp.weak (fun a z => .inl (sub a z)) _ _ r1⟩
  · rcases back w with ⟨rfl, rfl⟩ | ⟨ne, w⟩
    · have hj : j < ss.length := by
        have := (List.getElem?_eq_some_iff.mp w).1
        rw [List.length_set] at this
        exact this
      exact ⟨p, vs, by rw [List.getElem?_set_self (by rw [← s.len]; exact hj)], e, RpA.weak (fun a z => .inl (sub a z)) _ _ r⟩
    · obtain ⟨q, us, e1, e2, r1⟩ := s.lst j es w
      exact ⟨q, us, by rw [List.getElem?_set_ne (Ne.symm ne)]; exact e1, e2, RpA.weak (fun a z => .inl (sub a z)) _ _ r1⟩
  · rcases back w1 with ⟨rfl, _⟩ | ⟨n1, w1⟩
    · rcases back w2 with ⟨rfl, _⟩ | ⟨n2, w2⟩
      · rfl
      · cases si w3
        exact absurd ⟨k, es', w2, sb n2 w4⟩ nsl
    · rcases back w2 with ⟨e2, _⟩ | ⟨n2, w2⟩
      · rw [e2] at w4
        cases si w4
        exact absurd ⟨j, es, w1, sb n1 w3⟩ nsl
      · exact s.dis j k q es es' w1 w2 (sb n1 w3) (sb n2 w4)
  · rcases back w1 with ⟨rfl, _⟩ | ⟨ne, w⟩
    · cases si w2
      exact np z
    · exact s.apart a (hb a z) ⟨j, es, w, sb ne w2⟩
/-- the list of the slot i is changed; new cells may become foreign -/
theorem StR.put2 {cs cs' : List PyData} {us : List V} {fo2 : Av} (s : StR K fo ss σ H) (h : ss[i]? = some (.lst cs)) (hp : σ[i]? = some (some (.ref p))) (f : Fr (fun a => a = p) H H') (fm2 : ∀ a, fo a → fo2 a) (h2 : ∀ a, fo2 a → fo a ∨ H a = none) (al : ∀ a, fo2 a → H' a ≠ none)
    (e : H' p = some (.lst us)) (r : RpA K (AvS fo2 ss σ) H' us cs') : StR K fo2 (ss.set i (.lst cs')) σ H' ∧ Tn fo ss σ H fo2 (ss.set i (.lst cs')) σ H' ∧ ∀ a, SlotA (ss.set i (.lst cs')) σ a → SlotA ss σ a := by
  have pin : SlotA ss σ p := ⟨i, cs, h, hp⟩
  have back : ∀ {j : Nat} {es : List PyData}, (ss.set i (.lst cs'))[j]? = some (.lst es) → (j = i ∧ es = cs') ∨ (j ≠ i ∧ ss[j]? = some (.lst es)) := fun {j es} w => by
    rcases set_get w with ⟨w1, w⟩ | w
    · cases w
      exact .inl ⟨w1, rfl⟩
    · exact .inr w
  have some_of : ∀ {j : Nat} {es : List PyData}, (ss.set i (.lst cs'))[j]? = some (.lst es) → ∃ es', ss[j]? = some (.lst es') := fun {j es} w => by
    rcases back w with ⟨rfl, _⟩ | ⟨_, w⟩
    · exact ⟨cs, h⟩
    · exact ⟨es, w⟩
  have subA : ∀ a, SlotA (ss.set i (.lst cs')) σ a → SlotA ss σ a := fun a ⟨j, es, w1, w2⟩ => by
    obtain ⟨es', w⟩ := some_of w1
    exact ⟨j, es', w, w2⟩
  have sub2 : ∀ a, AvS fo2 (ss.set i (.lst cs')) σ a → AvS fo2 ss σ a := fun a z => z.imp (fun z => z) (subA a)
  have sub : ∀ a, AvS fo2 (ss.set i (.lst cs')) σ a → AvS fo ss σ a ∨ H a = none := fun a z => z.elim (fun z => (h2 a z).imp (fun z => .inl z) (fun z => z)) (fun z => .inl (.inr (subA a z)))
  have fm : ∀ a, a = p → AvS fo ss σ a := fun a z => by
    subst z
    exact .inr pin
  refine ⟨⟨by rw [List.length_set]; exact s.len, fun j e w => ?_, fun j es w => ?_, fun j k q es es' w1 w2 w3 w4 => ?_, al, fun a z w => ?_⟩, ⟨f.mono fun a z => by subst z; exact pin, fm2, sub⟩, subA⟩
  · rcases set_get w with ⟨_, w2⟩ | ⟨ne, w⟩
    · cases w2
    · obtain ⟨u, e1, r1⟩ := s.dat j e w
      exact ⟨u, e1, r1.to f fm sub⟩
  · rcases back w with ⟨rfl, rfl⟩ | ⟨ne, w⟩
    · exact ⟨p, us, hp, e, RpA.weak (fun a z => .inl (sub2 a z)) _ _ r⟩
    · obtain ⟨q, ws, e1, e2, r1⟩ := s.lst j es w
      have nq : q ≠ p := fun z => ne (s.dis j i q es cs w h e1 (by rw [z]; exact hp))
      exact ⟨q, ws, e1, f.keep q _ nq e2, r1.to f fm sub⟩
  · obtain ⟨x1, y1⟩ := some_of w1
    obtain ⟨x2, y2⟩ := some_of w2
    exact s.dis j k q x1 x2 y1 y2 w3 w4
  · rcases h2 a z with q | q
    · exact s.apart a q (subA a w)
    · exact s.there (subA a w) q
theorem StR.put {cs cs' : List PyData} {us : List V} (s : StR K fo ss σ H) (h : ss[i]? = some (.lst cs)) (hp : σ[i]? = some (some (.ref p))) (f : Fr (fun a => a = p) H H') (e : H' p = some (.lst us)) (r : RpA K (AvS fo ss σ) H' us cs') :
    StR K fo (ss.set i (.lst cs')) σ H' ∧ Tn fo ss σ H fo (ss.set i (.lst cs')) σ H' :=
  let ⟨a, b, _⟩ := s.put2 h hp f (fun _ z => z) (fun _ z => .inl z) (fun a z => f.dom a (s.alive a z)) e r
  ⟨a, b⟩
end

/-! ### calls -/
section
variable {X : Cx} {e : Expr} {es : List Expr} {f : M EV} {g : M (List EV)} {x : Str} {p pos : Pos} {T id : String}
theorem se_cb {r : List V → Hp → VK → Prop} {c : List PyData → Option Res} (hc : CallR X (.builtin id) r) (hr : CallSp X.K r c) (hm : X.mg x = none) (hv : bootBuiltins x = some (.builtin id)) (ha : SA X (e :: es) g) (hg : Gl X x := by rfl) (hn : x ≠ "__name__" := by decide) (hdb : (x == ("__debug__" : Str)) = false := by decide)
    (he : starEach (e :: es) X.env = (false, eval e X.env) :: starEach es X.env := by rfl) (hpl : (backTo pos (starEach es X.env)).any (·.1) = false := by rfl) : SE X (.Call (.Name x p) (e :: es) [] pos) (eCB c g) :=
  .of (pe_callB hc hg hm hv ha.pa hn hdb he hpl) (tev_cb hr tav_cA)
theorem se_cbT {r : List V → Hp → VK → Prop} {c : List PyData → Option Res} (hc : CallR X (.type T) r) (hr : CallSp X.K r c) (hm : X.mg x = none) (hv : bootBuiltins x = some (.type T)) (ha : SA X (e :: es) g) (hg : Gl X x := by rfl) (hn : x ≠ "__name__" := by decide) (hdb : (x == ("__debug__" : Str)) = false := by decide)
    (he : starEach (e :: es) X.env = (false, eval e X.env) :: starEach es X.env := by rfl) (hpl : (backTo pos (starEach es X.env)).any (·.1) = false := by rfl) : SE X (.Call (.Name x p) (e :: es) [] pos) (eCB c g) :=
  .of (pe_callTy hc hg hm hv ha.pa hn hdb he hpl) (tev_cb hr tav_cA)
end
/-- a def's promise: it gives what G gives -/
def spP (K : PySem.W.Frag) (n : Nat) (G : List PyData → Option Res) : Sp := fun vs H Q _ => ∃ (fo : Av) (ds : List PyData) (r : Res), ds.length = n ∧ G ds = some r ∧ (∀ a, fo a → H a ≠ none) ∧ RpA K fo H vs ds ∧
  ∀ v H', Fr0 H H' → ResR K fo H H' v r → Q v H'
/-- what is given, and the changed list's items -/
def ResIO (K : PySem.W.Frag) (av : Av) (H H' : Hp) (v : V) (r : Res) (ts : List V) (cs : List PyData) : Prop := match r with
  | .dat d => Rp K av H' v d ∧ RpA K av H' ts cs
  | .own ds => ∃ p vs, v = .ref p ∧ H p = none ∧ H' p = some (.lst vs) ∧ RpA K (fun a => av a ∨ a = p) H' vs ds ∧ RpA K (fun a => av a ∨ a = p) H' ts cs
/-- the same; the first argument is a list that it changes -/
def spIO (K : PySem.W.Frag) (n : Nat) (G : List PyData → List PyData → Option (Res × List PyData)) : Sp := fun us H Q _ => ∃ (fo : Av) (t : Addr) (ts vs : List V) (cs ds : List PyData) (r : Res) (cs' : List PyData), us = .ref t :: vs ∧ ds.length = n ∧ G cs ds = some (r, cs') ∧
  (∀ a, fo a → H a ≠ none) ∧ ¬ fo t ∧ H t = some (.lst ts) ∧ RpA K (fun a => fo a ∨ a = t) H ts cs ∧ RpA K (fun a => fo a ∨ a = t) H vs ds ∧
  ∀ v H' ts', Fr (fun a => a = t) H H' → H' t = some (.lst ts') → ResIO K (fun a => fo a ∨ a = t) H H' v r ts' cs' → Q v H'
/-- a def of the module -/
structure Fn (P : Program) (w : World) (K : PySem.W.Frag) (mg : Str → Option Value) (base : Heap) (k : Nat) (x : Str) (sp : Sp) : Prop where
  ex : ∃ (f : Addr) (fd : FuncData) (ps : List Str), mg x = some (.ref f) ∧ FnOk P w K mg base CX0 k f fd ps sp ∧ PySem.W.keepIn K (.ref f) = true ∧ Binds K fd ps []
theorem Fn.mono {P : Program} {w : World} {K : PySem.W.Frag} {mg : Str → Option Value} {base : Heap} {k j : Nat} {x : Str} {sp : Sp} (F : Fn P w K mg base k x sp) (h : k ≤ j) : Fn P w K mg base j x sp := by
  obtain ⟨f, fd, ps, h1, h2, h3, h4⟩ := F
  exact ⟨f, fd, ps, h1, h2.mono h, h3, h4⟩
def eFn (G : List PyData → Option Res) (g : M (List EV)) : M EV := fun ss => (g ss).bind fun a => (frzs a.1).bind fun ds => (G ds).bind fun r => some (r.ev, a.2)
def eFn0 (G : List PyData → Option Res) : M EV := fun ss => (G []).bind fun r => some (r.ev, ss)
def eIO (i : Nat) (G : List PyData → List PyData → Option (Res × List PyData)) (g : M (List EV)) : M EV := fun ss => match ss[i]? with
  | some (.lst _) => (g ss).bind fun a => (frzs a.1).bind fun ds => match a.2[i]? with
    | some (.lst cs) => (G cs ds).bind fun r => some (r.1.ev, a.2.set i (.lst r.2))
    | _ => none
  | _ => none
section
variable {X : Cx} {e : Expr} {es : List Expr} {g : M (List EV)} {x : Str} {p pos : Pos} {k n : Nat}
theorem EVrs.length {K : PySem.W.Frag} {fo0 fo : Av} {ss : SS} {σ : St} {H : Hp} {vs : List V} {evs : List EV} (h : EVrs K fo0 fo ss σ H vs evs) : vs.length = evs.length := by
  induction h with
  | nil => rfl
  | cons _ _ ih => exact congrArg Nat.succ ih
theorem se_fn {G : List PyData → Option Res} (F : Fn X.prog X.w X.K X.mg X.base k x (spP X.K n G)) (hr : Room k X.A) (hn : (e :: es).length = n) (ha : SA X (e :: es) g) (hg : Gl X x := by rfl)
    (hdb : (x == ("__debug__" : Str)) = false := by decide) (he : starEach (e :: es) X.env = (false, eval e X.env) :: starEach es X.env := by rfl) (hpl : (backTo pos (starEach es X.env)).any (·.1) = false := by rfl)
    (hlen : ∀ ss a s1, g ss = some (a, s1) → a.length = (e :: es).length) : SE X (.Call (.Name x p) (e :: es) [] pos) (eFn G g) := by
  obtain ⟨f, fd, ps, h1, h2, h3, h4⟩ := F
  refine .of (pe_call h2 hr hg h1 h3 h4 .nil pass0 ha.pa hdb he hpl) fun fo ss σ H ev ss' Q s e q => ?_
  unfold eFn at e
  obtain ⟨⟨evs, s1⟩, e1, e⟩ := Option.bind_eq_some_iff.mp e
  obtain ⟨ds, e2, e⟩ := Option.bind_eq_some_iff.mp e
  obtain ⟨res, e3, e⟩ := Option.bind_eq_some_iff.mp e
  cases e
  refine ⟨fo, ss, evs, s1, s, e1, fun fo1 vs H1 t1 st1 r1 => ?_⟩
  have rp := r1.fz st1 t1.fm e2
  have s0 := st1.less t1.fm
  have ln : ds.length = n := by
    rw [← rp.length, ← hn, ← hlen _ _ _ e1]
    exact r1.length
  refine ⟨AvS fo s1 σ, ds, res, ln, e3, s0.avthere, by rw [List.append_nil]; exact rp, fun v H' f rz => ?_⟩
  obtain ⟨fo2, t2, st2, r2⟩ := res_end s0 (fun _ z => z) f rz
  exact q fo2 v H' (t1.less.trans s0 t2) st2 r2
theorem se_fn0 {G : List PyData → Option Res} (F : Fn X.prog X.w X.K X.mg X.base k x (spP X.K 0 G)) (hr : Room k X.A) (hg : Gl X x := by rfl)
    (hdb : (x == ("__debug__" : Str)) = false := by decide) : SE X (.Call (.Name x p) [] [] pos) (eFn0 G) := by
  obtain ⟨f, fd, ps, h1, h2, h3, h4⟩ := F
  refine .of (pe_call0 h2 hr hg h1 h3 h4 .nil pass0 hdb) fun fo ss σ H ev ss' Q s e q => ?_
  unfold eFn0 at e
  obtain ⟨res, e3, e⟩ := Option.bind_eq_some_iff.mp e
  cases e
  refine ⟨AvS fo ss σ, [], res, rfl, e3, s.avthere, .nil, fun v H' f rz => ?_⟩
  obtain ⟨fo2, t2, st2, r2⟩ := res_end s (fun _ z => z) f rz
  exact q fo2 v H' t2 st2 r2
theorem alen_nil : ∀ ss a s1, aNil ss = some (a, s1) → a.length = ([] : List Expr).length := fun ss a s1 e => by cases e; rfl
theorem alen_cons {f : M EV} (h : ∀ ss a s1, g ss = some (a, s1) → a.length = es.length) : ∀ ss a s1, aCons f g ss = some (a, s1) → a.length = (e :: es).length := fun ss a s1 q => by
  unfold aCons at q
  obtain ⟨⟨ea, s2⟩, e1, q⟩ := Option.bind_eq_some_iff.mp q
  obtain ⟨⟨er, s3⟩, e2, q⟩ := Option.bind_eq_some_iff.mp q
  cases q
  exact congrArg Nat.succ (h _ _ _ e2)
theorem se_io {i : Nat} {G : List PyData → List PyData → Option (Res × List PyData)} {y : Str} {py : Pos} (F : Fn X.prog X.w X.K X.mg X.base k x (spIO X.K n G)) (hr : Room k X.A) (hn : es.length = n) (ha : SA X es g) (hlen : ∀ ss a s1, g ss = some (a, s1) → a.length = es.length)
    (hN : X.N[i]? = some y := by rfl) (hv : Vis X.env.scope y := by first | exact Or.inl rfl | exact Or.inr (Or.inl rfl) | exact Or.inr (Or.inr rfl)) (hg : Gl X x := by rfl)
    (hdb : (x == ("__debug__" : Str)) = false := by decide) (hd : (y == ("__debug__" : Str)) = false := by decide) (hcd : (y == ("__classdict__" : Str)) = false := by decide)
    (he : starEach (.Name y py :: es) X.env = (false, eval (.Name y py) X.env) :: starEach es X.env := by rfl) (hpl : (backTo pos (starEach es X.env)).any (·.1) = false := by rfl) :
    SE X (.Call (.Name x p) (.Name y py :: es) [] pos) (eIO i G g) := by
  obtain ⟨f, fd, ps, h1, h2, h3, h4⟩ := F
  refine .of (pe_call h2 hr hg h1 h3 h4 .nil pass0 (pa_cons (pe_var hN hv hd hcd) ha.pa he) hdb he hpl) fun fo ss σ H ev ss' Q s e q => ?_
  unfold eIO at e
  split at e
  · rename_i c0 hc0
    obtain ⟨t, _, et, _, _⟩ := s.lst i c0 hc0
    obtain ⟨⟨evs, s1⟩, e1, e⟩ := Option.bind_eq_some_iff.mp e
    obtain ⟨ds, e2, e⟩ := Option.bind_eq_some_iff.mp e
    dsimp only at e
    split at e
    · rename_i cs hcs
      obtain ⟨⟨res, cs'⟩, e3, e⟩ := Option.bind_eq_some_iff.mp e
      cases e
      refine ⟨.ref t, et, fo, ss, evs, s1, s, e1, fun fo1 vs H1 t1 st1 r1 => ?_⟩
      have rp := r1.fz st1 t1.fm e2
      have s0 := st1.less t1.fm
      have ln : ds.length = n := by
        rw [← rp.length, ← hn, ← hlen _ _ _ e1]
        exact r1.length
      obtain ⟨t', ts, et', ht, rt⟩ := s0.lst i cs hcs
      rw [et] at et'
      cases et'
      have pin : SlotA s1 σ t := ⟨i, cs, hcs, et⟩
      have same : ∀ a, ((AvS fo s1 σ a ∧ a ≠ t) ∨ a = t) → AvS fo s1 σ a := fun a z => z.elim (fun z => z.1) (fun z => by subst z; exact .inr pin)
      have same' : ∀ a, AvS fo s1 σ a → ((AvS fo s1 σ a ∧ a ≠ t) ∨ a = t) := fun a z => by
        by_cases h : a = t
        · exact .inr h
        · exact .inl ⟨z, h⟩
      refine ⟨fun a => AvS fo s1 σ a ∧ a ≠ t, t, ts, vs, cs, ds, res, cs', by rw [List.append_nil], ln, e3, fun a z => s0.avthere a z.1, fun z => z.2 rfl, ht, RpA.weak (fun a z => .inl (same a z)) _ _ rt, RpA.weak (fun a z => .inl (same a z)) _ _ rp, fun v H' ts' f e4 rz => ?_⟩
      cases res with
      | dat d =>
        obtain ⟨rz, rt'⟩ := rz
        obtain ⟨s2, t2⟩ := s0.put hcs et f e4 (RpA.weak (fun a z => .inl (same' a z)) _ _ rt')
        refine q fo v H' (t1.less.trans s0 t2) s2 (Rp.weak (fun a z => .inl (same' a ?_)) _ _ rz)
        exact z.imp (fun z => z) fun ⟨j, es, w1, w2⟩ => by
          rcases set_get w1 with ⟨rfl, _⟩ | ⟨_, w⟩
          · exact ⟨j, cs, hcs, w2⟩
          · exact ⟨j, es, w, w2⟩
      | own es =>
        obtain ⟨p', us, rfl, p1, p2, rz, rt'⟩ := rz
        have np : ¬ AvS fo s1 σ p' := fun z => s0.avthere p' z p1
        obtain ⟨s2, t2, sA⟩ := s0.put2 (fo2 := fun a => fo a ∨ a = p') hcs et f (fun _ z => .inl z) (fun a z => z.imp (fun z => z) (fun z => by subst z; exact p1)) (fun a z => z.elim (fun z => f.dom a (s0.alive a z)) (fun z => by subst z; rw [p2]; exact fun w => nomatch w)) e4
          (RpA.weak (fun a z => .inl (by
            rcases z with (z | z) | z
            · exact .inl (same' a (.inl z))
            · exact .inr z
            · exact .inl (same' a (.inr z)))) _ _ rt')
        refine q _ _ H' (t1.less.trans s0 t2) s2 ⟨p', us, rfl, .inr rfl, fun z => np (.inl z), p2, RpA.weak (fun a z => .inl ?_) _ _ rz⟩
        rcases z with (z | z) | z
        · exact .inl (same' a (.inl z))
        · exact .inr z
        · exact .inl (same' a (.inr (sA a z)))
    · cases e
  · cases e
end
end Ly

/-! LyD: methods, targets, statements, loops, comprehensions, defs. -/
namespace Ly
open PySem PySem.Spec L2

/-! ### methods of built-in types -/
/-- tyV, and a tuple whose object is known -/
def tyW (K : PySem.W.Frag) (T : String) (x : V) (H : Hp) : Prop := tyV K T x H ∨ ∃ p xs, T = "tuple" ∧ x = .ref p ∧ FT H p xs
theorem tyW_is {X : Cx} {pins : List (Addr × Obj)} {σ : St} {H : Hp} {s : Shared} {T : String} {x : V} {v : Value} (I : Inv X pins σ H s) (r : RelV x v) (ty : tyW X.K T x H) :
    s.TypeIs v T ∧ ∀ a, v = .ref a → ∃ ob, s.heap.get? a = some ob ∧ ob.dict = none := by
  rcases ty with ty | ⟨p, xs, rfl, rfl, ob, e, d⟩
  · exact tyV_is I r ty
  · cases r
    obtain ⟨e1, _, its, rv, ht⟩ := (show ObjOk X.prog X.w H s.heap p (.frz ob (.tup xs)) from I.hok p _ e)
    refine ⟨?_, fun a e2 => ?_⟩
    · obtain ⟨o, h1, h2, _⟩ := ht
      exact ⟨o, h1, h2⟩
    · cases e2
      exact ⟨ob, e1, d⟩
def tBW (K : PySem.W.Frag) (T : String) (r : V → List V → Hp → VK → Prop) (to : TE) (t : TA) : TE := fun σ H Q => to σ H fun x H1 => tyW K T x H1 ∧ t σ H1 fun xs H2 => r x xs H2 Q
def tBW0 (K : PySem.W.Frag) (T : String) (r : V → List V → Hp → VK → Prop) (to : TE) : TE := fun σ H Q => to σ H fun x H1 => tyW K T x H1 ∧ r x [] H1 Q
section
variable {X : Cx} {o e : Expr} {es : List Expr} {to : TE} {t : TA} {name : Str} {apos cpos : Pos} {T id : String} {r : V → List V → Hp → VK → Prop}
theorem pe_bw0 (pa : PlainAttrs T) (slot : Slot T name id) (hty : typeOf (.builtin id) = pure (.type "method_descriptor")) (hm : MtR X id r) (ho : PE X o to)
    (hbase : attributeBase o name X.env (eval o X.env) = eval o X.env := by rfl) (hline : (apos.endLine == cpos.line) = true := by rfl) : PE X (.Call (.Attribute o name apos) [] [] cpos) (tBW0 X.K T r to) := by
  refine ⟨fun pins s σ H Q I h => ?_⟩
  refine wpAny_Call_method0_late hbase hline (thn (ho.run pins s σ H _ I h) fun v s1 ⟨x, H1, I1, r1, ty, q1⟩ => ?_)
  obtain ⟨h1, h2⟩ := tyW_is I1 r1 ty
  exact ⟨T, id, pa, slot, hty, h1, h2, Calls.callWith_builtin rfl (PySem.evalArgs_none (hm pins s1 σ H1 x [] v [] Q I1 r1 .nil q1))⟩
theorem pe_bw (pa : PlainAttrs T) (slot : Slot T name id) (hty : typeOf (.builtin id) = pure (.type "method_descriptor")) (hm : MtR X id r) (ho : PE X o to) (ha : PA X (e :: es) t)
    (hbase : attributeBase o name X.env (eval o X.env) = eval o X.env := by rfl)
    (hfew : ((backTo cpos (starEach (e :: es) X.env)).all (fun x => !x.1) && (backToKw cpos (keywordEach [] X.env)).all (fun x => x.1.isSome)
      && decide ((e :: es).length + ([] : List Keyword).length + (if ([] : List Keyword).isEmpty then 0 else 1) < 30)) = true := by rfl)
    (hline : (apos.endLine == cpos.line) = true := by rfl) (hs : starEach (e :: es) X.env = (false, eval e X.env) :: starEach es X.env := by rfl) (hplain : (backTo cpos (starEach es X.env)).any (·.1) = false := by rfl) :
    PE X (.Call (.Attribute o name apos) (e :: es) [] cpos) (tBW X.K T r to t) := by
  refine ⟨fun pins s σ H Q I h => ?_⟩
  refine wpAny_Call_method_late hbase hfew hline rfl (thn (ho.run pins s σ H _ I h) fun v s1 ⟨x, H1, I1, r1, ty, q1⟩ => ?_)
  obtain ⟨h1, h2⟩ := tyW_is I1 r1 ty
  refine ⟨T, id, pa, slot, hty, h1, h2, ?_⟩
  have hA := ha.run cpos pins s1 σ H1 _ I1 q1
  rw [hs] at hA ⊢
  refine Calls.callWith_builtin (by show (false || (backTo cpos (starEach es X.env)).any (·.1)) = false; rw [hplain] <;> rfl) (Calls.evalArgs_plain ?_)
  exact thn hA fun us s2 ⟨vs, H2, I2, r2, q2⟩ => hm pins s2 σ H2 x vs v us Q I2 r1 r2 q2
end
def MethSp (K : PySem.W.Frag) (r : V → List V → Hp → VK → Prop) (g : PyData → List PyData → Option Res) : Prop := ∀ (av : Av) (H : Hp) (x : V) (xs : List V) (d : PyData) (ds : List PyData) (res : Res) (Q : VK), RvS K av H x d → RvA K av H xs ds → g d ds = some res → (∀ a, av a → H a ≠ none) →
  (∀ v H', Fr0 H H' → ResR K av H H' v res → Q v H') → r x xs H Q
def tyD (T : String) : PyData → Bool
  | .list _ => T == "list"
  | .tuple _ => T == "tuple"
  | .str _ => T == "str"
  | _ => false
theorem tyD_w {K : PySem.W.Frag} {av : Av} {H : Hp} {x : V} {d : PyData} {T : String} (h : RvS K av H x d) (e : tyD T d = true) : tyW K T x H := by
  cases d with
  | list ds =>
    obtain ⟨p, vs, rfl, h1, _⟩ := h.list
    exact .inl (.inl ⟨eq_of_beq e, vs, h1⟩)
  | tuple ds =>
    obtain ⟨p, vs, rfl, h1, _⟩ := h.tuple
    rcases h1 with ⟨h1, _⟩ | ⟨ob, its, n, h1, h2, h3, _⟩
    · exact .inr ⟨p, vs, eq_of_beq e, rfl, h1⟩
    · exact .inl (.inr (.inl ⟨eq_of_beq e, ob, h1, h2, h3⟩))
  | str x =>
    cases h.str
    exact .inl (eq_of_beq e)
  | none => cases e
  | bool _ => cases e
  | int _ => cases e
  | dict _ => cases e
def eBM (T : String) (g : PyData → List PyData → Option Res) (f : M EV) (a : M (List EV)) : M EV := fun ss =>
  (f ss).bind fun x => (val x.2 x.1).bind fun d0 => if tyD T d0 = true then (a x.2).bind fun y => (val y.2 x.1).bind fun d => (vals y.2 y.1).bind fun ds => (g d ds).bind fun r => some (r.ev, y.2) else none
def eBM0 (T : String) (g : PyData → List PyData → Option Res) (f : M EV) : M EV := fun ss =>
  (f ss).bind fun x => (val x.2 x.1).bind fun d => if tyD T d = true then (g d []).bind fun r => some (r.ev, x.2) else none
section
variable {X : Cx} {o e : Expr} {es : List Expr} {f : M EV} {a : M (List EV)} {name : Str} {apos cpos : Pos} {T id : String} {r : V → List V → Hp → VK → Prop} {g : PyData → List PyData → Option Res}
theorem se_bm (pa : PlainAttrs T) (slot : Slot T name id) (hty : typeOf (.builtin id) = pure (.type "method_descriptor")) (hm : MtR X id r) (hr : MethSp X.K r g) (ho : SE X o f) (ha : SA X (e :: es) a)
    (hbase : attributeBase o name X.env (eval o X.env) = eval o X.env := by rfl)
    (hfew : ((backTo cpos (starEach (e :: es) X.env)).all (fun x => !x.1) && (backToKw cpos (keywordEach [] X.env)).all (fun x => x.1.isSome)
      && decide ((e :: es).length + ([] : List Keyword).length + (if ([] : List Keyword).isEmpty then 0 else 1) < 30)) = true := by rfl)
    (hline : (apos.endLine == cpos.line) = true := by rfl) (hs : starEach (e :: es) X.env = (false, eval e X.env) :: starEach es X.env := by rfl) (hplain : (backTo cpos (starEach es X.env)).any (·.1) = false := by rfl) :
    SE X (.Call (.Attribute o name apos) (e :: es) [] cpos) (eBM T g f a) := by
  refine .of (pe_bw pa slot hty hm ho.pe ha.pa hbase hfew hline hs hplain) fun fo ss σ H ev ss' Q s e q => ?_
  unfold eBM at e
  obtain ⟨⟨ea, s1⟩, e1, e⟩ := Option.bind_eq_some_iff.mp e
  obtain ⟨d0, e2, e⟩ := Option.bind_eq_some_iff.mp e
  split at e
  · rename_i ht
    obtain ⟨⟨evs, s2⟩, e3, e⟩ := Option.bind_eq_some_iff.mp e
    obtain ⟨d, e4, e⟩ := Option.bind_eq_some_iff.mp e
    obtain ⟨ds, e5, e⟩ := Option.bind_eq_some_iff.mp e
    obtain ⟨res, e6, e⟩ := Option.bind_eq_some_iff.mp e
    cases e
    refine ⟨fo, ss, ea, s1, s, e1, fun fo1 u H1 t1 st1 r1 => ⟨tyD_w (r1.rv st1 e2) ht, fo1, s1, evs, s2, st1, e3, fun fo2 us H2 t2 st2 r2 => ?_⟩⟩
    have t12 := t1.trans st1 t2
    refine hr _ H2 u us d ds res Q ((r1.stay t2 st1).rv st2 e4) (r2.rv st2 e5) e6 st2.avthere fun z H3 f rz => ?_
    obtain ⟨fo3, t3, st3, r3⟩ := res_end st2 t12.fm f rz
    exact q fo3 z H3 (t12.less.trans (st2.less t12.fm) t3) st3 r3
  · cases e
theorem se_bm0 (pa : PlainAttrs T) (slot : Slot T name id) (hty : typeOf (.builtin id) = pure (.type "method_descriptor")) (hm : MtR X id r) (hr : MethSp X.K r g) (ho : SE X o f)
    (hbase : attributeBase o name X.env (eval o X.env) = eval o X.env := by rfl) (hline : (apos.endLine == cpos.line) = true := by rfl) : SE X (.Call (.Attribute o name apos) [] [] cpos) (eBM0 T g f) := by
  refine .of (pe_bw0 pa slot hty hm ho.pe hbase hline) fun fo ss σ H ev ss' Q s e q => ?_
  unfold eBM0 at e
  obtain ⟨⟨ea, s1⟩, e1, e⟩ := Option.bind_eq_some_iff.mp e
  obtain ⟨d, e2, e⟩ := Option.bind_eq_some_iff.mp e
  split at e
  · rename_i ht
    obtain ⟨res, e6, e⟩ := Option.bind_eq_some_iff.mp e
    cases e
    refine ⟨fo, ss, ea, s1, s, e1, fun fo1 u H1 t1 st1 r1 => ⟨tyD_w (r1.rv st1 e2) ht, ?_⟩⟩
    refine hr _ H1 u [] d [] res Q (r1.rv st1 e2) .nil e6 st1.avthere fun z H3 f rz => ?_
    obtain ⟨fo3, t3, st3, r3⟩ := res_end st1 t1.fm f rz
    exact q fo3 z H3 (t1.less.trans (st1.less t1.fm) t3) st3 r3
  · cases e
end

/-! ### methods that change the list of a slot -/
def eApp (i : Nat) (f : M EV) : M EV := fun ss => match ss[i]? with
  | some (.lst _) => (f ss).bind fun a => (frz a.1).bind fun d => match a.2[i]? with
    | some (.lst cs) => if cs.length < big then some (.dat .none, a.2.set i (.lst (cs ++ [d]))) else none
    | _ => none
  | _ => none
/-- what may be read as a list that no one locks -/
def opn (ss : SS) : EV → Option (List PyData)
  | .own ds => some ds
  | .bor i => match ss[i]? with
    | some (.lst ds) => some ds
    | _ => none
  | _ => none
def eExt (i : Nat) (f : M EV) : M EV := fun ss => match ss[i]? with
  | some (.lst _) => (f ss).bind fun a => (opn a.2 a.1).bind fun ds => match a.2[i]? with
    | some (.lst cs) => if cs.length + ds.length ≤ big then some (.dat .none, a.2.set i (.lst (cs ++ ds))) else none
    | _ => none
  | _ => none
def ePopAt (i : Nat) (f : M EV) : M EV := fun ss => match ss[i]? with
  | some (.lst _) => (f ss).bind fun a => (val a.2 a.1).bind fun d => match d, a.2[i]? with
    | .int k, some (.lst cs) => if k.natAbs < 2 ^ 62 then (seqIndex? k cs.length).bind fun j => (cs[j]?).bind fun y => some (.dat y, a.2.set i (.lst (cs.eraseIdx j))) else none
    | _, _ => none
  | _ => none
def ePop (i : Nat) : M EV := fun ss => match ss[i]? with
  | some (.lst cs) => (cs[cs.length - 1]?).bind fun y => some (.dat y, ss.set i (.lst cs.dropLast))
  | _ => none
theorem RpA.dropLast {K : PySem.W.Frag} {av : Av} {H : Hp} {vs : List V} {ds : List PyData} (h : RpA K av H vs ds) : RpA K av H vs.dropLast ds.dropLast := by
  rw [List.dropLast_eq_take, List.dropLast_eq_take, h.length]
  exact h.take _
section
variable {X : Cx} {e : Expr} {es : List Expr} {f : M EV} {x : Str} {apos cpos xp : Pos} {i : Nat}
theorem opn_list {K : PySem.W.Frag} {fo0 fo : Av} {ss : SS} {σ : St} {H : Hp} {v : V} {ev : EV} {ds : List PyData} (s : StR K fo ss σ H) (h : EVr K fo0 fo ss σ H v ev) (e : opn ss ev = some ds) : ∃ p vs, v = .ref p ∧ H p = some (.lst vs) ∧ RpA K (AvS fo ss σ) H vs ds := by
  cases ev with
  | dat d => cases e
  | own ds' =>
    cases e
    obtain ⟨p, vs, e1, _, _, e4, r⟩ := h
    exact ⟨p, vs, e1, e4, r⟩
  | bor i =>
    simp only [opn] at e
    cases q : ss[i]? with
    | none => rw [q] at e; cases e
    | some sl =>
      rw [q] at e
      cases sl with
      | lst ds1 =>
        cases e
        obtain ⟨p, vs, e1, e2, r⟩ := s.lst _ _ q
        have h' : σ[i]? = some (some v) := h
        rw [e1] at h'
        cases h'
        exact ⟨p, vs, rfl, e2, r⟩
      | un => cases e
      | dat d => cases e
theorem tyW_lst {K : PySem.W.Frag} {H : Hp} {p : Addr} {vs : List V} (h : H p = some (.lst vs)) : tyW K "list" (.ref p) H := .inl (.inl ⟨rfl, vs, SqL.of h⟩)
theorem se_app (he : SE X e f) (hN : X.N[i]? = some x := by rfl) (hv : Vis X.env.scope x := by first | exact Or.inl rfl | exact Or.inr (Or.inl rfl) | exact Or.inr (Or.inr rfl)) (hd : (x == ("__debug__" : Str)) = false := by decide) (hcd : (x == ("__classdict__" : Str)) = false := by decide)
    (hfew : ((backTo cpos (starEach [e] X.env)).all (fun x => !x.1) && (backToKw cpos (keywordEach [] X.env)).all (fun x => x.1.isSome)
      && decide (([e] : List Expr).length + ([] : List Keyword).length + (if ([] : List Keyword).isEmpty then 0 else 1) < 30)) = true := by rfl)
    (hline : (apos.endLine == cpos.line) = true := by rfl) (hs : starEach [e] X.env = (false, eval e X.env) :: starEach [] X.env := by rfl) (hplain : (backTo cpos (starEach [] X.env)).any (·.1) = false := by rfl) :
    SE X (.Call (.Attribute (.Name x xp) "append" apos) [e] [] cpos) (eApp i f) := by
  refine .of (pe_bw PySem.F.plainAttrs_list PySem.F.slot_list_append PySem.F.type_list_append mt_append (pe_var hN hv hd hcd) (pa_cons he.pe pa_nil hs) rfl hfew hline hs hplain) fun fo ss σ H ev ss' Q s e q => ?_
  unfold eApp at e
  split at e
  · rename_i c0 hc0
    obtain ⟨t, t0, et, ht0, _⟩ := s.lst i c0 hc0
    obtain ⟨⟨ea, s1⟩, e1, e⟩ := Option.bind_eq_some_iff.mp e
    obtain ⟨d, e2, e⟩ := Option.bind_eq_some_iff.mp e
    dsimp only at e
    split at e
    · rename_i cs hcs
      split at e
      · rename_i hb
        cases e
        refine ⟨_, et, tyW_lst ht0, fo, ss, ea, s1, s, e1, fun fo1 v H1 t1 st1 r1 => ?_⟩
        have s0 := st1.less t1.fm
        obtain ⟨t', ts, et', ht, rt⟩ := s0.lst i cs hcs
        rw [et] at et'
        cases et'
        have rd := r1.fz st1 t1.fm e2
        have f : Fr (fun a => a = t) H1 (upd H1 t (.lst (ts ++ [v]))) := .put rfl
        have fm : ∀ a, a = t → AvS fo s1 σ a := fun a z => by subst z; exact .inr ⟨i, cs, hcs, et⟩
        obtain ⟨s2, t2⟩ := s0.put hcs et f upd_same (RpA.mono f fm _ _ (rt.append (.one rd)))
        exact ⟨t, ts, v, rfl, rfl, ht, by rw [rt.length]; exact big_lt hb, q fo _ _ (t1.less.trans s0 t2) s2 (show Rp X.K _ _ _ _ from .non)⟩
      · cases e
    · cases e
  · cases e
end
end Ly

/-! LyE: extend, pop; targets, statements, loops. -/
namespace Ly
open PySem PySem.Spec L2

section
variable {X : Cx} {e : Expr} {es : List Expr} {f : M EV} {x : Str} {apos cpos xp : Pos} {i : Nat}
theorem se_ext (he : SE X e f) (hN : X.N[i]? = some x := by rfl) (hv : Vis X.env.scope x := by first | exact Or.inl rfl | exact Or.inr (Or.inl rfl) | exact Or.inr (Or.inr rfl)) (hd : (x == ("__debug__" : Str)) = false := by decide) (hcd : (x == ("__classdict__" : Str)) = false := by decide)
    (hfew : ((backTo cpos (starEach [e] X.env)).all (fun x => !x.1) && (backToKw cpos (keywordEach [] X.env)).all (fun x => x.1.isSome)
      && decide (([e] : List Expr).length + ([] : List Keyword).length + (if ([] : List Keyword).isEmpty then 0 else 1) < 30)) = true := by rfl)
    (hline : (apos.endLine == cpos.line) = true := by rfl) (hs : starEach [e] X.env = (false, eval e X.env) :: starEach [] X.env := by rfl) (hplain : (backTo cpos (starEach [] X.env)).any (·.1) = false := by rfl) :
    SE X (.Call (.Attribute (.Name x xp) "extend" apos) [e] [] cpos) (eExt i f) := by
  refine .of (pe_bw PySem.F.plainAttrs_list PySem.F.slot_list_extend PySem.F.type_list_extend mt_extend (pe_var hN hv hd hcd) (pa_cons he.pe pa_nil hs) rfl hfew hline hs hplain) fun fo ss σ H ev ss' Q s e q => ?_
  unfold eExt at e
  split at e
  · rename_i c0 hc0
    obtain ⟨t, t0, et, ht0, _⟩ := s.lst i c0 hc0
    obtain ⟨⟨ea, s1⟩, e1, e⟩ := Option.bind_eq_some_iff.mp e
    obtain ⟨ds, e2, e⟩ := Option.bind_eq_some_iff.mp e
    dsimp only at e
    split at e
    · rename_i cs hcs
      split at e
      · rename_i hb
        cases e
        refine ⟨_, et, tyW_lst ht0, fo, ss, ea, s1, s, e1, fun fo1 v H1 t1 st1 r1 => ?_⟩
        have s0 := st1.less t1.fm
        obtain ⟨b, bs, rfl, hb1, hb2⟩ := opn_list st1 r1 e2
        obtain ⟨t', ts, et', ht, rt⟩ := s0.lst i cs hcs
        rw [et] at et'
        cases et'
        have f : Fr (fun a => a = t) H1 (upd H1 t (.lst (ts ++ bs))) := .put rfl
        have fm : ∀ a, a = t → AvS fo s1 σ a := fun a z => by subst z; exact .inr ⟨i, cs, hcs, et⟩
        have rb : RpA X.K (AvS fo s1 σ) H1 bs ds := RpA.weak (fun a z => .inl (z.imp (t1.fm a) fun z => z)) _ _ hb2
        obtain ⟨s2, t2⟩ := s0.put hcs et f upd_same (RpA.mono f fm _ _ (rt.append rb))
        exact ⟨t, b, ts, bs, rfl, rfl, ht, hb1, by rw [rt.length, rb.length]; exact big_ok hb, q fo _ _ (t1.less.trans s0 t2) s2 (show Rp X.K _ _ _ _ from .non)⟩
      · cases e
    · cases e
  · cases e
theorem se_popAt (he : SE X e f) (hN : X.N[i]? = some x := by rfl) (hv : Vis X.env.scope x := by first | exact Or.inl rfl | exact Or.inr (Or.inl rfl) | exact Or.inr (Or.inr rfl)) (hd : (x == ("__debug__" : Str)) = false := by decide) (hcd : (x == ("__classdict__" : Str)) = false := by decide)
    (hfew : ((backTo cpos (starEach [e] X.env)).all (fun x => !x.1) && (backToKw cpos (keywordEach [] X.env)).all (fun x => x.1.isSome)
      && decide (([e] : List Expr).length + ([] : List Keyword).length + (if ([] : List Keyword).isEmpty then 0 else 1) < 30)) = true := by rfl)
    (hline : (apos.endLine == cpos.line) = true := by rfl) (hs : starEach [e] X.env = (false, eval e X.env) :: starEach [] X.env := by rfl) (hplain : (backTo cpos (starEach [] X.env)).any (·.1) = false := by rfl) :
    SE X (.Call (.Attribute (.Name x xp) "pop" apos) [e] [] cpos) (ePopAt i f) := by
  refine .of (pe_bw PySem.F.plainAttrs_list PySem.F.slot_list_pop PySem.F.type_list_pop mt_popAt (pe_var hN hv hd hcd) (pa_cons he.pe pa_nil hs) rfl hfew hline hs hplain) fun fo ss σ H ev ss' Q s e q => ?_
  unfold ePopAt at e
  split at e
  · rename_i c0 hc0
    obtain ⟨t, t0, et, ht0, _⟩ := s.lst i c0 hc0
    obtain ⟨⟨ea, s1⟩, e1, e⟩ := Option.bind_eq_some_iff.mp e
    obtain ⟨d, e2, e⟩ := Option.bind_eq_some_iff.mp e
    dsimp only at e
    split at e
    · rename_i k cs hcs
      split at e
      · rename_i hk
        obtain ⟨j, e3, e⟩ := Option.bind_eq_some_iff.mp e
        obtain ⟨y, e4, e⟩ := Option.bind_eq_some_iff.mp e
        cases e
        refine ⟨_, et, tyW_lst ht0, fo, ss, ea, s1, s, e1, fun fo1 v H1 t1 st1 r1 => ?_⟩
        have s0 := st1.less t1.fm
        have ev := (r1.rv st1 e2).int
        obtain ⟨t', ts, et', ht, rt⟩ := s0.lst i cs hcs
        rw [et] at et'
        cases et'
        obtain ⟨u, hu, ru⟩ := rt.get e4
        have f : Fr (fun a => a = t) H1 (upd H1 t (.lst (ts.eraseIdx j))) := .put rfl
        have pin : SlotA s1 σ t := ⟨i, cs, hcs, et⟩
        have fm : ∀ a, a = t → AvS fo s1 σ a := fun a z => by subst z; exact .inr pin
        obtain ⟨s2, t2⟩ := s0.put hcs et f upd_same (RpA.mono f fm _ _ (rt.eraseIdx j))
        exact ⟨t, ts, k, j, u, rfl, by rw [ev], ht, by omega, by omega, by rw [rt.length]; exact e3, hu, q fo _ _ (t1.less.trans s0 t2) s2 (ru.to f fm t2.av)⟩
      · cases e
    · cases e
  · cases e
theorem se_pop (hN : X.N[i]? = some x := by rfl) (hv : Vis X.env.scope x := by first | exact Or.inl rfl | exact Or.inr (Or.inl rfl) | exact Or.inr (Or.inr rfl)) (hd : (x == ("__debug__" : Str)) = false := by decide) (hcd : (x == ("__classdict__" : Str)) = false := by decide)
    (hline : (apos.endLine == cpos.line) = true := by rfl) : SE X (.Call (.Attribute (.Name x xp) "pop" apos) [] [] cpos) (ePop i) := by
  refine .of (pe_bw0 PySem.F.plainAttrs_list PySem.F.slot_list_pop PySem.F.type_list_pop mt_pop (pe_var hN hv hd hcd) rfl hline) fun fo ss σ H ev ss' Q s e q => ?_
  unfold ePop at e
  split at e
  · rename_i cs hcs
    obtain ⟨y, e4, e⟩ := Option.bind_eq_some_iff.mp e
    cases e
    obtain ⟨t, ts, et, ht, rt⟩ := s.lst i cs hcs
    obtain ⟨u, hu, ru⟩ := rt.get e4
    have f : Fr (fun a => a = t) H (upd H t (.lst ts.dropLast)) := .put rfl
    have pin : SlotA ss σ t := ⟨i, cs, hcs, et⟩
    have fm : ∀ a, a = t → AvS fo ss σ a := fun a z => by subst z; exact .inr pin
    obtain ⟨s2, t2⟩ := s.put hcs et f upd_same (RpA.mono f fm _ _ rt.dropLast)
    exact ⟨_, et, tyW_lst ht, t, ts, u, rfl, rfl, ht, by rw [rt.length]; exact hu, q fo _ _ t2 s2 (ru.to f fm t2.av)⟩
  · cases e
end

/-! ### targets -/
abbrev B := PyData → SS → Option SS
abbrev Bs := List PyData → SS → Option SS
/-- the slots but those of ws are as they were -/
structure Agree (ws : List Nat) (σ σ' : L2.St) : Prop where
  len : σ'.length = σ.length
  out : ∀ i, i ∉ ws → σ'[i]? = σ[i]?
theorem Agree.refl {ws : List Nat} {σ : L2.St} : Agree ws σ σ := ⟨rfl, fun _ _ => rfl⟩
theorem Agree.mono {ws vs : List Nat} {σ σ' : L2.St} (h : Agree ws σ σ') (w : ∀ i, i ∈ ws → i ∈ vs) : Agree vs σ σ' := ⟨h.len, fun i n => h.out i fun z => n (w i z)⟩
theorem Agree.trans {ws : List Nat} {σ σ1 σ2 : L2.St} (h : Agree ws σ σ1) (g : Agree ws σ1 σ2) : Agree ws σ σ2 := ⟨g.len.trans h.len, fun i n => (g.out i n).trans (h.out i n)⟩
theorem Agree.wipe {ws : List Nat} {σ σ' : L2.St} (h : Agree ws σ σ') : L2.wipe σ' ws = L2.wipe σ ws := by
  refine List.ext_getElem? fun i => ?_
  by_cases hi : i ∈ ws
  · have q : ∀ (τ : L2.St) (vs : List Nat), i ∈ vs → (L2.wipe τ vs)[i]? = if i < τ.length then some none else none := by
      intro τ vs
      induction vs with
      | nil => intro z; cases z
      | cons v vs ih =>
        intro z
        unfold L2.wipe
        rw [List.getElem?_set]
        by_cases e : v = i
        · subst e
          simp only [if_true, wipe_length]
        · rw [if_neg e]
          exact ih ((List.mem_cons.mp z).resolve_left (Ne.symm e))
    rw [q σ' ws hi, q σ ws hi, h.len]
  · rw [wipe_out hi, wipe_out hi]
    exact h.out i hi
def cG (K : PySem.W.Frag) (b : B) (ws : List Nat) : TG := fun v σ H Q => ∃ (fo : Av) (ss : SS) (d : PyData) (ss' : SS), StR K fo ss σ H ∧ Rp K (AvS fo ss σ) H v d ∧ b d ss = some ss' ∧ ∀ σ', Agree ws σ σ' → Tn fo ss σ H fo ss' σ' H → StR K fo ss' σ' H → Q σ' H
def cGs (K : PySem.W.Frag) (b : Bs) (ws : List Nat) : TGs := fun vs σ H Q => ∃ (fo : Av) (ss : SS) (ds : List PyData) (ss' : SS), StR K fo ss σ H ∧ RpA K (AvS fo ss σ) H vs ds ∧ b ds ss = some ss' ∧ ∀ σ', Agree ws σ σ' → Tn fo ss σ H fo ss' σ' H → StR K fo ss' σ' H → Q σ' H
structure SG (X : Cx) (tg : Expr) (b : B) (ws : List Nat) : Prop where
  pg : PG X tg (cG X.K b ws)
structure SGs (X : Cx) (tgs : List Expr) (b : Bs) (ws : List Nat) : Prop where
  pgs : PGs X tgs (cGs X.K b ws)
def bN (i : Nat) : B := fun d ss => some (ss.set i (.dat d))
def bsNil : Bs := fun ds ss => match ds with
  | [] => some ss
  | _ => none
def bsCons (b : B) (bs : Bs) : Bs := fun ds ss => match ds with
  | d :: r => (b d ss).bind fun s1 => bs r s1
  | [] => none
def bT (n : Nat) (bs : Bs) : B := fun d ss => match d with
  | .tuple ds => if ds.length = n then bs ds ss else none
  | _ => none
section
variable {X : Cx} {x : Str} {i : Nat} {pos : Pos} {tg : Expr} {tgs : List Expr} {b : B} {bs : Bs} {ws vs : List Nat}
theorem sg_n (i : Nat) (hN : X.N.Nodup) (hi : X.N[i]? = some x := by rfl) (hx : Loc X.env.scope x := by first | exact Or.inl rfl | exact Or.inr rfl) (hf : X.fn x = true ∨ X.env.scope.names.lookup x = some .local := by first | exact .inl rfl | exact .inr rfl | assumption) : SG X (.Name x pos) (bN i) [i] :=
  ⟨⟨fun pins s σ H v u Q I r ⟨fo, ss, d, ss', st, rd, e, q⟩ => (pg_name hN hi hx hf).run pins s σ H v u Q I r (by
    cases e
    obtain ⟨s2, sub⟩ := st.setD (i := i) rd
    exact q _ ⟨List.length_set, fun j n => List.getElem?_set_ne fun z => n (by rw [z]; exact List.mem_cons_self)⟩ ⟨.refl, fun _ z => z, fun a z => .inl (sub a z)⟩ s2)⟩⟩
theorem sgs_nil : SGs X [] bsNil [] := ⟨⟨fun pins s σ H vs us Q I r ⟨fo, ss, ds, ss', st, rd, e, q⟩ => pgs_nil.run pins s σ H vs us Q I r (by
  cases rd with
  | nil => cases e; exact ⟨rfl, q _ .refl .refl st⟩
  | cons _ _ => cases e)⟩⟩
theorem sgs_cons (h1 : SG X tg b ws) (h2 : SGs X tgs bs vs) (hs : (assignEach (tg :: tgs) X.env).map (·.2) = assign tg X.env :: (assignEach tgs X.env).map (·.2) := by rfl) : SGs X (tg :: tgs) (bsCons b bs) (ws ++ vs) :=
  ⟨⟨fun pins s σ H vs us Q I r ⟨fo, ss, ds, ss', st, rd, e, q⟩ => (pgs_cons h1.pg h2.pgs hs).run pins s σ H vs us Q I r (by
    cases rd with
    | nil => cases e
    | cons r1 r2 =>
      obtain ⟨s1, e1, e2⟩ := Option.bind_eq_some_iff.mp e
      refine ⟨_, _, rfl, fo, ss, _, s1, st, r1, e1, fun σ1 a1 t1 st1 => ⟨fo, s1, _, ss', st1, r2.to .refl (ms := fun _ => False) (fun _ z => z.elim) t1.av, e2, fun σ2 a2 t2 st2 => q σ2 ((a1.mono fun i z => List.mem_append_left _ z).trans (a2.mono fun i z => List.mem_append_right _ z)) (t1.trans st1 t2) st2⟩⟩)⟩⟩
theorem sg_t {k : Nat} (n : Nat) (hc : X.calm = true) (h : SGs X tgs bs ws) (hn : (assignEach tgs X.env).length = n := by rfl) (hst : (assignEach tgs X.env).findIdx? (·.1) = none := by rfl) : SG X (.Tuple tgs k pos) (bT n bs) ws :=
  ⟨⟨fun pins s σ H v u Q I r ⟨fo, ss, d, ss', st, rd, e, q⟩ => (pg_tup hc h.pgs hn hst).run pins s σ H v u Q I r (by
    unfold bT at e
    split at e
    · rename_i ds
      split at e
      · rename_i hl
        cases rd with
        | tup h1 h2 => exact ⟨_, _, rfl, h1.sq, by rw [h2.length]; exact hl, fo, ss, ds, ss', st, h2, e, q⟩
      · cases e
    · cases e)⟩⟩
end

/-! ### statements -/
inductive Out where
  | nx (ss : SS)
  | bk (ss : SS)
  | ct (ss : SS)
  | rt (ev : EV) (ss : SS)
def OutP (K : PySem.W.Frag) (ws : List Nat) (fo : Av) (ss : SS) (σ : St) (H : Hp) (D : Ends) : Out → Prop
  | .nx ss' => ∀ σ' H', Agree ws σ σ' → Tn fo ss σ H fo ss' σ' H' → StR K fo ss' σ' H' → D.nx σ' H'
  | .bk ss' => ∀ σ' H', Agree ws σ σ' → Tn fo ss σ H fo ss' σ' H' → StR K fo ss' σ' H' → D.bk σ' H'
  | .ct ss' => ∀ σ' H', Agree ws σ σ' → Tn fo ss σ H fo ss' σ' H' → StR K fo ss' σ' H' → D.ct σ' H'
  | .rt ev ss' => ∀ fo' v σ' H', Agree ws σ σ' → Tn fo ss σ H fo' ss' σ' H' → StR K fo' ss' σ' H' → EVr K fo fo' ss' σ' H' v ev → D.rt v H'
abbrev FS := SS → Option Out
/-- ws: the slots that it may store -/
def cS (K : PySem.W.Frag) (f : FS) (ws : List Nat) : TS := fun D σ H => ∃ (fo : Av) (ss : SS) (out : Out), StR K fo ss σ H ∧ f ss = some out ∧ OutP K ws fo ss σ H D out
structure SSt (X : Cx) (st : Stmt) (f : FS) (ws : List Nat) : Prop where
  ps : PS X st (cS X.K f ws)
structure SSs (X : Cx) (st : List Stmt) (f : FS) (ws : List Nat) : Prop where
  pss : PSs X st (cS X.K f ws)
theorem SSt.of {X : Cx} {st : Stmt} {ts : TS} {f : FS} {ws : List Nat} (p : PS X st ts) (k : ∀ fo ss σ H out D, StR X.K fo ss σ H → f ss = some out → OutP X.K ws fo ss σ H D out → ts D σ H) : SSt X st f ws :=
  ⟨⟨fun pins s σ H D I ⟨fo, ss, out, st, e, q⟩ => p.run pins s σ H D I (k fo ss σ H out D st e q)⟩⟩
theorem SSs.of {X : Cx} {st : List Stmt} {ts : TS} {f : FS} {ws : List Nat} (p : PSs X st ts) (k : ∀ fo ss σ H out D, StR X.K fo ss σ H → f ss = some out → OutP X.K ws fo ss σ H D out → ts D σ H) : SSs X st f ws :=
  ⟨⟨fun pins s σ H D I ⟨fo, ss, out, st, e, q⟩ => p.run pins s σ H D I (k fo ss σ H out D st e q)⟩⟩
/-- go on behind a step -/
theorem OutP.after {K : PySem.W.Frag} {ws vs : List Nat} {fo : Av} {ss s1 : SS} {σ σ1 : St} {H H1 : Hp} {D : Ends} {out : Out} (ag : Agree ws σ σ1) (hv : ∀ i, i ∈ vs → i ∈ ws) (t : Tn fo ss σ H fo s1 σ1 H1) (st : StR K fo s1 σ1 H1) (h : OutP K ws fo ss σ H D out) : OutP K vs fo s1 σ1 H1 D out := by
  cases out with
  | nx s => exact fun σ' H' a t' st' => h σ' H' (ag.trans (a.mono hv)) (t.trans st t') st'
  | bk s => exact fun σ' H' a t' st' => h σ' H' (ag.trans (a.mono hv)) (t.trans st t') st'
  | ct s => exact fun σ' H' a t' st' => h σ' H' (ag.trans (a.mono hv)) (t.trans st t') st'
  | rt ev s => exact fun fo' v σ' H' a t' st' => h fo' v σ' H' (ag.trans (a.mono hv)) (t.trans st t') st'
theorem OutP.mono {K : PySem.W.Frag} {ws vs : List Nat} {fo : Av} {ss : SS} {σ : St} {H : Hp} {D : Ends} {out : Out} (hv : ∀ i, i ∈ vs → i ∈ ws) (h : OutP K ws fo ss σ H D out) : OutP K vs fo ss σ H D out := by
  cases out with
  | nx s => exact fun σ' H' a t' st' => h σ' H' (a.mono hv) t' st'
  | bk s => exact fun σ' H' a t' st' => h σ' H' (a.mono hv) t' st'
  | ct s => exact fun σ' H' a t' st' => h σ' H' (a.mono hv) t' st'
  | rt ev s => exact fun fo' v σ' H' a t' st' => h fo' v σ' H' (a.mono hv) t' st'
theorem agree_set {i : Nat} {ws : List Nat} {σ : L2.St} {v : Option V} (h : i ∈ ws) : Agree ws σ (σ.set i v) := ⟨List.length_set, fun j n => List.getElem?_set_ne fun z => n (by rw [← z]; exact h)⟩
def sNil : FS := fun ss => some (.nx ss)
def sSeq (f g : FS) : FS := fun ss => (f ss).bind fun o => match o with
  | .nx s1 => g s1
  | o => some o
section
variable {X : Cx} {st : Stmt} {rest : List Stmt} {f g h : FS} {pos : Pos} {ws vs : List Nat}
theorem sss_nil : SSs X [] sNil [] := .of pss_nil fun fo ss σ H out D s e q => by
  cases e
  exact q σ H .refl .refl s
theorem sss_one (h : SSt X st f ws) : SSs X [st] f ws := ⟨pss_one h.ps⟩
theorem sss_cons (h1 : SSt X st f ws) (h2 : SSs X rest g vs) : SSs X (st :: rest) (sSeq f g) (ws ++ vs) := .of (pss_cons h1.ps h2.pss) fun fo ss σ H out D s e q => by
  unfold sSeq at e
  obtain ⟨o, e1, e⟩ := Option.bind_eq_some_iff.mp e
  refine ⟨fo, ss, o, s, e1, ?_⟩
  cases o with
  | nx s1 => exact fun σ' H' a t st => ⟨fo, s1, out, st, e, q.after (a.mono fun i z => List.mem_append_left _ z) (fun i z => List.mem_append_right _ z) t st⟩
  | bk s1 => cases e; exact OutP.mono (out := .bk s1) (fun i z => List.mem_append_left _ z) q
  | ct s1 => cases e; exact OutP.mono (out := .ct s1) (fun i z => List.mem_append_left _ z) q
  | rt ev s1 => cases e; exact OutP.mono (out := .rt ev s1) (fun i z => List.mem_append_left _ z) q
def sPass : FS := fun ss => some (.nx ss)
def sBk : FS := fun ss => some (.bk ss)
def sCt : FS := fun ss => some (.ct ss)
theorem ss_pass : SSt X (.Pass pos) sPass [] := .of ps_pass fun fo ss σ H out D s e q => by cases e; exact q σ H .refl .refl s
theorem ss_bk : SSt X (.Break pos) sBk [] := .of ps_break fun fo ss σ H out D s e q => by cases e; exact q σ H .refl .refl s
theorem ss_ct : SSt X (.Continue pos) sCt [] := .of ps_continue fun fo ss σ H out D s e q => by cases e; exact q σ H .refl .refl s
/-- a statement that is not reached -/
def sNev : FS := fun _ => none
theorem ss_nev : SSt X st sNev [] := .of ps_never fun fo ss σ H out D s e q => by cases e
def sRet (f : M EV) : FS := fun ss => (f ss).bind fun a => some (.rt a.1 a.2)
def sRetN : FS := fun ss => some (.rt (.dat .none) ss)
def sEx (f : M EV) : FS := fun ss => (f ss).bind fun a => some (.nx a.2)
def sIf (c : M Bool) (f g : FS) : FS := fun ss => (c ss).bind fun a => if a.1 = true then f a.2 else g a.2
variable {e c : Expr} {fe : M EV} {fc : M Bool} {a b : List Stmt}
theorem ss_ret (he : SE X e fe) : SSt X (.Return (some e) pos) (sRet fe) [] := .of (ps_ret he.pe) fun fo ss σ H out D s e q => by
  unfold sRet at e
  obtain ⟨⟨ev, s1⟩, e1, e⟩ := Option.bind_eq_some_iff.mp e
  cases e
  exact ⟨fo, ss, ev, s1, s, e1, fun fo' v H' t st r => q fo' v σ H' .refl t st r⟩
theorem ss_retN : SSt X (.Return none pos) sRetN [] := .of ps_retN fun fo ss σ H out D s e q => by
  cases e
  exact q fo _ σ H .refl .refl s (show Rp X.K _ _ _ _ from .non)
theorem ss_ex (he : SE X e fe) (hs : swapsWith e none pos.line X.env = pure false := by rfl) : SSt X (.Expr e pos) (sEx fe) [] := .of (ps_expr he.pe hs) fun fo ss σ H out D s e q => by
  unfold sEx at e
  obtain ⟨⟨ev, s1⟩, e1, e⟩ := Option.bind_eq_some_iff.mp e
  cases e
  exact ⟨fo, ss, ev, s1, s, e1, fun fo' v H' t st r => q σ H' .refl t.less (st.less t.fm)⟩
theorem ss_if (hc : ST X c fc) (ha : SSs X a f ws) (hb : SSs X b g vs) : SSt X (.If c a b pos) (sIf fc f g) (ws ++ vs) := .of (ps_if hc.pt ha.pss hb.pss) fun fo ss σ H out D s e q => by
  unfold sIf at e
  obtain ⟨⟨k, s1⟩, e1, e⟩ := Option.bind_eq_some_iff.mp e
  refine ⟨fo, ss, k, s1, s, e1, fun H' t st => ?_⟩
  cases k with
  | true => exact (show cS X.K f ws D σ H' from ⟨fo, s1, out, st, e, q.after .refl (fun i z => List.mem_append_left _ z) t st⟩)
  | false => exact (show cS X.K g vs D σ H' from ⟨fo, s1, out, st, e, q.after .refl (fun i z => List.mem_append_right _ z) t st⟩)
/-- x = e -/
def sSet (i : Nat) (f : M EV) : FS := fun ss => (f ss).bind fun a => match a.1 with
  | .dat d => some (.nx (a.2.set i (.dat d)))
  | .own ds => some (.nx (a.2.set i (.lst ds)))
  | _ => none
theorem set_end {K : PySem.W.Frag} {te : TE} {i : Nat} (h : TEv K te fe) : ∀ fo ss σ H out D, StR K fo ss σ H → sSet i fe ss = some out → OutP K [i] fo ss σ H D out → tAsg te (gName i) D σ H := fun fo ss σ H out D s e q => by
  unfold sSet at e
  obtain ⟨⟨ev, s1⟩, e1, e⟩ := Option.bind_eq_some_iff.mp e
  refine h fo ss σ H ev s1 _ s e1 fun fo' v H' t st r => ?_
  dsimp only at e
  cases ev with
  | dat d =>
    cases e
    obtain ⟨s2, sub⟩ := (st.less t.fm).setD (i := i) (Rp.weak (fun a z => .inl (z.imp (t.fm a) fun z => z)) _ _ r)
    exact q _ H' (agree_set List.mem_cons_self) (t.less.shrink (fun _ z => z) sub) s2
  | own ds =>
    cases e
    obtain ⟨p, vs, rfl, h1, h2, h3, h4⟩ := r
    obtain ⟨s2, sub⟩ := st.setL (i := i) t.fm h1 h2 h3 h4
    exact q _ H' (agree_set List.mem_cons_self) (t.shrink (fun _ z => z) sub) s2
  | bor j => cases e
variable {i j : Nat} {x y : Str} {pos' : Pos}
theorem ss_set (hN : X.N.Nodup) (he : SE X e fe) (hi : X.N[i]? = some x := by rfl) (hx : Loc X.env.scope x := by first | exact Or.inl rfl | exact Or.inr rfl) (hs : swapsWith e (some (.Name x pos')) pos.line X.env = pure false := by rfl)
    (hf : X.fn x = true ∨ X.env.scope.names.lookup x = some .local := by first | exact .inl rfl | exact .inr rfl | assumption) : SSt X (.Assign [.Name x pos'] e pos) (sSet i fe) [i] := .of (ps_set hN hi hx he.pe hs hf) (set_end tev_cE)
/-- a, b, .. = e -/
def sUn (b : B) (f : M EV) : FS := fun ss => (f ss).bind fun a => match a.1 with
  | .dat d => (b d a.2).bind fun s => some (.nx s)
  | _ => none
theorem ss_un {tg : Expr} {b : B} {ws : List Nat} (he : SE X e fe) (hb : SG X tg b ws) (hs : swapsWithSole [tg] e pos.line X.env = pure false := by rfl) (hw : swappedStores [tg] e X.env = pure none := by rfl)
    (h1 : (assignEach [tg] X.env).map (·.2) = [assign tg X.env] := by rfl) : SSt X (.Assign [tg] e pos) (sUn b fe) ws := .of (ps_asg he.pe hb.pg hs hw h1) fun fo ss σ H out D s e q => by
  unfold sUn at e
  obtain ⟨⟨ev, s1⟩, e1, e⟩ := Option.bind_eq_some_iff.mp e
  refine ⟨fo, ss, ev, s1, s, e1, fun fo' v H' t st r => ?_⟩
  dsimp only at e
  cases ev with
  | dat d =>
    obtain ⟨s2, e2, e⟩ := Option.bind_eq_some_iff.mp e
    cases e
    have s0 := st.less t.fm
    exact ⟨fo, s1, d, s2, s0, Rp.weak (fun a z => .inl (z.imp (t.fm a) fun z => z)) _ _ r, e2, fun σ' a2 t2 st2 => q σ' H' a2 (t.less.trans s0 t2) st2⟩
  | own ds => cases e
  | bor j => cases e
/-- a, b = e1, e2, plain local names -/
def put1 (i : Nat) (ev : EV) (ss : SS) : Option SS := match ev with
  | .dat d => some (ss.set i (.dat d))
  | .own ds => some (ss.set i (.lst ds))
  | _ => none
def sPar (i j : Nat) (f g : M EV) : FS := fun ss => (f ss).bind fun a => (g a.2).bind fun b => (put1 i a.1 b.2).bind fun s1 => (put1 j b.1 s1).bind fun s2 => some (.nx s2)
variable {e2 : Expr} {fe2 : M EV}
theorem ss_par {px py pt : Pos} {kt k2 pt2} (hc : X.calm = true) (hN : X.N.Nodup) (he : SE X e fe) (he2 : SE X e2 fe2) (hi : X.N[i]? = some x := by rfl) (hj : X.N[j]? = some y := by rfl) (hij : i ≠ j := by decide)
    (hx : X.env.scope.names.lookup x = some .local := by rfl) (hy : X.env.scope.names.lookup y = some .local := by rfl) (hst : starEach [e, e2] X.env = (false, eval e X.env) :: starEach [e2] X.env := by rfl) (hst2 : starEach [e2] X.env = (false, eval e2 X.env) :: starEach [] X.env := by rfl)
    (hw : swappedStores [.Tuple [.Name x px, .Name y py] kt pt] (.Tuple [e, e2] k2 pt2) X.env = pure (some [x, y]) := by rfl)
    (hs : swapsWithSole [.Tuple [.Name x px, .Name y py] kt pt] (.Tuple [e, e2] k2 pt2) pos.line X.env = pure false := by rfl) :
    SSt X (.Assign [.Tuple [.Name x px, .Name y py] kt pt] (.Tuple [e, e2] k2 pt2) pos) (sPar i j fe fe2) [i, j] :=
  .of (ps_par hc hN hi hj hij hx hy (pa_cons he.pe (pa_cons he2.pe pa_nil hst2) hst) hw hs) fun fo ss σ H out D s e q => by
    unfold sPar at e
    obtain ⟨⟨ea, s1⟩, e1, e⟩ := Option.bind_eq_some_iff.mp e
    obtain ⟨⟨eb, s2⟩, e2, e⟩ := Option.bind_eq_some_iff.mp e
    obtain ⟨s3, e3, e⟩ := Option.bind_eq_some_iff.mp e
    obtain ⟨s4, e4, e⟩ := Option.bind_eq_some_iff.mp e
    cases e
    refine ⟨fo, ss, ea, s1, s, e1, fun fo1 u H1 t1 st1 r1 => ⟨fo1, s1, eb, s2, st1, e2, fun fo2 v H2 t2 st2 r2 => ⟨u, v, rfl, ?_⟩⟩⟩
    have t12 := t1.trans st1 t2
    have ra := r1.stay t2 st1
    dsimp only at e3 e4
    have ag : ∀ {u v : Option V}, Agree [i, j] σ ((σ.set i u).set j v) := fun {u v} => (agree_set List.mem_cons_self).trans (agree_set (List.mem_cons_of_mem _ List.mem_cons_self))
    -- the second one first
    cases eb with
    | bor k => cases e4
    | dat d2 =>
      cases e4
      cases ea with
      | bor k => cases e3
      | dat d1 =>
        cases e3
        have s0 := st2.less t12.fm
        obtain ⟨s5, sub5⟩ := s0.setD (i := i) (Rp.weak (fun a z => .inl (z.imp (t12.fm a) fun z => z)) _ _ ra)
        obtain ⟨s6, sub6⟩ := s5.setD (i := j) (Rp.weak (fun a z => .inl (sub5 a z)) _ _ (Rp.weak (fun a z => .inl (z.imp (t12.fm a) fun z => z)) _ _ r2))
        exact q _ H2 ag (t12.less.shrink (fun _ z => z) fun a z => sub5 a (sub6 a z)) s6
      | own ds1 =>
        cases e3
        obtain ⟨p, vs, rfl, h1, h2, h3, h4⟩ := ra
        obtain ⟨s5, sub5⟩ := st2.setL (i := i) t12.fm h1 h2 h3 h4
        obtain ⟨s6, sub6⟩ := s5.setD (i := j) (Rp.weak (fun a z => .inl (sub5 a z)) _ _ r2)
        exact q _ H2 ag (t12.shrink (fun _ z => z) fun a z => sub5 a (sub6 a z)) s6
    | own ds2 =>
      cases e4
      obtain ⟨p2, vs2, rfl, g1, g2, g3, g4⟩ := r2
      cases ea with
      | bor k => cases e3
      | dat d1 =>
        cases e3
        obtain ⟨s5, sub5⟩ := st2.setD (i := i) ra
        obtain ⟨s6, sub6⟩ := s5.setL (i := j) t12.fm g1 (fun z => g2 (t1.fm _ z)) g3 (RpA.weak (fun a z => .inl (sub5 a z)) _ _ g4)
        exact q _ H2 ag (t12.shrink (fun _ z => z) fun a z => sub5 a (sub6 a z)) s6
      | own ds1 =>
        cases e3
        obtain ⟨p, vs, rfl, h1, h2, h3, h4⟩ := r1
        obtain ⟨p', vs', ep', h1', h2', h3', h4'⟩ := ra
        cases ep'
        have ne : p ≠ p2 := fun z => g2 (by rw [← z]; exact h1)
        -- the first list leaves the foreign ones, the second one stays there for a moment
        obtain ⟨s5, sub5⟩ := st2.setL (fo := fun a => fo a ∨ a = p2) (i := i) (fun a z => z.elim (t12.fm a) (fun z => by subst z; exact g1)) h1' (fun z => z.elim h2' ne) h3' h4'
        obtain ⟨s6, sub6⟩ := s5.setL (fo := fo) (i := j) (fun a z => .inl z) (.inr rfl) (fun z => g2 (t1.fm _ z)) g3 (RpA.weak (fun a z => .inl (sub5 a z)) _ _ g4)
        exact q _ H2 ag (t12.shrink (fun _ z => z) fun a z => sub5 a (sub6 a z)) s6
end
end Ly

/-! LyW: what is walked: lists and tuples (by data), ranges, enumerate, zip; the pairs are tuples whose objects are known. -/
namespace Ly
open PySem PySem.Spec L2

/-! ### walks by data -/
structure WalkD (K : PySem.W.Frag) (J : It) (items : List PyData) (G : Av → Hp → Prop) : Prop where
  mono : ∀ ms av H H', (∀ a, ms a → av a) → Fr ms H H' → G av H → G av H'
  weak : ∀ av av' H, (∀ a, av' a → av a ∨ H a = none) → G av H → G av' H
  goes : ∀ i av H, i < items.length → G av H → J.go i H
  stops : ∀ av H, G av H → J.stop items.length H
  yields : ∀ i av H x H', (∀ a, av a → H a ≠ none) → i < items.length → G av H → J.yld i H x H' → Fr0 H H' ∧ ∃ d, items[i]? = some d ∧ Rp K av H' x d
abbrev FI := SS → Option (List PyData × SS)
def cI (K : PySem.W.Frag) (f : FI) : TI := fun σ H R => ∃ (fo : Av) (ss : SS) (items : List PyData) (ss' : SS), StR K fo ss σ H ∧ f ss = some (items, ss') ∧
  ∀ J H' G, Tn fo ss σ H fo ss' σ H' → StR K fo ss' σ H' → WalkD K J items G → G (AvS fo ss' σ) H' → R J H'
structure SI (X : Cx) (tg iter : Expr) (f : FI) : Prop where
  pi : PI X tg iter (cI X.K f)

/-! ### what is walked item by item: a list, a tuple -/
structure Src (K : PySem.W.Frag) (a : Addr) (S : Hp → List V → Prop) (St : Addr → Nat → Heap → Prop) (Sq : Heap → Array Value → Prop) (o : Obj) : Prop where
  rd : ∀ {X : Cx} {pins : List (Addr × Obj)} {σ : L2.St} {H : Hp} {s : Shared} {xs : List V}, X.K = K → Inv X pins σ H s → S H xs → ∃ its : List Value, Vals xs its ∧ Sq s.heap its.toArray ∧ a < s.heap.objs.size
  inj : ∀ {X : Cx} {pins : List (Addr × Obj)} {σ : L2.St} {H : Hp} {s : Shared} {xs ys : List V}, X.K = K → Inv X pins σ H s → S H xs → S H ys → xs = ys
  dr : ∀ (prog : Program) (w : World) (A : Around) (it : Addr) (items : Array Value), A.handled = none → a ≠ it → Draws prog w A it [it, a] items.size (fun i v => items[i]? = some v) (fun i h => St it i h ∧ Sq h items)
  bg : ∀ items : Array Value, Begins (.ref a) o fun h => Sq h items
  st0 : ∀ (h : Heap) (it : Addr), h.get? it = some o → St it 0 h
  at_ : ∀ {it : Addr} {i : Nat} {h h' : Heap}, St it i h → (∀ o, h.get? it = some o → h'.get? it = some o) → St it i h'
  obj : ∀ {it : Addr} {i : Nat} {h : Heap}, St it i h → ∃ o, h.get? it = some o ∧ ∀ v, o.data ≠ .cell v
theorem src_list {K : PySem.W.Frag} {a : Addr} : Src K a (fun H xs => SqL K H a xs) (fun it i h => h.IsListIter it a i) (fun h items => h.IsList a items) { cls := .type "list_iterator", data := .fields #[.ref a, .int 0 0] } where
  rd := fun hK I h => by
    subst hK
    obtain ⟨its, rv, p, _⟩ := I.list h
    exact ⟨its, rv, p.isList, p.lt⟩
  inj := fun hK I h h' => by
    subst hK
    exact I.list_inj h h'
  dr := fun _ _ _ it items hh ne => .list hh it a ne items
  bg := fun items => begins_list a items
  st0 := fun h it e => ⟨_, e, rfl, rfl⟩
  at_ := fun st k => st.at k
  obj := fun ⟨o, e, _, d⟩ => ⟨o, e, fun v z => by rw [d] at z; cases z⟩
theorem src_tup {K : PySem.W.Frag} {a : Addr} : Src K a (fun H xs => SqT K H a xs) (fun it i h => h.IsTupleIter it a i) (fun h items => h.IsTuple a items) { cls := .type "tuple_iterator", data := .fields #[.ref a, .int 0 0] } where
  rd := fun hK I h => by
    subst hK
    obtain ⟨its, rv, p, _⟩ := I.tuple h
    exact ⟨its, rv, p, p.lt⟩
  inj := fun hK I h h' => by
    subst hK
    exact I.tuple_inj h h'
  dr := fun _ _ _ it items hh ne => .tuple hh it a ne items
  bg := fun items => begins_tuple a items
  st0 := fun h it e => ⟨_, e, rfl, rfl⟩
  at_ := fun st k => st.at k
  obj := fun ⟨o, e, _, d⟩ => ⟨o, e, fun v z => by rw [d] at z; cases z⟩
/-- the object of a pair as it is made -/
def pairOb (x y : Value) : Obj := { cls := .type "tuple", data := .seq #[x, y] }
/-- a new pair of x and y, its object known -/
def NewP (H H' : Hp) (v x y : V) : Prop := ∃ T ob, v = .ref T ∧ H T = none ∧ ob.dict = none ∧ H' = upd H T (.frz ob (.tup [x, y]))
theorem pair_ok {P : Program} {w : World} {H : Hp} {h : Heap} {T : Addr} {x y : V} {u v : Value} (rx : RelV x u) (ry : RelV y v) (e : h.get? T = some (pairOb u v)) : ObjOk P w H h T (.frz (pairOb u v) (.tup [x, y])) :=
  objT (us := [u, v]) (.cons rx (.cons ry .nil)) (by show 2 ≤ sizeLine; decide) e rfl ⟨_, rfl⟩

/-! ### enumerate -/
/-- each item with its number, in new pairs -/
def ItE (S : Hp → List V → Prop) : It :=
  ⟨fun i H => ∃ (xs : List V) (x : V), S H xs ∧ xs[i]? = some x, fun i H v H' => ∃ x, NewP H H' v (.int (i : Nat)) x ∧ ∀ xs, S H xs → xs[i]? = some x, fun i H => ∃ xs : List V, S H xs ∧ xs.length = i⟩
theorem turn_enumS {P : Program} {w : World} {K : PySem.W.Frag} {elts : List Expr} {kk : Nat} {tpos : Pos} {a e it : Addr} {S : Hp → List V → Prop} {St : Addr → Nat → Heap → Prop} {Sq : Heap → Array Value → Prop} {o : Obj} (R : Src K a S St Sq o)
    (hei : e ≠ it) (hea : e ≠ a) (hai : a ≠ it) :
    Turn P w K (.Tuple elts kk tpos) (ItE S) [e, it] e (fun i h => (∃ old, IsEnum h e it ((i : Nat) : Int) old) ∧ St it i h) where
  mem := List.mem_cons_self
  obj := fun i h ⟨⟨old, he⟩, st⟩ b hb => by
    rcases List.mem_cons.mp hb with z | z
    · subst z
      exact ⟨_, he, fun v q => nomatch q⟩
    · cases List.mem_singleton.mp z
      exact R.obj st
  keep := fun i h h' ⟨⟨old, he⟩, st⟩ k => ⟨⟨old, k e List.mem_cons_self _ he⟩, R.at_ st fun o q => k it (List.mem_cons_of_mem _ List.mem_cons_self) o q⟩
  item := by
    intro X hP hw hK hc i pins s σ H E I hf ⟨⟨old, he⟩, hst⟩ hg
    subst hP hw
    obtain ⟨xs, x, hq, hx⟩ := hg
    obtain ⟨its, rv, sq, _⟩ := R.rd hK I hq
    obtain ⟨u, hu, ru⟩ := rv.get hx
    have hlt : i < its.toArray.size := by
      rw [List.size_toArray]
      exact (List.getElem?_eq_some_iff.mp hu).1
    have nof : e ∉ [it, a] := fun z => by
      rcases List.mem_cons.mp z with q | q
      · exact hei q
      · exact hea (List.mem_singleton.mp q)
    refine wpAny_pyNext_enum_itemD (R.dr X.prog X.w X.A.in1 it its.toArray (I.ok.hd hc) hai) he ⟨hst, sq⟩ hlt hei nof fun y h' tk hy ho hst' hT hsz hk => ?_
    have ey : y = u := by
      have h2 : its.toArray[i]? = some u := by simpa using hu
      rw [h2] at hy
      exact (Option.some.inj hy).symm
    subst ey
    have hel : e < s.heap.objs.size := Heap.lt_size he
    refine ⟨_, rfl, wpAny_letOwnedTupleGo_enum (s := { s with heap := h', toks := tk + 1 }) ho fun h2 he2 sb => ?_⟩
    have hT2 : h2.get? s.heap.objs.size = some (pairOb (.int i tk) y) := (sb.2 _ (Nat.ne_of_gt hel)).trans hT
    have I1 : Inv X pins σ (upd H s.heap.objs.size (.frz (pairOb (.int i tk) y) (.tup [.int (i : Nat), x]))) { s with heap := h2, toks := tk + 1 } :=
      I.turnedNew (ch := [e, it]) (fun b ob hb q => (sb.2 b fun z => hb (z ▸ List.mem_cons_self)).trans (hk b ob (fun z => hb (z ▸ List.mem_cons_self)) (fun z => hb (z ▸ List.mem_cons_of_mem _ List.mem_cons_self)) q)) hf (Nat.le_refl _) (pair_ok ⟨_, rfl⟩ ru hT2)
    refine ⟨.ref s.heap.objs.size, _, I1, rfl, ⟨x, ⟨_, _, rfl, I.hok.fresh (Nat.le_refl _), rfl, rfl⟩, fun ys hy => by rw [R.inj hK I hy hq]; exact hx⟩, ⟨⟨y, ?_⟩, R.at_ hst'.1 fun ob q => (sb.2 it (Ne.symm hei)).trans q⟩, fun b hb => ?_⟩
    · have e1 : ((i + 1 : Nat) : Int) = (i : Int) + 1 := by omega
      rw [e1]
      exact he2
    · have hb' : b < s.heap.objs.size := by
        rcases List.mem_cons.mp hb with z | z
        · rw [z]; exact hel
        · cases List.mem_singleton.mp z
          obtain ⟨ob, q, _⟩ := R.obj hst
          exact Heap.lt_size q
      rw [upd_ne (Nat.ne_of_lt hb')]
      exact (hf b hb).1
  done := by
    intro X hP hw hK hc i pins s σ H E I hf ⟨⟨old, he⟩, hst⟩ hg
    subst hP hw
    obtain ⟨xs, hq, hx⟩ := hg
    obtain ⟨its, rv, sq, _⟩ := R.rd hK I hq
    obtain ⟨f0, f1, f2, f3, f4, f5⟩ := hf it (List.mem_cons_of_mem _ List.mem_cons_self)
    have hl : its.toArray.size = i := by
      rw [List.size_toArray, ← rv.length, hx]
    refine wpAny_pyNext_enum_endD (R.dr X.prog X.w X.A.in1 it its.toArray (I.ok.hd hc) hai) he (by rw [hl]; exact ⟨hst, sq⟩) fun h' eb => ⟨rfl, I.turned (t' := s.toks) (fun b ob hb q => eb b ob hb q) f0 f1 f3 f4 f5⟩
  self := fun A i s Q E ⟨⟨_, he⟩, _⟩ h => wpAny_pyIter_enum he h
/-- enumerate(v): its two new cells -/
theorem meets_enum1 {v : Value} {o : Obj} {Hc : Heap → Prop} (B : Begins v o Hc) :
    Meets (Builtin.«enumerate.__new__» ⟨[.type "enumerate", v], []⟩) (fun _ R s => Hc s.heap ∧
      R (.ok (.ret (.ref (s.heap.push o).objs.size))) { s with heap := (s.heap.push o).push { cls := .type "enumerate", data := .fields #[.none, .bool false, .ref s.heap.objs.size, rawInt 0, .none, .none] } }) :=
  .of_wp fun prog w A R s h => by
    obtain ⟨hp, g, d, tk, os⟩ := s
    obtain ⟨h1, h⟩ := h
    have hsub := sub_enumerate
    have q1 : ∀ {A' : Around} {E : Value → Shared → Prop} {Q : Value → Shared → Prop}, Q (.ref hp.objs.size) ⟨hp.push o, g, d, tk, os⟩ → wpAny (model prog w) A' (pyIter v) Q E ⟨hp, g, d, tk, os⟩ :=
      fun q => B.iter prog w _ _ ⟨hp, g, d, tk, os⟩ _ h1 q
    wp_walk using q1
    refine wpAny_stack_any fun st => wpAny_pure ?_
    split
    · rename_i c _ _ _ _ _
      cases (c == Value.type "enumerate") <;>
      · wp_walk using q1
        exact ⟨_, rfl, h⟩
    · wp_walk using q1
      exact ⟨_, rfl, h⟩
theorem call_enum1 {prog : Program} {w : World} {A : Around} {E : Value → Shared → Prop} {s : Shared} {v : Value} {o : Obj} {Hc : Heap → Prop} {Q : Value → Shared → Prop} (B : Begins v o Hc) (h1 : Hc s.heap)
    (h : ∀ h', IsEnum h' (s.heap.objs.size + 1) s.heap.objs.size 0 .none → h'.get? s.heap.objs.size = some o → (∀ b u, s.heap.get? b = some u → h'.get? b = some u) → Q (.ref (s.heap.objs.size + 1)) { s with heap := h' }) :
    wpAny (model prog w) A (call (.type "enumerate") [v]) Q E s := by
  refine callType_new F.called_enumerate (by decide) (F.typeCall_enumerate_1 _) (F.newCall_enumerate_1 _) (fun obj => F.args_object_init_2 obj _) F.entry_enumerate_new (meets_enum1 B) ⟨h1, ?_⟩
  have hz : (s.heap.push o).objs.size = s.heap.objs.size + 1 := Heap.size_push ..
  show _ ∧ _
  rw [hz]
  have he : IsEnum ((s.heap.push o).push { cls := .type "enumerate", data := .fields #[.none, .bool false, .ref s.heap.objs.size, rawInt 0, .none, .none] }) (s.heap.objs.size + 1) s.heap.objs.size 0 .none := by
    have q := Heap.get?_push_size (s.heap.push o) (o := { cls := .type "enumerate", data := .fields #[.none, .bool false, .ref s.heap.objs.size, rawInt 0, .none, .none] }) rfl
    rw [hz] at q
    exact q
  exact ⟨⟨_, he, rfl⟩, h _ he (Heap.get?_push_of_some _ (Heap.get?_push_size _ B.free)) fun b u x => Heap.get?_push_of_some _ (Heap.get?_push_of_some _ x)⟩

/-! ### zip of two -/
def ItZ (S1 S2 : Hp → List V → Prop) : It :=
  ⟨fun i H => ∃ (xs ys : List V) (x y : V), S1 H xs ∧ S2 H ys ∧ xs[i]? = some x ∧ ys[i]? = some y,
    fun i H v H' => ∃ x y, NewP H H' v x y ∧ (∀ xs, S1 H xs → xs[i]? = some x) ∧ ∀ ys, S2 H ys → ys[i]? = some y,
    fun i H => ∃ xs ys : List V, S1 H xs ∧ S2 H ys ∧ i = min xs.length ys.length⟩
theorem turn_zipS {P : Program} {w : World} {K : PySem.W.Frag} {elts : List Expr} {kk : Nat} {tpos : Pos} {a b z TI TO i1 i2 : Addr} {S1 S2 : Hp → List V → Prop} {St1 St2 : Addr → Nat → Heap → Prop} {Sq1 Sq2 : Heap → Array Value → Prop} {o1 o2 : Obj}
    (R1 : Src K a S1 St1 Sq1 o1) (R2 : Src K b S2 St2 Sq2 o2) (Z : ZipSep2 z TI TO i1 i2 [i1, a] [i2, b]) (h1 : a ≠ i1) (h2 : b ≠ i2) :
    Turn P w K (.Tuple elts kk tpos) (ItZ S1 S2) [z, TI, TO, i1, i2] z (fun i h => IsZip h z TI TO .none ∧ IsTupOf2 h TI (.ref i1) (.ref i2) ∧ (∃ x y, IsTupOf2 h TO x y) ∧ St1 i1 i h ∧ St2 i2 i h) where
  mem := List.mem_cons_self
  obj := fun i h ⟨hz, hTI, ⟨x, y, hTO⟩, s1, s2⟩ c hc => by
    simp only [List.mem_cons, List.not_mem_nil, or_false] at hc
    rcases hc with q | q | q | q | q
    · rw [q]; exact ⟨_, hz, fun v q => nomatch q⟩
    · rw [q]; exact ⟨_, hTI, fun v q => nomatch q⟩
    · rw [q]; exact ⟨_, hTO, fun v q => nomatch q⟩
    · rw [q]; exact R1.obj s1
    · rw [q]; exact R2.obj s2
  keep := fun i h h' ⟨hz, hTI, ⟨x, y, hTO⟩, s1, s2⟩ k => ⟨k z (by simp) _ hz, k TI (by simp) _ hTI, ⟨x, y, k TO (by simp) _ hTO⟩, R1.at_ s1 fun o q => k i1 (by simp) o q, R2.at_ s2 fun o q => k i2 (by simp) o q⟩
  item := by
    intro X hP hw hK hc i pins s σ H E I hf ⟨hz, hTI, ⟨x0, y0, hTO⟩, s1, s2⟩ ⟨xs, ys, x, y, hqx, hqy, hx, hy⟩
    subst hP hw
    obtain ⟨its, rv, sq1, _⟩ := R1.rd hK I hqx
    obtain ⟨its2, rv2, sq2, _⟩ := R2.rd hK I hqy
    obtain ⟨u, hu, ru⟩ := rv.get hx
    obtain ⟨u2, hu2, ru2⟩ := rv2.get hy
    have l1 : i < its.toArray.size := by rw [List.size_toArray]; exact (List.getElem?_eq_some_iff.mp hu).1
    have l2 : i < its2.toArray.size := by rw [List.size_toArray]; exact (List.getElem?_eq_some_iff.mp hu2).1
    have hzl : z < s.heap.objs.size := Heap.lt_size hz
    refine wpAny_pyNext_zipD2_item Z (R1.dr X.prog X.w X.A.in1 i1 its.toArray (I.ok.hd hc) h1) (R2.dr X.prog X.w X.A.in1 i2 its2.toArray (I.ok.hd hc) h2) hz hTI hTO ⟨s1, sq1⟩ ⟨s2, sq2⟩ l1 l2 fun v1 v2 h' tk e1 e2 z' TO' t1 t2 hT hsz hk => ?_
    have ev1 : v1 = u := by
      have q : its.toArray[i]? = some u := by simpa using hu
      rw [q] at e1
      exact (Option.some.inj e1).symm
    have ev2 : v2 = u2 := by
      have q : its2.toArray[i]? = some u2 := by simpa using hu2
      rw [q] at e2
      exact (Option.some.inj e2).symm
    subst ev1 ev2
    refine ⟨_, rfl, wpAny_letOwnedTupleGo_zip (s := { s with heap := h', toks := tk }) z' fun h3 z3 sb => ?_⟩
    have hT2 : h3.get? s.heap.objs.size = some (pairOb v1 v2) := (sb.2 _ (Nat.ne_of_gt hzl)).trans hT
    have mem : ∀ {c : Addr}, c ∉ [z, TI, TO, i1, i2] → c ≠ z ∧ c ≠ TO ∧ c ≠ i1 ∧ c ≠ i2 := fun {c} h => ⟨fun q => h (by simp [q]), fun q => h (by simp [q]), fun q => h (by simp [q]), fun q => h (by simp [q])⟩
    have I1 : Inv X pins σ (upd H s.heap.objs.size (.frz (pairOb v1 v2) (.tup [x, y]))) { s with heap := h3, toks := tk } :=
      I.turnedNew (ch := [z, TI, TO, i1, i2]) (fun c ob hb q => let m := mem hb; (sb.2 c m.1).trans (hk c ob m.1 m.2.1 m.2.2.1 m.2.2.2 q)) hf (Nat.le_refl _) (pair_ok ru ru2 hT2)
    refine ⟨.ref s.heap.objs.size, _, I1, rfl, ⟨x, y, ⟨_, _, rfl, I.hok.fresh (Nat.le_refl _), rfl, rfl⟩, fun l hl => by rw [R1.inj hK I hl hqx]; exact hx, fun l hl => by rw [R2.inj hK I hl hqy]; exact hy⟩, ⟨z3, ?_, ⟨v1, v2, ?_⟩, ?_, ?_⟩, fun c hcm => ?_⟩
    · exact (sb.2 _ Z.TIz).trans (hk _ _ Z.TIz Z.TITO Z.TIi1 Z.TIi2 hTI)
    · exact (sb.2 _ Z.TOz).trans TO'
    · exact R1.at_ t1.1 fun ob q => (sb.2 _ (Ne.symm Z.zi1)).trans q
    · exact R2.at_ t2.1 fun ob q => (sb.2 _ (Ne.symm Z.zi2)).trans q
    · have hlt : c < s.heap.objs.size := by
        simp only [List.mem_cons, List.not_mem_nil, or_false] at hcm
        rcases hcm with q | q | q | q | q
        · rw [q]; exact hzl
        · rw [q]; exact Heap.lt_size hTI
        · rw [q]; exact Heap.lt_size hTO
        · rw [q]; obtain ⟨_, e, _⟩ := R1.obj s1; exact Heap.lt_size e
        · rw [q]; obtain ⟨_, e, _⟩ := R2.obj s2; exact Heap.lt_size e
      rw [upd_ne (Nat.ne_of_lt hlt)]
      exact (hf c hcm).1
  done := by
    intro X hP hw hK hc i pins s σ H E I hf ⟨hz, hTI, ⟨x0, y0, hTO⟩, s1, s2⟩ ⟨xs, ys, hqx, hqy, hend⟩
    subst hP hw
    obtain ⟨its, rv, sq1, _⟩ := R1.rd hK I hqx
    obtain ⟨its2, rv2, sq2, _⟩ := R2.rd hK I hqy
    have l1 := rv.length
    have l2 := rv2.length
    refine wpAny_pyNext_zipD2_end Z (R1.dr X.prog X.w X.A.in1 i1 its.toArray (I.ok.hd hc) h1) (R2.dr X.prog X.w X.A.in1 i2 its2.toArray (I.ok.hd hc) h2) hz hTI hTO ⟨s1, sq1⟩ ⟨s2, sq2⟩ (by rw [List.size_toArray]; omega) (by rw [List.size_toArray]; omega) (by rw [List.size_toArray, List.size_toArray]; omega) fun h' tk hk => ⟨rfl, ?_⟩
    exact I.turnedL (t' := tk) (ch := [z, TI, TO, i1, i2]) (fun c ob hb q => hk c ob (fun w => hb (by simp [w])) (fun w => hb (by simp [w])) (fun w => hb (by simp [w])) (fun w => hb (by simp [w])) q) hf
  self := fun A i s Q E st h => wpAny_pyIter_zip st.1 h
end Ly

/-! LyX: what a for walks: data, ranges, enumerate, zip, texts. -/
namespace Ly
open PySem PySem.Spec L2

theorem walkD_list {K : PySem.W.Frag} {a : Addr} {items : List PyData} : WalkD K (Itl K a) items fun av H => ∃ xs, RL K av H a xs ∧ RpA K av H xs items where
  mono := fun ms av H H' m f ⟨xs, h, r⟩ => ⟨xs, h.mono f m, RpA.mono f m _ _ r⟩
  weak := fun av av' H w ⟨xs, h, r⟩ => ⟨xs, h.weak w, RpA.weak w _ _ r⟩
  goes := fun i av H hi ⟨xs, h, r⟩ => by
    obtain ⟨v, e, _⟩ := r.get (List.getElem?_eq_getElem hi)
    exact ⟨xs, v, h.sq, e⟩
  stops := fun av H ⟨xs, h, r⟩ => ⟨xs, h.sq, Nat.le_of_eq r.length⟩
  yields := fun i av H x H' _ hi ⟨xs, h, r⟩ ⟨e, y⟩ => by
    subst e
    obtain ⟨d, e1, r1⟩ := r.get' (y xs h.sq)
    exact ⟨.refl, d, e1, r1⟩
theorem walkD_tup {K : PySem.W.Frag} {a : Addr} {items : List PyData} : WalkD K (Itt K a) items fun av H => ∃ xs, RT K av H a xs ∧ RpA K av H xs items where
  mono := fun ms av H H' m f ⟨xs, h, r⟩ => ⟨xs, h.mono f m, RpA.mono f m _ _ r⟩
  weak := fun av av' H w ⟨xs, h, r⟩ => ⟨xs, h.weak w, RpA.weak w _ _ r⟩
  goes := fun i av H hi ⟨xs, h, r⟩ => by
    obtain ⟨v, e, _⟩ := r.get (List.getElem?_eq_getElem hi)
    exact ⟨xs, v, h.sq, e⟩
  stops := fun av H ⟨xs, h, r⟩ => ⟨xs, h.sq, Nat.le_of_eq r.length⟩
  yields := fun i av H x H' _ hi ⟨xs, h, r⟩ ⟨e, y⟩ => by
    subst e
    obtain ⟨d, e1, r1⟩ := r.get' (y xs h.sq)
    exact ⟨.refl, d, e1, r1⟩
def seqD : PyData → Option (List PyData)
  | .list ds => some ds
  | .tuple ds => some ds
  | _ => none
def iD (f : M EV) : FI := fun ss => (f ss).bind fun a => (frz a.1).bind fun d => (seqD d).bind fun ds => some (ds, a.2)
section
variable {X : Cx} {tg e e2 : Expr} {f f2 : M EV} {p pos tpos : Pos} {elts : List Expr} {kk : Nat} {g : M (List EV)}
theorem si_d (he : SE X e f) : SI X tg e (iD f) := ⟨⟨fun pins s σ H R I ⟨fo, ss, items, ss', st, e1, k⟩ => by
  unfold iD at e1
  obtain ⟨⟨ev, s1⟩, h1, e1⟩ := Option.bind_eq_some_iff.mp e1
  obtain ⟨d, h2, e1⟩ := Option.bind_eq_some_iff.mp e1
  obtain ⟨ds, h3, e1⟩ := Option.bind_eq_some_iff.mp e1
  cases e1
  cases d with
  | list ds' =>
    cases h3
    refine (pi_list (tg := tg) he.pe).run pins s σ H R I ⟨fo, ss, ev, s1, st, h1, fun fo1 v H1 t st1 r => ?_⟩
    have rp := r.fz st1 t.fm h2
    cases rp with
    | lst q1 q2 => exact ⟨_, rfl, ⟨_, q1.sq⟩, k _ H1 _ t.less (st1.less t.fm) walkD_list ⟨_, q1, q2⟩⟩
  | tuple ds' =>
    cases h3
    refine (pi_tup (tg := tg) he.pe).run pins s σ H R I ⟨fo, ss, ev, s1, st, h1, fun fo1 v H1 t st1 r => ?_⟩
    have rp := r.fz st1 t.fm h2
    cases rp with
    | tup q1 q2 => exact ⟨_, rfl, ⟨_, q1.sq⟩, k _ H1 _ t.less (st1.less t.fm) walkD_tup ⟨_, q1, q2⟩⟩
  | _ => cases h3⟩⟩
/-! ### ranges -/
def rngD (lo : Int) (n : Nat) : List PyData := (List.range n).map fun i => .int (lo + (i : Nat))
theorem rngD_get {lo : Int} {n i : Nat} (h : i < n) : (rngD lo n)[i]? = some (.int (lo + (i : Nat))) := by
  unfold rngD
  rw [List.getElem?_map, List.getElem?_range h]
  rfl
theorem rngD_len {lo : Int} {n : Nat} : (rngD lo n).length = n := by unfold rngD; rw [List.length_map, List.length_range]
theorem walkD_rng {K : PySem.W.Frag} {lo : Int} {n : Nat} : WalkD K (Itr lo n) (rngD lo n) fun _ _ => True where
  mono := fun _ _ _ _ _ _ _ => trivial
  weak := fun _ _ _ _ _ => trivial
  goes := fun i av H hi _ => by rw [rngD_len] at hi; exact hi
  stops := fun av H _ => by rw [rngD_len]; exact Nat.le_refl _
  yields := fun i av H x H' _ hi _ ⟨e, y⟩ => by
    rw [rngD_len] at hi
    subst e y
    exact ⟨.refl, _, rngD_get hi, .int _⟩
/-- (by natAbs: the kernel is not to count down from 2^62 at an int that it does not know) -/
def bnd (i : Int) : Bool := decide (i.natAbs < 2 ^ 62)
theorem bnd_ok {i : Int} (h : bnd i = true) : -(2 ^ 62) ≤ i ∧ i < 2 ^ 62 := by
  have h := of_decide_eq_true h
  omega
def iR (g : M (List EV)) : FI := fun ss => (g ss).bind fun a => (vals a.2 a.1).bind fun ds => match ds with
  | [.int j] => if bnd j = true then some (rngD 0 j.toNat, a.2) else none
  | [.int i, .int j] => if (bnd i && bnd j) = true then some (rngD i (j - i).toNat, a.2) else none
  | _ => none
theorem rv_ints1 {K : PySem.W.Frag} {av : Av} {H : Hp} {vs : List V} {i : Int} (h : RvA K av H vs [.int i]) : vs = [.int i] := by
  cases h with
  | cons h1 h2 => cases h2; rw [h1.int]
theorem rv_ints2 {K : PySem.W.Frag} {av : Av} {H : Hp} {vs : List V} {i j : Int} (h : RvA K av H vs [.int i, .int j]) : vs = [.int i, .int j] := by
  cases h with
  | cons h1 h2 => rw [rv_ints1 h2, h1.int]
theorem si_r1 (hm : X.mg "range" = none) (ha : SA X [e] g) (hlen : ∀ ss a s1, g ss = some (a, s1) → a.length = [e].length) (hg : Gl X "range" := by rfl) (hs : starEach [e] X.env = [(false, eval e X.env)] := by rfl) : SI X tg (.Call (.Name "range" p) [e] [] pos) (iR g) := ⟨⟨fun pins s σ H R I ⟨fo, ss, items, ss', st, e1, k⟩ => by
  unfold iR at e1
  obtain ⟨⟨evs, s1⟩, h1, e1⟩ := Option.bind_eq_some_iff.mp e1
  obtain ⟨ds, h2, e1⟩ := Option.bind_eq_some_iff.mp e1
  dsimp only at e1
  refine (pi_range1 (tg := tg) hg hm ha.pa hs).run pins s σ H R I ⟨fo, ss, evs, s1, st, h1, fun fo1 vs H1 t st1 r => ?_⟩
  have rv := r.rv st1 h2
  split at e1
  · split at e1
    · rename_i j hb
      cases e1
      obtain ⟨b1, b2⟩ := bnd_ok hb
      exact ⟨_, rv_ints1 rv, b1, b2, k _ H1 _ t.less (st1.less t.fm) walkD_rng trivial⟩
    · cases e1
  · exfalso
    have l1 := hlen _ _ _ h1
    rw [← r.length] at l1
    cases rv with
    | cons q1 q2 => cases q2 with
      | cons q3 q4 => cases q4; cases l1
  · cases e1⟩⟩
theorem si_r2 (hm : X.mg "range" = none) (ha : SA X [e, e2] g) (hlen : ∀ ss a s1, g ss = some (a, s1) → a.length = [e, e2].length) (hg : Gl X "range" := by rfl) (hs : starEach [e, e2] X.env = [(false, eval e X.env), (false, eval e2 X.env)] := by rfl) (hs2 : starEach [e2] X.env = [(false, eval e2 X.env)] := by rfl) :
    SI X tg (.Call (.Name "range" p) [e, e2] [] pos) (iR g) := ⟨⟨fun pins s σ H R I ⟨fo, ss, items, ss', st, e1, k⟩ => by
  unfold iR at e1
  obtain ⟨⟨evs, s1⟩, h1, e1⟩ := Option.bind_eq_some_iff.mp e1
  obtain ⟨ds, h2, e1⟩ := Option.bind_eq_some_iff.mp e1
  dsimp only at e1
  refine (pi_range2 (tg := tg) hg hm ha.pa hs hs2).run pins s σ H R I ⟨fo, ss, evs, s1, st, h1, fun fo1 vs H1 t st1 r => ?_⟩
  have rv := r.rv st1 h2
  split at e1
  · exfalso
    have l1 := hlen _ _ _ h1
    rw [← r.length] at l1
    cases rv with
    | cons q1 q2 => cases q2; cases l1
  · split at e1
    · rename_i i j hb
      cases e1
      obtain ⟨b0, b3⟩ := Bool.and_eq_true_iff.mp hb
      obtain ⟨b1, b2⟩ := bnd_ok b0
      obtain ⟨b3, b4⟩ := bnd_ok b3
      exact ⟨_, _, rv_ints2 rv, ⟨b1, b2, b3, b4⟩, k _ H1 _ t.less (st1.less t.fm) walkD_rng trivial⟩
    · cases e1
  · cases e1⟩⟩
/-! ### enumerate, zip -/
def enumD : Nat → List PyData → List PyData
  | _, [] => []
  | k, d :: ds => .tuple [.int (k : Nat), d] :: enumD (k + 1) ds
theorem enumD_get : ∀ (ds : List PyData) (k i : Nat), (enumD k ds)[i]? = (ds[i]?).map fun d => .tuple [.int ((k + i : Nat) : Int), d]
  | [], _, _ => by simp [enumD]
  | d :: ds, k, 0 => by simp [enumD]
  | d :: ds, k, i + 1 => by
    show (enumD (k + 1) ds)[i]? = _
    rw [enumD_get ds (k + 1) i]
    simp only [List.getElem?_cons_succ]
    rw [show k + 1 + i = k + (i + 1) by omega]
theorem enumD_len : ∀ (ds : List PyData) (k : Nat), (enumD k ds).length = ds.length
  | [], _ => rfl
  | d :: ds, k => congrArg Nat.succ (enumD_len ds (k + 1))
def zipD : List PyData → List PyData → List PyData
  | d :: ds, e :: es => .tuple [d, e] :: zipD ds es
  | _, _ => []
theorem zipD_get : ∀ (ds es : List PyData) (i : Nat) (d e : PyData), ds[i]? = some d → es[i]? = some e → (zipD ds es)[i]? = some (.tuple [d, e])
  | [], _, _, _, _, h, _ => by simp at h
  | _ :: _, [], _, _, _, _, h => by simp at h
  | d0 :: ds, e0 :: es, 0, d, e, h, h' => by
    simp only [List.getElem?_cons_zero, Option.some.injEq] at h h'
    subst h h'
    rfl
  | d0 :: ds, e0 :: es, i + 1, d, e, h, h' => zipD_get ds es i d e (by simpa using h) (by simpa using h')
theorem zipD_len : ∀ (ds es : List PyData), (zipD ds es).length = min ds.length es.length
  | [], es => by simp [zipD]
  | _ :: _, [] => by simp [zipD]
  | d :: ds, e :: es => by
    show (zipD ds es).length + 1 = _
    rw [zipD_len ds es]
    simp only [List.length_cons]
    omega
/-- a source, as data -/
structure SrcD (K : PySem.W.Frag) (S : Hp → List V → Prop) (items : List PyData) (G : Av → Hp → Prop) : Prop where
  mono : ∀ ms av H H', (∀ a, ms a → av a) → Fr ms H H' → G av H → G av H'
  weak : ∀ av av' H, (∀ a, av' a → av a ∨ H a = none) → G av H → G av' H
  rd : ∀ av H, G av H → ∃ xs, S H xs ∧ RpA K av H xs items
theorem srcD_list {K : PySem.W.Frag} {a : Addr} {items : List PyData} : SrcD K (fun H xs => SqL K H a xs) items fun av H => ∃ xs, RL K av H a xs ∧ RpA K av H xs items where
  mono := fun ms av H H' m f ⟨xs, h, r⟩ => ⟨xs, h.mono f m, RpA.mono f m _ _ r⟩
  weak := fun av av' H w ⟨xs, h, r⟩ => ⟨xs, h.weak w, RpA.weak w _ _ r⟩
  rd := fun av H ⟨xs, h, r⟩ => ⟨xs, h.sq, r⟩
theorem srcD_tup {K : PySem.W.Frag} {a : Addr} {items : List PyData} : SrcD K (fun H xs => SqT K H a xs) items fun av H => ∃ xs, RT K av H a xs ∧ RpA K av H xs items where
  mono := fun ms av H H' m f ⟨xs, h, r⟩ => ⟨xs, h.mono f m, RpA.mono f m _ _ r⟩
  weak := fun av av' H w ⟨xs, h, r⟩ => ⟨xs, h.weak w, RpA.weak w _ _ r⟩
  rd := fun av H ⟨xs, h, r⟩ => ⟨xs, h.sq, r⟩
theorem newP_rp {K : PySem.W.Frag} {av : Av} {H H' : Hp} {v x y : V} {d e : PyData} (al : ∀ a, av a → H a ≠ none) (n : NewP H H' v x y) (r1 : Rp K av H x d) (r2 : Rp K av H y e) : Fr0 H H' ∧ Rp K av H' v (.tuple [d, e]) := by
  obtain ⟨T, ob, rfl, hT, hd, rfl⟩ := n
  exact ⟨.new hT, .tup (.inl ⟨⟨ob, upd_same, hd⟩, fun z => al T z hT⟩) (RpA.mono (.new (ms := av) hT) (fun _ z => z) _ _ (.cons r1 (.cons r2 .nil)))⟩
theorem walkD_enum {K : PySem.W.Frag} {S : Hp → List V → Prop} {items : List PyData} {G : Av → Hp → Prop} (D : SrcD K S items G) : WalkD K (ItE S) (enumD 0 items) G where
  mono := D.mono
  weak := D.weak
  goes := fun i av H hi g => by
    obtain ⟨xs, h, r⟩ := D.rd av H g
    rw [enumD_len] at hi
    obtain ⟨v, e, _⟩ := r.get (List.getElem?_eq_getElem hi)
    exact ⟨xs, v, h, e⟩
  stops := fun av H g => by
    obtain ⟨xs, h, r⟩ := D.rd av H g
    exact ⟨xs, h, by rw [enumD_len]; exact r.length⟩
  yields := fun i av H x H' al hi g ⟨y, n, hy⟩ => by
    obtain ⟨xs, h, r⟩ := D.rd av H g
    obtain ⟨d, e1, r1⟩ := r.get' (hy xs h)
    obtain ⟨f, q⟩ := newP_rp al n (.int _) r1
    refine ⟨f, _, ?_, q⟩
    rw [enumD_get, e1, Nat.zero_add]
    rfl
theorem walkD_zip {K : PySem.W.Frag} {S1 S2 : Hp → List V → Prop} {ds es : List PyData} {G1 G2 : Av → Hp → Prop} (D1 : SrcD K S1 ds G1) (D2 : SrcD K S2 es G2) : WalkD K (ItZ S1 S2) (zipD ds es) fun av H => G1 av H ∧ G2 av H where
  mono := fun ms av H H' m f g => ⟨D1.mono ms av H H' m f g.1, D2.mono ms av H H' m f g.2⟩
  weak := fun av av' H w g => ⟨D1.weak av av' H w g.1, D2.weak av av' H w g.2⟩
  goes := fun i av H hi g => by
    obtain ⟨xs, h, r⟩ := D1.rd av H g.1
    obtain ⟨ys, h', r'⟩ := D2.rd av H g.2
    rw [zipD_len] at hi
    obtain ⟨v, e, _⟩ := r.get (List.getElem?_eq_getElem (by omega : i < ds.length))
    obtain ⟨u, e', _⟩ := r'.get (List.getElem?_eq_getElem (by omega : i < es.length))
    exact ⟨xs, ys, v, u, h, h', e, e'⟩
  stops := fun av H g => by
    obtain ⟨xs, h, r⟩ := D1.rd av H g.1
    obtain ⟨ys, h', r'⟩ := D2.rd av H g.2
    exact ⟨xs, ys, h, h', by rw [zipD_len, r.length, r'.length]⟩
  yields := fun i av H x H' al hi g ⟨y, z, n, hy, hz⟩ => by
    obtain ⟨xs, h, r⟩ := D1.rd av H g.1
    obtain ⟨ys, h', r'⟩ := D2.rd av H g.2
    obtain ⟨d, e1, r1⟩ := r.get' (hy xs h)
    obtain ⟨d', e1', r1'⟩ := r'.get' (hz ys h')
    obtain ⟨f, q⟩ := newP_rp al n r1 r1'
    exact ⟨f, _, zipD_get ds es i d d' e1 e1', q⟩
def iEn (g : M (List EV)) : FI := fun ss => (g ss).bind fun a => (frzs a.1).bind fun ds => match ds with
  | [d] => (seqD d).bind fun items => some (enumD 0 items, a.2)
  | _ => none
def iZp (g : M (List EV)) : FI := fun ss => (g ss).bind fun a => (frzs a.1).bind fun ds => match ds with
  | [d, e] => (seqD d).bind fun xs => (seqD e).bind fun ys => some (zipD xs ys, a.2)
  | _ => none
/-- data that can be walked item by item: its source -/
theorem src_of {K : PySem.W.Frag} {av : Av} {H : Hp} {v : V} {d : PyData} {items : List PyData} (r : Rp K av H v d) (e : seqD d = some items) :
    ∃ (a : Addr) (S : Hp → List V → Prop) (St : Addr → Nat → Heap → Prop) (Sq : Heap → Array Value → Prop) (o : Obj) (G : Av → Hp → Prop) (xs : List V), v = .ref a ∧ Src K a S St Sq o ∧ SrcD K S items G ∧ G av H ∧ S H xs := by
  cases r with
  | lst h1 h2 => cases e; exact ⟨_, _, _, _, _, _, _, rfl, src_list, srcD_list, ⟨_, h1, h2⟩, h1.sq⟩
  | tup h1 h2 => cases e; exact ⟨_, _, _, _, _, _, _, rfl, src_tup, srcD_tup, ⟨_, h1, h2⟩, h1.sq⟩
  | _ => cases e
theorem si_en (hm : X.mg "enumerate" = none) (ha : SA X [e] g) (hg : Gl X "enumerate" := by rfl) (hs : starEach [e] X.env = [(false, eval e X.env)] := by rfl) : SI X (.Tuple elts kk tpos) (.Call (.Name "enumerate" p) [e] [] pos) (iEn g) := ⟨⟨fun pins s σ H R I ⟨fo, ss, items, ss', st, e1, k⟩ => by
  unfold iEn at e1
  obtain ⟨⟨evs, s1⟩, h1, e1⟩ := Option.bind_eq_some_iff.mp e1
  obtain ⟨ds, h2, e1⟩ := Option.bind_eq_some_iff.mp e1
  dsimp only at e1
  refine PyProof.Rows.Call_ (ld_blt I hg hm PyProof.Rows.boot_enumerate (PyProof.Rows.callWith_type1 (thn (ha.pa.run pos pins s σ H _ I ⟨fo, ss, evs, s1, st, h1, fun fo1 vs H1 t st1 r => (⟨⟨fo1, t, st1, r⟩⟩ : PLift (∃ fo1, Tn fo ss σ H fo1 s1 σ H1 ∧ StR X.K fo1 s1 σ H1 ∧ EVrs X.K fo fo1 s1 σ H1 vs evs) ).down⟩) fun us s2 ⟨vs, H1, I1, rus, q1⟩ => ?_) hs rfl))
  obtain ⟨fo1, t, st1, r⟩ := q1
  have rp := r.fz st1 t.fm h2
  have s0 := st1.less t.fm
  split at e1
  · obtain ⟨its, h3, e1⟩ := Option.bind_eq_some_iff.mp e1
    cases e1
    cases rp with
    | cons r1 r2 =>
      cases r2
      obtain ⟨a, S, St, Sq, o, G, xs, rfl, src, srcd, g0, hS⟩ := src_of r1 h3
      cases rus with
      | cons ru rr =>
        cases rr
        cases ru
        obtain ⟨vals, rv, sq, hal⟩ := src.rd rfl I1 hS
        refine call_enum1 (src.bg vals.toArray) sq fun h' he hit hk => wpAny_pyIter_enum he ?_
        have I2 : Inv X pins σ H1 { s2 with heap := h' } := I1.kept (t' := s2.toks) hk
        refine ⟨s2.heap.objs.size + 1, [s2.heap.objs.size + 1, s2.heap.objs.size], _, _, H1, rfl, I2, turn_enumS src (Nat.succ_ne_self _) (Nat.ne_of_gt (Nat.lt_succ_of_lt hal)) (Nat.ne_of_lt hal), ⟨⟨.none, he⟩, src.st0 _ _ hit⟩, fun b hb => ?_, k _ H1 G t.less s0 (walkD_enum srcd) g0⟩
        have hle : s2.heap.objs.size ≤ b := by
          rcases List.mem_cons.mp hb with z | z
          · rw [z]; exact Nat.le_add_right _ _
          · rw [List.mem_singleton.mp z]; exact Nat.le_refl _
        exact I1.fpOk hle (I1.hok.fresh hle)
  · cases e1⟩⟩
theorem si_zp (hm : X.mg "zip" = none) (ha : SA X [e, e2] g) (hg : Gl X "zip" := by rfl) (hs : starEach [e, e2] X.env = (false, eval e X.env) :: starEach [e2] X.env := by rfl) (hpl : (backTo pos (starEach [e2] X.env)).any (·.1) = false := by rfl) :
    SI X (.Tuple elts kk tpos) (.Call (.Name "zip" p) [e, e2] [] pos) (iZp g) := ⟨⟨fun pins s σ H R I ⟨fo, ss, items, ss', st, e1, k⟩ => by
  unfold iZp at e1
  obtain ⟨⟨evs, s1⟩, h1, e1⟩ := Option.bind_eq_some_iff.mp e1
  obtain ⟨ds, h2, e1⟩ := Option.bind_eq_some_iff.mp e1
  dsimp only at e1
  refine PyProof.Rows.Call_ (ld_blt I hg hm PyProof.Rows.boot_zip (PyProof.Rows.callWith_type1 (thn (ha.pa.run pos pins s σ H _ I ⟨fo, ss, evs, s1, st, h1, fun fo1 vs H1 t st1 r => (⟨⟨fo1, t, st1, r⟩⟩ : PLift (∃ fo1, Tn fo ss σ H fo1 s1 σ H1 ∧ StR X.K fo1 s1 σ H1 ∧ EVrs X.K fo fo1 s1 σ H1 vs evs) ).down⟩) fun us s2 ⟨vs, H1, I1, rus, q1⟩ => ?_) hs hpl))
  obtain ⟨fo1, t, st1, r⟩ := q1
  have rp := r.fz st1 t.fm h2
  have s0 := st1.less t.fm
  split at e1
  · obtain ⟨its, h3, e1⟩ := Option.bind_eq_some_iff.mp e1
    obtain ⟨its2, h4, e1⟩ := Option.bind_eq_some_iff.mp e1
    cases e1
    cases rp with
    | cons r1 r2 => cases r2 with
      | cons r2 r3 =>
        cases r3
        obtain ⟨a, S1, St1, Sq1, o1, G1, xs, rfl, src1, srcd1, g1, hS1⟩ := src_of r1 h3
        obtain ⟨b, S2, St2, Sq2, o2, G2, ys, rfl, src2, srcd2, g2, hS2⟩ := src_of r2 h4
        cases rus with
        | cons ru rr => cases rr with
          | cons ru2 rr =>
            cases rr
            cases ru
            cases ru2
            obtain ⟨vals, rv, sq1, hal⟩ := src1.rd rfl I1 hS1
            obtain ⟨vals2, rv2, sq2, hbl⟩ := src2.rd rfl I1 hS2
            refine zip_begins2 (src1.bg vals.toArray) (src2.bg vals2.toArray) sq1 sq2 fun h' hz hTI hTO hi1 hi2 _ hk => wpAny_pyIter_zip hz ?_
            have I2 : Inv X pins σ H1 { s2 with heap := h' } := I1.kept (t' := s2.toks) hk
            have sep : ZipSep2 (s2.heap.objs.size + 4) (s2.heap.objs.size + 2) (s2.heap.objs.size + 3) s2.heap.objs.size (s2.heap.objs.size + 1) [s2.heap.objs.size, a] [s2.heap.objs.size + 1, b] :=
              zip_sep2 (fp1 := [a]) (fp2 := [b]) (fun c hc => by rw [List.mem_singleton.mp hc]; exact hal) (fun c hc => by rw [List.mem_singleton.mp hc]; exact hbl)
            refine ⟨s2.heap.objs.size + 4, [s2.heap.objs.size + 4, s2.heap.objs.size + 2, s2.heap.objs.size + 3, s2.heap.objs.size, s2.heap.objs.size + 1], _, _, H1, rfl, I2,
              turn_zipS src1 src2 sep (Nat.ne_of_lt hal) (Nat.ne_of_lt (Nat.lt_succ_of_lt hbl)), ⟨hz, hTI, ⟨_, _, hTO⟩, src1.st0 _ _ hi1, src2.st0 _ _ hi2⟩, fun c hc => ?_, k _ H1 _ t.less s0 (walkD_zip srcd1 srcd2) ⟨g1, g2⟩⟩
            have hle : s2.heap.objs.size ≤ c := by
              simp only [List.mem_cons, List.not_mem_nil, or_false] at hc
              rcases hc with z | z | z | z | z
              · rw [z]; exact Nat.le_add_right _ _
              · rw [z]; exact Nat.le_add_right _ _
              · rw [z]; exact Nat.le_add_right _ _
              · rw [z]; exact Nat.le_refl _
              · rw [z]; exact Nat.le_add_right _ _
            exact I1.fpOk hle (I1.hok.fresh hle)
  · cases e1⟩⟩
end
end Ly

/-! LyF: items stored, loops, comprehensions, defs. -/
namespace Ly
open PySem PySem.Spec L2

/-! ### xs[i] = e, xs the list of a slot -/
def sSetIx (i : Nat) (fi fe : M EV) : FS := fun ss => (fe ss).bind fun a => (frz a.1).bind fun d => match a.2[i]? with
  | some (.lst _) => (fi a.2).bind fun b => (val b.2 b.1).bind fun k => match k, b.2[i]? with
    | .int k, some (.lst cs) => (ixN cs.length k).bind fun j => some (.nx (b.2.set i (.lst (cs.set j d))))
    | _, _ => none
  | _ => none
section
variable {X : Cx} {e ie : Expr} {fe fi : M EV} {x : Str} {i : Nat} {pos xp sp : Pos}
theorem ss_setIx (he : SE X e fe) (hi : SE X ie fi) (hN : X.N[i]? = some x := by rfl) (hv : Vis X.env.scope x := by first | exact Or.inl rfl | exact Or.inr (Or.inl rfl) | exact Or.inr (Or.inr rfl)) (hd : (x == ("__debug__" : Str)) = false := by decide) (hcd : (x == ("__classdict__" : Str)) = false := by decide)
    (hs : swapsWithSole [.Subscript (.Name x xp) ie sp] e pos.line X.env = pure false := by rfl) (hw : swappedStores [.Subscript (.Name x xp) ie sp] e X.env = pure none := by rfl)
    (h1 : (assignEach [.Subscript (.Name x xp) ie sp] X.env).map (·.2) = [assign (.Subscript (.Name x xp) ie sp) X.env] := by rfl)
    (ha : ∀ v, assign (.Subscript (.Name x xp) ie sp) X.env v = (do
      let ov ← holding [v] (eval (.Name x xp) X.env)
      let iv ← holding [v, ov] (eval ie X.env)
      standAt sp
      holding [v, ov, iv] (setItem ov iv v)
      release [v, ov, iv] []) := by intro _; rfl) : SSt X (.Assign [.Subscript (.Name x xp) ie sp] e pos) (sSetIx i fi fe) [] :=
  .of (ps_asg he.pe (pg_sub (pe_var hN hv hd hcd) hi.pe set_list ha) hs hw h1) fun fo ss σ H out D s e q => by
    unfold sSetIx at e
    obtain ⟨⟨ea, s1⟩, e1, e⟩ := Option.bind_eq_some_iff.mp e
    obtain ⟨d, e2, e⟩ := Option.bind_eq_some_iff.mp e
    dsimp only at e
    split at e
    · rename_i c0 hc0
      obtain ⟨⟨eb, s2⟩, e3, e⟩ := Option.bind_eq_some_iff.mp e
      obtain ⟨k, e4, e⟩ := Option.bind_eq_some_iff.mp e
      dsimp only at e
      split at e
      · rename_i k cs hcs
        obtain ⟨j, e5, e⟩ := Option.bind_eq_some_iff.mp e
        cases e
        refine ⟨fo, ss, ea, s1, s, e1, fun fo1 u H1 t1 st1 r1 => ?_⟩
        have s10 := st1.less t1.fm
        have rd := r1.fz st1 t1.fm e2
        obtain ⟨t, ts0, et, _, _⟩ := s10.lst i c0 hc0
        refine ⟨_, et, fo, s1, eb, s2, s10, e3, fun fo2 w H2 t2 st2 r2 => ?_⟩
        have s20 := st2.less t2.fm
        have ew := (r2.rv st2 e4).int
        obtain ⟨t', ts, et', ht, rt⟩ := s20.lst i cs hcs
        rw [et] at et'
        cases et'
        have rd2 : Rp X.K (AvS fo s2 σ) H2 u d := rd.to t2.fr slotA_av t2.less.av
        have f : Fr (fun a => a = t) H2 (upd H2 t (.lst (ts.set j u))) := .put rfl
        have fm : ∀ a, a = t → AvS fo s2 σ a := fun a z => by subst z; exact .inr ⟨i, cs, hcs, et⟩
        obtain ⟨s3, t3⟩ := s20.put hcs et f upd_same (RpA.mono f fm _ _ (rt.set j rd2))
        exact ⟨t, ts, k, j, rfl, ew, ht, by rw [rt.length]; exact e5, q σ _ .refl ((t1.less.trans s10 t2.less).trans s20 t3) s3⟩
      · cases e
    · cases e
end

/-! ### x op= e -/
def sAug (i : Nat) (g : PyData → PyData → Option Res) (fe : M EV) : FS := fun ss => match ss[i]? with
  | some (.dat x) => (fe ss).bind fun a => (val a.2 a.1).bind fun y => (g x y).bind fun r => match r with
    | .dat d => some (.nx (a.2.set i (.dat d)))
    | .own ds => some (.nx (a.2.set i (.lst ds)))
  | _ => none
section
variable {X : Cx} {e : Expr} {fe : M EV} {x : Str} {i : Nat} {pos pos' : Pos} {op : Operator} {ti : TIp} {g : PyData → PyData → Option Res}
theorem ss_aug (ho : PIp X op ti) (hr : OpSp X.K ti g) (hN : X.N.Nodup) (he : SE X e fe) (hi : X.N[i]? = some x := by rfl) (hx : Loc X.env.scope x := by first | exact Or.inl rfl | exact Or.inr rfl)
    (hf : X.fn x = true ∨ X.env.scope.names.lookup x = some .local := by first | exact .inl rfl | exact .inr rfl | assumption) : SSt X (.AugAssign (.Name x pos') op e pos) (sAug i g fe) [i] :=
  .of (ps_aug hN hi hx he.pe ho hf) fun fo ss σ H out D s e q => by
    unfold sAug at e
    split at e
    · rename_i d0 h0
      obtain ⟨v0, ev0, r0⟩ := s.dat i d0 h0
      obtain ⟨⟨ea, s1⟩, e1, e⟩ := Option.bind_eq_some_iff.mp e
      obtain ⟨y, e2, e⟩ := Option.bind_eq_some_iff.mp e
      obtain ⟨res, e3, e⟩ := Option.bind_eq_some_iff.mp e
      refine ⟨v0, ev0, fo, ss, ea, s1, s, e1, fun fo1 u H1 t1 st1 r1 => ?_⟩
      have r0' : EVr X.K fo fo1 s1 σ H1 v0 (.dat d0) := EVr.stay (ev := .dat d0) t1 s r0
      refine hr _ H1 v0 u d0 y res _ (.inl r0') (r1.rv st1 e2) e3 st1.avthere fun z H2 f rz => ?_
      obtain ⟨fo2, t2, st2, r2⟩ := res_end st1 t1.fm f rz
      have t12 := t1.less.trans (st1.less t1.fm) t2
      cases res with
      | dat d =>
        cases e
        obtain ⟨s3, sub⟩ := (st2.less t12.fm).setD (i := i) (Rp.weak (fun a z => .inl (z.imp (t12.fm a) fun z => z)) _ _ r2)
        exact q _ H2 (agree_set List.mem_cons_self) (t12.less.shrink (fun _ z => z) sub) s3
      | own ds =>
        cases e
        obtain ⟨p, vs, rfl, h1, h2, h3, h4⟩ := r2
        obtain ⟨s3, sub⟩ := st2.setL (i := i) t12.fm h1 h2 h3 h4
        exact q _ H2 (agree_set List.mem_cons_self) (t12.shrink (fun _ z => z) sub) s3
    · cases e
end

/-! ### for -/
def loopS (b : B) (body : FS) : List PyData → FS
  | [], ss => some (.nx ss)
  | d :: ds, ss => (b d ss).bind fun s1 => (body s1).bind fun o => match o with
    | .nx s2 => loopS b body ds s2
    | .ct s2 => loopS b body ds s2
    | .bk s2 => some (.nx s2)
    | .rt ev s2 => some (.rt ev s2)
def sFor (fi : FI) (b : B) (body : FS) : FS := fun ss => (fi ss).bind fun a => loopS b body a.1 a.2
section
variable {X : Cx} {tg iter : Expr} {body : List Stmt} {fi : FI} {b : B} {fb : FS} {pos : Pos} {ws vs : List Nat}
theorem ss_for (hp : PassesOwn (model X.prog X.w) X.A X.env X.xe) (hc : X.calm = true) (hi : SI X tg iter fi) (hg : SG X tg b ws) (hb : SSs X body fb vs) (hs : ∀ x, foldedSetIterable iter X.env x = pure x := by intro _; rfl) :
    SSt X (.For tg iter body [] pos) (sFor fi b fb) (ws ++ vs) := .of (ps_for hp hc hi.pi hg.pg hb.pss hs) fun fo ss σ H out D s e q => by
  unfold sFor at e
  obtain ⟨⟨items, s1⟩, e1, e⟩ := Option.bind_eq_some_iff.mp e
  refine ⟨fo, ss, items, s1, s, e1, fun J H1 G t1 st1 w g1 => ?_⟩
  refine ⟨fun i m σ' H' => m = items.length - i ∧ i ≤ items.length ∧ ∃ si, StR X.K fo si σ' H' ∧ (Agree (ws ++ vs) σ σ' ∧ Tn fo ss σ H fo si σ' H') ∧ loopS b fb (items.drop i) si = some out ∧ G (AvS fo si σ') H', ⟨_, rfl, Nat.zero_le _, s1, st1, ⟨.refl, t1⟩, e, g1⟩, ?_⟩
  rintro i m σ' H' ⟨rfl, hle, si, sti, ⟨ai, ti⟩, ei, gi⟩
  by_cases hlt : i < items.length
  · refine .inr ⟨w.goes i _ H' hlt gi, fun σ2 H2 => ∃ s2, StR X.K fo s2 σ2 H2 ∧ (Agree (ws ++ vs) σ σ2 ∧ Tn fo ss σ H fo s2 σ2 H2) ∧ loopS b fb (items.drop (i + 1)) s2 = some out ∧ G (AvS fo s2 σ2) H2, ?_, ?_⟩
    · rintro σ2 H2 ⟨s2, k1, k2, k3, k4⟩
      exact ⟨_, by omega, rfl, hlt, s2, k1, k2, k3, k4⟩
    · intro x H2 y
      obtain ⟨f, d, ed, rd⟩ := w.yields i _ H' x H2 sti.avthere hlt gi y
      have e0 : items.drop i = d :: items.drop (i + 1) := by
        rw [List.drop_eq_getElem_cons hlt]
        have := List.getElem?_eq_getElem hlt
        rw [this] at ed
        cases ed
        rfl
      rw [e0] at ei
      obtain ⟨s3, h3, ei⟩ := Option.bind_eq_some_iff.mp ei
      obtain ⟨o, h4, ei⟩ := Option.bind_eq_some_iff.mp ei
      have st2 := sti.mono f
      have t2 : Tn fo ss σ H fo si σ' H2 := ti.trans sti (.grow f)
      have g2 : G (AvS fo si σ') H2 := w.mono (fun _ => False) _ H' H2 (fun _ z => z.elim) f gi
      refine ⟨fo, si, d, s3, st2, rd, h3, fun σ3 a3 t3 st3 => ⟨fo, s3, o, st3, h4, ?_⟩⟩
      have t03 := t2.trans st2 t3
      have a03 : Agree (ws ++ vs) σ σ3 := ai.trans (a3.mono fun i z => List.mem_append_left _ z)
      have am : ∀ {σ5}, Agree vs σ3 σ5 → Agree (ws ++ vs) σ σ5 := fun a => a03.trans (a.mono fun i z => List.mem_append_right _ z)
      have g3 : G (AvS fo s3 σ3) H2 := w.weak _ _ H2 t3.av g2
      have go : ∀ s5 σ5 H5, Agree vs σ3 σ5 → Tn fo s3 σ3 H2 fo s5 σ5 H5 → StR X.K fo s5 σ5 H5 → loopS b fb (items.drop (i + 1)) s5 = some out →
          ∃ s2, StR X.K fo s2 σ5 H5 ∧ (Agree (ws ++ vs) σ σ5 ∧ Tn fo ss σ H fo s2 σ5 H5) ∧ loopS b fb (items.drop (i + 1)) s2 = some out ∧ G (AvS fo s2 σ5) H5 := fun s5 σ5 H5 a5 t5 st5 e5 =>
        ⟨s5, st5, ⟨am a5, t03.trans st3 t5⟩, e5, w.weak (fun a => AvS fo s3 σ3 a ∨ H2 a = none) _ H5 (fun a z => .inl (t5.av a z)) (w.mono (SlotA s3 σ3) _ H2 H5 (fun a z => .inl (.inr z)) t5.fr (w.weak _ _ H2 (fun a z => z) g3))⟩
      cases o with
      | nx s5 => exact fun σ5 H5 a5 t5 st5 => go s5 σ5 H5 a5 t5 st5 ei
      | ct s5 => exact fun σ5 H5 a5 t5 st5 => go s5 σ5 H5 a5 t5 st5 ei
      | bk s5 =>
        cases ei
        exact fun σ5 H5 a5 t5 st5 => q σ5 H5 (am a5) (t03.trans st3 t5) st5
      | rt ev s5 =>
        cases ei
        exact fun fo' v σ5 H5 a5 t5 st5 => q fo' v σ5 H5 (am a5) (t03.trans st3 t5) st5
  · have ei' : i = items.length := by omega
    subst ei'
    rw [List.drop_length] at ei
    cases ei
    exact .inl ⟨w.stops _ H' gi, q σ' H' ai ti sti⟩
end

/-! ### while -/
def whileS (c : M Bool) (body : FS) : Nat → FS
  | 0, _ => none
  | n + 1, ss => (c ss).bind fun a => if a.1 = true then (body a.2).bind fun o => match o with
    | .nx s2 => whileS c body n s2
    | .ct s2 => whileS c body n s2
    | .bk s2 => some (.nx s2)
    | .rt ev s2 => some (.rt ev s2)
    else some (.nx a.2)
section
variable {X : Cx} {c : Expr} {body : List Stmt} {fc : M Bool} {fb : FS} {pos : Pos} {ws : List Nat}
theorem ss_while (n : Nat) (hp : PassesOwn (model X.prog X.w) X.A X.env X.xe) (hc : ST X c fc) (hb : SSs X body fb ws) : SSt X (.While c body [] pos) (whileS fc fb n) ws := .of (ps_while hp hc.pt hb.pss) fun fo ss σ H out D s e q => by
  refine ⟨fun m σ' H' => ∃ si, StR X.K fo si σ' H' ∧ (Agree ws σ σ' ∧ Tn fo ss σ H fo si σ' H') ∧ whileS fc fb m si = some out, ⟨n, ss, s, ⟨.refl, .refl⟩, e⟩, ?_⟩
  rintro m σ' H' ⟨si, sti, ⟨ai, ti⟩, ei⟩
  cases m with
  | zero => cases ei
  | succ m =>
    obtain ⟨⟨k, s1⟩, e1, ei⟩ := Option.bind_eq_some_iff.mp ei
    refine ⟨fo, si, k, s1, sti, e1, fun H1 t1 st1 => ?_⟩
    have t01 := ti.trans sti t1
    cases k with
    | false =>
      cases ei
      exact (show D.nx σ' H1 from q σ' H1 ai t01 st1)
    | true =>
      obtain ⟨o, e2, ei⟩ := Option.bind_eq_some_iff.mp (show ((fb s1).bind fun o => match o with
        | .nx s2 => whileS fc fb m s2
        | .ct s2 => whileS fc fb m s2
        | .bk s2 => some (.nx s2)
        | .rt ev s2 => some (.rt ev s2)) = some out from ei)
      refine (show ∃ N : L2.St → Hp → Prop, _ ∧ cS X.K fb ws { D with nx := N, ct := N, bk := D.nx } σ' H1 from ⟨fun σ2 H2 => ∃ s2, StR X.K fo s2 σ2 H2 ∧ (Agree ws σ σ2 ∧ Tn fo ss σ H fo s2 σ2 H2) ∧ whileS fc fb m s2 = some out, fun σ2 H2 h => ⟨m, Nat.lt_succ_self _, h⟩, fo, s1, o, st1, e2, ?_⟩)
      cases o with
      | nx s5 => exact fun σ5 H5 a5 t5 st5 => ⟨s5, st5, ⟨ai.trans a5, t01.trans st1 t5⟩, ei⟩
      | ct s5 => exact fun σ5 H5 a5 t5 st5 => ⟨s5, st5, ⟨ai.trans a5, t01.trans st1 t5⟩, ei⟩
      | bk s5 =>
        cases ei
        exact fun σ5 H5 a5 t5 st5 => q σ5 H5 (ai.trans a5) (t01.trans st1 t5) st5
      | rt ev s5 =>
        cases ei
        exact fun fo' v σ5 H5 a5 t5 st5 => q fo' v σ5 H5 (ai.trans a5) (t01.trans st1 t5) st5
end

/-! ### comprehensions -/
def wipeS (ss : SS) : List Nat → SS
  | [] => ss
  | v :: vs => (wipeS ss vs).set v .un
section
variable {K : PySem.W.Frag} {fo : Av} {ss : SS} {σ : St} {H : Hp} {vs : List Nat}
theorem wipeS_get {i : Nat} {x : SlotV} : ∀ {vs : List Nat}, (wipeS ss vs)[i]? = some x → (x = .un ∧ i ∈ vs) ∨ (i ∉ vs ∧ ss[i]? = some x)
  | [], h => .inr ⟨by simp, h⟩
  | v :: vs, h => by
    unfold wipeS at h
    rcases set_get h with ⟨e, q⟩ | ⟨ne, q⟩
    · exact .inl ⟨q, by rw [e]; exact List.mem_cons_self⟩
    · rcases wipeS_get q with ⟨a, b⟩ | ⟨a, b⟩
      · exact .inl ⟨a, List.mem_cons_of_mem _ b⟩
      · exact .inr ⟨fun z => (List.mem_cons.mp z).elim ne a, b⟩
theorem wipeS_len : ∀ vs : List Nat, (wipeS ss vs).length = ss.length
  | [] => rfl
  | v :: vs => by unfold wipeS; rw [List.length_set, wipeS_len vs]
theorem wipe_get {i : Nat} (h : i ∉ vs) : (wipe σ vs)[i]? = σ[i]? := wipe_out h
theorem wipeS_slotA : ∀ a, SlotA (wipeS ss vs) (wipe σ vs) a → SlotA ss σ a := fun a ⟨i, ds, e1, e2⟩ => by
  rcases wipeS_get e1 with ⟨q, _⟩ | ⟨n, q⟩
  · cases q
  · exact ⟨i, ds, q, by rw [wipe_get n] at e2; exact e2⟩
theorem StR.wiped (s : StR K fo ss σ H) : StR K fo (wipeS ss vs) (wipe σ vs) H where
  len := by rw [wipeS_len, wipe_length]; exact s.len
  dat := fun i d e => by
    rcases wipeS_get e with ⟨q, _⟩ | ⟨n, q⟩
    · cases q
    · obtain ⟨v, e1, r⟩ := s.dat i d q
      exact ⟨v, by rw [wipe_get n]; exact e1, Rp.weak (fun a z => .inl (z.imp (fun z => z) (wipeS_slotA a))) _ _ r⟩
  lst := fun i ds e => by
    rcases wipeS_get e with ⟨q, _⟩ | ⟨n, q⟩
    · cases q
    · obtain ⟨p, us, e1, e2, r⟩ := s.lst i ds q
      exact ⟨p, us, by rw [wipe_get n]; exact e1, e2, RpA.weak (fun a z => .inl (z.imp (fun z => z) (wipeS_slotA a))) _ _ r⟩
  dis := fun i j p ds es e1 e2 e3 e4 => by
    rcases wipeS_get e1 with ⟨q, _⟩ | ⟨n, q⟩
    · cases q
    · rcases wipeS_get e2 with ⟨q', _⟩ | ⟨n', q'⟩
      · cases q'
      · rw [wipe_get n] at e3
        rw [wipe_get n'] at e4
        exact s.dis i j p ds es q q' e3 e4
  alive := s.alive
  apart := fun a z w => s.apart a z (wipeS_slotA a w)
/-- back among the slots as they were, the block's names unsaid -/
theorem StR.unwipe (s : StR K fo (wipeS ss vs) (wipe σ vs) H) (hl : ss.length = σ.length) : StR K fo (wipeS ss vs) σ H := by
  have sub : ∀ {i : Nat} {x : Option V}, ∀ sl, (wipeS ss vs)[i]? = some sl → sl ≠ .un → (wipe σ vs)[i]? = σ[i]? := fun {i x} sl e ne => by
    rcases wipeS_get e with ⟨q, _⟩ | ⟨n, q⟩
    · exact absurd q ne
    · exact wipe_get n
  have eqA : ∀ a, SlotA (wipeS ss vs) σ a → SlotA (wipeS ss vs) (wipe σ vs) a := fun a ⟨i, ds, e1, e2⟩ => ⟨i, ds, e1, by
    rcases wipeS_get e1 with ⟨q, _⟩ | ⟨n, q⟩
    · cases q
    · rw [wipe_get n]; exact e2⟩
  refine ⟨by rw [wipeS_len]; exact hl, fun i d e => ?_, fun i ds e => ?_, fun i j p ds es e1 e2 e3 e4 => ?_, s.alive, fun a z w => s.apart a z (eqA a w)⟩
  · obtain ⟨v, e1, r⟩ := s.dat i d e
    rcases wipeS_get e with ⟨q, _⟩ | ⟨n, q⟩
    · cases q
    · rw [wipe_get n] at e1
      exact ⟨v, e1, Rp.weak (fun a z => .inl (z.imp (fun z => z) (eqA a))) _ _ r⟩
  · obtain ⟨p, us, e1, e2, r⟩ := s.lst i ds e
    rcases wipeS_get e with ⟨q, _⟩ | ⟨n, q⟩
    · cases q
    · rw [wipe_get n] at e1
      exact ⟨p, us, e1, e2, RpA.weak (fun a z => .inl (z.imp (fun z => z) (eqA a))) _ _ r⟩
  · rcases wipeS_get e1 with ⟨q, _⟩ | ⟨n, q⟩
    · cases q
    · rcases wipeS_get e2 with ⟨q', _⟩ | ⟨n', q'⟩
      · cases q'
      · exact s.dis i j p ds es e1 e2 (by rw [wipe_get n]; exact e3) (by rw [wipe_get n']; exact e4)
/-- a foreign cell is written -/
theorem StR.fwrite {H' : Hp} {D : Addr} (s : StR K fo ss σ H) (hD : fo D) (f : Fr (fun a => a = D) H H') : StR K fo ss σ H' where
  len := s.len
  dat := fun i d e => let ⟨v, e1, r⟩ := s.dat i d e; ⟨v, e1, Rp.mono f (fun a z => by subst z; exact .inl hD) _ _ r⟩
  lst := fun i ds e => let ⟨p, vs, e1, h, r⟩ := s.lst i ds e; ⟨p, vs, e1, f.keep p _ (fun z => s.apart D hD (by rw [← z]; exact ⟨i, ds, e, e1⟩)) h, RpA.mono f (fun a z => by subst z; exact .inl hD) _ _ r⟩
  dis := s.dis
  alive := fun a z => f.dom a (s.alive a z)
  apart := s.apart
end
/-- the tests of a clause -/
structure STs (X : Cx) (ifs : List Expr) (f : M Bool) : Prop where
  pts : PTs X ifs (cT X.K f)
def mYes : M Bool := fun ss => some (true, ss)
theorem sts_nil {X : Cx} : STs X [] mYes := ⟨⟨fun pins s σ H Q I ⟨fo, ss, b, ss', st, e, q⟩ => pts_nil.run pins s σ H Q I (by
  cases e
  exact q H .refl st)⟩⟩
theorem sts_one {X : Cx} {c : Expr} {f : M Bool} (h : ST X c f) : STs X [c] f := ⟨pts_one h.pt⟩
def lcLoop (b : B) (c : M Bool) (f : M EV) (vs : List Nat) : List PyData → SS → Option (List PyData × SS)
  | [], ss => some ([], ss)
  | d :: ds, ss => (b d ss).bind fun s1 => (c s1).bind fun t => if t.1 = true then (f t.2).bind fun e => (frz e.1).bind fun y => (lcLoop b c f vs ds (wipeS e.2 vs)).bind fun r => some (y :: r.1, r.2)
    else lcLoop b c f vs ds (wipeS t.2 vs)
def eLc (fi : FI) (b : B) (c : M Bool) (f : M EV) (vs : List Nat) : M EV := fun ss => (fi ss).bind fun p => (lcLoop b c f vs p.1 (wipeS p.2 vs)).bind fun r => if r.1.length ≤ big then some (.own r.1, wipeS r.2 vs) else none
section
variable {K : PySem.W.Frag} {fi : FI} {b : B} {c : M Bool} {f : M EV} {vs ws : List Nat}
/-- within a comprehension: the new list at D holds acc, si are the slots -/
structure LcSt (K : PySem.W.Frag) (fo : Av) (ss : SS) (σ : L2.St) (H0 : Hp) (vs : List Nat) (D : Addr) (acc : List PyData) (si : SS) (σi : L2.St) (H : Hp) : Prop where
  st : StR K (fun a => fo a ∨ a = D) si σi H
  tn : Tn fo ss σ H0 (fun a => fo a ∨ a = D) si σi H
  ls : ∃ us, H D = some (.lst us) ∧ RpA K (AvS (fun a => fo a ∨ a = D) si σi) H us acc
variable {fo : Av} {ss si s2 : SS} {σ σi σ2 : L2.St} {H0 H H2 : Hp} {D : Addr} {acc : List PyData}
theorem LcSt.step (l : LcSt K fo ss σ H0 vs D acc si σi H) (t : Tn (fun a => fo a ∨ a = D) si σi H (fun a => fo a ∨ a = D) s2 σ2 H2) (s : StR K (fun a => fo a ∨ a = D) s2 σ2 H2) : LcSt K fo ss σ H0 vs D acc s2 σ2 H2 where
  st := s
  tn := l.tn.trans l.st t
  ls := let ⟨us, h1, h2⟩ := l.ls; ⟨us, t.fr.keep D _ (l.st.apart D (.inr rfl)) h1, h2.to t.fr slotA_av t.av⟩
theorem LcSt.wiped (l : LcSt K fo ss σ H0 vs D acc si σi H) : LcSt K fo ss σ H0 vs D acc (wipeS si vs) (L2.wipe σi vs) H where
  st := l.st.wiped
  tn := l.tn.shrink (fun _ z => .inl z) (fun a z => z.imp (fun z => z) (wipeS_slotA a))
  ls := let ⟨us, h1, h2⟩ := l.ls; ⟨us, h1, RpA.weak (fun a z => .inl (z.imp (fun z => z) (wipeS_slotA a))) _ _ h2⟩
theorem LcSt.push {v : V} {y : PyData} (l : LcSt K fo ss σ H0 vs D acc si σi H) (hD : H0 D = none) (r : Rp K (AvS (fun a => fo a ∨ a = D) si σi) H v y) : ∃ us, H D = some (.lst us) ∧ us.length = acc.length ∧ LcSt K fo ss σ H0 vs D (acc ++ [y]) si σi (upd H D (.lst (us ++ [v]))) := by
  obtain ⟨us, h1, h2⟩ := l.ls
  have f : Fr (fun a => a = D) H (upd H D (.lst (us ++ [v]))) := .put rfl
  have fm : ∀ a, a = D → AvS (fun a => fo a ∨ a = D) si σi a := fun a z => .inl (.inr z)
  refine ⟨us, h1, h2.length, l.st.fwrite (.inr rfl) f, ⟨⟨fun a o n e => f.keep a o (fun z => by subst z; rw [hD] at e; cases e) (l.tn.fr.keep a o n e), fun a e => f.dom a (l.tn.fr.dom a e)⟩, l.tn.fm, l.tn.av⟩, _, upd_same, RpA.mono f fm _ _ (h2.append (.one r))⟩
theorem tev_lc {items : List PyData} {J : It} {H1 : Hp} {G : Av → Hp → Prop} {rest : List PyData} {sfin s1 : SS} {Q : VK} (w : WalkD K J items G) (hw : ∀ i ∈ ws, i ∈ vs) (st1 : StR K fo s1 σ H1) (t1 : Tn fo ss σ H0 fo s1 σ H1) (g1 : G (AvS fo s1 σ) H1) (hD : H1 D = none)
    (e : lcLoop b c f vs items (wipeS s1 vs) = some (rest, sfin)) (hb : rest.length ≤ big)
    (q : ∀ fo' v H', Tn fo ss σ H0 fo' (wipeS sfin vs) σ H' → StR K fo' (wipeS sfin vs) σ H' → EVr K fo fo' (wipeS sfin vs) σ H' v (.own rest) → Q v H') :
    ∃ W : Nat → Nat → Hp → Prop, (∃ m, W 0 m (upd H1 D (.lst []))) ∧ ∀ i m H, W i m H →
      (J.stop i H ∧ Q (.ref D) H) ∨ (J.go i H ∧ ∃ Nx : Hp → Prop, (∀ H', Nx H' → ∃ m', m' < m ∧ W (i + 1) m' H') ∧ ∀ x H', J.yld i H x H' → cG K b ws x (L2.wipe σ vs) H' fun σ2 H2 => L2.wipe σ2 vs = L2.wipe σ vs ∧ cT K c σ2 H2 fun b H3 =>
        if b = true then cE K f σ2 H3 fun y H4 => ∃ acc, H4 D = some (.lst acc) ∧ acc.length < sizeLine ∧ Nx (upd H4 D (.lst (acc ++ [y]))) else Nx H3) := by
  have hD0 : H0 D = none := by
    cases q : H0 D with
    | none => rfl
    | some o => exact absurd hD (t1.fr.dom D (by rw [q]; exact fun z => nomatch z))
  refine ⟨fun i m H => m = items.length - i ∧ i ≤ items.length ∧ ∃ si acc rst, LcSt K fo ss σ H0 vs D acc si (L2.wipe σ vs) H ∧ lcLoop b c f vs (items.drop i) si = some (rst, sfin) ∧ acc ++ rst = rest ∧ G (AvS (fun a => fo a ∨ a = D) si (L2.wipe σ vs)) H, ⟨_, rfl, Nat.zero_le _, ?_⟩, ?_⟩
  · have f0 : Fr0 H1 (upd H1 D (.lst [])) := .new hD
    have al : ∀ a, (fo a ∨ a = D) → (upd H1 D (.lst [])) a ≠ none := fun a z => z.elim (fun z => f0.dom a (st1.alive a z)) (fun z => by subst z; rw [upd_same]; exact fun q => nomatch q)
    have ap : ∀ a, (fo a ∨ a = D) → ¬ SlotA s1 σ a := fun a z => z.elim (st1.apart a) (fun z q => by subst z; exact st1.there q hD)
    have sub : ∀ a, (fo a ∨ a = D) → AvS fo s1 σ a ∨ H1 a = none := fun a z => z.elim (fun z => .inl (.inl z)) (fun z => by subst z; exact .inr hD)
    have sub2 : ∀ a, AvS (fun a => fo a ∨ a = D) s1 σ a → AvS fo s1 σ a ∨ H1 a = none := fun a z => z.elim (sub a) (fun z => .inl (.inr z))
    have sw := st1.more sub f0 al ap
    have l0 : LcSt K fo ss σ H0 vs D [] s1 σ (upd H1 D (.lst [])) := ⟨sw, t1.trans st1 ⟨f0.mono fun _ z => z.elim, fun _ z => .inl z, sub2⟩, [], upd_same, .nil⟩
    refine ⟨wipeS s1 vs, [], rest, l0.wiped, e, rfl, ?_⟩
    refine w.weak (fun a => AvS fo s1 σ a ∨ H1 a = none) _ _ (fun a z => .inl (sub2 a (z.imp (fun z => z) (wipeS_slotA a)))) (w.mono (fun _ => False) _ H1 _ (fun _ z => z.elim) f0 (w.weak _ _ H1 (fun a z => z) g1))
  · rintro i m H ⟨rfl, hle, si, acc, rst, l, ei, ea, gi⟩
    by_cases hlt : i < items.length
    · refine .inr ⟨w.goes i _ H hlt gi, fun H2 => ∃ s2 acc2 rst2, LcSt K fo ss σ H0 vs D acc2 s2 (L2.wipe σ vs) H2 ∧ lcLoop b c f vs (items.drop (i + 1)) s2 = some (rst2, sfin) ∧ acc2 ++ rst2 = rest ∧ G (AvS (fun a => fo a ∨ a = D) s2 (L2.wipe σ vs)) H2, ?_, ?_⟩
      · rintro H2 ⟨s2, acc2, rst2, k1, k2, k3, k4⟩
        exact ⟨_, by omega, rfl, hlt, s2, acc2, rst2, k1, k2, k3, k4⟩
      · intro x H2 y
        obtain ⟨f2, d, ed, rd⟩ := w.yields i _ H x H2 l.st.avthere hlt gi y
        have e0 : items.drop i = d :: items.drop (i + 1) := by
          rw [List.drop_eq_getElem_cons hlt]
          rw [List.getElem?_eq_getElem hlt] at ed
          cases ed
          rfl
        rw [e0] at ei
        obtain ⟨s3, h3, ei⟩ := Option.bind_eq_some_iff.mp ei
        obtain ⟨⟨tb, s4⟩, h4, ei⟩ := Option.bind_eq_some_iff.mp ei
        have l2 := l.step (.grow f2) (l.st.mono f2)
        have g2 := w.mono (fun _ => False) _ H H2 (fun _ z => z.elim) f2 gi
        refine ⟨_, si, d, s3, l2.st, rd, h3, fun σ3 ag t3 st3 => ⟨(ag.mono hw).wipe.trans (by
          exact (⟨wipe_length _ _, fun i n => wipe_out n⟩ : Agree vs σ (L2.wipe σ vs)).wipe), ?_⟩⟩
        have wσ : L2.wipe σ3 vs = L2.wipe σ vs := (ag.mono hw).wipe.trans (⟨wipe_length _ _, fun i n => wipe_out n⟩ : Agree vs σ (L2.wipe σ vs)).wipe
        have l3 := l2.step t3 st3
        have g3 := w.weak _ _ H2 t3.av g2
        have goG : ∀ {s5 σ5 H5 s6 σ6 H6}, Tn (fun a => fo a ∨ a = D) s5 σ5 H5 (fun a => fo a ∨ a = D) s6 σ6 H6 → G (AvS (fun a => fo a ∨ a = D) s5 σ5) H5 → G (AvS (fun a => fo a ∨ a = D) s6 σ6) H6 := fun {s5 σ5 H5 s6 σ6 H6} t g =>
          w.weak (fun a => AvS (fun a => fo a ∨ a = D) s5 σ5 a ∨ H5 a = none) _ H6 (fun a z => .inl (t.av a z)) (w.mono (SlotA s5 σ5) _ H5 H6 (fun a z => .inl (.inr z)) t.fr (w.weak _ _ H5 (fun a z => z) g))
        have goW : ∀ {s5 σ5 H5}, G (AvS (fun a => fo a ∨ a = D) s5 σ5) H5 → G (AvS (fun a => fo a ∨ a = D) (wipeS s5 vs) (L2.wipe σ5 vs)) H5 := fun {s5 σ5 H5} g =>
          w.weak _ _ H5 (fun a z => .inl (z.imp (fun z => z) (wipeS_slotA a))) g
        refine ⟨_, s3, tb, s4, st3, h4, fun H4 t4 st4 => ?_⟩
        have l4 := l3.step t4 st4
        have g4 := goG t4 g3
        cases tb with
        | false =>
          refine (show ∃ s2 acc2 rst2, _ from ?_)
          exact ⟨wipeS s4 vs, acc, rst, by rw [← wσ]; exact l4.wiped, ei, ea, by rw [← wσ]; exact goW g4⟩
        | true =>
          obtain ⟨⟨ev, s5⟩, h5, ei⟩ := Option.bind_eq_some_iff.mp (show ((f s4).bind fun e => (frz e.1).bind fun y => (lcLoop b c f vs (items.drop (i + 1)) (wipeS e.2 vs)).bind fun r => some (y :: r.1, r.2)) = some (rst, sfin) from ei)
          obtain ⟨y', h6, ei⟩ := Option.bind_eq_some_iff.mp ei
          obtain ⟨⟨r', sf⟩, h7, ei⟩ := Option.bind_eq_some_iff.mp ei
          cases ei
          refine (show cE K f σ3 H4 _ from ⟨_, s4, ev, s5, st4, h5, fun fo5 v H5 t5 st5 r5 => ?_⟩)
          have l5 := l4.step t5.less (st5.less t5.fm)
          have g5 := goG t5.less g4
          have rv := r5.fz st5 t5.fm h6
          obtain ⟨us, u1, u2, l6⟩ := l5.push hD0 rv
          have ln : acc.length < big := by
            have z : (acc ++ y' :: r').length ≤ big := by rw [ea]; exact hb
            rw [List.length_append, List.length_cons] at z
            omega
          refine ⟨us, u1, by rw [u2]; exact big_lt ln, wipeS s5 vs, acc ++ [y'], r', by rw [← wσ]; exact l6.wiped, h7, by rw [List.append_assoc]; exact ea, ?_⟩
          rw [← wσ]
          exact goW (w.mono (fun a => a = D) _ H5 _ (fun a z => .inl (.inr z)) (.put rfl) g5)
    · have ei' : i = items.length := by omega
      subst ei'
      rw [List.drop_length] at ei
      cases ei
      rw [List.append_nil] at ea
      subst ea
      refine .inl ⟨w.stops _ H gi, ?_⟩
      have l1 := l.wiped
      have e2 : L2.wipe (L2.wipe σ vs) vs = L2.wipe σ vs := (⟨wipe_length _ _, fun i n => wipe_out n⟩ : Agree vs σ (L2.wipe σ vs)).wipe
      rw [e2] at l1
      have s2 := l1.st.unwipe (by rw [← wipe_length σ vs]; have := l.st.len; exact this)
      have eqA : ∀ a, SlotA (wipeS sfin vs) σ a → SlotA (wipeS sfin vs) (L2.wipe σ vs) a := fun a ⟨i, ds, e1, e2⟩ => ⟨i, ds, e1, by
        rcases wipeS_get e1 with ⟨q, _⟩ | ⟨n, q⟩
        · cases q
        · rw [wipe_get n]; exact e2⟩
      obtain ⟨us, u1, u2⟩ := l1.ls
      have nD : ¬ fo D := fun z => st1.alive D z hD
      exact q _ _ H (l1.tn.shrink (fun _ z => .inl z) (fun a z => z.imp (fun z => z) (eqA a))) s2 ⟨D, us, rfl, .inr rfl, nD, u1, RpA.weak (fun a z => .inl (z.imp (fun z => z) (eqA a))) _ _ u2⟩
end
end Ly

/-! LyG: comprehensions as expressions and statements; defs. -/
namespace Ly
open PySem PySem.Spec L2
open PyProof.Rows (envOfC)

section
variable {X : Cx} {elt tg iter tg1 iter1 : Expr} {ifs ifs1 : List Expr} {scope : Scope} {own : List (Str × Nat)} {pos : Pos} {fi fi1 : FI} {b b1 : B} {c c1 : M Bool} {f : M EV} {ws ws1 vs1 : List Nat}
theorem tev_lc1 (hw : ∀ i ∈ ws, i ∈ own.map (·.2)) : TEv X.K (tLc (cI X.K fi) (cG X.K b ws) (cT X.K c) (cE X.K f) (own.map (·.2))) (eLc fi b c f (own.map (·.2))) := fun fo ss σ H ev ss' Q s e q => by
  unfold eLc at e
  obtain ⟨⟨items, s1⟩, e1, e⟩ := Option.bind_eq_some_iff.mp e
  obtain ⟨⟨rest, sfin⟩, e2, e⟩ := Option.bind_eq_some_iff.mp e
  split at e
  · rename_i hb
    cases e
    exact ⟨fo, ss, items, s1, s, e1, fun J H1 G t1 st1 w g1 D hD => tev_lc w hw st1 t1 g1 hD e2 hb q⟩
  · cases e
/-- [elt for tg in iter if ..] -/
theorem se_lc (own : List (Str × Nat)) (hc : X.calm = true) (hN : X.N.Nodup) (hi : SI X tg iter fi) (ok : BlkOk X.N X.env.scope scope own) (hw : ∀ i ∈ ws, i ∈ own.map (·.2))
    (hg : ∀ (s : Shared) (H : Hp) (C : Addr) (cl : List (Str × Addr)) (fp : List Addr), SG (X.blk s H scope (compEnvC scope cl C X.env) fp) tg b ws) (ht : ∀ (s : Shared) (H : Hp) (C : Addr) (cl : List (Str × Addr)) (fp : List Addr), STs (X.blk s H scope (compEnvC scope cl C X.env) fp) ifs c)
    (he : ∀ (s : Shared) (H : Hp) (C : Addr) (cl : List (Str × Addr)) (fp : List Addr), SE (X.blk s H scope (compEnvC scope cl C X.env) fp) elt f) (hs : ∀ x, foldedSetIterable iter X.env x = pure x := by intro _; rfl) :
    SE X (.ListComp elt [⟨tg, iter, ifs, 0⟩] scope pos) (eLc fi b c f (own.map (·.2))) :=
  .of (pe_lc hc hN hi.pi ok (fun s H C cl fp => (hg s H C cl fp).pg) (fun s H C cl fp => (ht s H C cl fp).pts) (fun s H C cl fp => (he s H C cl fp).pe) hs) (tev_lc1 hw)
/-- y = [elt for ..] -/
theorem ss_setLc {i : Nat} {y : Str} {py spos : Pos} (own : List (Str × Nat)) (hc : X.calm = true) (hN : X.N.Nodup) (hi : SI X tg iter fi) (ok : BlkOk X.N X.env.scope scope own) (hw : ∀ i ∈ ws, i ∈ own.map (·.2))
    (hg : ∀ (s : Shared) (H : Hp) (C : Addr) (cl : List (Str × Addr)) (fp : List Addr), SG (X.blk s H scope (compEnvC scope cl C X.env) fp) tg b ws) (ht : ∀ (s : Shared) (H : Hp) (C : Addr) (cl : List (Str × Addr)) (fp : List Addr), STs (X.blk s H scope (compEnvC scope cl C X.env) fp) ifs c)
    (he : ∀ (s : Shared) (H : Hp) (C : Addr) (cl : List (Str × Addr)) (fp : List Addr), SE (X.blk s H scope (compEnvC scope cl C X.env) fp) elt f)
    (hy : X.N[i]? = some y := by rfl) (hyl : X.env.scope.names.lookup y = some .local := by rfl)
    (hsw : swapsWith (.ListComp elt [⟨tg, iter, ifs, 0⟩] scope pos) (some (.Name y py)) spos.line X.env = pure true := by exact sw_true rfl rfl rfl (by decide +kernel)) (hs : ∀ x, foldedSetIterable iter X.env x = pure x := by intro _; rfl) :
    SSt X (.Assign [.Name y py] (.ListComp elt [⟨tg, iter, ifs, 0⟩] scope pos) spos) (sSet i (eLc fi b c f (own.map (·.2)))) [i] :=
  .of (L2.ps_setLc hc hN hy hyl hsw hi.pi ok (fun s H C cl fp => (hg s H C cl fp).pg) (fun s H C cl fp => (ht s H C cl fp).pts) (fun s H C cl fp => (he s H C cl fp).pe) hs) (set_end (tev_lc1 hw))
end

/-! ### defs -/
def toRes : EV → Option Res
  | .dat d => some (.dat d)
  | .own ds => some (.own ds)
  | .bor _ => none
/-- the slots at the entry: the parameters' data, the other names unsaid -/
def ss0 (n : Nat) (ds : List PyData) : SS := ds.map .dat ++ List.replicate (n - ds.length) .un
/-- a def of n names and k parameters: what its body gives -/
def runP (n k : Nat) (body : FS) (ds : List PyData) : Option Res := if ds.length = k then (body (ss0 n ds)).bind fun o => match o with
  | .nx _ => some (.dat .none)
  | .rt ev _ => toRes ev
  | _ => none
  else none
/-- the same; the first parameter is a list that it changes -/
def runIO (n k : Nat) (body : FS) (cs ds : List PyData) : Option (Res × List PyData) := if ds.length = k then (body (.lst cs :: ss0 (n - 1) ds)).bind fun o => match o with
  | .nx (.lst cs' :: _) => some (.dat .none, cs')
  | .rt ev (.lst cs' :: _) => (toRes ev).bind fun r => some (r, cs')
  | _ => none
  else none
theorem start_str {K : PySem.W.Frag} {fo : Av} {H : Hp} {N : List Str} {vs : List V} {ds : List PyData} (al : ∀ a, fo a → H a ≠ none) (r : RpA K fo H vs ds) : StR K fo (ss0 N.length ds) (L2.start N vs) H := by
  have hl := r.length
  have nl : ∀ (i : Nat) (es : List PyData), (ss0 N.length ds)[i]? ≠ some (.lst es) := fun i es e => by
    unfold ss0 at e
    by_cases hi : i < (ds.map SlotV.dat).length
    · rw [List.getElem?_append_left hi, List.getElem?_map] at e
      cases q : ds[i]? with
      | none => rw [q] at e; cases e
      | some d => rw [q] at e; cases e
    · rw [List.getElem?_append_right (by omega), List.getElem?_replicate] at e
      split at e <;> cases e
  have nA : ∀ a, ¬ SlotA (ss0 N.length ds) (L2.start N vs) a := fun a ⟨i, es, e, _⟩ => nl i es e
  refine ⟨?_, fun i d e => ?_, fun i es e => absurd e (nl i es), fun i j p es es' e _ _ _ => absurd e (nl i es), al, fun a _ => nA a⟩
  · unfold ss0 L2.start
    simp only [List.length_append, List.length_map, List.length_replicate]
    omega
  · unfold ss0 at e
    by_cases hi : i < (ds.map SlotV.dat).length
    · rw [List.getElem?_append_left hi, List.getElem?_map] at e
      cases q : ds[i]? with
      | none => rw [q] at e; cases e
      | some d' =>
        rw [q] at e
        cases e
        obtain ⟨v, e1, r1⟩ := r.get q
        refine ⟨v, ?_, Rp.weak (fun a z => .inl (z.elim (fun z => z) (fun z => absurd z (nA a)))) _ _ r1⟩
        unfold L2.start
        rw [List.getElem?_append_left (by rw [List.length_map]; exact (List.getElem?_eq_some_iff.mp e1).1), List.getElem?_map, e1]
        rfl
    · rw [List.getElem?_append_right (by omega), List.getElem?_replicate] at e
      split at e <;> cases e
section
variable {P : Program} {w : World} {K : PySem.W.Frag} {mg : Str → Option Value} {base : Heap} {x qual : Str} {params : Arguments} {body : List Stmt} {scope : Scope} {f : Addr} {fd : FuncData} {N ps : List Str} {k : Nat} {fb : FS} {ws : List Nat}
/-- THE RULE for a def -/
theorem fnok_p (F : FunD K x qual params body scope [] [] f fd) (S : FnScope N ps scope)
    (h : ∀ (cdv : Value) (A : Around) (outer : List Env) (s : Shared) (H : Hp) (E : XK), Room k (A.deeper (envOfC qual scope s.heap.objs.size f cdv)) → SSs (cxOf CX0 P w K mg base N qual scope f cdv A outer s H E).nox body fb ws) :
    FnOk P w K mg base CX0 (k + 1) f fd ps (spP K ps.length (runP N.length ps.length fb)) := by
  refine F.ok S (fun vs H Q E ⟨fo, ds, r, h1, h2, h3, h4, _⟩ => by rw [h4.length]; exact h1) (fun cdv A outer s H vs Q E hr ⟨fo, ds, r, h1, h2, h3, h4, h5⟩ => ⟨_, (h cdv A outer s H E hr).pss.nox, ?_⟩)
  have st := start_str (N := N) h3 h4
  have nA : ∀ a, ¬ SlotA (ss0 N.length ds) (L2.start N vs) a := fun a ⟨i, es, e, e'⟩ => by
    obtain ⟨p, us, q1, q2, _⟩ := st.lst i es e
    unfold ss0 at e
    by_cases hi : i < (ds.map SlotV.dat).length
    · rw [List.getElem?_append_left hi, List.getElem?_map] at e
      cases q : ds[i]? with
      | none => rw [q] at e; cases e
      | some d => rw [q] at e; cases e
    · rw [List.getElem?_append_right (by omega), List.getElem?_replicate] at e
      split at e <;> cases e
  unfold runP at h2
  rw [if_pos h1] at h2
  obtain ⟨o, e1, e2⟩ := Option.bind_eq_some_iff.mp h2
  refine (show cS K fb ws _ (L2.start N vs) H from ⟨fo, ss0 N.length ds, o, st, e1, ?_⟩)
  have fr0 : ∀ {H'}, Fr (SlotA (ss0 N.length ds) (L2.start N vs)) H H' → Fr0 H H' := fun f => f.mono fun a z => absurd z (nA a)
  cases o with
  | nx s' =>
    cases e2
    exact fun σ' H' _ t st' => h5 _ H' (fr0 t.fr) (show Rp K _ _ _ _ from .non)
  | bk s' => cases e2
  | ct s' => cases e2
  | rt ev s' =>
    intro fo' v σ' H' _ t st' rv
    cases ev with
    | dat d =>
      cases e2
      exact h5 v H' (fr0 t.fr) (Rp.weak (fun a z => .inl (.inl (t.fm a z))) _ _ rv)
    | own es =>
      cases e2
      obtain ⟨p, us, rfl, p1, p2, p3, p4⟩ := rv
      refine h5 _ H' (fr0 t.fr) ⟨p, us, rfl, ?_, p3, RpA.weak (fun a z => .inl (.inl (z.elim (t.fm a) (fun z => by subst z; exact p1)))) _ _ p4⟩
      rcases t.av p (.inl p1) with (z | z) | z
      · exact absurd z p2
      · exact absurd z (nA p)
      · exact z
    | bor i => cases e2
theorem fn_p (F : FunD K x qual params body scope [] [] f fd) (S : FnScope N ps scope) (hm : mg x = some (.ref f)) (hb : Binds K fd ps [])
    (h : ∀ (cdv : Value) (A : Around) (outer : List Env) (s : Shared) (H : Hp) (E : XK), Room k (A.deeper (envOfC qual scope s.heap.objs.size f cdv)) → SSs (cxOf CX0 P w K mg base N qual scope f cdv A outer s H E).nox body fb ws) :
    Fn P w K mg base (k + 1) x (spP K ps.length (runP N.length ps.length fb)) := ⟨f, fd, ps, hm, fnok_p F S h, F.kp, hb⟩
theorem fn_io {x0 : Str} {ps' : List Str} (F : FunD K x qual params body scope [] [] f fd) (S : FnScope N (x0 :: ps') scope) (hm : mg x = some (.ref f)) (hb : Binds K fd (x0 :: ps') [])
    (h : ∀ (cdv : Value) (A : Around) (outer : List Env) (s : Shared) (H : Hp) (E : XK), Room k (A.deeper (envOfC qual scope s.heap.objs.size f cdv)) → SSs (cxOf CX0 P w K mg base N qual scope f cdv A outer s H E).nox body fb ws) (h0 : 0 ∉ ws) :
    Fn P w K mg base (k + 1) x (spIO K ps'.length (runIO N.length ps'.length fb)) := by
  refine ⟨f, fd, x0 :: ps', hm, F.ok S (fun us H Q E ⟨fo, t, ts, vs, cs, ds, r, cs', h1, h2, _, _, _, _, _, h4, _⟩ => by rw [h1, List.length_cons, List.length_cons, h4.length, h2])
    (fun cdv A outer s H us Q E hr ⟨fo, t, ts, vs, cs, ds, r, cs', h1, h2, h3, h4, h5, h6, h7, h8, h9⟩ => ⟨_, (h cdv A outer s H E hr).pss.nox, ?_⟩), F.kp, hb⟩
  subst h1
  have hN : 0 < N.length := by
    have q := congrArg List.length S.pre
    rw [List.length_take, List.length_cons] at q
    omega
  obtain ⟨x1, N', rfl⟩ : ∃ x1 N', N = x1 :: N' := by
    cases N with
    | nil => cases hN
    | cons a b => exact ⟨a, b, rfl⟩
  have al : ∀ a, (fo a ∨ a = t) → H a ≠ none := fun a z => z.elim (h4 a) (fun z => by subst z; rw [h6]; exact fun q => nomatch q)
  have st1 := start_str (N := N') al h8
  have nA1 : ∀ a, ¬ SlotA (ss0 N'.length ds) (L2.start N' vs) a := fun a ⟨i, es, e, e'⟩ => by
    unfold ss0 at e
    by_cases hi : i < (ds.map SlotV.dat).length
    · rw [List.getElem?_append_left hi, List.getElem?_map] at e
      cases q : ds[i]? with
      | none => rw [q] at e; cases e
      | some d => rw [q] at e; cases e
    · rw [List.getElem?_append_right (by omega), List.getElem?_replicate] at e
      split at e <;> cases e
  have es : L2.start (x1 :: N') (.ref t :: vs) = some (.ref t) ::  L2.start N' vs := by
    unfold L2.start
    simp only [List.map_cons, List.length_cons, List.cons_append, Nat.add_sub_add_right]
  have hA : ∀ a, SlotA (.lst cs :: ss0 N'.length ds) (L2.start (x1 :: N') (.ref t :: vs)) a ↔ a = t := fun a => by
    rw [es]
    constructor
    · rintro ⟨i, es', e1, e2⟩
      cases i with
      | zero =>
        cases e2
        rfl
      | succ i => exact absurd ⟨i, es', e1, e2⟩ (nA1 a)
    · intro z
      subst z
      exact ⟨0, cs, rfl, rfl⟩
  have sub : ∀ a, AvS fo (.lst cs :: ss0 N'.length ds) (L2.start (x1 :: N') (.ref t :: vs)) a → fo a ∨ a = t := fun a z => z.imp (fun z => z) (hA a).mp
  have st : StR K fo (.lst cs :: ss0 N'.length ds) (L2.start (x1 :: N') (.ref t :: vs)) H := by
    refine ⟨?_, fun i d e => ?_, fun i es' e => ?_, fun i j p e1 e2 w1 w2 w3 w4 => ?_, h4, fun a z q => ?_⟩
    · rw [es, List.length_cons, List.length_cons, st1.len]
    · cases i with
      | zero => cases e
      | succ i =>
        obtain ⟨v, q1, q2⟩ := st1.dat i d e
        exact ⟨v, by rw [es]; exact q1, Rp.weak (fun a z => .inl (.inl (sub a z))) _ _ q2⟩
    · cases i with
      | zero =>
        cases e
        exact ⟨t, ts, by rw [es]; rfl, h6, RpA.weak (fun a z => .inl (sub a z)) _ _ h7⟩
      | succ i =>
        obtain ⟨p, us, q1, q2, q3⟩ := st1.lst i es' e
        exact absurd ⟨i, es', e, q1⟩ (nA1 p)
    · cases i with
      | zero =>
        cases j with
        | zero => rfl
        | succ j =>
          obtain ⟨p', us, q1, _⟩ := st1.lst j e2 w2
          exact absurd ⟨j, e2, w2, q1⟩ (nA1 p')
      | succ i =>
        obtain ⟨p', us, q1, _⟩ := st1.lst i e1 w1
        exact absurd ⟨i, e1, w1, q1⟩ (nA1 p')
    · rw [hA] at q
      subst q
      exact h5 z
  unfold runIO at h3
  rw [if_pos h2] at h3
  obtain ⟨o, e1, e2⟩ := Option.bind_eq_some_iff.mp h3
  have e1' : fb (.lst cs :: ss0 N'.length ds) = some o := e1
  refine (show cS K fb ws _ (L2.start (x1 :: N') (.ref t :: vs)) H from ⟨fo, _, o, st, e1', ?_⟩)
  have frt : ∀ {H'}, Fr (SlotA (.lst cs :: ss0 N'.length ds) (L2.start (x1 :: N') (.ref t :: vs))) H H' → Fr (fun a => a = t) H H' := fun f => f.mono fun a z => (hA a).mp z
  have σ0 : (L2.start (x1 :: N') (.ref t :: vs))[0]? = some (some (.ref t)) := by rw [es]; rfl
  -- the first slot at the end
  have fin : ∀ {fo' : Av} {cs2 : List PyData} {more : SS} {σ' : L2.St} {H' : Hp}, Agree ws (L2.start (x1 :: N') (.ref t :: vs)) σ' → StR K fo' (.lst cs2 :: more) σ' H' → ∃ ts', H' t = some (.lst ts') ∧ RpA K (AvS fo' (.lst cs2 :: more) σ') H' ts' cs2 ∧ SlotA (.lst cs2 :: more) σ' t := fun {fo' cs2 more σ' H'} ag st' => by
    obtain ⟨p, us, q1, q2, q3⟩ := st'.lst 0 cs2 rfl
    rw [ag.out 0 h0, σ0] at q1
    cases q1
    exact ⟨us, q2, q3, 0, cs2, rfl, by rw [ag.out 0 h0]; exact σ0⟩
  cases o with
  | nx s' =>
    intro σ' H' ag tn st'
    cases s' with
    | nil => cases e2
    | cons s0 more =>
      cases s0 with
      | lst cs2 =>
        cases e2
        obtain ⟨ts', q2, q3, q4⟩ := fin ag st'
        exact h9 _ H' ts' (frt tn.fr) q2 ⟨show Rp K _ _ _ _ from .non, RpA.weak (fun a z => .inl (z.imp (fun z => z) (fun z => by subst z; exact q4))) _ _ q3⟩
      | un => cases e2
      | dat d => cases e2
  | bk s' => cases e2
  | ct s' => cases e2
  | rt ev s' =>
    intro fo' v σ' H' ag tn st' rv
    cases s' with
    | nil => cases e2
    | cons s0 more =>
      cases s0 with
      | lst cs2 =>
        obtain ⟨r', w1, e2⟩ := Option.bind_eq_some_iff.mp e2
        cases e2
        obtain ⟨ts', q2, q3, q4⟩ := fin ag st'
        have wk : ∀ a, (fo a ∨ a = t) → AvS fo' (.lst cs' :: more) σ' a := fun a z => z.elim (fun z => .inl (tn.fm a z)) (fun z => by subst z; exact .inr q4)
        cases ev with
        | dat d =>
          cases w1
          exact h9 v H' ts' (frt tn.fr) q2 ⟨Rp.weak (fun a z => .inl (wk a z)) _ _ rv, RpA.weak (fun a z => .inl (wk a z)) _ _ q3⟩
        | own es' =>
          cases w1
          obtain ⟨p, us, rfl, p1, p2, p3, p4⟩ := rv
          have wk2 : ∀ a, ((fo a ∨ a = t) ∨ a = p) → AvS fo' (.lst cs' :: more) σ' a := fun a z => z.elim (wk a) (fun z => by subst z; exact .inl p1)
          refine h9 _ H' ts' (frt tn.fr) q2 ⟨p, us, rfl, ?_, p3, RpA.weak (fun a z => .inl (wk2 a z)) _ _ p4, RpA.weak (fun a z => .inl (wk2 a z)) _ _ q3⟩
          rcases tn.av p (.inl p1) with (z | z) | z
          · exact absurd z p2
          · exfalso
            have e3 := (hA p).mp z
            subst e3
            exact st'.apart p p1 q4
          · exact z
        | bor i => cases w1
      | un => cases e2
      | dat d => cases e2
end
end Ly

/-! LyH: operators and built-ins over data. -/
namespace Ly
open PySem PySem.Spec L2 PyProof.Rows

/-! ### rules by data -/
def rD (K : PySem.W.Frag) (g : PyData → PyData → Option Res) : R2 := fun x y H Q => ∃ (av : Av) (d e : PyData) (res : Res), RvS K av H x d ∧ RvS K av H y e ∧ g d e = some res ∧ (∀ a, av a → H a ≠ none) ∧ ∀ v H', Fr0 H H' → ResR K av H H' v res → Q v H'
def rU1 (K : PySem.W.Frag) (g : PyData → Option Res) : V → Hp → VK → Prop := fun x H Q => ∃ (av : Av) (d : PyData) (res : Res), RvS K av H x d ∧ g d = some res ∧ (∀ a, av a → H a ≠ none) ∧ ∀ v H', Fr0 H H' → ResR K av H H' v res → Q v H'
def rC (K : PySem.W.Frag) (g : List PyData → Option Res) : List V → Hp → VK → Prop := fun xs H Q => ∃ (av : Av) (ds : List PyData) (res : Res), RvA K av H xs ds ∧ g ds = some res ∧ (∀ a, av a → H a ≠ none) ∧ ∀ v H', Fr0 H H' → ResR K av H H' v res → Q v H'
def rM (K : PySem.W.Frag) (g : PyData → List PyData → Option Res) : V → List V → Hp → VK → Prop := fun x xs H Q => ∃ (av : Av) (d : PyData) (ds : List PyData) (res : Res), RvS K av H x d ∧ RvA K av H xs ds ∧ g d ds = some res ∧ (∀ a, av a → H a ≠ none) ∧ ∀ v H', Fr0 H H' → ResR K av H H' v res → Q v H'
section
variable {K : PySem.W.Frag}
theorem opsp {g : PyData → PyData → Option Res} : OpSp K (rD K g) g := fun av H x y d e res Q r1 r2 h al q => ⟨av, d, e, res, r1, r2, h, al, q⟩
theorem unsp {g : PyData → Option Res} : UnSp K (rU1 K g) g := fun av H x d res Q r1 h al q => ⟨av, d, res, r1, h, al, q⟩
theorem csp {g : List PyData → Option Res} : CallSp K (rC K g) g := fun av H xs ds res Q r1 h al q => ⟨av, ds, res, r1, h, al, q⟩
theorem msp {g : PyData → List PyData → Option Res} : MethSp K (rM K g) g := fun av H x xs d ds res Q r1 r2 h al q => ⟨av, d, ds, res, r1, r2, h, al, q⟩
end
def OpD (X : Cx) (f : Value → Value → Sem Value) (g : PyData → PyData → Option Res) : Prop := OpR X f (rD X.K g)
def UnD (X : Cx) (f : Value → Sem Value) (g : PyData → Option Res) : Prop := UnR X f (rU1 X.K g)
def CallD (X : Cx) (f : Value) (g : List PyData → Option Res) : Prop := CallR X f (rC X.K g)
def MtD (X : Cx) (id : String) (g : PyData → List PyData → Option Res) : Prop := MtR X id (rM X.K g)

section
variable {X : Cx} {pins : List (Addr × Obj)} {σ : L2.St} {H : Hp} {s : Shared} {av : Av} {vs : List V} {ds : List PyData} {us : List Value} {Q : VK}
theorem rvA1 {K : PySem.W.Frag} {xs : List V} {d : PyData} (h : RvA K av H xs [d]) : ∃ x, xs = [x] ∧ RvS K av H x d := by
  cases h with
  | cons h1 h2 => cases h2; exact ⟨_, rfl, h1⟩
theorem rvA2 {K : PySem.W.Frag} {xs : List V} {d e : PyData} (h : RvA K av H xs [d, e]) : ∃ x y, xs = [x, y] ∧ RvS K av H x d ∧ RvS K av H y e := by
  cases h with
  | cons h1 h2 =>
    obtain ⟨y, rfl, h3⟩ := rvA1 h2
    exact ⟨_, y, rfl, h1, h3⟩
theorem rvA3 {K : PySem.W.Frag} {xs : List V} {d e f : PyData} (h : RvA K av H xs [d, e, f]) : ∃ x y z, xs = [x, y, z] ∧ RvS K av H x d ∧ RvS K av H y e ∧ RvS K av H z f := by
  cases h with
  | cons h1 h2 =>
    obtain ⟨y, z, rfl, h3, h4⟩ := rvA2 h2
    exact ⟨_, y, z, rfl, h1, h3, h4⟩
/-- a tuple that was just laid -/
theorem tup_laid {h' : Heap} {p : Addr} {t' : Nat} {n : Nat} {sl : Array (Option Value)} (I : Inv X pins σ H s) (al : ∀ a, av a → H a ≠ none) (r : RpA X.K av H vs ds) (rv : Vals vs us) (hz : vs.length ≤ sizeLine) (kp : ∀ b o, s.heap.get? b = some o → h'.get? b = some o) (hp : s.heap.objs.size ≤ p)
    (e : h'.get? p = some { cls := .type "tuple", data := .seq us.toArray n, slots := sl }) (q : ∀ v H', Fr0 H H' → ResR X.K av H H' v (.dat (.tuple ds)) → Q v H') : EP X pins σ Q (.ref p) { s with heap := h', toks := t' } := by
  have hf : H p = none := I.hok.fresh hp
  refine ⟨.ref p, upd H p (.frz { cls := .type "tuple", data := .seq us.toArray n, slots := sl } (.tup vs)), I.laid kp hp ?_, rfl, newT_end r al q p _ hf rfl⟩
  exact objT rv hz e rfl ⟨_, rfl⟩
theorem newL_end {K : PySem.W.Frag} (r : RpA K av H vs ds) (q : ∀ v H', Fr0 H H' → ResR K av H H' v (.own ds) → Q v H') : ∀ p, H p = none → Q (.ref p) (upd H p (.lst vs)) := fun p hp =>
  q _ _ (.new hp) ⟨p, vs, rfl, hp, upd_same, r.to (.new (ms := fun _ => False) hp) (fun _ z => z.elim) (fun a z => z.imp (fun z => z) (fun z => by subst z; exact hp))⟩
/-- a list that was just laid -/
theorem lst_laid {h' : Heap} {p : Addr} {t' : Nat} {n : Nat} (I : Inv X pins σ H s) (r : RpA X.K av H vs ds) (rv : Vals vs us) (hz : vs.length ≤ sizeLine) (kp : ∀ b o, s.heap.get? b = some o → h'.get? b = some o) (hp : s.heap.objs.size ≤ p)
    (e : h'.get? p = some { cls := .type "list", data := .seq us.toArray n }) (q : ∀ v H', Fr0 H H' → ResR X.K av H H' v (.own ds) → Q v H') : EP X pins σ Q (.ref p) { s with heap := h', toks := t' } :=
  ⟨.ref p, upd H p (.lst vs), I.laid kp hp ⟨hz, us, n, rv, e⟩, rfl, newL_end r q p (I.hok.fresh hp)⟩
end

/-! ### ints -/
def i2 (g : Int → Int → Option PyData) : PyData → PyData → Option Res
  | .int i, .int j => (g i j).map .dat
  | _, _ => none
section
variable {X : Cx} {f : Value → Value → Sem Value}
theorem i2_some {g : Int → Int → Option PyData} {d e : PyData} {r : Res} (h : i2 g d e = some r) : ∃ i j p, d = .int i ∧ e = .int j ∧ g i j = some p ∧ r = .dat p := by
  unfold i2 at h
  split at h
  · rename_i i j
    obtain ⟨p, e1, e2⟩ := Option.map_eq_some_iff.mp h
    exact ⟨i, j, p, rfl, rfl, e1, e2.symm⟩
  · cases h
theorem op_i2 {C : Int → Int → Prop} {g : Int → Int → V} {g' : Int → Int → Option PyData} (h : OpR X f (rI C g)) (hg : ∀ i j p, g' i j = some p → C i j ∧ ∀ K av H, Rp K av H (g i j) p) : OpD X f (i2 g') := by
  intro pins s σ H x y v u Q I rx ry ⟨av, d, e, res, rd, re, eg, al, q⟩
  obtain ⟨i, j, p, rfl, rfl, e1, rfl⟩ := i2_some eg
  obtain ⟨h1, h2⟩ := hg i j p e1
  exact h pins s σ H x y v u Q I rx ry ⟨i, j, rd.int, re.int, h1, q _ H .refl (h2 _ _ _)⟩
theorem op_i20 {g : Int → Int → V} {g' : Int → Int → Option PyData} (h : OpR X f (rI0 g)) (hg : ∀ i j p, g' i j = some p → ∀ K av H, Rp K av H (g i j) p) : OpD X f (i2 g') := by
  intro pins s σ H x y v u Q I rx ry ⟨av, d, e, res, rd, re, eg, al, q⟩
  obtain ⟨i, j, p, rfl, rfl, e1, rfl⟩ := i2_some eg
  exact h pins s σ H x y v u Q I rx ry ⟨i, j, rd.int, re.int, q _ H .refl (hg i j p e1 _ _ _)⟩
end
def subD := i2 fun i j => some (.int (i - j))
def ltD := i2 fun i j => some (.bool (decide (i < j)))
def leD := i2 fun i j => some (.bool (decide (i ≤ j)))
def gtD := i2 fun i j => some (.bool (decide (j < i)))
def geD := i2 fun i j => some (.bool (decide (j ≤ i)))
def fdivD := i2 fun i j => if 0 < j ∧ j.natAbs.log2 < 9000 then some (.int (i / j)) else none
def modD := i2 fun i j => if 0 < j then some (.int (i % j)) else none
def powD := i2 fun i j => if 0 ≤ j ∧ (Builtin.Int.intBits i : Int) * j ≤ 2 ^ 27 then some (.int (i ^ j.toNat)) else none
def cmulB (i j : Int) : Bool := decide (i.natAbs < 2 ^ 64) || decide (j.natAbs < 2 ^ 64)
def mulD := i2 fun i j => if cmulB i j = true ∨ i.natAbs.log2 + j.natAbs.log2 < 1000000 then some (.int (i * j)) else none
section
variable {X : Cx}
theorem o_sub : OpD X (binaryOp .Sub) subD := op_i20 op_sub fun i j p e K av H => by cases e; exact .int _
theorem o_lt : OpD X (compareOp .Lt) ltD := op_i20 op_lt fun i j p e K av H => by cases e; exact .bl _
theorem o_le : OpD X (compareOp .LtE) leD := op_i20 op_le fun i j p e K av H => by cases e; exact .bl _
theorem o_gt : OpD X (compareOp .Gt) gtD := op_i20 op_gt fun i j p e K av H => by cases e; exact .bl _
theorem o_ge : OpD X (compareOp .GtE) geD := op_i20 op_ge fun i j p e K av H => by cases e; exact .bl _
theorem o_fdiv : OpD X (binaryOp .FloorDiv) fdivD := op_i2 op_fdivW fun i j p e => by
  split at e
  · rename_i h
    cases e
    exact ⟨h, fun _ _ _ => .int _⟩
  · cases e
theorem o_mod : OpD X (binaryOp .Mod) modD := op_i2 op_mod fun i j p e => by
  split at e
  · rename_i h
    cases e
    exact ⟨h, fun _ _ _ => .int _⟩
  · cases e
theorem op_powW : OpR X (binaryOp .Pow) (rI (fun i j => 0 ≤ j ∧ (Builtin.Int.intBits i : Int) * j ≤ 2 ^ 27) fun i j => .int (i ^ j.toNat)) := opI fun _ _ _ _ _ _ _ hc q => pow_int hc.1 hc.2 q
theorem o_pow : OpD X (binaryOp .Pow) powD := op_i2 op_powW fun i j p e => by
  split at e
  · rename_i h
    cases e
    exact ⟨h, fun _ _ _ => .int _⟩
  · cases e
theorem op_mulA : OpR X (binaryOp .Mult) (rI (fun i j => cmulB i j = true ∨ i.natAbs.log2 + j.natAbs.log2 < 1000000) fun i j => .int (i * j)) := opI fun i j _ _ _ _ _ hc q => mul_int q (by
  rcases hc with h | h
  · refine CMul.ok ?_
    simp only [cmulB, Bool.or_eq_true, decide_eq_true_eq] at h
    unfold CMul
    omega
  · exact CMulW.ok h)
theorem o_mul : OpD X (binaryOp .Mult) mulD := op_i2 op_mulA fun i j p e => by
  split at e
  · rename_i h
    cases e
    exact ⟨h, fun _ _ _ => .int _⟩
  · cases e
end
def negD : PyData → Option Res
  | .int i => some (.dat (.int (-i)))
  | _ => none
theorem o_neg {X : Cx} : UnD X (unaryOp .USub) negD := by
  intro pins s σ H x v Q I rx ⟨av, d, res, rd, eg, al, q⟩
  unfold negD at eg
  split at eg
  · cases eg
    exact un_neg pins s σ H x v Q I rx ⟨_, rd.int, q _ H .refl (show Rp _ _ _ _ _ from .int _)⟩
  · cases eg

/-! ### + -/
def addD : PyData → PyData → Option Res
  | .int i, .int j => some (.dat (.int (i + j)))
  | .str x, .str y => if x.length + y.length ≤ big then some (.dat (.str (x ++ y))) else none
  | .tuple xs, .tuple ys => if xs.length + ys.length ≤ big then some (.dat (.tuple (xs ++ ys))) else none
  | .list xs, .list ys => if xs.length + ys.length ≤ big then some (.own (xs ++ ys)) else none
  | _, _ => none
section
variable {X : Cx}
theorem o_add : OpD X (binaryOp .Add) addD := by
  intro pins s σ H x y v u Q I rx ry ⟨av, d, e, res, rd, re, eg, al, q⟩
  unfold addD at eg
  split at eg
  · cases eg
    exact op_add pins s σ H x y v u Q I rx ry ⟨_, _, rd.int, re.int, q _ H .refl (show Rp _ _ _ _ _ from .int _)⟩
  · split at eg
    · rename_i hb
      cases eg
      exact op_add_str pins s σ H x y v u Q I rx ry ⟨_, _, rd.str, re.str, big_ok hb, q _ H .refl (show Rp _ _ _ _ _ from .str _)⟩
    · cases eg
  · split at eg
    · rename_i xs ys hb
      cases eg
      obtain ⟨a, zs, rfl, h1, r1⟩ := rd.tuple
      obtain ⟨b, ws, rfl, h2, r2⟩ := re.tuple
      cases rx
      cases ry
      obtain ⟨its, v1, p1, _⟩ := I.tuple h1.sq
      obtain ⟨its2, v2, p2, _⟩ := I.tuple h2.sq
      cases its with
      | nil =>
        cases v1
        cases r1
        refine cat_tup0 p1 p2 ⟨.ref b, H, I, rfl, q _ H .refl ?_⟩
        show Rp X.K av H (.ref b) (.tuple ([] ++ ys))
        exact .tup h2 r2
      | cons i1 its =>
        refine HT.cat_tup p1 p2 (by simp) (fun z => ?_) (fun z => ?_) (by rw [← v1.length, ← v2.length, r1.length, r2.length]; exact big_ok hb)
        · subst z
          cases v2
          cases r2
          refine ⟨.ref a, H, I, rfl, q _ H .refl ?_⟩
          show Rp X.K av H (.ref a) (.tuple (xs ++ []))
          rw [List.append_nil]
          exact .tup h1 r1
        · exact tup_laid (t' := s.toks) I al (r1.append r2) (v1.append v2) (by rw [List.length_append, r1.length, r2.length]; exact big_ok hb) (fun b ob q => Heap.get?_push_of_some _ q) (Nat.le_refl _) (Heap.get?_push_size _ rfl) q
    · cases eg
  · split at eg
    · rename_i xs ys hb
      cases eg
      obtain ⟨a, zs, rfl, h1, r1⟩ := rd.list
      obtain ⟨b, ws, rfl, h2, r2⟩ := re.list
      cases rx
      cases ry
      obtain ⟨its, v1, p1, _⟩ := I.list h1
      obtain ⟨its2, v2, p2, _⟩ := I.list h2
      obtain ⟨⟨cls, dd, data, sl⟩, ho, hc, n, hd⟩ := id p1.isList
      obtain ⟨⟨cls2, dd2, data2, sl2⟩, ho2, hc2, n2, hd2⟩ := id p2.isList
      simp only at hc hd hc2 hd2
      subst hc hd hc2 hd2
      have hl : its.toArray.size + its2.toArray.size ≤ sizeLine := by
        rw [List.size_toArray, List.size_toArray, ← v1.length, ← v2.length, r1.length, r2.length]
        exact big_ok hb
      refine concat_meets ⟨_, ho, rfl⟩ ⟨_, ho2, rfl⟩ noFill_list_add seq_list_add PySem.F.slot_list_add PySem.F.entry_list_add (PySem.F.args_list_add_2 _ _) (list_addW a b its.toArray its2.toArray n n2 dd dd2 sl sl2 hl) ⟨ho, ho2, ?_⟩
      have e : its.toArray ++ its2.toArray = (its ++ its2).toArray := by simp
      rw [e]
      exact lst_laid (t' := s.toks) I (r1.append r2) (v1.append v2) (by rw [List.length_append, r1.length, r2.length]; exact big_ok hb) (fun b ob q => Heap.get?_push_of_some _ q) (Nat.le_refl _) (Heap.get?_push_size _ rfl) q
    · cases eg
  · cases eg
end

/-! ### ==, !=, is None -/
def eqD (d e : PyData) : Option Res := if SeqAt.shaped d = true ∧ SeqAt.shaped e = true then some (.dat (.bool (PyData.eqv d e))) else none
def neD (d e : PyData) : Option Res := if SeqAt.shaped d = true ∧ SeqAt.shaped e = true then some (.dat (.bool (!PyData.eqv d e))) else none
def isNone : PyData → Bool
  | .none => true
  | _ => false
def isND (d e : PyData) : Option Res := if isNone e = true then some (.dat (.bool (isNone d))) else none
def notND (d e : PyData) : Option Res := if isNone e = true then some (.dat (.bool (!isNone d))) else none
section
variable {X : Cx}
theorem o_eq {k : Nat} (hr : Room k X.A) : OpD X (compareOp .Eq) eqD := by
  intro pins s σ H x y v u Q I rx ry ⟨av, d, e, res, rd, re, eg, al, q⟩
  unfold eqD at eg
  split at eg
  · rename_i h
    cases eg
    exact op_eqD hr.units pins s σ H x y v u Q I rx ry ⟨d, e, rd.dp, re.dp, h.1, h.2, q _ H .refl (show Rp _ _ _ _ _ from .bl _)⟩
  · cases eg
theorem o_ne {k : Nat} (hr : Room k X.A) : OpD X (compareOp .NotEq) neD := by
  intro pins s σ H x y v u Q I rx ry ⟨av, d, e, res, rd, re, eg, al, q⟩
  unfold neD at eg
  split at eg
  · rename_i h
    cases eg
    exact op_neD hr.units pins s σ H x y v u Q I rx ry ⟨d, e, rd.dp, re.dp, h.1, h.2, q _ H .refl (show Rp _ _ _ _ _ from .bl _)⟩
  · cases eg
theorem isNone_rv {K : PySem.W.Frag} {av : Av} {H : Hp} {x : V} {d : PyData} (h : RvS K av H x d) : decide (x = .non) = isNone d := by
  rcases h with h | ⟨p, vs, ds, rfl, rfl, _, _⟩
  · cases h <;> rfl
  · rfl
theorem o_isN : OpD X (compareOp .Is) isND := by
  intro pins s σ H x y v u Q I rx ry ⟨av, d, e, res, rd, re, eg, al, q⟩
  unfold isND at eg
  split at eg
  · rename_i h
    cases eg
    have hy := isNone_rv re
    rw [h] at hy
    have hx := isNone_rv rd
    exact op_isN pins s σ H x y v u Q I rx ry ⟨of_decide_eq_true hy, q _ H .refl (by rw [hx]; exact (show Rp _ _ _ _ _ from .bl _))⟩
  · cases eg
theorem o_notN : OpD X (compareOp .IsNot) notND := by
  intro pins s σ H x y v u Q I rx ry ⟨av, d, e, res, rd, re, eg, al, q⟩
  unfold notND at eg
  split at eg
  · rename_i h
    cases eg
    have hy := isNone_rv re
    rw [h] at hy
    have hx := isNone_rv rd
    exact op_notN pins s σ H x y v u Q I rx ry ⟨of_decide_eq_true hy, q _ H .refl (by rw [hx]; exact (show Rp _ _ _ _ _ from .bl _))⟩
  · cases eg
end

/-! ### xs[i] -/
def ixD : PyData → PyData → Option Res
  | .list xs, .int i => (atI xs i).map .dat
  | .tuple xs, .int i => (atI xs i).map .dat
  | _, _ => none
theorem atI_rp {K : PySem.W.Frag} {av : Av} {H : Hp} {vs : List V} {ds : List PyData} {i : Int} {d : PyData} (r : RpA K av H vs ds) (h : atI ds i = some d) : ∃ v, atI vs i = some v ∧ Rp K av H v d := by
  unfold atI at h ⊢
  rw [r.length]
  obtain ⟨j, e1, e2⟩ := Option.bind_eq_some_iff.mp h
  rw [e1]
  exact r.get e2
theorem x_ix {X : Cx} : IxR X (rD X.K ixD) := by
  intro value slice pins s σ H x y v u Q I rx ry ⟨av, d, e, res, rd, re, eg, al, q⟩ hs
  unfold ixD at eg
  split at eg
  · obtain ⟨d', e1, e2⟩ := Option.map_eq_some_iff.mp eg
    subst e2
    obtain ⟨a, zs, rfl, h1, r1⟩ := rd.list
    obtain ⟨w, e2, r2⟩ := atI_rp r1 e1
    exact ix_list value slice pins s σ H _ y v u Q I rx ry ⟨a, zs, _, w, rfl, re.int, h1, e2, q _ H .refl r2⟩ hs
  · obtain ⟨d', e1, e2⟩ := Option.map_eq_some_iff.mp eg
    subst e2
    obtain ⟨a, zs, rfl, h1, r1⟩ := rd.tuple
    obtain ⟨w, e2, r2⟩ := atI_rp r1 e1
    exact ix_tup value slice pins s σ H _ y v u Q I rx ry ⟨a, zs, _, w, rfl, re.int, h1.sq, e2, q _ H .refl r2⟩ hs
  · cases eg
end Ly

/-! LyI: built-in functions, slices, comprehensions with two clauses. -/
namespace Ly
open PySem PySem.Spec L2 PyProof.Rows

/-! ### built-ins -/
def intsOf : List PyData → Option (List Int)
  | [] => some []
  | .int i :: r => (intsOf r).map (i :: ·)
  | _ :: _ => none
def boolsOf : List PyData → Option (List Bool)
  | [] => some []
  | .bool i :: r => (boolsOf r).map (i :: ·)
  | _ :: _ => none
theorem intsOf_some : ∀ {ds : List PyData} {ns : List Int}, intsOf ds = some ns → ds = ns.map .int
  | [], _, h => by cases h; rfl
  | .int i :: r, _, h => by
    obtain ⟨m, e1, e2⟩ := Option.map_eq_some_iff.mp (show (intsOf r).map (i :: ·) = _ from h)
    subst e2
    rw [intsOf_some e1]
    rfl
  | .none :: _, _, h => by cases h
  | .bool _ :: _, _, h => by cases h
  | .str _ :: _, _, h => by cases h
  | .list _ :: _, _, h => by cases h
  | .tuple _ :: _, _, h => by cases h
  | .dict _ :: _, _, h => by cases h
theorem boolsOf_some : ∀ {ds : List PyData} {ns : List Bool}, boolsOf ds = some ns → ds = ns.map .bool
  | [], _, h => by cases h; rfl
  | .bool i :: r, _, h => by
    obtain ⟨m, e1, e2⟩ := Option.map_eq_some_iff.mp (show (boolsOf r).map (i :: ·) = _ from h)
    subst e2
    rw [boolsOf_some e1]
    rfl
  | .none :: _, _, h => by cases h
  | .int _ :: _, _, h => by cases h
  | .str _ :: _, _, h => by cases h
  | .list _ :: _, _, h => by cases h
  | .tuple _ :: _, _, h => by cases h
  | .dict _ :: _, _, h => by cases h
theorem intsOf_map (ns : List Int) : intsOf (ns.map .int) = some ns := by
  induction ns with
  | nil => rfl
  | cons n ns ih => show (intsOf (ns.map .int)).map (n :: ·) = _; rw [ih]; rfl
theorem boolsOf_map (ns : List Bool) : boolsOf (ns.map .bool) = some ns := by
  induction ns with
  | nil => rfl
  | cons n ns ih => show (boolsOf (ns.map .bool)).map (n :: ·) = _; rw [ih]; rfl
theorem RpA.ofInts {K : PySem.W.Frag} {av : Av} {H : Hp} : ∀ {ns : List Int} {vs : List V}, RpA K av H vs (ns.map .int) → vs = ns.map V.int
  | [], _, h => by cases h; rfl
  | n :: ns, _, h => by
    cases h with
    | cons h1 h2 =>
      cases h1
      rw [RpA.ofInts h2]
      rfl
theorem RpA.ofBools {K : PySem.W.Frag} {av : Av} {H : Hp} : ∀ {ns : List Bool} {vs : List V}, RpA K av H vs (ns.map .bool) → vs = ns.map V.bl
  | [], _, h => by cases h; rfl
  | n :: ns, _, h => by
    cases h with
    | cons h1 h2 =>
      cases h1
      rw [RpA.ofBools h2]
      rfl
def lenD : List PyData → Option Res
  | [.list xs] => some (.dat (.int (xs.length : Nat)))
  | [.tuple xs] => some (.dat (.int (xs.length : Nat)))
  | [.str x] => if x.length ≤ big then some (.dat (.int (x.length : Nat))) else none
  | _ => none
def sumD : List PyData → Option Res
  | [.list xs] => (intsOf xs).map fun ns => .dat (.int ns.sum)
  | _ => none
def allD : List PyData → Option Res
  | [.list xs] => (boolsOf xs).map fun ns => .dat (.bool (ns.all id))
  | _ => none
def anyD : List PyData → Option Res
  | [.list xs] => (boolsOf xs).map fun ns => .dat (.bool (ns.any id))
  | _ => none
def absD : List PyData → Option Res
  | [.int i] => some (.dat (.int (if i < 0 then -i else i)))
  | _ => none
def intD : List PyData → Option Res
  | [.int i] => some (.dat (.int i))
  | [.bool b] => some (.dat (.int (if b then 1 else 0)))
  | _ => none
def tupleD : List PyData → Option Res
  | [.list xs] => some (.dat (.tuple xs))
  | [.tuple xs] => some (.dat (.tuple xs))
  | _ => none
def listD : List PyData → Option Res
  | [.list xs] => some (.own xs)
  | [.tuple xs] => some (.own xs)
  | _ => none
def alikeB (xs : List PyData) : Bool := (xs.all fun x => xs.all fun y => PySem.W.alike x y) && (xs.all fun x => !isNone x) && decide (PyData.depthAll xs ≤ 40)
def minL : List PyData → Option Res
  | [.list (x :: xs)] => if alikeB (x :: xs) = true then some (.dat (PySem.W.minD x xs)) else none
  | [.tuple (x :: xs)] => if alikeB (x :: xs) = true then some (.dat (PySem.W.minD x xs)) else none
  | [.int i, .int j] => some (.dat (.int (if j < i then j else i)))
  | _ => none
def maxL : List PyData → Option Res
  | [.list (x :: xs)] => if alikeB (x :: xs) = true then some (.dat (PySem.W.maxD x xs)) else none
  | [.tuple (x :: xs)] => if alikeB (x :: xs) = true then some (.dat (PySem.W.maxD x xs)) else none
  | [.int i, .int j] => some (.dat (.int (if j > i then j else i)))
  | _ => none
theorem vals_getR : ∀ {xs : List V} {us : List Value} {i : Nat} {u : Value}, Vals xs us → us[i]? = some u → ∃ x, xs[i]? = some x ∧ RelV x u := fun {xs us i u} r e => by
  have hl := r.length
  have hi : i < xs.length := by rw [hl]; exact (List.getElem?_eq_some_iff.mp e).1
  obtain ⟨w, e1, e2⟩ := r.get (List.getElem?_eq_getElem hi)
  rw [e] at e1
  cases e1
  exact ⟨_, List.getElem?_eq_getElem hi, e2⟩
theorem alikeB_ok {xs : List PyData} (h : alikeB xs = true) : PySem.W.AlikeAll xs ∧ PyData.depthAll xs ≤ 40 := by
  simp only [alikeB, Bool.and_eq_true, List.all_eq_true, decide_eq_true_eq] at h
  refine ⟨⟨fun x hx y hy => h.1.1 x hx y hy, fun x hx e => ?_⟩, h.2⟩
  have := h.1.2 x hx
  rw [e] at this
  cases this
section
variable {X : Cx} {pins : List (Addr × Obj)} {σ : L2.St} {H : Hp} {s : Shared}
/-- what was picked from a sequence -/
theorem pick_end {av : Av} {ws : List V} {ds : List PyData} {its : List Value} {Q : VK} {i : Nat} {v : Value} {h' : Heap} {tk : Nat} {d : PyData} {bs : List Addr} (I : Inv X pins σ H s) (r : RpA X.K av H ws ds) (rv : Vals ws its) (hv : its[i]? = some v) (hr : Reads h' v d bs)
    (hk : ∀ b o, s.heap.get? b = some o → h'.get? b = some o) (q : ∀ v H', Fr0 H H' → ResR X.K av H H' v (.dat d) → Q v H') : EP X pins σ Q v { s with heap := h', toks := tk } := by
  obtain ⟨x, e1, e2⟩ := vals_getR rv hv
  obtain ⟨d', e3, r3⟩ := r.get' e1
  obtain ⟨as, r4⟩ := Dp.reads I d' x v (Rp.dp _ _ r3) e2
  have e5 := (reads_det (fun b o h _ => hk b o h) r4 hr).1
  subst e5
  exact ⟨x, H, I.kept (t' := tk) hk, e2, q x H .refl r3⟩
end
section
variable {X : Cx}
theorem c_len : CallD X (.builtin "len") lenD := by
  intro pins s σ H xs us Q I r ⟨av, ds, res, rd, eg, al, q⟩
  unfold lenD at eg
  split at eg
  · cases eg
    obtain ⟨x, rfl, h⟩ := rvA1 rd
    obtain ⟨p, vs, rfl, h1, h2⟩ := h.list
    exact call_len pins s σ H _ us Q I r ⟨_, vs.length, rfl, .inl ⟨vs, h1, rfl⟩, by rw [h2.length]; exact q _ H .refl (show Rp _ _ _ _ _ from .int _)⟩
  · cases eg
    obtain ⟨x, rfl, h⟩ := rvA1 rd
    obtain ⟨p, vs, rfl, h1, h2⟩ := h.tuple
    exact call_len pins s σ H _ us Q I r ⟨_, vs.length, rfl, .inr ⟨vs, h1.sq, rfl⟩, by rw [h2.length]; exact q _ H .refl (show Rp _ _ _ _ _ from .int _)⟩
  · split at eg
    · rename_i hb
      cases eg
      obtain ⟨x, rfl, h⟩ := rvA1 rd
      exact call_len pins s σ H _ us Q I r ⟨_, _, rfl, by rw [h.str]; exact ⟨big_ok hb, rfl⟩, q _ H .refl (show Rp _ _ _ _ _ from .int _)⟩
    · cases eg
  · cases eg
theorem c_sum (hc : X.calm = true) : CallD X (.builtin "sum") sumD := by
  intro pins s σ H xs us Q I r ⟨av, ds, res, rd, eg, al, q⟩
  unfold sumD at eg
  split at eg
  · obtain ⟨ns, e1, e2⟩ := Option.map_eq_some_iff.mp eg
    subst e2
    rw [intsOf_some e1] at rd
    obtain ⟨x, rfl, h⟩ := rvA1 rd
    obtain ⟨p, vs, rfl, h1, h2⟩ := h.list
    rw [h2.ofInts] at h1
    exact cr_sum hc pins s σ H _ us Q I r ⟨p, ns, rfl, h1, q _ H .refl (show Rp _ _ _ _ _ from .int _)⟩
  · cases eg
theorem c_all (hc : X.calm = true) : CallD X (.builtin "all") allD := by
  intro pins s σ H xs us Q I r ⟨av, ds, res, rd, eg, al, q⟩
  unfold allD at eg
  split at eg
  · obtain ⟨ns, e1, e2⟩ := Option.map_eq_some_iff.mp eg
    subst e2
    rw [boolsOf_some e1] at rd
    obtain ⟨x, rfl, h⟩ := rvA1 rd
    obtain ⟨p, vs, rfl, h1, h2⟩ := h.list
    rw [h2.ofBools] at h1
    exact cr_all hc pins s σ H _ us Q I r ⟨p, ns, rfl, h1, q _ H .refl (show Rp _ _ _ _ _ from .bl _)⟩
  · cases eg
theorem c_any (hc : X.calm = true) : CallD X (.builtin "any") anyD := by
  intro pins s σ H xs us Q I r ⟨av, ds, res, rd, eg, al, q⟩
  unfold anyD at eg
  split at eg
  · obtain ⟨ns, e1, e2⟩ := Option.map_eq_some_iff.mp eg
    subst e2
    rw [boolsOf_some e1] at rd
    obtain ⟨x, rfl, h⟩ := rvA1 rd
    obtain ⟨p, vs, rfl, h1, h2⟩ := h.list
    rw [h2.ofBools] at h1
    exact cr_any hc pins s σ H _ us Q I r ⟨p, ns, rfl, h1, q _ H .refl (show Rp _ _ _ _ _ from .bl _)⟩
  · cases eg
theorem c_abs : CallD X (.builtin "abs") absD := by
  intro pins s σ H xs us Q I r ⟨av, ds, res, rd, eg, al, q⟩
  unfold absD at eg
  split at eg
  · cases eg
    obtain ⟨x, rfl, h⟩ := rvA1 rd
    exact call_abs pins s σ H _ us Q I r ⟨_, by rw [h.int], q _ H .refl (show Rp _ _ _ _ _ from .int _)⟩
  · cases eg
theorem c_int : CallD X (.type "int") intD := by
  intro pins s σ H xs us Q I r ⟨av, ds, res, rd, eg, al, q⟩
  unfold intD at eg
  split at eg
  · cases eg
    obtain ⟨x, rfl, h⟩ := rvA1 rd
    exact call_int1 pins s σ H _ us Q I r (.inl ⟨_, by rw [h.int], q _ H .refl (show Rp _ _ _ _ _ from .int _)⟩)
  · cases eg
    obtain ⟨x, rfl, h⟩ := rvA1 rd
    exact call_int1 pins s σ H _ us Q I r (.inr ⟨_, by rw [h.bool], q _ H .refl (show Rp _ _ _ _ _ from .int _)⟩)
  · cases eg
theorem c_tuple : CallD X (.type "tuple") tupleD := by
  intro pins s σ H xs us Q I r ⟨av, ds, res, rd, eg, al, q⟩
  unfold tupleD at eg
  split at eg
  · cases eg
    obtain ⟨x, rfl, h⟩ := rvA1 rd
    obtain ⟨p, vs, rfl, h1, h2⟩ := h.list
    obtain ⟨u, rfl, rx⟩ := vals1 r
    cases rx
    obtain ⟨its, r', pl, hz⟩ := I.list h1
    have hlen := r'.length
    refine call_tuple_list pl.isList (fun h' kp => ?_) (by simp only [List.size_toArray] <;> omega)
    have I1 : Inv X pins σ H { s with heap := h' } := I.kept (t' := s.toks) kp
    exact tup_laid (s := { s with heap := h' }) (t' := s.toks) I1 al h2 r' hz (fun b o e => Heap.get?_push_of_some _ e) (Nat.le_refl _) (Heap.get?_push_size _ rfl) q
  · cases eg
    obtain ⟨x, rfl, h⟩ := rvA1 rd
    obtain ⟨p, vs, rfl, h1, h2⟩ := h.tuple
    exact call_tuple_of pins s σ H _ us Q I r ⟨p, vs, rfl, .inr ⟨h1.sq, q _ H .refl (show Rp _ _ _ _ _ from .tup h1 h2)⟩⟩
  · cases eg
theorem c_list : CallD X (.type "list") listD := by
  intro pins s σ H xs us Q I r ⟨av, ds, res, rd, eg, al, q⟩
  unfold listD at eg
  split at eg
  · cases eg
    obtain ⟨x, rfl, h⟩ := rvA1 rd
    obtain ⟨p, vs, rfl, h1, h2⟩ := h.list
    exact call_list_of pins s σ H _ us Q I r ⟨p, vs, rfl, .inl h1, newL_end h2 q⟩
  · cases eg
    obtain ⟨x, rfl, h⟩ := rvA1 rd
    obtain ⟨p, vs, rfl, h1, h2⟩ := h.tuple
    exact call_list_of pins s σ H _ us Q I r ⟨p, vs, rfl, .inr h1.sq, newL_end h2 q⟩
  · cases eg
theorem c_min {k : Nat} (hr : Room k X.A) (hc : X.calm = true) : CallD X (.builtin "min") minL := by
  intro pins s σ H xs us Q I r ⟨av, ds, res, rd, eg, al, q⟩
  have hu := hr.units
  unfold minL at eg
  split at eg
  · split at eg
    · rename_i y ys hb
      cases eg
      obtain ⟨ha, hd⟩ := alikeB_ok hb
      obtain ⟨x, rfl, h⟩ := rvA1 rd
      obtain ⟨p, vs, rfl, h1, h2⟩ := h.list
      obtain ⟨u, rfl, rx⟩ := vals1 r
      cases rx
      obtain ⟨its, r', pl, hz⟩ := I.list h1
      obtain ⟨as, rr⟩ := Dp.readsAll I _ vs its (RpA.dp _ _ h2) r'
      exact PySem.W.min_list_data (I.ok.hd hc) pl.isList (by rw [List.toList_toArray]; exact rr) ha (by omega) fun i v h' tk bs hv hr' hk => pick_end I h2 r' (by simpa using hv) hr' hk q
    · cases eg
  · split at eg
    · rename_i y ys hb
      cases eg
      obtain ⟨ha, hd⟩ := alikeB_ok hb
      obtain ⟨x, rfl, h⟩ := rvA1 rd
      obtain ⟨p, vs, rfl, h1, h2⟩ := h.tuple
      obtain ⟨u, rfl, rx⟩ := vals1 r
      cases rx
      obtain ⟨its, r', pl, hz⟩ := I.tuple h1.sq
      obtain ⟨as, rr⟩ := Dp.readsAll I _ vs its (RpA.dp _ _ h2) r'
      exact PySem.W.min_tuple_data (I.ok.hd hc) pl (by rw [List.toList_toArray]; exact rr) ha (by omega) fun i v h' tk bs hv hr' hk => pick_end I h2 r' (by simpa using hv) hr' hk q
    · cases eg
  · cases eg
    obtain ⟨x, y, rfl, h1, h2⟩ := rvA2 rd
    exact call_min2 hc pins s σ H _ us Q I r ⟨_, _, by rw [h1.int, h2.int], q _ H .refl (show Rp _ _ _ _ _ from .int _)⟩
  · cases eg
theorem c_max {k : Nat} (hr : Room k X.A) (hc : X.calm = true) : CallD X (.builtin "max") maxL := by
  intro pins s σ H xs us Q I r ⟨av, ds, res, rd, eg, al, q⟩
  have hu := hr.units
  unfold maxL at eg
  split at eg
  · split at eg
    · rename_i y ys hb
      cases eg
      obtain ⟨ha, hd⟩ := alikeB_ok hb
      obtain ⟨x, rfl, h⟩ := rvA1 rd
      obtain ⟨p, vs, rfl, h1, h2⟩ := h.list
      obtain ⟨u, rfl, rx⟩ := vals1 r
      cases rx
      obtain ⟨its, r', pl, hz⟩ := I.list h1
      obtain ⟨as, rr⟩ := Dp.readsAll I _ vs its (RpA.dp _ _ h2) r'
      exact PySem.W.max_list_data (I.ok.hd hc) pl.isList (by rw [List.toList_toArray]; exact rr) ha (by omega) fun i v h' tk bs hv hr' hk => pick_end I h2 r' (by simpa using hv) hr' hk q
    · cases eg
  · split at eg
    · rename_i y ys hb
      cases eg
      obtain ⟨ha, hd⟩ := alikeB_ok hb
      obtain ⟨x, rfl, h⟩ := rvA1 rd
      obtain ⟨p, vs, rfl, h1, h2⟩ := h.tuple
      obtain ⟨u, rfl, rx⟩ := vals1 r
      cases rx
      obtain ⟨its, r', pl, hz⟩ := I.tuple h1.sq
      obtain ⟨as, rr⟩ := Dp.readsAll I _ vs its (RpA.dp _ _ h2) r'
      exact PySem.W.max_tuple_data (I.ok.hd hc) pl (by rw [List.toList_toArray]; exact rr) ha (by omega) fun i v h' tk bs hv hr' hk => pick_end I h2 r' (by simpa using hv) hr' hk q
    · cases eg
  · cases eg
    obtain ⟨x, y, rfl, h1, h2⟩ := rvA2 rd
    exact call_max2 hc pins s σ H _ us Q I r ⟨_, _, by rw [h1.int, h2.int], q _ H .refl (show Rp _ _ _ _ _ from .int _)⟩
  · cases eg

/-! ### xs.count(x) -/
def countT : PyData → List PyData → Option Res
  | .tuple xs, [d] => if PyData.plainAll xs = true ∧ d.plain = true ∧ d.depth ≤ 40 then some (.dat (.int ((xs.countP fun y => PyData.eqv y d : Nat) : Int))) else none
  | _, _ => none
def countL : PyData → List PyData → Option Res
  | .list xs, [d] => if PyData.plainAll xs = true ∧ d.plain = true ∧ d.depth ≤ 40 then some (.dat (.int ((xs.countP fun y => PyData.eqv y d : Nat) : Int))) else none
  | _, _ => none
theorem m_countT {k : Nat} (hr : Room k X.A) : MtD X "tuple.count" countT := by
  intro pins s σ H x xs v us Q I rx rs ⟨av, d, ds, res, rd, ra, eg, al, q⟩
  have hu := hr.units
  unfold countT at eg
  split at eg
  · split at eg
    · rename_i ys d h
      cases eg
      obtain ⟨p, vs, rfl, h1, h2⟩ := rd.tuple
      obtain ⟨y, rfl, hy⟩ := rvA1 ra
      obtain ⟨u, rfl, ry⟩ := vals1 rs
      cases rx
      obtain ⟨its, r', pl, hz⟩ := I.tuple h1.sq
      obtain ⟨as, rr⟩ := Dp.readsAll I _ vs its (RpA.dp _ _ h2) r'
      obtain ⟨bs, rb⟩ := Dp.reads I _ y u hy.dp ry
      refine PySem.SeqAt.count_tuple_data pl (by rw [List.toList_toArray]; exact rr) rb h.1 h.2.1 ?_ ⟨.int _, H, I.tok _, ⟨_, rfl⟩, q _ H .refl (show Rp _ _ _ _ _ from .int _)⟩
      have := Nat.min_le_right (PyData.depthAll ys) d.depth
      omega
    · cases eg
  · cases eg
theorem m_countL {k : Nat} (hr : Room k X.A) : MtD X "list.count" countL := by
  intro pins s σ H x xs v us Q I rx rs ⟨av, d, ds, res, rd, ra, eg, al, q⟩
  have hu := hr.units
  unfold countL at eg
  split at eg
  · split at eg
    · rename_i ys d h
      cases eg
      obtain ⟨p, vs, rfl, h1, h2⟩ := rd.list
      obtain ⟨y, rfl, hy⟩ := rvA1 ra
      obtain ⟨u, rfl, ry⟩ := vals1 rs
      cases rx
      obtain ⟨its, r', pl, hz⟩ := I.list h1
      obtain ⟨as, rr⟩ := Dp.readsAll I _ vs its (RpA.dp _ _ h2) r'
      obtain ⟨bs, rb⟩ := Dp.reads I _ y u hy.dp ry
      refine PySem.SeqAt.count_list_data pl.isList (by rw [List.toList_toArray]; exact rr) rb h.1 h.2.1 ?_ ⟨.int _, H, I.tok _, ⟨_, rfl⟩, q _ H .refl (show Rp _ _ _ _ _ from .int _)⟩
      have := Nat.min_le_right (PyData.depthAll ys) d.depth
      omega
    · cases eg
  · cases eg
end

/-! ### isinstance(x, T) -/
def tyName : PyData → String
  | .none => "NoneType"
  | .bool _ => "bool"
  | .int _ => "int"
  | .str _ => "str"
  | .list _ => "list"
  | .tuple _ => "tuple"
  | .dict _ => "dict"
def isiD (T : String) (d : PyData) : Option Res := (kitB (tyName d) T).map fun b => .dat (.bool b)
theorem tyX_rv {K : PySem.W.Frag} {av : Av} {H : Hp} {x : V} {d : PyData} (h : RvS K av H x d) : TyX K H x (.type (tyName d)) := by
  cases d with
  | none => rw [h.none]; exact .base .non
  | bool b => rw [h.bool]; exact .base (.bl _)
  | int i => rw [h.int]; exact .base (.int _)
  | str i => rw [h.str]; exact .base (.str _)
  | list ds =>
    obtain ⟨p, vs, rfl, h1, _⟩ := h.list
    rcases h1 with (h1 | ⟨o, h1⟩) | ⟨o, its, n, h1, h2, _⟩
    · exact .base (.lst h1)
    · exact .base (.frz h1)
    · exact .kList h1 h2
  | tuple ds =>
    obtain ⟨p, vs, rfl, h1, _⟩ := h.tuple
    rcases h1 with ⟨⟨o, h1, _⟩, _⟩ | ⟨o, its, n, h1, h2, _⟩
    · exact .fTuple h1
    · exact .kTuple h1 h2
  | dict _ =>
    rcases h with h | ⟨p, vs, ds, _, e, _⟩
    · cases h
    · cases e
section
variable {X : Cx} {e : Expr} {f : M EV} {x : Str} {T : String} {p p2 pos : Pos}
theorem se_isi (hm : X.mg "isinstance" = none) (hm2 : X.mg x = none) (hv2 : bootBuiltins x = some (.type T)) (he : SE X e f) (hg : Gl X "isinstance" := by rfl) (hg2 : Gl X x := by rfl) (hn2 : x ≠ "__name__" := by decide) (hd2 : (x == ("__debug__" : Str)) = false := by decide)
    (hs : starEach [e, .Name x p2] X.env = (false, eval e X.env) :: starEach [.Name x p2] X.env := by rfl) (hs2 : starEach [.Name x p2] X.env = (false, eval (.Name x p2) X.env) :: starEach [] X.env := by rfl) (hpl : (backTo pos (starEach [.Name x p2] X.env)).any (·.1) = false := by rfl) :
    SE X (.Call (.Name "isinstance" p) [e, .Name x p2] [] pos) (eUn (isiD T) f) := by
  refine .of (pe_callB call_isi hg hm boot_isinstance (pa_cons he.pe (pa_cons (pe_bltn (v := .ty T) hg2 hm2 hv2 rfl hn2 hd2) pa_nil hs2) hs) (by decide) (by decide) hs hpl) fun fo ss σ H ev ss' Q s e q => ?_
  unfold eUn at e
  obtain ⟨⟨ea, s1⟩, e1, e⟩ := Option.bind_eq_some_iff.mp e
  obtain ⟨d, e2, e⟩ := Option.bind_eq_some_iff.mp e
  obtain ⟨res, e3, e⟩ := Option.bind_eq_some_iff.mp e
  cases e
  obtain ⟨b, e4, e5⟩ := Option.map_eq_some_iff.mp e3
  subst e5
  refine ⟨fo, ss, ea, s1, s, e1, fun fo1 u H1 t1 st1 r1 => ?_⟩
  exact ⟨u, .ty T, _, _, b, rfl, .ty T, tyX_rv (r1.rv st1 e2), kit_ty e4, q fo _ H1 t1.less (st1.less t1.fm) (show Rp _ _ _ _ _ from .bl b)⟩
end
end Ly

/-! LyJ: slices, repetition, len of a range, comprehensions with two clauses. -/
namespace Ly
open PySem PySem.Spec L2 PyProof.Rows

/-! ### the parts of a slice -/
def cP (K : PySem.W.Frag) (f : M (Option Int)) : TO := fun σ H Q => ∃ (fo : Av) (ss : SS) (o : Option Int) (ss' : SS), StR K fo ss σ H ∧ f ss = some (o, ss') ∧ ∀ H', Tn fo ss σ H fo ss' σ H' → StR K fo ss' σ H' → Q o H'
structure SP (X : Cx) (e : Option Expr) (f : M (Option Int)) : Prop where
  po : PO X e (cP X.K f)
def pNo : M (Option Int) := fun ss => some (none, ss)
def pSo (f : M EV) : M (Option Int) := fun ss => (f ss).bind fun a => (val a.2 a.1).bind fun d => match d with
  | .int i => some (some i, a.2)
  | _ => none
section
variable {X : Cx} {e : Expr} {f : M EV}
theorem sp_no : SP X none pNo := ⟨⟨fun pins s σ H Q I ⟨fo, ss, o, ss', st, h, q⟩ => po_none.run pins s σ H Q I (by
  cases h
  exact q H .refl st)⟩⟩
theorem sp_so (he : SE X e f) : SP X (some e) (pSo f) := ⟨⟨fun pins s σ H Q I ⟨fo, ss, o, ss', st, h, q⟩ => (po_some he.pe).run pins s σ H Q I (by
  unfold pSo at h
  obtain ⟨⟨ea, s1⟩, e1, h⟩ := Option.bind_eq_some_iff.mp h
  obtain ⟨d, e2, h⟩ := Option.bind_eq_some_iff.mp h
  refine ⟨fo, ss, ea, s1, st, e1, fun fo1 u H1 t1 st1 r1 => ?_⟩
  dsimp only at h
  split at h
  · cases h
    exact ⟨_, (r1.rv st1 e2).int, q H1 t1.less (st1.less t1.fm)⟩
  · cases h)⟩⟩
end
def cutD {α : Type} (xs : List α) (lo hi : Option Int) : List α := (xs.drop (HT.sIx xs.length 0 lo)).take (HT.sIx xs.length xs.length hi - HT.sIx xs.length 0 lo)
def slD (d : PyData) (lo hi : Option Int) : Option Res := match d with
  | .list xs => some (.own (cutD xs lo hi))
  | .tuple xs => some (.dat (.tuple (cutD xs lo hi)))
  | _ => none
theorem RpA.cut {K : PySem.W.Frag} {av : Av} {H : Hp} {vs : List V} {ds : List PyData} (r : RpA K av H vs ds) (lo hi : Option Int) : RpA K av H (cutD vs lo hi) (cutD ds lo hi) := by
  unfold cutD
  rw [r.length]
  exact (r.drop _).take _
def rSlD (K : PySem.W.Frag) : V → Option Int → Option Int → Hp → VK → Prop := fun x lo hi H Q => ∃ (av : Av) (d : PyData) (res : Res), RvS K av H x d ∧ slD d lo hi = some res ∧ (∀ a, av a → H a ≠ none) ∧ ∀ v H', Fr0 H H' → ResR K av H H' v res → Q v H'
section
variable {X : Cx} {e : Expr} {f : M EV} {lo hi : Option Expr} {fl fh : M (Option Int)} {p2 pos : Pos}
theorem sl_D : SlR X (rSlD X.K) := by
  intro pins s σ H x v vl vu lo hi sl Q I rx hs pl pu ⟨av, d, res, rd, eg, al, q⟩
  unfold slD at eg
  split at eg
  · cases eg
    obtain ⟨p, vs, rfl, h1, h2⟩ := rd.list
    exact sl_list pins s σ H _ v vl vu lo hi sl Q I rx hs pl pu ⟨p, vs, rfl, h1, newL_end (h2.cut lo hi) q⟩
  · cases eg
    obtain ⟨p, vs, rfl, h1, h2⟩ := rd.tuple
    cases rx
    obtain ⟨its, r, ht, hz⟩ := I.tuple h1.sq
    have hlen : its.toArray.size = vs.length := by rw [List.size_toArray]; exact r.length.symm
    refine ⟨"tuple", _, PyProof.Rows.slot_tuple_getitem.lookup, ht.typeIs, ?_⟩
    by_cases hw : HT.sIx vs.length 0 lo = 0 ∧ HT.sIx vs.length vs.length hi = vs.length
    · refine L2.getItem_tuple_whole ht hs pl pu (by rw [hlen]; exact hw) ⟨.ref p, H, I, rfl, q _ H .refl ?_⟩
      rename_i xs
      show Rp X.K av H (.ref p) (.tuple (cutD xs lo hi))
      have : cutD xs lo hi = xs := by
        unfold cutD
        rw [← h2.length, hw.1, hw.2, List.drop_zero, Nat.sub_zero, h2.length, List.take_length]
      rw [this]
      exact .tup h1 h2
    · refine HT.getItem_tuple_cut ht hs pl pu (by rw [hlen]; exact hw) ?_ (by rw [hlen]; exact hz)
      rw [hlen]
      refine tup_laid (t' := s.toks) I al (h2.cut lo hi) (vs := cutD vs lo hi) ?_ (Nat.le_trans (cutV_length vs lo hi) hz) (fun b ob q => Heap.get?_push_of_some _ q) (Nat.le_refl _) (Heap.get?_push_size _ rfl) q
      exact (r.drop _).take _
  · cases eg
def eSl (f : M EV) (fl fh : M (Option Int)) : M EV := fun ss => (f ss).bind fun a => (fl a.2).bind fun l => (fh l.2).bind fun h => (val h.2 a.1).bind fun d => (slD d l.1 h.1).bind fun r => some (r.ev, h.2)
theorem se_sl (he : SE X e f) (hl : SP X lo fl) (hh : SP X hi fh) : SE X (.Subscript e (.Slice lo hi none p2) pos) (eSl f fl fh) :=
  .of (pe_slice sl_D he.pe hl.po hh.po) fun fo ss σ H ev ss' Q s e q => by
    unfold eSl at e
    obtain ⟨⟨ea, s1⟩, e1, e⟩ := Option.bind_eq_some_iff.mp e
    obtain ⟨⟨l, s2⟩, e2, e⟩ := Option.bind_eq_some_iff.mp e
    obtain ⟨⟨h, s3⟩, e3, e⟩ := Option.bind_eq_some_iff.mp e
    obtain ⟨d, e4, e⟩ := Option.bind_eq_some_iff.mp e
    obtain ⟨res, e5, e⟩ := Option.bind_eq_some_iff.mp e
    cases e
    refine ⟨fo, ss, ea, s1, s, e1, fun fo1 u H1 t1 st1 r1 => ⟨fo1, s1, l, s2, st1, e2, fun H2 t2 st2 => ⟨fo1, s2, h, s3, st2, e3, fun H3 t3 st3 => ?_⟩⟩⟩
    have t03 := (t1.trans st1 t2).trans st2 t3
    have rv := ((r1.stay t2 st1).stay t3 st2).rv st3 e4
    refine ⟨_, d, res, rv, e5, st3.avthere, fun z H4 f4 rz => ?_⟩
    obtain ⟨fo2, t4, st4, r4⟩ := res_end st3 t03.fm f4 rz
    exact q fo2 z H4 (t03.less.trans (st3.less t03.fm) t4) st4 r4

/-! ### xs[lo:hi:step], xs a list -/
def pickD {α : Type} (xs : List α) (lo hi : Option Int) (st : Int) : List α := (sliceRange (sliceBounds lo hi (some st) xs.length).1 (sliceBounds lo hi (some st) xs.length).2.1 (sliceBounds lo hi (some st) xs.length).2.2).filterMap (xs[·]?)
theorem RpA.fm {K : PySem.W.Frag} {av : Av} {H : Hp} {vs : List V} {ds : List PyData} (r : RpA K av H vs ds) : ∀ l : List Nat, RpA K av H (l.filterMap (vs[·]?)) (l.filterMap (ds[·]?))
  | [] => .nil
  | i :: l => by
    cases e : ds[i]? with
    | none =>
      have e' : vs[i]? = none := by
        rw [List.getElem?_eq_none_iff] at e ⊢
        rw [r.length]
        exact e
      rw [List.filterMap_cons_none e, List.filterMap_cons_none e']
      exact RpA.fm r l
    | some d =>
      obtain ⟨v, e1, r1⟩ := r.get e
      rw [List.filterMap_cons_some e, List.filterMap_cons_some e1]
      exact .cons r1 (RpA.fm r l)
theorem vals_fm {vs : List V} {us : List Value} (r : Vals vs us) : ∀ l : List Nat, Vals (l.filterMap (vs[·]?)) (l.filterMap (us[·]?))
  | [] => .nil
  | i :: l => by
    cases e : vs[i]? with
    | none =>
      rw [List.filterMap_cons_none e, List.filterMap_cons_none (r.none_of e)]
      exact vals_fm r l
    | some d =>
      obtain ⟨v, e1, r1⟩ := r.get e
      rw [List.filterMap_cons_some e, List.filterMap_cons_some e1]
      exact .cons r1 (vals_fm r l)
def eSl3 (f : M EV) (fl fh : M (Option Int)) (g : M EV) : M EV := fun ss => (f ss).bind fun a => (fl a.2).bind fun l => (fh l.2).bind fun h => (g h.2).bind fun b => (val b.2 a.1).bind fun d => (val b.2 b.1).bind fun c => match d, c with
  | .list xs, .int k => if k ≠ 0 ∧ (pickD xs l.1 h.1 k).length ≤ big then some (.own (pickD xs l.1 h.1 k), b.2) else none
  | _, _ => none
variable {st : Expr} {g : M EV}
def tSl3 (K : PySem.W.Frag) (te : TE) (tl th : TO) (ts : TE) : TE := fun σ H Q => te σ H fun x H1 => tl σ H1 fun l H2 => th σ H2 fun u H3 => ts σ H3 fun y H4 => ∃ (k : Int) (av : Av) (ds : List PyData), y = .int k ∧ k ≠ 0 ∧ RvS K av H4 x (.list ds) ∧ (pickD ds l u k).length ≤ big ∧ ∀ v H', Fr0 H4 H' → ResR K av H4 H' v (.own (pickD ds l u k)) → Q v H'
theorem pe_slice3 {te ts : TE} {tl th : TO} (he : PE X e te) (hl : PO X lo tl) (hu : PO X hi th) (hst : PE X st ts) : PE X (.Subscript e (.Slice lo hi (some st) p2) pos) (tSl3 X.K te tl th ts) := by
  refine ⟨fun pins s σ H Q I h => ?_⟩
  refine Subscript_ (thn (he.run pins s σ H _ I h) fun v s1 ⟨x, H1, I1, r1, q1⟩ => ?_)
  refine wpAny_Slice (thn (hl.run pins s1 σ H1 _ I1 q1) fun vl s2 ⟨l, H2, I2, pl, q2⟩ => thn (hu.run pins s2 σ H2 _ I2 q2) fun vu s3 ⟨u, H3, I3, pu, q3⟩ => ?_)
  rw [evalPart_some]
  refine thn (hst.run pins s3 σ H3 _ I3 q3) fun vk s4 ⟨y, H4, I4, r4, k, av, ds, ey, k0, rv, hb, q4⟩ => ?_
  subst ey
  obtain ⟨tk, rfl⟩ := r4
  have I5 : Inv X pins σ H4 { s4 with heap := s4.heap.push { cls := .type "slice", data := .fields #[vl, vu, .int k tk] } } := I4.kept (t' := s4.toks) fun b ob q => Heap.get?_push_of_some _ q
  obtain ⟨p, vs, rfl, h1, h2⟩ := rv.list
  cases r1
  obtain ⟨its, r, ht, hz⟩ := I5.list h1
  show wpAny (model X.prog X.w) X.A (subscriptTail e (.Slice lo hi (some st) p2) (.ref p) (.ref s4.heap.objs.size)) (EP X pins σ Q) X.xe { s4 with heap := s4.heap.push { cls := .type "slice", data := .fields #[vl, vu, .int k tk] } }
  refine tail_any (ops := [.ref p, .ref s4.heap.objs.size]) ht.isList.typeIs slot_list_getitem.lookup ?_ (by with_unfolding_all rfl)
  refine wpAny_getItem_list_slice ht.isList (Heap.IsSliceOf.new ..) pl pu (.int k tk) (by simpa using k0) ?_ (by rw [List.size_toArray, ← r.length]; exact hz)
  have e5 : slicePick its.toArray l u (some k) = (pickD its l u k).toArray := by
    unfold slicePick pickD
    rw [List.size_toArray]
    congr 1
    refine congrArg (fun f => List.filterMap f _) (funext fun i => ?_)
    simp
  rw [e5]
  have r2 : RpA X.K av H4 (pickD vs l u k) (pickD ds l u k) := by
    unfold pickD
    rw [h2.length]
    exact h2.fm _
  have v2 : Vals (pickD vs l u k) (pickD its l u k) := by
    unfold pickD
    rw [r.length]
    exact vals_fm r _
  exact lst_laid (t' := s4.toks) I5 r2 v2 (by rw [r2.length]; exact big_ok hb) (fun b ob q => Heap.get?_push_of_some _ q) (Nat.le_refl _) (Heap.get?_push_size _ rfl) q4
theorem se_sl3 (he : SE X e f) (hl : SP X lo fl) (hh : SP X hi fh) (hg : SE X st g) : SE X (.Subscript e (.Slice lo hi (some st) p2) pos) (eSl3 f fl fh g) :=
  .of (pe_slice3 he.pe hl.po hh.po hg.pe) fun fo ss σ H ev ss' Q s e q => by
    unfold eSl3 at e
    obtain ⟨⟨ea, s1⟩, e1, e⟩ := Option.bind_eq_some_iff.mp e
    obtain ⟨⟨l, s2⟩, e2, e⟩ := Option.bind_eq_some_iff.mp e
    obtain ⟨⟨h, s3⟩, e3, e⟩ := Option.bind_eq_some_iff.mp e
    obtain ⟨⟨eb, s4⟩, e4, e⟩ := Option.bind_eq_some_iff.mp e
    obtain ⟨d, e5, e⟩ := Option.bind_eq_some_iff.mp e
    obtain ⟨c, e6, e⟩ := Option.bind_eq_some_iff.mp e
    refine ⟨fo, ss, ea, s1, s, e1, fun fo1 u H1 t1 st1 r1 => ⟨fo1, s1, l, s2, st1, e2, fun H2 t2 st2 => ⟨fo1, s2, h, s3, st2, e3, fun H3 t3 st3 => ⟨fo1, s3, eb, s4, st3, e4, fun fo4 w H4 t4 st4 r4 => ?_⟩⟩⟩⟩
    have t04 := ((t1.trans st1 t2).trans st2 t3).trans st3 t4
    have rv := (((r1.stay t2 st1).stay t3 st2).stay t4 st3).rv st4 e5
    dsimp only at e
    split at e
    · split at e
      · rename_i hk
        cases e
        refine ⟨_, _, _, (r4.rv st4 e6).int, hk.1, rv, hk.2, fun z H5 f5 rz => ?_⟩
        obtain ⟨fo2, t5, st5, r5⟩ := res_end st4 t04.fm f5 rz
        exact q fo2 z H5 (t04.less.trans (st4.less t04.fm) t5) st5 r5
      · cases e
    · cases e

/-! ### [..] * n, the list new -/
def eRep (f g : M EV) : M EV := fun ss => (f ss).bind fun a => (g a.2).bind fun b => (opn b.2 a.1).bind fun xs => (val b.2 b.1).bind fun y => match y with
  | .int k => if k.natAbs < 2 ^ 62 ∧ xs.length * k.toNat ≤ big then some (.own (List.replicate k.toNat xs).flatten, b.2) else none
  | _ => none
theorem RpA.rep {K : PySem.W.Frag} {av : Av} {H : Hp} {vs : List V} {ds : List PyData} (r : RpA K av H vs ds) : ∀ n : Nat, RpA K av H (List.replicate n vs).flatten (List.replicate n ds).flatten
  | 0 => .nil
  | n + 1 => by
    rw [List.replicate_succ, List.replicate_succ, List.flatten_cons, List.flatten_cons]
    exact r.append (RpA.rep r n)
variable {e2 : Expr}
theorem se_rep (he : SE X e f) (hg : SE X e2 g) : SE X (.BinOp e .Mult e2 pos) (eRep f g) :=
  .of (pe_op op_rep he.pe hg.pe) fun fo ss σ H ev ss' Q s e q => by
    unfold eRep at e
    obtain ⟨⟨ea, s1⟩, e1, e⟩ := Option.bind_eq_some_iff.mp e
    obtain ⟨⟨eb, s2⟩, e2, e⟩ := Option.bind_eq_some_iff.mp e
    obtain ⟨xs, e3, e⟩ := Option.bind_eq_some_iff.mp e
    obtain ⟨y, e4, e⟩ := Option.bind_eq_some_iff.mp e
    refine ⟨fo, ss, ea, s1, s, e1, fun fo1 u H1 t1 st1 r1 => ⟨fo1, s1, eb, s2, st1, e2, fun fo2 w H2 t2 st2 r2 => ?_⟩⟩
    have t02 := t1.trans st1 t2
    dsimp only at e
    split at e
    · split at e
      · rename_i k hk
        cases e
        obtain ⟨p, vs, rfl, h1, h2⟩ := opn_list st2 (r1.stay t2 st1) e3
        refine ⟨p, k, vs, rfl, (r2.rv st2 e4).int, h1, by omega, by omega, by rw [h2.length]; exact big_ok hk.2, newL_end (h2.rep k.toNat) fun z H3 f3 rz => ?_⟩
        obtain ⟨fo3, t3, st3, r3⟩ := res_end st2 t02.fm f3 rz
        exact q fo3 z H3 (t02.less.trans (st2.less t02.fm) t3) st3 r3
      · cases e
    · cases e
end

/-! ### len(range(a, b, c)) -/
def rangeLen (a b c : Int) : Int := Builtin.Range.rangeSize a b c
def rng3O (p : Addr) (a b c : Int) : HO := .ext fun h => ∃ t u v, IsRange h p a b c t u v
section
variable {X : Cx} {e : Expr} {es : List Expr} {g : M (List EV)} {p p2 pos pos2 : Pos}
def b30 (i : Int) : Bool := decide (i.natAbs < 1073741824)
def eLenR3 (g : M (List EV)) : M EV := fun ss => (g ss).bind fun a => (vals a.2 a.1).bind fun ds => match ds with
  | [.int i, .int j, .int k] => if (b30 i && b30 j && b30 k && decide (k ≠ 0)) = true ∧ 0 ≤ rangeLen i j k ∧ (rangeLen i j k).natAbs < 2 ^ 62 then some (.dat (.int (rangeLen i j k)), a.2) else none
  | _ => none
theorem cr_range3 : CallR X (.type "range") (fun vs H Q => ∃ i j k : Int, vs = [V.int i, V.int j, V.int k] ∧ k ≠ 0 ∧ k.natAbs < 1073741824 ∧ ∀ p, H p = none → Q (.ref p) (upd H p (rng3O p i j k))) := by
  intro pins s σ H vs us Q I r h
  obtain ⟨i, j, k, rfl, k0, kb, q⟩ := h
  cases r with
  | cons r1 r2 => cases r2 with
    | cons r2 r3 => cases r3 with
      | cons r3 r4 =>
        cases r4
        obtain ⟨t, rfl⟩ := r1
        obtain ⟨u, rfl⟩ := r2
        obtain ⟨w, rfl⟩ := r3
        refine call_range_3 k0 ⟨.ref s.heap.objs.size, upd H s.heap.objs.size (rng3O s.heap.objs.size i j k), I.laid (t' := s.toks) (fun b o e => Heap.get?_push_of_some _ e) (Nat.le_refl _) ?_, rfl, q _ (I.hok.fresh (Nat.le_refl _))⟩ (.inl (PyProof.noPylong_small kb))
        exact ⟨⟨t, u, w, IsRange.new ..⟩, ⟨_, Heap.get?_push_size _ rfl⟩, fun h1 h2 ⟨t, u, v, x⟩ k => ⟨t, u, v, k _ x⟩⟩
theorem cr_lenR3 : CallR X (.builtin "len") (fun vs H Q => ∃ (p : Addr) (i j k : Int), vs = [V.ref p] ∧ H p = some (rng3O p i j k) ∧ 0 ≤ rangeLen i j k ∧ rangeLen i j k < 2 ^ 62 ∧ Q (.int (rangeLen i j k)) H) := by
  intro pins s σ H vs us Q I r h
  obtain ⟨p, i, j, k, rfl, hp, h0, h1, q⟩ := h
  obtain ⟨u, rfl, rx⟩ := vals1 r
  cases rx
  obtain ⟨t, u, v, hr⟩ : ∃ t u v, IsRange s.heap p i j k t u v := (I.hok p _ hp).1
  refine call_len_range (n := (rangeLen i j k).toNat) hr (by show rangeLen i j k = _; omega) (by omega) ⟨.int (rangeLen i j k), H, I.tok _, ⟨s.toks + 1, ?_⟩, q⟩
  rw [Int.toNat_of_nonneg h0]
theorem se_lenR3 (hm : X.mg "len" = none) (hm2 : X.mg "range" = none) (ha : SA X (e :: es) g) (hg : Gl X "len" := by rfl) (hg2 : Gl X "range" := by rfl)
    (he : starEach (e :: es) X.env = (false, eval e X.env) :: starEach es X.env := by rfl) (hpl : (backTo pos2 (starEach es X.env)).any (·.1) = false := by rfl)
    (he2 : starEach [.Call (.Name "range" p2) (e :: es) [] pos2] X.env = (false, eval (.Call (.Name "range" p2) (e :: es) [] pos2) X.env) :: starEach [] X.env := by rfl) (hpl2 : (backTo pos (starEach [] X.env)).any (·.1) = false := by rfl) :
    SE X (.Call (.Name "len" p) [.Call (.Name "range" p2) (e :: es) [] pos2] [] pos) (eLenR3 g) := by
  refine .of (pe_callB cr_lenR3 hg hm boot_len (pa_cons (pe_callTy cr_range3 hg2 hm2 boot_range ha.pa (by decide) (by decide) he hpl) pa_nil he2) (by decide) (by decide) he2 hpl2) fun fo ss σ H ev ss' Q s e q => ?_
  unfold eLenR3 at e
  obtain ⟨⟨evs, s1⟩, e1, e⟩ := Option.bind_eq_some_iff.mp e
  obtain ⟨ds, e2, e⟩ := Option.bind_eq_some_iff.mp e
  refine ⟨fo, ss, evs, s1, s, e1, fun fo1 vs H1 t1 st1 r1 => ?_⟩
  have rv := r1.rv st1 e2
  dsimp only at e
  split at e
  · split at e
    · rename_i i j k hb
      cases e
      obtain ⟨x, y, z, rfl, r2, r3, r4⟩ := rvA3 rv
      obtain ⟨hb, h0, h1⟩ := hb
      simp only [b30, Bool.and_eq_true, decide_eq_true_eq] at hb
      refine ⟨i, j, k, by rw [r2.int, r3.int, r4.int], hb.2, hb.1.2, fun p hp => ?_⟩
      refine (show ∃ (p' : Addr) (i' j' k' : Int), _ from ⟨p, i, j, k, rfl, upd_same, h0, by omega, ?_⟩)
      have f0 : Fr0 H1 (upd H1 p (rng3O p i j k)) := .new hp
      exact q fo _ _ (t1.less.trans (st1.less t1.fm) (.grow f0)) ((st1.less t1.fm).mono f0) (show Rp _ _ _ _ _ from .int _)
    · cases e
  · cases e
end

/-! ### [elt for .. for ..] -/
def lcLoop2 (b : B) (c : M Bool) (fi1 : FI) (b1 : B) (c1 : M Bool) (f : M EV) (vs vs1 : List Nat) : List PyData → SS → Option (List PyData × SS)
  | [], ss => some ([], ss)
  | d :: ds, ss => (b d ss).bind fun s1 => (c s1).bind fun t => if t.1 = true then (fi1 t.2).bind fun p => (lcLoop b1 c1 f vs1 p.1 (wipeS p.2 vs1)).bind fun r => (lcLoop2 b c fi1 b1 c1 f vs vs1 ds (wipeS r.2 vs)).bind fun rr => some (r.1 ++ rr.1, rr.2)
    else lcLoop2 b c fi1 b1 c1 f vs vs1 ds (wipeS t.2 vs)
def eLc2 (fi : FI) (b : B) (c : M Bool) (fi1 : FI) (b1 : B) (c1 : M Bool) (f : M EV) (vs vs1 : List Nat) : M EV := fun ss => (fi ss).bind fun p => (lcLoop2 b c fi1 b1 c1 f vs vs1 p.1 (wipeS p.2 vs)).bind fun r => if r.1.length ≤ big then some (.own r.1, wipeS r.2 vs) else none
theorem wipe_twice {σ : L2.St} {vs : List Nat} : L2.wipe (L2.wipe σ vs) vs = L2.wipe σ vs := (⟨wipe_length _ _, fun i n => wipe_out n⟩ : Agree vs σ (L2.wipe σ vs)).wipe
section
variable {K : PySem.W.Frag} {b : B} {c : M Bool} {f : M EV} {vs ws vs0 : List Nat} {fo : Av} {ss si : SS} {σ σi : L2.St} {H0 H : Hp} {D : Addr} {acc : List PyData}
/-- the inner clause: from a state in the outer one to another -/
theorem inner_lc {items : List PyData} {J : It} {G : Av → Hp → Prop} {rest : List PyData} {sfin : SS} {Nx : Hp → Prop} (w : WalkD K J items G) (hw : ∀ i ∈ ws, i ∈ vs) (hD0 : H0 D = none) (l0 : LcSt K fo ss σ H0 vs0 D acc si σi H) (g0 : G (AvS (fun a => fo a ∨ a = D) si σi) H)
    (e : lcLoop b c f vs items (wipeS si vs) = some (rest, sfin)) (hb : (acc ++ rest).length ≤ big)
    (q : ∀ H', LcSt K fo ss σ H0 vs0 D (acc ++ rest) sfin (L2.wipe σi vs) H' → G (AvS (fun a => fo a ∨ a = D) sfin (L2.wipe σi vs)) H' → Nx H') :
    ∃ W : Nat → Nat → Hp → Prop, (∃ m, W 0 m H) ∧ ∀ i m H, W i m H →
      (J.stop i H ∧ Nx H) ∨ (J.go i H ∧ ∃ Nx1 : Hp → Prop, (∀ H', Nx1 H' → ∃ m', m' < m ∧ W (i + 1) m' H') ∧ ∀ x H', J.yld i H x H' → cG K b ws x (L2.wipe σi vs) H' fun σ2 H2 => L2.wipe σ2 vs = L2.wipe σi vs ∧ cT K c σ2 H2 fun b H3 =>
        if b = true then cE K f σ2 H3 fun y H4 => ∃ acc, H4 D = some (.lst acc) ∧ acc.length < sizeLine ∧ Nx1 (upd H4 D (.lst (acc ++ [y]))) else Nx1 H3) := by
  have go0 : ∀ {s5 σ5 H5}, G (AvS (fun a => fo a ∨ a = D) s5 σ5) H5 → G (AvS (fun a => fo a ∨ a = D) (wipeS s5 vs) (L2.wipe σ5 vs)) H5 := fun {s5 σ5 H5} g =>
    w.weak _ _ H5 (fun a z => .inl (z.imp (fun z => z) (wipeS_slotA a))) g
  have lw : ∀ {acc s5 σ5 H5}, LcSt K fo ss σ H0 vs0 D acc s5 σ5 H5 → LcSt K fo ss σ H0 vs0 D acc (wipeS s5 vs) (L2.wipe σ5 vs) H5 := fun {acc s5 σ5 H5} l => ⟨(LcSt.wiped (vs := vs) ⟨l.st, l.tn, l.ls⟩).st, (LcSt.wiped (vs := vs) ⟨l.st, l.tn, l.ls⟩).tn, (LcSt.wiped (vs := vs) ⟨l.st, l.tn, l.ls⟩).ls⟩
  refine ⟨fun i m H => m = items.length - i ∧ i ≤ items.length ∧ ∃ sj accj rst, LcSt K fo ss σ H0 vs0 D accj sj (L2.wipe σi vs) H ∧ lcLoop b c f vs (items.drop i) sj = some (rst, sfin) ∧ accj ++ rst = acc ++ rest ∧ G (AvS (fun a => fo a ∨ a = D) sj (L2.wipe σi vs)) H, ⟨_, rfl, Nat.zero_le _, wipeS si vs, acc, rest, lw l0, e, rfl, go0 g0⟩, ?_⟩
  rintro i m H ⟨rfl, hle, sj, accj, rst, l, ei, ea, gi⟩
  by_cases hlt : i < items.length
  · refine .inr ⟨w.goes i _ H hlt gi, fun H2 => ∃ s2 acc2 rst2, LcSt K fo ss σ H0 vs0 D acc2 s2 (L2.wipe σi vs) H2 ∧ lcLoop b c f vs (items.drop (i + 1)) s2 = some (rst2, sfin) ∧ acc2 ++ rst2 = acc ++ rest ∧ G (AvS (fun a => fo a ∨ a = D) s2 (L2.wipe σi vs)) H2, ?_, ?_⟩
    · rintro H2 ⟨s2, acc2, rst2, k1, k2, k3, k4⟩
      exact ⟨_, by omega, rfl, hlt, s2, acc2, rst2, k1, k2, k3, k4⟩
    · intro x H2 y
      obtain ⟨f2, d, ed, rd⟩ := w.yields i _ H x H2 l.st.avthere hlt gi y
      have e0 : items.drop i = d :: items.drop (i + 1) := by
        rw [List.drop_eq_getElem_cons hlt]
        rw [List.getElem?_eq_getElem hlt] at ed
        cases ed
        rfl
      rw [e0] at ei
      obtain ⟨s3, h3, ei⟩ := Option.bind_eq_some_iff.mp ei
      obtain ⟨⟨tb, s4⟩, h4, ei⟩ := Option.bind_eq_some_iff.mp ei
      have l2 := l.step (.grow f2) (l.st.mono f2)
      have g2 := w.mono (fun _ => False) _ H H2 (fun _ z => z.elim) f2 gi
      refine ⟨_, sj, d, s3, l2.st, rd, h3, fun σ3 ag t3 st3 => ?_⟩
      have wσ : L2.wipe σ3 vs = L2.wipe σi vs := (ag.mono hw).wipe.trans wipe_twice
      refine ⟨wσ, ?_⟩
      have l3 := l2.step t3 st3
      have g3 := w.weak _ _ H2 t3.av g2
      have goG : ∀ {s5 σ5 H5 s6 σ6 H6}, Tn (fun a => fo a ∨ a = D) s5 σ5 H5 (fun a => fo a ∨ a = D) s6 σ6 H6 → G (AvS (fun a => fo a ∨ a = D) s5 σ5) H5 → G (AvS (fun a => fo a ∨ a = D) s6 σ6) H6 := fun {s5 σ5 H5 s6 σ6 H6} t g =>
        w.weak (fun a => AvS (fun a => fo a ∨ a = D) s5 σ5 a ∨ H5 a = none) _ H6 (fun a z => .inl (t.av a z)) (w.mono (SlotA s5 σ5) _ H5 H6 (fun a z => .inl (.inr z)) t.fr (w.weak _ _ H5 (fun a z => z) g))
      refine ⟨_, s3, tb, s4, st3, h4, fun H4 t4 st4 => ?_⟩
      have l4 := l3.step t4 st4
      have g4 := goG t4 g3
      cases tb with
      | false =>
        refine (show ∃ s2 acc2 rst2, _ from ?_)
        exact ⟨wipeS s4 vs, accj, rst, by rw [← wσ]; exact lw l4, ei, ea, by rw [← wσ]; exact go0 g4⟩
      | true =>
        obtain ⟨⟨ev, s5⟩, h5, ei⟩ := Option.bind_eq_some_iff.mp (show ((f s4).bind fun e => (frz e.1).bind fun y => (lcLoop b c f vs (items.drop (i + 1)) (wipeS e.2 vs)).bind fun r => some (y :: r.1, r.2)) = some (rst, sfin) from ei)
        obtain ⟨y', h6, ei⟩ := Option.bind_eq_some_iff.mp ei
        obtain ⟨⟨r', sf⟩, h7, ei⟩ := Option.bind_eq_some_iff.mp ei
        cases ei
        refine (show cE K f σ3 H4 _ from ⟨_, s4, ev, s5, st4, h5, fun fo5 v H5 t5 st5 r5 => ?_⟩)
        have l5 := l4.step t5.less (st5.less t5.fm)
        have g5 := goG t5.less g4
        have rv := r5.fz st5 t5.fm h6
        obtain ⟨us, u1, u2, l6⟩ := l5.push hD0 rv
        have ln : accj.length < big := by
          have z : (accj ++ y' :: r').length ≤ big := by rw [ea]; exact hb
          rw [List.length_append, List.length_cons] at z
          omega
        refine ⟨us, u1, by rw [u2]; exact big_lt ln, wipeS s5 vs, accj ++ [y'], r', by rw [← wσ]; exact lw l6, h7, by rw [List.append_assoc]; exact ea, ?_⟩
        rw [← wσ]
        exact go0 (w.mono (fun a => a = D) _ H5 _ (fun a z => .inl (.inr z)) (.put rfl) g5)
  · have ei' : i = items.length := by omega
    subst ei'
    rw [List.drop_length] at ei
    cases ei
    rw [List.append_nil] at ea
    subst ea
    exact .inl ⟨w.stops _ H gi, q H l gi⟩
end
end Ly

/-! LyK: comprehensions with two clauses. -/
namespace Ly
open PySem PySem.Spec L2 PyProof.Rows
theorem WalkD.and {K : PySem.W.Frag} {J : It} {items : List PyData} {G1 G2 : Av → Hp → Prop} (w : WalkD K J items G1) (m : ∀ ms av H H', (∀ a, ms a → av a) → Fr ms H H' → G2 av H → G2 av H') (k : ∀ av av' H, (∀ a, av' a → av a ∨ H a = none) → G2 av H → G2 av' H) :
    WalkD K J items fun av H => G1 av H ∧ G2 av H where
  mono := fun ms av H H' h f g => ⟨w.mono ms av H H' h f g.1, m ms av H H' h f g.2⟩
  weak := fun av av' H h g => ⟨w.weak av av' H h g.1, k av av' H h g.2⟩
  goes := fun i av H h g => w.goes i av H h g.1
  stops := fun av H g => w.stops av H g.1
  yields := fun i av H x H' al h g y => w.yields i av H x H' al h g.1 y
theorem wipe_sub {σ : L2.St} {vs vs1 : List Nat} (h : ∀ i ∈ vs1, i ∈ vs) : L2.wipe (L2.wipe σ vs1) vs = L2.wipe σ vs := (⟨wipe_length _ _, fun i n => wipe_out fun z => n (h i z)⟩ : Agree vs σ (L2.wipe σ vs1)).wipe
section
variable {K : PySem.W.Frag} {fi fi1 : FI} {b b1 : B} {c c1 : M Bool} {f : M EV} {vs ws vs1 ws1 : List Nat} {fo : Av} {ss : SS} {σ : L2.St} {H0 : Hp} {D : Addr}
theorem tev_lc2 {items : List PyData} {J : It} {H1 : Hp} {G : Av → Hp → Prop} {rest : List PyData} {sfin s1 : SS} {Q : VK} (w : WalkD K J items G) (hw : ∀ i ∈ ws, i ∈ vs) (hw1 : ∀ i ∈ ws1, i ∈ vs1) (hv : ∀ i ∈ vs1, i ∈ vs) (st1 : StR K fo s1 σ H1) (t1 : Tn fo ss σ H0 fo s1 σ H1) (g1 : G (AvS fo s1 σ) H1) (hD : H1 D = none)
    (e : lcLoop2 b c fi1 b1 c1 f vs vs1 items (wipeS s1 vs) = some (rest, sfin)) (hb : rest.length ≤ big)
    (q : ∀ fo' v H', Tn fo ss σ H0 fo' (wipeS sfin vs) σ H' → StR K fo' (wipeS sfin vs) σ H' → EVr K fo fo' (wipeS sfin vs) σ H' v (.own rest) → Q v H') :
    ∃ W : Nat → Nat → Hp → Prop, (∃ m, W 0 m (upd H1 D (.lst []))) ∧ ∀ i m H, W i m H →
      (J.stop i H ∧ Q (.ref D) H) ∨ (J.go i H ∧ ∃ Nx : Hp → Prop, (∀ H', Nx H' → ∃ m', m' < m ∧ W (i + 1) m' H') ∧ ∀ x H', J.yld i H x H' → cG K b ws x (L2.wipe σ vs) H' fun σ2 H2 => L2.wipe σ2 vs = L2.wipe σ vs ∧ cT K c σ2 H2 fun b H3 =>
        if b = true then cI K fi1 σ2 H3 fun J1 H4 => ∃ W1 : Nat → Nat → Hp → Prop, (∃ m, W1 0 m H4) ∧ ∀ j k H, W1 j k H →
          (J1.stop j H ∧ Nx H) ∨ (J1.go j H ∧ ∃ Nx1 : Hp → Prop, (∀ H', Nx1 H' → ∃ k', k' < k ∧ W1 (j + 1) k' H') ∧ ∀ x H', J1.yld j H x H' → cG K b1 ws1 x (L2.wipe σ2 vs1) H' fun σ3 H5 => L2.wipe σ3 vs1 = L2.wipe σ2 vs1 ∧ cT K c1 σ3 H5 fun b H6 =>
            if b = true then cE K f σ3 H6 fun y H7 => ∃ acc, H7 D = some (.lst acc) ∧ acc.length < sizeLine ∧ Nx1 (upd H7 D (.lst (acc ++ [y]))) else Nx1 H6)
        else Nx H3) := by
  have hD0 : H0 D = none := by
    cases q : H0 D with
    | none => rfl
    | some o => exact absurd hD (t1.fr.dom D (by rw [q]; exact fun z => nomatch z))
  refine ⟨fun i m H => m = items.length - i ∧ i ≤ items.length ∧ ∃ si acc rst, LcSt K fo ss σ H0 vs D acc si (L2.wipe σ vs) H ∧ lcLoop2 b c fi1 b1 c1 f vs vs1 (items.drop i) si = some (rst, sfin) ∧ acc ++ rst = rest ∧ G (AvS (fun a => fo a ∨ a = D) si (L2.wipe σ vs)) H, ⟨_, rfl, Nat.zero_le _, ?_⟩, ?_⟩
  · have f0 : Fr0 H1 (upd H1 D (.lst [])) := .new hD
    have al : ∀ a, (fo a ∨ a = D) → (upd H1 D (.lst [])) a ≠ none := fun a z => z.elim (fun z => f0.dom a (st1.alive a z)) (fun z => by subst z; rw [upd_same]; exact fun q => nomatch q)
    have ap : ∀ a, (fo a ∨ a = D) → ¬ SlotA s1 σ a := fun a z => z.elim (st1.apart a) (fun z q => by subst z; exact st1.there q hD)
    have sub : ∀ a, (fo a ∨ a = D) → AvS fo s1 σ a ∨ H1 a = none := fun a z => z.elim (fun z => .inl (.inl z)) (fun z => by subst z; exact .inr hD)
    have sub2 : ∀ a, AvS (fun a => fo a ∨ a = D) s1 σ a → AvS fo s1 σ a ∨ H1 a = none := fun a z => z.elim (sub a) (fun z => .inl (.inr z))
    have sw := st1.more sub f0 al ap
    have l0 : LcSt K fo ss σ H0 vs D [] s1 σ (upd H1 D (.lst [])) := ⟨sw, t1.trans st1 ⟨f0.mono fun _ z => z.elim, fun _ z => .inl z, sub2⟩, [], upd_same, .nil⟩
    refine ⟨wipeS s1 vs, [], rest, l0.wiped, e, rfl, ?_⟩
    refine w.weak (fun a => AvS fo s1 σ a ∨ H1 a = none) _ _ (fun a z => .inl (sub2 a (z.imp (fun z => z) (wipeS_slotA a)))) (w.mono (fun _ => False) _ H1 _ (fun _ z => z.elim) f0 (w.weak _ _ H1 (fun a z => z) g1))
  · rintro i m H ⟨rfl, hle, si, acc, rst, l, ei, ea, gi⟩
    by_cases hlt : i < items.length
    · refine .inr ⟨w.goes i _ H hlt gi, fun H2 => ∃ s2 acc2 rst2, LcSt K fo ss σ H0 vs D acc2 s2 (L2.wipe σ vs) H2 ∧ lcLoop2 b c fi1 b1 c1 f vs vs1 (items.drop (i + 1)) s2 = some (rst2, sfin) ∧ acc2 ++ rst2 = rest ∧ G (AvS (fun a => fo a ∨ a = D) s2 (L2.wipe σ vs)) H2, ?_, ?_⟩
      · rintro H2 ⟨s2, acc2, rst2, k1, k2, k3, k4⟩
        exact ⟨_, by omega, rfl, hlt, s2, acc2, rst2, k1, k2, k3, k4⟩
      · intro x H2 y
        obtain ⟨f2, d, ed, rd⟩ := w.yields i _ H x H2 l.st.avthere hlt gi y
        have e0 : items.drop i = d :: items.drop (i + 1) := by
          rw [List.drop_eq_getElem_cons hlt]
          rw [List.getElem?_eq_getElem hlt] at ed
          cases ed
          rfl
        rw [e0] at ei
        obtain ⟨s3, h3, ei⟩ := Option.bind_eq_some_iff.mp ei
        obtain ⟨⟨tb, s4⟩, h4, ei⟩ := Option.bind_eq_some_iff.mp ei
        have l2 := l.step (.grow f2) (l.st.mono f2)
        have g2 := w.mono (fun _ => False) _ H H2 (fun _ z => z.elim) f2 gi
        refine ⟨_, si, d, s3, l2.st, rd, h3, fun σ3 ag t3 st3 => ?_⟩
        have wσ : L2.wipe σ3 vs = L2.wipe σ vs := (ag.mono hw).wipe.trans wipe_twice
        refine ⟨wσ, ?_⟩
        have l3 := l2.step t3 st3
        have g3 := w.weak _ _ H2 t3.av g2
        have goG : ∀ {s5 σ5 H5 s6 σ6 H6}, Tn (fun a => fo a ∨ a = D) s5 σ5 H5 (fun a => fo a ∨ a = D) s6 σ6 H6 → G (AvS (fun a => fo a ∨ a = D) s5 σ5) H5 → G (AvS (fun a => fo a ∨ a = D) s6 σ6) H6 := fun {s5 σ5 H5 s6 σ6 H6} t g =>
          w.weak (fun a => AvS (fun a => fo a ∨ a = D) s5 σ5 a ∨ H5 a = none) _ H6 (fun a z => .inl (t.av a z)) (w.mono (SlotA s5 σ5) _ H5 H6 (fun a z => .inl (.inr z)) t.fr (w.weak _ _ H5 (fun a z => z) g))
        have goW : ∀ {s5 σ5 H5}, G (AvS (fun a => fo a ∨ a = D) s5 σ5) H5 → G (AvS (fun a => fo a ∨ a = D) (wipeS s5 vs) (L2.wipe σ5 vs)) H5 := fun {s5 σ5 H5} g =>
          w.weak _ _ H5 (fun a z => .inl (z.imp (fun z => z) (wipeS_slotA a))) g
        refine ⟨_, s3, tb, s4, st3, h4, fun H4 t4 st4 => ?_⟩
        have l4 := l3.step t4 st4
        have g4 := goG t4 g3
        cases tb with
        | false =>
          refine (show ∃ s2 acc2 rst2, _ from ?_)
          exact ⟨wipeS s4 vs, acc, rst, by rw [← wσ]; exact l4.wiped, ei, ea, by rw [← wσ]; exact goW g4⟩
        | true =>
          obtain ⟨⟨its1, s5⟩, h5, ei⟩ := Option.bind_eq_some_iff.mp (show ((fi1 s4).bind fun p => (lcLoop b1 c1 f vs1 p.1 (wipeS p.2 vs1)).bind fun r => (lcLoop2 b c fi1 b1 c1 f vs vs1 (items.drop (i + 1)) (wipeS r.2 vs)).bind fun rr => some (r.1 ++ rr.1, rr.2)) = some (rst, sfin) from ei)
          obtain ⟨⟨r1, s6⟩, h6, ei⟩ := Option.bind_eq_some_iff.mp ei
          obtain ⟨⟨r2, sf⟩, h7, ei⟩ := Option.bind_eq_some_iff.mp ei
          cases ei
          refine (show cI K fi1 σ3 H4 _ from ⟨_, s4, its1, s5, st4, h5, fun J1 H5 G1 t5 st5 w1 gg => ?_⟩)
          have l5 := l4.step t5 st5
          have g5 := goG t5 g4
          refine inner_lc (vs0 := vs) (w1.and w.mono w.weak) hw1 hD0 l5 ⟨gg, g5⟩ h6 ?_ fun H6 l6 g6 => ?_
          · have z : (acc ++ (r1 ++ r2)).length ≤ big := by rw [ea]; exact hb
            simp only [List.length_append] at z ⊢
            omega
          · have e7 : L2.wipe (L2.wipe σ3 vs1) vs = L2.wipe σ vs := (wipe_sub hv).trans wσ
            exact ⟨wipeS s6 vs, acc ++ r1, r2, by rw [← e7]; exact l6.wiped, h7, by rw [List.append_assoc]; exact ea, by rw [← e7]; exact goW g6.2⟩
    · have ei' : i = items.length := by omega
      subst ei'
      rw [List.drop_length] at ei
      cases ei
      rw [List.append_nil] at ea
      subst ea
      refine .inl ⟨w.stops _ H gi, ?_⟩
      have l1 := l.wiped
      rw [wipe_twice] at l1
      have s2 := l1.st.unwipe (by rw [← wipe_length σ vs]; have := l.st.len; exact this)
      have eqA : ∀ a, SlotA (wipeS sfin vs) σ a → SlotA (wipeS sfin vs) (L2.wipe σ vs) a := fun a ⟨i, ds, e1, e2⟩ => ⟨i, ds, e1, by
        rcases wipeS_get e1 with ⟨q, _⟩ | ⟨n, q⟩
        · cases q
        · rw [wipe_get n]; exact e2⟩
      obtain ⟨us, u1, u2⟩ := l1.ls
      have nD : ¬ fo D := fun z => st1.alive D z hD
      exact q _ _ H (l1.tn.shrink (fun _ z => .inl z) (fun a z => z.imp (fun z => z) (eqA a))) s2 ⟨D, us, rfl, .inr rfl, nD, u1, RpA.weak (fun a z => .inl (z.imp (fun z => z) (eqA a))) _ _ u2⟩
end
section
variable {X : Cx} {elt tg iter tg1 iter1 : Expr} {ifs ifs1 : List Expr} {scope : Scope} {own : List (Str × Nat)} {pos : Pos} {fi fi1 : FI} {b b1 : B} {c c1 : M Bool} {f : M EV} {ws ws1 vs1 : List Nat}
theorem tev_lcc (hw : ∀ i ∈ ws, i ∈ own.map (·.2)) (hw1 : ∀ i ∈ ws1, i ∈ vs1) (hv : ∀ i ∈ vs1, i ∈ own.map (·.2)) :
    TEv X.K (tLc2 (cI X.K fi) (cG X.K b ws) (cT X.K c) (cI X.K fi1) (cG X.K b1 ws1) (cT X.K c1) (cE X.K f) (own.map (·.2)) vs1) (eLc2 fi b c fi1 b1 c1 f (own.map (·.2)) vs1) := fun fo ss σ H ev ss' Q s e q => by
  unfold eLc2 at e
  obtain ⟨⟨items, s1⟩, e1, e⟩ := Option.bind_eq_some_iff.mp e
  obtain ⟨⟨rest, sfin⟩, e2, e⟩ := Option.bind_eq_some_iff.mp e
  split at e
  · rename_i hb
    cases e
    exact ⟨fo, ss, items, s1, s, e1, fun J H1 G t1 st1 w g1 D hD => tev_lc2 w hw hw1 hv st1 t1 g1 hD e2 hb q⟩
  · cases e
/-- [elt for tg in iter if .. for tg1 in iter1 if ..] -/
theorem se_lc2 (own : List (Str × Nat)) (vs1 : List Nat) (hc : X.calm = true) (hN : X.N.Nodup) (hi : SI X tg iter fi) (ok : BlkOk X.N X.env.scope scope own) (hw : ∀ i ∈ ws, i ∈ own.map (·.2)) (hw1 : ∀ i ∈ ws1, i ∈ vs1) (hv : ∀ i ∈ vs1, i ∈ own.map (·.2))
    (hg : ∀ (s : Shared) (H : Hp) (C : Addr) (cl : List (Str × Addr)) (fp : List Addr), SG (X.blk s H scope (compEnvC scope cl C X.env) fp) tg b ws) (ht : ∀ (s : Shared) (H : Hp) (C : Addr) (cl : List (Str × Addr)) (fp : List Addr), STs (X.blk s H scope (compEnvC scope cl C X.env) fp) ifs c)
    (hi1 : ∀ (s : Shared) (H : Hp) (C : Addr) (cl : List (Str × Addr)) (fp : List Addr), SI (X.blk s H scope (compEnvC scope cl C X.env) fp) tg1 iter1 fi1)
    (hg1 : ∀ (s : Shared) (H : Hp) (C : Addr) (cl : List (Str × Addr)) (fp : List Addr), SG (X.blk s H scope (compEnvC scope cl C X.env) fp) tg1 b1 ws1) (ht1 : ∀ (s : Shared) (H : Hp) (C : Addr) (cl : List (Str × Addr)) (fp : List Addr), STs (X.blk s H scope (compEnvC scope cl C X.env) fp) ifs1 c1)
    (he : ∀ (s : Shared) (H : Hp) (C : Addr) (cl : List (Str × Addr)) (fp : List Addr), SE (X.blk s H scope (compEnvC scope cl C X.env) fp) elt f) (hs : ∀ x, foldedSetIterable iter X.env x = pure x := by intro _; rfl) (hs1 : ∀ env x, foldedSetIterable iter1 env x = pure x := by intro _ _; rfl) :
    SE X (.ListComp elt [⟨tg, iter, ifs, 0⟩, ⟨tg1, iter1, ifs1, 0⟩] scope pos) (eLc2 fi b c fi1 b1 c1 f (own.map (·.2)) vs1) :=
  .of (pe_lc2 hc hN hi.pi ok hv (fun s H C cl fp => (hg s H C cl fp).pg) (fun s H C cl fp => (ht s H C cl fp).pts) (fun s H C cl fp => (hi1 s H C cl fp).pi) (fun s H C cl fp => (hg1 s H C cl fp).pg) (fun s H C cl fp => (ht1 s H C cl fp).pts) (fun s H C cl fp => (he s H C cl fp).pe) hs hs1) (tev_lcc hw hw1 hv)
/-- y = [elt for .. for ..] -/
theorem ss_setLc2 {i : Nat} {y : Str} {py spos : Pos} (own : List (Str × Nat)) (vs1 : List Nat) (hc : X.calm = true) (hN : X.N.Nodup) (hi : SI X tg iter fi) (ok : BlkOk X.N X.env.scope scope own) (hw : ∀ i ∈ ws, i ∈ own.map (·.2)) (hw1 : ∀ i ∈ ws1, i ∈ vs1) (hv : ∀ i ∈ vs1, i ∈ own.map (·.2))
    (hg : ∀ (s : Shared) (H : Hp) (C : Addr) (cl : List (Str × Addr)) (fp : List Addr), SG (X.blk s H scope (compEnvC scope cl C X.env) fp) tg b ws) (ht : ∀ (s : Shared) (H : Hp) (C : Addr) (cl : List (Str × Addr)) (fp : List Addr), STs (X.blk s H scope (compEnvC scope cl C X.env) fp) ifs c)
    (hi1 : ∀ (s : Shared) (H : Hp) (C : Addr) (cl : List (Str × Addr)) (fp : List Addr), SI (X.blk s H scope (compEnvC scope cl C X.env) fp) tg1 iter1 fi1)
    (hg1 : ∀ (s : Shared) (H : Hp) (C : Addr) (cl : List (Str × Addr)) (fp : List Addr), SG (X.blk s H scope (compEnvC scope cl C X.env) fp) tg1 b1 ws1) (ht1 : ∀ (s : Shared) (H : Hp) (C : Addr) (cl : List (Str × Addr)) (fp : List Addr), STs (X.blk s H scope (compEnvC scope cl C X.env) fp) ifs1 c1)
    (he : ∀ (s : Shared) (H : Hp) (C : Addr) (cl : List (Str × Addr)) (fp : List Addr), SE (X.blk s H scope (compEnvC scope cl C X.env) fp) elt f)
    (hy : X.N[i]? = some y := by rfl) (hyl : X.env.scope.names.lookup y = some .local := by rfl)
    (hsw : swapsWith (.ListComp elt [⟨tg, iter, ifs, 0⟩, ⟨tg1, iter1, ifs1, 0⟩] scope pos) (some (.Name y py)) spos.line X.env = pure true := by exact sw_true rfl rfl rfl (by decide +kernel)) (hs : ∀ x, foldedSetIterable iter X.env x = pure x := by intro _; rfl) (hs1 : ∀ env x, foldedSetIterable iter1 env x = pure x := by intro _ _; rfl) :
    SSt X (.Assign [.Name y py] (.ListComp elt [⟨tg, iter, ifs, 0⟩, ⟨tg1, iter1, ifs1, 0⟩] scope pos) spos) (sSet i (eLc2 fi b c fi1 b1 c1 f (own.map (·.2)) vs1)) [i] :=
  .of (L2.ps_setLc2 hc hN hy hyl hsw hi.pi ok hv (fun s H C cl fp => (hg s H C cl fp).pg) (fun s H C cl fp => (ht s H C cl fp).pts) (fun s H C cl fp => (hi1 s H C cl fp).pi) (fun s H C cl fp => (hg1 s H C cl fp).pg) (fun s H C cl fp => (ht1 s H C cl fp).pts) (fun s H C cl fp => (he s H C cl fp).pe) hs hs1) (set_end (tev_lcc hw hw1 hv))
end
end Ly

/-! LyL: a def that changes its first argument, called on a new list. -/
namespace Ly
open PySem PySem.Spec L2 PyProof.Rows
def eIOt (f : M EV) (G : List PyData → List PyData → Option (Res × List PyData)) (g : M (List EV)) : M EV := fun ss => (f ss).bind fun a => match a.1 with
  | .own cs => (g a.2).bind fun b => (frzs b.1).bind fun ds => (G cs ds).bind fun r => some (r.1.ev, b.2)
  | _ => none
theorem StR.fwrite2 {K : PySem.W.Frag} {fo fo2 : Av} {ss : SS} {σ : L2.St} {H H' : Hp} {D : Addr} (s : StR K fo ss σ H) (hD : fo D) (f : Fr (fun a => a = D) H H') (h : ∀ a, fo2 a → AvS fo ss σ a ∨ H a = none) (al : ∀ a, fo2 a → H' a ≠ none) (ap : ∀ a, fo2 a → ¬ SlotA ss σ a) : StR K fo2 ss σ H' where
  len := s.len
  dat := fun i d e => let ⟨v, e1, r⟩ := s.dat i d e; ⟨v, e1, r.to f (fun a z => by subst z; exact .inl hD) (fun a z => z.elim (h a) (fun q => .inl (.inr q)))⟩
  lst := fun i ds e => let ⟨p, vs, e1, q, r⟩ := s.lst i ds e; ⟨p, vs, e1, f.keep p _ (fun z => s.apart D hD (by rw [← z]; exact ⟨i, ds, e, e1⟩)) q, r.to f (fun a z => by subst z; exact .inl hD) (fun a z => z.elim (h a) (fun q => .inl (.inr q)))⟩
  dis := s.dis
  alive := al
  apart := ap
section
variable {X : Cx} {e : Expr} {es : List Expr} {f : M EV} {g : M (List EV)} {x : Str} {p pos : Pos} {k n : Nat}
theorem se_ioT {G : List PyData → List PyData → Option (Res × List PyData)} (F : Fn X.prog X.w X.K X.mg X.base k x (spIO X.K n G)) (hr : Room k X.A) (hn : es.length = n) (he0 : SE X e f) (ha : SA X es g) (hlen : ∀ ss a s1, g ss = some (a, s1) → a.length = es.length)
    (hg : Gl X x := by rfl) (hdb : (x == ("__debug__" : Str)) = false := by decide)
    (he : starEach (e :: es) X.env = (false, eval e X.env) :: starEach es X.env := by rfl) (hpl : (backTo pos (starEach es X.env)).any (·.1) = false := by rfl) :
    SE X (.Call (.Name x p) (e :: es) [] pos) (eIOt f G g) := by
  obtain ⟨fa, fd, ps, h1, h2, h3, h4⟩ := F
  refine .of (pe_call h2 hr hg h1 h3 h4 .nil pass0 (pa_cons he0.pe ha.pa he) hdb he hpl) fun fo ss σ H ev ss' Q s e q => ?_
  unfold eIOt at e
  obtain ⟨⟨ea, s1⟩, e1, e⟩ := Option.bind_eq_some_iff.mp e
  dsimp only at e
  split at e
  · rename_i cs
    obtain ⟨⟨evs, s2⟩, e2, e⟩ := Option.bind_eq_some_iff.mp e
    obtain ⟨ds, e3, e⟩ := Option.bind_eq_some_iff.mp e
    obtain ⟨⟨res, cs'⟩, e4, e⟩ := Option.bind_eq_some_iff.mp e
    cases e
    refine ⟨fo, ss, _, s1, s, e1, fun fo1 u H1 t1 st1 r1 => ⟨fo1, s1, evs, s2, st1, e2, fun fo2 vs H2 t2 st2 r2 => ?_⟩⟩
    have t12 := t1.trans st1 t2
    obtain ⟨t, ts0, eu, ht0, hn0, _, _⟩ := (show EVr X.K fo fo1 s1 σ H1 u (.own cs) from r1)
    obtain ⟨t', ts, eu', ht2, hn2, hH, rt⟩ := (show EVr X.K fo fo2 s2 σ H2 u (.own cs) from EVr.stay t2 st1 r1)
    rw [eu] at eu'
    cases eu'
    have rp := r2.fz st2 t2.fm e3
    have s0 := st2.less t12.fm
    have ln : ds.length = n := by
      rw [← rp.length, ← hn, ← hlen _ _ _ e2]
      exact r2.length
    have np : ¬ AvS fo s2 σ t := fun z => z.elim hn0 (st2.apart t ht2)
    have sT : StR X.K (fun a => fo a ∨ a = t) s2 σ H2 := st2.less fun a z => z.elim (t12.fm a) (fun z => by subst z; exact ht2)
    refine ⟨AvS fo s2 σ, t, ts, vs, cs, ds, res, cs', by rw [List.append_nil, eu], ln, e4, s0.avthere, np, hH, RpA.weak (fun a z => .inl ?_) _ _ rt, RpA.weak (fun a z => .inl ?_) _ _ rp, fun v H' ts' fr h5 rz => ?_⟩
    · rcases z with (z | z) | z
      · exact .inl (t12.fm a z)
      · exact .inr z
      · subst z
        exact .inl ht2
    · rcases z with (z | z) | z
      · exact .inl (t1.fm a z)
      · exact .inr z
      · subst z
        exact .inl ht0
    · have ht : AvS fo ss σ t ∨ H t = none := t1.av t (.inl ht0)
      have frA : Fr (SlotA ss σ) H H' := ⟨fun a o nA ea => fr.keep a o (fun z => by
        subst z
        rcases ht with (z | z) | z
        · exact hn0 z
        · exact nA z
        · rw [ea] at z
          cases z) (t12.fr.keep a o nA ea), fun a h => fr.dom a (t12.fr.dom a h)⟩
      have sT' : StR X.K (fun a => fo a ∨ a = t) s2 σ H' := sT.fwrite (.inr rfl) fr
      have sE := sT'.less (fo := fo) fun a z => .inl z
      cases res with
      | dat d =>
        obtain ⟨rz, _⟩ := rz
        exact q fo v H' ⟨frA, fun _ z => z, t12.less.av⟩ sE (Rp.weak (fun a z => .inl (.inl z)) _ _ rz)
      | own es' =>
        obtain ⟨p', us, rfl, p1, p2, rz, _⟩ := rz
        have nA : ¬ AvS fo s2 σ p' := fun z => s0.avthere p' z p1
        refine q (fun a => fo a ∨ a = p') _ H' ⟨frA, fun _ z => .inl z, fun a z => ?_⟩ (sT.fwrite2 (.inr rfl) fr (fun a z => ?_) (fun a z => ?_) (fun a z => ?_)) ⟨p', us, rfl, .inr rfl, fun z => nA (.inl z), p2, RpA.weak (fun a z => .inl ?_) _ _ rz⟩
        · rcases z with (z | z) | z
          · exact t12.less.av a (.inl z)
          · subst z
            refine .inr ?_
            cases qq : H a with
            | none => rfl
            | some o => exact absurd p1 (t12.fr.dom a (by rw [qq]; exact fun w => nomatch w))
          · exact t12.less.av a (.inr z)
        · rcases z with z | z
          · exact .inl (.inl (.inl z))
          · subst z
            exact .inr p1
        · rcases z with z | z
          · exact sE.alive a z
          · subst z
            rw [p2]
            exact fun w => nomatch w
        · rcases z with z | z
          · exact sE.apart a z
          · subst z
            exact fun w => nA (.inr w)
        · rcases z with (z | z) | z
          · exact .inl (.inl (.inl z))
          · exact .inr z
          · exact .inl (.inl (.inr z))
  · cases e
end
end Ly

/-! LyM: what loops give. -/
namespace Ly
open PySem PySem.Spec L2
abbrev N (n : Nat) : PyData := .int (n : Int)
abbrev T (ds : List PyData) : PyData := .tuple ds
theorem lcLoop_map {α : Type} {b : B} {c : M Bool} {f : M EV} {vs : List Nat} {ss : SS} (enc : α → PyData) (p : α → Bool) (h : α → PyData) : ∀ items : List α,
    (∀ a ∈ items, ∃ s1 s2, b (enc a) ss = some s1 ∧ c s1 = some (p a, s2) ∧ (p a = false → wipeS s2 vs = ss) ∧ (p a = true → ∃ e s3, f s2 = some (e, s3) ∧ frz e = some (h a) ∧ wipeS s3 vs = ss)) →
    lcLoop b c f vs (items.map enc) ss = some ((items.filter p).map h, ss)
  | [], _ => rfl
  | a :: items, H => by
    obtain ⟨s1, s2, h1, h2, h3, h4⟩ := H a List.mem_cons_self
    have ih := lcLoop_map enc p h items fun a m => H a (List.mem_cons_of_mem _ m)
    rw [List.map_cons]
    unfold lcLoop
    rw [h1, Option.bind_some, h2, Option.bind_some]
    cases hp : p a with
    | false =>
      rw [List.filter_cons_of_neg (by rw [hp]; exact Bool.false_ne_true), h3 hp]
      exact ih
    | true =>
      obtain ⟨e, s3, g1, g2, g3⟩ := h4 hp
      rw [List.filter_cons_of_pos hp]
      show ((f s2).bind fun e => (frz e.1).bind fun y => (lcLoop b c f vs (items.map enc) (wipeS e.2 vs)).bind fun r => some (y :: r.1, r.2)) = _
      rw [g1, Option.bind_some, g2, Option.bind_some, g3, ih]
      rfl
theorem lcLoop_all {α : Type} {b : B} {f : M EV} {vs : List Nat} {ss : SS} (enc : α → PyData) (h : α → PyData) (items : List α)
    (H : ∀ a ∈ items, ∃ s1, b (enc a) ss = some s1 ∧ ∃ e s3, f s1 = some (e, s3) ∧ frz e = some (h a) ∧ wipeS s3 vs = ss) :
    lcLoop b mYes f vs (items.map enc) ss = some (items.map h, ss) := by
  have := lcLoop_map (b := b) (c := mYes) (f := f) (vs := vs) (ss := ss) enc (fun _ => true) h items fun a m => by
    obtain ⟨s1, h1, h2⟩ := H a m
    exact ⟨s1, s1, h1, rfl, ⟨fun z => absurd z Bool.noConfusion, fun _ => h2⟩⟩
  rw [this, List.filter_eq_self.mpr fun _ _ => rfl]
theorem lcLoop2_all {α : Type} {b : B} {fi1 : FI} {b1 : B} {c1 : M Bool} {f : M EV} {vs vs1 : List Nat} {ss : SS} (enc : α → PyData) (h : α → List PyData) : ∀ items : List α,
    (∀ a ∈ items, ∃ s1 its s3 s4, b (enc a) ss = some s1 ∧ fi1 s1 = some (its, s3) ∧ lcLoop b1 c1 f vs1 its (wipeS s3 vs1) = some (h a, s4) ∧ wipeS s4 vs = ss) →
    lcLoop2 b mYes fi1 b1 c1 f vs vs1 (items.map enc) ss = some ((items.map h).flatten, ss)
  | [], _ => rfl
  | a :: items, H => by
    obtain ⟨s1, its, s3, s4, h1, h2, h3, h4⟩ := H a List.mem_cons_self
    have ih := lcLoop2_all enc h items fun a m => H a (List.mem_cons_of_mem _ m)
    rw [List.map_cons]
    unfold lcLoop2
    rw [h1, Option.bind_some]
    show ((fi1 s1).bind fun p => (lcLoop b1 c1 f vs1 p.1 (wipeS p.2 vs1)).bind fun r => (lcLoop2 b mYes fi1 b1 c1 f vs vs1 (items.map enc) (wipeS r.2 vs)).bind fun rr => some (r.1 ++ rr.1, rr.2)) = _
    rw [h2, Option.bind_some, h3, Option.bind_some, h4, ih]
    rfl
/-- one turn goes on -/
def Turn (b : B) (body : FS) (d : PyData) (s s2 : SS) : Prop := ∃ s1, b d s = some s1 ∧ (body s1 = some (.nx s2) ∨ body s1 = some (.ct s2))
theorem loopS_inv {b : B} {body : FS} (R : Nat → SS → Prop) : ∀ (items : List PyData) (k : Nat) (s : SS), R k s → (∀ i d s, items[i]? = some d → R (k + i) s → ∃ s2, Turn b body d s s2 ∧ R (k + i + 1) s2) → ∃ s2, loopS b body items s = some (.nx s2) ∧ R (k + items.length) s2
  | [], k, s, h, _ => ⟨s, rfl, h⟩
  | d :: ds, k, s, h, H => by
    obtain ⟨s2, ⟨s1, h1, h2⟩, h3⟩ := H 0 d s rfl h
    obtain ⟨s3, h4, h5⟩ := loopS_inv R ds (k + 1) s2 h3 fun i d' s' e r => by
      have := H (i + 1) d' s' (by simpa using e) (by rw [show k + (i + 1) = k + 1 + i by omega]; exact r)
      rw [show k + (i + 1) + 1 = k + 1 + i + 1 by omega] at this
      exact this
    refine ⟨s3, ?_, by rw [List.length_cons, show k + (ds.length + 1) = k + 1 + ds.length by omega]; exact h5⟩
    unfold loopS
    rw [h1, Option.bind_some]
    rcases h2 with h2 | h2 <;> (rw [h2, Option.bind_some]; exact h4)
/-- the turn k ends the def -/
theorem loopS_rt {b : B} {body : FS} (R : SS → Prop) {ev : EV} (R2 : SS → Prop) : ∀ (items : List PyData) (k : Nat) (d : PyData) (s : SS), items[k]? = some d → R s → (∀ j d' s, j < k → items[j]? = some d' → R s → ∃ s2, Turn b body d' s s2 ∧ R s2) →
    (∀ s, R s → ∃ s1 s2, b d s = some s1 ∧ body s1 = some (.rt ev s2) ∧ R2 s2) → ∃ s2, loopS b body items s = some (.rt ev s2) ∧ R2 s2
  | [], _, _, _, e, _, _, _ => by simp at e
  | d0 :: ds, 0, d, s, e, h, _, H => by
    have e1 : d0 = d := by simpa using e
    subst e1
    obtain ⟨s1, s2, h1, h2, h3⟩ := H s h
    refine ⟨s2, ?_, h3⟩
    unfold loopS
    rw [h1, Option.bind_some, h2]
    rfl
  | d0 :: ds, k + 1, d, s, e, h, G, H => by
    obtain ⟨s2, ⟨s1, h1, h2⟩, h3⟩ := G 0 d0 s (Nat.succ_pos _) rfl h
    obtain ⟨s3, h4, h5⟩ := loopS_rt R R2 ds k d s2 (by simpa using e) h3 (fun j d' s' hj e' r => G (j + 1) d' s' (Nat.succ_lt_succ hj) (by simpa using e') r) H
    refine ⟨s3, ?_, h5⟩
    unfold loopS
    rw [h1, Option.bind_some]
    rcases h2 with h2 | h2 <;> (rw [h2, Option.bind_some]; exact h4)
theorem enumD_map {α : Type} (enc : α → PyData) : ∀ (xs : List α) (k : Nat), enumD k (xs.map enc) = (xs.zipIdx k).map fun q => T [N q.2, enc q.1]
  | [], _ => rfl
  | x :: xs, k => by
    rw [List.map_cons, List.zipIdx_cons, List.map_cons]
    show T [N k, enc x] :: enumD (k + 1) (xs.map enc) = _
    rw [enumD_map enc xs (k + 1)]
theorem rngD_map (n : Nat) : rngD 0 n = (List.range n).map N := by
  unfold rngD
  refine List.map_congr_left fun i _ => ?_
  rw [Int.zero_add]
theorem rngD_from (a n : Nat) : rngD (a : Int) n = (List.range n).map fun i => N (a + i) := by
  unfold rngD
  refine List.map_congr_left fun i _ => ?_
  rw [← Int.natCast_add]
theorem runP_rt {n k : Nat} {body : FS} {ds : List PyData} {ev : EV} {s : SS} {r : Res} (hl : ds.length = k) (h : body (ss0 n ds) = some (.rt ev s)) (hr : toRes ev = some r) : runP n k body ds = some r := by
  unfold runP
  rw [if_pos hl, h, Option.bind_some]
  exact hr
theorem runP_nx {n k : Nat} {body : FS} {ds : List PyData} {s : SS} (hl : ds.length = k) (h : body (ss0 n ds) = some (.nx s)) : runP n k body ds = some (.dat .none) := by
  unfold runP
  rw [if_pos hl, h]
  rfl
theorem runIO_rt {n k : Nat} {body : FS} {cs cs' ds : List PyData} {ev : EV} {s : SS} {r : Res} (hl : ds.length = k) (h : body (.lst cs :: ss0 (n - 1) ds) = some (.rt ev (.lst cs' :: s))) (hr : toRes ev = some r) : runIO n k body cs ds = some (r, cs') := by
  unfold runIO
  rw [if_pos hl, h, Option.bind_some]
  show (toRes ev).bind _ = _
  rw [hr]
  rfl
theorem sSeq_nx {f g : FS} {s s1 : SS} (h : f s = some (.nx s1)) : sSeq f g s = g s1 := by
  unfold sSeq
  rw [h]
  rfl
theorem sSeq_rt {f g : FS} {s s1 : SS} {ev : EV} (h : f s = some (.rt ev s1)) : sSeq f g s = some (.rt ev s1) := by
  unfold sSeq
  rw [h]
  rfl
theorem sIf_y {c : M Bool} {f g : FS} {s s1 : SS} (h : c s = some (true, s1)) : sIf c f g s = f s1 := by
  unfold sIf
  rw [h]
  rfl
theorem sIf_n {c : M Bool} {f g : FS} {s s1 : SS} (h : c s = some (false, s1)) : sIf c f g s = g s1 := by
  unfold sIf
  rw [h]
  rfl
theorem sFor_of {fi : FI} {b : B} {body : FS} {s s1 : SS} {items : List PyData} (h : fi s = some (items, s1)) : sFor fi b body s = loopS b body items s1 := by
  unfold sFor
  rw [h]
  rfl
theorem eLc_of {fi : FI} {b : B} {c : M Bool} {f : M EV} {vs : List Nat} {s s1 s2 : SS} {items r : List PyData} (h : fi s = some (items, s1)) (hl : lcLoop b c f vs items (wipeS s1 vs) = some (r, s2)) (hb : r.length ≤ big) : eLc fi b c f vs s = some (.own r, wipeS s2 vs) := by
  unfold eLc
  rw [h, Option.bind_some, hl, Option.bind_some, if_pos hb]
theorem eLc2_of {fi fi1 : FI} {b b1 : B} {c c1 : M Bool} {f : M EV} {vs vs1 : List Nat} {s s1 s2 : SS} {items r : List PyData} (h : fi s = some (items, s1)) (hl : lcLoop2 b c fi1 b1 c1 f vs vs1 items (wipeS s1 vs) = some (r, s2)) (hb : r.length ≤ big) : eLc2 fi b c fi1 b1 c1 f vs vs1 s = some (.own r, wipeS s2 vs) := by
  unfold eLc2
  rw [h, Option.bind_some, hl, Option.bind_some, if_pos hb]
theorem eqv_nat (a b : Nat) : PyData.eqv (N a) (N b) = decide (a = b) := by
  show ((a : Int) == (b : Int)) = _
  rw [Bool.eq_iff_iff, beq_iff_eq, decide_eq_true_eq]
  omega
theorem eqD_nat (a b : Nat) : eqD (N a) (N b) = some (.dat (.bool (decide (a = b)))) := by
  rw [← eqv_nat]
  rfl
theorem neD_nat (a b : Nat) : neD (N a) (N b) = some (.dat (.bool (!decide (a = b)))) := by
  rw [← eqv_nat]
  rfl
theorem eqD_int (a b : Int) : eqD (.int a) (.int b) = some (.dat (.bool (decide (a = b)))) := by
  have : (a == b) = decide (a = b) := by rw [Bool.eq_iff_iff, beq_iff_eq, decide_eq_true_eq]
  rw [← this]
  rfl
theorem neD_int (a b : Int) : neD (.int a) (.int b) = some (.dat (.bool (!decide (a = b)))) := by
  have : (a == b) = decide (a = b) := by rw [Bool.eq_iff_iff, beq_iff_eq, decide_eq_true_eq]
  rw [← this]
  rfl
theorem ltD_nat (a b : Nat) : ltD (N a) (N b) = some (.dat (.bool (decide (a < b)))) := by
  show some (Res.dat (.bool (decide ((a : Int) < b)))) = _
  rw [show decide ((a : Int) < b) = decide (a < b) by rw [Bool.eq_iff_iff, decide_eq_true_eq, decide_eq_true_eq]; omega]
theorem leD_nat (a b : Nat) : leD (N a) (N b) = some (.dat (.bool (decide (a ≤ b)))) := by
  show some (Res.dat (.bool (decide ((a : Int) ≤ b)))) = _
  rw [show decide ((a : Int) ≤ b) = decide (a ≤ b) by rw [Bool.eq_iff_iff, decide_eq_true_eq, decide_eq_true_eq]; omega]
theorem gtD_nat (a b : Nat) : gtD (N a) (N b) = some (.dat (.bool (decide (b < a)))) := by
  show some (Res.dat (.bool (decide ((b : Int) < a)))) = _
  rw [show decide ((b : Int) < a) = decide (b < a) by rw [Bool.eq_iff_iff, decide_eq_true_eq, decide_eq_true_eq]; omega]
theorem addD_nat (a b : Nat) : addD (N a) (N b) = some (.dat (N (a + b))) := by
  show some (Res.dat (.int ((a : Int) + b))) = _
  rw [← Int.natCast_add]
theorem subD_nat {a b : Nat} (h : b ≤ a) : subD (N a) (N b) = some (.dat (N (a - b))) := by
  show some (Res.dat (.int ((a : Int) - b))) = _
  rw [← Int.ofNat_sub h]
theorem atI_nat {α : Type} {xs : List α} {i : Nat} {x : α} (h : xs[i]? = some x) : atI xs (i : Int) = some x := by
  have hi : i < xs.length := (List.getElem?_eq_some_iff.mp h).1
  unfold atI ixN
  rw [if_pos (Int.natCast_nonneg i), if_pos (by omega)]
  simpa using h
theorem ixD_tup {xs : List PyData} {i : Nat} {x : PyData} (h : xs[i]? = some x) : ixD (T xs) (N i) = some (.dat x) := by
  show (atI xs (i : Int)).map Res.dat = _
  rw [atI_nat h]
  rfl
theorem ixD_lst {xs : List PyData} {i : Nat} {x : PyData} (h : xs[i]? = some x) : ixD (.list xs) (N i) = some (.dat x) := by
  show (atI xs (i : Int)).map Res.dat = _
  rw [atI_nat h]
  rfl
end Ly

namespace Hd
open PySem PySem.Spec PyProof.Rows L2
def top (i : Nat) : Stmt := PySem.Challenge.pw_stillread_k83_whole_stretches_borne.main.body.getD i (.Pass ⟨0, 0, 0, 0⟩)
abbrev s_is_whole : Stmt := top 4
abbrev s_is_within : Stmt := top 5
abbrev s_is_lot : Stmt := top 10
abbrev s_are_lots : Stmt := top 11
abbrev s_require_lots : Stmt := top 12
abbrev s_is_order : Stmt := top 13
abbrev s_require_order : Stmt := top 14
abbrev s_frames_in : Stmt := top 15
abbrev s_lost_by : Stmt := top 16
abbrev s_strand_length : Stmt := top 17
abbrev s_strands_in : Stmt := top 18
abbrev s_weak_in : Stmt := top 19
abbrev s_borne_in : Stmt := top 20
abbrev s_strands : Stmt := top 21
abbrev s_borne : Stmt := top 22
abbrev s_weak_stretch : Stmt := top 23
abbrev s__law_tray : Stmt := top 25
abbrev s__law_pluck : Stmt := top 26
abbrev s__law_some : Stmt := top 27
abbrev s__law_lots : Stmt := top 28
abbrev s__law_order : Stmt := top 29
abbrev s__law_short : Stmt := top 30
abbrev s__law_weak : Stmt := top 31
abbrev s__law_strands : Stmt := top 32
abbrev s__law_by_strands : Stmt := top 33
abbrev s__law_right : Stmt := top 34
abbrev s_law : Stmt := top 35
def d_is_whole : He.DefD := ⟨("is_whole", none), "is_whole", "is_whole", defArgs s_is_whole, defBody s_is_whole, defScope s_is_whole, [], []⟩
def d_is_within : He.DefD := ⟨("is_within", none), "is_within", "is_within", defArgs s_is_within, defBody s_is_within, defScope s_is_within, [], []⟩
def d_is_lot : He.DefD := ⟨("is_lot", none), "is_lot", "is_lot", defArgs s_is_lot, defBody s_is_lot, defScope s_is_lot, [], []⟩
def d_are_lots : He.DefD := ⟨("are_lots", none), "are_lots", "are_lots", defArgs s_are_lots, defBody s_are_lots, defScope s_are_lots, [], []⟩
def d_require_lots : He.DefD := ⟨("require_lots", none), "require_lots", "require_lots", defArgs s_require_lots, defBody s_require_lots, defScope s_require_lots, [], []⟩
def d_is_order : He.DefD := ⟨("is_order", none), "is_order", "is_order", defArgs s_is_order, defBody s_is_order, defScope s_is_order, [], []⟩
def d_require_order : He.DefD := ⟨("require_order", none), "require_order", "require_order", defArgs s_require_order, defBody s_require_order, defScope s_require_order, [], []⟩
def d_frames_in : He.DefD := ⟨("frames_in", none), "frames_in", "frames_in", defArgs s_frames_in, defBody s_frames_in, defScope s_frames_in, [], []⟩
def d_lost_by : He.DefD := ⟨("lost_by", none), "lost_by", "lost_by", defArgs s_lost_by, defBody s_lost_by, defScope s_lost_by, [], []⟩
def d_strand_length : He.DefD := ⟨("strand_length", none), "strand_length", "strand_length", defArgs s_strand_length, defBody s_strand_length, defScope s_strand_length, [], []⟩
def d_strands_in : He.DefD := ⟨("strands_in", none), "strands_in", "strands_in", defArgs s_strands_in, defBody s_strands_in, defScope s_strands_in, [], []⟩
def d_weak_in : He.DefD := ⟨("weak_in", none), "weak_in", "weak_in", defArgs s_weak_in, defBody s_weak_in, defScope s_weak_in, [], []⟩
def d_borne_in : He.DefD := ⟨("borne_in", none), "borne_in", "borne_in", defArgs s_borne_in, defBody s_borne_in, defScope s_borne_in, [], []⟩
def d_strands : He.DefD := ⟨("strands", none), "strands", "strands", defArgs s_strands, defBody s_strands, defScope s_strands, [], []⟩
def d_borne : He.DefD := ⟨("borne", none), "borne", "borne", defArgs s_borne, defBody s_borne, defScope s_borne, [], []⟩
def d_weak_stretch : He.DefD := ⟨("weak_stretch", none), "weak_stretch", "weak_stretch", defArgs s_weak_stretch, defBody s_weak_stretch, defScope s_weak_stretch, [], []⟩
def d__law_tray : He.DefD := ⟨("_law_tray", none), "_law_tray", "_law_tray", defArgs s__law_tray, defBody s__law_tray, defScope s__law_tray, [], []⟩
def d__law_pluck : He.DefD := ⟨("_law_pluck", none), "_law_pluck", "_law_pluck", defArgs s__law_pluck, defBody s__law_pluck, defScope s__law_pluck, [], []⟩
def d__law_some : He.DefD := ⟨("_law_some", none), "_law_some", "_law_some", defArgs s__law_some, defBody s__law_some, defScope s__law_some, [], []⟩
def d__law_lots : He.DefD := ⟨("_law_lots", none), "_law_lots", "_law_lots", defArgs s__law_lots, defBody s__law_lots, defScope s__law_lots, [], []⟩
def d__law_order : He.DefD := ⟨("_law_order", none), "_law_order", "_law_order", defArgs s__law_order, defBody s__law_order, defScope s__law_order, [], []⟩
def d__law_short : He.DefD := ⟨("_law_short", none), "_law_short", "_law_short", defArgs s__law_short, defBody s__law_short, defScope s__law_short, [], []⟩
def d__law_weak : He.DefD := ⟨("_law_weak", none), "_law_weak", "_law_weak", defArgs s__law_weak, defBody s__law_weak, defScope s__law_weak, [], []⟩
def d__law_strands : He.DefD := ⟨("_law_strands", none), "_law_strands", "_law_strands", defArgs s__law_strands, defBody s__law_strands, defScope s__law_strands, [], []⟩
def d__law_by_strands : He.DefD := ⟨("_law_by_strands", none), "_law_by_strands", "_law_by_strands", defArgs s__law_by_strands, defBody s__law_by_strands, defScope s__law_by_strands, [], []⟩
def d__law_right : He.DefD := ⟨("_law_right", none), "_law_right", "_law_right", defArgs s__law_right, defBody s__law_right, defScope s__law_right, [], []⟩
def d_law : He.DefD := ⟨("law", none), "law", "law", defArgs s_law, defBody s_law, defScope s_law, [], []⟩
def fn : List He.DefD := [d_is_whole, d_is_within, d_is_lot, d_are_lots, d_require_lots, d_is_order, d_require_order, d_frames_in, d_lost_by, d_strand_length, d_strands_in, d_weak_in, d_borne_in, d_strands, d_borne, d_weak_stretch, d__law_tray, d__law_pluck, d__law_some, d__law_lots, d__law_order, d__law_short, d__law_weak, d__law_strands, d__law_by_strands, d__law_right, d_law]
def fa : List He.Fa := [.glo "is_whole", .glo "is_within", .glo "is_lot", .glo "are_lots", .glo "require_lots", .glo "is_order", .glo "require_order", .glo "frames_in", .glo "lost_by", .glo "strand_length", .glo "strands_in", .glo "weak_in", .glo "borne_in", .glo "strands", .glo "borne", .glo "weak_stretch", .glo "_law_tray", .glo "_law_pluck", .glo "_law_some", .glo "_law_lots", .glo "_law_order", .glo "_law_short", .glo "_law_weak", .glo "_law_strands", .glo "_law_by_strands", .glo "_law_right", .glo "law", .free "ValueError", .free "abs", .free "all", .free "bool", .free "enumerate", .free "int", .free "isinstance", .free "len", .free "list", .free "max", .free "min", .free "range", .free "sum", .free "tuple", .free "zip", .int "MOST_LOTS" 12, .int "MOST_FRAMES" 16, .int "PAIR" 2]
def names : List PySem.Str := (["StillError", "InvalidOperation", "is_whole", "is_within", "MOST_LOTS", "MOST_FRAMES", "PAIR", "is_lot", "are_lots", "require_lots", "is_order", "require_order", "frames_in", "lost_by", "strand_length", "strands_in", "weak_in", "borne_in", "strands", "borne", "weak_stretch", "_law_tray", "_law_pluck", "_law_some", "_law_lots", "_law_order", "_law_short", "_law_weak", "_law_strands", "_law_by_strands"] : List PySem.Str) ++ (["_law_right"] : List PySem.Str)
abbrev R : PySem.W.OpenRow := PySem.W.OpenLaw.row PySem.Challenge.rw_stillread_k83_whole_stretches_borne
abbrev hk : PySem.W.Hook := He.hookD 4 fa fn
def ob (s : PySem.W.SharedT) : He.AlD := He.obsDG 4 fa fn (HandSHeadRun.getT s)
theorem ob_eq (s : PySem.W.SharedT) : ob s = hk.obs s.abs := He.obsDG_eq (HandSHeadRun.getT_eq s)
theorem run (w : World) : HandSHeadRun.RunEq R (PySem.W.view R.prog [35]) hk ob 4000 names w := by
  intro os
  kernel_rfl
end Hd

namespace Wk
open PySem PySem.Spec L2 Ly PyProof.Rows Hd
structure Md (mg : Str → Option Value) : Prop where
  b_ValueError : mg "ValueError" = none
  b_abs : mg "abs" = none
  b_all : mg "all" = none
  b_bool : mg "bool" = none
  b_enumerate : mg "enumerate" = none
  b_int : mg "int" = none
  b_isinstance : mg "isinstance" = none
  b_len : mg "len" = none
  b_list : mg "list" = none
  b_max : mg "max" = none
  b_min : mg "min" = none
  b_range : mg "range" = none
  b_sum : mg "sum" = none
  b_tuple : mg "tuple" = none
  b_zip : mg "zip" = none
  c_MOST_LOTS : ∃ t, mg "MOST_LOTS" = some (.int 12 t)
  c_MOST_FRAMES : ∃ t, mg "MOST_FRAMES" = some (.int 16 t)
  c_PAIR : ∃ t, mg "PAIR" = some (.int 2 t)
theorem bt_abs : bootBuiltins "abs" = some (.builtin "abs") := by decide +kernel
theorem bt_all : bootBuiltins "all" = some (.builtin "all") := by decide +kernel
theorem bt_bool : bootBuiltins "bool" = some (.type "bool") := by decide +kernel
theorem bt_int : bootBuiltins "int" = some (.type "int") := by decide +kernel
theorem bt_len : bootBuiltins "len" = some (.builtin "len") := by decide +kernel
theorem bt_list : bootBuiltins "list" = some (.type "list") := by decide +kernel
theorem bt_max : bootBuiltins "max" = some (.builtin "max") := by decide +kernel
theorem bt_min : bootBuiltins "min" = some (.builtin "min") := by decide +kernel
theorem bt_sum : bootBuiltins "sum" = some (.builtin "sum") := by decide +kernel
theorem bt_tuple : bootBuiltins "tuple" = some (.type "tuple") := by decide +kernel
section
variable {P : Program} {w : World} {K : PySem.W.Frag} {mg : Str → Option Value} {base : Heap} {fA : Addr} {fd : FuncData}

def n_is_whole : List Str := ["value"]
theorem nd_is_whole : n_is_whole.Nodup := by decide +kernel
def m_is_whole : FS := sRet (eAnd (eUn (isiD "int") (eV 0)) (eNot (eUn (isiD "bool") (eV 0))))
def g_is_whole : List PyData → Option Res := runP 1 1 m_is_whole
theorem w_is_whole (md : Md mg) (F : FunD K "is_whole" "is_whole" (defArgs s_is_whole) (defBody s_is_whole) (defScope s_is_whole) [] [] fA fd) (hm : mg "is_whole" = some (.ref fA)) : Fn P w K mg base 1 "is_whole" (spP K 1 g_is_whole) :=
  fn_p (N := n_is_whole) (ps := ["value"]) (fb := m_is_whole) F ⟨rfl, rfl, rfl, nd_is_whole, rfl, by decide +kernel, by decide +kernel⟩ hm (F.bindsN fun _ _ _ _ _ _ us hl => match us, hl with | [_], _ => rfl) (fun cdv A outer s H E hr =>
    sss_one (ss_ret (se_and (se_isi md.b_isinstance md.b_int bt_int (se_v 0)) (se_one (se_not (se_isi md.b_isinstance md.b_bool bt_bool (se_v 0)))))))
def n_frames_in : List Str := ["lots", "lot"]
theorem nd_frames_in : n_frames_in.Nodup := by decide +kernel
def m_frames_in : FS := sRet (eCB sumD (aCons (eLc (iD (eFz 0)) (bN 1) (mYes) (eOp2 ixD (eV 1) (eC (.int 0))) [1]) (aNil)))
def g_frames_in : List PyData → Option Res := runP 2 1 m_frames_in
theorem w_frames_in (md : Md mg) (F : FunD K "frames_in" "frames_in" (defArgs s_frames_in) (defBody s_frames_in) (defScope s_frames_in) [] [] fA fd) (hm : mg "frames_in" = some (.ref fA)) : Fn P w K mg base 1 "frames_in" (spP K 1 g_frames_in) :=
  fn_p (N := n_frames_in) (ps := ["lots"]) (fb := m_frames_in) F ⟨rfl, rfl, rfl, nd_frames_in, rfl, by decide +kernel, by decide +kernel⟩ hm (F.bindsN fun _ _ _ _ _ _ us hl => match us, hl with | [_], _ => rfl) (fun cdv A outer s H E hr =>
    sss_one (ss_ret (se_cb (c_sum rfl) csp md.b_sum bt_sum (sa_cons (se_lc [("lot", 1)] rfl nd_frames_in (si_d (se_fz 0)) (blkOk_by (by first | (show blkC n_frames_in (defScope s_frames_in) _ _ = true; decide +kernel) | kernel_rfl)) (by decide) (fun _ _ _ _ _ => sg_n 1 nd_frames_in) (fun _ _ _ _ _ => sts_nil) (fun _ _ _ _ _ => se_ix x_ix opsp (se_v 1) (se_int) (by intro _ _; rfl))) (sa_nil)))))
def n_lost_by : List Str := ["lot"]
theorem nd_lost_by : n_lost_by.Nodup := by decide +kernel
def m_lost_by : FS := sRet (eOp2 subD (eOp2 ixD (eV 0) (eC (.int 0))) (eOp2 ixD (eV 0) (eC (.int 1))))
def g_lost_by : List PyData → Option Res := runP 1 1 m_lost_by
theorem w_lost_by (md : Md mg) (F : FunD K "lost_by" "lost_by" (defArgs s_lost_by) (defBody s_lost_by) (defScope s_lost_by) [] [] fA fd) (hm : mg "lost_by" = some (.ref fA)) : Fn P w K mg base 1 "lost_by" (spP K 1 g_lost_by) :=
  fn_p (N := n_lost_by) (ps := ["lot"]) (fb := m_lost_by) F ⟨rfl, rfl, rfl, nd_lost_by, rfl, by decide +kernel, by decide +kernel⟩ hm (F.bindsN fun _ _ _ _ _ _ us hl => match us, hl with | [_], _ => rfl) (fun cdv A outer s H E hr =>
    sss_one (ss_ret (se_op2 o_sub opsp (se_ix x_ix opsp (se_v 0) (se_int) (by intro _ _; rfl)) (se_ix x_ix opsp (se_v 0) (se_int) (by intro _ _; rfl)))))
def n__law_tray : List Str := ["_law_script", "_law_spot", "_law_cell", "_law_great"]
theorem nd__law_tray : n__law_tray.Nodup := by decide +kernel
def m__law_tray : FS := sSeq (sSet 2 (eIf (mT (eOp2 ltD (eV 1) (eCB lenD (aCons (eV 0) (aNil)))) boolD) (eCB intD (aCons (eOp2 ixD (eV 0) (eV 1)) (aNil))) (eOp2 addD (eOp2 mulD (eC (.int 271)) (eV 1)) (eC (.int 73))))) (sSeq (sSet 3 (eOp2 modD (eCB intD (aCons (eCB absD (aCons (eV 2) (aNil))) (aNil))) (eOp2 powD (eOp2 powD (eC (.int 10)) (eC (.int 56))) (eC (.int 6))))) (sRet (eLst (aCons (eCB maxL (aCons (eC (.int 0)) (aCons (eOp2 subD (eV 3) (eOp2 powD (eC (.int 10)) (eC (.int 16)))) (aNil)))) (aCons (eOp2 addD (eOp2 addD (eOp2 addD (eOp2 mulD (eOp2 modD (eV 3) (eC (.int 2305843009213693921))) (eC (.int 97))) (eOp2 mulD (eC (.int 829)) (eV 1))) (eOp2 mulD (eC (.int 37)) (eCB intD (aCons (eOp2 ltD (eV 2) (eC (.int 0))) (aNil))))) (eC (.int 19))) (aCons (eC (.int 0)) (aNil)))))))
def g__law_tray : List PyData → Option Res := runP 4 2 m__law_tray
theorem w__law_tray (md : Md mg) (F : FunD K "_law_tray" "_law_tray" (defArgs s__law_tray) (defBody s__law_tray) (defScope s__law_tray) [] [] fA fd) (hm : mg "_law_tray" = some (.ref fA)) : Fn P w K mg base 1 "_law_tray" (spP K 2 g__law_tray) :=
  fn_p (N := n__law_tray) (ps := ["_law_script", "_law_spot"]) (fb := m__law_tray) F ⟨rfl, rfl, rfl, nd__law_tray, rfl, by decide +kernel, by decide +kernel⟩ hm (F.bindsN fun _ _ _ _ _ _ us hl => match us, hl with | [_, _], _ => rfl) (fun cdv A outer s H E hr =>
    sss_cons (ss_set nd__law_tray (i := 2) (se_if (st_cmp o_lt opsp (se_v 1) (se_cb c_len csp md.b_len bt_len (sa_cons (se_v 0) (sa_nil))) (nomark _)) (se_cbT c_int csp md.b_int bt_int (sa_cons (se_ix x_ix opsp (se_v 0) (se_v 1) (by intro _ _; rfl)) (sa_nil))) (se_op2 o_add opsp (se_op2 o_mul opsp (se_int) (se_v 1)) (se_int)))) (sss_cons (ss_set nd__law_tray (i := 3) (se_op2 o_mod opsp (se_cbT c_int csp md.b_int bt_int (sa_cons (se_cb c_abs csp md.b_abs bt_abs (sa_cons (se_v 2) (sa_nil))) (sa_nil))) (se_op2 o_pow opsp (se_op2 o_pow opsp (se_int) (se_int)) (se_int)))) (sss_one (ss_ret (se_lst (sa_cons (se_cb (c_max hr rfl) csp md.b_max bt_max (sa_cons (se_int) (sa_cons (se_op2 o_sub opsp (se_v 3) (se_op2 o_pow opsp (se_int) (se_int))) (sa_nil)))) (sa_cons (se_op2 o_add opsp (se_op2 o_add opsp (se_op2 o_add opsp (se_op2 o_mul opsp (se_op2 o_mod opsp (se_v 3) (se_int)) (se_int)) (se_op2 o_mul opsp (se_int) (se_v 1))) (se_op2 o_mul opsp (se_int) (se_cbT c_int csp md.b_int bt_int (sa_cons (se_cmp o_lt opsp (se_v 2) (se_int) (nomark _)) (sa_nil))))) (se_int)) (sa_cons (se_int) (sa_nil)))))))))
def n__law_pluck : List Str := ["_law_tray_here", "_law_total", "_law_found", "_law_one", "_law_two"]
theorem nd__law_pluck : n__law_pluck.Nodup := by decide +kernel
def m__law_pluck : FS := sSeq (sIf (mT (eOp2 gtD (eOp2 ixD (eV 0) (eC (.int 0))) (eC (.int 0))) boolD) (sSeq (sSet 2 (eOp2 modD (eCB intD (aCons (eOp2 ixD (eV 0) (eC (.int 0))) (aNil))) (eV 1))) (sSeq (sSetIx 0 (eC (.int 0)) (eOp2 fdivD (eOp2 ixD (eV 0) (eC (.int 0))) (eV 1))) (sRet (eMv 2)))) (sNil)) (sSeq (sSetIx 0 (eC (.int 2)) (eOp2 addD (eOp2 ixD (eV 0) (eC (.int 2))) (eC (.int 1)))) (sSeq (sSet 3 (eOp2 modD (eCB intD (aCons (eOp2 addD (eOp2 ixD (eV 0) (eC (.int 1))) (eOp2 mulD (eC (.int 15487469)) (eOp2 ixD (eV 0) (eC (.int 2))))) (aNil))) (eC (.int 2305843009213693951)))) (sSeq (sSet 4 (eOp2 addD (eOp2 mulD (eOp2 modD (eCB intD (aCons (eOp2 addD (eOp2 mulD (eV 3) (eV 3)) (eOp2 mulD (eC (.int 163)) (eOp2 ixD (eV 0) (eC (.int 2))))) (aNil))) (eC (.int 2305843009213693907))) (eC (.int 6700417))) (eV 3))) (sRet (eOp2 modD (eCB intD (aCons (eOp2 fdivD (eV 4) (eC (.int 65551))) (aNil))) (eV 1))))))
def g__law_pluck : List PyData → List PyData → Option (Res × List PyData) := runIO 5 1 m__law_pluck
theorem w__law_pluck (md : Md mg) (F : FunD K "_law_pluck" "_law_pluck" (defArgs s__law_pluck) (defBody s__law_pluck) (defScope s__law_pluck) [] [] fA fd) (hm : mg "_law_pluck" = some (.ref fA)) : Fn P w K mg base 1 "_law_pluck" (spIO K 1 g__law_pluck) :=
  fn_io (N := n__law_pluck) (x0 := "_law_tray_here") (ps' := ["_law_total"]) (fb := m__law_pluck) F ⟨rfl, rfl, rfl, nd__law_pluck, rfl, by decide +kernel, by decide +kernel⟩ hm (F.bindsN fun _ _ _ _ _ _ us hl => match us, hl with | [_, _], _ => rfl) (fun cdv A outer s H E hr =>
    sss_cons (ss_if (st_cmp o_gt opsp (se_ix x_ix opsp (se_v 0) (se_int) (by intro _ _; rfl)) (se_int) (nomark _)) (sss_cons (ss_set nd__law_pluck (i := 2) (se_op2 o_mod opsp (se_cbT c_int csp md.b_int bt_int (sa_cons (se_ix x_ix opsp (se_v 0) (se_int) (by intro _ _; rfl)) (sa_nil))) (se_v 1))) (sss_cons (ss_setIx (i := 0) (se_op2 o_fdiv opsp (se_ix x_ix opsp (se_v 0) (se_int) (by intro _ _; rfl)) (se_v 1)) (se_int)) (sss_one (ss_ret (se_mv 2))))) (sss_nil)) (sss_cons (ss_setIx (i := 0) (se_op2 o_add opsp (se_ix x_ix opsp (se_v 0) (se_int) (by intro _ _; rfl)) (se_int)) (se_int)) (sss_cons (ss_set nd__law_pluck (i := 3) (se_op2 o_mod opsp (se_cbT c_int csp md.b_int bt_int (sa_cons (se_op2 o_add opsp (se_ix x_ix opsp (se_v 0) (se_int) (by intro _ _; rfl)) (se_op2 o_mul opsp (se_int) (se_ix x_ix opsp (se_v 0) (se_int) (by intro _ _; rfl)))) (sa_nil))) (se_int))) (sss_cons (ss_set nd__law_pluck (i := 4) (se_op2 o_add opsp (se_op2 o_mul opsp (se_op2 o_mod opsp (se_cbT c_int csp md.b_int bt_int (sa_cons (se_op2 o_add opsp (se_op2 o_mul opsp (se_v 3) (se_v 3)) (se_op2 o_mul opsp (se_int) (se_ix x_ix opsp (se_v 0) (se_int) (by intro _ _; rfl)))) (sa_nil))) (se_int)) (se_int)) (se_v 3))) (sss_one (ss_ret (se_op2 o_mod opsp (se_cbT c_int csp md.b_int bt_int (sa_cons (se_op2 o_fdiv opsp (se_v 4) (se_int)) (sa_nil))) (se_v 1)))))))) (by decide)
def n__law_short : List Str := ["_law_lots_here", "_law_order_here", "_law_begin", "_law_end", "_law_left", "_law_some_here", "_law_index", "_law_lot"]
theorem nd__law_short : n__law_short.Nodup := by decide +kernel
def m__law_short : FS := sSeq (sSet 4 (eOp2 addD (eSl (eV 1) (pNo) (pSo (eV 2))) (eSl (eV 1) (pSo (eV 3)) (pNo)))) (sSeq (sSet 5 (eLc (iEn (aCons (eFz 0) (aNil))) (bT 2 (bsCons (bN 6) (bsCons (bN 7) (bsNil)))) (mT (eOp2 ltD (eBM "tuple" countT (eV 4) (aCons (eV 6) (aNil))) (eOp2 ixD (eV 7) (eC (.int 1)))) boolD) (eFz 6) [6, 7])) (sRet (eIf (mT (eOp2 neD (eV 5) (eLst (aNil))) boolD) (eOp2 ixD (eV 5) (eC (.int 0))) (eC .none))))
def g__law_short : List PyData → Option Res := runP 8 4 m__law_short
theorem w__law_short (md : Md mg) (F : FunD K "_law_short" "_law_short" (defArgs s__law_short) (defBody s__law_short) (defScope s__law_short) [] [] fA fd) (hm : mg "_law_short" = some (.ref fA)) : Fn P w K mg base 1 "_law_short" (spP K 4 g__law_short) :=
  fn_p (N := n__law_short) (ps := ["_law_lots_here", "_law_order_here", "_law_begin", "_law_end"]) (fb := m__law_short) F ⟨rfl, rfl, rfl, nd__law_short, rfl, by decide +kernel, by decide +kernel⟩ hm (F.bindsN fun _ _ _ _ _ _ us hl => match us, hl with | [_, _, _, _], _ => rfl) (fun cdv A outer s H E hr =>
    sss_cons (ss_set nd__law_short (i := 4) (se_op2 o_add opsp (se_sl (se_v 1) (sp_no) (sp_so (se_v 2))) (se_sl (se_v 1) (sp_so (se_v 3)) (sp_no)))) (sss_cons (ss_setLc (i := 5) [("_law_index", 6), ("_law_lot", 7)] rfl nd__law_short (si_en md.b_enumerate (sa_cons (se_fz 0) (sa_nil))) (blkOk_by (by first | (show blkC n__law_short (defScope s__law_short) _ _ = true; decide +kernel) | kernel_rfl)) (by decide) (fun _ _ _ _ _ => sg_t 2 rfl (sgs_cons (sg_n 6 nd__law_short) (sgs_cons (sg_n 7 nd__law_short) (sgs_nil)))) (fun _ _ _ _ _ => sts_one (st_cmp o_lt opsp (se_bm PySem.F.plainAttrs_tuple PySem.F.slot_tuple_count PySem.F.type_tuple_count (m_countT hr) msp (se_v 4) (sa_cons (se_v 6) (sa_nil))) (se_ix x_ix opsp (se_v 7) (se_int) (by intro _ _; rfl)) (nomark _))) (fun _ _ _ _ _ => se_fz 6)) (sss_one (ss_ret (se_if (st_cmp (o_ne hr) opsp (se_v 5) (se_lst (sa_nil)) (nomark _)) (se_ix x_ix opsp (se_v 5) (se_int) (by intro _ _; rfl)) (se_non))))))
def n__law_strands : List Str := ["_law_lots_here", "_law_found", "_law_index", "_law_many", "_law_least", "_law_loss", "_law_strand", "_law_at"]
theorem nd__law_strands : n__law_strands.Nodup := by decide +kernel
def m__law_strands : FS := sSeq (sSet 1 (eLst (aNil))) (sSeq (sFor (iEn (aCons (eFz 0) (aNil))) (bT 2 (bsCons (bN 2) (bsCons (bT 2 (bsCons (bN 3) (bsCons (bN 4) (bsNil)))) (bsNil)))) (sSeq (sSet 5 (eOp2 subD (eV 3) (eV 4))) (sFor (iR (aCons (eV 5) (aNil))) (bN 6) (sEx (eApp 1 (eTup (aCons (eFz 2) (aCons (eFz 6) (aCons (eCB lenD (aCons (eLc (iR (aCons (eV 3) (aNil))) (bN 7) (mT (eOp2 eqD (eOp2 modD (eV 7) (eV 5)) (eV 6)) boolD) (eFz 7) [7]) (aNil))) (aNil)))))))))) (sRet (eMv 1)))
def g__law_strands : List PyData → Option Res := runP 8 1 m__law_strands
theorem w__law_strands (md : Md mg) (F : FunD K "_law_strands" "_law_strands" (defArgs s__law_strands) (defBody s__law_strands) (defScope s__law_strands) [] [] fA fd) (hm : mg "_law_strands" = some (.ref fA)) : Fn P w K mg base 1 "_law_strands" (spP K 1 g__law_strands) :=
  fn_p (N := n__law_strands) (ps := ["_law_lots_here"]) (fb := m__law_strands) F ⟨rfl, rfl, rfl, nd__law_strands, rfl, by decide +kernel, by decide +kernel⟩ hm (F.bindsN fun _ _ _ _ _ _ us hl => match us, hl with | [_], _ => rfl) (fun cdv A outer s H E hr =>
    sss_cons (ss_set nd__law_strands (i := 1) (se_lst (sa_nil))) (sss_cons (ss_for PassesOwn.never rfl (si_en md.b_enumerate (sa_cons (se_fz 0) (sa_nil))) (sg_t 2 rfl (sgs_cons (sg_n 2 nd__law_strands) (sgs_cons (sg_t 2 rfl (sgs_cons (sg_n 3 nd__law_strands) (sgs_cons (sg_n 4 nd__law_strands) (sgs_nil)))) (sgs_nil)))) (sss_cons (ss_set nd__law_strands (i := 5) (se_op2 o_sub opsp (se_v 3) (se_v 4))) (sss_one (ss_for PassesOwn.never rfl (si_r1 md.b_range (sa_cons (se_v 5) (sa_nil)) (alen_cons alen_nil)) (sg_n 6 nd__law_strands) (sss_one (ss_ex (se_app (i := 1) (se_tup (sa_cons (se_fz 2) (sa_cons (se_fz 6) (sa_cons (se_cb c_len csp md.b_len bt_len (sa_cons (se_lc [("_law_at", 7)] rfl nd__law_strands (si_r1 md.b_range (sa_cons (se_v 3) (sa_nil)) (alen_cons alen_nil)) (blkOk_by (by first | (show blkC n__law_strands (defScope s__law_strands) _ _ = true; decide +kernel) | kernel_rfl)) (by decide) (fun _ _ _ _ _ => sg_n 7 nd__law_strands) (fun _ _ _ _ _ => sts_one (st_cmp (o_eq hr) opsp (se_op2 o_mod opsp (se_v 7) (se_v 5)) (se_v 6) (nomark _))) (fun _ _ _ _ _ => se_fz 7)) (sa_nil))) (sa_nil)))))))))))) (sss_one (ss_ret (se_mv 1)))))
def n_is_within : List Str := ["value", "least", "greatest"]
theorem nd_is_within : n_is_within.Nodup := by decide +kernel
def m_is_within : FS := sRet (eAnd (eFn g_is_whole (aCons (eFz 0) (aNil))) (eChain leD leD (eV 1) (eV 0) (eV 2)))
def g_is_within : List PyData → Option Res := runP 3 3 m_is_within
theorem w_is_within (md : Md mg) (F : FunD K "is_within" "is_within" (defArgs s_is_within) (defBody s_is_within) (defScope s_is_within) [] [] fA fd) (hm : mg "is_within" = some (.ref fA)) (F_is_whole : Fn P w K mg base 1 "is_whole" (spP K 1 g_is_whole)) : Fn P w K mg base 2 "is_within" (spP K 3 g_is_within) :=
  fn_p (N := n_is_within) (ps := ["value", "least", "greatest"]) (fb := m_is_within) F ⟨rfl, rfl, rfl, nd_is_within, rfl, by decide +kernel, by decide +kernel⟩ hm (F.bindsN fun _ _ _ _ _ _ us hl => match us, hl with | [_, _, _], _ => rfl) (fun cdv A outer s H E hr =>
    sss_one (ss_ret (se_and (se_fn F_is_whole (hr.mono (by decide)) rfl (sa_cons (se_fz 0) (sa_nil)) (hlen := (alen_cons alen_nil))) (se_one (se_chain o_le o_le opsp opsp (se_v 1) (se_v 0) (se_v 2))))))
def n_strand_length : List Str := ["lot", "strand"]
theorem nd_strand_length : n_strand_length.Nodup := by decide +kernel
def m_strand_length : FS := sRet (eLenR3 (aCons (eV 1) (aCons (eOp2 ixD (eV 0) (eC (.int 0))) (aCons (eFn g_lost_by (aCons (eFz 0) (aNil))) (aNil)))))
def g_strand_length : List PyData → Option Res := runP 2 2 m_strand_length
theorem w_strand_length (md : Md mg) (F : FunD K "strand_length" "strand_length" (defArgs s_strand_length) (defBody s_strand_length) (defScope s_strand_length) [] [] fA fd) (hm : mg "strand_length" = some (.ref fA)) (F_lost_by : Fn P w K mg base 1 "lost_by" (spP K 1 g_lost_by)) : Fn P w K mg base 2 "strand_length" (spP K 2 g_strand_length) :=
  fn_p (N := n_strand_length) (ps := ["lot", "strand"]) (fb := m_strand_length) F ⟨rfl, rfl, rfl, nd_strand_length, rfl, by decide +kernel, by decide +kernel⟩ hm (F.bindsN fun _ _ _ _ _ _ us hl => match us, hl with | [_, _], _ => rfl) (fun cdv A outer s H E hr =>
    sss_one (ss_ret (se_lenR3 md.b_len md.b_range (sa_cons (se_v 1) (sa_cons (se_ix x_ix opsp (se_v 0) (se_int) (by intro _ _; rfl)) (sa_cons (se_fn F_lost_by (hr.mono (by decide)) rfl (sa_cons (se_fz 0) (sa_nil)) (hlen := (alen_cons alen_nil))) (sa_nil)))))))
def n_weak_in : List Str := ["lots", "order", "found", "index", "lot", "places", "many", "size", "begin", "place", "one", "at"]
theorem nd_weak_in : n_weak_in.Nodup := by decide +kernel
def m_weak_in : FS := sSeq (sSet 2 (eLst (aNil))) (sSeq (sFor (iEn (aCons (eFz 0) (aNil))) (bT 2 (bsCons (bN 3) (bsCons (bN 4) (bsNil)))) (sSeq (sUn (bT 2 (bsCons (bN 5) (bsCons (bN 6) (bsNil)))) (eTup (aCons (eLc (iEn (aCons (eFz 1) (aNil))) (bT 2 (bsCons (bN 9) (bsCons (bN 10) (bsNil)))) (mT (eOp2 eqD (eV 10) (eV 3)) boolD) (eFz 9) [9, 10]) (aCons (eFn g_lost_by (aCons (eFz 4) (aNil))) (aNil))))) (sEx (eExt 2 (eLc (iR (aCons (eOp2 subD (eOp2 ixD (eV 4) (eC (.int 0))) (eV 6)) (aNil))) (bN 11) (mYes) (eTup (aCons (eOp2 subD (eOp2 addD (eOp2 ixD (eV 5) (eOp2 addD (eV 11) (eV 6))) (eC (.int 1))) (eOp2 ixD (eV 5) (eV 11))) (aCons (eOp2 ixD (eV 5) (eV 11)) (aCons (eFz 3) (aNil))))) [11]))))) (sSeq (sUn (bT 3 (bsCons (bN 7) (bsCons (bN 8) (bsCons (bN 3) (bsNil))))) (eCB minL (aCons (eV 2) (aNil)))) (sRet (eTup (aCons (eFz 8) (aCons (eOp2 addD (eV 8) (eV 7)) (aCons (eFz 3) (aNil))))))))
def g_weak_in : List PyData → Option Res := runP 12 2 m_weak_in
theorem w_weak_in (md : Md mg) (F : FunD K "weak_in" "weak_in" (defArgs s_weak_in) (defBody s_weak_in) (defScope s_weak_in) [] [] fA fd) (hm : mg "weak_in" = some (.ref fA)) (F_lost_by : Fn P w K mg base 1 "lost_by" (spP K 1 g_lost_by)) : Fn P w K mg base 2 "weak_in" (spP K 2 g_weak_in) :=
  fn_p (N := n_weak_in) (ps := ["lots", "order"]) (fb := m_weak_in) F ⟨rfl, rfl, rfl, nd_weak_in, rfl, by decide +kernel, by decide +kernel⟩ hm (F.bindsN fun _ _ _ _ _ _ us hl => match us, hl with | [_, _], _ => rfl) (fun cdv A outer s H E hr =>
    sss_cons (ss_set nd_weak_in (i := 2) (se_lst (sa_nil))) (sss_cons (ss_for PassesOwn.never rfl (si_en md.b_enumerate (sa_cons (se_fz 0) (sa_nil))) (sg_t 2 rfl (sgs_cons (sg_n 3 nd_weak_in) (sgs_cons (sg_n 4 nd_weak_in) (sgs_nil)))) (sss_cons (ss_un (se_tup (sa_cons (se_lc [("place", 9), ("one", 10)] rfl nd_weak_in (si_en md.b_enumerate (sa_cons (se_fz 1) (sa_nil))) (blkOk_by (by first | (show blkC n_weak_in (defScope s_weak_in) _ _ = true; decide +kernel) | kernel_rfl)) (by decide) (fun _ _ _ _ _ => sg_t 2 rfl (sgs_cons (sg_n 9 nd_weak_in) (sgs_cons (sg_n 10 nd_weak_in) (sgs_nil)))) (fun _ _ _ _ _ => sts_one (st_cmp (o_eq hr) opsp (se_v 10) (se_v 3) (nomark _))) (fun _ _ _ _ _ => se_fz 9)) (sa_cons (se_fn F_lost_by (hr.mono (by decide)) rfl (sa_cons (se_fz 4) (sa_nil)) (hlen := (alen_cons alen_nil))) (sa_nil)))) (sg_t 2 rfl (sgs_cons (sg_n 5 nd_weak_in) (sgs_cons (sg_n 6 nd_weak_in) (sgs_nil))))) (sss_one (ss_ex (se_ext (i := 2) (se_lc [("at", 11)] rfl nd_weak_in (si_r1 md.b_range (sa_cons (se_op2 o_sub opsp (se_ix x_ix opsp (se_v 4) (se_int) (by intro _ _; rfl)) (se_v 6)) (sa_nil)) (alen_cons alen_nil)) (blkOk_by (by first | (show blkC n_weak_in (defScope s_weak_in) _ _ = true; decide +kernel) | kernel_rfl)) (by decide) (fun _ _ _ _ _ => sg_n 11 nd_weak_in) (fun _ _ _ _ _ => sts_nil) (fun _ _ _ _ _ => se_tup (sa_cons (se_op2 o_sub opsp (se_op2 o_add opsp (se_ix x_ix opsp (se_v 5) (se_op2 o_add opsp (se_v 11) (se_v 6)) (by intro _ _; rfl)) (se_int)) (se_ix x_ix opsp (se_v 5) (se_v 11) (by intro _ _; rfl))) (sa_cons (se_ix x_ix opsp (se_v 5) (se_v 11) (by intro _ _; rfl)) (sa_cons (se_fz 3) (sa_nil))))))))))) (sss_cons (ss_un (se_cb (c_min hr rfl) csp md.b_min bt_min (sa_cons (se_v 2) (sa_nil))) (sg_t 3 rfl (sgs_cons (sg_n 7 nd_weak_in) (sgs_cons (sg_n 8 nd_weak_in) (sgs_cons (sg_n 3 nd_weak_in) (sgs_nil)))))) (sss_one (ss_ret (se_tup (sa_cons (se_fz 8) (sa_cons (se_op2 o_add opsp (se_v 8) (se_v 7)) (sa_cons (se_fz 3) (sa_nil))))))))))
def n__law_some : List Str := ["_law_tray_here", "_law_items"]
theorem nd__law_some : n__law_some.Nodup := by decide +kernel
def m__law_some : FS := sRet (eOp2 ixD (eV 1) (eIO 0 g__law_pluck (aCons (eCB lenD (aCons (eV 1) (aNil))) (aNil))))
def g__law_some : List PyData → List PyData → Option (Res × List PyData) := runIO 2 1 m__law_some
theorem w__law_some (md : Md mg) (F : FunD K "_law_some" "_law_some" (defArgs s__law_some) (defBody s__law_some) (defScope s__law_some) [] [] fA fd) (hm : mg "_law_some" = some (.ref fA)) (F__law_pluck : Fn P w K mg base 1 "_law_pluck" (spIO K 1 g__law_pluck)) : Fn P w K mg base 2 "_law_some" (spIO K 1 g__law_some) :=
  fn_io (N := n__law_some) (x0 := "_law_tray_here") (ps' := ["_law_items"]) (fb := m__law_some) F ⟨rfl, rfl, rfl, nd__law_some, rfl, by decide +kernel, by decide +kernel⟩ hm (F.bindsN fun _ _ _ _ _ _ us hl => match us, hl with | [_, _], _ => rfl) (fun cdv A outer s H E hr =>
    sss_one (ss_ret (se_ix x_ix opsp (se_v 1) (se_io (i := 0) F__law_pluck (hr.mono (by decide)) rfl (sa_cons (se_cb c_len csp md.b_len bt_len (sa_cons (se_v 1) (sa_nil))) (sa_nil)) (alen_cons alen_nil)) (by intro _ _; rfl)))) (by decide)
def n__law_order : List Str := ["_law_tray_here", "_law_lots_here", "_law_way", "_law_found", "_law_index", "_law_lot", "_law_turns", "_law_turn", "_law_mixed"]
theorem nd__law_order : n__law_order.Nodup := by decide +kernel
def m__law_order : FS := sSeq (sPar 2 3 (eIO 0 g__law_pluck (aCons (eC (.int 3)) (aNil))) (eLst (aNil))) (sSeq (sFor (iEn (aCons (eFz 1) (aNil))) (bT 2 (bsCons (bN 4) (bsCons (bN 5) (bsNil)))) (sEx (eExt 3 (eRep (eLst (aCons (eFz 4) (aNil))) (eOp2 ixD (eV 5) (eC (.int 0))))))) (sSeq (sIf (mT (eOp2 eqD (eV 2) (eC (.int 0))) boolD) (sRet (eCB tupleD (aCons (eV 3) (aNil)))) (sNil)) (sSeq (sIf (mT (eOp2 eqD (eV 2) (eC (.int 1))) boolD) (sSeq (sSet 6 (eLst (aNil))) (sSeq (sFor (iR (aCons (eCB maxL (aCons (eLc (iD (eFz 1)) (bN 5) (mYes) (eOp2 ixD (eV 5) (eC (.int 0))) [5]) (aNil))) (aNil))) (bN 7) (sEx (eExt 6 (eLc (iEn (aCons (eFz 1) (aNil))) (bT 2 (bsCons (bN 4) (bsCons (bN 5) (bsNil)))) (mT (eOp2 gtD (eOp2 ixD (eV 5) (eC (.int 0))) (eV 7)) boolD) (eFz 4) [4, 5])))) (sRet (eCB tupleD (aCons (eV 6) (aNil)))))) (sNil)) (sSeq (sSet 8 (eLst (aNil))) (sSeq (sFor (iR (aCons (eCB lenD (aCons (eV 3) (aNil))) (aNil))) (bN 7) (sEx (eApp 8 (ePopAt 3 (eIO 0 g__law_pluck (aCons (eCB lenD (aCons (eV 3) (aNil))) (aNil))))))) (sRet (eCB tupleD (aCons (eV 8) (aNil)))))))))
def g__law_order : List PyData → List PyData → Option (Res × List PyData) := runIO 9 1 m__law_order
theorem w__law_order (md : Md mg) (F : FunD K "_law_order" "_law_order" (defArgs s__law_order) (defBody s__law_order) (defScope s__law_order) [] [] fA fd) (hm : mg "_law_order" = some (.ref fA)) (F__law_pluck : Fn P w K mg base 1 "_law_pluck" (spIO K 1 g__law_pluck)) : Fn P w K mg base 2 "_law_order" (spIO K 1 g__law_order) :=
  fn_io (N := n__law_order) (x0 := "_law_tray_here") (ps' := ["_law_lots_here"]) (fb := m__law_order) F ⟨rfl, rfl, rfl, nd__law_order, rfl, by decide +kernel, by decide +kernel⟩ hm (F.bindsN fun _ _ _ _ _ _ us hl => match us, hl with | [_, _], _ => rfl) (fun cdv A outer s H E hr =>
    sss_cons (ss_par (i := 2) (j := 3) rfl nd__law_order (se_io (i := 0) F__law_pluck (hr.mono (by decide)) rfl (sa_cons (se_int) (sa_nil)) (alen_cons alen_nil)) (se_lst (sa_nil))) (sss_cons (ss_for PassesOwn.never rfl (si_en md.b_enumerate (sa_cons (se_fz 1) (sa_nil))) (sg_t 2 rfl (sgs_cons (sg_n 4 nd__law_order) (sgs_cons (sg_n 5 nd__law_order) (sgs_nil)))) (sss_one (ss_ex (se_ext (i := 3) (se_rep (se_lst (sa_cons (se_fz 4) (sa_nil))) (se_ix x_ix opsp (se_v 5) (se_int) (by intro _ _; rfl))))))) (sss_cons (ss_if (st_cmp (o_eq hr) opsp (se_v 2) (se_int) (nomark _)) (sss_one (ss_ret (se_cbT c_tuple csp md.b_tuple bt_tuple (sa_cons (se_v 3) (sa_nil))))) (sss_nil)) (sss_cons (ss_if (st_cmp (o_eq hr) opsp (se_v 2) (se_int) (nomark _)) (sss_cons (ss_set nd__law_order (i := 6) (se_lst (sa_nil))) (sss_cons (ss_for PassesOwn.never rfl (si_r1 md.b_range (sa_cons (se_cb (c_max hr rfl) csp md.b_max bt_max (sa_cons (se_lc [("_law_lot", 5)] rfl nd__law_order (si_d (se_fz 1)) (blkOk_by (by first | (show blkC n__law_order (defScope s__law_order) _ _ = true; decide +kernel) | kernel_rfl)) (by decide) (fun _ _ _ _ _ => sg_n 5 nd__law_order) (fun _ _ _ _ _ => sts_nil) (fun _ _ _ _ _ => se_ix x_ix opsp (se_v 5) (se_int) (by intro _ _; rfl))) (sa_nil))) (sa_nil)) (alen_cons alen_nil)) (sg_n 7 nd__law_order) (sss_one (ss_ex (se_ext (i := 6) (se_lc [("_law_index", 4), ("_law_lot", 5)] rfl nd__law_order (si_en md.b_enumerate (sa_cons (se_fz 1) (sa_nil))) (blkOk_by (by first | (show blkC n__law_order (defScope s__law_order) _ _ = true; decide +kernel) | kernel_rfl)) (by decide) (fun _ _ _ _ _ => sg_t 2 rfl (sgs_cons (sg_n 4 nd__law_order) (sgs_cons (sg_n 5 nd__law_order) (sgs_nil)))) (fun _ _ _ _ _ => sts_one (st_cmp o_gt opsp (se_ix x_ix opsp (se_v 5) (se_int) (by intro _ _; rfl)) (se_v 7) (nomark _))) (fun _ _ _ _ _ => se_fz 4)))))) (sss_one (ss_ret (se_cbT c_tuple csp md.b_tuple bt_tuple (sa_cons (se_v 6) (sa_nil))))))) (sss_nil)) (sss_cons (ss_set nd__law_order (i := 8) (se_lst (sa_nil))) (sss_cons (ss_for PassesOwn.never rfl (si_r1 md.b_range (sa_cons (se_cb c_len csp md.b_len bt_len (sa_cons (se_v 3) (sa_nil))) (sa_nil)) (alen_cons alen_nil)) (sg_n 7 nd__law_order) (sss_one (ss_ex (se_app (i := 8) (se_popAt (i := 3) (se_io (i := 0) F__law_pluck (hr.mono (by decide)) rfl (sa_cons (se_cb c_len csp md.b_len bt_len (sa_cons (se_v 3) (sa_nil))) (sa_nil)) (alen_cons alen_nil))))))) (sss_one (ss_ret (se_cbT c_tuple csp md.b_tuple bt_tuple (sa_cons (se_v 8) (sa_nil))))))))))) (by decide)
def n__law_weak : List Str := ["_law_lots_here", "_law_order_here", "_law_size", "_law_begin", "_law_index"]
theorem nd__law_weak : n__law_weak.Nodup := by decide +kernel
def m__law_weak : FS := sSeq (sFor (iR (aCons (eC (.int 1)) (aCons (eOp2 addD (eCB lenD (aCons (eV 1) (aNil))) (eC (.int 1))) (aNil)))) (bN 2) (sFor (iR (aCons (eOp2 addD (eOp2 subD (eCB lenD (aCons (eV 1) (aNil))) (eV 2)) (eC (.int 1))) (aNil))) (bN 3) (sSeq (sSet 4 (eFn g__law_short (aCons (eFz 0) (aCons (eFz 1) (aCons (eFz 3) (aCons (eOp2 addD (eV 3) (eV 2)) (aNil))))))) (sIf (mT (eOp2 notND (eV 4) (eC .none)) boolD) (sRet (eTup (aCons (eFz 3) (aCons (eOp2 addD (eV 3) (eV 2)) (aCons (eFz 4) (aNil)))))) (sNil))))) (sRet (eC .none))
def g__law_weak : List PyData → Option Res := runP 5 2 m__law_weak
theorem w__law_weak (md : Md mg) (F : FunD K "_law_weak" "_law_weak" (defArgs s__law_weak) (defBody s__law_weak) (defScope s__law_weak) [] [] fA fd) (hm : mg "_law_weak" = some (.ref fA)) (F__law_short : Fn P w K mg base 1 "_law_short" (spP K 4 g__law_short)) : Fn P w K mg base 2 "_law_weak" (spP K 2 g__law_weak) :=
  fn_p (N := n__law_weak) (ps := ["_law_lots_here", "_law_order_here"]) (fb := m__law_weak) F ⟨rfl, rfl, rfl, nd__law_weak, rfl, by decide +kernel, by decide +kernel⟩ hm (F.bindsN fun _ _ _ _ _ _ us hl => match us, hl with | [_, _], _ => rfl) (fun cdv A outer s H E hr =>
    sss_cons (ss_for PassesOwn.never rfl (si_r2 md.b_range (sa_cons (se_int) (sa_cons (se_op2 o_add opsp (se_cb c_len csp md.b_len bt_len (sa_cons (se_v 1) (sa_nil))) (se_int)) (sa_nil))) (alen_cons (alen_cons alen_nil))) (sg_n 2 nd__law_weak) (sss_one (ss_for PassesOwn.never rfl (si_r1 md.b_range (sa_cons (se_op2 o_add opsp (se_op2 o_sub opsp (se_cb c_len csp md.b_len bt_len (sa_cons (se_v 1) (sa_nil))) (se_v 2)) (se_int)) (sa_nil)) (alen_cons alen_nil)) (sg_n 3 nd__law_weak) (sss_cons (ss_set nd__law_weak (i := 4) (se_fn F__law_short (hr.mono (by decide)) rfl (sa_cons (se_fz 0) (sa_cons (se_fz 1) (sa_cons (se_fz 3) (sa_cons (se_op2 o_add opsp (se_v 3) (se_v 2)) (sa_nil))))) (hlen := (alen_cons (alen_cons (alen_cons (alen_cons alen_nil))))))) (sss_one (ss_if (st_cmp o_notN opsp (se_v 4) (se_non) (nomark _)) (sss_one (ss_ret (se_tup (sa_cons (se_fz 3) (sa_cons (se_op2 o_add opsp (se_v 3) (se_v 2)) (sa_cons (se_fz 4) (sa_nil))))))) (sss_nil))))))) (sss_one (ss_ret (se_non))))
def n__law_by_strands : List Str := ["_law_lots_here", "_law_order_here", "_law_found", "_law_index", "_law_strand", "_law_length", "_law_places", "_law_lot", "_law_place", "_law_one", "_law_here", "_law_later"]
theorem nd__law_by_strands : n__law_by_strands.Nodup := by decide +kernel
def m__law_by_strands : FS := sSeq (sIf (mT (eOp2 neD (eLc (iD (eFz 0)) (bN 7) (mT (eOp2 eqD (eOp2 ixD (eV 7) (eC (.int 0))) (eOp2 ixD (eV 7) (eC (.int 1)))) boolD) (eFz 7) [7]) (eLst (aNil))) boolD) (sRet (eC (.int 0))) (sNil)) (sSeq (sSet 2 (eLst (aNil))) (sSeq (sFor (iD (eFn g__law_strands (aCons (eFz 0) (aNil)))) (bT 3 (bsCons (bN 3) (bsCons (bN 4) (bsCons (bN 5) (bsNil))))) (sSeq (sSet 6 (eSl3 (eLc (iEn (aCons (eFz 1) (aNil))) (bT 2 (bsCons (bN 8) (bsCons (bN 9) (bsNil)))) (mT (eOp2 eqD (eV 9) (eV 3)) boolD) (eFz 8) [8, 9]) (pSo (eV 4)) (pNo) (eOp2 subD (eOp2 ixD (eOp2 ixD (eV 0) (eV 3)) (eC (.int 0))) (eOp2 ixD (eOp2 ixD (eV 0) (eV 3)) (eC (.int 1)))))) (sEx (eExt 2 (eLc (iZp (aCons (eFz 6) (aCons (eSl (eV 6) (pSo (eC (.int 1))) (pNo)) (aNil)))) (bT 2 (bsCons (bN 10) (bsCons (bN 11) (bsNil)))) (mYes) (eOp2 subD (eV 11) (eV 10)) [10, 11]))))) (sRet (eCB minL (aCons (eV 2) (aNil))))))
def g__law_by_strands : List PyData → Option Res := runP 12 2 m__law_by_strands
theorem w__law_by_strands (md : Md mg) (F : FunD K "_law_by_strands" "_law_by_strands" (defArgs s__law_by_strands) (defBody s__law_by_strands) (defScope s__law_by_strands) [] [] fA fd) (hm : mg "_law_by_strands" = some (.ref fA)) (F__law_strands : Fn P w K mg base 1 "_law_strands" (spP K 1 g__law_strands)) : Fn P w K mg base 2 "_law_by_strands" (spP K 2 g__law_by_strands) :=
  fn_p (N := n__law_by_strands) (ps := ["_law_lots_here", "_law_order_here"]) (fb := m__law_by_strands) F ⟨rfl, rfl, rfl, nd__law_by_strands, rfl, by decide +kernel, by decide +kernel⟩ hm (F.bindsN fun _ _ _ _ _ _ us hl => match us, hl with | [_, _], _ => rfl) (fun cdv A outer s H E hr =>
    sss_cons (ss_if (st_cmp (o_ne hr) opsp (se_lc [("_law_lot", 7)] rfl nd__law_by_strands (si_d (se_fz 0)) (blkOk_by (by first | (show blkC n__law_by_strands (defScope s__law_by_strands) _ _ = true; decide +kernel) | kernel_rfl)) (by decide) (fun _ _ _ _ _ => sg_n 7 nd__law_by_strands) (fun _ _ _ _ _ => sts_one (st_cmp (o_eq hr) opsp (se_ix x_ix opsp (se_v 7) (se_int) (by intro _ _; rfl)) (se_ix x_ix opsp (se_v 7) (se_int) (by intro _ _; rfl)) (nomark _))) (fun _ _ _ _ _ => se_fz 7)) (se_lst (sa_nil)) (nomark _)) (sss_one (ss_ret (se_int))) (sss_nil)) (sss_cons (ss_set nd__law_by_strands (i := 2) (se_lst (sa_nil))) (sss_cons (ss_for PassesOwn.never rfl (si_d (se_fn F__law_strands (hr.mono (by decide)) rfl (sa_cons (se_fz 0) (sa_nil)) (hlen := (alen_cons alen_nil)))) (sg_t 3 rfl (sgs_cons (sg_n 3 nd__law_by_strands) (sgs_cons (sg_n 4 nd__law_by_strands) (sgs_cons (sg_n 5 nd__law_by_strands) (sgs_nil))))) (sss_cons (ss_set nd__law_by_strands (i := 6) (se_sl3 (se_lc [("_law_place", 8), ("_law_one", 9)] rfl nd__law_by_strands (si_en md.b_enumerate (sa_cons (se_fz 1) (sa_nil))) (blkOk_by (by first | (show blkC n__law_by_strands (defScope s__law_by_strands) _ _ = true; decide +kernel) | kernel_rfl)) (by decide) (fun _ _ _ _ _ => sg_t 2 rfl (sgs_cons (sg_n 8 nd__law_by_strands) (sgs_cons (sg_n 9 nd__law_by_strands) (sgs_nil)))) (fun _ _ _ _ _ => sts_one (st_cmp (o_eq hr) opsp (se_v 9) (se_v 3) (nomark _))) (fun _ _ _ _ _ => se_fz 8)) (sp_so (se_v 4)) (sp_no) (se_op2 o_sub opsp (se_ix x_ix opsp (se_ix x_ix opsp (se_v 0) (se_v 3) (by intro _ _; rfl)) (se_int) (by intro _ _; rfl)) (se_ix x_ix opsp (se_ix x_ix opsp (se_v 0) (se_v 3) (by intro _ _; rfl)) (se_int) (by intro _ _; rfl))))) (sss_one (ss_ex (se_ext (i := 2) (se_lc [("_law_here", 10), ("_law_later", 11)] rfl nd__law_by_strands (si_zp md.b_zip (sa_cons (se_fz 6) (sa_cons (se_sl (se_v 6) (sp_so (se_int)) (sp_no)) (sa_nil)))) (blkOk_by (by first | (show blkC n__law_by_strands (defScope s__law_by_strands) _ _ = true; decide +kernel) | kernel_rfl)) (by decide) (fun _ _ _ _ _ => sg_t 2 rfl (sgs_cons (sg_n 10 nd__law_by_strands) (sgs_cons (sg_n 11 nd__law_by_strands) (sgs_nil)))) (fun _ _ _ _ _ => sts_nil) (fun _ _ _ _ _ => se_op2 o_sub opsp (se_v 11) (se_v 10)))))))) (sss_one (ss_ret (se_cb (c_min hr rfl) csp md.b_min bt_min (sa_cons (se_v 2) (sa_nil))))))))
def n_is_lot : List Str := ["value"]
theorem nd_is_lot : n_is_lot.Nodup := by decide +kernel
def m_is_lot : FS := sSeq (sIf (mOr (mNot (mT (eUn (isiD "tuple") (eV 0)) truD)) (mOr (mT (eOp2 neD (eCB lenD (aCons (eV 0) (aNil))) (eC (.int 2))) boolD) (mNot (mT (eFn g_is_within (aCons (eOp2 ixD (eV 0) (eC (.int 0))) (aCons (eC (.int 1)) (aCons (eC (.int 16)) (aNil))))) truD)))) (sRet (eC (.bool false))) (sNil)) (sRet (eFn g_is_within (aCons (eOp2 ixD (eV 0) (eC (.int 1))) (aCons (eC (.int 1)) (aCons (eOp2 ixD (eV 0) (eC (.int 0))) (aNil))))))
def g_is_lot : List PyData → Option Res := runP 1 1 m_is_lot
theorem w_is_lot (md : Md mg) (F : FunD K "is_lot" "is_lot" (defArgs s_is_lot) (defBody s_is_lot) (defScope s_is_lot) [] [] fA fd) (hm : mg "is_lot" = some (.ref fA)) (F_is_within : Fn P w K mg base 2 "is_within" (spP K 3 g_is_within)) : Fn P w K mg base 3 "is_lot" (spP K 1 g_is_lot) :=
  fn_p (N := n_is_lot) (ps := ["value"]) (fb := m_is_lot) F ⟨rfl, rfl, rfl, nd_is_lot, rfl, by decide +kernel, by decide +kernel⟩ hm (F.bindsN fun _ _ _ _ _ _ us hl => match us, hl with | [_], _ => rfl) (fun cdv A outer s H E hr =>
    sss_cons (ss_if (st_w (sw_or (st_not (st_tr (se_isi md.b_isinstance md.b_tuple bt_tuple (se_v 0)))) (sw_or (st_cmp (o_ne hr) opsp (se_cb c_len csp md.b_len bt_len (sa_cons (se_v 0) (sa_nil))) (se_gint md.c_PAIR) (nomark _)) (sw_or1 (st_not (st_tr (se_fn F_is_within (hr.mono (by decide)) rfl (sa_cons (se_ix x_ix opsp (se_v 0) (se_int) (by intro _ _; rfl)) (sa_cons (se_int) (sa_cons (se_gint md.c_MOST_FRAMES) (sa_nil)))) (hlen := (alen_cons (alen_cons (alen_cons alen_nil))))))))))) (sss_one (ss_ret (se_bl))) (sss_nil)) (sss_one (ss_ret (se_fn F_is_within (hr.mono (by decide)) rfl (sa_cons (se_ix x_ix opsp (se_v 0) (se_int) (by intro _ _; rfl)) (sa_cons (se_int) (sa_cons (se_ix x_ix opsp (se_v 0) (se_int) (by intro _ _; rfl)) (sa_nil)))) (hlen := (alen_cons (alen_cons (alen_cons alen_nil))))))))
def n_is_order : List Str := ["lots", "value", "index", "lot"]
theorem nd_is_order : n_is_order.Nodup := by decide +kernel
def m_is_order : FS := sSeq (sIf (mOr (mNot (mT (eUn (isiD "tuple") (eV 1)) truD)) (mT (eOp2 neD (eCB lenD (aCons (eV 1) (aNil))) (eFn g_frames_in (aCons (eFz 0) (aNil)))) boolD)) (sRet (eC (.bool false))) (sNil)) (sSeq (sIf (mNot (mT (eCB allD (aCons (eLc (iD (eFz 1)) (bN 2) (mYes) (eFn g_is_within (aCons (eFz 2) (aCons (eC (.int 0)) (aCons (eOp2 subD (eCB lenD (aCons (eV 0) (aNil))) (eC (.int 1))) (aNil))))) [2]) (aNil))) truD)) (sRet (eC (.bool false))) (sNil)) (sRet (eCB allD (aCons (eLc (iEn (aCons (eFz 0) (aNil))) (bT 2 (bsCons (bN 2) (bsCons (bN 3) (bsNil)))) (mYes) (eOp2 eqD (eBM "tuple" countT (eV 1) (aCons (eV 2) (aNil))) (eOp2 ixD (eV 3) (eC (.int 0)))) [2, 3]) (aNil)))))
def g_is_order : List PyData → Option Res := runP 4 2 m_is_order
theorem w_is_order (md : Md mg) (F : FunD K "is_order" "is_order" (defArgs s_is_order) (defBody s_is_order) (defScope s_is_order) [] [] fA fd) (hm : mg "is_order" = some (.ref fA)) (F_is_within : Fn P w K mg base 2 "is_within" (spP K 3 g_is_within)) (F_frames_in : Fn P w K mg base 1 "frames_in" (spP K 1 g_frames_in)) : Fn P w K mg base 3 "is_order" (spP K 2 g_is_order) :=
  fn_p (N := n_is_order) (ps := ["lots", "value"]) (fb := m_is_order) F ⟨rfl, rfl, rfl, nd_is_order, rfl, by decide +kernel, by decide +kernel⟩ hm (F.bindsN fun _ _ _ _ _ _ us hl => match us, hl with | [_, _], _ => rfl) (fun cdv A outer s H E hr =>
    sss_cons (ss_if (st_w (sw_or (st_not (st_tr (se_isi md.b_isinstance md.b_tuple bt_tuple (se_v 1)))) (sw_or1 (st_cmp (o_ne hr) opsp (se_cb c_len csp md.b_len bt_len (sa_cons (se_v 1) (sa_nil))) (se_fn F_frames_in (hr.mono (by decide)) rfl (sa_cons (se_fz 0) (sa_nil)) (hlen := (alen_cons alen_nil))) (nomark _))))) (sss_one (ss_ret (se_bl))) (sss_nil)) (sss_cons (ss_if (st_not (st_tr (se_cb (c_all rfl) csp md.b_all bt_all (sa_cons (se_lc [("index", 2)] rfl nd_is_order (si_d (se_fz 1)) (blkOk_by (by first | (show blkC n_is_order (defScope s_is_order) _ _ = true; decide +kernel) | kernel_rfl)) (by decide) (fun _ _ _ _ _ => sg_n 2 nd_is_order) (fun _ _ _ _ _ => sts_nil) (fun _ _ _ _ _ => se_fn F_is_within (hr.mono (by decide)) rfl (sa_cons (se_fz 2) (sa_cons (se_int) (sa_cons (se_op2 o_sub opsp (se_cb c_len csp md.b_len bt_len (sa_cons (se_v 0) (sa_nil))) (se_int)) (sa_nil)))) (hlen := (alen_cons (alen_cons (alen_cons alen_nil)))))) (sa_nil))))) (sss_one (ss_ret (se_bl))) (sss_nil)) (sss_one (ss_ret (se_cb (c_all rfl) csp md.b_all bt_all (sa_cons (se_lc [("index", 2), ("lot", 3)] rfl nd_is_order (si_en md.b_enumerate (sa_cons (se_fz 0) (sa_nil))) (blkOk_by (by first | (show blkC n_is_order (defScope s_is_order) _ _ = true; decide +kernel) | kernel_rfl)) (by decide) (fun _ _ _ _ _ => sg_t 2 rfl (sgs_cons (sg_n 2 nd_is_order) (sgs_cons (sg_n 3 nd_is_order) (sgs_nil)))) (fun _ _ _ _ _ => sts_nil) (fun _ _ _ _ _ => se_cmp (o_eq hr) opsp (se_bm PySem.F.plainAttrs_tuple PySem.F.slot_tuple_count PySem.F.type_tuple_count (m_countT hr) msp (se_v 1) (sa_cons (se_v 2) (sa_nil))) (se_ix x_ix opsp (se_v 3) (se_int) (by intro _ _; rfl)) (nomark _))) (sa_nil)))))))
def n_strands_in : List Str := ["lots", "pairs", "index", "lot", "strand"]
theorem nd_strands_in : n_strands_in.Nodup := by decide +kernel
def m_strands_in : FS := sSeq (sSet 1 (eLc2 (iEn (aCons (eFz 0) (aNil))) (bT 2 (bsCons (bN 2) (bsCons (bN 3) (bsNil)))) (mYes) (iR (aCons (eFn g_lost_by (aCons (eFz 3) (aNil))) (aNil))) (bN 4) (mYes) (eTup (aCons (eFz 2) (aCons (eFz 3) (aCons (eFz 4) (aNil))))) [2, 3, 4] [4])) (sRet (eLc (iD (eFz 1)) (bT 3 (bsCons (bN 2) (bsCons (bN 3) (bsCons (bN 4) (bsNil))))) (mYes) (eTup (aCons (eFz 2) (aCons (eFz 4) (aCons (eFn g_strand_length (aCons (eFz 3) (aCons (eFz 4) (aNil)))) (aNil))))) [2, 3, 4]))
def g_strands_in : List PyData → Option Res := runP 5 1 m_strands_in
theorem w_strands_in (md : Md mg) (F : FunD K "strands_in" "strands_in" (defArgs s_strands_in) (defBody s_strands_in) (defScope s_strands_in) [] [] fA fd) (hm : mg "strands_in" = some (.ref fA)) (F_lost_by : Fn P w K mg base 1 "lost_by" (spP K 1 g_lost_by)) (F_strand_length : Fn P w K mg base 2 "strand_length" (spP K 2 g_strand_length)) : Fn P w K mg base 3 "strands_in" (spP K 1 g_strands_in) :=
  fn_p (N := n_strands_in) (ps := ["lots"]) (fb := m_strands_in) F ⟨rfl, rfl, rfl, nd_strands_in, rfl, by decide +kernel, by decide +kernel⟩ hm (F.bindsN fun _ _ _ _ _ _ us hl => match us, hl with | [_], _ => rfl) (fun cdv A outer s H E hr =>
    sss_cons (ss_setLc2 (i := 1) [("index", 2), ("lot", 3), ("strand", 4)] [4] rfl nd_strands_in (si_en md.b_enumerate (sa_cons (se_fz 0) (sa_nil))) (blkOk_by (by first | (show blkC n_strands_in (defScope s_strands_in) _ _ = true; decide +kernel) | kernel_rfl)) (by decide) (by decide) (by decide) (fun _ _ _ _ _ => sg_t 2 rfl (sgs_cons (sg_n 2 nd_strands_in) (sgs_cons (sg_n 3 nd_strands_in) (sgs_nil)))) (fun _ _ _ _ _ => sts_nil) (fun _ _ _ _ _ => si_r1 md.b_range (sa_cons (se_fn F_lost_by (hr.mono (by decide)) rfl (sa_cons (se_fz 3) (sa_nil)) (hlen := (alen_cons alen_nil))) (sa_nil)) (alen_cons alen_nil)) (fun _ _ _ _ _ => sg_n 4 nd_strands_in) (fun _ _ _ _ _ => sts_nil) (fun _ _ _ _ _ => se_tup (sa_cons (se_fz 2) (sa_cons (se_fz 3) (sa_cons (se_fz 4) (sa_nil)))))) (sss_one (ss_ret (se_lc [("index", 2), ("lot", 3), ("strand", 4)] rfl nd_strands_in (si_d (se_fz 1)) (blkOk_by (by first | (show blkC n_strands_in (defScope s_strands_in) _ _ = true; decide +kernel) | kernel_rfl)) (by decide) (fun _ _ _ _ _ => sg_t 3 rfl (sgs_cons (sg_n 2 nd_strands_in) (sgs_cons (sg_n 3 nd_strands_in) (sgs_cons (sg_n 4 nd_strands_in) (sgs_nil))))) (fun _ _ _ _ _ => sts_nil) (fun _ _ _ _ _ => se_tup (sa_cons (se_fz 2) (sa_cons (se_fz 4) (sa_cons (se_fn F_strand_length (hr.mono (by decide)) rfl (sa_cons (se_fz 3) (sa_cons (se_fz 4) (sa_nil))) (hlen := (alen_cons (alen_cons alen_nil)))) (sa_nil)))))))))
def n_borne_in : List Str := ["lots", "order", "begin", "end", "index"]
theorem nd_borne_in : n_borne_in.Nodup := by decide +kernel
def m_borne_in : FS := sSeq (sUn (bT 3 (bsCons (bN 2) (bsCons (bN 3) (bsCons (bN 4) (bsNil))))) (eFn g_weak_in (aCons (eFz 0) (aCons (eFz 1) (aNil))))) (sRet (eOp2 subD (eOp2 subD (eV 3) (eV 2)) (eC (.int 1))))
def g_borne_in : List PyData → Option Res := runP 5 2 m_borne_in
theorem w_borne_in (md : Md mg) (F : FunD K "borne_in" "borne_in" (defArgs s_borne_in) (defBody s_borne_in) (defScope s_borne_in) [] [] fA fd) (hm : mg "borne_in" = some (.ref fA)) (F_weak_in : Fn P w K mg base 2 "weak_in" (spP K 2 g_weak_in)) : Fn P w K mg base 3 "borne_in" (spP K 2 g_borne_in) :=
  fn_p (N := n_borne_in) (ps := ["lots", "order"]) (fb := m_borne_in) F ⟨rfl, rfl, rfl, nd_borne_in, rfl, by decide +kernel, by decide +kernel⟩ hm (F.bindsN fun _ _ _ _ _ _ us hl => match us, hl with | [_, _], _ => rfl) (fun cdv A outer s H E hr =>
    sss_cons (ss_un (se_fn F_weak_in (hr.mono (by decide)) rfl (sa_cons (se_fz 0) (sa_cons (se_fz 1) (sa_nil))) (hlen := (alen_cons (alen_cons alen_nil)))) (sg_t 3 rfl (sgs_cons (sg_n 2 nd_borne_in) (sgs_cons (sg_n 3 nd_borne_in) (sgs_cons (sg_n 4 nd_borne_in) (sgs_nil)))))) (sss_one (ss_ret (se_op2 o_sub opsp (se_op2 o_sub opsp (se_v 3) (se_v 2)) (se_int)))))
def n__law_lots : List Str := ["_law_tray_here", "_law_most", "_law_found", "_law_turn", "_law_many"]
theorem nd__law_lots : n__law_lots.Nodup := by decide +kernel
def m__law_lots : FS := sSeq (sSet 2 (eLst (aNil))) (sSeq (sFor (iR (aCons (eOp2 addD (eC (.int 1)) (eIO 0 g__law_pluck (aCons (eFz 1) (aNil)))) (aNil))) (bN 3) (sSeq (sSet 4 (eOp2 addD (eC (.int 1)) (eIO 0 g__law_pluck (aCons (eIO 0 g__law_some (aCons (eLst (aCons (eC (.int 2)) (aCons (eC (.int 4)) (aCons (eC (.int 8)) (aCons (eC (.int 16)) (aNil)))))) (aNil))) (aNil))))) (sEx (eApp 2 (eTup (aCons (eFz 4) (aCons (eIf (mT (eOp2 gtD (eIO 0 g__law_pluck (aCons (eC (.int 6)) (aNil))) (eC (.int 0))) boolD) (eOp2 subD (eV 4) (eIO 0 g__law_pluck (aCons (eFz 4) (aNil)))) (eFz 4)) (aNil)))))))) (sRet (eCB tupleD (aCons (eV 2) (aNil)))))
def g__law_lots : List PyData → List PyData → Option (Res × List PyData) := runIO 5 1 m__law_lots
theorem w__law_lots (md : Md mg) (F : FunD K "_law_lots" "_law_lots" (defArgs s__law_lots) (defBody s__law_lots) (defScope s__law_lots) [] [] fA fd) (hm : mg "_law_lots" = some (.ref fA)) (F__law_pluck : Fn P w K mg base 1 "_law_pluck" (spIO K 1 g__law_pluck)) (F__law_some : Fn P w K mg base 2 "_law_some" (spIO K 1 g__law_some)) : Fn P w K mg base 3 "_law_lots" (spIO K 1 g__law_lots) :=
  fn_io (N := n__law_lots) (x0 := "_law_tray_here") (ps' := ["_law_most"]) (fb := m__law_lots) F ⟨rfl, rfl, rfl, nd__law_lots, rfl, by decide +kernel, by decide +kernel⟩ hm (F.bindsN fun _ _ _ _ _ _ us hl => match us, hl with | [_, _], _ => rfl) (fun cdv A outer s H E hr =>
    sss_cons (ss_set nd__law_lots (i := 2) (se_lst (sa_nil))) (sss_cons (ss_for PassesOwn.never rfl (si_r1 md.b_range (sa_cons (se_op2 o_add opsp (se_int) (se_io (i := 0) F__law_pluck (hr.mono (by decide)) rfl (sa_cons (se_fz 1) (sa_nil)) (alen_cons alen_nil))) (sa_nil)) (alen_cons alen_nil)) (sg_n 3 nd__law_lots) (sss_cons (ss_set nd__law_lots (i := 4) (se_op2 o_add opsp (se_int) (se_io (i := 0) F__law_pluck (hr.mono (by decide)) rfl (sa_cons (se_io (i := 0) F__law_some (hr.mono (by decide)) rfl (sa_cons (se_lst (sa_cons (se_int) (sa_cons (se_int) (sa_cons (se_int) (sa_cons (se_int) (sa_nil)))))) (sa_nil)) (alen_cons alen_nil)) (sa_nil)) (alen_cons alen_nil)))) (sss_one (ss_ex (se_app (i := 2) (se_tup (sa_cons (se_fz 4) (sa_cons (se_if (st_cmp o_gt opsp (se_io (i := 0) F__law_pluck (hr.mono (by decide)) rfl (sa_cons (se_int) (sa_nil)) (alen_cons alen_nil)) (se_int) (nomark _)) (se_op2 o_sub opsp (se_v 4) (se_io (i := 0) F__law_pluck (hr.mono (by decide)) rfl (sa_cons (se_fz 4) (sa_nil)) (alen_cons alen_nil))) (se_fz 4)) (sa_nil))))))))) (sss_one (ss_ret (se_cbT c_tuple csp md.b_tuple bt_tuple (sa_cons (se_v 2) (sa_nil))))))) (by decide)
def n_are_lots : List Str := ["value", "lot"]
theorem nd_are_lots : n_are_lots.Nodup := by decide +kernel
def m_are_lots : FS := sRet (eAnd (eUn (isiD "tuple") (eV 0)) (eAnd (eChain leD leD (eC (.int 1)) (eCB lenD (aCons (eV 0) (aNil))) (eC (.int 12))) (eCB allD (aCons (eLc (iD (eFz 0)) (bN 1) (mYes) (eFn g_is_lot (aCons (eFz 1) (aNil))) [1]) (aNil)))))
def g_are_lots : List PyData → Option Res := runP 2 1 m_are_lots
theorem w_are_lots (md : Md mg) (F : FunD K "are_lots" "are_lots" (defArgs s_are_lots) (defBody s_are_lots) (defScope s_are_lots) [] [] fA fd) (hm : mg "are_lots" = some (.ref fA)) (F_is_lot : Fn P w K mg base 3 "is_lot" (spP K 1 g_is_lot)) : Fn P w K mg base 4 "are_lots" (spP K 1 g_are_lots) :=
  fn_p (N := n_are_lots) (ps := ["value"]) (fb := m_are_lots) F ⟨rfl, rfl, rfl, nd_are_lots, rfl, by decide +kernel, by decide +kernel⟩ hm (F.bindsN fun _ _ _ _ _ _ us hl => match us, hl with | [_], _ => rfl) (fun cdv A outer s H E hr =>
    sss_one (ss_ret (se_and (se_isi md.b_isinstance md.b_tuple bt_tuple (se_v 0)) (se_and (se_chain o_le o_le opsp opsp (se_int) (se_cb c_len csp md.b_len bt_len (sa_cons (se_v 0) (sa_nil))) (se_gint md.c_MOST_LOTS)) (se_one (se_cb (c_all rfl) csp md.b_all bt_all (sa_cons (se_lc [("lot", 1)] rfl nd_are_lots (si_d (se_fz 0)) (blkOk_by (by first | (show blkC n_are_lots (defScope s_are_lots) _ _ = true; decide +kernel) | kernel_rfl)) (by decide) (fun _ _ _ _ _ => sg_n 1 nd_are_lots) (fun _ _ _ _ _ => sts_nil) (fun _ _ _ _ _ => se_fn F_is_lot (hr.mono (by decide)) rfl (sa_cons (se_fz 1) (sa_nil)) (hlen := (alen_cons alen_nil)))) (sa_nil))))))))
def n_require_lots : List Str := ["value"]
theorem nd_require_lots : n_require_lots.Nodup := by decide +kernel
def m_require_lots : FS := sIf (mNot (mT (eFn g_are_lots (aCons (eFz 0) (aNil))) truD)) (sNev) (sNil)
def g_require_lots : List PyData → Option Res := runP 1 1 m_require_lots
theorem w_require_lots (md : Md mg) (F : FunD K "require_lots" "require_lots" (defArgs s_require_lots) (defBody s_require_lots) (defScope s_require_lots) [] [] fA fd) (hm : mg "require_lots" = some (.ref fA)) (F_are_lots : Fn P w K mg base 4 "are_lots" (spP K 1 g_are_lots)) : Fn P w K mg base 5 "require_lots" (spP K 1 g_require_lots) :=
  fn_p (N := n_require_lots) (ps := ["value"]) (fb := m_require_lots) F ⟨rfl, rfl, rfl, nd_require_lots, rfl, by decide +kernel, by decide +kernel⟩ hm (F.bindsN fun _ _ _ _ _ _ us hl => match us, hl with | [_], _ => rfl) (fun cdv A outer s H E hr =>
    sss_one (ss_if (st_not (st_tr (se_fn F_are_lots (hr.mono (by decide)) rfl (sa_cons (se_fz 0) (sa_nil)) (hlen := (alen_cons alen_nil))))) (sss_one (ss_nev)) (sss_nil)))
def n_require_order : List Str := ["lots", "order"]
theorem nd_require_order : n_require_order.Nodup := by decide +kernel
def m_require_order : FS := sSeq (sEx (eFn g_require_lots (aCons (eFz 0) (aNil)))) (sIf (mNot (mT (eFn g_is_order (aCons (eFz 0) (aCons (eFz 1) (aNil)))) truD)) (sNev) (sNil))
def g_require_order : List PyData → Option Res := runP 2 2 m_require_order
theorem w_require_order (md : Md mg) (F : FunD K "require_order" "require_order" (defArgs s_require_order) (defBody s_require_order) (defScope s_require_order) [] [] fA fd) (hm : mg "require_order" = some (.ref fA)) (F_require_lots : Fn P w K mg base 5 "require_lots" (spP K 1 g_require_lots)) (F_is_order : Fn P w K mg base 3 "is_order" (spP K 2 g_is_order)) : Fn P w K mg base 6 "require_order" (spP K 2 g_require_order) :=
  fn_p (N := n_require_order) (ps := ["lots", "order"]) (fb := m_require_order) F ⟨rfl, rfl, rfl, nd_require_order, rfl, by decide +kernel, by decide +kernel⟩ hm (F.bindsN fun _ _ _ _ _ _ us hl => match us, hl with | [_, _], _ => rfl) (fun cdv A outer s H E hr =>
    sss_cons (ss_ex (se_fn F_require_lots (hr.mono (by decide)) rfl (sa_cons (se_fz 0) (sa_nil)) (hlen := (alen_cons alen_nil)))) (sss_one (ss_if (st_not (st_tr (se_fn F_is_order (hr.mono (by decide)) rfl (sa_cons (se_fz 0) (sa_cons (se_fz 1) (sa_nil))) (hlen := (alen_cons (alen_cons alen_nil)))))) (sss_one (ss_nev)) (sss_nil))))
def n_strands : List Str := ["lots"]
theorem nd_strands : n_strands.Nodup := by decide +kernel
def m_strands : FS := sSeq (sEx (eFn g_require_lots (aCons (eFz 0) (aNil)))) (sRet (eCB tupleD (aCons (eFn g_strands_in (aCons (eFz 0) (aNil))) (aNil))))
def g_strands : List PyData → Option Res := runP 1 1 m_strands
theorem w_strands (md : Md mg) (F : FunD K "strands" "strands" (defArgs s_strands) (defBody s_strands) (defScope s_strands) [] [] fA fd) (hm : mg "strands" = some (.ref fA)) (F_require_lots : Fn P w K mg base 5 "require_lots" (spP K 1 g_require_lots)) (F_strands_in : Fn P w K mg base 3 "strands_in" (spP K 1 g_strands_in)) : Fn P w K mg base 6 "strands" (spP K 1 g_strands) :=
  fn_p (N := n_strands) (ps := ["lots"]) (fb := m_strands) F ⟨rfl, rfl, rfl, nd_strands, rfl, by decide +kernel, by decide +kernel⟩ hm (F.bindsN fun _ _ _ _ _ _ us hl => match us, hl with | [_], _ => rfl) (fun cdv A outer s H E hr =>
    sss_cons (ss_ex (se_fn F_require_lots (hr.mono (by decide)) rfl (sa_cons (se_fz 0) (sa_nil)) (hlen := (alen_cons alen_nil)))) (sss_one (ss_ret (se_cbT c_tuple csp md.b_tuple bt_tuple (sa_cons (se_fn F_strands_in (hr.mono (by decide)) rfl (sa_cons (se_fz 0) (sa_nil)) (hlen := (alen_cons alen_nil))) (sa_nil))))))
def n_borne : List Str := ["lots", "order"]
theorem nd_borne : n_borne.Nodup := by decide +kernel
def m_borne : FS := sSeq (sEx (eFn g_require_order (aCons (eFz 0) (aCons (eFz 1) (aNil))))) (sRet (eFn g_borne_in (aCons (eFz 0) (aCons (eFz 1) (aNil)))))
def g_borne : List PyData → Option Res := runP 2 2 m_borne
theorem w_borne (md : Md mg) (F : FunD K "borne" "borne" (defArgs s_borne) (defBody s_borne) (defScope s_borne) [] [] fA fd) (hm : mg "borne" = some (.ref fA)) (F_require_order : Fn P w K mg base 6 "require_order" (spP K 2 g_require_order)) (F_borne_in : Fn P w K mg base 3 "borne_in" (spP K 2 g_borne_in)) : Fn P w K mg base 7 "borne" (spP K 2 g_borne) :=
  fn_p (N := n_borne) (ps := ["lots", "order"]) (fb := m_borne) F ⟨rfl, rfl, rfl, nd_borne, rfl, by decide +kernel, by decide +kernel⟩ hm (F.bindsN fun _ _ _ _ _ _ us hl => match us, hl with | [_, _], _ => rfl) (fun cdv A outer s H E hr =>
    sss_cons (ss_ex (se_fn F_require_order (hr.mono (by decide)) rfl (sa_cons (se_fz 0) (sa_cons (se_fz 1) (sa_nil))) (hlen := (alen_cons (alen_cons alen_nil))))) (sss_one (ss_ret (se_fn F_borne_in (hr.mono (by decide)) rfl (sa_cons (se_fz 0) (sa_cons (se_fz 1) (sa_nil))) (hlen := (alen_cons (alen_cons alen_nil)))))))
def n_weak_stretch : List Str := ["lots", "order"]
theorem nd_weak_stretch : n_weak_stretch.Nodup := by decide +kernel
def m_weak_stretch : FS := sSeq (sEx (eFn g_require_order (aCons (eFz 0) (aCons (eFz 1) (aNil))))) (sRet (eFn g_weak_in (aCons (eFz 0) (aCons (eFz 1) (aNil)))))
def g_weak_stretch : List PyData → Option Res := runP 2 2 m_weak_stretch
theorem w_weak_stretch (md : Md mg) (F : FunD K "weak_stretch" "weak_stretch" (defArgs s_weak_stretch) (defBody s_weak_stretch) (defScope s_weak_stretch) [] [] fA fd) (hm : mg "weak_stretch" = some (.ref fA)) (F_require_order : Fn P w K mg base 6 "require_order" (spP K 2 g_require_order)) (F_weak_in : Fn P w K mg base 2 "weak_in" (spP K 2 g_weak_in)) : Fn P w K mg base 7 "weak_stretch" (spP K 2 g_weak_stretch) :=
  fn_p (N := n_weak_stretch) (ps := ["lots", "order"]) (fb := m_weak_stretch) F ⟨rfl, rfl, rfl, nd_weak_stretch, rfl, by decide +kernel, by decide +kernel⟩ hm (F.bindsN fun _ _ _ _ _ _ us hl => match us, hl with | [_, _], _ => rfl) (fun cdv A outer s H E hr =>
    sss_cons (ss_ex (se_fn F_require_order (hr.mono (by decide)) rfl (sa_cons (se_fz 0) (sa_cons (se_fz 1) (sa_nil))) (hlen := (alen_cons (alen_cons alen_nil))))) (sss_one (ss_ret (se_fn F_weak_in (hr.mono (by decide)) rfl (sa_cons (se_fz 0) (sa_cons (se_fz 1) (sa_nil))) (hlen := (alen_cons (alen_cons alen_nil)))))))
def n__law_right : List Str := ["_law_tray_here", "_law_lots_here", "_law_turn", "_law_order_here", "_law_due"]
theorem nd__law_right : n__law_right.Nodup := by decide +kernel
def m__law_right : FS := sSeq (sSet 1 (eIO 0 g__law_lots (aCons (eC (.int 5)) (aNil)))) (sSeq (sIf (mT (eOp2 neD (eCB listD (aCons (eFn g_strands (aCons (eFz 1) (aNil))) (aNil))) (eFn g__law_strands (aCons (eFz 1) (aNil)))) boolD) (sRet (eC (.bool false))) (sNil)) (sSeq (sFor (iR (aCons (eC (.int 2)) (aNil))) (bN 2) (sSeq (sSet 3 (eIO 0 g__law_order (aCons (eFz 1) (aNil)))) (sSeq (sSet 4 (eFn g__law_weak (aCons (eFz 1) (aCons (eFz 3) (aNil))))) (sSeq (sIf (mOr (mT (eOp2 neD (eFn g_weak_stretch (aCons (eFz 1) (aCons (eFz 3) (aNil)))) (eV 4)) boolD) (mT (eOp2 neD (eFn g_borne (aCons (eFz 1) (aCons (eFz 3) (aNil)))) (eOp2 subD (eOp2 subD (eOp2 ixD (eV 4) (eC (.int 1))) (eOp2 ixD (eV 4) (eC (.int 0)))) (eC (.int 1)))) boolD)) (sRet (eC (.bool false))) (sNil)) (sIf (mT (eOp2 neD (eFn g_borne (aCons (eFz 1) (aCons (eFz 3) (aNil)))) (eFn g__law_by_strands (aCons (eFz 1) (aCons (eFz 3) (aNil))))) boolD) (sRet (eC (.bool false))) (sNil)))))) (sRet (eC (.bool true)))))
def g__law_right : List PyData → List PyData → Option (Res × List PyData) := runIO 5 0 m__law_right
theorem w__law_right (md : Md mg) (F : FunD K "_law_right" "_law_right" (defArgs s__law_right) (defBody s__law_right) (defScope s__law_right) [] [] fA fd) (hm : mg "_law_right" = some (.ref fA)) (F_strands : Fn P w K mg base 6 "strands" (spP K 1 g_strands)) (F_borne : Fn P w K mg base 7 "borne" (spP K 2 g_borne)) (F_weak_stretch : Fn P w K mg base 7 "weak_stretch" (spP K 2 g_weak_stretch)) (F__law_lots : Fn P w K mg base 3 "_law_lots" (spIO K 1 g__law_lots)) (F__law_order : Fn P w K mg base 2 "_law_order" (spIO K 1 g__law_order)) (F__law_weak : Fn P w K mg base 2 "_law_weak" (spP K 2 g__law_weak)) (F__law_strands : Fn P w K mg base 1 "_law_strands" (spP K 1 g__law_strands)) (F__law_by_strands : Fn P w K mg base 2 "_law_by_strands" (spP K 2 g__law_by_strands)) : Fn P w K mg base 8 "_law_right" (spIO K 0 g__law_right) :=
  fn_io (N := n__law_right) (x0 := "_law_tray_here") (ps' := []) (fb := m__law_right) F ⟨rfl, rfl, rfl, nd__law_right, rfl, by decide +kernel, by decide +kernel⟩ hm (F.bindsN fun _ _ _ _ _ _ us hl => match us, hl with | [_], _ => rfl) (fun cdv A outer s H E hr =>
    sss_cons (ss_set nd__law_right (i := 1) (se_io (i := 0) F__law_lots (hr.mono (by decide)) rfl (sa_cons (se_int) (sa_nil)) (alen_cons alen_nil))) (sss_cons (ss_if (st_cmp (o_ne hr) opsp (se_cbT c_list csp md.b_list bt_list (sa_cons (se_fn F_strands (hr.mono (by decide)) rfl (sa_cons (se_fz 1) (sa_nil)) (hlen := (alen_cons alen_nil))) (sa_nil))) (se_fn F__law_strands (hr.mono (by decide)) rfl (sa_cons (se_fz 1) (sa_nil)) (hlen := (alen_cons alen_nil))) (nomark _)) (sss_one (ss_ret (se_bl))) (sss_nil)) (sss_cons (ss_for PassesOwn.never rfl (si_r1 md.b_range (sa_cons (se_int) (sa_nil)) (alen_cons alen_nil)) (sg_n 2 nd__law_right) (sss_cons (ss_set nd__law_right (i := 3) (se_io (i := 0) F__law_order (hr.mono (by decide)) rfl (sa_cons (se_fz 1) (sa_nil)) (alen_cons alen_nil))) (sss_cons (ss_set nd__law_right (i := 4) (se_fn F__law_weak (hr.mono (by decide)) rfl (sa_cons (se_fz 1) (sa_cons (se_fz 3) (sa_nil))) (hlen := (alen_cons (alen_cons alen_nil))))) (sss_cons (ss_if (st_w (sw_or (st_cmp (o_ne hr) opsp (se_fn F_weak_stretch (hr.mono (by decide)) rfl (sa_cons (se_fz 1) (sa_cons (se_fz 3) (sa_nil))) (hlen := (alen_cons (alen_cons alen_nil)))) (se_v 4) (nomark _)) (sw_or1 (st_cmp (o_ne hr) opsp (se_fn F_borne (hr.mono (by decide)) rfl (sa_cons (se_fz 1) (sa_cons (se_fz 3) (sa_nil))) (hlen := (alen_cons (alen_cons alen_nil)))) (se_op2 o_sub opsp (se_op2 o_sub opsp (se_ix x_ix opsp (se_v 4) (se_int) (by intro _ _; rfl)) (se_ix x_ix opsp (se_v 4) (se_int) (by intro _ _; rfl))) (se_int)) (nomark _))))) (sss_one (ss_ret (se_bl))) (sss_nil)) (sss_one (ss_if (st_cmp (o_ne hr) opsp (se_fn F_borne (hr.mono (by decide)) rfl (sa_cons (se_fz 1) (sa_cons (se_fz 3) (sa_nil))) (hlen := (alen_cons (alen_cons alen_nil)))) (se_fn F__law_by_strands (hr.mono (by decide)) rfl (sa_cons (se_fz 1) (sa_cons (se_fz 3) (sa_nil))) (hlen := (alen_cons (alen_cons alen_nil)))) (nomark _)) (sss_one (ss_ret (se_bl))) (sss_nil))))))) (sss_one (ss_ret (se_bl)))))) (by decide)
def n_law : List Str := ["_law_script", "_law_spot", "_law_lots_here", "_law_told"]
theorem nd_law : n_law.Nodup := by decide +kernel
def m_law : FS := sSeq (sFor (iR (aCons (eCB maxL (aCons (eC (.int 1)) (aCons (eCB minL (aCons (eC (.int 4)) (aCons (eCB lenD (aCons (eV 0) (aNil))) (aNil)))) (aNil)))) (aNil))) (bN 1) (sIf (mNot (mT (eIOt (eFn g__law_tray (aCons (eFz 0) (aCons (eFz 1) (aNil)))) g__law_right (aNil)) truD)) (sRet (eC (.bool false))) (sNil))) (sSeq (sSet 2 (eTup (aCons (eTup (aCons (eC (.int 4)) (aCons (eC (.int 2)) (aNil)))) (aCons (eTup (aCons (eC (.int 3)) (aCons (eC (.int 2)) (aNil)))) (aNil))))) (sSeq (sSet 3 (eLst (aCons (eFn g_borne (aCons (eFz 2) (aCons (eTup (aCons (eC (.int 0)) (aCons (eC (.int 1)) (aCons (eC (.int 0)) (aCons (eC (.int 1)) (aCons (eC (.int 0)) (aCons (eC (.int 1)) (aCons (eC (.int 0)) (aNil))))))))) (aNil)))) (aCons (eFn g_weak_stretch (aCons (eFz 2) (aCons (eTup (aCons (eC (.int 0)) (aCons (eC (.int 0)) (aCons (eC (.int 0)) (aCons (eC (.int 0)) (aCons (eC (.int 1)) (aCons (eC (.int 1)) (aCons (eC (.int 1)) (aNil))))))))) (aNil)))) (aCons (eFn g_strands (aCons (eTup (aCons (eTup (aCons (eC (.int 5)) (aCons (eC (.int 5)) (aNil)))) (aNil))) (aNil))) (aNil)))))) (sSeq (sIf (mOr (mT (eOp2 neD (eV 3) (eLst (aCons (eC (.int 2)) (aCons (eTup (aCons (eC (.int 4)) (aCons (eC (.int 6)) (aCons (eC (.int 1)) (aNil))))) (aCons (eTup (aNil)) (aNil)))))) boolD) (mT (eOp2 neD (eFn g_strands (aCons (eFz 2) (aNil))) (eTup (aCons (eTup (aCons (eC (.int 0)) (aCons (eC (.int 0)) (aCons (eC (.int 2)) (aNil))))) (aCons (eTup (aCons (eC (.int 0)) (aCons (eC (.int 1)) (aCons (eC (.int 2)) (aNil))))) (aCons (eTup (aCons (eC (.int 1)) (aCons (eC (.int 0)) (aCons (eC (.int 3)) (aNil))))) (aNil)))))) boolD)) (sRet (eC (.bool false))) (sNil)) (sRet (eAnd (eOp2 eqD (eFn g_borne (aCons (eTup (aCons (eTup (aCons (eC (.int 1)) (aCons (eC (.int 1)) (aNil)))) (aNil))) (aCons (eTup (aCons (eC (.int 0)) (aNil))) (aNil)))) (eC (.int 0))) (eOp2 eqD (eFn g_weak_stretch (aCons (eTup (aCons (eTup (aCons (eC (.int 2)) (aCons (eC (.int 1)) (aNil)))) (aCons (eTup (aCons (eC (.int 1)) (aCons (eC (.int 1)) (aNil)))) (aNil)))) (aCons (eTup (aCons (eC (.int 0)) (aCons (eC (.int 0)) (aCons (eC (.int 1)) (aNil))))) (aNil)))) (eTup (aCons (eC (.int 2)) (aCons (eC (.int 3)) (aCons (eC (.int 1)) (aNil)))))))))))
def g_law : List PyData → Option Res := runP 4 1 m_law
theorem w_law (md : Md mg) (F : FunD K "law" "law" (defArgs s_law) (defBody s_law) (defScope s_law) [] [] fA fd) (hm : mg "law" = some (.ref fA)) (F_strands : Fn P w K mg base 6 "strands" (spP K 1 g_strands)) (F_borne : Fn P w K mg base 7 "borne" (spP K 2 g_borne)) (F_weak_stretch : Fn P w K mg base 7 "weak_stretch" (spP K 2 g_weak_stretch)) (F__law_tray : Fn P w K mg base 1 "_law_tray" (spP K 2 g__law_tray)) (F__law_right : Fn P w K mg base 8 "_law_right" (spIO K 0 g__law_right)) : FnOk P w K mg base CX0 9 fA fd ["_law_script"] (spP K 1 g_law) :=
  fnok_p (N := n_law) (ps := ["_law_script"]) (fb := m_law) F ⟨rfl, rfl, rfl, nd_law, rfl, by decide +kernel, by decide +kernel⟩ (fun cdv A outer s H E hr =>
    sss_cons (ss_for PassesOwn.never rfl (si_r1 md.b_range (sa_cons (se_cb (c_max hr rfl) csp md.b_max bt_max (sa_cons (se_int) (sa_cons (se_cb (c_min hr rfl) csp md.b_min bt_min (sa_cons (se_int) (sa_cons (se_cb c_len csp md.b_len bt_len (sa_cons (se_v 0) (sa_nil))) (sa_nil)))) (sa_nil)))) (sa_nil)) (alen_cons alen_nil)) (sg_n 1 nd_law) (sss_one (ss_if (st_not (st_tr (se_ioT F__law_right (hr.mono (by decide)) rfl (se_fn F__law_tray (hr.mono (by decide)) rfl (sa_cons (se_fz 0) (sa_cons (se_fz 1) (sa_nil))) (hlen := (alen_cons (alen_cons alen_nil)))) (sa_nil) alen_nil))) (sss_one (ss_ret (se_bl))) (sss_nil)))) (sss_cons (ss_set nd_law (i := 2) (se_tup (sa_cons (se_tup (sa_cons (se_int) (sa_cons (se_int) (sa_nil)))) (sa_cons (se_tup (sa_cons (se_int) (sa_cons (se_int) (sa_nil)))) (sa_nil))))) (sss_cons (ss_set nd_law (i := 3) (se_lst (sa_cons (se_fn F_borne (hr.mono (by decide)) rfl (sa_cons (se_fz 2) (sa_cons (se_tup (sa_cons (se_int) (sa_cons (se_int) (sa_cons (se_int) (sa_cons (se_int) (sa_cons (se_int) (sa_cons (se_int) (sa_cons (se_int) (sa_nil))))))))) (sa_nil))) (hlen := (alen_cons (alen_cons alen_nil)))) (sa_cons (se_fn F_weak_stretch (hr.mono (by decide)) rfl (sa_cons (se_fz 2) (sa_cons (se_tup (sa_cons (se_int) (sa_cons (se_int) (sa_cons (se_int) (sa_cons (se_int) (sa_cons (se_int) (sa_cons (se_int) (sa_cons (se_int) (sa_nil))))))))) (sa_nil))) (hlen := (alen_cons (alen_cons alen_nil)))) (sa_cons (se_fn F_strands (hr.mono (by decide)) rfl (sa_cons (se_tup (sa_cons (se_tup (sa_cons (se_int) (sa_cons (se_int) (sa_nil)))) (sa_nil))) (sa_nil)) (hlen := (alen_cons alen_nil))) (sa_nil)))))) (sss_cons (ss_if (st_w (sw_or (st_cmp (o_ne hr) opsp (se_v 3) (se_lst (sa_cons (se_int) (sa_cons (se_tup (sa_cons (se_int) (sa_cons (se_int) (sa_cons (se_int) (sa_nil))))) (sa_cons (se_tup (sa_nil)) (sa_nil))))) (nomark _)) (sw_or1 (st_cmp (o_ne hr) opsp (se_fn F_strands (hr.mono (by decide)) rfl (sa_cons (se_fz 2) (sa_nil)) (hlen := (alen_cons alen_nil))) (se_tup (sa_cons (se_tup (sa_cons (se_int) (sa_cons (se_int) (sa_cons (se_int) (sa_nil))))) (sa_cons (se_tup (sa_cons (se_int) (sa_cons (se_int) (sa_cons (se_int) (sa_nil))))) (sa_cons (se_tup (sa_cons (se_int) (sa_cons (se_int) (sa_cons (se_int) (sa_nil))))) (sa_nil))))) (nomark _))))) (sss_one (ss_ret (se_bl))) (sss_nil)) (sss_one (ss_ret (se_and (se_cmp (o_eq hr) opsp (se_fn F_borne (hr.mono (by decide)) rfl (sa_cons (se_tup (sa_cons (se_tup (sa_cons (se_int) (sa_cons (se_int) (sa_nil)))) (sa_nil))) (sa_cons (se_tup (sa_cons (se_int) (sa_nil))) (sa_nil))) (hlen := (alen_cons (alen_cons alen_nil)))) (se_int) (nomark _)) (se_one (se_cmp (o_eq hr) opsp (se_fn F_weak_stretch (hr.mono (by decide)) rfl (sa_cons (se_tup (sa_cons (se_tup (sa_cons (se_int) (sa_cons (se_int) (sa_nil)))) (sa_cons (se_tup (sa_cons (se_int) (sa_cons (se_int) (sa_nil)))) (sa_nil)))) (sa_cons (se_tup (sa_cons (se_int) (sa_cons (se_int) (sa_cons (se_int) (sa_nil))))) (sa_nil))) (hlen := (alen_cons (alen_cons alen_nil)))) (se_tup (sa_cons (se_int) (sa_cons (se_int) (sa_cons (se_int) (sa_nil))))) (nomark _))))))))))
end
end Wk

namespace Wk
open PySem PySem.Spec L2 Ly
theorem kit_ii : L2.kitB "int" "int" = some true := by decide +kernel
theorem kit_ib : L2.kitB "int" "bool" = some false := by decide +kernel
theorem kit_tt : L2.kitB "tuple" "tuple" = some true := by decide +kernel
theorem isi_ii (i : Int) : isiD "int" (.int i) = some (.dat (.bool true)) := by show (L2.kitB "int" "int").map _ = _; rw [kit_ii]; rfl
theorem isi_ib (i : Int) : isiD "bool" (.int i) = some (.dat (.bool false)) := by show (L2.kitB "int" "bool").map _ = _; rw [kit_ib]; rfl
theorem isi_tt (xs : List PyData) : isiD "tuple" (.tuple xs) = some (.dat (.bool true)) := by show (L2.kitB "tuple" "tuple").map _ = _; rw [kit_tt]; rfl
theorem e_is_whole (i : Int) : g_is_whole [.int i] = some (.dat (.bool true)) := by
  unfold g_is_whole m_is_whole
  simp only [isi_ii, isi_ib, runP, ss0, toRes, sRet, sSet, sEx, sUn, put1, sNil, sSetIx, eV, eFz, eMv, eC, eOp2, eUn, eCB, eFn, eIO, eIOt, eAnd, eOr, eNot, notD, eIf, eChain, eTup, eLst, aNil, aCons, mT, mNot, mAnd, mOr, mYes, boolD, truD, val, vals, frz, frzs, Res.ev, opn, bN, bT, bsCons, bsNil, wipeS, pNo, pSo, eApp, eExt, List.length_cons, List.map_cons, List.getElem?_cons_zero, List.getElem?_cons_succ, List.length_nil, if_true, if_false, List.map_nil, List.cons_append, List.nil_append, Option.bind_some, Option.map_some, List.set_cons_zero, List.set_cons_succ, List.replicate, Nat.reduceAdd, Nat.reduceSub, Nat.reduceEqDiff, Bool.not_true, Bool.not_false, Bool.false_eq_true, reduceCtorEq, reduceIte]
theorem e_is_within (v a b : Nat) : g_is_within [N v, N a, N b] = some (.dat (.bool (decide (a ≤ v) && decide (v ≤ b)))) := by
  unfold g_is_within m_is_within
  simp only [e_is_whole, leD_nat, runP, ss0, toRes, sRet, sSet, sEx, sUn, put1, sNil, sSetIx, eV, eFz, eMv, eC, eOp2, eUn, eCB, eFn, eIO, eIOt, eAnd, eOr, eNot, notD, eIf, eChain, eTup, eLst, aNil, aCons, mT, mNot, mAnd, mOr, mYes, boolD, truD, val, vals, frz, frzs, Res.ev, opn, bN, bT, bsCons, bsNil, wipeS, pNo, pSo, eApp, eExt, List.length_cons, List.map_cons, List.getElem?_cons_zero, List.getElem?_cons_succ, List.length_nil, if_true, if_false, List.map_nil, List.cons_append, List.nil_append, Option.bind_some, Option.map_some, List.set_cons_zero, List.set_cons_succ, List.replicate, Nat.reduceAdd, Nat.reduceSub, Nat.reduceEqDiff, Bool.not_true, Bool.not_false, Bool.false_eq_true, reduceCtorEq, reduceIte]
  by_cases h4 : a ≤ v <;> simp [h4, toRes]
/-! ### lots -/
abbrev lotP (p : Nat × Nat) : PyData := T [N p.1, N p.2]
abbrev lotsP (L : List (Nat × Nat)) : PyData := T (L.map lotP)
abbrev ordP (o : List Nat) : PyData := T (o.map N)
structure Ok (L : List (Nat × Nat)) : Prop where
  ne : L ≠ []
  le : L.length ≤ 12
  lot : ∀ p ∈ L, 1 ≤ p.2 ∧ p.2 ≤ p.1 ∧ p.1 ≤ 16
theorem big64 {n : Nat} (h : n ≤ 1000) : n ≤ big := Nat.le_trans h (by decide)
theorem e_lost_by {p : Nat × Nat} (h : p.2 ≤ p.1) : g_lost_by [lotP p] = some (.dat (N (p.1 - p.2))) := by
  show some (Res.dat (.int ((p.1 : Int) - p.2))) = _
  rw [← Int.ofNat_sub h]
theorem sum_N (l : List Nat) : intsOf (l.map N) = some (l.map Int.ofNat) := by
  have := intsOf_map (l.map Int.ofNat)
  rw [List.map_map] at this
  exact this
theorem sum_cast (l : List Nat) : (l.map Int.ofNat).sum = ((l.sum : Nat) : Int) := by
  induction l with
  | nil => rfl
  | cons a l ih =>
    rw [List.map_cons, List.sum_cons, ih, List.sum_cons]
    rfl
theorem e_frames_in {L : List (Nat × Nat)} (h : L.length ≤ 12) : g_frames_in [lotsP L] = some (.dat (N (L.map (·.1)).sum)) := by
  have hl : lcLoop (bN 1) mYes (eOp2 ixD (eV 1) (eC (.int 0))) [1] (L.map lotP) [.dat (lotsP L), .un] = some (L.map fun p => N p.1, [.dat (lotsP L), .un]) :=
    lcLoop_all lotP (fun p => N p.1) L fun p _ => ⟨_, rfl, _, _, rfl, rfl, rfl⟩
  have he : eLc (iD (eFz 0)) (bN 1) mYes (eOp2 ixD (eV 1) (eC (.int 0))) [1] [.dat (lotsP L), .un] = some (.own (L.map fun p => N p.1), [.dat (lotsP L), .un]) :=
    eLc_of (s1 := [.dat (lotsP L), .un]) rfl hl (by rw [List.length_map]; exact big64 (by omega))
  have hs : sumD [.list (L.map fun p => N p.1)] = some (.dat (N (L.map (·.1)).sum)) := by
    have := sum_N (L.map (·.1))
    rw [List.map_map] at this
    show (intsOf _).map _ = _
    rw [show (L.map fun p => N p.1) = L.map (N ∘ fun p => p.1) from rfl, this]
    show some (Res.dat (.int _)) = _
    rw [sum_cast]
  unfold g_frames_in m_frames_in
  simp only [he, hs, runP, ss0, toRes, sRet, sSet, sEx, sUn, put1, sNil, sSetIx, eV, eFz, eMv, eC, eOp2, eUn, eCB, eFn, eIO, eIOt, eAnd, eOr, eNot, notD, eIf, eChain, eTup, eLst, aNil, aCons, mT, mNot, mAnd, mOr, mYes, boolD, truD, val, vals, frz, frzs, Res.ev, opn, bN, bT, bsCons, bsNil, wipeS, pNo, pSo, eApp, eExt, List.length_cons, List.map_cons, List.getElem?_cons_zero, List.getElem?_cons_succ, List.length_nil, if_true, if_false, List.map_nil, List.cons_append, List.nil_append, Option.bind_some, Option.map_some, List.set_cons_zero, List.set_cons_succ, List.replicate, Nat.reduceAdd, Nat.reduceSub, Nat.reduceEqDiff, Bool.not_true, Bool.not_false, Bool.false_eq_true, reduceCtorEq, reduceIte]
theorem e_is_lot {p : Nat × Nat} (h : 1 ≤ p.2 ∧ p.2 ≤ p.1 ∧ p.1 ≤ 16) : g_is_lot [lotP p] = some (.dat (.bool true)) := by
  have h0 : ixD (lotP p) (.int 0) = some (.dat (N p.1)) := rfl
  have h1 : ixD (lotP p) (.int 1) = some (.dat (N p.2)) := rfl
  have w1 := e_is_within p.1 1 16
  have w2 := e_is_within p.2 1 p.1
  have q1 : decide (1 ≤ p.1) = true := decide_eq_true (by omega)
  have q2 : decide (p.1 ≤ 16) = true := decide_eq_true (by omega)
  have q3 : decide (1 ≤ p.2) = true := decide_eq_true (by omega)
  have q4 : decide (p.2 ≤ p.1) = true := decide_eq_true (by omega)
  rw [q1, q2] at w1
  rw [q3, q4] at w2
  have w1 : g_is_within [N p.1, .int 1, .int 16] = some (.dat (.bool true)) := w1
  have w2 : g_is_within [N p.2, .int 1, N p.1] = some (.dat (.bool true)) := w2
  have hl : lenD [lotP p] = some (.dat (.int 2)) := rfl
  unfold g_is_lot m_is_lot
  refine runP_rt (ev := .dat (.bool true)) (s := [.dat (lotP p)]) rfl ((sSeq_nx (s1 := [.dat (lotP p)]) ((sIf_n (s1 := [.dat (lotP p)]) ?_).trans rfl)).trans ?_) rfl
  · simp only [isi_tt, h0, w1, hl, neD_int, runP, ss0, toRes, sRet, sSet, sEx, sUn, put1, sNil, sSetIx, eV, eFz, eMv, eC, eOp2, eUn, eCB, eFn, eIO, eIOt, eAnd, eOr, eNot, notD, eIf, eChain, eTup, eLst, aNil, aCons, mT, mNot, mAnd, mOr, mYes, boolD, truD, val, vals, frz, frzs, Res.ev, opn, bN, bT, bsCons, bsNil, wipeS, pNo, pSo, eApp, eExt, List.length_cons, List.map_cons, List.getElem?_cons_zero, List.getElem?_cons_succ, List.length_nil, if_true, if_false, List.map_nil, List.cons_append, List.nil_append, Option.bind_some, Option.map_some, List.set_cons_zero, List.set_cons_succ, List.replicate, Nat.reduceAdd, Nat.reduceSub, Nat.reduceEqDiff, Bool.not_true, Bool.not_false, Bool.false_eq_true, reduceCtorEq, reduceIte, decide_true]
  · simp only [h0, h1, w1, w2, runP, ss0, toRes, sRet, sSet, sEx, sUn, put1, sNil, sSetIx, eV, eFz, eMv, eC, eOp2, eUn, eCB, eFn, eIO, eIOt, eAnd, eOr, eNot, notD, eIf, eChain, eTup, eLst, aNil, aCons, mT, mNot, mAnd, mOr, mYes, boolD, truD, val, vals, frz, frzs, Res.ev, opn, bN, bT, bsCons, bsNil, wipeS, pNo, pSo, eApp, eExt, List.length_cons, List.map_cons, List.getElem?_cons_zero, List.getElem?_cons_succ, List.length_nil, if_true, if_false, List.map_nil, List.cons_append, List.nil_append, Option.bind_some, Option.map_some, List.set_cons_zero, List.set_cons_succ, List.replicate, Nat.reduceAdd, Nat.reduceSub, Nat.reduceEqDiff, Bool.not_true, Bool.not_false, Bool.false_eq_true, reduceCtorEq, reduceIte]
theorem all_true (n : Nat) : (List.replicate n true).all id = true := by
  induction n with
  | zero => rfl
  | succ n ih => rw [List.replicate_succ, List.all_cons, ih]; rfl
theorem allD_true {α : Type} (l : List α) : allD [.list (l.map fun _ => .bool true)] = some (.dat (.bool true)) := by
  have e : l.map (fun _ => PyData.bool true) = (List.replicate l.length true).map .bool := by
    induction l with
    | nil => rfl
    | cons a l ih => rw [List.map_cons, ih]; rfl
  show (boolsOf _).map _ = _
  rw [e, boolsOf_map]
  show some (Res.dat (.bool _)) = _
  rw [all_true]
theorem e_are_lots {L : List (Nat × Nat)} (h : Ok L) : g_are_lots [lotsP L] = some (.dat (.bool true)) := by
  have hl : lcLoop (bN 1) mYes (eFn g_is_lot (aCons (eFz 1) aNil)) [1] (L.map lotP) [.dat (lotsP L), .un] = some (L.map fun _ => .bool true, [.dat (lotsP L), .un]) :=
    lcLoop_all lotP (fun _ => .bool true) L fun p m => ⟨_, rfl, .dat (.bool true), [.dat (lotsP L), .dat (lotP p)], by
      have := e_is_lot (h.lot p m)
      simp only [this, runP, ss0, toRes, sRet, sSet, sEx, sUn, put1, sNil, sSetIx, eV, eFz, eMv, eC, eOp2, eUn, eCB, eFn, eIO, eIOt, eAnd, eOr, eNot, notD, eIf, eChain, eTup, eLst, aNil, aCons, mT, mNot, mAnd, mOr, mYes, boolD, truD, val, vals, frz, frzs, Res.ev, opn, bN, bT, bsCons, bsNil, wipeS, pNo, pSo, eApp, eExt, List.length_cons, List.map_cons, List.getElem?_cons_zero, List.getElem?_cons_succ, List.length_nil, if_true, if_false, List.map_nil, List.cons_append, List.nil_append, Option.bind_some, Option.map_some, List.set_cons_zero, List.set_cons_succ, List.replicate, Nat.reduceAdd, Nat.reduceSub, Nat.reduceEqDiff, Bool.not_true, Bool.not_false, Bool.false_eq_true, reduceCtorEq, reduceIte], rfl, rfl⟩
  have he : eLc (iD (eFz 0)) (bN 1) mYes (eFn g_is_lot (aCons (eFz 1) aNil)) [1] [.dat (lotsP L), .un] = some (.own (L.map fun _ => .bool true), [.dat (lotsP L), .un]) :=
    eLc_of (s1 := [.dat (lotsP L), .un]) rfl hl (by rw [List.length_map]; exact big64 (by have := h.le; omega))
  have hn : 1 ≤ L.length := List.length_pos_iff.mpr h.ne
  have hlen : lenD [lotsP L] = some (.dat (N L.length)) := by
    show some (Res.dat (N (L.map lotP).length)) = _
    rw [List.length_map]
  have q1 : leD (.int 1) (N L.length) = some (.dat (.bool true)) := by
    rw [show (PyData.int 1) = N 1 from rfl, leD_nat, decide_eq_true hn]
  have q2 : leD (N L.length) (.int 12) = some (.dat (.bool true)) := by
    rw [show (PyData.int 12) = N 12 from rfl, leD_nat, decide_eq_true h.le]
  unfold g_are_lots m_are_lots
  simp only [isi_tt, hlen, q1, q2, he, allD_true, runP, ss0, toRes, sRet, sSet, sEx, sUn, put1, sNil, sSetIx, eV, eFz, eMv, eC, eOp2, eUn, eCB, eFn, eIO, eIOt, eAnd, eOr, eNot, notD, eIf, eChain, eTup, eLst, aNil, aCons, mT, mNot, mAnd, mOr, mYes, boolD, truD, val, vals, frz, frzs, Res.ev, opn, bN, bT, bsCons, bsNil, wipeS, pNo, pSo, eApp, eExt, List.length_cons, List.map_cons, List.getElem?_cons_zero, List.getElem?_cons_succ, List.length_nil, if_true, if_false, List.map_nil, List.cons_append, List.nil_append, Option.bind_some, Option.map_some, List.set_cons_zero, List.set_cons_succ, List.replicate, Nat.reduceAdd, Nat.reduceSub, Nat.reduceEqDiff, Bool.not_true, Bool.not_false, Bool.false_eq_true, reduceCtorEq, reduceIte]
theorem e_require_lots {L : List (Nat × Nat)} (h : Ok L) : g_require_lots [lotsP L] = some (.dat .none) := by
  have := e_are_lots h
  unfold g_require_lots m_require_lots
  refine runP_nx (s := [.dat (lotsP L)]) rfl ((sIf_n (s1 := [.dat (lotsP L)]) ?_).trans rfl)
  simp only [this, runP, ss0, toRes, sRet, sSet, sEx, sUn, put1, sNil, sSetIx, eV, eFz, eMv, eC, eOp2, eUn, eCB, eFn, eIO, eIOt, eAnd, eOr, eNot, notD, eIf, eChain, eTup, eLst, aNil, aCons, mT, mNot, mAnd, mOr, mYes, boolD, truD, val, vals, frz, frzs, Res.ev, opn, bN, bT, bsCons, bsNil, wipeS, pNo, pSo, eApp, eExt, List.length_cons, List.map_cons, List.getElem?_cons_zero, List.getElem?_cons_succ, List.length_nil, if_true, if_false, List.map_nil, List.cons_append, List.nil_append, Option.bind_some, Option.map_some, List.set_cons_zero, List.set_cons_succ, List.replicate, Nat.reduceAdd, Nat.reduceSub, Nat.reduceEqDiff, Bool.not_true, Bool.not_false, Bool.false_eq_true, reduceCtorEq, reduceIte]
end Wk

namespace Wk
open PySem PySem.Spec L2 Ly
/-! ### strands -/
def cntS (m d s : Nat) : Nat := ((List.range m).filter fun a => decide (a % d = s)).length
theorem rl_fin : ∀ m : Fin 17, ∀ d : Fin 17, ∀ s : Fin 17, s.1 < d.1 → ((b30 (s.1 : Int) && b30 (m.1 : Int) && b30 (d.1 : Int) && decide ((d.1 : Int) ≠ 0)) = true ∧ 0 ≤ rangeLen s.1 m.1 d.1 ∧ (rangeLen s.1 m.1 d.1).natAbs < 2 ^ 62) ∧ rangeLen s.1 m.1 d.1 = (cntS m.1 d.1 s.1 : Nat) := by decide +kernel
theorem e_strand_length {p : Nat × Nat} {s : Nat} (h : p.2 ≤ p.1) (h16 : p.1 ≤ 16) (hs : s < p.1 - p.2) : g_strand_length [lotP p, N s] = some (.dat (N (cntS p.1 (p.1 - p.2) s))) := by
  obtain ⟨h1, h2⟩ := rl_fin ⟨p.1, by omega⟩ ⟨p.1 - p.2, by omega⟩ ⟨s, by omega⟩ hs
  have h0 : ixD (lotP p) (.int 0) = some (.dat (N p.1)) := rfl
  unfold g_strand_length m_strand_length
  simp only [eLenR3, h0, e_lost_by h, runP, ss0, toRes, sRet, sSet, sEx, sUn, put1, sNil, sSetIx, eV, eFz, eMv, eC, eOp2, eUn, eCB, eFn, eIO, eIOt, eAnd, eOr, eNot, notD, eIf, eChain, eTup, eLst, aNil, aCons, mT, mNot, mAnd, mOr, mYes, boolD, truD, val, vals, frz, frzs, Res.ev, opn, bN, bT, bsCons, bsNil, wipeS, pNo, pSo, eApp, eExt, List.length_cons, List.map_cons, List.getElem?_cons_zero, List.getElem?_cons_succ, List.length_nil, if_true, if_false, List.map_nil, List.cons_append, List.nil_append, Option.bind_some, Option.map_some, List.set_cons_zero, List.set_cons_succ, List.replicate, Nat.reduceAdd, Nat.reduceSub, Nat.reduceEqDiff, Bool.not_true, Bool.not_false, Bool.false_eq_true, reduceCtorEq, reduceIte]
  rw [if_pos h1]
  simp only [h2, runP, ss0, toRes, sRet, sSet, sEx, sUn, put1, sNil, sSetIx, eV, eFz, eMv, eC, eOp2, eUn, eCB, eFn, eIO, eIOt, eAnd, eOr, eNot, notD, eIf, eChain, eTup, eLst, aNil, aCons, mT, mNot, mAnd, mOr, mYes, boolD, truD, val, vals, frz, frzs, Res.ev, opn, bN, bT, bsCons, bsNil, wipeS, pNo, pSo, eApp, eExt, List.length_cons, List.map_cons, List.getElem?_cons_zero, List.getElem?_cons_succ, List.length_nil, if_true, if_false, List.map_nil, List.cons_append, List.nil_append, Option.bind_some, Option.map_some, List.set_cons_zero, List.set_cons_succ, List.replicate, Nat.reduceAdd, Nat.reduceSub, Nat.reduceEqDiff, Bool.not_true, Bool.not_false, Bool.false_eq_true, reduceCtorEq, reduceIte]
abbrev Tri := Nat × (Nat × Nat) × Nat
def rowZ (q : (Nat × Nat) × Nat) : List Tri := (List.range (q.1.1 - q.1.2)).map fun st => (q.2, q.1, st)
def allZ (L : List (Nat × Nat)) : List Tri := (L.zipIdx.map rowZ).flatten
def encZ (z : Tri) : PyData := T [N z.1, lotP z.2.1, N z.2.2]
def encS (z : Tri) : PyData := T [N z.1, N z.2.2, N (cntS z.2.1.1 (z.2.1.1 - z.2.1.2) z.2.2)]
theorem flat_le {α β : Type} {f : α → List β} {k : Nat} : ∀ xs : List α, (∀ x ∈ xs, (f x).length ≤ k) → ((xs.map f).flatten).length ≤ k * xs.length
  | [], _ => by simp
  | x :: xs, h => by
    have h1 := h x List.mem_cons_self
    have h2 := flat_le xs fun y m => h y (List.mem_cons_of_mem _ m)
    rw [List.map_cons, List.flatten_cons, List.length_append, List.length_cons, Nat.mul_succ]
    omega
theorem mem_zipIdx {α : Type} : ∀ {xs : List α} {k : Nat} {q : α × Nat}, q ∈ xs.zipIdx k → q.1 ∈ xs ∧ k ≤ q.2 ∧ q.2 < k + xs.length ∧ xs[q.2 - k]? = some q.1
  | [], _, _, h => by simp at h
  | x :: xs, k, q, h => by
    rw [List.zipIdx_cons] at h
    rcases List.mem_cons.mp h with h | h
    · subst h
      simp
    · obtain ⟨h1, h2, h3, h4⟩ := mem_zipIdx h
      refine ⟨List.mem_cons_of_mem _ h1, by omega, by rw [List.length_cons]; omega, ?_⟩
      rw [show q.2 - k = (q.2 - (k + 1)) + 1 by omega, List.getElem?_cons_succ]
      exact h4
theorem mem_allZ {L : List (Nat × Nat)} {z : Tri} (h : z ∈ allZ L) : z.2.1 ∈ L ∧ L[z.1]? = some z.2.1 ∧ z.2.2 < z.2.1.1 - z.2.1.2 := by
  unfold allZ at h
  obtain ⟨l, h1, h2⟩ := List.mem_flatten.mp h
  obtain ⟨q, h3, h4⟩ := List.mem_map.mp h1
  subst h4
  unfold rowZ at h2
  obtain ⟨st, h5, h6⟩ := List.mem_map.mp h2
  subst h6
  obtain ⟨m1, _, _, m2⟩ := mem_zipIdx h3
  exact ⟨m1, by simpa using m2, List.mem_range.mp h5⟩
theorem rowZ_le {L : List (Nat × Nat)} (h : Ok L) : ∀ q ∈ L.zipIdx, (rowZ q).length ≤ 16 := fun q m => by
  unfold rowZ
  rw [List.length_map, List.length_range]
  have := h.lot q.1 (mem_zipIdx m).1
  omega
theorem allZ_le {L : List (Nat × Nat)} (h : Ok L) : (allZ L).length ≤ 192 := by
  have := flat_le L.zipIdx (rowZ_le h)
  rw [List.length_zipIdx] at this
  have := h.le
  show ((L.zipIdx.map rowZ).flatten).length ≤ _
  omega
theorem enum_lots (L : List (Nat × Nat)) : enumD 0 (L.map lotP) = L.zipIdx.map fun q => T [N q.2, lotP q.1] := enumD_map lotP L 0
theorem bnd_nat {n : Nat} (h : n ≤ 1000) : bnd (n : Int) = true := by
  exact decide_eq_true (by omega)
theorem iR_of {g : M (List EV)} {ss s1 : SS} {j : Int} (h : g ss = some ([.dat (.int j)], s1)) (hb : bnd j = true) : iR g ss = some (rngD 0 j.toNat, s1) := by
  have e : iR g ss = if bnd j = true then some (rngD 0 j.toNat, s1) else none := by
    unfold iR
    rw [h]
    rfl
  rw [e, if_pos hb]
theorem aCons_one {f : M EV} {ss s1 : SS} {e : EV} (h : f ss = some (e, s1)) : aCons f aNil ss = some ([e], s1) := by
  unfold aCons
  rw [h]
  rfl
theorem iR_one {f : M EV} {ss s1 : SS} {n : Nat} (h : f ss = some (.dat (N n), s1)) (hn : n ≤ 1000) : iR (aCons f aNil) ss = some ((List.range n).map N, s1) := by
  rw [iR_of (aCons_one h) (bnd_nat hn), Int.toNat_natCast, rngD_map]
theorem e_strands_in {L : List (Nat × Nat)} (h : Ok L) : g_strands_in [lotsP L] = some (.own ((allZ L).map encS)) := by
  have hz : ∀ q ∈ L.zipIdx, lcLoop (bN 4) mYes (eTup (aCons (eFz 2) (aCons (eFz 3) (aCons (eFz 4) aNil)))) [4] ((List.range (q.1.1 - q.1.2)).map N) [.dat (lotsP L), .un, .dat (N q.2), .dat (lotP q.1), .un] = some ((rowZ q).map encZ, [.dat (lotsP L), .un, .dat (N q.2), .dat (lotP q.1), .un]) := fun q m => by
    rw [lcLoop_all (ss := [.dat (lotsP L), .un, .dat (N q.2), .dat (lotP q.1), .un]) N (fun st => encZ (q.2, q.1, st)) (List.range (q.1.1 - q.1.2)) fun st _ => ⟨_, rfl, _, _, rfl, rfl, rfl⟩]
    unfold rowZ
    rw [List.map_map]
    rfl
  have h2 : lcLoop2 (bT 2 (bsCons (bN 2) (bsCons (bN 3) bsNil))) mYes (iR (aCons (eFn g_lost_by (aCons (eFz 3) aNil)) aNil)) (bN 4) mYes (eTup (aCons (eFz 2) (aCons (eFz 3) (aCons (eFz 4) aNil)))) [2, 3, 4] [4] (enumD 0 (L.map lotP)) [.dat (lotsP L), .un, .un, .un, .un] = some ((allZ L).map encZ, [.dat (lotsP L), .un, .un, .un, .un]) := by
    rw [enum_lots, lcLoop2_all (fun q : (Nat × Nat) × Nat => T [N q.2, lotP q.1]) (fun q => (rowZ q).map encZ) L.zipIdx fun q m => ?_]
    · unfold allZ
      rw [List.map_flatten, List.map_map]
      rfl
    · have hq := h.lot q.1 (mem_zipIdx m).1
      refine ⟨[.dat (lotsP L), .un, .dat (N q.2), .dat (lotP q.1), .un], (List.range (q.1.1 - q.1.2)).map N, [.dat (lotsP L), .un, .dat (N q.2), .dat (lotP q.1), .un], _, rfl, iR_one ?_ (by omega), hz q m, rfl⟩
      simp only [e_lost_by hq.2.1, runP, ss0, toRes, sRet, sSet, sEx, sUn, put1, sNil, sSetIx, eV, eFz, eMv, eC, eOp2, eUn, eCB, eFn, eIO, eIOt, eAnd, eOr, eNot, notD, eIf, eChain, eTup, eLst, aNil, aCons, mT, mNot, mAnd, mOr, mYes, boolD, truD, val, vals, frz, frzs, Res.ev, opn, bN, bT, bsCons, bsNil, wipeS, pNo, pSo, eApp, eExt, List.length_cons, List.map_cons, List.getElem?_cons_zero, List.getElem?_cons_succ, List.length_nil, if_true, if_false, List.map_nil, List.cons_append, List.nil_append, Option.bind_some, Option.map_some, List.set_cons_zero, List.set_cons_succ, List.replicate, Nat.reduceAdd, Nat.reduceSub, Nat.reduceEqDiff, Bool.not_true, Bool.not_false, Bool.false_eq_true, reduceCtorEq, reduceIte]
  have hpairs := eLc2_of (fi := iEn (aCons (eFz 0) aNil)) (s := [.dat (lotsP L), .un, .un, .un, .un]) (s1 := [.dat (lotsP L), .un, .un, .un, .un]) rfl h2 (by rw [List.length_map]; exact big64 (by have := allZ_le h; omega))
  have h3 : lcLoop (bT 3 (bsCons (bN 2) (bsCons (bN 3) (bsCons (bN 4) bsNil)))) mYes (eTup (aCons (eFz 2) (aCons (eFz 4) (aCons (eFn g_strand_length (aCons (eFz 3) (aCons (eFz 4) aNil))) aNil)))) [2, 3, 4] ((allZ L).map encZ) [.dat (lotsP L), .dat (.list ((allZ L).map encZ)), .un, .un, .un] = some ((allZ L).map encS, [.dat (lotsP L), .dat (.list ((allZ L).map encZ)), .un, .un, .un]) := by
    refine lcLoop_all encZ encS (allZ L) fun z m => ?_
    obtain ⟨m1, m2, m3⟩ := mem_allZ m
    have hq := h.lot _ m1
    refine ⟨[.dat (lotsP L), .dat (.list ((allZ L).map encZ)), .dat (N z.1), .dat (lotP z.2.1), .dat (N z.2.2)], rfl, .dat (encS z), [.dat (lotsP L), .dat (.list ((allZ L).map encZ)), .dat (N z.1), .dat (lotP z.2.1), .dat (N z.2.2)], ?_, rfl, rfl⟩
    simp only [e_strand_length hq.2.1 hq.2.2 m3, runP, ss0, toRes, sRet, sSet, sEx, sUn, put1, sNil, sSetIx, eV, eFz, eMv, eC, eOp2, eUn, eCB, eFn, eIO, eIOt, eAnd, eOr, eNot, notD, eIf, eChain, eTup, eLst, aNil, aCons, mT, mNot, mAnd, mOr, mYes, boolD, truD, val, vals, frz, frzs, Res.ev, opn, bN, bT, bsCons, bsNil, wipeS, pNo, pSo, eApp, eExt, List.length_cons, List.map_cons, List.getElem?_cons_zero, List.getElem?_cons_succ, List.length_nil, if_true, if_false, List.map_nil, List.cons_append, List.nil_append, Option.bind_some, Option.map_some, List.set_cons_zero, List.set_cons_succ, List.replicate, Nat.reduceAdd, Nat.reduceSub, Nat.reduceEqDiff, Bool.not_true, Bool.not_false, Bool.false_eq_true, reduceCtorEq, reduceIte]
    rfl
  have h4 := eLc_of (fi := iD (eFz 1)) (s := [.dat (lotsP L), .lst ((allZ L).map encZ), .un, .un, .un]) (s1 := [.dat (lotsP L), .dat (.list ((allZ L).map encZ)), .un, .un, .un]) rfl h3 (by rw [List.length_map]; exact big64 (by have := allZ_le h; omega))
  unfold g_strands_in m_strands_in
  refine runP_rt (ev := .own ((allZ L).map encS)) (s := [.dat (lotsP L), .dat (.list ((allZ L).map encZ)), .un, .un, .un]) rfl ((sSeq_nx (s1 := [.dat (lotsP L), .lst ((allZ L).map encZ), .un, .un, .un]) ?_).trans ?_) rfl
  · show sSet 1 _ [.dat (lotsP L), .un, .un, .un, .un] = _
    unfold sSet
    rw [hpairs]
    rfl
  · unfold sRet
    rw [h4]
    rfl
theorem e_strands {L : List (Nat × Nat)} (h : Ok L) : g_strands [lotsP L] = some (.dat (T ((allZ L).map encS))) := by
  have h1 := e_require_lots h
  have h2 := e_strands_in h
  have h3 : tupleD [.list ((allZ L).map encS)] = some (.dat (T ((allZ L).map encS))) := rfl
  unfold g_strands m_strands
  refine runP_rt (ev := .dat (T ((allZ L).map encS))) (s := [.dat (lotsP L)]) rfl ((sSeq_nx (s1 := [.dat (lotsP L)]) ?_).trans ?_) rfl
  · simp only [h1, runP, ss0, toRes, sRet, sSet, sEx, sUn, put1, sNil, sSetIx, eV, eFz, eMv, eC, eOp2, eUn, eCB, eFn, eIO, eIOt, eAnd, eOr, eNot, notD, eIf, eChain, eTup, eLst, aNil, aCons, mT, mNot, mAnd, mOr, mYes, boolD, truD, val, vals, frz, frzs, Res.ev, opn, bN, bT, bsCons, bsNil, wipeS, pNo, pSo, eApp, eExt, List.length_cons, List.map_cons, List.getElem?_cons_zero, List.getElem?_cons_succ, List.length_nil, if_true, if_false, List.map_nil, List.cons_append, List.nil_append, Option.bind_some, Option.map_some, List.set_cons_zero, List.set_cons_succ, List.replicate, Nat.reduceAdd, Nat.reduceSub, Nat.reduceEqDiff, Bool.not_true, Bool.not_false, Bool.false_eq_true, reduceCtorEq, reduceIte]
  · simp only [h2, h3, runP, ss0, toRes, sRet, sSet, sEx, sUn, put1, sNil, sSetIx, eV, eFz, eMv, eC, eOp2, eUn, eCB, eFn, eIO, eIOt, eAnd, eOr, eNot, notD, eIf, eChain, eTup, eLst, aNil, aCons, mT, mNot, mAnd, mOr, mYes, boolD, truD, val, vals, frz, frzs, Res.ev, opn, bN, bT, bsCons, bsNil, wipeS, pNo, pSo, eApp, eExt, List.length_cons, List.map_cons, List.getElem?_cons_zero, List.getElem?_cons_succ, List.length_nil, if_true, if_false, List.map_nil, List.cons_append, List.nil_append, Option.bind_some, Option.map_some, List.set_cons_zero, List.set_cons_succ, List.replicate, Nat.reduceAdd, Nat.reduceSub, Nat.reduceEqDiff, Bool.not_true, Bool.not_false, Bool.false_eq_true, reduceCtorEq, reduceIte]
end Wk

namespace Wk
open PySem PySem.Spec L2 Ly
theorem modD_nat {a d : Nat} (h : 0 < d) : modD (N a) (N d) = some (.dat (N (a % d))) := by
  have e : modD (N a) (N d) = (if (0 : Int) < d then some (PyData.int ((a : Int) % d)) else none).map Res.dat := rfl
  rw [e, if_pos (by omega), ← Int.natCast_emod]
  rfl
theorem take_succ_of {α : Type} {l : List α} {i : Nat} {x : α} (h : l[i]? = some x) : l.take (i + 1) = l.take i ++ [x] := by
  rw [List.take_add_one, h]
  rfl
theorem range_map_get {α : Type} {f : Nat → α} {n i : Nat} {d : α} (h : ((List.range n).map f)[i]? = some d) : i < n ∧ d = f i := by
  rw [List.getElem?_map] at h
  by_cases hi : i < n
  · rw [List.getElem?_range hi] at h
    cases h
    exact ⟨hi, rfl⟩
  · rw [List.getElem?_eq_none (by rw [List.length_range]; omega)] at h
    cases h
theorem zip_get {α : Type} {l : List α} {f : α × Nat → PyData} {i : Nat} {d : PyData} (h : (l.zipIdx.map f)[i]? = some d) : ∃ a, l[i]? = some a ∧ l.zipIdx[i]? = some (a, i) ∧ d = f (a, i) := by
  rw [List.getElem?_map] at h
  obtain ⟨q, h1, h2⟩ := Option.map_eq_some_iff.mp h
  rw [List.getElem?_zipIdx] at h1
  obtain ⟨a, h3, h4⟩ := Option.map_eq_some_iff.mp h1
  have h4 : (a, i) = q := by rw [← h4]; simp
  subst h4
  exact ⟨a, h3, by rw [List.getElem?_zipIdx, h3]; simp, h2.symm⟩
def accS (L : List (Nat × Nat)) (k : Nat) : List PyData := ((L.zipIdx.take k).map rowZ).flatten.map encS
theorem accS_len {L : List (Nat × Nat)} (h : Ok L) (k : Nat) : (accS L k).length ≤ 192 := by
  unfold accS
  rw [List.length_map]
  have := flat_le (f := rowZ) (k := 16) (L.zipIdx.take k) fun q m => rowZ_le h q (List.mem_of_mem_take m)
  have h2 : (L.zipIdx.take k).length ≤ 12 := by
    rw [List.length_take, List.length_zipIdx]
    have := h.le
    omega
  omega
theorem sSet_dat {i : Nat} {f : M EV} {s s1 : SS} {d : PyData} (h : f s = some (.dat d, s1)) : sSet i f s = some (.nx (s1.set i (.dat d))) := by
  unfold sSet
  rw [h]
  rfl
theorem sSet_own {i : Nat} {f : M EV} {s s1 : SS} {ds : List PyData} (h : f s = some (.own ds, s1)) : sSet i f s = some (.nx (s1.set i (.lst ds))) := by
  unfold sSet
  rw [h]
  rfl
theorem big_lt64 {n : Nat} (h : n ≤ 1000) : n < big := Nat.lt_of_le_of_lt h (by decide)
abbrev lsE : FS := sEx (eApp 1 (eTup (aCons (eFz 2) (aCons (eFz 6) (aCons (eCB lenD (aCons (eLc (iR (aCons (eV 3) (aNil))) (bN 7) (mT (eOp2 eqD (eOp2 modD (eV 7) (eV 5)) (eV 6)) boolD) (eFz 7) [7]) (aNil))) (aNil))))))
abbrev lsB : FS := sSeq (sSet 5 (eOp2 subD (eV 3) (eV 4))) (sFor (iR (aCons (eV 5) (aNil))) (bN 6) lsE)
theorem ls_in (L : List (Nat × Nat)) : ∀ (p : Nat × Nat) (i st : Nat) (acc : List PyData), 0 < p.1 - p.2 → p.1 ≤ 16 → acc.length ≤ 400 →
      lsE
        [.dat (lotsP L), .lst acc, .dat (N i), .dat (N p.1), .dat (N p.2), .dat (N (p.1 - p.2)), .dat (N st), .un] = some (.nx [.dat (lotsP L), .lst (acc ++ [encS (i, p, st)]), .dat (N i), .dat (N p.1), .dat (N p.2), .dat (N (p.1 - p.2)), .dat (N st), .un]) := fun p i st acc h0 h16 hacc => by
    have hc : lcLoop (bN 7) (mT (eOp2 eqD (eOp2 modD (eV 7) (eV 5)) (eV 6)) boolD) (eFz 7) [7] ((List.range p.1).map N) [.dat (lotsP L), .lst acc, .dat (N i), .dat (N p.1), .dat (N p.2), .dat (N (p.1 - p.2)), .dat (N st), .un] = some (((List.range p.1).filter fun a => decide (a % (p.1 - p.2) = st)).map N, [.dat (lotsP L), .lst acc, .dat (N i), .dat (N p.1), .dat (N p.2), .dat (N (p.1 - p.2)), .dat (N st), .un]) := by
      refine lcLoop_map N (fun a => decide (a % (p.1 - p.2) = st)) N (List.range p.1) fun a _ => ⟨[.dat (lotsP L), .lst acc, .dat (N i), .dat (N p.1), .dat (N p.2), .dat (N (p.1 - p.2)), .dat (N st), .dat (N a)], [.dat (lotsP L), .lst acc, .dat (N i), .dat (N p.1), .dat (N p.2), .dat (N (p.1 - p.2)), .dat (N st), .dat (N a)], rfl, ?_, fun _ => rfl, fun _ => ⟨_, _, rfl, rfl, rfl⟩⟩
      simp only [modD_nat h0, eqD_nat, runP, ss0, toRes, sRet, sSet, sEx, sUn, put1, sNil, sSetIx, eV, eFz, eMv, eC, eOp2, eUn, eCB, eFn, eIO, eIOt, eAnd, eOr, eNot, notD, eIf, eChain, eTup, eLst, aNil, aCons, mT, mNot, mAnd, mOr, mYes, boolD, truD, val, vals, frz, frzs, Res.ev, opn, bN, bT, bsCons, bsNil, wipeS, pNo, pSo, eApp, eExt, List.length_cons, List.map_cons, List.getElem?_cons_zero, List.getElem?_cons_succ, List.length_nil, if_true, if_false, List.map_nil, List.cons_append, List.nil_append, Option.bind_some, Option.map_some, List.set_cons_zero, List.set_cons_succ, List.replicate, Nat.reduceAdd, Nat.reduceSub, Nat.reduceEqDiff, Bool.not_true, Bool.not_false, Bool.false_eq_true, reduceCtorEq, reduceIte]
    have hl := eLc_of (fi := iR (aCons (eV 3) aNil)) (s := [.dat (lotsP L), .lst acc, .dat (N i), .dat (N p.1), .dat (N p.2), .dat (N (p.1 - p.2)), .dat (N st), .un]) (s1 := [.dat (lotsP L), .lst acc, .dat (N i), .dat (N p.1), .dat (N p.2), .dat (N (p.1 - p.2)), .dat (N st), .un]) (iR_one rfl (by omega)) hc (by
      rw [List.length_map]
      have := List.length_filter_le (fun a => decide (a % (p.1 - p.2) = st)) (List.range p.1)
      rw [List.length_range] at this
      exact big64 (by omega))
    have hlen : lenD [.list (((List.range p.1).filter fun a => decide (a % (p.1 - p.2) = st)).map N)] = some (.dat (N (cntS p.1 (p.1 - p.2) st))) := by
      show some (Res.dat (.int _)) = _
      rw [List.length_map]
      rfl
    have hb := big_lt64 (n := acc.length) (by omega)
    have h3 : 3 ≤ big := by decide
    simp only [hl, hlen, h3, hb, runP, ss0, toRes, sRet, sSet, sEx, sUn, put1, sNil, sSetIx, eV, eFz, eMv, eC, eOp2, eUn, eCB, eFn, eIO, eIOt, eAnd, eOr, eNot, notD, eIf, eChain, eTup, eLst, aNil, aCons, mT, mNot, mAnd, mOr, mYes, boolD, truD, val, vals, frz, frzs, Res.ev, opn, bN, bT, bsCons, bsNil, wipeS, pNo, pSo, eApp, eExt, List.length_cons, List.map_cons, List.getElem?_cons_zero, List.getElem?_cons_succ, List.length_nil, if_true, if_false, List.map_nil, List.cons_append, List.nil_append, Option.bind_some, Option.map_some, List.set_cons_zero, List.set_cons_succ, List.replicate, Nat.reduceAdd, Nat.reduceSub, Nat.reduceEqDiff, Bool.not_true, Bool.not_false, Bool.false_eq_true, reduceCtorEq, reduceIte]
    rfl
theorem ls_row {L : List (Nat × Nat)} (h : Ok L) : ∀ (p : Nat × Nat) (i : Nat) (x6 : SlotV) (acc : List PyData), p ∈ L → acc.length ≤ 192 → ∃ y6, loopS (bN 6) lsE ((List.range (p.1 - p.2)).map N)
        [.dat (lotsP L), .lst acc, .dat (N i), .dat (N p.1), .dat (N p.2), .dat (N (p.1 - p.2)), x6, .un] = some (.nx [.dat (lotsP L), .lst (acc ++ (rowZ (p, i)).map encS), .dat (N i), .dat (N p.1), .dat (N p.2), .dat (N (p.1 - p.2)), y6, .un]) := fun p i x6 acc hp hacc => by
    have hq := h.lot p hp
    obtain ⟨s2, h1, y, h2⟩ := loopS_inv (b := bN 6) (fun j s => ∃ y, s = [.dat (lotsP L), .lst (acc ++ (List.range j).map fun st => encS (i, p, st)), .dat (N i), .dat (N p.1), .dat (N p.2), .dat (N (p.1 - p.2)), y, .un]) ((List.range (p.1 - p.2)).map N) 0 [.dat (lotsP L), .lst acc, .dat (N i), .dat (N p.1), .dat (N p.2), .dat (N (p.1 - p.2)), x6, .un] ⟨x6, by simp⟩ fun j d s e r => by
      obtain ⟨y, rfl⟩ := r
      obtain ⟨hj, rfl⟩ := range_map_get e
      rw [Nat.zero_add]
      refine ⟨_, ⟨[.dat (lotsP L), .lst (acc ++ (List.range j).map fun st => encS (i, p, st)), .dat (N i), .dat (N p.1), .dat (N p.2), .dat (N (p.1 - p.2)), .dat (N j), .un], rfl, .inl (ls_in L p i j _ (by omega) hq.2.2 (by rw [List.length_append, List.length_map, List.length_range]; omega))⟩, .dat (N j), ?_⟩
      rw [List.range_succ, List.map_append, List.append_assoc]
      rfl
    refine ⟨y, ?_⟩
    rw [h1, h2]
    unfold rowZ
    rw [List.length_map, List.length_range, Nat.zero_add, List.map_map]
    rfl
theorem e_law_strands {L : List (Nat × Nat)} (h : Ok L) : g__law_strands [lotsP L] = some (.own ((allZ L).map encS)) := by
  obtain ⟨s2, h1, x2, x3, x4, x5, x6, h2⟩ := loopS_inv (b := bT 2 (bsCons (bN 2) (bsCons (bT 2 (bsCons (bN 3) (bsCons (bN 4) bsNil))) bsNil))) (body := lsB)
    (fun k s => ∃ x2 x3 x4 x5 x6, s = [.dat (lotsP L), .lst (accS L k), x2, x3, x4, x5, x6, .un]) (L.zipIdx.map fun q => T [N q.2, lotP q.1]) 0 [.dat (lotsP L), .lst [], .un, .un, .un, .un, .un, .un] ⟨_, _, _, _, _, rfl⟩ fun k d s e r => by
      obtain ⟨x2, x3, x4, x5, x6, rfl⟩ := r
      obtain ⟨p, e1, e2, rfl⟩ := zip_get e
      have hp := List.mem_of_getElem? e1
      rw [Nat.zero_add]
      obtain ⟨y6, hy⟩   := ls_row h p k x6 (accS L k) hp (accS_len h k)
      have hsub : subD (N p.1) (N p.2) = some (.dat (N (p.1 - p.2))) := subD_nat (h.lot p hp).2.1
      refine ⟨_, ⟨[.dat (lotsP L), .lst (accS L k), .dat (N k), .dat (N p.1), .dat (N p.2), x5, x6, .un], rfl, .inl ((sSeq_nx (s1 := [.dat (lotsP L), .lst (accS L k), .dat (N k), .dat (N p.1), .dat (N p.2), .dat (N (p.1 - p.2)), x6, .un]) (sSet_dat (s1 := [.dat (lotsP L), .lst (accS L k), .dat (N k), .dat (N p.1), .dat (N p.2), x5, x6, .un]) ?_)).trans ((sFor_of (iR_one rfl (by have := h.lot p hp; omega))).trans hy))⟩, .dat (N k), .dat (N p.1), .dat (N p.2), .dat (N (p.1 - p.2)), y6, ?_⟩
      · simp only [hsub, runP, ss0, toRes, sRet, sSet, sEx, sUn, put1, sNil, sSetIx, eV, eFz, eMv, eC, eOp2, eUn, eCB, eFn, eIO, eIOt, eAnd, eOr, eNot, notD, eIf, eChain, eTup, eLst, aNil, aCons, mT, mNot, mAnd, mOr, mYes, boolD, truD, val, vals, frz, frzs, Res.ev, opn, bN, bT, bsCons, bsNil, wipeS, pNo, pSo, eApp, eExt, List.length_cons, List.map_cons, List.getElem?_cons_zero, List.getElem?_cons_succ, List.length_nil, if_true, if_false, List.map_nil, List.cons_append, List.nil_append, Option.bind_some, Option.map_some, List.set_cons_zero, List.set_cons_succ, List.replicate, Nat.reduceAdd, Nat.reduceSub, Nat.reduceEqDiff, Bool.not_true, Bool.not_false, Bool.false_eq_true, reduceCtorEq, reduceIte]
      · have : accS L (k + 1) = accS L k ++ (rowZ (p, k)).map encS := by
          unfold accS
          rw [take_succ_of e2, List.map_append, List.flatten_append, List.map_append]
          simp
        rw [this]
  have e1 : accS L (0 + (L.zipIdx.map fun q => T [N q.2, lotP q.1]).length) = (allZ L).map encS := by
    unfold accS allZ
    rw [List.length_map, Nat.zero_add, List.take_length]
  rw [e1] at h2
  unfold g__law_strands m__law_strands
  refine runP_rt (ev := .own ((allZ L).map encS)) (s := [.dat (lotsP L), .un, x2, x3, x4, x5, x6, .un]) rfl ((sSeq_nx (s1 := [.dat (lotsP L), .lst [], .un, .un, .un, .un, .un, .un]) rfl).trans ((sSeq_nx (s1 := [.dat (lotsP L), .lst ((allZ L).map encS), x2, x3, x4, x5, x6, .un]) ?_).trans rfl)) rfl
  rw [sFor_of (s1 := [.dat (lotsP L), .lst [], .un, .un, .un, .un, .un, .un]) (items := L.zipIdx.map fun q => T [N q.2, lotP q.1]) (by
    rw [← enum_lots]
    rfl), h1, h2]
end Wk

namespace Wk
open PySem PySem.Spec L2 Ly
/-! ### places -/
def posF (i : Nat) : Nat → List Nat → List Nat
  | _, [] => []
  | k, x :: xs => if x = i then k :: posF i (k + 1) xs else posF i (k + 1) xs
theorem posF_zip (i : Nat) : ∀ (o : List Nat) (k : Nat), ((o.zipIdx k).filter fun q => decide (q.1 = i)).map (·.2) = posF i k o
  | [], _ => rfl
  | x :: xs, k => by
    rw [List.zipIdx_cons]
    unfold posF
    by_cases h : x = i
    · rw [if_pos h, List.filter_cons_of_pos (by simpa using h), List.map_cons, posF_zip i xs (k + 1)]
    · rw [if_neg h, List.filter_cons_of_neg (by simpa using h), posF_zip i xs (k + 1)]
theorem posF_ge (i : Nat) : ∀ (o : List Nat) (k p : Nat), p ∈ posF i k o → k ≤ p
  | [], _, _, h => by cases h
  | x :: xs, k, p, h => by
    unfold posF at h
    split at h
    · rcases List.mem_cons.mp h with h | h
      · omega
      · have := posF_ge i xs (k + 1) p h; omega
    · have := posF_ge i xs (k + 1) p h; omega
theorem posF_lt (i : Nat) : ∀ (o : List Nat) (k j e p : Nat), (posF i k o)[j]? = some p → (p < k + e ↔ j < (o.take e).count i)
  | [], _, _, _, _, h => by simp [posF] at h
  | x :: xs, k, j, 0, p, h => by
    have := posF_ge i (x :: xs) k p (List.mem_of_getElem? h)
    simp
    omega
  | x :: xs, k, j, e + 1, p, h => by
    unfold posF at h
    rw [List.take_succ_cons]
    by_cases hx : x = i
    · rw [if_pos hx] at h
      rw [hx, List.count_cons_self]
      cases j with
      | zero =>
        have : k = p := by simpa using h
        omega
      | succ j =>
        have := posF_lt i xs (k + 1) j e p (by simpa using h)
        omega
    · rw [if_neg hx] at h
      rw [List.count_cons_of_ne hx]
      have := posF_lt i xs (k + 1) j e p h
      omega
theorem posF_len (i : Nat) : ∀ (o : List Nat) (k : Nat), (posF i k o).length = o.count i
  | [], _ => rfl
  | x :: xs, k => by
    unfold posF
    by_cases hx : x = i
    · rw [if_pos hx, hx, List.count_cons_self, List.length_cons, posF_len i xs (k + 1)]
    · rw [if_neg hx, List.count_cons_of_ne hx, posF_len i xs (k + 1)]
abbrev pos (i : Nat) (o : List Nat) : List Nat := posF i 0 o
theorem pos_lt {i : Nat} {o : List Nat} {j e p : Nat} (h : (pos i o)[j]? = some p) : p < e ↔ j < (o.take e).count i := by
  have := posF_lt i o 0 j e p h
  rwa [Nat.zero_add] at this
theorem pos_len (i : Nat) (o : List Nat) : (pos i o).length = o.count i := posF_len i o 0
theorem enum_ord (o : List Nat) : enumD 0 (o.map N) = o.zipIdx.map fun q => T [N q.2, N q.1] := enumD_map N o 0
theorem pos_map (i : Nat) (o : List Nat) : (o.zipIdx.filter fun q => decide (q.1 = i)).map (fun q => N q.2) = (pos i o).map N := by
  show _ = (posF i 0 o).map N
  rw [← posF_zip, List.map_map]
  rfl
theorem pos_le {i : Nat} {o : List Nat} : (pos i o).length ≤ o.length := by rw [pos_len]; exact List.count_le_length
/-- the order's counts -/
structure Cnt (L : List (Nat × Nat)) (o : List Nat) : Prop where
  ct : ∀ i p, L[i]? = some p → o.count i = p.1
  all : ∀ x ∈ o, x < L.length
  le : o.length ≤ 192
/-! ### windows -/
abbrev Tr := Nat × Nat × Nat
def encW (t : Tr) : PyData := T [N t.1, N t.2.1, N t.2.2]
def winT (o : List Nat) (i d at_ : Nat) : Tr := ((pos i o).getD (at_ + d) 0 + 1 - (pos i o).getD at_ 0, (pos i o).getD at_ 0, i)
def rowW (o : List Nat) (q : (Nat × Nat) × Nat) : List Tr := (List.range q.1.2).map fun a => winT o q.2 (q.1.1 - q.1.2) a
def allW (L : List (Nat × Nat)) (o : List Nat) : List Tr := (L.zipIdx.map (rowW o)).flatten
def accW (L : List (Nat × Nat)) (o : List Nat) (k : Nat) : List PyData := ((L.zipIdx.take k).map (rowW o)).flatten.map encW
theorem accW_len {L : List (Nat × Nat)} (h : Ok L) (o : List Nat) (k : Nat) : (accW L o k).length ≤ 192 := by
  unfold accW
  rw [List.length_map]
  have := flat_le (f := rowW o) (k := 16) (L.zipIdx.take k) fun q m => by
    unfold rowW
    rw [List.length_map, List.length_range]
    have := h.lot q.1 (mem_zipIdx (List.mem_of_mem_take m)).1
    omega
  have h2 : (L.zipIdx.take k).length ≤ 12 := by
    rw [List.length_take, List.length_zipIdx]
    have := h.le
    omega
  omega
def ltW (a b : Tr) : Bool := decide (a.1 < b.1) || (decide (a.1 = b.1) && (decide (a.2.1 < b.2.1) || (decide (a.2.1 = b.2.1) && decide (a.2.2 < b.2.2))))
theorem ltW_iff {a b : Tr} : ltW a b = true ↔ a.1 < b.1 ∨ (a.1 = b.1 ∧ (a.2.1 < b.2.1 ∨ (a.2.1 = b.2.1 ∧ a.2.2 < b.2.2))) := by
  simp only [ltW, Bool.or_eq_true, Bool.and_eq_true, decide_eq_true_eq]
abbrev tupW (t : Tr) : PySem.W.Tup Int := ⟨[(t.1 : Int), (t.2.1 : Int), (t.2.2 : Int)]⟩
theorem dataLt_W (a b : Tr) : PySem.W.dataLt (encW a) (encW b) = ltW a b := by
  refine (PySem.W.DatumOrd.lt_eq (tupW a) (tupW b)).trans ?_
  show PySem.W.listLt [(a.1 : Int), (a.2.1 : Int), (a.2.2 : Int)] [(b.1 : Int), (b.2.1 : Int), (b.2.2 : Int)] = _
  rw [Bool.eq_iff_iff, ltW_iff]
  simp only [PySem.W.listLt]
  show (if (a.1 : Int) = b.1 then (if (a.2.1 : Int) = b.2.1 then (if (a.2.2 : Int) = b.2.2 then false else decide ((a.2.2 : Int) < b.2.2)) else decide ((a.2.1 : Int) < b.2.1)) else decide ((a.1 : Int) < b.1)) = true ↔ _
  split
  · split
    · split
      · simp
        omega
      · rw [decide_eq_true_eq]
        omega
    · rw [decide_eq_true_eq]
      omega
  · rw [decide_eq_true_eq]
    omega
def minW (x : Tr) (xs : List Tr) : Tr := xs.foldl (fun a y => if ltW y a = true then y else a) x
theorem minD_W (x : Tr) : ∀ xs : List Tr, PySem.W.minD (encW x) (xs.map encW) = encW (minW x xs) := fun xs => by
  unfold PySem.W.minD minW
  induction xs generalizing x with
  | nil => rfl
  | cons y ys ih =>
    rw [List.map_cons, List.foldl_cons, List.foldl_cons, ← ih, dataLt_W]
    cases ltW y x <;> rfl
theorem minW_le : ∀ (xs : List Tr) (x : Tr), minW x xs ∈ x :: xs ∧ ∀ y ∈ x :: xs, ltW y (minW x xs) = false
  | [], x => ⟨List.mem_cons_self, fun y h => by
    rcases List.mem_cons.mp h with h | h
    · subst h
      show ltW y y = false
      rw [Bool.eq_false_iff]
      intro z
      rw [ltW_iff] at z
      omega
    · cases h⟩
  | z :: zs, x => by
    have e : minW x (z :: zs) = minW (if ltW z x = true then z else x) zs := rfl
    rw [e]
    obtain ⟨h1, h2⟩ := minW_le zs (if ltW z x = true then z else x)
    refine ⟨?_, fun y hy => ?_⟩
    · rcases List.mem_cons.mp h1 with h | h
      · rw [h]
        split
        · exact List.mem_cons_of_mem _ List.mem_cons_self
        · exact List.mem_cons_self
      · exact List.mem_cons_of_mem _ (List.mem_cons_of_mem _ h)
    · have hm := h2 _ List.mem_cons_self
      generalize minW (if ltW z x = true then z else x) zs = m at *
      rcases List.mem_cons.mp hy with h | h
      · subst h
        by_cases hz : ltW z y = true
        · rw [if_pos hz] at hm
          rw [Bool.eq_false_iff] at hm ⊢
          intro q
          apply hm
          rw [ltW_iff] at *
          omega
        · rw [if_neg hz] at hm
          exact hm
      · rcases List.mem_cons.mp h with h | h
        · subst h
          by_cases hz : ltW y x = true
          · rw [if_pos hz] at hm
            exact hm
          · rw [if_neg hz] at hm
            rw [Bool.eq_false_iff] at hm ⊢
            intro q
            apply hm
            rw [ltW_iff] at *
            omega
        · exact h2 y (List.mem_cons_of_mem _ h)
theorem depth_W : ∀ xs : List Tr, PyData.depthAll (xs.map encW) ≤ 40
  | [] => by decide
  | x :: xs => by
    rw [List.map_cons]
    have h1 : (encW x).depth ≤ 40 := by simp [encW, PyData.depth, PyData.depthAll]
    have h2 := depth_W xs
    show max (encW x).depth (PyData.depthAll (xs.map encW)) ≤ 40
    omega
theorem alike_W (xs : List Tr) : alikeB (xs.map encW) = true := by
  have e : xs.map encW = (xs.map tupW).map PySem.W.Datum.toD := by
    rw [List.map_map]
    rfl
  have h := PySem.W.alikeAll_datum (xs.map tupW)
  rw [← e] at h
  have hd := depth_W xs
  unfold alikeB
  rw [Bool.and_eq_true, Bool.and_eq_true]
  refine ⟨⟨List.all_eq_true.mpr fun x hx => List.all_eq_true.mpr fun y hy => h.1 x hx y hy, List.all_eq_true.mpr fun x hx => ?_⟩, decide_eq_true hd⟩
  have := h.2 x hx
  cases x with
  | none => exact absurd rfl this
  | _ => rfl
end Wk

namespace Wk
open PySem PySem.Spec L2 Ly
theorem addD_one (a : Nat) : addD (N a) (.int 1) = some (.dat (N (a + 1))) := addD_nat a 1
theorem pos_get {i : Nat} {o : List Nat} {j : Nat} (h : j < o.count i) : (pos i o)[j]? = some ((pos i o).getD j 0) := by
  rw [← pos_len] at h
  rw [List.getD_eq_getElem?_getD, List.getElem?_eq_getElem h]
  rfl
theorem pos_mono {i : Nat} {o : List Nat} {a b : Nat} (hab : a ≤ b) (h : b < o.count i) : (pos i o).getD a 0 ≤ (pos i o).getD b 0 := by
  have h1 := pos_get (j := a) (o := o) (i := i) (by omega)
  have h2 := pos_get h
  have q := (pos_lt (e := (pos i o).getD b 0 + 1) h2).mp (by omega)
  have := (pos_lt (e := (pos i o).getD b 0 + 1) h1).mpr (by omega)
  omega
theorem pos_bound {i : Nat} {o : List Nat} {a : Nat} (h : a < o.count i) : (pos i o).getD a 0 < o.length := by
  refine (pos_lt (e := o.length) (pos_get h)).mpr ?_
  rw [List.take_length]
  exact h
/-- the places as the program collects them; sl: the slots of the place, the item, the index -/
theorem lc_pos {i : Nat} {o : List Nat} {c : M Bool} {f : M EV} {b : B} {vs : List Nat} {ss : SS} (H : ∀ q ∈ o.zipIdx, ∃ s1, b (T [N q.2, N q.1]) ss = some s1 ∧ c s1 = some (decide (q.1 = i), s1) ∧ wipeS s1 vs = ss ∧ f s1 = some (.dat (N q.2), s1)) :
    lcLoop b c f vs (enumD 0 (o.map N)) ss = some ((pos i o).map N, ss) := by
  rw [enum_ord, lcLoop_map (fun q : Nat × Nat => T [N q.2, N q.1]) (fun q => decide (q.1 = i)) (fun q => N q.2) o.zipIdx fun q m => ?_]
  · rw [pos_map]
  · obtain ⟨s1, h1, h2, h3, h4⟩ := H q m
    exact ⟨s1, s1, h1, h2, fun _ => h3, fun _ => ⟨_, _, h4, rfl, h3⟩⟩
abbrev wB : FS := sSeq (sUn (bT 2 (bsCons (bN 5) (bsCons (bN 6) (bsNil)))) (eTup (aCons (eLc (iEn (aCons (eFz 1) (aNil))) (bT 2 (bsCons (bN 9) (bsCons (bN 10) (bsNil)))) (mT (eOp2 eqD (eV 10) (eV 3)) boolD) (eFz 9) [9, 10]) (aCons (eFn g_lost_by (aCons (eFz 4) (aNil))) (aNil))))) (sEx (eExt 2 (eLc (iR (aCons (eOp2 subD (eOp2 ixD (eV 4) (eC (.int 0))) (eV 6)) (aNil))) (bN 11) (mYes) (eTup (aCons (eOp2 subD (eOp2 addD (eOp2 ixD (eV 5) (eOp2 addD (eV 11) (eV 6))) (eC (.int 1))) (eOp2 ixD (eV 5) (eV 11))) (aCons (eOp2 ixD (eV 5) (eV 11)) (aCons (eFz 3) (aNil))))) [11])))
theorem w_turn {L : List (Nat × Nat)} {o : List Nat} (h : Ok L) (c : Cnt L o) {i : Nat} {p : Nat × Nat} (hp : L[i]? = some p) (acc : List PyData) (hacc : acc.length ≤ 192) (x5 x6 x7 x8 : SlotV) :
    wB [.dat (lotsP L), .dat (ordP o), .lst acc, .dat (N i), .dat (lotP p), x5, x6, x7, x8, .un, .un, .un] = some (.nx [.dat (lotsP L), .dat (ordP o), .lst (acc ++ (rowW o (p, i)).map encW), .dat (N i), .dat (lotP p), .dat (.list ((pos i o).map N)), .dat (N (p.1 - p.2)), x7, x8, .un, .un, .un]) := by
  have hq := h.lot p (List.mem_of_getElem? hp)
  have hc := c.ct i p hp
  have h1 : lcLoop (bT 2 (bsCons (bN 9) (bsCons (bN 10) (bsNil)))) (mT (eOp2 eqD (eV 10) (eV 3)) boolD) (eFz 9) [9, 10] (enumD 0 (o.map N)) [.dat (lotsP L), .dat (ordP o), .lst acc, .dat (N i), .dat (lotP p), x5, x6, x7, x8, .un, .un, .un] = some ((pos i o).map N, [.dat (lotsP L), .dat (ordP o), .lst acc, .dat (N i), .dat (lotP p), x5, x6, x7, x8, .un, .un, .un]) :=
    lc_pos fun q _ => ⟨[.dat (lotsP L), .dat (ordP o), .lst acc, .dat (N i), .dat (lotP p), x5, x6, x7, x8, .dat (N q.2), .dat (N q.1), .un], rfl, by simp only [eqD_nat, runP, ss0, toRes, sRet, sSet, sEx, sUn, put1, sNil, sSetIx, eV, eFz, eMv, eC, eOp2, eUn, eCB, eFn, eIO, eIOt, eAnd, eOr, eNot, notD, eIf, eChain, eTup, eLst, aNil, aCons, mT, mNot, mAnd, mOr, mYes, boolD, truD, val, vals, frz, frzs, Res.ev, opn, bN, bT, bsCons, bsNil, wipeS, pNo, pSo, eApp, eExt, List.length_cons, List.map_cons, List.getElem?_cons_zero, List.getElem?_cons_succ, List.length_nil, if_true, if_false, List.map_nil, List.cons_append, List.nil_append, Option.bind_some, Option.map_some, List.set_cons_zero, List.set_cons_succ, List.replicate, Nat.reduceAdd, Nat.reduceSub, Nat.reduceEqDiff, Bool.not_true, Bool.not_false, Bool.false_eq_true, reduceCtorEq, reduceIte], rfl, rfl⟩
  have h2 := eLc_of (fi := iEn (aCons (eFz 1) aNil)) (s := [.dat (lotsP L), .dat (ordP o), .lst acc, .dat (N i), .dat (lotP p), x5, x6, x7, x8, .un, .un, .un]) (s1 := [.dat (lotsP L), .dat (ordP o), .lst acc, .dat (N i), .dat (lotP p), x5, x6, x7, x8, .un, .un, .un]) rfl h1 (by rw [List.length_map]; exact big64 (Nat.le_trans pos_le (by have := c.le; omega)))
  have h3 : 2 ≤ big := by decide
  have e1 : sUn (bT 2 (bsCons (bN 5) (bsCons (bN 6) (bsNil)))) (eTup (aCons (eLc (iEn (aCons (eFz 1) (aNil))) (bT 2 (bsCons (bN 9) (bsCons (bN 10) (bsNil)))) (mT (eOp2 eqD (eV 10) (eV 3)) boolD) (eFz 9) [9, 10]) (aCons (eFn g_lost_by (aCons (eFz 4) (aNil))) (aNil)))) [.dat (lotsP L), .dat (ordP o), .lst acc, .dat (N i), .dat (lotP p), x5, x6, x7, x8, .un, .un, .un] = some (.nx [.dat (lotsP L), .dat (ordP o), .lst acc, .dat (N i), .dat (lotP p), .dat (.list ((pos i o).map N)), .dat (N (p.1 - p.2)), x7, x8, .un, .un, .un]) := by
    simp only [h2, e_lost_by hq.2.1, h3, runP, ss0, toRes, sRet, sSet, sEx, sUn, put1, sNil, sSetIx, eV, eFz, eMv, eC, eOp2, eUn, eCB, eFn, eIO, eIOt, eAnd, eOr, eNot, notD, eIf, eChain, eTup, eLst, aNil, aCons, mT, mNot, mAnd, mOr, mYes, boolD, truD, val, vals, frz, frzs, Res.ev, opn, bN, bT, bsCons, bsNil, wipeS, pNo, pSo, eApp, eExt, List.length_cons, List.map_cons, List.getElem?_cons_zero, List.getElem?_cons_succ, List.length_nil, if_true, if_false, List.map_nil, List.cons_append, List.nil_append, Option.bind_some, Option.map_some, List.set_cons_zero, List.set_cons_succ, List.replicate, Nat.reduceAdd, Nat.reduceSub, Nat.reduceEqDiff, Bool.not_true, Bool.not_false, Bool.false_eq_true, reduceCtorEq, reduceIte]
  refine (sSeq_nx e1).trans ?_
  have h4 : lcLoop (bN 11) mYes (eTup (aCons (eOp2 subD (eOp2 addD (eOp2 ixD (eV 5) (eOp2 addD (eV 11) (eV 6))) (eC (.int 1))) (eOp2 ixD (eV 5) (eV 11))) (aCons (eOp2 ixD (eV 5) (eV 11)) (aCons (eFz 3) (aNil))))) [11] ((List.range p.2).map N) [.dat (lotsP L), .dat (ordP o), .lst acc, .dat (N i), .dat (lotP p), .dat (.list ((pos i o).map N)), .dat (N (p.1 - p.2)), x7, x8, .un, .un, .un] = some ((rowW o (p, i)).map encW, [.dat (lotsP L), .dat (ordP o), .lst acc, .dat (N i), .dat (lotP p), .dat (.list ((pos i o).map N)), .dat (N (p.1 - p.2)), x7, x8, .un, .un, .un]) := by
    rw [lcLoop_all (ss := [.dat (lotsP L), .dat (ordP o), .lst acc, .dat (N i), .dat (lotP p), .dat (.list ((pos i o).map N)), .dat (N (p.1 - p.2)), x7, x8, .un, .un, .un]) N (fun a => encW (winT o i (p.1 - p.2) a)) (List.range p.2) fun a ha => ?_]
    · unfold rowW
      rw [List.map_map]
      rfl
    · have ha := List.mem_range.mp ha
      have g1 : ixD (.list ((pos i o).map N)) (N (a + (p.1 - p.2))) = some (.dat (N ((pos i o).getD (a + (p.1 - p.2)) 0))) := ixD_lst (by rw [List.getElem?_map, pos_get (by omega)]; rfl)
      have g2 : ixD (.list ((pos i o).map N)) (N a) = some (.dat (N ((pos i o).getD a 0))) := ixD_lst (by rw [List.getElem?_map, pos_get (by omega)]; rfl)
      have g3 := pos_mono (i := i) (o := o) (a := a) (b := a + (p.1 - p.2)) (by omega) (by omega)
      have g4 : subD (N ((pos i o).getD (a + (p.1 - p.2)) 0 + 1)) (N ((pos i o).getD a 0)) = some (.dat (N ((pos i o).getD (a + (p.1 - p.2)) 0 + 1 - (pos i o).getD a 0))) := subD_nat (by omega)
      have h3 : 3 ≤ big := by decide
      refine ⟨[.dat (lotsP L), .dat (ordP o), .lst acc, .dat (N i), .dat (lotP p), .dat (.list ((pos i o).map N)), .dat (N (p.1 - p.2)), x7, x8, .un, .un, .dat (N a)], rfl, .dat (encW (winT o i (p.1 - p.2) a)), [.dat (lotsP L), .dat (ordP o), .lst acc, .dat (N i), .dat (lotP p), .dat (.list ((pos i o).map N)), .dat (N (p.1 - p.2)), x7, x8, .un, .un, .dat (N a)], ?_, rfl, rfl⟩
      simp only [addD_nat, addD_one, g1, g2, g4, h3, runP, ss0, toRes, sRet, sSet, sEx, sUn, put1, sNil, sSetIx, eV, eFz, eMv, eC, eOp2, eUn, eCB, eFn, eIO, eIOt, eAnd, eOr, eNot, notD, eIf, eChain, eTup, eLst, aNil, aCons, mT, mNot, mAnd, mOr, mYes, boolD, truD, val, vals, frz, frzs, Res.ev, opn, bN, bT, bsCons, bsNil, wipeS, pNo, pSo, eApp, eExt, List.length_cons, List.map_cons, List.getElem?_cons_zero, List.getElem?_cons_succ, List.length_nil, if_true, if_false, List.map_nil, List.cons_append, List.nil_append, Option.bind_some, Option.map_some, List.set_cons_zero, List.set_cons_succ, List.replicate, Nat.reduceAdd, Nat.reduceSub, Nat.reduceEqDiff, Bool.not_true, Bool.not_false, Bool.false_eq_true, reduceCtorEq, reduceIte]
      rfl
  have g0 : ixD (lotP p) (.int 0) = some (.dat (N p.1)) := rfl
  have g5 : subD (N p.1) (N (p.1 - p.2)) = some (.dat (N p.2)) := by
    rw [subD_nat (by omega)]
    rw [show p.1 - (p.1 - p.2) = p.2 by omega]
  have h5 := eLc_of (fi := iR (aCons (eOp2 subD (eOp2 ixD (eV 4) (eC (.int 0))) (eV 6)) (aNil))) (s := [.dat (lotsP L), .dat (ordP o), .lst acc, .dat (N i), .dat (lotP p), .dat (.list ((pos i o).map N)), .dat (N (p.1 - p.2)), x7, x8, .un, .un, .un]) (s1 := [.dat (lotsP L), .dat (ordP o), .lst acc, .dat (N i), .dat (lotP p), .dat (.list ((pos i o).map N)), .dat (N (p.1 - p.2)), x7, x8, .un, .un, .un]) (iR_one (n := p.2) (by simp only [g0, g5, runP, ss0, toRes, sRet, sSet, sEx, sUn, put1, sNil, sSetIx, eV, eFz, eMv, eC, eOp2, eUn, eCB, eFn, eIO, eIOt, eAnd, eOr, eNot, notD, eIf, eChain, eTup, eLst, aNil, aCons, mT, mNot, mAnd, mOr, mYes, boolD, truD, val, vals, frz, frzs, Res.ev, opn, bN, bT, bsCons, bsNil, wipeS, pNo, pSo, eApp, eExt, List.length_cons, List.map_cons, List.getElem?_cons_zero, List.getElem?_cons_succ, List.length_nil, if_true, if_false, List.map_nil, List.cons_append, List.nil_append, Option.bind_some, Option.map_some, List.set_cons_zero, List.set_cons_succ, List.replicate, Nat.reduceAdd, Nat.reduceSub, Nat.reduceEqDiff, Bool.not_true, Bool.not_false, Bool.false_eq_true, reduceCtorEq, reduceIte]) (by omega)) h4 (by
    unfold rowW
    rw [List.length_map, List.length_map, List.length_range]
    exact big64 (show p.2 ≤ 1000 by omega))
  have h6 : acc.length + ((rowW o (p, i)).map encW).length ≤ big := big64 (by
    unfold rowW
    rw [List.length_map, List.length_map, List.length_range]
    show acc.length + p.2 ≤ _
    omega)
  simp only [h5, h6, runP, ss0, toRes, sRet, sSet, sEx, sUn, put1, sNil, sSetIx, eV, eFz, eMv, eC, eOp2, eUn, eCB, eFn, eIO, eIOt, eAnd, eOr, eNot, notD, eIf, eChain, eTup, eLst, aNil, aCons, mT, mNot, mAnd, mOr, mYes, boolD, truD, val, vals, frz, frzs, Res.ev, opn, bN, bT, bsCons, bsNil, wipeS, pNo, pSo, eApp, eExt, List.length_cons, List.map_cons, List.getElem?_cons_zero, List.getElem?_cons_succ, List.length_nil, if_true, if_false, List.map_nil, List.cons_append, List.nil_append, Option.bind_some, Option.map_some, List.set_cons_zero, List.set_cons_succ, List.replicate, Nat.reduceAdd, Nat.reduceSub, Nat.reduceEqDiff, Bool.not_true, Bool.not_false, Bool.false_eq_true, reduceCtorEq, reduceIte]
theorem e_weak_in {L : List (Nat × Nat)} {o : List Nat} (h : Ok L) (c : Cnt L o) {t : Tr} {ts : List Tr} (hW : allW L o = t :: ts) :
    g_weak_in [lotsP L, ordP o] = some (.dat (T [N (minW t ts).2.1, N ((minW t ts).2.1 + (minW t ts).1), N (minW t ts).2.2])) := by
  obtain ⟨s2, h1, x3, x4, x5, x6, h2⟩ := loopS_inv (b := bT 2 (bsCons (bN 3) (bsCons (bN 4) (bsNil)))) (body := wB) (fun k s => ∃ x3 x4 x5 x6, s = [.dat (lotsP L), .dat (ordP o), .lst (accW L o k), x3, x4, x5, x6, .un, .un, .un, .un, .un]) (L.zipIdx.map fun q => T [N q.2, lotP q.1]) 0 [.dat (lotsP L), .dat (ordP o), .lst [], .un, .un, .un, .un, .un, .un, .un, .un, .un] ⟨_, _, _, _, rfl⟩ fun k d s e r => by
    obtain ⟨x3, x4, x5, x6, rfl⟩ := r
    obtain ⟨p, e1, e2, rfl⟩ := zip_get e
    rw [Nat.zero_add]
    refine ⟨_, ⟨[.dat (lotsP L), .dat (ordP o), .lst (accW L o k), .dat (N k), .dat (lotP p), x5, x6, .un, .un, .un, .un, .un], rfl, .inl (w_turn h c e1 _ (accW_len h o k) _ _ _ _)⟩, .dat (N k), .dat (lotP p), .dat (.list ((pos k o).map N)), .dat (N (p.1 - p.2)), ?_⟩
    have : accW L o (k + 1) = accW L o k ++ (rowW o (p, k)).map encW := by
      unfold accW
      rw [take_succ_of e2, List.map_append, List.flatten_append, List.map_append]
      simp
    rw [this]
  have e1 : accW L o (0 + (L.zipIdx.map fun q => T [N q.2, lotP q.1]).length) = (allW L o).map encW := by
    unfold accW allW
    rw [List.length_map, Nat.zero_add, List.take_length]
  rw [e1, hW] at h2
  have hm : minL [.list ((t :: ts).map encW)] = some (.dat (encW (minW t ts))) := by
    rw [List.map_cons]
    show (if alikeB (encW t :: ts.map encW) = true then some (Res.dat (PySem.W.minD (encW t) (ts.map encW))) else none) = _
    rw [if_pos (show alikeB (encW t :: ts.map encW) = true from alike_W (t :: ts)), minD_W]
  generalize minW t ts = m at hm
  generalize (t :: ts).map encW = ds at hm h2
  have h3 : 3 ≤ big := by decide
  unfold g_weak_in m_weak_in
  refine runP_rt (ev := .dat (T [N m.2.1, N (m.2.1 + m.1), N m.2.2])) (s := [.dat (lotsP L), .dat (ordP o), .lst ds, .dat (N m.2.2), x4, x5, x6, .dat (N m.1), .dat (N m.2.1), .un, .un, .un]) rfl ((sSeq_nx (s1 := [.dat (lotsP L), .dat (ordP o), .lst [], .un, .un, .un, .un, .un, .un, .un, .un, .un]) rfl).trans ((sSeq_nx (s1 := [.dat (lotsP L), .dat (ordP o), .lst ds, x3, x4, x5, x6, .un, .un, .un, .un, .un]) ?_).trans ((sSeq_nx (s1 := [.dat (lotsP L), .dat (ordP o), .lst ds, .dat (N m.2.2), x4, x5, x6, .dat (N m.1), .dat (N m.2.1), .un, .un, .un]) ?_).trans ?_))) rfl
  · rw [sFor_of (s1 := [.dat (lotsP L), .dat (ordP o), .lst [], .un, .un, .un, .un, .un, .un, .un, .un, .un]) (items := L.zipIdx.map fun q => T [N q.2, lotP q.1]) (by
      rw [← enum_lots]
      rfl), h1, h2]
  · simp only [hm, encW, runP, ss0, toRes, sRet, sSet, sEx, sUn, put1, sNil, sSetIx, eV, eFz, eMv, eC, eOp2, eUn, eCB, eFn, eIO, eIOt, eAnd, eOr, eNot, notD, eIf, eChain, eTup, eLst, aNil, aCons, mT, mNot, mAnd, mOr, mYes, boolD, truD, val, vals, frz, frzs, Res.ev, opn, bN, bT, bsCons, bsNil, wipeS, pNo, pSo, eApp, eExt, List.length_cons, List.map_cons, List.getElem?_cons_zero, List.getElem?_cons_succ, List.length_nil, if_true, if_false, List.map_nil, List.cons_append, List.nil_append, Option.bind_some, Option.map_some, List.set_cons_zero, List.set_cons_succ, List.replicate, Nat.reduceAdd, Nat.reduceSub, Nat.reduceEqDiff, Bool.not_true, Bool.not_false, Bool.false_eq_true, reduceCtorEq, reduceIte]
  · simp only [addD_nat, h3, runP, ss0, toRes, sRet, sSet, sEx, sUn, put1, sNil, sSetIx, eV, eFz, eMv, eC, eOp2, eUn, eCB, eFn, eIO, eIOt, eAnd, eOr, eNot, notD, eIf, eChain, eTup, eLst, aNil, aCons, mT, mNot, mAnd, mOr, mYes, boolD, truD, val, vals, frz, frzs, Res.ev, opn, bN, bT, bsCons, bsNil, wipeS, pNo, pSo, eApp, eExt, List.length_cons, List.map_cons, List.getElem?_cons_zero, List.getElem?_cons_succ, List.length_nil, if_true, if_false, List.map_nil, List.cons_append, List.nil_append, Option.bind_some, Option.map_some, List.set_cons_zero, List.set_cons_succ, List.replicate, Nat.reduceAdd, Nat.reduceSub, Nat.reduceEqDiff, Bool.not_true, Bool.not_false, Bool.false_eq_true, reduceCtorEq, reduceIte]
end Wk

namespace Wk
open PySem PySem.Spec L2 Ly
/-! ### stretches that lose too many -/
def Bad (L : List (Nat × Nat)) (o : List Nat) (s b i : Nat) : Prop := ∃ p, L[i]? = some p ∧ 1 ≤ s ∧ b + s ≤ o.length ∧ (o.take b).count i + (p.1 - p.2) < (o.take (b + s)).count i
theorem mem_allW {L : List (Nat × Nat)} {o : List Nat} {t : Tr} (h : t ∈ allW L o) : ∃ p a, L[t.2.2]? = some p ∧ a < p.2 ∧ t = winT o t.2.2 (p.1 - p.2) a := by
  unfold allW at h
  obtain ⟨l, h1, h2⟩ := List.mem_flatten.mp h
  obtain ⟨q, h3, h4⟩ := List.mem_map.mp h1
  subst h4
  unfold rowW at h2
  obtain ⟨a, h5, h6⟩ := List.mem_map.mp h2
  subst h6
  obtain ⟨m1, _, _, m2⟩ := mem_zipIdx h3
  exact ⟨q.1, a, (show L[q.2]? = some q.1 by simpa using m2), List.mem_range.mp h5, rfl⟩
theorem in_allW {L : List (Nat × Nat)} {o : List Nat} {i a : Nat} {p : Nat × Nat} (hp : L[i]? = some p) (ha : a < p.2) : winT o i (p.1 - p.2) a ∈ allW L o := by
  unfold allW
  refine List.mem_flatten.mpr ⟨rowW o (p, i), List.mem_map.mpr ⟨(p, i), ?_, rfl⟩, List.mem_map.mpr ⟨a, List.mem_range.mpr ha, rfl⟩⟩
  refine List.mem_of_getElem? (i := i) ?_
  rw [List.getElem?_zipIdx, hp]
  simp
theorem W_bad {L : List (Nat × Nat)} {o : List Nat} (h : Ok L) (c : Cnt L o) {t : Tr} (ht : t ∈ allW L o) : Bad L o t.1 t.2.1 t.2.2 := by
  obtain ⟨p, a, hp, ha, e⟩ := mem_allW ht
  have hq := h.lot p (List.mem_of_getElem? hp)
  have hc := c.ct _ p hp
  generalize t.2.2 = i at *
  subst e
  have g1 := pos_get (i := i) (o := o) (j := a + (p.1 - p.2)) (by omega)
  have g2 := pos_get (i := i) (o := o) (j := a) (by omega)
  have g3 := pos_mono (i := i) (o := o) (a := a) (b := a + (p.1 - p.2)) (by omega) (by omega)
  have g4 := pos_bound (i := i) (o := o) (a := a + (p.1 - p.2)) (by omega)
  refine ⟨p, hp, ?_, ?_, ?_⟩
  · show 1 ≤ (pos i o).getD (a + (p.1 - p.2)) 0 + 1 - (pos i o).getD a 0
    omega
  · show (pos i o).getD a 0 + ((pos i o).getD (a + (p.1 - p.2)) 0 + 1 - (pos i o).getD a 0) ≤ o.length
    omega
  · show (o.take ((pos i o).getD a 0)).count i + (p.1 - p.2) < (o.take ((pos i o).getD a 0 + ((pos i o).getD (a + (p.1 - p.2)) 0 + 1 - (pos i o).getD a 0))).count i
    have e1 : (pos i o).getD a 0 + ((pos i o).getD (a + (p.1 - p.2)) 0 + 1 - (pos i o).getD a 0) = (pos i o).getD (a + (p.1 - p.2)) 0 + 1 := by omega
    rw [e1]
    have q1 := (pos_lt (e := (pos i o).getD (a + (p.1 - p.2)) 0 + 1) g1).mp (by omega)
    have q2 := pos_lt (e := (pos i o).getD a 0) g2
    omega
theorem bad_W {L : List (Nat × Nat)} {o : List Nat} (h : Ok L) (c : Cnt L o) {s b i : Nat} (hb : Bad L o s b i) : ∃ t ∈ allW L o, t.2.2 = i ∧ b ≤ t.2.1 ∧ t.2.1 + t.1 ≤ b + s := by
  obtain ⟨p, hp, h1, h2, h3⟩ := hb
  have hq := h.lot p (List.mem_of_getElem? hp)
  have hc := c.ct _ p hp
  have hle : (o.take (b + s)).count i ≤ o.count i := List.Sublist.count_le _ (List.take_sublist _ _)
  refine ⟨winT o i (p.1 - p.2) ((o.take b).count i), in_allW hp (by omega), rfl, ?_, ?_⟩
  · show b ≤ (pos i o).getD ((o.take b).count i) 0
    have := pos_lt (e := b) (pos_get (i := i) (o := o) (j := (o.take b).count i) (by omega))
    omega
  · show (pos i o).getD ((o.take b).count i) 0 + ((pos i o).getD ((o.take b).count i + (p.1 - p.2)) 0 + 1 - (pos i o).getD ((o.take b).count i) 0) ≤ b + s
    have g1 := (pos_lt (e := b + s) (pos_get (i := i) (o := o) (j := (o.take b).count i + (p.1 - p.2)) (by omega))).mpr h3
    have g3 := pos_mono (i := i) (o := o) (a := (o.take b).count i) (b := (o.take b).count i + (p.1 - p.2)) (by omega) (by omega)
    omega
/-- the least of them -/
structure Least (L : List (Nat × Nat)) (o : List Nat) (m : Tr) : Prop where
  bad : Bad L o m.1 m.2.1 m.2.2
  min : ∀ s b i, Bad L o s b i → ltW (s, b, i) m = false
theorem least_W {L : List (Nat × Nat)} {o : List Nat} (h : Ok L) (c : Cnt L o) {t : Tr} {ts : List Tr} (hW : allW L o = t :: ts) : Least L o (minW t ts) := by
  obtain ⟨h1, h2⟩ := minW_le ts t
  rw [← hW] at h1 h2
  refine ⟨W_bad h c h1, fun s b i hb => ?_⟩
  obtain ⟨u, hu, e1, e2, e3⟩ := bad_W h c hb
  have := h2 u hu
  have := (W_bad h c hu)
  obtain ⟨_, _, hu1, _, _⟩ := this
  have h3 := h2 u hu
  rw [Bool.eq_false_iff] at h3 ⊢
  intro q
  apply h3
  rw [ltW_iff] at q ⊢
  simp only at q
  omega
theorem allW_ne {L : List (Nat × Nat)} {o : List Nat} (h : Ok L) : ∃ t ts, allW L o = t :: ts := by
  cases e : allW L o with
  | cons t ts => exact ⟨t, ts, rfl⟩
  | nil =>
    exfalso
    obtain ⟨p, L', e2⟩ : ∃ p L', L = p :: L' := by
      cases L with
      | nil => exact absurd rfl h.ne
      | cons p L' => exact ⟨p, L', rfl⟩
    have hp : L[0]? = some p := by rw [e2]; rfl
    have := in_allW (o := o) hp (a := 0) (by have := h.lot p (List.mem_of_getElem? hp); omega)
    rw [e] at this
    cases this
/-! ### a stretch that is lost -/
def badIx (L : List (Nat × Nat)) (o : List Nat) (b e : Nat) : List Nat := (L.zipIdx.filter fun q => decide ((o.take b ++ o.drop e).count q.2 < q.1.2)).map (·.2)
theorem mem_badIx {L : List (Nat × Nat)} {o : List Nat} (h : Ok L) (c : Cnt L o) {b s i : Nat} (hs : 1 ≤ s) (hn : b + s ≤ o.length) : i ∈ badIx L o b (b + s) ↔ Bad L o s b i := by
  have cut : (o.take (b + s)).count i + (o.drop (b + s)).count i = o.count i := by
    rw [← List.count_append, List.take_append_drop]
  have hm : (o.take b).count i ≤ (o.take (b + s)).count i := List.Sublist.count_le _ (List.take_sublist_take_left (by omega))
  constructor
  · intro hi
    obtain ⟨q, h1, h2⟩ := List.mem_map.mp hi
    obtain ⟨h3, h4⟩ := List.mem_filter.mp h1
    obtain ⟨m1, _, _, m2⟩ := mem_zipIdx h3
    subst h2
    have hp : L[q.2]? = some q.1 := by simpa using m2
    have h4 := of_decide_eq_true h4
    rw [List.count_append] at h4
    have := c.ct _ _ hp
    have := h.lot q.1 m1
    exact ⟨q.1, hp, hs, hn, by omega⟩
  · rintro ⟨p, hp, _, _, h3⟩
    refine List.mem_map.mpr ⟨(p, i), List.mem_filter.mpr ⟨List.mem_of_getElem? (i := i) (by rw [List.getElem?_zipIdx, hp]; simp), decide_eq_true ?_⟩, rfl⟩
    show (o.take b ++ o.drop (b + s)).count i < p.2
    rw [List.count_append]
    have := c.ct _ _ hp
    have := h.lot p (List.mem_of_getElem? hp)
    omega
theorem zipIdx_snd {α : Type} : ∀ (l : List α) (k : Nat), (l.zipIdx k).map (·.2) = List.range' k l.length
  | [], _ => rfl
  | x :: l, k => by
    rw [List.zipIdx_cons, List.map_cons, zipIdx_snd l (k + 1), List.length_cons, List.range'_succ]
theorem badIx_head {L : List (Nat × Nat)} {o : List Nat} {b e i : Nat} {r : List Nat} (h : badIx L o b e = i :: r) : ∀ j ∈ badIx L o b e, i ≤ j := by
  have hp : (badIx L o b e).Pairwise (· < ·) := by
    unfold badIx
    refine List.Pairwise.sublist (List.Sublist.map _ List.filter_sublist) ?_
    rw [zipIdx_snd]
    exact List.pairwise_lt_range'
  intro j hj
  rw [h] at hp hj
  rcases List.mem_cons.mp hj with q | q
  · omega
  · have := (List.pairwise_cons.mp hp).1 j q
    omega
theorem plain_N : ∀ l : List Nat, PyData.plainAll (l.map N) = true
  | [] => rfl
  | x :: l => by
    show ((N x).plain && PyData.plainAll (l.map N)) = true
    rw [plain_N l]
    rfl
theorem count_N (l : List Nat) (i : Nat) : (l.map N).countP (fun y => PyData.eqv y (N i)) = l.count i := by
  rw [List.countP_map]
  unfold List.count
  refine List.countP_congr fun x _ => ?_
  show PyData.eqv (N x) (N i) = true ↔ (x == i) = true
  rw [eqv_nat, decide_eq_true_eq, beq_iff_eq]
theorem countT_N (l : List Nat) (i : Nat) : countT (T (l.map N)) [N i] = some (.dat (N (l.count i))) := by
  have e : countT (T (l.map N)) [N i] = if PyData.plainAll (l.map N) = true ∧ (N i).plain = true ∧ (N i).depth ≤ 40 then some (.dat (.int (((l.map N).countP fun y => PyData.eqv y (N i) : Nat) : Int))) else none := rfl
  rw [e, if_pos ⟨plain_N l, rfl, show (0 : Nat) ≤ 40 by decide⟩, count_N]
theorem sIx_lo (n : Nat) : HT.sIx n 0 none = 0 := by simp [HT.sIx]
theorem sIx_hi (n : Nat) : HT.sIx n n none = n := by simp [HT.sIx]
theorem sIx_nat {n d k : Nat} (h : k ≤ n) : HT.sIx n d (some (k : Int)) = k := by
  unfold HT.sIx
  simp only
  split <;> omega
theorem slD_take {xs : List PyData} {b : Nat} (h : b ≤ xs.length) : slD (T xs) none (some (b : Int)) = some (.dat (T (xs.take b))) := by
  show some (Res.dat (.tuple (cutD xs none (some (b : Int))))) = _
  unfold cutD
  rw [sIx_lo, sIx_nat h, List.drop_zero, Nat.sub_zero]
theorem slD_drop {xs : List PyData} {e : Nat} (h : e ≤ xs.length) : slD (T xs) (some (e : Int)) none = some (.dat (T (xs.drop e))) := by
  show some (Res.dat (.tuple (cutD xs (some (e : Int)) none))) = _
  unfold cutD
  rw [sIx_hi, sIx_nat h, List.take_of_length_le (by rw [List.length_drop]; omega)]
theorem canLay_N : ∀ l : List Nat, PyData.canLayAll0 (l.map N) = true
  | [] => rfl
  | x :: l => by
    show ((N x).canLay0 && PyData.canLayAll0 (l.map N)) = true
    rw [canLay_N l]
    rfl
theorem depth_N : ∀ l : List Nat, PyData.depthAll (l.map N) = 0
  | [] => rfl
  | x :: l => by
    show max (N x).depth (PyData.depthAll (l.map N)) = 0
    rw [depth_N l]
    rfl
theorem shaped_LN (l : List Nat) : SeqAt.shaped (.list (l.map N)) = true := by
  show (PyData.canLayAll0 (l.map N) && decide (PyData.depthAll (l.map N) + 1 ≤ 64)) = true
  rw [canLay_N, depth_N]
  rfl
theorem neD_nil (l : List Nat) : neD (.list (l.map N)) (.list []) = some (.dat (.bool (!l.isEmpty))) := by
  unfold neD
  rw [if_pos ⟨shaped_LN l, by decide⟩]
  cases l with
  | nil => rfl
  | cons x l => rfl
end Wk

namespace Wk
open PySem PySem.Spec L2 Ly
def firstD : List Nat → PyData
  | [] => .none
  | i :: _ => N i
theorem e_short {L : List (Nat × Nat)} {o : List Nat} (h : Ok L) (c : Cnt L o) {b e : Nat} (hb : b ≤ e) (he : e ≤ o.length) : g__law_short [lotsP L, ordP o, N b, N e] = some (.dat (firstD (badIx L o b e))) := by
  have hlen := c.le
  have s1 : slD (ordP o) none (some (b : Int)) = some (.dat (T ((o.take b).map N))) := by rw [slD_take (by rw [List.length_map]; omega), List.map_take]
  have s2 : slD (ordP o) (some (e : Int)) none = some (.dat (T ((o.drop e).map N))) := by rw [slD_drop (by rw [List.length_map]; omega), List.map_drop]
  have s3 : addD (T ((o.take b).map N)) (T ((o.drop e).map N)) = some (.dat (T ((o.take b ++ o.drop e).map N))) := by
    have q : ((o.take b).map N).length + ((o.drop e).map N).length ≤ big := by
      rw [List.length_map, List.length_map, List.length_take, List.length_drop]
      exact big64 (by omega)
    show (if _ ≤ big then some (Res.dat (.tuple _)) else none) = _
    rw [if_pos q, List.map_append]
  have hl : lcLoop (bT 2 (bsCons (bN 6) (bsCons (bN 7) (bsNil)))) (mT (eOp2 ltD (eBM "tuple" countT (eV 4) (aCons (eV 6) (aNil))) (eOp2 ixD (eV 7) (eC (.int 1)))) boolD) (eFz 6) [6, 7] (L.zipIdx.map fun q => T [N q.2, lotP q.1]) [.dat (lotsP L), .dat (ordP o), .dat (N b), .dat (N e), .dat (T ((o.take b ++ o.drop e).map N)), .un, .un, .un] = some ((badIx L o b e).map N, [.dat (lotsP L), .dat (ordP o), .dat (N b), .dat (N e), .dat (T ((o.take b ++ o.drop e).map N)), .un, .un, .un]) := by
    rw [lcLoop_map (ss := [.dat (lotsP L), .dat (ordP o), .dat (N b), .dat (N e), .dat (T ((o.take b ++ o.drop e).map N)), .un, .un, .un]) (fun q : (Nat × Nat) × Nat => T [N q.2, lotP q.1]) (fun q => decide ((o.take b ++ o.drop e).count q.2 < q.1.2)) (fun q => N q.2) L.zipIdx fun q _ => ?_]
    · unfold badIx
      rw [List.map_map]
      rfl
    · have g1 : ixD (lotP q.1) (.int 1) = some (.dat (N q.1.2)) := rfl
      refine ⟨[.dat (lotsP L), .dat (ordP o), .dat (N b), .dat (N e), .dat (T ((o.take b ++ o.drop e).map N)), .un, .dat (N q.2), .dat (lotP q.1)], [.dat (lotsP L), .dat (ordP o), .dat (N b), .dat (N e), .dat (T ((o.take b ++ o.drop e).map N)), .un, .dat (N q.2), .dat (lotP q.1)], rfl, ?_, fun _ => rfl, fun _ => ⟨_, _, rfl, rfl, rfl⟩⟩
      have g2 : tyD "tuple" (T ((o.take b ++ o.drop e).map N)) = true := rfl
      simp only [eBM, g1, g2, countT_N, ltD_nat, runP, ss0, toRes, sRet, sSet, sEx, sUn, put1, sNil, sSetIx, eV, eFz, eMv, eC, eOp2, eUn, eCB, eFn, eIO, eIOt, eAnd, eOr, eNot, notD, eIf, eChain, eTup, eLst, aNil, aCons, mT, mNot, mAnd, mOr, mYes, boolD, truD, val, vals, frz, frzs, Res.ev, opn, bN, bT, bsCons, bsNil, wipeS, pNo, pSo, eApp, eExt, List.length_cons, List.map_cons, List.getElem?_cons_zero, List.getElem?_cons_succ, List.length_nil, if_true, if_false, List.map_nil, List.cons_append, List.nil_append, Option.bind_some, Option.map_some, List.set_cons_zero, List.set_cons_succ, List.replicate, Nat.reduceAdd, Nat.reduceSub, Nat.reduceEqDiff, Bool.not_true, Bool.not_false, Bool.false_eq_true, reduceCtorEq, reduceIte]
  have hlc := eLc_of (fi := iEn (aCons (eFz 0) aNil)) (s := [.dat (lotsP L), .dat (ordP o), .dat (N b), .dat (N e), .dat (T ((o.take b ++ o.drop e).map N)), .un, .un, .un]) (s1 := [.dat (lotsP L), .dat (ordP o), .dat (N b), .dat (N e), .dat (T ((o.take b ++ o.drop e).map N)), .un, .un, .un]) (items := L.zipIdx.map fun q => T [N q.2, lotP q.1]) (by rw [← enum_lots]; rfl) hl (by
    have : (badIx L o b e).length ≤ L.length := by
      unfold badIx
      rw [List.length_map]
      refine Nat.le_trans (List.length_filter_le _ _) ?_
      rw [List.length_zipIdx]
      exact Nat.le_refl _
    rw [List.length_map]
    have := h.le
    exact big64 (by omega))
  unfold g__law_short m__law_short
  refine runP_rt (ev := .dat (firstD (badIx L o b e))) (s := [.dat (lotsP L), .dat (ordP o), .dat (N b), .dat (N e), .dat (T ((o.take b ++ o.drop e).map N)), .lst ((badIx L o b e).map N), .un, .un]) rfl ((sSeq_nx (s1 := [.dat (lotsP L), .dat (ordP o), .dat (N b), .dat (N e), .dat (T ((o.take b ++ o.drop e).map N)), .un, .un, .un]) ?_).trans ((sSeq_nx (s1 := [.dat (lotsP L), .dat (ordP o), .dat (N b), .dat (N e), .dat (T ((o.take b ++ o.drop e).map N)), .lst ((badIx L o b e).map N), .un, .un]) ?_).trans ?_)) rfl
  · simp only [eSl, s1, s2, s3, runP, ss0, toRes, sRet, sSet, sEx, sUn, put1, sNil, sSetIx, eV, eFz, eMv, eC, eOp2, eUn, eCB, eFn, eIO, eIOt, eAnd, eOr, eNot, notD, eIf, eChain, eTup, eLst, aNil, aCons, mT, mNot, mAnd, mOr, mYes, boolD, truD, val, vals, frz, frzs, Res.ev, opn, bN, bT, bsCons, bsNil, wipeS, pNo, pSo, eApp, eExt, List.length_cons, List.map_cons, List.getElem?_cons_zero, List.getElem?_cons_succ, List.length_nil, if_true, if_false, List.map_nil, List.cons_append, List.nil_append, Option.bind_some, Option.map_some, List.set_cons_zero, List.set_cons_succ, List.replicate, Nat.reduceAdd, Nat.reduceSub, Nat.reduceEqDiff, Bool.not_true, Bool.not_false, Bool.false_eq_true, reduceCtorEq, reduceIte]
  · unfold sSet
    rw [hlc]
    rfl
  · cases hx : badIx L o b e with
    | nil =>
      have q : neD (.list []) (.list []) = some (.dat (.bool false)) := neD_nil []
      have q2 : 0 ≤ big := Nat.zero_le _
      simp only [q, q2, firstD, runP, ss0, toRes, sRet, sSet, sEx, sUn, put1, sNil, sSetIx, eV, eFz, eMv, eC, eOp2, eUn, eCB, eFn, eIO, eIOt, eAnd, eOr, eNot, notD, eIf, eChain, eTup, eLst, aNil, aCons, mT, mNot, mAnd, mOr, mYes, boolD, truD, val, vals, frz, frzs, Res.ev, opn, bN, bT, bsCons, bsNil, wipeS, pNo, pSo, eApp, eExt, List.length_cons, List.map_cons, List.getElem?_cons_zero, List.getElem?_cons_succ, List.length_nil, if_true, if_false, List.map_nil, List.cons_append, List.nil_append, Option.bind_some, Option.map_some, List.set_cons_zero, List.set_cons_succ, List.replicate, Nat.reduceAdd, Nat.reduceSub, Nat.reduceEqDiff, Bool.not_true, Bool.not_false, Bool.false_eq_true, reduceCtorEq, reduceIte]
    | cons i r =>
      have q : neD (.list (N i :: r.map N)) (.list []) = some (.dat (.bool true)) := neD_nil (i :: r)
      have q1 : ixD (.list (N i :: r.map N)) (.int 0) = some (.dat (N i)) := ixD_lst (i := 0) rfl
      have q2 : 0 ≤ big := Nat.zero_le _
      simp only [q, q1, q2, firstD, runP, ss0, toRes, sRet, sSet, sEx, sUn, put1, sNil, sSetIx, eV, eFz, eMv, eC, eOp2, eUn, eCB, eFn, eIO, eIOt, eAnd, eOr, eNot, notD, eIf, eChain, eTup, eLst, aNil, aCons, mT, mNot, mAnd, mOr, mYes, boolD, truD, val, vals, frz, frzs, Res.ev, opn, bN, bT, bsCons, bsNil, wipeS, pNo, pSo, eApp, eExt, List.length_cons, List.map_cons, List.getElem?_cons_zero, List.getElem?_cons_succ, List.length_nil, if_true, if_false, List.map_nil, List.cons_append, List.nil_append, Option.bind_some, Option.map_some, List.set_cons_zero, List.set_cons_succ, List.replicate, Nat.reduceAdd, Nat.reduceSub, Nat.reduceEqDiff, Bool.not_true, Bool.not_false, Bool.false_eq_true, reduceCtorEq, reduceIte]
/-! ### the law's own search -/
abbrev wkB : FS := sSeq (sSet 4 (eFn g__law_short (aCons (eFz 0) (aCons (eFz 1) (aCons (eFz 3) (aCons (eOp2 addD (eV 3) (eV 2)) (aNil))))))) (sIf (mT (eOp2 notND (eV 4) (eC .none)) boolD) (sRet (eTup (aCons (eFz 3) (aCons (eOp2 addD (eV 3) (eV 2)) (aCons (eFz 4) (aNil)))))) (sNil))
abbrev wkF : FS := sFor (iR (aCons (eOp2 addD (eOp2 subD (eCB lenD (aCons (eV 1) (aNil))) (eV 2)) (eC (.int 1))) (aNil))) (bN 3) wkB
def wkR (L : List (Nat × Nat)) (o : List Nat) (s : Nat) (S : SS) : Prop := ∃ x3 x4, S = [.dat (lotsP L), .dat (ordP o), .dat (N s), x3, x4]
theorem wk_no {L : List (Nat × Nat)} {o : List Nat} (h : Ok L) (c : Cnt L o) {s b : Nat} (hs : 1 ≤ s) (hn : b + s ≤ o.length) (x4 : SlotV) (hx : badIx L o b (b + s) = []) : wkB [.dat (lotsP L), .dat (ordP o), .dat (N s), .dat (N b), x4] = some (.nx [.dat (lotsP L), .dat (ordP o), .dat (N s), .dat (N b), .dat .none]) := by
  have e1 := e_short h c (b := b) (e := b + s) (by omega) hn
  rw [hx] at e1
  refine (sSeq_nx (s1 := [.dat (lotsP L), .dat (ordP o), .dat (N s), .dat (N b), .dat .none]) ?_).trans rfl
  simp only [addD_nat, e1, firstD, runP, ss0, toRes, sRet, sSet, sEx, sUn, put1, sNil, sSetIx, eV, eFz, eMv, eC, eOp2, eUn, eCB, eFn, eIO, eIOt, eAnd, eOr, eNot, notD, eIf, eChain, eTup, eLst, aNil, aCons, mT, mNot, mAnd, mOr, mYes, boolD, truD, val, vals, frz, frzs, Res.ev, opn, bN, bT, bsCons, bsNil, wipeS, pNo, pSo, eApp, eExt, List.length_cons, List.map_cons, List.getElem?_cons_zero, List.getElem?_cons_succ, List.length_nil, if_true, if_false, List.map_nil, List.cons_append, List.nil_append, Option.bind_some, Option.map_some, List.set_cons_zero, List.set_cons_succ, List.replicate, Nat.reduceAdd, Nat.reduceSub, Nat.reduceEqDiff, Bool.not_true, Bool.not_false, Bool.false_eq_true, reduceCtorEq, reduceIte]
theorem wk_yes {L : List (Nat × Nat)} {o : List Nat} (h : Ok L) (c : Cnt L o) {s b i : Nat} {r : List Nat} (hs : 1 ≤ s) (hn : b + s ≤ o.length) (x4 : SlotV) (hx : badIx L o b (b + s) = i :: r) : wkB [.dat (lotsP L), .dat (ordP o), .dat (N s), .dat (N b), x4] = some (.rt (.dat (T [N b, N (b + s), N i])) [.dat (lotsP L), .dat (ordP o), .dat (N s), .dat (N b), .dat (N i)]) := by
  have e1 := e_short h c (b := b) (e := b + s) (by omega) hn
  rw [hx] at e1
  have q3 : 3 ≤ big := by decide
  have q4 : notND (N i) .none = some (.dat (.bool true)) := rfl
  refine (sSeq_nx (s1 := [.dat (lotsP L), .dat (ordP o), .dat (N s), .dat (N b), .dat (N i)]) ?_).trans ((sIf_y (s1 := [.dat (lotsP L), .dat (ordP o), .dat (N s), .dat (N b), .dat (N i)]) ?_).trans ?_)
  · simp only [addD_nat, e1, firstD, runP, ss0, toRes, sRet, sSet, sEx, sUn, put1, sNil, sSetIx, eV, eFz, eMv, eC, eOp2, eUn, eCB, eFn, eIO, eIOt, eAnd, eOr, eNot, notD, eIf, eChain, eTup, eLst, aNil, aCons, mT, mNot, mAnd, mOr, mYes, boolD, truD, val, vals, frz, frzs, Res.ev, opn, bN, bT, bsCons, bsNil, wipeS, pNo, pSo, eApp, eExt, List.length_cons, List.map_cons, List.getElem?_cons_zero, List.getElem?_cons_succ, List.length_nil, if_true, if_false, List.map_nil, List.cons_append, List.nil_append, Option.bind_some, Option.map_some, List.set_cons_zero, List.set_cons_succ, List.replicate, Nat.reduceAdd, Nat.reduceSub, Nat.reduceEqDiff, Bool.not_true, Bool.not_false, Bool.false_eq_true, reduceCtorEq, reduceIte]
  · simp only [q4, runP, ss0, toRes, sRet, sSet, sEx, sUn, put1, sNil, sSetIx, eV, eFz, eMv, eC, eOp2, eUn, eCB, eFn, eIO, eIOt, eAnd, eOr, eNot, notD, eIf, eChain, eTup, eLst, aNil, aCons, mT, mNot, mAnd, mOr, mYes, boolD, truD, val, vals, frz, frzs, Res.ev, opn, bN, bT, bsCons, bsNil, wipeS, pNo, pSo, eApp, eExt, List.length_cons, List.map_cons, List.getElem?_cons_zero, List.getElem?_cons_succ, List.length_nil, if_true, if_false, List.map_nil, List.cons_append, List.nil_append, Option.bind_some, Option.map_some, List.set_cons_zero, List.set_cons_succ, List.replicate, Nat.reduceAdd, Nat.reduceSub, Nat.reduceEqDiff, Bool.not_true, Bool.not_false, Bool.false_eq_true, reduceCtorEq, reduceIte]
  · simp only [addD_nat, q3, runP, ss0, toRes, sRet, sSet, sEx, sUn, put1, sNil, sSetIx, eV, eFz, eMv, eC, eOp2, eUn, eCB, eFn, eIO, eIOt, eAnd, eOr, eNot, notD, eIf, eChain, eTup, eLst, aNil, aCons, mT, mNot, mAnd, mOr, mYes, boolD, truD, val, vals, frz, frzs, Res.ev, opn, bN, bT, bsCons, bsNil, wipeS, pNo, pSo, eApp, eExt, List.length_cons, List.map_cons, List.getElem?_cons_zero, List.getElem?_cons_succ, List.length_nil, if_true, if_false, List.map_nil, List.cons_append, List.nil_append, Option.bind_some, Option.map_some, List.set_cons_zero, List.set_cons_succ, List.replicate, Nat.reduceAdd, Nat.reduceSub, Nat.reduceEqDiff, Bool.not_true, Bool.not_false, Bool.false_eq_true, reduceCtorEq, reduceIte]
theorem len_ord (o : List Nat) : lenD [ordP o] = some (.dat (N o.length)) := by
  show some (Res.dat (.int (((o.map N).length : Nat) : Int))) = _
  rw [List.length_map]
theorem wk_items {L : List (Nat × Nat)} {o : List Nat} (c : Cnt L o) {s : Nat} (hs : s ≤ o.length) (x3 x4 : SlotV) : iR (aCons (eOp2 addD (eOp2 subD (eCB lenD (aCons (eV 1) (aNil))) (eV 2)) (eC (.int 1))) (aNil)) [.dat (lotsP L), .dat (ordP o), .dat (N s), x3, x4] = some ((List.range (o.length - s + 1)).map N, [.dat (lotsP L), .dat (ordP o), .dat (N s), x3, x4]) := by
  refine iR_one ?_ (by have := c.le; omega)
  simp only [len_ord, subD_nat hs, addD_one, runP, ss0, toRes, sRet, sSet, sEx, sUn, put1, sNil, sSetIx, eV, eFz, eMv, eC, eOp2, eUn, eCB, eFn, eIO, eIOt, eAnd, eOr, eNot, notD, eIf, eChain, eTup, eLst, aNil, aCons, mT, mNot, mAnd, mOr, mYes, boolD, truD, val, vals, frz, frzs, Res.ev, opn, bN, bT, bsCons, bsNil, wipeS, pNo, pSo, eApp, eExt, List.length_cons, List.map_cons, List.getElem?_cons_zero, List.getElem?_cons_succ, List.length_nil, if_true, if_false, List.map_nil, List.cons_append, List.nil_append, Option.bind_some, Option.map_some, List.set_cons_zero, List.set_cons_succ, List.replicate, Nat.reduceAdd, Nat.reduceSub, Nat.reduceEqDiff, Bool.not_true, Bool.not_false, Bool.false_eq_true, reduceCtorEq, reduceIte]
theorem nil_of_none {L : List (Nat × Nat)} {o : List Nat} (h : Ok L) (c : Cnt L o) {s b : Nat} (hs : 1 ≤ s) (hn : b + s ≤ o.length) (H : ∀ i, ¬ Bad L o s b i) : badIx L o b (b + s) = [] := by
  cases e : badIx L o b (b + s) with
  | nil => rfl
  | cons i r =>
    refine absurd ((mem_badIx h c hs hn).mp ?_) (H i)
    rw [e]
    exact List.mem_cons_self
theorem iR_of2 {g : M (List EV)} {ss s1 : SS} {i j : Int} (h : g ss = some ([.dat (.int i), .dat (.int j)], s1)) (hb : (bnd i && bnd j) = true) : iR g ss = some (rngD i (j - i).toNat, s1) := by
  have e : iR g ss = if (bnd i && bnd j) = true then some (rngD i (j - i).toNat, s1) else none := by
    unfold iR
    rw [h]
    rfl
  rw [e, if_pos hb]
theorem e_law_weak {L : List (Nat × Nat)} {o : List Nat} (h : Ok L) (c : Cnt L o) {m : Tr} (hm : Least L o m) : g__law_weak [lotsP L, ordP o] = some (.dat (T [N m.2.1, N (m.2.1 + m.1), N m.2.2])) := by
  obtain ⟨s0, b0, i0⟩ := m
  obtain ⟨p0, hp0, h1, h2, h3⟩ := hm.bad
  simp only at h1 h2 h3 hp0 ⊢
  have hno : ∀ s b, 1 ≤ s → b + s ≤ o.length → (s < s0 ∨ (s = s0 ∧ b < b0)) → badIx L o b (b + s) = [] := fun s b g1 g2 g3 => nil_of_none h c g1 g2 fun i hb => by
    have := hm.min s b i hb
    rw [Bool.eq_false_iff] at this
    apply this
    rw [ltW_iff]
    simp only
    omega
  have hyes : ∃ r, badIx L o b0 (b0 + s0) = i0 :: r := by
    have g1 := (mem_badIx h c h1 h2).mpr hm.bad
    cases e : badIx L o b0 (b0 + s0) with
    | nil => rw [e] at g1; cases g1
    | cons j r =>
      have g2 := badIx_head e i0 g1
      have g3 := (mem_badIx h c h1 h2).mp (show j ∈ badIx L o b0 (b0 + s0) by rw [e]; exact List.mem_cons_self)
      have g4 := hm.min s0 b0 j g3
      rw [Bool.eq_false_iff] at g4
      have : j = i0 := by
        have : ¬ j < i0 := fun z => g4 (ltW_iff.mpr (.inr ⟨rfl, .inr ⟨rfl, z⟩⟩))
        omega
      rw [this]
      exact ⟨r, rfl⟩
  obtain ⟨r0, hyes⟩ := hyes
  have hin : (iR (aCons (eC (.int 1)) (aCons (eOp2 addD (eCB lenD (aCons (eV 1) (aNil))) (eC (.int 1))) (aNil)))) [.dat (lotsP L), .dat (ordP o), .un, .un, .un] = some ((List.range o.length).map fun i => N (1 + i), [.dat (lotsP L), .dat (ordP o), .un, .un, .un]) := by
    have hle := c.le
    rw [iR_of2 (i := ((1 : Nat) : Int)) (j := ((o.length + 1 : Nat) : Int)) (s1 := [.dat (lotsP L), .dat (ordP o), .un, .un, .un]) (by simp only [len_ord, addD_one, runP, ss0, toRes, sRet, sSet, sEx, sUn, put1, sNil, sSetIx, eV, eFz, eMv, eC, eOp2, eUn, eCB, eFn, eIO, eIOt, eAnd, eOr, eNot, notD, eIf, eChain, eTup, eLst, aNil, aCons, mT, mNot, mAnd, mOr, mYes, boolD, truD, val, vals, frz, frzs, Res.ev, opn, bN, bT, bsCons, bsNil, wipeS, pNo, pSo, eApp, eExt, List.length_cons, List.map_cons, List.getElem?_cons_zero, List.getElem?_cons_succ, List.length_nil, if_true, if_false, List.map_nil, List.cons_append, List.nil_append, Option.bind_some, Option.map_some, List.set_cons_zero, List.set_cons_succ, List.replicate, Nat.reduceAdd, Nat.reduceSub, Nat.reduceEqDiff, Bool.not_true, Bool.not_false, Bool.false_eq_true, reduceCtorEq, reduceIte]; rfl) (by rw [bnd_nat (by omega), bnd_nat (by omega)]; rfl), rngD_from]
    congr 4
    omega
  obtain ⟨s2, g1, g2⟩ := loopS_rt (b := bN 2) (body := wkF) (ev := .dat (T [N b0, N (b0 + s0), N i0])) (fun S => ∃ x2 x3 x4, S = [.dat (lotsP L), .dat (ordP o), x2, x3, x4]) (fun _ => True) ((List.range o.length).map fun i => N (1 + i)) (s0 - 1) (N s0) [.dat (lotsP L), .dat (ordP o), .un, .un, .un]
    (by
      rw [List.getElem?_map, List.getElem?_range (by omega)]
      show some (N (1 + (s0 - 1))) = _
      rw [show 1 + (s0 - 1) = s0 by omega])
    ⟨_, _, _, rfl⟩ (fun j d S hj e ⟨x2, x3, x4, hS⟩ => by
      subst hS
      obtain ⟨hj2, rfl⟩ := range_map_get e
      obtain ⟨S2, q1, q2⟩ := loopS_inv (b := bN 3) (body := wkB) (fun _ S => wkR L o (1 + j) S) ((List.range (o.length - (1 + j) + 1)).map N) 0 [.dat (lotsP L), .dat (ordP o), .dat (N (1 + j)), x3, x4] ⟨_, _, rfl⟩ fun b d S e ⟨y3, y4, hS⟩ => by
        subst hS
        obtain ⟨hb, rfl⟩ := range_map_get e
        exact ⟨_, ⟨[.dat (lotsP L), .dat (ordP o), .dat (N (1 + j)), .dat (N b), y4], rfl, .inl (wk_no h c (by omega) (by omega) _ (hno _ _ (by omega) (by omega) (by omega)))⟩, _, _, rfl⟩
      obtain ⟨y3, y4, rfl⟩ := q2
      exact ⟨_, ⟨[.dat (lotsP L), .dat (ordP o), .dat (N (1 + j)), x3, x4], rfl, .inl ((sFor_of (wk_items c (by omega) x3 x4)).trans q1)⟩, _, _, _, rfl⟩)
    (fun S ⟨x2, x3, x4, hS⟩ => by
      subst hS
      obtain ⟨S2, q1, q2⟩ := loopS_rt (b := bN 3) (body := wkB) (ev := .dat (T [N b0, N (b0 + s0), N i0])) (fun S => wkR L o s0 S) (fun _ => True) ((List.range (o.length - s0 + 1)).map N) b0 (N b0) [.dat (lotsP L), .dat (ordP o), .dat (N s0), x3, x4]
        (by
          rw [List.getElem?_map, List.getElem?_range (by omega)]
          rfl) ⟨_, _, rfl⟩ (fun b d S hb e ⟨y3, y4, hS⟩ => by
        subst hS
        obtain ⟨hb2, rfl⟩ := range_map_get e
        exact ⟨_, ⟨[.dat (lotsP L), .dat (ordP o), .dat (N s0), .dat (N b), y4], rfl, .inl (wk_no h c (by omega) (by omega) _ (hno _ _ (by omega) (by omega) (by omega)))⟩, _, _, rfl⟩) fun S ⟨y3, y4, hS⟩ => by
        subst hS
        exact ⟨[.dat (lotsP L), .dat (ordP o), .dat (N s0), .dat (N b0), y4], _, rfl, wk_yes h c h1 h2 _ hyes, trivial⟩
      exact ⟨[.dat (lotsP L), .dat (ordP o), .dat (N s0), x3, x4], S2, rfl, (sFor_of (wk_items c (by omega) x3 x4)).trans q1, trivial⟩)
  unfold g__law_weak m__law_weak
  exact runP_rt (ev := .dat (T [N b0, N (b0 + s0), N i0])) (s := s2) rfl ((sSeq_rt ((sFor_of hin).trans g1))) rfl
end Wk

namespace Wk
open PySem PySem.Spec L2 Ly
theorem sum_count : ∀ (n : Nat) (o : List Nat), (∀ x ∈ o, x < n) → ((List.range n).map fun i => o.count i).sum = o.length
  | n, [], _ => by
    have : (List.range n).map (fun i => ([] : List Nat).count i) = List.replicate n 0 := by
      rw [List.eq_replicate_iff]
      refine ⟨by simp, fun b hb => ?_⟩
      obtain ⟨i, _, e⟩ := List.mem_map.mp hb
      rw [← e]
      rfl
    rw [this]
    simp
  | n, x :: xs, h => by
    have ih := sum_count n xs fun y m => h y (List.mem_cons_of_mem _ m)
    have hx := h x List.mem_cons_self
    have key : ∀ m, ((List.range m).map fun i => (x :: xs).count i).sum = ((List.range m).map fun i => xs.count i).sum + if x < m then 1 else 0 := by
      intro m
      induction m with
      | zero => simp
      | succ m ihm =>
        rw [List.range_succ, List.map_append, List.map_append, List.sum_append, List.sum_append, ihm]
        simp only [List.map_cons, List.map_nil, List.sum_cons, List.sum_nil, List.count_cons]
        by_cases q : x = m
        · subst q
          simp
          omega
        · have e1 : (x == m) = false := by simpa using q
          have e2 : (if x < m + 1 then 1 else 0) = (if x < m then 1 else 0 : Nat) := by
            by_cases q2 : x < m
            · rw [if_pos q2, if_pos (show x < m + 1 by omega)]
            · rw [if_neg q2, if_neg (show ¬ x < m + 1 by omega)]
          rw [e1, e2]
          simp
          omega
    rw [key n, if_pos hx, ih, List.length_cons]
theorem cnt_len {L : List (Nat × Nat)} {o : List Nat} (c : Cnt L o) : (L.map (·.1)).sum = o.length := by
  rw [← sum_count L.length o c.all]
  congr 1
  refine List.ext_getElem? fun i => ?_
  rw [List.getElem?_map, List.getElem?_map]
  by_cases hi : i < L.length
  · rw [List.getElem?_range hi, List.getElem?_eq_getElem hi]
    show some L[i].1 = some (o.count i)
    rw [c.ct i L[i] (List.getElem?_eq_getElem hi)]
  · rw [List.getElem?_eq_none (by omega), List.getElem?_eq_none (by rw [List.length_range]; omega)]
    rfl
theorem e_is_order {L : List (Nat × Nat)} {o : List Nat} (h : Ok L) (c : Cnt L o) : g_is_order [lotsP L, ordP o] = some (.dat (.bool true)) := by
  have hf := e_frames_in h.le
  rw [cnt_len c] at hf
  have hn := h.le
  have hol := c.le
  have hL1 : 1 ≤ L.length := List.length_pos_iff.mpr h.ne
  have hll : lenD [lotsP L] = some (.dat (N L.length)) := by
    show some (Res.dat (N (L.map lotP).length)) = _
    rw [List.length_map]
  have hs1 : subD (N L.length) (.int 1) = some (.dat (N (L.length - 1))) := subD_nat (a := L.length) (b := 1) hL1
  have l1 : lcLoop (bN 2) mYes (eFn g_is_within (aCons (eFz 2) (aCons (eC (.int 0)) (aCons (eOp2 subD (eCB lenD (aCons (eV 0) (aNil))) (eC (.int 1))) (aNil))))) [2] (o.map N) [.dat (lotsP L), .dat (ordP o), .un, .un] = some (o.map fun _ => .bool true, [.dat (lotsP L), .dat (ordP o), .un, .un]) := by
    refine lcLoop_all N (fun _ => .bool true) o fun x hx => ?_
    have w := e_is_within x 0 (L.length - 1)
    have := c.all x hx
    rw [decide_eq_true (Nat.zero_le x), decide_eq_true (show x ≤ L.length - 1 by omega)] at w
    have w : g_is_within [N x, .int 0, N (L.length - 1)] = some (.dat (.bool true)) := w
    refine ⟨[.dat (lotsP L), .dat (ordP o), .dat (N x), .un], rfl, .dat (.bool true), [.dat (lotsP L), .dat (ordP o), .dat (N x), .un], ?_, rfl, rfl⟩
    simp only [hll, hs1, w, runP, ss0, toRes, sRet, sSet, sEx, sUn, put1, sNil, sSetIx, eV, eFz, eMv, eC, eOp2, eUn, eCB, eFn, eIO, eIOt, eAnd, eOr, eNot, notD, eIf, eChain, eTup, eLst, aNil, aCons, mT, mNot, mAnd, mOr, mYes, boolD, truD, val, vals, frz, frzs, Res.ev, opn, bN, bT, bsCons, bsNil, wipeS, pNo, pSo, eApp, eExt, List.length_cons, List.map_cons, List.getElem?_cons_zero, List.getElem?_cons_succ, List.length_nil, if_true, if_false, List.map_nil, List.cons_append, List.nil_append, Option.bind_some, Option.map_some, List.set_cons_zero, List.set_cons_succ, List.replicate, Nat.reduceAdd, Nat.reduceSub, Nat.reduceEqDiff, Bool.not_true, Bool.not_false, Bool.false_eq_true, reduceCtorEq, reduceIte]
  have m1 := eLc_of (fi := iD (eFz 1)) (s := [.dat (lotsP L), .dat (ordP o), .un, .un]) (s1 := [.dat (lotsP L), .dat (ordP o), .un, .un]) rfl l1 (by rw [List.length_map]; exact big64 (by omega))
  have l2 : lcLoop (bT 2 (bsCons (bN 2) (bsCons (bN 3) (bsNil)))) mYes (eOp2 eqD (eBM "tuple" countT (eV 1) (aCons (eV 2) (aNil))) (eOp2 ixD (eV 3) (eC (.int 0)))) [2, 3] (L.zipIdx.map fun q => T [N q.2, lotP q.1]) [.dat (lotsP L), .dat (ordP o), .un, .un] = some (L.zipIdx.map fun _ => .bool true, [.dat (lotsP L), .dat (ordP o), .un, .un]) := by
    refine lcLoop_all (fun q : (Nat × Nat) × Nat => T [N q.2, lotP q.1]) (fun _ => .bool true) L.zipIdx fun q hq => ?_
    obtain ⟨_, _, _, m2⟩ := mem_zipIdx hq
    have hc := c.ct q.2 q.1 (by simpa using m2)
    have g1 : ixD (lotP q.1) (.int 0) = some (.dat (N q.1.1)) := rfl
    have g2 : tyD "tuple" (ordP o) = true := rfl
    have g3 := countT_N o q.2
    rw [hc] at g3
    have g4 : eqD (N q.1.1) (N q.1.1) = some (.dat (.bool true)) := by rw [eqD_nat, decide_eq_true rfl]
    refine ⟨[.dat (lotsP L), .dat (ordP o), .dat (N q.2), .dat (lotP q.1)], rfl, .dat (.bool true), [.dat (lotsP L), .dat (ordP o), .dat (N q.2), .dat (lotP q.1)], ?_, rfl, rfl⟩
    simp only [eBM, g1, g2, g3, g4, runP, ss0, toRes, sRet, sSet, sEx, sUn, put1, sNil, sSetIx, eV, eFz, eMv, eC, eOp2, eUn, eCB, eFn, eIO, eIOt, eAnd, eOr, eNot, notD, eIf, eChain, eTup, eLst, aNil, aCons, mT, mNot, mAnd, mOr, mYes, boolD, truD, val, vals, frz, frzs, Res.ev, opn, bN, bT, bsCons, bsNil, wipeS, pNo, pSo, eApp, eExt, List.length_cons, List.map_cons, List.getElem?_cons_zero, List.getElem?_cons_succ, List.length_nil, if_true, if_false, List.map_nil, List.cons_append, List.nil_append, Option.bind_some, Option.map_some, List.set_cons_zero, List.set_cons_succ, List.replicate, Nat.reduceAdd, Nat.reduceSub, Nat.reduceEqDiff, Bool.not_true, Bool.not_false, Bool.false_eq_true, reduceCtorEq, reduceIte]
  have m2 := eLc_of (fi := iEn (aCons (eFz 0) aNil)) (s := [.dat (lotsP L), .dat (ordP o), .un, .un]) (s1 := [.dat (lotsP L), .dat (ordP o), .un, .un]) (items := L.zipIdx.map fun q => T [N q.2, lotP q.1]) (by rw [← enum_lots]; rfl) l2 (by rw [List.length_map, List.length_zipIdx]; exact big64 (by omega))
  have hne : neD (N o.length) (N o.length) = some (.dat (.bool false)) := by rw [neD_nat, decide_eq_true rfl]; rfl
  unfold g_is_order m_is_order
  refine runP_rt (ev := .dat (.bool true)) (s := [.dat (lotsP L), .dat (ordP o), .un, .un]) rfl ((sSeq_nx (s1 := [.dat (lotsP L), .dat (ordP o), .un, .un]) ((sIf_n (s1 := [.dat (lotsP L), .dat (ordP o), .un, .un]) ?_).trans rfl)).trans ((sSeq_nx (s1 := [.dat (lotsP L), .dat (ordP o), .un, .un]) ((sIf_n (s1 := [.dat (lotsP L), .dat (ordP o), .un, .un]) ?_).trans rfl)).trans ?_)) rfl
  · simp only [isi_tt, len_ord, hf, hne, runP, ss0, toRes, sRet, sSet, sEx, sUn, put1, sNil, sSetIx, eV, eFz, eMv, eC, eOp2, eUn, eCB, eFn, eIO, eIOt, eAnd, eOr, eNot, notD, eIf, eChain, eTup, eLst, aNil, aCons, mT, mNot, mAnd, mOr, mYes, boolD, truD, val, vals, frz, frzs, Res.ev, opn, bN, bT, bsCons, bsNil, wipeS, pNo, pSo, eApp, eExt, List.length_cons, List.map_cons, List.getElem?_cons_zero, List.getElem?_cons_succ, List.length_nil, if_true, if_false, List.map_nil, List.cons_append, List.nil_append, Option.bind_some, Option.map_some, List.set_cons_zero, List.set_cons_succ, List.replicate, Nat.reduceAdd, Nat.reduceSub, Nat.reduceEqDiff, Bool.not_true, Bool.not_false, Bool.false_eq_true, reduceCtorEq, reduceIte]
  · simp only [m1, allD_true, runP, ss0, toRes, sRet, sSet, sEx, sUn, put1, sNil, sSetIx, eV, eFz, eMv, eC, eOp2, eUn, eCB, eFn, eIO, eIOt, eAnd, eOr, eNot, notD, eIf, eChain, eTup, eLst, aNil, aCons, mT, mNot, mAnd, mOr, mYes, boolD, truD, val, vals, frz, frzs, Res.ev, opn, bN, bT, bsCons, bsNil, wipeS, pNo, pSo, eApp, eExt, List.length_cons, List.map_cons, List.getElem?_cons_zero, List.getElem?_cons_succ, List.length_nil, if_true, if_false, List.map_nil, List.cons_append, List.nil_append, Option.bind_some, Option.map_some, List.set_cons_zero, List.set_cons_succ, List.replicate, Nat.reduceAdd, Nat.reduceSub, Nat.reduceEqDiff, Bool.not_true, Bool.not_false, Bool.false_eq_true, reduceCtorEq, reduceIte]
  · simp only [m2, allD_true, runP, ss0, toRes, sRet, sSet, sEx, sUn, put1, sNil, sSetIx, eV, eFz, eMv, eC, eOp2, eUn, eCB, eFn, eIO, eIOt, eAnd, eOr, eNot, notD, eIf, eChain, eTup, eLst, aNil, aCons, mT, mNot, mAnd, mOr, mYes, boolD, truD, val, vals, frz, frzs, Res.ev, opn, bN, bT, bsCons, bsNil, wipeS, pNo, pSo, eApp, eExt, List.length_cons, List.map_cons, List.getElem?_cons_zero, List.getElem?_cons_succ, List.length_nil, if_true, if_false, List.map_nil, List.cons_append, List.nil_append, Option.bind_some, Option.map_some, List.set_cons_zero, List.set_cons_succ, List.replicate, Nat.reduceAdd, Nat.reduceSub, Nat.reduceEqDiff, Bool.not_true, Bool.not_false, Bool.false_eq_true, reduceCtorEq, reduceIte]
theorem e_require_order {L : List (Nat × Nat)} {o : List Nat} (h : Ok L) (c : Cnt L o) : g_require_order [lotsP L, ordP o] = some (.dat .none) := by
  have h1 := e_require_lots h
  have h2 := e_is_order h c
  unfold g_require_order m_require_order
  refine runP_nx (s := [.dat (lotsP L), .dat (ordP o)]) rfl ((sSeq_nx (s1 := [.dat (lotsP L), .dat (ordP o)]) ?_).trans ((sIf_n (s1 := [.dat (lotsP L), .dat (ordP o)]) ?_).trans rfl))
  · simp only [h1, runP, ss0, toRes, sRet, sSet, sEx, sUn, put1, sNil, sSetIx, eV, eFz, eMv, eC, eOp2, eUn, eCB, eFn, eIO, eIOt, eAnd, eOr, eNot, notD, eIf, eChain, eTup, eLst, aNil, aCons, mT, mNot, mAnd, mOr, mYes, boolD, truD, val, vals, frz, frzs, Res.ev, opn, bN, bT, bsCons, bsNil, wipeS, pNo, pSo, eApp, eExt, List.length_cons, List.map_cons, List.getElem?_cons_zero, List.getElem?_cons_succ, List.length_nil, if_true, if_false, List.map_nil, List.cons_append, List.nil_append, Option.bind_some, Option.map_some, List.set_cons_zero, List.set_cons_succ, List.replicate, Nat.reduceAdd, Nat.reduceSub, Nat.reduceEqDiff, Bool.not_true, Bool.not_false, Bool.false_eq_true, reduceCtorEq, reduceIte]
  · simp only [h2, runP, ss0, toRes, sRet, sSet, sEx, sUn, put1, sNil, sSetIx, eV, eFz, eMv, eC, eOp2, eUn, eCB, eFn, eIO, eIOt, eAnd, eOr, eNot, notD, eIf, eChain, eTup, eLst, aNil, aCons, mT, mNot, mAnd, mOr, mYes, boolD, truD, val, vals, frz, frzs, Res.ev, opn, bN, bT, bsCons, bsNil, wipeS, pNo, pSo, eApp, eExt, List.length_cons, List.map_cons, List.getElem?_cons_zero, List.getElem?_cons_succ, List.length_nil, if_true, if_false, List.map_nil, List.cons_append, List.nil_append, Option.bind_some, Option.map_some, List.set_cons_zero, List.set_cons_succ, List.replicate, Nat.reduceAdd, Nat.reduceSub, Nat.reduceEqDiff, Bool.not_true, Bool.not_false, Bool.false_eq_true, reduceCtorEq, reduceIte]
theorem e_weak_stretch {L : List (Nat × Nat)} {o : List Nat} (h : Ok L) (c : Cnt L o) {r : PyData} (hw : g_weak_in [lotsP L, ordP o] = some (.dat r)) : g_weak_stretch [lotsP L, ordP o] = some (.dat r) := by
  have h1 := e_require_order h c
  unfold g_weak_stretch m_weak_stretch
  refine runP_rt (ev := .dat r) (s := [.dat (lotsP L), .dat (ordP o)]) rfl ((sSeq_nx (s1 := [.dat (lotsP L), .dat (ordP o)]) ?_).trans ?_) rfl
  · simp only [h1, runP, ss0, toRes, sRet, sSet, sEx, sUn, put1, sNil, sSetIx, eV, eFz, eMv, eC, eOp2, eUn, eCB, eFn, eIO, eIOt, eAnd, eOr, eNot, notD, eIf, eChain, eTup, eLst, aNil, aCons, mT, mNot, mAnd, mOr, mYes, boolD, truD, val, vals, frz, frzs, Res.ev, opn, bN, bT, bsCons, bsNil, wipeS, pNo, pSo, eApp, eExt, List.length_cons, List.map_cons, List.getElem?_cons_zero, List.getElem?_cons_succ, List.length_nil, if_true, if_false, List.map_nil, List.cons_append, List.nil_append, Option.bind_some, Option.map_some, List.set_cons_zero, List.set_cons_succ, List.replicate, Nat.reduceAdd, Nat.reduceSub, Nat.reduceEqDiff, Bool.not_true, Bool.not_false, Bool.false_eq_true, reduceCtorEq, reduceIte]
  · simp only [hw, runP, ss0, toRes, sRet, sSet, sEx, sUn, put1, sNil, sSetIx, eV, eFz, eMv, eC, eOp2, eUn, eCB, eFn, eIO, eIOt, eAnd, eOr, eNot, notD, eIf, eChain, eTup, eLst, aNil, aCons, mT, mNot, mAnd, mOr, mYes, boolD, truD, val, vals, frz, frzs, Res.ev, opn, bN, bT, bsCons, bsNil, wipeS, pNo, pSo, eApp, eExt, List.length_cons, List.map_cons, List.getElem?_cons_zero, List.getElem?_cons_succ, List.length_nil, if_true, if_false, List.map_nil, List.cons_append, List.nil_append, Option.bind_some, Option.map_some, List.set_cons_zero, List.set_cons_succ, List.replicate, Nat.reduceAdd, Nat.reduceSub, Nat.reduceEqDiff, Bool.not_true, Bool.not_false, Bool.false_eq_true, reduceCtorEq, reduceIte]
theorem e_borne {L : List (Nat × Nat)} {o : List Nat} (h : Ok L) (c : Cnt L o) {s b i : Nat} (hs : 1 ≤ s) (hw : g_weak_in [lotsP L, ordP o] = some (.dat (T [N b, N (b + s), N i]))) : g_borne [lotsP L, ordP o] = some (.dat (N (s - 1))) := by
  have h1 := e_require_order h c
  have s1 : subD (N (b + s)) (N b) = some (.dat (N s)) := by rw [subD_nat (by omega), show b + s - b = s by omega]
  have s2 : subD (N s) (.int 1) = some (.dat (N (s - 1))) := subD_nat (a := s) (b := 1) hs
  have h2 : g_borne_in [lotsP L, ordP o] = some (.dat (N (s - 1))) := by
    unfold g_borne_in m_borne_in
    refine runP_rt (ev := .dat (N (s - 1))) (s := [.dat (lotsP L), .dat (ordP o), .dat (N b), .dat (N (b + s)), .dat (N i)]) rfl ((sSeq_nx (s1 := [.dat (lotsP L), .dat (ordP o), .dat (N b), .dat (N (b + s)), .dat (N i)]) ?_).trans ?_) rfl
    · simp only [hw, runP, ss0, toRes, sRet, sSet, sEx, sUn, put1, sNil, sSetIx, eV, eFz, eMv, eC, eOp2, eUn, eCB, eFn, eIO, eIOt, eAnd, eOr, eNot, notD, eIf, eChain, eTup, eLst, aNil, aCons, mT, mNot, mAnd, mOr, mYes, boolD, truD, val, vals, frz, frzs, Res.ev, opn, bN, bT, bsCons, bsNil, wipeS, pNo, pSo, eApp, eExt, List.length_cons, List.map_cons, List.getElem?_cons_zero, List.getElem?_cons_succ, List.length_nil, if_true, if_false, List.map_nil, List.cons_append, List.nil_append, Option.bind_some, Option.map_some, List.set_cons_zero, List.set_cons_succ, List.replicate, Nat.reduceAdd, Nat.reduceSub, Nat.reduceEqDiff, Bool.not_true, Bool.not_false, Bool.false_eq_true, reduceCtorEq, reduceIte]
    · simp only [s1, s2, runP, ss0, toRes, sRet, sSet, sEx, sUn, put1, sNil, sSetIx, eV, eFz, eMv, eC, eOp2, eUn, eCB, eFn, eIO, eIOt, eAnd, eOr, eNot, notD, eIf, eChain, eTup, eLst, aNil, aCons, mT, mNot, mAnd, mOr, mYes, boolD, truD, val, vals, frz, frzs, Res.ev, opn, bN, bT, bsCons, bsNil, wipeS, pNo, pSo, eApp, eExt, List.length_cons, List.map_cons, List.getElem?_cons_zero, List.getElem?_cons_succ, List.length_nil, if_true, if_false, List.map_nil, List.cons_append, List.nil_append, Option.bind_some, Option.map_some, List.set_cons_zero, List.set_cons_succ, List.replicate, Nat.reduceAdd, Nat.reduceSub, Nat.reduceEqDiff, Bool.not_true, Bool.not_false, Bool.false_eq_true, reduceCtorEq, reduceIte]
  unfold g_borne m_borne
  refine runP_rt (ev := .dat (N (s - 1))) (s := [.dat (lotsP L), .dat (ordP o)]) rfl ((sSeq_nx (s1 := [.dat (lotsP L), .dat (ordP o)]) ?_).trans ?_) rfl
  · simp only [h1, runP, ss0, toRes, sRet, sSet, sEx, sUn, put1, sNil, sSetIx, eV, eFz, eMv, eC, eOp2, eUn, eCB, eFn, eIO, eIOt, eAnd, eOr, eNot, notD, eIf, eChain, eTup, eLst, aNil, aCons, mT, mNot, mAnd, mOr, mYes, boolD, truD, val, vals, frz, frzs, Res.ev, opn, bN, bT, bsCons, bsNil, wipeS, pNo, pSo, eApp, eExt, List.length_cons, List.map_cons, List.getElem?_cons_zero, List.getElem?_cons_succ, List.length_nil, if_true, if_false, List.map_nil, List.cons_append, List.nil_append, Option.bind_some, Option.map_some, List.set_cons_zero, List.set_cons_succ, List.replicate, Nat.reduceAdd, Nat.reduceSub, Nat.reduceEqDiff, Bool.not_true, Bool.not_false, Bool.false_eq_true, reduceCtorEq, reduceIte]
  · simp only [h2, runP, ss0, toRes, sRet, sSet, sEx, sUn, put1, sNil, sSetIx, eV, eFz, eMv, eC, eOp2, eUn, eCB, eFn, eIO, eIOt, eAnd, eOr, eNot, notD, eIf, eChain, eTup, eLst, aNil, aCons, mT, mNot, mAnd, mOr, mYes, boolD, truD, val, vals, frz, frzs, Res.ev, opn, bN, bT, bsCons, bsNil, wipeS, pNo, pSo, eApp, eExt, List.length_cons, List.map_cons, List.getElem?_cons_zero, List.getElem?_cons_succ, List.length_nil, if_true, if_false, List.map_nil, List.cons_append, List.nil_append, Option.bind_some, Option.map_some, List.set_cons_zero, List.set_cons_succ, List.replicate, Nat.reduceAdd, Nat.reduceSub, Nat.reduceEqDiff, Bool.not_true, Bool.not_false, Bool.false_eq_true, reduceCtorEq, reduceIte]
end Wk

namespace Wk
open PySem PySem.Spec L2 Ly
/-! ### strands' neighbours -/
def cntP (c d s : Nat) : Nat := (c - s + d - 1) / d
theorem sl_fin : ∀ c : Fin 17, ∀ d : Fin 17, ∀ s : Fin 17, s.1 < d.1 → d.1 < c.1 → sliceRange (sliceBounds (some (s.1 : Int)) none (some (d.1 : Int)) c.1).1 (sliceBounds (some (s.1 : Int)) none (some (d.1 : Int)) c.1).2.1 (sliceBounds (some (s.1 : Int)) none (some (d.1 : Int)) c.1).2.2 = (List.range (cntP c.1 d.1 s.1)).map (fun k => s.1 + d.1 * k) := by decide +kernel
theorem cnt_fin : ∀ c : Fin 17, ∀ d : Fin 17, ∀ s : Fin 17, ∀ j : Fin 17, s.1 < d.1 → d.1 < c.1 → (j.1 < cntP c.1 d.1 s.1 ↔ s.1 + d.1 * j.1 < c.1) := by decide +kernel
theorem cnt_le : ∀ c : Fin 17, ∀ d : Fin 17, ∀ s : Fin 17, s.1 < d.1 → d.1 < c.1 → cntP c.1 d.1 s.1 ≤ 16 := by decide +kernel
theorem fm_map {α β : Type} {f : α → Option β} {g : α → β} : ∀ {l : List α}, (∀ x ∈ l, f x = some (g x)) → l.filterMap f = l.map g
  | [], _ => rfl
  | x :: l, h => by
    rw [List.filterMap_cons_some (h x List.mem_cons_self), List.map_cons, fm_map fun y m => h y (List.mem_cons_of_mem _ m)]
def strP (o : List Nat) (i c d s : Nat) : List Nat := (List.range (cntP c d s)).map fun k => (pos i o).getD (s + d * k) 0
theorem cnt_iff {c d s j : Nat} (hc : c ≤ 16) (hs : s < d) (hd : d < c) (hj : j ≤ 16) : j < cntP c d s ↔ s + d * j < c := cnt_fin ⟨c, by omega⟩ ⟨d, by omega⟩ ⟨s, by omega⟩ ⟨j, by omega⟩ hs hd
theorem pick_strand {o : List Nat} {i c d s : Nat} (hc : o.count i = c) (h16 : c ≤ 16) (hs : s < d) (hd : d < c) : pickD ((pos i o).map N) (some (s : Int)) none (d : Int) = (strP o i c d s).map N := by
  unfold pickD
  have hl : ((pos i o).map N).length = c := by rw [List.length_map, pos_len, hc]
  rw [hl, sl_fin ⟨c, by omega⟩ ⟨d, by omega⟩ ⟨s, by omega⟩ hs hd]
  unfold strP
  rw [List.filterMap_map, List.map_map]
  refine fm_map fun k hk => ?_
  have hk := List.mem_range.mp hk
  have h1 := cnt_le ⟨c, by omega⟩ ⟨d, by omega⟩ ⟨s, by omega⟩ hs hd
  have h2 := (cnt_iff h16 hs hd (j := k) (by have : cntP c d s ≤ 16 := h1; omega)).mp hk
  show ((pos i o).map N)[s + d * k]? = some (N ((pos i o).getD (s + d * k) 0))
  rw [List.getElem?_map, pos_get (by omega)]
  rfl
def diffs (xs : List Nat) : List Nat := (xs.zip (xs.drop 1)).map fun q => q.2 - q.1
theorem zipD_map : ∀ xs ys : List Nat, zipD (xs.map N) (ys.map N) = (xs.zip ys).map fun q => T [N q.1, N q.2]
  | [], ys => by cases ys <;> rfl
  | x :: xs, [] => rfl
  | x :: xs, y :: ys => by
    show T [N x, N y] :: zipD (xs.map N) (ys.map N) = _
    rw [zipD_map xs ys]
    rfl
theorem mem_zip1 {xs : List Nat} {q : Nat × Nat} (h : q ∈ xs.zip (xs.drop 1)) : ∃ j, xs[j]? = some q.1 ∧ xs[j + 1]? = some q.2 := by
  obtain ⟨j, hj⟩ := List.mem_iff_getElem?.mp h
  rw [List.getElem?_zip_eq_some] at hj
  exact ⟨j, hj.1, by rw [List.getElem?_drop] at hj; rw [← hj.2, Nat.add_comm]⟩
theorem zip1_mem {xs : List Nat} {j a b : Nat} (h1 : xs[j]? = some a) (h2 : xs[j + 1]? = some b) : (a, b) ∈ xs.zip (xs.drop 1) := by
  refine List.mem_iff_getElem?.mpr ⟨j, ?_⟩
  rw [List.getElem?_zip_eq_some, List.getElem?_drop]
  exact ⟨h1, by rw [Nat.add_comm]; exact h2⟩
theorem strP_get {o : List Nat} {i c d s j x : Nat} (h : (strP o i c d s)[j]? = some x) : j < cntP c d s ∧ x = (pos i o).getD (s + d * j) 0 := range_map_get h
def diffZ (o : List Nat) (z : Tri) : List Nat := diffs (strP o z.1 z.2.1.1 (z.2.1.1 - z.2.1.2) z.2.2)
structure ZOk (L : List (Nat × Nat)) (o : List Nat) (z : Tri) : Prop where
  lot : L[z.1]? = some z.2.1
  b16 : z.2.1.1 ≤ 16
  le : z.2.1.2 ≤ z.2.1.1
  pos : 1 ≤ z.2.1.2
  s : z.2.2 < z.2.1.1 - z.2.1.2
  ct : o.count z.1 = z.2.1.1
theorem zok {L : List (Nat × Nat)} {o : List Nat} (h : Ok L) (c : Cnt L o) {z : Tri} (m : z ∈ allZ L) : ZOk L o z := by
  obtain ⟨m1, m2, m3⟩ := mem_allZ m
  have hq := h.lot _ m1
  exact ⟨m2, hq.2.2, hq.2.1, hq.1, m3, c.ct _ _ m2⟩
theorem diff_le {L : List (Nat × Nat)} {o : List Nat} {z : Tri} (k : ZOk L o z) {q : Nat × Nat} (hq : q ∈ (strP o z.1 z.2.1.1 (z.2.1.1 - z.2.1.2) z.2.2).zip ((strP o z.1 z.2.1.1 (z.2.1.1 - z.2.1.2) z.2.2).drop 1)) :
    ∃ a, a < z.2.1.2 ∧ q.1 = (pos z.1 o).getD a 0 ∧ q.2 = (pos z.1 o).getD (a + (z.2.1.1 - z.2.1.2)) 0 ∧ q.1 ≤ q.2 := by
  obtain ⟨j, h1, h2⟩ := mem_zip1 hq
  obtain ⟨_, e1⟩ := strP_get h1
  obtain ⟨g2, e2⟩ := strP_get h2
  have h3 := cnt_le ⟨z.2.1.1, by have := k.b16; omega⟩ ⟨z.2.1.1 - z.2.1.2, by have := k.b16; omega⟩ ⟨z.2.2, by have := k.b16; have := k.s; omega⟩ k.s (by have := k.pos; have := k.le; have := k.s; show z.2.1.1 - z.2.1.2 < z.2.1.1; omega)
  have h3 : cntP z.2.1.1 (z.2.1.1 - z.2.1.2) z.2.2 ≤ 16 := h3
  have h4 := (cnt_iff k.b16 k.s (by have := k.pos; have := k.le; have := k.s; omega) (j := j + 1) (by omega)).mp g2
  rw [Nat.mul_add, Nat.mul_one] at h4 e2
  have e2 : q.2 = (pos z.1 o).getD (z.2.2 + (z.2.1.1 - z.2.1.2) * j + (z.2.1.1 - z.2.1.2)) 0 := by rw [e2, Nat.add_assoc]
  refine ⟨z.2.2 + (z.2.1.1 - z.2.1.2) * j, by have := k.le; omega, e1, e2, ?_⟩
  rw [e1, e2]
  exact pos_mono (by omega) (by have := k.ct; omega)
abbrev bsB : FS := sSeq (sSet 6 (eSl3 (eLc (iEn (aCons (eFz 1) (aNil))) (bT 2 (bsCons (bN 8) (bsCons (bN 9) (bsNil)))) (mT (eOp2 eqD (eV 9) (eV 3)) boolD) (eFz 8) [8, 9]) (pSo (eV 4)) (pNo) (eOp2 subD (eOp2 ixD (eOp2 ixD (eV 0) (eV 3)) (eC (.int 0))) (eOp2 ixD (eOp2 ixD (eV 0) (eV 3)) (eC (.int 1)))))) (sEx (eExt 2 (eLc (iZp (aCons (eFz 6) (aCons (eSl (eV 6) (pSo (eC (.int 1))) (pNo)) (aNil)))) (bT 2 (bsCons (bN 10) (bsCons (bN 11) (bsNil)))) (mYes) (eOp2 subD (eV 11) (eV 10)) [10, 11])))
theorem slL_one (xs : List Nat) : slD (.list (xs.map N)) (some 1) none = some (.own ((xs.drop 1).map N)) := by
  have q : slD (.list (xs.map N)) (some ((1 : Nat) : Int)) none = some (.own (cutD (xs.map N) (some ((1 : Nat) : Int)) none)) := rfl
  refine q.trans ?_
  unfold cutD
  rw [sIx_hi, List.map_drop]
  cases xs with
  | nil => rfl
  | cons x xs =>
    rw [sIx_nat (by simp)]
    rw [List.take_of_length_le (by rw [List.length_drop]; exact Nat.le_refl _)]
theorem bs_turn {L : List (Nat × Nat)} {o : List Nat} (c : Cnt L o) {z : Tri} (k : ZOk L o z) (acc : List Nat) (hacc : acc.length ≤ 4000) (x6 : SlotV) :
    bsB [.dat (lotsP L), .dat (ordP o), .lst (acc.map N), .dat (N z.1), .dat (N z.2.2), .dat (N (cntS z.2.1.1 (z.2.1.1 - z.2.1.2) z.2.2)), x6, .un, .un, .un, .un, .un] =
      some (.nx [.dat (lotsP L), .dat (ordP o), .lst ((acc ++ diffZ o z).map N), .dat (N z.1), .dat (N z.2.2), .dat (N (cntS z.2.1.1 (z.2.1.1 - z.2.1.2) z.2.2)), .dat (.list ((strP o z.1 z.2.1.1 (z.2.1.1 - z.2.1.2) z.2.2).map N)), .un, .un, .un, .un, .un]) := by
  have hd : z.2.1.1 - z.2.1.2 < z.2.1.1 := by have := k.pos; have := k.le; have := k.s; omega
  have h16 : cntP z.2.1.1 (z.2.1.1 - z.2.1.2) z.2.2 ≤ 16 := cnt_le ⟨z.2.1.1, by have := k.b16; omega⟩ ⟨z.2.1.1 - z.2.1.2, by have := k.b16; omega⟩ ⟨z.2.2, by have := k.b16; have := k.s; omega⟩ k.s hd
  have hpick := pick_strand (o := o) k.ct k.b16 k.s hd
  have hln : (strP o z.1 z.2.1.1 (z.2.1.1 - z.2.1.2) z.2.2).length ≤ 16 := by
    unfold strP
    rw [List.length_map, List.length_range]
    exact h16
  have hdf := fun q hq => diff_le (o := o) k (q := q) hq
  unfold diffZ
  generalize hxs : strP o z.1 z.2.1.1 (z.2.1.1 - z.2.1.2) z.2.2 = xs at *
  generalize hcs : cntS z.2.1.1 (z.2.1.1 - z.2.1.2) z.2.2 = cs
  have h1 : lcLoop (bT 2 (bsCons (bN 8) (bsCons (bN 9) (bsNil)))) (mT (eOp2 eqD (eV 9) (eV 3)) boolD) (eFz 8) [8, 9] (enumD 0 (o.map N)) [.dat (lotsP L), .dat (ordP o), .lst (acc.map N), .dat (N z.1), .dat (N z.2.2), .dat (N cs), x6, .un, .un, .un, .un, .un] = some ((pos z.1 o).map N, [.dat (lotsP L), .dat (ordP o), .lst (acc.map N), .dat (N z.1), .dat (N z.2.2), .dat (N cs), x6, .un, .un, .un, .un, .un]) :=
    lc_pos fun q _ => ⟨[.dat (lotsP L), .dat (ordP o), .lst (acc.map N), .dat (N z.1), .dat (N z.2.2), .dat (N cs), x6, .un, .dat (N q.2), .dat (N q.1), .un, .un], rfl, by simp only [eqD_nat, runP, ss0, toRes, sRet, sSet, sEx, sUn, put1, sNil, sSetIx, eV, eFz, eMv, eC, eOp2, eUn, eCB, eFn, eIO, eIOt, eAnd, eOr, eNot, notD, eIf, eChain, eTup, eLst, aNil, aCons, mT, mNot, mAnd, mOr, mYes, boolD, truD, val, vals, frz, frzs, Res.ev, opn, bN, bT, bsCons, bsNil, wipeS, pNo, pSo, eApp, eExt, List.length_cons, List.map_cons, List.getElem?_cons_zero, List.getElem?_cons_succ, List.length_nil, if_true, if_false, List.map_nil, List.cons_append, List.nil_append, Option.bind_some, Option.map_some, List.set_cons_zero, List.set_cons_succ, List.replicate, Nat.reduceAdd, Nat.reduceSub, Nat.reduceEqDiff, Bool.not_true, Bool.not_false, Bool.false_eq_true, reduceCtorEq, reduceIte], rfl, rfl⟩
  have h2 := eLc_of (fi := iEn (aCons (eFz 1) aNil)) (s := [.dat (lotsP L), .dat (ordP o), .lst (acc.map N), .dat (N z.1), .dat (N z.2.2), .dat (N cs), x6, .un, .un, .un, .un, .un]) (s1 := [.dat (lotsP L), .dat (ordP o), .lst (acc.map N), .dat (N z.1), .dat (N z.2.2), .dat (N cs), x6, .un, .un, .un, .un, .un]) rfl h1 (by rw [List.length_map]; exact big64 (Nat.le_trans pos_le (by have := c.le; omega)))
  have g0 : ixD (lotsP L) (N z.1) = some (.dat (lotP z.2.1)) := ixD_tup (by rw [List.getElem?_map, k.lot]; rfl)
  have g1 : ixD (lotP z.2.1) (.int 0) = some (.dat (N z.2.1.1)) := rfl
  have g2 : ixD (lotP z.2.1) (.int 1) = some (.dat (N z.2.1.2)) := rfl
  have g3 : subD (N z.2.1.1) (N z.2.1.2) = some (.dat (N (z.2.1.1 - z.2.1.2))) := subD_nat k.le
  have hk0 : ((z.2.1.1 - z.2.1.2 : Nat) : Int) ≠ 0 := by have := k.s; omega
  have hpb : (pickD ((pos z.1 o).map N) (some (z.2.2 : Int)) none ((z.2.1.1 - z.2.1.2 : Nat) : Int)).length ≤ big := by
    rw [hpick, List.length_map]
    exact big64 (by omega)
  have e1 : sSet 6 (eSl3 (eLc (iEn (aCons (eFz 1) (aNil))) (bT 2 (bsCons (bN 8) (bsCons (bN 9) (bsNil)))) (mT (eOp2 eqD (eV 9) (eV 3)) boolD) (eFz 8) [8, 9]) (pSo (eV 4)) (pNo) (eOp2 subD (eOp2 ixD (eOp2 ixD (eV 0) (eV 3)) (eC (.int 0))) (eOp2 ixD (eOp2 ixD (eV 0) (eV 3)) (eC (.int 1))))) [.dat (lotsP L), .dat (ordP o), .lst (acc.map N), .dat (N z.1), .dat (N z.2.2), .dat (N cs), x6, .un, .un, .un, .un, .un] = some (.nx [.dat (lotsP L), .dat (ordP o), .lst (acc.map N), .dat (N z.1), .dat (N z.2.2), .dat (N cs), .lst (xs.map N), .un, .un, .un, .un, .un]) := by
    have e0 : eSl3 (eLc (iEn (aCons (eFz 1) (aNil))) (bT 2 (bsCons (bN 8) (bsCons (bN 9) (bsNil)))) (mT (eOp2 eqD (eV 9) (eV 3)) boolD) (eFz 8) [8, 9]) (pSo (eV 4)) (pNo) (eOp2 subD (eOp2 ixD (eOp2 ixD (eV 0) (eV 3)) (eC (.int 0))) (eOp2 ixD (eOp2 ixD (eV 0) (eV 3)) (eC (.int 1)))) [.dat (lotsP L), .dat (ordP o), .lst (acc.map N), .dat (N z.1), .dat (N z.2.2), .dat (N cs), x6, .un, .un, .un, .un, .un] = some (.own (xs.map N), [.dat (lotsP L), .dat (ordP o), .lst (acc.map N), .dat (N z.1), .dat (N z.2.2), .dat (N cs), x6, .un, .un, .un, .un, .un]) := by
      unfold eSl3
      rw [h2]
      simp only [g0, g1, g2, g3, runP, ss0, toRes, sRet, sSet, sEx, sUn, put1, sNil, sSetIx, eV, eFz, eMv, eC, eOp2, eUn, eCB, eFn, eIO, eIOt, eAnd, eOr, eNot, notD, eIf, eChain, eTup, eLst, aNil, aCons, mT, mNot, mAnd, mOr, mYes, boolD, truD, val, vals, frz, frzs, Res.ev, opn, bN, bT, bsCons, bsNil, wipeS, pNo, pSo, eApp, eExt, List.length_cons, List.map_cons, List.getElem?_cons_zero, List.getElem?_cons_succ, List.length_nil, if_true, if_false, List.map_nil, List.cons_append, List.nil_append, Option.bind_some, Option.map_some, List.set_cons_zero, List.set_cons_succ, List.replicate, Nat.reduceAdd, Nat.reduceSub, Nat.reduceEqDiff, Bool.not_true, Bool.not_false, Bool.false_eq_true, reduceCtorEq, reduceIte]
      rw [if_pos ⟨hk0, hpb⟩, hpick]
    rw [sSet_own e0]
    rfl
  refine (sSeq_nx e1).trans ?_
  have l1 : lcLoop (bT 2 (bsCons (bN 10) (bsCons (bN 11) (bsNil)))) mYes (eOp2 subD (eV 11) (eV 10)) [10, 11] ((xs.zip (xs.drop 1)).map fun q => T [N q.1, N q.2]) [.dat (lotsP L), .dat (ordP o), .lst (acc.map N), .dat (N z.1), .dat (N z.2.2), .dat (N cs), .dat (.list (xs.map N)), .un, .un, .un, .un, .un] = some ((diffs xs).map N, [.dat (lotsP L), .dat (ordP o), .lst (acc.map N), .dat (N z.1), .dat (N z.2.2), .dat (N cs), .dat (.list (xs.map N)), .un, .un, .un, .un, .un]) := by
    rw [lcLoop_all (ss := [.dat (lotsP L), .dat (ordP o), .lst (acc.map N), .dat (N z.1), .dat (N z.2.2), .dat (N cs), .dat (.list (xs.map N)), .un, .un, .un, .un, .un]) (fun q : Nat × Nat => T [N q.1, N q.2]) (fun q => N (q.2 - q.1)) (xs.zip (xs.drop 1)) fun q hq => ?_]
    · unfold diffs
      rw [List.map_map]
      rfl
    · obtain ⟨_, _, _, _, hle⟩ := hdf q hq
      have g4 := subD_nat hle
      refine ⟨[.dat (lotsP L), .dat (ordP o), .lst (acc.map N), .dat (N z.1), .dat (N z.2.2), .dat (N cs), .dat (.list (xs.map N)), .un, .un, .un, .dat (N q.1), .dat (N q.2)], rfl, .dat (N (q.2 - q.1)), [.dat (lotsP L), .dat (ordP o), .lst (acc.map N), .dat (N z.1), .dat (N z.2.2), .dat (N cs), .dat (.list (xs.map N)), .un, .un, .un, .dat (N q.1), .dat (N q.2)], ?_, rfl, rfl⟩
      simp only [g4, runP, ss0, toRes, sRet, sSet, sEx, sUn, put1, sNil, sSetIx, eV, eFz, eMv, eC, eOp2, eUn, eCB, eFn, eIO, eIOt, eAnd, eOr, eNot, notD, eIf, eChain, eTup, eLst, aNil, aCons, mT, mNot, mAnd, mOr, mYes, boolD, truD, val, vals, frz, frzs, Res.ev, opn, bN, bT, bsCons, bsNil, wipeS, pNo, pSo, eApp, eExt, List.length_cons, List.map_cons, List.getElem?_cons_zero, List.getElem?_cons_succ, List.length_nil, if_true, if_false, List.map_nil, List.cons_append, List.nil_append, Option.bind_some, Option.map_some, List.set_cons_zero, List.set_cons_succ, List.replicate, Nat.reduceAdd, Nat.reduceSub, Nat.reduceEqDiff, Bool.not_true, Bool.not_false, Bool.false_eq_true, reduceCtorEq, reduceIte]
  have hlen : (diffs xs).length ≤ 16 := by
    unfold diffs
    rw [List.length_map, List.length_zip]
    omega
  have hz : iZp (aCons (eFz 6) (aCons (eSl (eV 6) (pSo (eC (.int 1))) (pNo)) (aNil))) [.dat (lotsP L), .dat (ordP o), .lst (acc.map N), .dat (N z.1), .dat (N z.2.2), .dat (N cs), .lst (xs.map N), .un, .un, .un, .un, .un] = some ((xs.zip (xs.drop 1)).map fun q => T [N q.1, N q.2], [.dat (lotsP L), .dat (ordP o), .lst (acc.map N), .dat (N z.1), .dat (N z.2.2), .dat (N cs), .dat (.list (xs.map N)), .un, .un, .un, .un, .un]) := by
    unfold iZp
    simp only [eSl, slL_one, seqD, zipD_map, runP, ss0, toRes, sRet, sSet, sEx, sUn, put1, sNil, sSetIx, eV, eFz, eMv, eC, eOp2, eUn, eCB, eFn, eIO, eIOt, eAnd, eOr, eNot, notD, eIf, eChain, eTup, eLst, aNil, aCons, mT, mNot, mAnd, mOr, mYes, boolD, truD, val, vals, frz, frzs, Res.ev, opn, bN, bT, bsCons, bsNil, wipeS, pNo, pSo, eApp, eExt, List.length_cons, List.map_cons, List.getElem?_cons_zero, List.getElem?_cons_succ, List.length_nil, if_true, if_false, List.map_nil, List.cons_append, List.nil_append, Option.bind_some, Option.map_some, List.set_cons_zero, List.set_cons_succ, List.replicate, Nat.reduceAdd, Nat.reduceSub, Nat.reduceEqDiff, Bool.not_true, Bool.not_false, Bool.false_eq_true, reduceCtorEq, reduceIte]
  have l2 := eLc_of hz l1 (by rw [List.length_map]; exact big64 (by omega))
  have h6 : (acc.map N).length + ((diffs xs).map N).length ≤ big := by
    rw [List.length_map, List.length_map]
    exact Nat.le_trans (show _ ≤ 10000 by omega) (by decide)
  rw [List.map_append]
  simp only [l2, h6, runP, ss0, toRes, sRet, sSet, sEx, sUn, put1, sNil, sSetIx, eV, eFz, eMv, eC, eOp2, eUn, eCB, eFn, eIO, eIOt, eAnd, eOr, eNot, notD, eIf, eChain, eTup, eLst, aNil, aCons, mT, mNot, mAnd, mOr, mYes, boolD, truD, val, vals, frz, frzs, Res.ev, opn, bN, bT, bsCons, bsNil, wipeS, pNo, pSo, eApp, eExt, List.length_cons, List.map_cons, List.getElem?_cons_zero, List.getElem?_cons_succ, List.length_nil, if_true, if_false, List.map_nil, List.cons_append, List.nil_append, Option.bind_some, Option.map_some, List.set_cons_zero, List.set_cons_succ, List.replicate, Nat.reduceAdd, Nat.reduceSub, Nat.reduceEqDiff, Bool.not_true, Bool.not_false, Bool.false_eq_true, reduceCtorEq, reduceIte]
end Wk

namespace Wk
open PySem PySem.Spec L2 Ly
def allD (L : List (Nat × Nat)) (o : List Nat) : List Nat := ((allZ L).map (diffZ o)).flatten
theorem diffZ_len {L : List (Nat × Nat)} {o : List Nat} {z : Tri} (k : ZOk L o z) : (diffZ o z).length ≤ 16 := by
  have hd : z.2.1.1 - z.2.1.2 < z.2.1.1 := by have := k.pos; have := k.le; have := k.s; omega
  have h16 : cntP z.2.1.1 (z.2.1.1 - z.2.1.2) z.2.2 ≤ 16 := cnt_le ⟨z.2.1.1, by have := k.b16; omega⟩ ⟨z.2.1.1 - z.2.1.2, by have := k.b16; omega⟩ ⟨z.2.2, by have := k.b16; have := k.s; omega⟩ k.s hd
  unfold diffZ diffs
  rw [List.length_map, List.length_zip]
  have : (strP o z.1 z.2.1.1 (z.2.1.1 - z.2.1.2) z.2.2).length ≤ 16 := by
    unfold strP
    rw [List.length_map, List.length_range]
    exact h16
  omega
theorem D_ge {L : List (Nat × Nat)} {o : List Nat} (h : Ok L) (c : Cnt L o) {m : Tr} (hm : Least L o m) : ∀ x ∈ allD L o, m.1 - 1 ≤ x := fun x hx => by
  unfold allD at hx
  obtain ⟨l, h1, h2⟩ := List.mem_flatten.mp hx
  obtain ⟨z, h3, h4⟩ := List.mem_map.mp h1
  subst h4
  have k := zok h c h3
  obtain ⟨q, h5, h6⟩ := List.mem_map.mp h2
  obtain ⟨a, ha, e1, e2, e3⟩ := diff_le k h5
  have hb := W_bad h c (in_allW (o := o) k.lot ha)
  have := hm.min _ _ _ hb
  rw [Bool.eq_false_iff] at this
  have : ¬ (winT o z.1 (z.2.1.1 - z.2.1.2) a).1 < m.1 := fun q => this (ltW_iff.mpr (.inl q))
  have e4 : (winT o z.1 (z.2.1.1 - z.2.1.2) a).1 = q.2 + 1 - q.1 := by
    unfold winT
    rw [e1, e2]
  rw [e4] at this
  omega
theorem mem_allZ' {L : List (Nat × Nat)} {i s : Nat} {p : Nat × Nat} (hp : L[i]? = some p) (hs : s < p.1 - p.2) : (i, p, s) ∈ allZ L := by
  unfold allZ
  refine List.mem_flatten.mpr ⟨rowZ (p, i), List.mem_map.mpr ⟨(p, i), ?_, rfl⟩, List.mem_map.mpr ⟨s, List.mem_range.mpr hs, rfl⟩⟩
  refine List.mem_of_getElem? (i := i) ?_
  rw [List.getElem?_zipIdx, hp]
  simp
theorem D_mem {L : List (Nat × Nat)} {o : List Nat} (h : Ok L) (c : Cnt L o) (hl : ∀ p ∈ L, p.2 < p.1) {m : Tr} (hm : Least L o m) : m.1 - 1 ∈ allD L o := by
  obtain ⟨t, ht, e1, e2, e3⟩ := bad_W h c hm.bad
  have hb := W_bad h c ht
  have h1 := hm.min _ _ _ hb
  rw [Bool.eq_false_iff] at h1
  have h1 : ¬ t.1 < m.1 := fun q => h1 (ltW_iff.mpr (.inl q))
  have h2 : t.1 = m.1 := by omega
  obtain ⟨p, a, hp, ha, e⟩ := mem_allW ht
  have hq := h.lot p (List.mem_of_getElem? hp)
  have hlt := hl p (List.mem_of_getElem? hp)
  have hc := c.ct _ p hp
  generalize t.2.2 = i at *
  rw [← h2, e]
  have hd : 0 < p.1 - p.2 := by omega
  have hs : a % (p.1 - p.2) < p.1 - p.2 := Nat.mod_lt _ hd
  have hz := mem_allZ' (L := L) hp hs
  have ea : a % (p.1 - p.2) + (p.1 - p.2) * (a / (p.1 - p.2)) = a := Nat.mod_add_div a (p.1 - p.2)
  have haj : a / (p.1 - p.2) ≤ a := Nat.div_le_self _ _
  unfold allD
  refine List.mem_flatten.mpr ⟨_, List.mem_map.mpr ⟨_, hz, rfl⟩, ?_⟩
  unfold diffZ diffs
  refine List.mem_map.mpr ⟨((pos i o).getD a 0, (pos i o).getD (a + (p.1 - p.2)) 0), zip1_mem (j := a / (p.1 - p.2)) ?_ ?_, ?_⟩
  · have g := (cnt_iff (c := p.1) (d := p.1 - p.2) (s := a % (p.1 - p.2)) (j := a / (p.1 - p.2)) hq.2.2 hs (by omega) (by omega)).mpr (by rw [ea]; omega)
    show (strP o i p.1 (p.1 - p.2) (a % (p.1 - p.2)))[a / (p.1 - p.2)]? = _
    unfold strP
    rw [List.getElem?_map, List.getElem?_range g]
    show some ((pos i o).getD (a % (p.1 - p.2) + (p.1 - p.2) * (a / (p.1 - p.2))) 0) = _
    rw [ea]
  · have ea2 : a % (p.1 - p.2) + (p.1 - p.2) * (a / (p.1 - p.2) + 1) = a + (p.1 - p.2) := by
      rw [Nat.mul_add, Nat.mul_one, ← Nat.add_assoc, ea]
    have g := (cnt_iff (c := p.1) (d := p.1 - p.2) (s := a % (p.1 - p.2)) (j := a / (p.1 - p.2) + 1) hq.2.2 hs (by omega) (by omega)).mpr (by rw [ea2]; omega)
    show (strP o i p.1 (p.1 - p.2) (a % (p.1 - p.2)))[a / (p.1 - p.2) + 1]? = _
    unfold strP
    rw [List.getElem?_map, List.getElem?_range g]
    show some ((pos i o).getD (a % (p.1 - p.2) + (p.1 - p.2) * (a / (p.1 - p.2) + 1)) 0) = _
    rw [ea2]
  · show (pos i o).getD (a + (p.1 - p.2)) 0 - (pos i o).getD a 0 = (pos i o).getD (a + (p.1 - p.2)) 0 + 1 - (pos i o).getD a 0 - 1
    omega
theorem foldl_min : ∀ (l : List Int) (n : Int), l.foldl min n ∈ n :: l ∧ ∀ y ∈ n :: l, l.foldl min n ≤ y
  | [], n => ⟨List.mem_cons_self, fun y h => by
    have e : y = n := by simpa using h
    subst e
    exact Int.le_refl _⟩
  | x :: l, n => by
    obtain ⟨h1, h2⟩ := foldl_min l (min n x)
    rw [List.foldl_cons]
    refine ⟨?_, fun y hy => ?_⟩
    · rcases List.mem_cons.mp h1 with h | h
      · rw [h]
        by_cases q : n ≤ x
        · rw [Int.min_eq_left q]
          exact List.mem_cons_self
        · rw [Int.min_eq_right (by omega)]
          exact List.mem_cons_of_mem _ List.mem_cons_self
      · exact List.mem_cons_of_mem _ (List.mem_cons_of_mem _ h)
    · have h3 := h2 _ List.mem_cons_self
      rcases List.mem_cons.mp hy with h | h
      · subst h
        omega
      · rcases List.mem_cons.mp h with h | h
        · subst h
          omega
        · exact h2 y (List.mem_cons_of_mem _ h)
theorem alike_N : ∀ xs : List Nat, alikeB (xs.map N) = true := fun xs => by
  have e : xs.map N = (xs.map Int.ofNat).map PySem.W.Datum.toD := by
    rw [List.map_map]
    rfl
  have h := PySem.W.alikeAll_datum (xs.map Int.ofNat)
  rw [← e] at h
  unfold alikeB
  rw [Bool.and_eq_true, Bool.and_eq_true]
  refine ⟨⟨List.all_eq_true.mpr fun x hx => List.all_eq_true.mpr fun y hy => h.1 x hx y hy, List.all_eq_true.mpr fun x hx => ?_⟩, decide_eq_true (by rw [depth_N]; decide)⟩
  have := h.2 x hx
  cases x with
  | none => exact absurd rfl this
  | _ => rfl
theorem min_N {l : List Nat} {m : Nat} (hm : m ∈ l) (hle : ∀ x ∈ l, m ≤ x) : minL [.list (l.map N)] = some (.dat (N m)) := by
  cases l with
  | nil => cases hm
  | cons x xs =>
    have h1 : minL [.list ((x :: xs).map N)] = if alikeB ((x :: xs).map N) = true then some (.dat (PySem.W.minD (N x) (xs.map N))) else none := rfl
    rw [h1, if_pos (alike_N _)]
    have e : xs.map N = (xs.map Int.ofNat).map PyData.int := by
      rw [List.map_map]
      rfl
    rw [e, PySem.W.minD_ints]
    obtain ⟨g1, g2⟩ := foldl_min (xs.map Int.ofNat) (x : Int)
    generalize (xs.map Int.ofNat).foldl min (x : Int) = r at *
    have hin : ∀ y ∈ x :: xs, (y : Int) ∈ (x : Int) :: xs.map Int.ofNat := fun y hy => by
      rcases List.mem_cons.mp hy with h | h
      · subst h
        exact List.mem_cons_self
      · exact List.mem_cons_of_mem _ (List.mem_map.mpr ⟨y, h, rfl⟩)
    have g3 := g2 _ (hin m hm)
    have g4 : (m : Int) ≤ r := by
      rcases List.mem_cons.mp g1 with h | h
      · rw [h]
        exact Int.ofNat_le.mpr (hle x List.mem_cons_self)
      · obtain ⟨y, hy, e⟩ := List.mem_map.mp h
        rw [← e]
        exact Int.ofNat_le.mpr (hle y (List.mem_cons_of_mem _ hy))
    have : r = (m : Int) := by omega
    rw [this]
theorem canLay_L : ∀ l : List (Nat × Nat), PyData.canLayAll0 (l.map lotP) = true
  | [] => rfl
  | x :: l => by
    show ((lotP x).canLay0 && PyData.canLayAll0 (l.map lotP)) = true
    rw [canLay_L l]
    rfl
theorem depth_L : ∀ l : List (Nat × Nat), PyData.depthAll (l.map lotP) ≤ 1
  | [] => by decide
  | x :: l => by
    show max (lotP x).depth (PyData.depthAll (l.map lotP)) ≤ 1
    have h1 : (lotP x).depth ≤ 1 := by simp [PyData.depth, PyData.depthAll]
    have h2 := depth_L l
    omega
theorem neD_nilL (l : List (Nat × Nat)) : neD (.list (l.map lotP)) (.list []) = some (.dat (.bool (!l.isEmpty))) := by
  have hs : SeqAt.shaped (.list (l.map lotP)) = true := by
    show (PyData.canLayAll0 (l.map lotP) && decide (PyData.depthAll (l.map lotP) + 1 ≤ 64)) = true
    rw [canLay_L]
    exact decide_eq_true (by have := depth_L l; omega)
  unfold neD
  rw [if_pos ⟨hs, by decide⟩]
  cases l with
  | nil => rfl
  | cons x l => rfl
theorem e_by_strands {L : List (Nat × Nat)} {o : List Nat} (h : Ok L) (c : Cnt L o) {m : Tr} (hm : Least L o m) : g__law_by_strands [lotsP L, ordP o] = some (.dat (N (m.1 - 1))) := by
  have hl := h.le
  have l1 : lcLoop (bN 7) (mT (eOp2 eqD (eOp2 ixD (eV 7) (eC (.int 0))) (eOp2 ixD (eV 7) (eC (.int 1)))) boolD) (eFz 7) [7] (L.map lotP) [.dat (lotsP L), .dat (ordP o), .un, .un, .un, .un, .un, .un, .un, .un, .un, .un] = some ((L.filter fun p => decide (p.1 = p.2)).map lotP, [.dat (lotsP L), .dat (ordP o), .un, .un, .un, .un, .un, .un, .un, .un, .un, .un]) := by
    refine lcLoop_map lotP (fun p => decide (p.1 = p.2)) lotP L fun p _ => ⟨[.dat (lotsP L), .dat (ordP o), .un, .un, .un, .un, .un, .dat (lotP p), .un, .un, .un, .un], [.dat (lotsP L), .dat (ordP o), .un, .un, .un, .un, .un, .dat (lotP p), .un, .un, .un, .un], rfl, ?_, fun _ => rfl, fun _ => ⟨_, _, rfl, rfl, rfl⟩⟩
    have g1 : ixD (lotP p) (.int 0) = some (.dat (N p.1)) := rfl
    have g2 : ixD (lotP p) (.int 1) = some (.dat (N p.2)) := rfl
    simp only [g1, g2, eqD_nat, runP, ss0, toRes, sRet, sSet, sEx, sUn, put1, sNil, sSetIx, eV, eFz, eMv, eC, eOp2, eUn, eCB, eFn, eIO, eIOt, eAnd, eOr, eNot, notD, eIf, eChain, eTup, eLst, aNil, aCons, mT, mNot, mAnd, mOr, mYes, boolD, truD, val, vals, frz, frzs, Res.ev, opn, bN, bT, bsCons, bsNil, wipeS, pNo, pSo, eApp, eExt, List.length_cons, List.map_cons, List.getElem?_cons_zero, List.getElem?_cons_succ, List.length_nil, if_true, if_false, List.map_nil, List.cons_append, List.nil_append, Option.bind_some, Option.map_some, List.set_cons_zero, List.set_cons_succ, List.replicate, Nat.reduceAdd, Nat.reduceSub, Nat.reduceEqDiff, Bool.not_true, Bool.not_false, Bool.false_eq_true, reduceCtorEq, reduceIte]
  have e1 := eLc_of (fi := iD (eFz 0)) (s := [.dat (lotsP L), .dat (ordP o), .un, .un, .un, .un, .un, .un, .un, .un, .un, .un]) (s1 := [.dat (lotsP L), .dat (ordP o), .un, .un, .un, .un, .un, .un, .un, .un, .un, .un]) rfl l1 (by
    rw [List.length_map]
    have := List.length_filter_le (fun p : Nat × Nat => decide (p.1 = p.2)) L
    exact big64 (by omega))
  have q2 : 0 ≤ big := Nat.zero_le _
  unfold g__law_by_strands m__law_by_strands
  by_cases hz : ∃ p ∈ L, p.1 = p.2
  · obtain ⟨p, hp, he⟩ := hz
    have hne : (L.filter fun p => decide (p.1 = p.2)).isEmpty = false := by
      rw [List.isEmpty_eq_false_iff_exists_mem]
      exact ⟨p, List.mem_filter.mpr ⟨hp, decide_eq_true he⟩⟩
    have g := neD_nilL (L.filter fun p => decide (p.1 = p.2))
    rw [hne] at g
    have hm1 : m.1 - 1 = 0 := by
      obtain ⟨i, hi⟩ := List.mem_iff_getElem?.mp hp
      have hq := h.lot p hp
      have hb := W_bad h c (in_allW (o := o) hi (a := 0) (by omega))
      have := hm.min _ _ _ hb
      rw [Bool.eq_false_iff] at this
      have : ¬ (winT o i (p.1 - p.2) 0).1 < m.1 := fun q => this (ltW_iff.mpr (.inl q))
      have e4 : (winT o i (p.1 - p.2) 0).1 ≤ 1 := by
        unfold winT
        rw [show p.1 - p.2 = 0 by omega]
        show (pos i o).getD 0 0 + 1 - (pos i o).getD 0 0 ≤ 1
        omega
      omega
    rw [hm1]
    refine runP_rt (ev := .dat (N 0)) (s := [.dat (lotsP L), .dat (ordP o), .un, .un, .un, .un, .un, .un, .un, .un, .un, .un]) rfl (sSeq_rt ((sIf_y (s1 := [.dat (lotsP L), .dat (ordP o), .un, .un, .un, .un, .un, .un, .un, .un, .un, .un]) ?_).trans rfl)) rfl
    simp only [e1, g, q2, runP, ss0, toRes, sRet, sSet, sEx, sUn, put1, sNil, sSetIx, eV, eFz, eMv, eC, eOp2, eUn, eCB, eFn, eIO, eIOt, eAnd, eOr, eNot, notD, eIf, eChain, eTup, eLst, aNil, aCons, mT, mNot, mAnd, mOr, mYes, boolD, truD, val, vals, frz, frzs, Res.ev, opn, bN, bT, bsCons, bsNil, wipeS, pNo, pSo, eApp, eExt, List.length_cons, List.map_cons, List.getElem?_cons_zero, List.getElem?_cons_succ, List.length_nil, if_true, if_false, List.map_nil, List.cons_append, List.nil_append, Option.bind_some, Option.map_some, List.set_cons_zero, List.set_cons_succ, List.replicate, Nat.reduceAdd, Nat.reduceSub, Nat.reduceEqDiff, Bool.not_true, Bool.not_false, Bool.false_eq_true, reduceCtorEq, reduceIte]
  · have hlt : ∀ p ∈ L, p.2 < p.1 := fun p hp => by
      have := h.lot p hp
      have : ¬ p.1 = p.2 := fun q => hz ⟨p, hp, q⟩
      omega
    have hne : (L.filter fun p => decide (p.1 = p.2)).isEmpty = true := by
      rw [List.isEmpty_iff, List.filter_eq_nil_iff]
      intro p hp
      rw [decide_eq_true_eq]
      have := hlt p hp
      omega
    have g := neD_nilL (L.filter fun p => decide (p.1 = p.2))
    rw [hne] at g
    have hmin := min_N (D_mem h c hlt hm) (D_ge h c hm)
    have hstr := e_law_strands h
    have hZ := allZ_le h
    have hacc : ∀ k, (((allZ L).take k).map (diffZ o)).flatten.length ≤ 3072 := fun k => by
      have := flat_le (f := diffZ o) (k := 16) ((allZ L).take k) fun z hz => diffZ_len (zok h c (List.mem_of_mem_take hz))
      have h2 : ((allZ L).take k).length ≤ 192 := by
        rw [List.length_take]
        omega
      omega
    obtain ⟨s2, f1, x3, x4, x5, x6, f2⟩ := loopS_inv (b := bT 3 (bsCons (bN 3) (bsCons (bN 4) (bsCons (bN 5) (bsNil))))) (body := bsB) (fun k S => ∃ x3 x4 x5 x6, S = [.dat (lotsP L), .dat (ordP o), .lst ((((allZ L).take k).map (diffZ o)).flatten.map N), x3, x4, x5, x6, .un, .un, .un, .un, .un]) ((allZ L).map encS) 0 [.dat (lotsP L), .dat (ordP o), .lst [], .un, .un, .un, .un, .un, .un, .un, .un, .un] ⟨_, _, _, _, rfl⟩ fun k d S e ⟨x3, x4, x5, x6, hS⟩ => by
      subst hS
      rw [List.getElem?_map] at e
      obtain ⟨z, hz, e⟩ := Option.map_eq_some_iff.mp e
      subst e
      have kz := zok h c (List.mem_of_getElem? hz)
      rw [Nat.zero_add]
      refine ⟨_, ⟨[.dat (lotsP L), .dat (ordP o), .lst ((((allZ L).take k).map (diffZ o)).flatten.map N), .dat (N z.1), .dat (N z.2.2), .dat (N (cntS z.2.1.1 (z.2.1.1 - z.2.1.2) z.2.2)), x6, .un, .un, .un, .un, .un], rfl, .inl (bs_turn c kz _ (by have := hacc k; omega) x6)⟩, .dat (N z.1), .dat (N z.2.2), .dat (N (cntS z.2.1.1 (z.2.1.1 - z.2.1.2) z.2.2)), .dat (.list ((strP o z.1 z.2.1.1 (z.2.1.1 - z.2.1.2) z.2.2).map N)), ?_⟩
      have : (((allZ L).take (k + 1)).map (diffZ o)).flatten = (((allZ L).take k).map (diffZ o)).flatten ++ diffZ o z := by
        rw [take_succ_of hz, List.map_append, List.flatten_append]
        simp
      rw [this]
    have e9 : (((allZ L).take (0 + ((allZ L).map encS).length)).map (diffZ o)).flatten = allD L o := by
      unfold allD
      rw [List.length_map, Nat.zero_add, List.take_length]
    rw [e9] at f2
    generalize (allD L o).map N = ds at hmin f2
    refine runP_rt (ev := .dat (N (m.1 - 1))) (s := [.dat (lotsP L), .dat (ordP o), .lst ds, x3, x4, x5, x6, .un, .un, .un, .un, .un]) rfl ((sSeq_nx (s1 := [.dat (lotsP L), .dat (ordP o), .un, .un, .un, .un, .un, .un, .un, .un, .un, .un]) ((sIf_n (s1 := [.dat (lotsP L), .dat (ordP o), .un, .un, .un, .un, .un, .un, .un, .un, .un, .un]) ?_).trans rfl)).trans ((sSeq_nx (s1 := [.dat (lotsP L), .dat (ordP o), .lst [], .un, .un, .un, .un, .un, .un, .un, .un, .un]) rfl).trans ((sSeq_nx (s1 := [.dat (lotsP L), .dat (ordP o), .lst ds, x3, x4, x5, x6, .un, .un, .un, .un, .un]) ?_).trans ?_))) rfl
    · simp only [e1, g, q2, runP, ss0, toRes, sRet, sSet, sEx, sUn, put1, sNil, sSetIx, eV, eFz, eMv, eC, eOp2, eUn, eCB, eFn, eIO, eIOt, eAnd, eOr, eNot, notD, eIf, eChain, eTup, eLst, aNil, aCons, mT, mNot, mAnd, mOr, mYes, boolD, truD, val, vals, frz, frzs, Res.ev, opn, bN, bT, bsCons, bsNil, wipeS, pNo, pSo, eApp, eExt, List.length_cons, List.map_cons, List.getElem?_cons_zero, List.getElem?_cons_succ, List.length_nil, if_true, if_false, List.map_nil, List.cons_append, List.nil_append, Option.bind_some, Option.map_some, List.set_cons_zero, List.set_cons_succ, List.replicate, Nat.reduceAdd, Nat.reduceSub, Nat.reduceEqDiff, Bool.not_true, Bool.not_false, Bool.false_eq_true, reduceCtorEq, reduceIte]
    · rw [sFor_of (s1 := [.dat (lotsP L), .dat (ordP o), .lst [], .un, .un, .un, .un, .un, .un, .un, .un, .un]) (items := (allZ L).map encS) (by
        unfold iD
        simp only [hstr, seqD, runP, ss0, toRes, sRet, sSet, sEx, sUn, put1, sNil, sSetIx, eV, eFz, eMv, eC, eOp2, eUn, eCB, eFn, eIO, eIOt, eAnd, eOr, eNot, notD, eIf, eChain, eTup, eLst, aNil, aCons, mT, mNot, mAnd, mOr, mYes, boolD, truD, val, vals, frz, frzs, Res.ev, opn, bN, bT, bsCons, bsNil, wipeS, pNo, pSo, eApp, eExt, List.length_cons, List.map_cons, List.getElem?_cons_zero, List.getElem?_cons_succ, List.length_nil, if_true, if_false, List.map_nil, List.cons_append, List.nil_append, Option.bind_some, Option.map_some, List.set_cons_zero, List.set_cons_succ, List.replicate, Nat.reduceAdd, Nat.reduceSub, Nat.reduceEqDiff, Bool.not_true, Bool.not_false, Bool.false_eq_true, reduceCtorEq, reduceIte]), f1, f2]
    · simp only [hmin, runP, ss0, toRes, sRet, sSet, sEx, sUn, put1, sNil, sSetIx, eV, eFz, eMv, eC, eOp2, eUn, eCB, eFn, eIO, eIOt, eAnd, eOr, eNot, notD, eIf, eChain, eTup, eLst, aNil, aCons, mT, mNot, mAnd, mOr, mYes, boolD, truD, val, vals, frz, frzs, Res.ev, opn, bN, bT, bsCons, bsNil, wipeS, pNo, pSo, eApp, eExt, List.length_cons, List.map_cons, List.getElem?_cons_zero, List.getElem?_cons_succ, List.length_nil, if_true, if_false, List.map_nil, List.cons_append, List.nil_append, Option.bind_some, Option.map_some, List.set_cons_zero, List.set_cons_succ, List.replicate, Nat.reduceAdd, Nat.reduceSub, Nat.reduceEqDiff, Bool.not_true, Bool.not_false, Bool.false_eq_true, reduceCtorEq, reduceIte]
end Wk

namespace Wk
open PySem PySem.Spec L2 Ly
/-! ### the draws -/
theorem modD_int {a j : Int} (h : 0 < j) : modD (.int a) (.int j) = some (.dat (.int (a % j))) := by
  have e : modD (.int a) (.int j) = (if 0 < j then some (PyData.int (a % j)) else none).map Res.dat := rfl
  rw [e, if_pos h]
  rfl
theorem fdivD_int {a j : Int} (h : 0 < j) (h2 : j.natAbs.log2 < 9000) : fdivD (.int a) (.int j) = some (.dat (.int (a / j))) := by
  have e : fdivD (.int a) (.int j) = (if 0 < j ∧ j.natAbs.log2 < 9000 then some (PyData.int (a / j)) else none).map Res.dat := rfl
  rw [e, if_pos ⟨h, h2⟩]
  rfl
theorem mulD_int {i j : Int} (h : i.natAbs < 2 ^ 64 ∨ j.natAbs < 2 ^ 64) : mulD (.int i) (.int j) = some (.dat (.int (i * j))) := by
  have e : mulD (.int i) (.int j) = (if cmulB i j = true ∨ i.natAbs.log2 + j.natAbs.log2 < 1000000 then some (PyData.int (i * j)) else none).map Res.dat := rfl
  have hc : cmulB i j = true := by
    unfold cmulB
    rw [Bool.or_eq_true, decide_eq_true_eq, decide_eq_true_eq]
    exact h
  rw [e, if_pos (.inl hc), Option.map_some]
theorem addD_int (i j : Int) : addD (.int i) (.int j) = some (.dat (.int (i + j))) := rfl
theorem subD_int (i j : Int) : subD (.int i) (.int j) = some (.dat (.int (i - j))) := rfl
theorem intD_int (i : Int) : intD [.int i] = some (.dat (.int i)) := rfl
theorem log2_small {t : Nat} (h : t ≤ 1000) : ((t : Int).natAbs).log2 < 9000 := by
  rw [Int.natAbs_natCast]
  rcases Nat.eq_zero_or_pos t with e | e
  · subst e
    decide
  · have : t.log2 < 10 := (Nat.log2_lt (by omega)).mpr (by omega)
    omega
abbrev tr (a b c : Int) : List PyData := [.int a, .int b, .int c]
theorem e_pluck (a b c : Int) {t : Nat} (h1 : 1 ≤ t) (h2 : t ≤ 1000) : ∃ r a' c', r < t ∧ g__law_pluck (tr a b c) [N t] = some (.dat (N r), tr a' b c') := by
  have g0 : ∀ x y z : Int, ixD (.list (tr x y z)) (.int 0) = some (.dat (.int x)) := fun _ _ _ => rfl
  have g1 : ∀ x y z : Int, ixD (.list (tr x y z)) (.int 1) = some (.dat (.int y)) := fun _ _ _ => rfl
  have g2 : ∀ x y z : Int, ixD (.list (tr x y z)) (.int 2) = some (.dat (.int z)) := fun _ _ _ => rfl
  have hg : gtD (.int a) (.int 0) = some (.dat (.bool (decide (0 < a)))) := rfl
  have ht : (0 : Int) < (t : Int) := by omega
  have hN : ∀ x : Int, N (x % (t : Int)).toNat = .int (x % (t : Int)) := fun x => by
    show PyData.int (((x % (t : Int)).toNat : Nat) : Int) = _
    rw [Int.toNat_of_nonneg (Int.emod_nonneg _ (by omega))]
  have hlt : ∀ x : Int, (x % (t : Int)).toNat < t := fun x => by
    have := Int.emod_lt_of_pos x ht
    omega
  have i0 : L2.ixN 3 0 = some 0 := rfl
  have i2 : L2.ixN 3 2 = some 2 := rfl
  have m1 : ∀ x, modD (.int x) (N t) = some (.dat (.int (x % (t : Int)))) := fun x => modD_int ht
  have d1 : ∀ x, fdivD (.int x) (N t) = some (.dat (.int (x / (t : Int)))) := fun x => fdivD_int ht (log2_small h2)
  unfold g__law_pluck m__law_pluck
  by_cases ha : 0 < a
  · rw [decide_eq_true ha] at hg
    refine ⟨(a % (t : Int)).toNat, a / (t : Int), c, hlt a, ?_⟩
    rw [hN]
    refine runIO_rt (ev := .dat (.int (a % (t : Int)))) (s := [.dat (N t), .dat (.int (a % (t : Int))), .un, .un]) rfl (sSeq_rt ((sIf_y (s1 := [.lst (tr a b c), .dat (N t), .un, .un, .un]) ?_).trans ((sSeq_nx (s1 := [.lst (tr a b c), .dat (N t), .dat (.int (a % (t : Int))), .un, .un]) ?_).trans ((sSeq_nx (s1 := [.lst (tr (a / (t : Int)) b c), .dat (N t), .dat (.int (a % (t : Int))), .un, .un]) ?_).trans ?_)))) rfl
    · simp only [g0, hg, runP, ss0, toRes, sRet, sSet, sEx, sUn, put1, sNil, sSetIx, eV, eFz, eMv, eC, eOp2, eUn, eCB, eFn, eIO, eIOt, eAnd, eOr, eNot, notD, eIf, eChain, eTup, eLst, aNil, aCons, mT, mNot, mAnd, mOr, mYes, boolD, truD, val, vals, frz, frzs, Res.ev, opn, bN, bT, bsCons, bsNil, wipeS, pNo, pSo, eApp, eExt, List.length_cons, List.map_cons, List.getElem?_cons_zero, List.getElem?_cons_succ, List.length_nil, if_true, if_false, List.map_nil, List.cons_append, List.nil_append, Option.bind_some, Option.map_some, List.set_cons_zero, List.set_cons_succ, List.replicate, Nat.reduceAdd, Nat.reduceSub, Nat.reduceEqDiff, Bool.not_true, Bool.not_false, Bool.false_eq_true, reduceCtorEq, reduceIte]
    · simp only [g0, intD_int, m1, runP, ss0, toRes, sRet, sSet, sEx, sUn, put1, sNil, sSetIx, eV, eFz, eMv, eC, eOp2, eUn, eCB, eFn, eIO, eIOt, eAnd, eOr, eNot, notD, eIf, eChain, eTup, eLst, aNil, aCons, mT, mNot, mAnd, mOr, mYes, boolD, truD, val, vals, frz, frzs, Res.ev, opn, bN, bT, bsCons, bsNil, wipeS, pNo, pSo, eApp, eExt, List.length_cons, List.map_cons, List.getElem?_cons_zero, List.getElem?_cons_succ, List.length_nil, if_true, if_false, List.map_nil, List.cons_append, List.nil_append, Option.bind_some, Option.map_some, List.set_cons_zero, List.set_cons_succ, List.replicate, Nat.reduceAdd, Nat.reduceSub, Nat.reduceEqDiff, Bool.not_true, Bool.not_false, Bool.false_eq_true, reduceCtorEq, reduceIte]
    · simp only [g0, d1, i0, runP, ss0, toRes, sRet, sSet, sEx, sUn, put1, sNil, sSetIx, eV, eFz, eMv, eC, eOp2, eUn, eCB, eFn, eIO, eIOt, eAnd, eOr, eNot, notD, eIf, eChain, eTup, eLst, aNil, aCons, mT, mNot, mAnd, mOr, mYes, boolD, truD, val, vals, frz, frzs, Res.ev, opn, bN, bT, bsCons, bsNil, wipeS, pNo, pSo, eApp, eExt, List.length_cons, List.map_cons, List.getElem?_cons_zero, List.getElem?_cons_succ, List.length_nil, if_true, if_false, List.map_nil, List.cons_append, List.nil_append, Option.bind_some, Option.map_some, List.set_cons_zero, List.set_cons_succ, List.replicate, Nat.reduceAdd, Nat.reduceSub, Nat.reduceEqDiff, Bool.not_true, Bool.not_false, Bool.false_eq_true, reduceCtorEq, reduceIte]
    · simp only [runP, ss0, toRes, sRet, sSet, sEx, sUn, put1, sNil, sSetIx, eV, eFz, eMv, eC, eOp2, eUn, eCB, eFn, eIO, eIOt, eAnd, eOr, eNot, notD, eIf, eChain, eTup, eLst, aNil, aCons, mT, mNot, mAnd, mOr, mYes, boolD, truD, val, vals, frz, frzs, Res.ev, opn, bN, bT, bsCons, bsNil, wipeS, pNo, pSo, eApp, eExt, List.length_cons, List.map_cons, List.getElem?_cons_zero, List.getElem?_cons_succ, List.length_nil, if_true, if_false, List.map_nil, List.cons_append, List.nil_append, Option.bind_some, Option.map_some, List.set_cons_zero, List.set_cons_succ, List.replicate, Nat.reduceAdd, Nat.reduceSub, Nat.reduceEqDiff, Bool.not_true, Bool.not_false, Bool.false_eq_true, reduceCtorEq, reduceIte]
  · rw [decide_eq_false ha] at hg
    have p1 : (0 : Int) < 2305843009213693951 := by decide
    have p2 : (0 : Int) < 2305843009213693907 := by decide
    have k1 := Int.emod_nonneg (b + 15487469 * (c + 1)) (b := 2305843009213693951) (by decide)
    have k2 := Int.emod_lt_of_pos (b + 15487469 * (c + 1)) p1
    generalize hone : (b + 15487469 * (c + 1)) % 2305843009213693951 = one at k1 k2
    generalize htwo : (one * one + 163 * (c + 1)) % 2305843009213693907 * 6700417 + one = two
    have e1 : mulD (.int 15487469) (.int (c + 1)) = some (.dat (.int (15487469 * (c + 1)))) := mulD_int (.inl (by decide))
    have e2 : mulD (.int one) (.int one) = some (.dat (.int (one * one))) := mulD_int (.inl (by omega))
    have e3 : mulD (.int 163) (.int (c + 1)) = some (.dat (.int (163 * (c + 1)))) := mulD_int (.inl (by decide))
    have e4 : ∀ x, mulD (.int x) (.int 6700417) = some (.dat (.int (x * 6700417))) := fun x => mulD_int (.inr (by decide))
    have e5 : ∀ x, modD (.int x) (.int 2305843009213693951) = some (.dat (.int (x % 2305843009213693951))) := fun x => modD_int p1
    have e6 : ∀ x, modD (.int x) (.int 2305843009213693907) = some (.dat (.int (x % 2305843009213693907))) := fun x => modD_int p2
    have e7 : fdivD (.int two) (.int 65551) = some (.dat (.int (two / 65551))) := fdivD_int (by decide) (by decide +kernel)
    refine ⟨(two / 65551 % (t : Int)).toNat, a, c + 1, hlt _, ?_⟩
    rw [hN]
    refine runIO_rt (ev := .dat (.int (two / 65551 % (t : Int)))) (s := [.dat (N t), .un, .dat (.int one), .dat (.int two)]) rfl ((sSeq_nx (s1 := [.lst (tr a b c), .dat (N t), .un, .un, .un]) ((sIf_n (s1 := [.lst (tr a b c), .dat (N t), .un, .un, .un]) ?_).trans rfl)).trans ((sSeq_nx (s1 := [.lst (tr a b (c + 1)), .dat (N t), .un, .un, .un]) ?_).trans ((sSeq_nx (s1 := [.lst (tr a b (c + 1)), .dat (N t), .un, .dat (.int one), .un]) ?_).trans ((sSeq_nx (s1 := [.lst (tr a b (c + 1)), .dat (N t), .un, .dat (.int one), .dat (.int two)]) ?_).trans ?_)))) rfl
    · simp only [g0, hg, runP, ss0, toRes, sRet, sSet, sEx, sUn, put1, sNil, sSetIx, eV, eFz, eMv, eC, eOp2, eUn, eCB, eFn, eIO, eIOt, eAnd, eOr, eNot, notD, eIf, eChain, eTup, eLst, aNil, aCons, mT, mNot, mAnd, mOr, mYes, boolD, truD, val, vals, frz, frzs, Res.ev, opn, bN, bT, bsCons, bsNil, wipeS, pNo, pSo, eApp, eExt, List.length_cons, List.map_cons, List.getElem?_cons_zero, List.getElem?_cons_succ, List.length_nil, if_true, if_false, List.map_nil, List.cons_append, List.nil_append, Option.bind_some, Option.map_some, List.set_cons_zero, List.set_cons_succ, List.replicate, Nat.reduceAdd, Nat.reduceSub, Nat.reduceEqDiff, Bool.not_true, Bool.not_false, Bool.false_eq_true, reduceCtorEq, reduceIte]
    · simp only [g2, addD_int, i2, runP, ss0, toRes, sRet, sSet, sEx, sUn, put1, sNil, sSetIx, eV, eFz, eMv, eC, eOp2, eUn, eCB, eFn, eIO, eIOt, eAnd, eOr, eNot, notD, eIf, eChain, eTup, eLst, aNil, aCons, mT, mNot, mAnd, mOr, mYes, boolD, truD, val, vals, frz, frzs, Res.ev, opn, bN, bT, bsCons, bsNil, wipeS, pNo, pSo, eApp, eExt, List.length_cons, List.map_cons, List.getElem?_cons_zero, List.getElem?_cons_succ, List.length_nil, if_true, if_false, List.map_nil, List.cons_append, List.nil_append, Option.bind_some, Option.map_some, List.set_cons_zero, List.set_cons_succ, List.replicate, Nat.reduceAdd, Nat.reduceSub, Nat.reduceEqDiff, Bool.not_true, Bool.not_false, Bool.false_eq_true, reduceCtorEq, reduceIte]
    · simp only [g1, g2, e1, addD_int, intD_int, e5, hone, runP, ss0, toRes, sRet, sSet, sEx, sUn, put1, sNil, sSetIx, eV, eFz, eMv, eC, eOp2, eUn, eCB, eFn, eIO, eIOt, eAnd, eOr, eNot, notD, eIf, eChain, eTup, eLst, aNil, aCons, mT, mNot, mAnd, mOr, mYes, boolD, truD, val, vals, frz, frzs, Res.ev, opn, bN, bT, bsCons, bsNil, wipeS, pNo, pSo, eApp, eExt, List.length_cons, List.map_cons, List.getElem?_cons_zero, List.getElem?_cons_succ, List.length_nil, if_true, if_false, List.map_nil, List.cons_append, List.nil_append, Option.bind_some, Option.map_some, List.set_cons_zero, List.set_cons_succ, List.replicate, Nat.reduceAdd, Nat.reduceSub, Nat.reduceEqDiff, Bool.not_true, Bool.not_false, Bool.false_eq_true, reduceCtorEq, reduceIte]
    · simp only [g2, e2, e3, addD_int, intD_int, e6, e4, htwo, runP, ss0, toRes, sRet, sSet, sEx, sUn, put1, sNil, sSetIx, eV, eFz, eMv, eC, eOp2, eUn, eCB, eFn, eIO, eIOt, eAnd, eOr, eNot, notD, eIf, eChain, eTup, eLst, aNil, aCons, mT, mNot, mAnd, mOr, mYes, boolD, truD, val, vals, frz, frzs, Res.ev, opn, bN, bT, bsCons, bsNil, wipeS, pNo, pSo, eApp, eExt, List.length_cons, List.map_cons, List.getElem?_cons_zero, List.getElem?_cons_succ, List.length_nil, if_true, if_false, List.map_nil, List.cons_append, List.nil_append, Option.bind_some, Option.map_some, List.set_cons_zero, List.set_cons_succ, List.replicate, Nat.reduceAdd, Nat.reduceSub, Nat.reduceEqDiff, Bool.not_true, Bool.not_false, Bool.false_eq_true, reduceCtorEq, reduceIte]
    · simp only [e7, intD_int, m1, runP, ss0, toRes, sRet, sSet, sEx, sUn, put1, sNil, sSetIx, eV, eFz, eMv, eC, eOp2, eUn, eCB, eFn, eIO, eIOt, eAnd, eOr, eNot, notD, eIf, eChain, eTup, eLst, aNil, aCons, mT, mNot, mAnd, mOr, mYes, boolD, truD, val, vals, frz, frzs, Res.ev, opn, bN, bT, bsCons, bsNil, wipeS, pNo, pSo, eApp, eExt, List.length_cons, List.map_cons, List.getElem?_cons_zero, List.getElem?_cons_succ, List.length_nil, if_true, if_false, List.map_nil, List.cons_append, List.nil_append, Option.bind_some, Option.map_some, List.set_cons_zero, List.set_cons_succ, List.replicate, Nat.reduceAdd, Nat.reduceSub, Nat.reduceEqDiff, Bool.not_true, Bool.not_false, Bool.false_eq_true, reduceCtorEq, reduceIte]
theorem e_tray (ns : List Int) (k : Nat) (hk : ns.length ≤ 63) : ∃ a b, g__law_tray [.list (ns.map .int), N k] = some (.own (tr a b 0)) := by
  have hlen : lenD [.list (ns.map .int)] = some (.dat (N ns.length)) := by
    show some (Res.dat (.int (((ns.map PyData.int).length : Nat) : Int))) = _
    rw [List.length_map]
  have hcell : ∃ cell : Int, sSet 2 (eIf (mT (eOp2 ltD (eV 1) (eCB lenD (aCons (eV 0) (aNil)))) boolD) (eCB intD (aCons (eOp2 ixD (eV 0) (eV 1)) (aNil))) (eOp2 addD (eOp2 mulD (eC (.int 271)) (eV 1)) (eC (.int 73)))) [.dat (.list (ns.map .int)), .dat (N k), .un, .un] = some (.nx [.dat (.list (ns.map .int)), .dat (N k), .dat (.int cell), .un]) := by
    have h1 := ltD_nat k ns.length
    by_cases h : k < ns.length
    · rw [decide_eq_true h] at h1
      have h2 : ixD (.list (ns.map .int)) (N k) = some (.dat (.int ns[k])) := ixD_lst (by rw [List.getElem?_map, List.getElem?_eq_getElem h]; rfl)
      exact ⟨ns[k], by simp only [hlen, h1, h2, intD_int, runP, ss0, toRes, sRet, sSet, sEx, sUn, put1, sNil, sSetIx, eV, eFz, eMv, eC, eOp2, eUn, eCB, eFn, eIO, eIOt, eAnd, eOr, eNot, notD, eIf, eChain, eTup, eLst, aNil, aCons, mT, mNot, mAnd, mOr, mYes, boolD, truD, val, vals, frz, frzs, Res.ev, opn, bN, bT, bsCons, bsNil, wipeS, pNo, pSo, eApp, eExt, List.length_cons, List.map_cons, List.getElem?_cons_zero, List.getElem?_cons_succ, List.length_nil, if_true, if_false, List.map_nil, List.cons_append, List.nil_append, Option.bind_some, Option.map_some, List.set_cons_zero, List.set_cons_succ, List.replicate, Nat.reduceAdd, Nat.reduceSub, Nat.reduceEqDiff, Bool.not_true, Bool.not_false, Bool.false_eq_true, reduceCtorEq, reduceIte]⟩
    · rw [decide_eq_false h] at h1
      have h2 : mulD (.int 271) (N k) = some (.dat (.int (271 * (k : Int)))) := mulD_int (.inl (by decide))
      exact ⟨271 * (k : Int) + 73, by simp only [hlen, h1, h2, addD_int, runP, ss0, toRes, sRet, sSet, sEx, sUn, put1, sNil, sSetIx, eV, eFz, eMv, eC, eOp2, eUn, eCB, eFn, eIO, eIOt, eAnd, eOr, eNot, notD, eIf, eChain, eTup, eLst, aNil, aCons, mT, mNot, mAnd, mOr, mYes, boolD, truD, val, vals, frz, frzs, Res.ev, opn, bN, bT, bsCons, bsNil, wipeS, pNo, pSo, eApp, eExt, List.length_cons, List.map_cons, List.getElem?_cons_zero, List.getElem?_cons_succ, List.length_nil, if_true, if_false, List.map_nil, List.cons_append, List.nil_append, Option.bind_some, Option.map_some, List.set_cons_zero, List.set_cons_succ, List.replicate, Nat.reduceAdd, Nat.reduceSub, Nat.reduceEqDiff, Bool.not_true, Bool.not_false, Bool.false_eq_true, reduceCtorEq, reduceIte]⟩
  obtain ⟨cell, hcell⟩ := hcell
  have p56 : powD (.int 10) (.int 56) = some (.dat (.int (10 ^ 56))) := by kernel_rfl
  have p336 : powD (.int (10 ^ 56)) (.int 6) = some (.dat (.int ((10 ^ 56) ^ 6))) := by kernel_rfl
  have p16 : powD (.int 10) (.int 16) = some (.dat (.int (10 ^ 16))) := by kernel_rfl
  have hab : absD [.int cell] = some (.dat (.int (if cell < 0 then -cell else cell))) := rfl
  have e1 : ∀ x, modD (.int x) (.int ((10 ^ 56) ^ 6)) = some (.dat (.int (x % ((10 ^ 56) ^ 6)))) := fun x => modD_int (by decide +kernel)
  generalize (if cell < 0 then -cell else cell) = ab at hab
  have e2 := e1 ab
  generalize ab % ((10 ^ 56) ^ 6) = great at e2
  have e3 : maxL [.int 0, .int (great - 10 ^ 16)] = some (.dat (.int (if great - 10 ^ 16 > 0 then great - 10 ^ 16 else 0))) := rfl
  have e4 : modD (.int great) (.int 2305843009213693921) = some (.dat (.int (great % 2305843009213693921))) := modD_int (by decide)
  have e5 : ∀ x, mulD (.int x) (.int 97) = some (.dat (.int (x * 97))) := fun x => mulD_int (.inr (by decide))
  have e6 : mulD (.int 829) (N k) = some (.dat (.int (829 * (k : Int)))) := mulD_int (.inl (by decide))
  have e7 : ltD (.int cell) (.int 0) = some (.dat (.bool (decide (cell < 0)))) := rfl
  have e8 : intD [.bool (decide (cell < 0))] = some (.dat (.int (if decide (cell < 0) = true then 1 else 0))) := rfl
  generalize (if decide (cell < 0) = true then (1 : Int) else 0) = bit at e8
  have e9 : mulD (.int 37) (.int bit) = some (.dat (.int (37 * bit))) := mulD_int (.inl (by decide))
  generalize (if great - 10 ^ 16 > 0 then great - 10 ^ 16 else (0 : Int)) = mx at e3
  have q3 : 3 ≤ big := by decide
  refine ⟨mx, great % 2305843009213693921 * 97 + 829 * (k : Int) + 37 * bit + 19, ?_⟩
  unfold g__law_tray m__law_tray
  refine runP_rt (ev := .own (tr mx (great % 2305843009213693921 * 97 + 829 * (k : Int) + 37 * bit + 19) 0)) (s := [.dat (.list (ns.map .int)), .dat (N k), .dat (.int cell), .dat (.int great)]) rfl ((sSeq_nx hcell).trans ((sSeq_nx (s1 := [.dat (.list (ns.map .int)), .dat (N k), .dat (.int cell), .dat (.int great)]) ?_).trans ?_)) rfl
  · simp only [hab, intD_int, p56, p336, e2, runP, ss0, toRes, sRet, sSet, sEx, sUn, put1, sNil, sSetIx, eV, eFz, eMv, eC, eOp2, eUn, eCB, eFn, eIO, eIOt, eAnd, eOr, eNot, notD, eIf, eChain, eTup, eLst, aNil, aCons, mT, mNot, mAnd, mOr, mYes, boolD, truD, val, vals, frz, frzs, Res.ev, opn, bN, bT, bsCons, bsNil, wipeS, pNo, pSo, eApp, eExt, List.length_cons, List.map_cons, List.getElem?_cons_zero, List.getElem?_cons_succ, List.length_nil, if_true, if_false, List.map_nil, List.cons_append, List.nil_append, Option.bind_some, Option.map_some, List.set_cons_zero, List.set_cons_succ, List.replicate, Nat.reduceAdd, Nat.reduceSub, Nat.reduceEqDiff, Bool.not_true, Bool.not_false, Bool.false_eq_true, reduceCtorEq, reduceIte]
  · simp only [p16, subD_int, e3, e4, e5, e6, e7, e8, e9, addD_int, q3, runP, ss0, toRes, sRet, sSet, sEx, sUn, put1, sNil, sSetIx, eV, eFz, eMv, eC, eOp2, eUn, eCB, eFn, eIO, eIOt, eAnd, eOr, eNot, notD, eIf, eChain, eTup, eLst, aNil, aCons, mT, mNot, mAnd, mOr, mYes, boolD, truD, val, vals, frz, frzs, Res.ev, opn, bN, bT, bsCons, bsNil, wipeS, pNo, pSo, eApp, eExt, List.length_cons, List.map_cons, List.getElem?_cons_zero, List.getElem?_cons_succ, List.length_nil, if_true, if_false, List.map_nil, List.cons_append, List.nil_append, Option.bind_some, Option.map_some, List.set_cons_zero, List.set_cons_succ, List.replicate, Nat.reduceAdd, Nat.reduceSub, Nat.reduceEqDiff, Bool.not_true, Bool.not_false, Bool.false_eq_true, reduceCtorEq, reduceIte]
end Wk

namespace Wk
open PySem PySem.Spec L2 Ly
theorem addD_1n (r : Nat) : addD (.int 1) (N r) = some (.dat (N (1 + r))) := addD_nat 1 r
theorem e_some (a b c : Int) : ∃ x a' c', (1 ≤ x ∧ x ≤ 16) ∧ g__law_some (tr a b c) [.list [.int 2, .int 4, .int 8, .int 16]] = some (.dat (N x), tr a' b c') := by
  obtain ⟨r, a', c', hr, hp⟩ := e_pluck a b c (t := 4) (by omega) (by omega)
  have hp : g__law_pluck (tr a b c) [.int 4] = some (.dat (N r), tr a' b c') := hp
  have hl : lenD [.list [.int 2, .int 4, .int 8, .int 16]] = some (.dat (.int 4)) := rfl
  have : ∃ x, (1 ≤ x ∧ x ≤ 16) ∧ ixD (.list [.int 2, .int 4, .int 8, .int 16]) (N r) = some (.dat (N x)) := by
    match r, hr with
    | 0, _ => exact ⟨2, by omega, ixD_lst (i := 0) rfl⟩
    | 1, _ => exact ⟨4, by omega, ixD_lst (i := 1) rfl⟩
    | 2, _ => exact ⟨8, by omega, ixD_lst (i := 2) rfl⟩
    | 3, _ => exact ⟨16, by omega, ixD_lst (i := 3) rfl⟩
  obtain ⟨x, hx, hi⟩ := this
  refine ⟨x, a', c', hx, ?_⟩
  unfold g__law_some m__law_some
  refine runIO_rt (ev := .dat (N x)) (s := [.dat (.list [.int 2, .int 4, .int 8, .int 16])]) rfl ?_ rfl
  simp only [hl, hp, hi, runP, ss0, toRes, sRet, sSet, sEx, sUn, put1, sNil, sSetIx, eV, eFz, eMv, eC, eOp2, eUn, eCB, eFn, eIO, eIOt, eAnd, eOr, eNot, notD, eIf, eChain, eTup, eLst, aNil, aCons, mT, mNot, mAnd, mOr, mYes, boolD, truD, val, vals, frz, frzs, Res.ev, opn, bN, bT, bsCons, bsNil, wipeS, pNo, pSo, eApp, eExt, List.length_cons, List.map_cons, List.getElem?_cons_zero, List.getElem?_cons_succ, List.length_nil, if_true, if_false, List.map_nil, List.cons_append, List.nil_append, Option.bind_some, Option.map_some, List.set_cons_zero, List.set_cons_succ, List.replicate, Nat.reduceAdd, Nat.reduceSub, Nat.reduceEqDiff, Bool.not_true, Bool.not_false, Bool.false_eq_true, reduceCtorEq, reduceIte]
abbrev ltB : FS := sSeq (sSet 4 (eOp2 addD (eC (.int 1)) (eIO 0 g__law_pluck (aCons (eIO 0 g__law_some (aCons (eLst (aCons (eC (.int 2)) (aCons (eC (.int 4)) (aCons (eC (.int 8)) (aCons (eC (.int 16)) (aNil)))))) (aNil))) (aNil))))) (sEx (eApp 2 (eTup (aCons (eFz 4) (aCons (eIf (mT (eOp2 gtD (eIO 0 g__law_pluck (aCons (eC (.int 6)) (aNil))) (eC (.int 0))) boolD) (eOp2 subD (eV 4) (eIO 0 g__law_pluck (aCons (eFz 4) (aNil)))) (eFz 4)) (aNil))))))
theorem lots_turn (a b c : Int) (Ls : List (Nat × Nat)) (hl : Ls.length ≤ 100) (x3 x4 : SlotV) : ∃ p a' c' y4, (1 ≤ p.2 ∧ p.2 ≤ p.1 ∧ p.1 ≤ 16) ∧
    ltB [.lst (tr a b c), .dat (.int 5), .lst (Ls.map lotP), x3, x4] = some (.nx [.lst (tr a' b c'), .dat (.int 5), .lst ((Ls ++ [p]).map lotP), x3, y4]) := by
  obtain ⟨x, a1, c1, hx, h1⟩ := e_some a b c
  obtain ⟨r, a2, c2, hr, h2⟩ := e_pluck a1 b c1 (t := x) hx.1 (by omega)
  obtain ⟨r6, a3, c3, _, h3⟩ := e_pluck a2 b c2 (t := 6) (by omega) (by omega)
  have h3 : g__law_pluck (tr a2 b c2) [.int 6] = some (.dat (N r6), tr a3 b c3) := h3
  obtain ⟨rm, a4, c4, hm, h4⟩ := e_pluck a3 b c3 (t := 1 + r) (by omega) (by omega)
  have q4 : 4 ≤ big := by decide
  have q2 : 2 ≤ big := by decide
  have hb : (Ls.map lotP).length < big := by rw [List.length_map]; exact big_lt64 (by omega)
  have hgt : gtD (N r6) (.int 0) = some (.dat (.bool (decide (0 < r6)))) := gtD_nat r6 0
  have e1 : sSet 4 (eOp2 addD (eC (.int 1)) (eIO 0 g__law_pluck (aCons (eIO 0 g__law_some (aCons (eLst (aCons (eC (.int 2)) (aCons (eC (.int 4)) (aCons (eC (.int 8)) (aCons (eC (.int 16)) (aNil)))))) (aNil))) (aNil)))) [.lst (tr a b c), .dat (.int 5), .lst (Ls.map lotP), x3, x4] = some (.nx [.lst (tr a2 b c2), .dat (.int 5), .lst (Ls.map lotP), x3, .dat (N (1 + r))]) := by
    simp only [q4, h1, h2, addD_1n, runP, ss0, toRes, sRet, sSet, sEx, sUn, put1, sNil, sSetIx, eV, eFz, eMv, eC, eOp2, eUn, eCB, eFn, eIO, eIOt, eAnd, eOr, eNot, notD, eIf, eChain, eTup, eLst, aNil, aCons, mT, mNot, mAnd, mOr, mYes, boolD, truD, val, vals, frz, frzs, Res.ev, opn, bN, bT, bsCons, bsNil, wipeS, pNo, pSo, eApp, eExt, List.length_cons, List.map_cons, List.getElem?_cons_zero, List.getElem?_cons_succ, List.length_nil, if_true, if_false, List.map_nil, List.cons_append, List.nil_append, Option.bind_some, Option.map_some, List.set_cons_zero, List.set_cons_succ, List.replicate, Nat.reduceAdd, Nat.reduceSub, Nat.reduceEqDiff, Bool.not_true, Bool.not_false, Bool.false_eq_true, reduceCtorEq, reduceIte]
  by_cases h0 : 0 < r6
  · rw [decide_eq_true h0] at hgt
    have hs : subD (N (1 + r)) (N rm) = some (.dat (N (1 + r - rm))) := subD_nat (by omega)
    refine ⟨(1 + r, 1 + r - rm), a4, c4, .dat (N (1 + r)), ⟨by show 1 ≤ 1 + r - rm; omega, by show 1 + r - rm ≤ 1 + r; omega, by show 1 + r ≤ 16; omega⟩, (sSeq_nx e1).trans ?_⟩
    rw [List.map_append]
    simp only [h3, hgt, h4, hs, q2, hb, runP, ss0, toRes, sRet, sSet, sEx, sUn, put1, sNil, sSetIx, eV, eFz, eMv, eC, eOp2, eUn, eCB, eFn, eIO, eIOt, eAnd, eOr, eNot, notD, eIf, eChain, eTup, eLst, aNil, aCons, mT, mNot, mAnd, mOr, mYes, boolD, truD, val, vals, frz, frzs, Res.ev, opn, bN, bT, bsCons, bsNil, wipeS, pNo, pSo, eApp, eExt, List.length_cons, List.map_cons, List.getElem?_cons_zero, List.getElem?_cons_succ, List.length_nil, if_true, if_false, List.map_nil, List.cons_append, List.nil_append, Option.bind_some, Option.map_some, List.set_cons_zero, List.set_cons_succ, List.replicate, Nat.reduceAdd, Nat.reduceSub, Nat.reduceEqDiff, Bool.not_true, Bool.not_false, Bool.false_eq_true, reduceCtorEq, reduceIte]
  · rw [decide_eq_false h0] at hgt
    refine ⟨(1 + r, 1 + r), a3, c3, .dat (N (1 + r)), ⟨by show 1 ≤ 1 + r; omega, Nat.le_refl _, by show 1 + r ≤ 16; omega⟩, (sSeq_nx e1).trans ?_⟩
    rw [List.map_append]
    simp only [h3, hgt, q2, hb, runP, ss0, toRes, sRet, sSet, sEx, sUn, put1, sNil, sSetIx, eV, eFz, eMv, eC, eOp2, eUn, eCB, eFn, eIO, eIOt, eAnd, eOr, eNot, notD, eIf, eChain, eTup, eLst, aNil, aCons, mT, mNot, mAnd, mOr, mYes, boolD, truD, val, vals, frz, frzs, Res.ev, opn, bN, bT, bsCons, bsNil, wipeS, pNo, pSo, eApp, eExt, List.length_cons, List.map_cons, List.getElem?_cons_zero, List.getElem?_cons_succ, List.length_nil, if_true, if_false, List.map_nil, List.cons_append, List.nil_append, Option.bind_some, Option.map_some, List.set_cons_zero, List.set_cons_succ, List.replicate, Nat.reduceAdd, Nat.reduceSub, Nat.reduceEqDiff, Bool.not_true, Bool.not_false, Bool.false_eq_true, reduceCtorEq, reduceIte]
theorem e_lots (a b c : Int) : ∃ L a' c', Ok L ∧ g__law_lots (tr a b c) [.int 5] = some (.dat (lotsP L), tr a' b c') := by
  obtain ⟨r, a1, c1, hr, h1⟩ := e_pluck a b c (t := 5) (by omega) (by omega)
  have h1 : g__law_pluck (tr a b c) [.int 5] = some (.dat (N r), tr a1 b c1) := h1
  have hit : iR (aCons (eOp2 addD (eC (.int 1)) (eIO 0 g__law_pluck (aCons (eFz 1) (aNil)))) (aNil)) [.lst (tr a b c), .dat (.int 5), .lst [], .un, .un] = some ((List.range (1 + r)).map N, [.lst (tr a1 b c1), .dat (.int 5), .lst [], .un, .un]) := by
    refine iR_one ?_ (by omega)
    simp only [h1, addD_1n, runP, ss0, toRes, sRet, sSet, sEx, sUn, put1, sNil, sSetIx, eV, eFz, eMv, eC, eOp2, eUn, eCB, eFn, eIO, eIOt, eAnd, eOr, eNot, notD, eIf, eChain, eTup, eLst, aNil, aCons, mT, mNot, mAnd, mOr, mYes, boolD, truD, val, vals, frz, frzs, Res.ev, opn, bN, bT, bsCons, bsNil, wipeS, pNo, pSo, eApp, eExt, List.length_cons, List.map_cons, List.getElem?_cons_zero, List.getElem?_cons_succ, List.length_nil, if_true, if_false, List.map_nil, List.cons_append, List.nil_append, Option.bind_some, Option.map_some, List.set_cons_zero, List.set_cons_succ, List.replicate, Nat.reduceAdd, Nat.reduceSub, Nat.reduceEqDiff, Bool.not_true, Bool.not_false, Bool.false_eq_true, reduceCtorEq, reduceIte]
  obtain ⟨s2, f1, a2, c2, Ls, x3, x4, f2, f3, f4⟩ := loopS_inv (b := bN 3) (body := ltB) (fun k S => ∃ (a c : Int) (Ls : List (Nat × Nat)) (x3 x4 : SlotV), Ls.length = k ∧ (∀ p ∈ Ls, 1 ≤ p.2 ∧ p.2 ≤ p.1 ∧ p.1 ≤ 16) ∧ S = [.lst (tr a b c), .dat (.int 5), .lst (Ls.map lotP), x3, x4]) ((List.range (1 + r)).map N) 0 [.lst (tr a1 b c1), .dat (.int 5), .lst [], .un, .un] ⟨a1, c1, [], _, _, rfl, (fun p h => absurd h List.not_mem_nil), rfl⟩ fun k d S e ⟨a, c, Ls, x3, x4, hk, hok, hS⟩ => by
    subst hS
    obtain ⟨hj, rfl⟩ := range_map_get e
    obtain ⟨p, a', c', y4, hp, ht⟩ := lots_turn a b c Ls (by omega) (.dat (N k)) x4
    refine ⟨_, ⟨[.lst (tr a b c), .dat (.int 5), .lst (Ls.map lotP), .dat (N k), x4], rfl, .inl ht⟩, a', c', Ls ++ [p], .dat (N k), y4, by rw [List.length_append, hk]; rfl, fun q hq => ?_, rfl⟩
    rcases List.mem_append.mp hq with hq | hq
    · exact hok q hq
    · rw [List.mem_singleton.mp hq]
      exact hp
  rw [List.length_map, List.length_range] at f2
  refine ⟨Ls, a2, c2, ⟨fun z => by subst z; simp at f2; omega, by omega, f3⟩, ?_⟩
  have ht : tupleD [.list (Ls.map lotP)] = some (.dat (lotsP Ls)) := rfl
  unfold g__law_lots m__law_lots
  refine runIO_rt (ev := .dat (lotsP Ls)) (s := [.dat (.int 5), .lst (Ls.map lotP), x3, x4]) rfl ((sSeq_nx (s1 := [.lst (tr a b c), .dat (.int 5), .lst [], .un, .un]) rfl).trans ((sSeq_nx (s1 := [.lst (tr a2 b c2), .dat (.int 5), .lst (Ls.map lotP), x3, x4]) ((sFor_of hit).trans (f1.trans (by rw [f4])))).trans ?_)) rfl
  simp only [ht, runP, ss0, toRes, sRet, sSet, sEx, sUn, put1, sNil, sSetIx, eV, eFz, eMv, eC, eOp2, eUn, eCB, eFn, eIO, eIOt, eAnd, eOr, eNot, notD, eIf, eChain, eTup, eLst, aNil, aCons, mT, mNot, mAnd, mOr, mYes, boolD, truD, val, vals, frz, frzs, Res.ev, opn, bN, bT, bsCons, bsNil, wipeS, pNo, pSo, eApp, eExt, List.length_cons, List.map_cons, List.getElem?_cons_zero, List.getElem?_cons_succ, List.length_nil, if_true, if_false, List.map_nil, List.cons_append, List.nil_append, Option.bind_some, Option.map_some, List.set_cons_zero, List.set_cons_succ, List.replicate, Nat.reduceAdd, Nat.reduceSub, Nat.reduceEqDiff, Bool.not_true, Bool.not_false, Bool.false_eq_true, reduceCtorEq, reduceIte]
end Wk

namespace Wk
open PySem PySem.Spec L2 Ly
/-! ### orders drawn -/
def rowF (q : (Nat × Nat) × Nat) : List Nat := List.replicate q.1.1 q.2
def allF (L : List (Nat × Nat)) : List Nat := (L.zipIdx.map rowF).flatten
theorem count_F : ∀ (L : List (Nat × Nat)) (k i : Nat), (((L.zipIdx k).map rowF).flatten).count i = if k ≤ i then ((L[i - k]?).map (·.1)).getD 0 else 0
  | [], k, i => by simp
  | p :: L, k, i => by
    rw [List.zipIdx_cons, List.map_cons, List.flatten_cons, List.count_append, count_F L (k + 1) i]
    show (List.replicate p.1 k).count i + _ = _
    rw [List.count_replicate]
    by_cases h : k = i
    · subst h
      simp
      intro z
      omega
    · have e : (k == i) = false := by simpa using h
      rw [e]
      by_cases h2 : k ≤ i
      · rw [if_pos h2, if_pos (show k + 1 ≤ i by omega), show i - k = (i - (k + 1)) + 1 by omega, List.getElem?_cons_succ]
        simp
      · rw [if_neg h2, if_neg (show ¬ k + 1 ≤ i by omega)]
        simp
theorem allF_count {L : List (Nat × Nat)} {i : Nat} {p : Nat × Nat} (h : L[i]? = some p) : (allF L).count i = p.1 := by
  unfold allF
  rw [count_F L 0 i, if_pos (Nat.zero_le _), Nat.sub_zero, h]
  rfl
theorem allF_lt {L : List (Nat × Nat)} : ∀ x ∈ allF L, x < L.length := fun x hx => by
  unfold allF at hx
  obtain ⟨l, h1, h2⟩ := List.mem_flatten.mp hx
  obtain ⟨q, h3, h4⟩ := List.mem_map.mp h1
  subst h4
  have := List.eq_of_mem_replicate h2
  subst this
  have := (mem_zipIdx h3).2.2.1
  omega
theorem rowF_le {L : List (Nat × Nat)} (h : Ok L) : ∀ q ∈ L.zipIdx, (rowF q).length ≤ 16 := fun q m => by
  unfold rowF
  rw [List.length_replicate]
  exact (h.lot q.1 (mem_zipIdx m).1).2.2
theorem allF_le {L : List (Nat × Nat)} (h : Ok L) : (allF L).length ≤ 192 := by
  have := flat_le L.zipIdx (rowF_le h)
  rw [List.length_zipIdx] at this
  have := h.le
  show ((L.zipIdx.map rowF).flatten).length ≤ _
  omega
theorem cnt_F {L : List (Nat × Nat)} (h : Ok L) : Cnt L (allF L) := ⟨fun i p hp => allF_count hp, allF_lt, allF_le h⟩
theorem cnt_perm {L : List (Nat × Nat)} {o : List Nat} (h : Ok L) (hp : o.Perm (allF L)) : Cnt L o :=
  ⟨fun i p e => by rw [hp.count_eq]; exact allF_count e, fun x hx => allF_lt x (hp.mem_iff.mp hx), by rw [hp.length_eq]; exact allF_le h⟩
theorem erase_perm : ∀ (l : List Nat) (i x : Nat), l[i]? = some x → (x :: l.eraseIdx i).Perm l
  | [], _, _, h => by simp at h
  | a :: l, 0, x, h => by
    have : a = x := by simpa using h
    subst this
    exact List.Perm.refl _
  | a :: l, i + 1, x, h => by
    have := erase_perm l i x (by simpa using h)
    show (x :: a :: l.eraseIdx i).Perm (a :: l)
    exact (List.Perm.swap a x _).trans (List.Perm.cons a this)
def rowT (L : List (Nat × Nat)) (t : Nat) : List Nat := (L.zipIdx.filter fun q => decide (t < q.1.1)).map (·.2)
theorem rowT_nodup (L : List (Nat × Nat)) (t : Nat) : (rowT L t).Nodup := by
  have hp : (rowT L t).Pairwise (· < ·) := by
    unfold rowT
    refine List.Pairwise.sublist (List.Sublist.map _ List.filter_sublist) ?_
    rw [zipIdx_snd]
    exact List.pairwise_lt_range'
  exact hp.imp fun h => Nat.ne_of_lt h
theorem mem_rowT {L : List (Nat × Nat)} {t i : Nat} : i ∈ rowT L t ↔ ∃ p, L[i]? = some p ∧ t < p.1 := by
  constructor
  · intro hi
    obtain ⟨q, h1, h2⟩ := List.mem_map.mp hi
    obtain ⟨h3, h4⟩ := List.mem_filter.mp h1
    obtain ⟨m1, _, _, m2⟩ := mem_zipIdx h3
    subst h2
    exact ⟨q.1, by simpa using m2, of_decide_eq_true h4⟩
  · rintro ⟨p, hp, h⟩
    exact List.mem_map.mpr ⟨(p, i), List.mem_filter.mpr ⟨List.mem_of_getElem? (i := i) (by rw [List.getElem?_zipIdx, hp]; simp), decide_eq_true h⟩, rfl⟩
def allT (L : List (Nat × Nat)) (M : Nat) : List Nat := ((List.range M).map (rowT L)).flatten
theorem rowT_le {L : List (Nat × Nat)} (t : Nat) : (rowT L t).length ≤ L.length := by
  unfold rowT
  rw [List.length_map]
  refine Nat.le_trans (List.length_filter_le _ _) ?_
  rw [List.length_zipIdx]
  exact Nat.le_refl _
theorem allT_le {L : List (Nat × Nat)} (h : Ok L) (M : Nat) : (allT L M).length ≤ 12 * M := by
  have := flat_le (f := rowT L) (k := 12) (List.range M) fun t _ => Nat.le_trans (rowT_le t) h.le
  rwa [List.length_range] at this
theorem allT_succ (L : List (Nat × Nat)) (M : Nat) : allT L (M + 1) = allT L M ++ rowT L M := by
  unfold allT
  rw [List.range_succ, List.map_append, List.flatten_append]
  simp
theorem count_T {L : List (Nat × Nat)} {i : Nat} {p : Nat × Nat} (hp : L[i]? = some p) : ∀ M, (allT L M).count i = min M p.1
  | 0 => by simp [allT]
  | M + 1 => by
    rw [allT_succ, List.count_append, count_T hp M, (rowT_nodup L M).count]
    by_cases h : M < p.1
    · rw [if_pos (mem_rowT.mpr ⟨p, hp, h⟩)]
      omega
    · rw [if_neg (fun z => by
        obtain ⟨p', h1, h2⟩ := mem_rowT.mp z
        rw [hp] at h1
        cases h1
        exact h h2)]
      omega
theorem cnt_T {L : List (Nat × Nat)} (h : Ok L) {M : Nat} (hM : ∀ p ∈ L, p.1 ≤ M) (h16 : M ≤ 16) : Cnt L (allT L M) :=
  ⟨fun i p hp => by
    rw [count_T hp]
    exact Nat.min_eq_right (hM p (List.mem_of_getElem? hp)), fun x hx => by
    unfold allT at hx
    obtain ⟨l, h1, h2⟩ := List.mem_flatten.mp hx
    obtain ⟨t, _, h4⟩ := List.mem_map.mp h1
    subst h4
    obtain ⟨p, hp, _⟩ := mem_rowT.mp h2
    exact (List.getElem?_eq_some_iff.mp hp).1, by have := allT_le h M; omega⟩
theorem foldl_max : ∀ (l : List Int) (n : Int), l.foldl max n ∈ n :: l ∧ ∀ y ∈ n :: l, y ≤ l.foldl max n
  | [], n => ⟨List.mem_cons_self, fun y h => by
    have e : y = n := by simpa using h
    subst e
    exact Int.le_refl _⟩
  | x :: l, n => by
    obtain ⟨h1, h2⟩ := foldl_max l (max n x)
    rw [List.foldl_cons]
    refine ⟨?_, fun y hy => ?_⟩
    · rcases List.mem_cons.mp h1 with h | h
      · rw [h]
        by_cases q : n ≤ x
        · rw [Int.max_eq_right q]
          exact List.mem_cons_of_mem _ List.mem_cons_self
        · rw [Int.max_eq_left (by omega)]
          exact List.mem_cons_self
      · exact List.mem_cons_of_mem _ (List.mem_cons_of_mem _ h)
    · have h3 := h2 _ List.mem_cons_self
      rcases List.mem_cons.mp hy with h | h
      · subst h
        omega
      · rcases List.mem_cons.mp h with h | h
        · subst h
          omega
        · exact h2 y (List.mem_cons_of_mem _ h)
theorem max_N {l : List Nat} (hne : l ≠ []) : ∃ m, m ∈ l ∧ (∀ x ∈ l, x ≤ m) ∧ maxL [.list (l.map N)] = some (.dat (N m)) := by
  cases l with
  | nil => exact absurd rfl hne
  | cons x xs =>
    have h1 : maxL [.list ((x :: xs).map N)] = if alikeB ((x :: xs).map N) = true then some (.dat (PySem.W.maxD (N x) (xs.map N))) else none := rfl
    have e : xs.map N = (xs.map Int.ofNat).map PyData.int := by
      rw [List.map_map]
      rfl
    rw [if_pos (alike_N _), e, PySem.W.maxD_ints] at h1
    obtain ⟨g1, g2⟩ := foldl_max (xs.map Int.ofNat) (x : Int)
    generalize (xs.map Int.ofNat).foldl max (x : Int) = r at *
    have hr : ∃ m, m ∈ x :: xs ∧ r = (m : Int) := by
      rcases List.mem_cons.mp g1 with h | h
      · exact ⟨x, List.mem_cons_self, h⟩
      · obtain ⟨y, hy, e⟩ := List.mem_map.mp h
        exact ⟨y, List.mem_cons_of_mem _ hy, e.symm⟩
    obtain ⟨m, hm, rfl⟩ := hr
    refine ⟨m, hm, fun y hy => ?_, h1⟩
    have : (y : Int) ≤ (m : Int) := g2 _ (by
      rcases List.mem_cons.mp hy with h | h
      · subst h
        exact List.mem_cons_self
      · exact List.mem_cons_of_mem _ (List.mem_map.mpr ⟨y, h, rfl⟩))
    omega
abbrev orB : FS := sEx (eExt 3 (eRep (eLst (aCons (eFz 4) (aNil))) (eOp2 ixD (eV 5) (eC (.int 0)))))
abbrev orT : FS := sEx (eExt 6 (eLc (iEn (aCons (eFz 1) (aNil))) (bT 2 (bsCons (bN 4) (bsCons (bN 5) (bsNil)))) (mT (eOp2 gtD (eOp2 ixD (eV 5) (eC (.int 0))) (eV 7)) boolD) (eFz 4) [4, 5]))
abbrev orM : FS := sEx (eApp 8 (ePopAt 3 (eIO 0 g__law_pluck (aCons (eCB lenD (aCons (eV 3) (aNil))) (aNil)))))
theorem erase_mapN : ∀ (l : List Nat) (i : Nat), (l.map N).eraseIdx i = (l.eraseIdx i).map N
  | [], _ => rfl
  | _ :: _, 0 => rfl
  | a :: l, i + 1 => by
    show N a :: (l.map N).eraseIdx i = N a :: (l.eraseIdx i).map N
    rw [erase_mapN l i]
theorem rep_one (x : PyData) : ∀ n : Nat, (List.replicate n [x]).flatten = List.replicate n x
  | 0 => rfl
  | n + 1 => by
    rw [List.replicate_succ, List.flatten_cons, rep_one x n, List.replicate_succ]
    rfl
theorem e_order {L : List (Nat × Nat)} (h : Ok L) (a b c : Int) : ∃ o a' c', Cnt L o ∧ g__law_order (tr a b c) [lotsP L] = some (.dat (ordP o), tr a' b c') := by
  obtain ⟨way, a1, c1, hw, h1⟩ := e_pluck a b c (t := 3) (by omega) (by omega)
  have h1 : g__law_pluck (tr a b c) [.int 3] = some (.dat (N way), tr a1 b c1) := h1
  have q1 : 1 ≤ big := by decide
  have q0 : 0 ≤ big := Nat.zero_le _
  -- one lot behind the other
  obtain ⟨s2, f1, x4, x5, f2⟩ := loopS_inv (b := bT 2 (bsCons (bN 4) (bsCons (bN 5) (bsNil)))) (body := orB) (fun k S => ∃ x4 x5, S = [.lst (tr a1 b c1), .dat (lotsP L), .dat (N way), .lst (((L.zipIdx.take k).map rowF).flatten.map N), x4, x5, .un, .un, .un]) (L.zipIdx.map fun q => T [N q.2, lotP q.1]) 0 [.lst (tr a1 b c1), .dat (lotsP L), .dat (N way), .lst [], .un, .un, .un, .un, .un] ⟨_, _, rfl⟩ fun k d S e ⟨x4, x5, hS⟩ => by
    subst hS
    obtain ⟨p, e1, e2, rfl⟩ := zip_get e
    have hq := h.lot p (List.mem_of_getElem? e1)
    rw [Nat.zero_add]
    have hacc : ((((L.zipIdx.take k).map rowF).flatten.map N)).length ≤ 192 := by
      rw [List.length_map]
      have := flat_le (f := rowF) (k := 16) (L.zipIdx.take k) fun q m => rowF_le h q (List.mem_of_mem_take m)
      have h2 : (L.zipIdx.take k).length ≤ 12 := by
        rw [List.length_take, List.length_zipIdx]
        have := h.le
        omega
      omega
    obtain ⟨acc, ha⟩ : ∃ acc : List PyData, acc = ((L.zipIdx.take k).map rowF).flatten.map N := ⟨_, rfl⟩
    rw [← ha] at hacc ⊢
    refine ⟨[.lst (tr a1 b c1), .dat (lotsP L), .dat (N way), .lst (acc ++ List.replicate p.1 (N k)), .dat (N k), .dat (lotP p), .un, .un, .un], ⟨[.lst (tr a1 b c1), .dat (lotsP L), .dat (N way), .lst acc, .dat (N k), .dat (lotP p), .un, .un, .un], rfl, .inl ?_⟩, .dat (N k), .dat (lotP p), ?_⟩
    · have g1 : ixD (lotP p) (.int 0) = some (.dat (N p.1)) := rfl
      have g2 : (p.1 : Int).natAbs < 2 ^ 62 ∧ 1 * (p.1 : Int).toNat ≤ big := ⟨by omega, by rw [Int.toNat_natCast]; exact big64 (by omega)⟩
      have g3 : acc.length + (List.replicate p.1 (N k)).length ≤ big := by
        rw [List.length_replicate]
        exact big64 (by omega)
      have er : eRep (eLst (aCons (eFz 4) (aNil))) (eOp2 ixD (eV 5) (eC (.int 0))) [.lst (tr a1 b c1), .dat (lotsP L), .dat (N way), .lst acc, .dat (N k), .dat (lotP p), .un, .un, .un] = some (.own (List.replicate p.1 (N k)), [.lst (tr a1 b c1), .dat (lotsP L), .dat (N way), .lst acc, .dat (N k), .dat (lotP p), .un, .un, .un]) := by
        unfold eRep
        simp only [q1, g1, runP, ss0, toRes, sRet, sSet, sEx, sUn, sPar, put1, sNil, sSetIx, eV, eFz, eMv, eC, eOp2, eUn, eCB, eFn, eIO, eIOt, eAnd, eOr, eNot, notD, eIf, eChain, eTup, eLst, aNil, aCons, mT, mNot, mAnd, mOr, mYes, boolD, truD, val, vals, frz, frzs, Res.ev, opn, bN, bT, bsCons, bsNil, wipeS, pNo, pSo, eApp, eExt, List.length_cons, List.map_cons, List.getElem?_cons_zero, List.getElem?_cons_succ, List.length_nil, if_true, if_false, List.map_nil, List.cons_append, List.nil_append, Option.bind_some, Option.map_some, List.set_cons_zero, List.set_cons_succ, List.replicate, Nat.reduceAdd, Nat.reduceSub, Nat.reduceEqDiff, Bool.not_true, Bool.not_false, Bool.false_eq_true, reduceCtorEq, reduceIte]
        rw [if_pos g2, Int.toNat_natCast, rep_one]
      simp only [er, g3, runP, ss0, toRes, sRet, sSet, sEx, sUn, sPar, put1, sNil, sSetIx, eV, eFz, eMv, eC, eOp2, eUn, eCB, eFn, eIO, eIOt, eAnd, eOr, eNot, notD, eIf, eChain, eTup, eLst, aNil, aCons, mT, mNot, mAnd, mOr, mYes, boolD, truD, val, vals, frz, frzs, Res.ev, opn, bN, bT, bsCons, bsNil, wipeS, pNo, pSo, eApp, eExt, List.length_cons, List.map_cons, List.getElem?_cons_zero, List.getElem?_cons_succ, List.length_nil, if_true, if_false, List.map_nil, List.cons_append, List.nil_append, Option.bind_some, Option.map_some, List.set_cons_zero, List.set_cons_succ, List.replicate, Nat.reduceAdd, Nat.reduceSub, Nat.reduceEqDiff, Bool.not_true, Bool.not_false, Bool.false_eq_true, reduceCtorEq, reduceIte]
    · rw [take_succ_of e2, List.map_append, List.flatten_append, List.map_append, ← ha]
      simp [rowF]
  have e9 : (((L.zipIdx.take (0 + (L.zipIdx.map fun q => T [N q.2, lotP q.1]).length)).map rowF).flatten) = allF L := by
    unfold allF
    rw [List.length_map, Nat.zero_add, List.take_length]
  rw [e9] at f2
  have hpar : sPar 2 3 (eIO 0 g__law_pluck (aCons (eC (.int 3)) (aNil))) (eLst (aNil)) [.lst (tr a b c), .dat (lotsP L), .un, .un, .un, .un, .un, .un, .un] = some (.nx [.lst (tr a1 b c1), .dat (lotsP L), .dat (N way), .lst [], .un, .un, .un, .un, .un]) := by
    simp only [h1, q0, runP, ss0, toRes, sRet, sSet, sEx, sUn, sPar, put1, sNil, sSetIx, eV, eFz, eMv, eC, eOp2, eUn, eCB, eFn, eIO, eIOt, eAnd, eOr, eNot, notD, eIf, eChain, eTup, eLst, aNil, aCons, mT, mNot, mAnd, mOr, mYes, boolD, truD, val, vals, frz, frzs, Res.ev, opn, bN, bT, bsCons, bsNil, wipeS, pNo, pSo, eApp, eExt, List.length_cons, List.map_cons, List.getElem?_cons_zero, List.getElem?_cons_succ, List.length_nil, if_true, if_false, List.map_nil, List.cons_append, List.nil_append, Option.bind_some, Option.map_some, List.set_cons_zero, List.set_cons_succ, List.replicate, Nat.reduceAdd, Nat.reduceSub, Nat.reduceEqDiff, Bool.not_true, Bool.not_false, Bool.false_eq_true, reduceCtorEq, reduceIte]
  have hfor : sFor (iEn (aCons (eFz 1) (aNil))) (bT 2 (bsCons (bN 4) (bsCons (bN 5) (bsNil)))) orB [.lst (tr a1 b c1), .dat (lotsP L), .dat (N way), .lst [], .un, .un, .un, .un, .un] = some (.nx [.lst (tr a1 b c1), .dat (lotsP L), .dat (N way), .lst ((allF L).map N), x4, x5, .un, .un, .un]) := by
    rw [sFor_of (s1 := [.lst (tr a1 b c1), .dat (lotsP L), .dat (N way), .lst [], .un, .un, .un, .un, .un]) (items := L.zipIdx.map fun q => T [N q.2, lotP q.1]) (by
      rw [← enum_lots]
      rfl), f1, f2]
  have w0 := eqD_nat way 0
  have w1 := eqD_nat way 1
  have w0 : eqD (N way) (.int 0) = some (.dat (.bool (decide (way = 0)))) := w0
  have w1 : eqD (N way) (.int 1) = some (.dat (.bool (decide (way = 1)))) := w1
  have hFl := allF_le h
  unfold g__law_order m__law_order
  by_cases k0 : way = 0
  · rw [decide_eq_true k0] at w0
    have ht : tupleD [.list ((allF L).map N)] = some (.dat (ordP (allF L))) := rfl
    refine ⟨allF L, a1, c1, cnt_F h, ?_⟩
    refine runIO_rt (ev := .dat (ordP (allF L))) (s := [.dat (lotsP L), .dat (N way), .lst ((allF L).map N), x4, x5, .un, .un, .un]) rfl ((sSeq_nx hpar).trans ((sSeq_nx hfor).trans (sSeq_rt ((sIf_y (s1 := [.lst (tr a1 b c1), .dat (lotsP L), .dat (N way), .lst ((allF L).map N), x4, x5, .un, .un, .un]) ?_).trans ?_)))) rfl
    · simp only [w0, runP, ss0, toRes, sRet, sSet, sEx, sUn, sPar, put1, sNil, sSetIx, eV, eFz, eMv, eC, eOp2, eUn, eCB, eFn, eIO, eIOt, eAnd, eOr, eNot, notD, eIf, eChain, eTup, eLst, aNil, aCons, mT, mNot, mAnd, mOr, mYes, boolD, truD, val, vals, frz, frzs, Res.ev, opn, bN, bT, bsCons, bsNil, wipeS, pNo, pSo, eApp, eExt, List.length_cons, List.map_cons, List.getElem?_cons_zero, List.getElem?_cons_succ, List.length_nil, if_true, if_false, List.map_nil, List.cons_append, List.nil_append, Option.bind_some, Option.map_some, List.set_cons_zero, List.set_cons_succ, List.replicate, Nat.reduceAdd, Nat.reduceSub, Nat.reduceEqDiff, Bool.not_true, Bool.not_false, Bool.false_eq_true, reduceCtorEq, reduceIte]
    · simp only [ht, runP, ss0, toRes, sRet, sSet, sEx, sUn, sPar, put1, sNil, sSetIx, eV, eFz, eMv, eC, eOp2, eUn, eCB, eFn, eIO, eIOt, eAnd, eOr, eNot, notD, eIf, eChain, eTup, eLst, aNil, aCons, mT, mNot, mAnd, mOr, mYes, boolD, truD, val, vals, frz, frzs, Res.ev, opn, bN, bT, bsCons, bsNil, wipeS, pNo, pSo, eApp, eExt, List.length_cons, List.map_cons, List.getElem?_cons_zero, List.getElem?_cons_succ, List.length_nil, if_true, if_false, List.map_nil, List.cons_append, List.nil_append, Option.bind_some, Option.map_some, List.set_cons_zero, List.set_cons_succ, List.replicate, Nat.reduceAdd, Nat.reduceSub, Nat.reduceEqDiff, Bool.not_true, Bool.not_false, Bool.false_eq_true, reduceCtorEq, reduceIte]
  rw [decide_eq_false k0] at w0
  have hif0 : ∀ (A : FS) (s : SS), s[2]? = some (.dat (N way)) → sIf (mT (eOp2 eqD (eV 2) (eC (.int 0))) boolD) A sNil s = some (.nx s) := fun A s hs => by
    refine (sIf_n (s1 := s) ?_).trans rfl
    simp only [hs, w0, runP, ss0, toRes, sRet, sSet, sEx, sUn, sPar, put1, sNil, sSetIx, eV, eFz, eMv, eC, eOp2, eUn, eCB, eFn, eIO, eIOt, eAnd, eOr, eNot, notD, eIf, eChain, eTup, eLst, aNil, aCons, mT, mNot, mAnd, mOr, mYes, boolD, truD, val, vals, frz, frzs, Res.ev, opn, bN, bT, bsCons, bsNil, wipeS, pNo, pSo, eApp, eExt, List.length_cons, List.map_cons, List.getElem?_cons_zero, List.getElem?_cons_succ, List.length_nil, if_true, if_false, List.map_nil, List.cons_append, List.nil_append, Option.bind_some, Option.map_some, List.set_cons_zero, List.set_cons_succ, List.replicate, Nat.reduceAdd, Nat.reduceSub, Nat.reduceEqDiff, Bool.not_true, Bool.not_false, Bool.false_eq_true, reduceCtorEq, reduceIte]
  by_cases k1 : way = 1
  · rw [decide_eq_true k1] at w1
    obtain ⟨M, hM1, hM2, hM3⟩ := max_N (l := L.map (·.1)) (by simpa using h.ne)
    rw [List.map_map] at hM3
    have hM16 : M ≤ 16 := by
      obtain ⟨p, hp, e⟩ := List.mem_map.mp hM1
      have := h.lot p hp
      omega
    have hMp : ∀ p ∈ L, p.1 ≤ M := fun p hp => hM2 _ (List.mem_map.mpr ⟨p, hp, rfl⟩)
    have lm : lcLoop (bN 5) mYes (eOp2 ixD (eV 5) (eC (.int 0))) [5] (L.map lotP) [.lst (tr a1 b c1), .dat (lotsP L), .dat (N way), .lst ((allF L).map N), x4, .un, .lst [], .un, .un] = some (L.map fun p => N p.1, [.lst (tr a1 b c1), .dat (lotsP L), .dat (N way), .lst ((allF L).map N), x4, .un, .lst [], .un, .un]) :=
      lcLoop_all lotP (fun p => N p.1) L fun p _ => ⟨[.lst (tr a1 b c1), .dat (lotsP L), .dat (N way), .lst ((allF L).map N), x4, .dat (lotP p), .lst [], .un, .un], rfl, .dat (N p.1), [.lst (tr a1 b c1), .dat (lotsP L), .dat (N way), .lst ((allF L).map N), x4, .dat (lotP p), .lst [], .un, .un], rfl, rfl, rfl⟩
    have em := eLc_of (fi := iD (eFz 1)) (s := [.lst (tr a1 b c1), .dat (lotsP L), .dat (N way), .lst ((allF L).map N), x4, x5, .lst [], .un, .un]) (s1 := [.lst (tr a1 b c1), .dat (lotsP L), .dat (N way), .lst ((allF L).map N), x4, x5, .lst [], .un, .un]) rfl lm (by rw [List.length_map]; exact big64 (by have := h.le; omega))
    have hM3 : maxL [.list (L.map fun p => N p.1)] = some (.dat (N M)) := hM3
    have hit : iR (aCons (eCB maxL (aCons (eLc (iD (eFz 1)) (bN 5) (mYes) (eOp2 ixD (eV 5) (eC (.int 0))) [5]) (aNil))) (aNil)) [.lst (tr a1 b c1), .dat (lotsP L), .dat (N way), .lst ((allF L).map N), x4, x5, .lst [], .un, .un] = some ((List.range M).map N, [.lst (tr a1 b c1), .dat (lotsP L), .dat (N way), .lst ((allF L).map N), x4, .un, .lst [], .un, .un]) := by
      refine iR_one ?_ (by omega)
      simp only [em, hM3, runP, ss0, toRes, sRet, sSet, sEx, sUn, sPar, put1, sNil, sSetIx, eV, eFz, eMv, eC, eOp2, eUn, eCB, eFn, eIO, eIOt, eAnd, eOr, eNot, notD, eIf, eChain, eTup, eLst, aNil, aCons, mT, mNot, mAnd, mOr, mYes, boolD, truD, val, vals, frz, frzs, Res.ev, opn, bN, bT, bsCons, bsNil, wipeS, pNo, pSo, eApp, eExt, List.length_cons, List.map_cons, List.getElem?_cons_zero, List.getElem?_cons_succ, List.length_nil, if_true, if_false, List.map_nil, List.cons_append, List.nil_append, Option.bind_some, Option.map_some, List.set_cons_zero, List.set_cons_succ, List.replicate, Nat.reduceAdd, Nat.reduceSub, Nat.reduceEqDiff, Bool.not_true, Bool.not_false, Bool.false_eq_true, reduceCtorEq, reduceIte]
    obtain ⟨s3, g1, y4, y5, y7, g2⟩ := loopS_inv (b := bN 7) (body := orT) (fun t S => ∃ x4 x5 x7, S = [.lst (tr a1 b c1), .dat (lotsP L), .dat (N way), .lst ((allF L).map N), x4, x5, .lst ((allT L t).map N), x7, .un]) ((List.range M).map N) 0 [.lst (tr a1 b c1), .dat (lotsP L), .dat (N way), .lst ((allF L).map N), x4, .un, .lst [], .un, .un] ⟨_, _, _, rfl⟩ fun t d S e ⟨x4, x5, x7, hS⟩ => by
      subst hS
      obtain ⟨htM, rfl⟩ := range_map_get e
      rw [Nat.zero_add]
      have hacc : ((allT L t).map N).length ≤ 192 := by
        rw [List.length_map]
        have := allT_le h t
        omega
      have lt : lcLoop (bT 2 (bsCons (bN 4) (bsCons (bN 5) (bsNil)))) (mT (eOp2 gtD (eOp2 ixD (eV 5) (eC (.int 0))) (eV 7)) boolD) (eFz 4) [4, 5] (L.zipIdx.map fun q => T [N q.2, lotP q.1]) [.lst (tr a1 b c1), .dat (lotsP L), .dat (N way), .lst ((allF L).map N), .un, .un, .lst ((allT L t).map N), .dat (N t), .un] = some ((rowT L t).map N, [.lst (tr a1 b c1), .dat (lotsP L), .dat (N way), .lst ((allF L).map N), .un, .un, .lst ((allT L t).map N), .dat (N t), .un]) := by
        rw [lcLoop_map (ss := [.lst (tr a1 b c1), .dat (lotsP L), .dat (N way), .lst ((allF L).map N), .un, .un, .lst ((allT L t).map N), .dat (N t), .un]) (fun q : (Nat × Nat) × Nat => T [N q.2, lotP q.1]) (fun q => decide (t < q.1.1)) (fun q => N q.2) L.zipIdx fun q _ => ?_]
        · unfold rowT
          rw [List.map_map]
          rfl
        · have g1 : ixD (lotP q.1) (.int 0) = some (.dat (N q.1.1)) := rfl
          refine ⟨[.lst (tr a1 b c1), .dat (lotsP L), .dat (N way), .lst ((allF L).map N), .dat (N q.2), .dat (lotP q.1), .lst ((allT L t).map N), .dat (N t), .un], [.lst (tr a1 b c1), .dat (lotsP L), .dat (N way), .lst ((allF L).map N), .dat (N q.2), .dat (lotP q.1), .lst ((allT L t).map N), .dat (N t), .un], rfl, ?_, fun _ => rfl, fun _ => ⟨_, _, rfl, rfl, rfl⟩⟩
          simp only [g1, gtD_nat, runP, ss0, toRes, sRet, sSet, sEx, sUn, sPar, put1, sNil, sSetIx, eV, eFz, eMv, eC, eOp2, eUn, eCB, eFn, eIO, eIOt, eAnd, eOr, eNot, notD, eIf, eChain, eTup, eLst, aNil, aCons, mT, mNot, mAnd, mOr, mYes, boolD, truD, val, vals, frz, frzs, Res.ev, opn, bN, bT, bsCons, bsNil, wipeS, pNo, pSo, eApp, eExt, List.length_cons, List.map_cons, List.getElem?_cons_zero, List.getElem?_cons_succ, List.length_nil, if_true, if_false, List.map_nil, List.cons_append, List.nil_append, Option.bind_some, Option.map_some, List.set_cons_zero, List.set_cons_succ, List.replicate, Nat.reduceAdd, Nat.reduceSub, Nat.reduceEqDiff, Bool.not_true, Bool.not_false, Bool.false_eq_true, reduceCtorEq, reduceIte]
      have et := eLc_of (fi := iEn (aCons (eFz 1) aNil)) (s := [.lst (tr a1 b c1), .dat (lotsP L), .dat (N way), .lst ((allF L).map N), x4, x5, .lst ((allT L t).map N), .dat (N t), .un]) (s1 := [.lst (tr a1 b c1), .dat (lotsP L), .dat (N way), .lst ((allF L).map N), x4, x5, .lst ((allT L t).map N), .dat (N t), .un]) (items := L.zipIdx.map fun q => T [N q.2, lotP q.1]) (by rw [← enum_lots]; rfl) lt (by
        rw [List.length_map]
        have := rowT_le (L := L) t
        have := h.le
        exact big64 (by omega))
      have hb : ((allT L t).map N).length + ((rowT L t).map N).length ≤ big := by
        have := rowT_le (L := L) t
        have := h.le
        rw [List.length_map] at hacc ⊢
        rw [List.length_map]
        exact big64 (by omega)
      refine ⟨[.lst (tr a1 b c1), .dat (lotsP L), .dat (N way), .lst ((allF L).map N), .un, .un, .lst ((allT L (t + 1)).map N), .dat (N t), .un], ⟨[.lst (tr a1 b c1), .dat (lotsP L), .dat (N way), .lst ((allF L).map N), x4, x5, .lst ((allT L t).map N), .dat (N t), .un], rfl, .inl ?_⟩, _, _, _, rfl⟩
      rw [allT_succ, List.map_append]
      simp only [et, hb, runP, ss0, toRes, sRet, sSet, sEx, sUn, sPar, put1, sNil, sSetIx, eV, eFz, eMv, eC, eOp2, eUn, eCB, eFn, eIO, eIOt, eAnd, eOr, eNot, notD, eIf, eChain, eTup, eLst, aNil, aCons, mT, mNot, mAnd, mOr, mYes, boolD, truD, val, vals, frz, frzs, Res.ev, opn, bN, bT, bsCons, bsNil, wipeS, pNo, pSo, eApp, eExt, List.length_cons, List.map_cons, List.getElem?_cons_zero, List.getElem?_cons_succ, List.length_nil, if_true, if_false, List.map_nil, List.cons_append, List.nil_append, Option.bind_some, Option.map_some, List.set_cons_zero, List.set_cons_succ, List.replicate, Nat.reduceAdd, Nat.reduceSub, Nat.reduceEqDiff, Bool.not_true, Bool.not_false, Bool.false_eq_true, reduceCtorEq, reduceIte]
    rw [List.length_map, List.length_range, Nat.zero_add] at g2
    have ht : tupleD [.list ((allT L M).map N)] = some (.dat (ordP (allT L M))) := rfl
    refine ⟨allT L M, a1, c1, cnt_T h hMp hM16, ?_⟩
    refine runIO_rt (ev := .dat (ordP (allT L M))) (s := [.dat (lotsP L), .dat (N way), .lst ((allF L).map N), y4, y5, .lst ((allT L M).map N), y7, .un]) rfl ((sSeq_nx hpar).trans ((sSeq_nx hfor).trans ((sSeq_nx (hif0 _ _ rfl)).trans (sSeq_rt ((sIf_y (s1 := [.lst (tr a1 b c1), .dat (lotsP L), .dat (N way), .lst ((allF L).map N), x4, x5, .un, .un, .un]) ?_).trans ((sSeq_nx (s1 := [.lst (tr a1 b c1), .dat (lotsP L), .dat (N way), .lst ((allF L).map N), x4, x5, .lst [], .un, .un]) rfl).trans ((sSeq_nx (s1 := [.lst (tr a1 b c1), .dat (lotsP L), .dat (N way), .lst ((allF L).map N), y4, y5, .lst ((allT L M).map N), y7, .un]) ((sFor_of hit).trans (g1.trans (by rw [g2])))).trans ?_))))))) rfl
    · simp only [w1, runP, ss0, toRes, sRet, sSet, sEx, sUn, sPar, put1, sNil, sSetIx, eV, eFz, eMv, eC, eOp2, eUn, eCB, eFn, eIO, eIOt, eAnd, eOr, eNot, notD, eIf, eChain, eTup, eLst, aNil, aCons, mT, mNot, mAnd, mOr, mYes, boolD, truD, val, vals, frz, frzs, Res.ev, opn, bN, bT, bsCons, bsNil, wipeS, pNo, pSo, eApp, eExt, List.length_cons, List.map_cons, List.getElem?_cons_zero, List.getElem?_cons_succ, List.length_nil, if_true, if_false, List.map_nil, List.cons_append, List.nil_append, Option.bind_some, Option.map_some, List.set_cons_zero, List.set_cons_succ, List.replicate, Nat.reduceAdd, Nat.reduceSub, Nat.reduceEqDiff, Bool.not_true, Bool.not_false, Bool.false_eq_true, reduceCtorEq, reduceIte]
    · simp only [ht, runP, ss0, toRes, sRet, sSet, sEx, sUn, sPar, put1, sNil, sSetIx, eV, eFz, eMv, eC, eOp2, eUn, eCB, eFn, eIO, eIOt, eAnd, eOr, eNot, notD, eIf, eChain, eTup, eLst, aNil, aCons, mT, mNot, mAnd, mOr, mYes, boolD, truD, val, vals, frz, frzs, Res.ev, opn, bN, bT, bsCons, bsNil, wipeS, pNo, pSo, eApp, eExt, List.length_cons, List.map_cons, List.getElem?_cons_zero, List.getElem?_cons_succ, List.length_nil, if_true, if_false, List.map_nil, List.cons_append, List.nil_append, Option.bind_some, Option.map_some, List.set_cons_zero, List.set_cons_succ, List.replicate, Nat.reduceAdd, Nat.reduceSub, Nat.reduceEqDiff, Bool.not_true, Bool.not_false, Bool.false_eq_true, reduceCtorEq, reduceIte]
  rw [decide_eq_false k1] at w1
  have hif1 : ∀ (A : FS) (s : SS), s[2]? = some (.dat (N way)) → sIf (mT (eOp2 eqD (eV 2) (eC (.int 1))) boolD) A sNil s = some (.nx s) := fun A s hs => by
    refine (sIf_n (s1 := s) ?_).trans rfl
    simp only [hs, w1, runP, ss0, toRes, sRet, sSet, sEx, sUn, sPar, put1, sNil, sSetIx, eV, eFz, eMv, eC, eOp2, eUn, eCB, eFn, eIO, eIOt, eAnd, eOr, eNot, notD, eIf, eChain, eTup, eLst, aNil, aCons, mT, mNot, mAnd, mOr, mYes, boolD, truD, val, vals, frz, frzs, Res.ev, opn, bN, bT, bsCons, bsNil, wipeS, pNo, pSo, eApp, eExt, List.length_cons, List.map_cons, List.getElem?_cons_zero, List.getElem?_cons_succ, List.length_nil, if_true, if_false, List.map_nil, List.cons_append, List.nil_append, Option.bind_some, Option.map_some, List.set_cons_zero, List.set_cons_succ, List.replicate, Nat.reduceAdd, Nat.reduceSub, Nat.reduceEqDiff, Bool.not_true, Bool.not_false, Bool.false_eq_true, reduceCtorEq, reduceIte]
  have hlenF : lenD [.list ((allF L).map N)] = some (.dat (N (allF L).length)) := by
    show some (Res.dat (.int ((((allF L).map N).length : Nat) : Int))) = _
    rw [List.length_map]
  have hit : iR (aCons (eCB lenD (aCons (eV 3) (aNil))) (aNil)) [.lst (tr a1 b c1), .dat (lotsP L), .dat (N way), .lst ((allF L).map N), x4, x5, .un, .un, .lst []] = some ((List.range (allF L).length).map N, [.lst (tr a1 b c1), .dat (lotsP L), .dat (N way), .lst ((allF L).map N), x4, x5, .un, .un, .lst []]) := by
    refine iR_one ?_ (by omega)
    simp only [hlenF, runP, ss0, toRes, sRet, sSet, sEx, sUn, sPar, put1, sNil, sSetIx, eV, eFz, eMv, eC, eOp2, eUn, eCB, eFn, eIO, eIOt, eAnd, eOr, eNot, notD, eIf, eChain, eTup, eLst, aNil, aCons, mT, mNot, mAnd, mOr, mYes, boolD, truD, val, vals, frz, frzs, Res.ev, opn, bN, bT, bsCons, bsNil, wipeS, pNo, pSo, eApp, eExt, List.length_cons, List.map_cons, List.getElem?_cons_zero, List.getElem?_cons_succ, List.length_nil, if_true, if_false, List.map_nil, List.cons_append, List.nil_append, Option.bind_some, Option.map_some, List.set_cons_zero, List.set_cons_succ, List.replicate, Nat.reduceAdd, Nat.reduceSub, Nat.reduceEqDiff, Bool.not_true, Bool.not_false, Bool.false_eq_true, reduceCtorEq, reduceIte]
  obtain ⟨s3, g1, a2, c2, F, mx, y7, g2, g3, g4⟩ := loopS_inv (b := bN 7) (body := orM) (fun t S => ∃ (a c : Int) (F mx : List Nat) (x7 : SlotV), F.length = (allF L).length - t ∧ (mx ++ F).Perm (allF L) ∧ S = [.lst (tr a b c), .dat (lotsP L), .dat (N way), .lst (F.map N), x4, x5, .un, x7, .lst (mx.map N)]) ((List.range (allF L).length).map N) 0 [.lst (tr a1 b c1), .dat (lotsP L), .dat (N way), .lst ((allF L).map N), x4, x5, .un, .un, .lst []] ⟨a1, c1, allF L, [], _, rfl, List.Perm.refl _, rfl⟩ fun t d S e ⟨a, c, F, mx, x7, hl, hp, hS⟩ => by
    subst hS
    obtain ⟨htn, rfl⟩ := range_map_get e
    rw [Nat.zero_add] at hl ⊢
    obtain ⟨r, a', c', hr, hpl⟩ := e_pluck a b c (t := F.length) (by omega) (by omega)
    have hlen2 : lenD [.list (F.map N)] = some (.dat (N F.length)) := by
      show some (Res.dat (.int (((F.map N).length : Nat) : Int))) = _
      rw [List.length_map]
    have hget : F[r]? = some F[r] := List.getElem?_eq_getElem hr
    have hpop : ePopAt 3 (eIO 0 g__law_pluck (aCons (eCB lenD (aCons (eV 3) (aNil))) (aNil))) [.lst (tr a b c), .dat (lotsP L), .dat (N way), .lst (F.map N), x4, x5, .un, .dat (N t), .lst (mx.map N)] = some (.dat (N F[r]), [.lst (tr a' b c'), .dat (lotsP L), .dat (N way), .lst ((F.eraseIdx r).map N), x4, x5, .un, .dat (N t), .lst (mx.map N)]) := by
      have hb : ((r : Nat) : Int).natAbs < 2 ^ 62 := by omega
      have hs : seqIndex? (r : Int) (F.map N).length = some r := by
        refine (L2.ixN_seq ?_).1
        unfold L2.ixN
        rw [List.length_map, if_pos (Int.natCast_nonneg r), if_pos (by omega), Int.toNat_natCast]
      have hg : (F.map N)[r]? = some (N F[r]) := by rw [List.getElem?_map, hget]; rfl
      have he : (F.map N).eraseIdx r = (F.eraseIdx r).map N := erase_mapN F r
      unfold ePopAt
      simp only [hlen2, hpl, hs, hg, he, runP, ss0, toRes, sRet, sSet, sEx, sUn, sPar, put1, sNil, sSetIx, eV, eFz, eMv, eC, eOp2, eUn, eCB, eFn, eIO, eIOt, eAnd, eOr, eNot, notD, eIf, eChain, eTup, eLst, aNil, aCons, mT, mNot, mAnd, mOr, mYes, boolD, truD, val, vals, frz, frzs, Res.ev, opn, bN, bT, bsCons, bsNil, wipeS, pNo, pSo, eApp, eExt, List.length_cons, List.map_cons, List.getElem?_cons_zero, List.getElem?_cons_succ, List.length_nil, if_true, if_false, List.map_nil, List.cons_append, List.nil_append, Option.bind_some, Option.map_some, List.set_cons_zero, List.set_cons_succ, List.replicate, Nat.reduceAdd, Nat.reduceSub, Nat.reduceEqDiff, Bool.not_true, Bool.not_false, Bool.false_eq_true, reduceCtorEq, reduceIte]
      rw [if_pos hb]
    have hmx : mx.length + F.length = (allF L).length := by rw [← hp.length_eq, List.length_append]
    have hb2 : (mx.map N).length < big := by rw [List.length_map]; exact big_lt64 (by omega)
    refine ⟨[.lst (tr a' b c'), .dat (lotsP L), .dat (N way), .lst ((F.eraseIdx r).map N), x4, x5, .un, .dat (N t), .lst ((mx ++ [F[r]]).map N)], ⟨[.lst (tr a b c), .dat (lotsP L), .dat (N way), .lst (F.map N), x4, x5, .un, .dat (N t), .lst (mx.map N)], rfl, .inl ?_⟩, a', c', F.eraseIdx r, mx ++ [F[r]], .dat (N t), ?_, ?_, rfl⟩
    · rw [List.map_append]
      simp only [hpop, hb2, runP, ss0, toRes, sRet, sSet, sEx, sUn, sPar, put1, sNil, sSetIx, eV, eFz, eMv, eC, eOp2, eUn, eCB, eFn, eIO, eIOt, eAnd, eOr, eNot, notD, eIf, eChain, eTup, eLst, aNil, aCons, mT, mNot, mAnd, mOr, mYes, boolD, truD, val, vals, frz, frzs, Res.ev, opn, bN, bT, bsCons, bsNil, wipeS, pNo, pSo, eApp, eExt, List.length_cons, List.map_cons, List.getElem?_cons_zero, List.getElem?_cons_succ, List.length_nil, if_true, if_false, List.map_nil, List.cons_append, List.nil_append, Option.bind_some, Option.map_some, List.set_cons_zero, List.set_cons_succ, List.replicate, Nat.reduceAdd, Nat.reduceSub, Nat.reduceEqDiff, Bool.not_true, Bool.not_false, Bool.false_eq_true, reduceCtorEq, reduceIte]
    · rw [List.length_eraseIdx_of_lt hr]
      omega
    · rw [List.append_assoc]
      exact (List.Perm.append_left mx (erase_perm F r F[r] hget)).trans hp
  rw [List.length_map, List.length_range] at g2
  have hF : F = [] := List.eq_nil_of_length_eq_zero (by omega)
  subst hF
  rw [List.append_nil] at g3
  have ht : tupleD [.list (mx.map N)] = some (.dat (ordP mx)) := rfl
  refine ⟨mx, a2, c2, cnt_perm h g3, ?_⟩
  refine runIO_rt (ev := .dat (ordP mx)) (s := [.dat (lotsP L), .dat (N way), .lst [], x4, x5, .un, y7, .lst (mx.map N)]) rfl ((sSeq_nx hpar).trans ((sSeq_nx hfor).trans ((sSeq_nx (hif0 _ _ rfl)).trans ((sSeq_nx (hif1 _ _ rfl)).trans ((sSeq_nx (s1 := [.lst (tr a1 b c1), .dat (lotsP L), .dat (N way), .lst ((allF L).map N), x4, x5, .un, .un, .lst []]) rfl).trans ((sSeq_nx (s1 := [.lst (tr a2 b c2), .dat (lotsP L), .dat (N way), .lst [], x4, x5, .un, y7, .lst (mx.map N)]) ((sFor_of hit).trans (g1.trans (by rw [g4]; rfl)))).trans ?_)))))) rfl
  simp only [ht, runP, ss0, toRes, sRet, sSet, sEx, sUn, sPar, put1, sNil, sSetIx, eV, eFz, eMv, eC, eOp2, eUn, eCB, eFn, eIO, eIOt, eAnd, eOr, eNot, notD, eIf, eChain, eTup, eLst, aNil, aCons, mT, mNot, mAnd, mOr, mYes, boolD, truD, val, vals, frz, frzs, Res.ev, opn, bN, bT, bsCons, bsNil, wipeS, pNo, pSo, eApp, eExt, List.length_cons, List.map_cons, List.getElem?_cons_zero, List.getElem?_cons_succ, List.length_nil, if_true, if_false, List.map_nil, List.cons_append, List.nil_append, Option.bind_some, Option.map_some, List.set_cons_zero, List.set_cons_succ, List.replicate, Nat.reduceAdd, Nat.reduceSub, Nat.reduceEqDiff, Bool.not_true, Bool.not_false, Bool.false_eq_true, reduceCtorEq, reduceIte]
end Wk

namespace Wk
open PySem PySem.Spec L2 Ly
theorem neD_self {d : PyData} (h : SeqAt.shaped d = true) : neD d d = some (.dat (.bool false)) := by
  unfold neD
  rw [if_pos ⟨h, h⟩, PySem.SeqAt.eqv_refl d (SeqAt.canLay_of_shaped h)]
  rfl
theorem canLay_S : ∀ l : List Tri, PyData.canLayAll0 (l.map encS) = true
  | [] => rfl
  | x :: l => by
    show ((encS x).canLay0 && PyData.canLayAll0 (l.map encS)) = true
    rw [canLay_S l]
    rfl
theorem depth_S : ∀ l : List Tri, PyData.depthAll (l.map encS) ≤ 1
  | [] => by decide
  | x :: l => by
    show max (encS x).depth (PyData.depthAll (l.map encS)) ≤ 1
    have h1 : (encS x).depth ≤ 1 := by simp [encS, PyData.depth, PyData.depthAll]
    have h2 := depth_S l
    omega
theorem shaped_S (l : List Tri) : SeqAt.shaped (.list (l.map encS)) = true := by
  show (PyData.canLayAll0 (l.map encS) && decide (PyData.depthAll (l.map encS) + 1 ≤ 64)) = true
  rw [canLay_S]
  exact decide_eq_true (by have := depth_S l; omega)
abbrev rgB : FS := sSeq (sSet 3 (eIO 0 g__law_order (aCons (eFz 1) (aNil)))) (sSeq (sSet 4 (eFn g__law_weak (aCons (eFz 1) (aCons (eFz 3) (aNil))))) (sSeq (sIf (mOr (mT (eOp2 neD (eFn g_weak_stretch (aCons (eFz 1) (aCons (eFz 3) (aNil)))) (eV 4)) boolD) (mT (eOp2 neD (eFn g_borne (aCons (eFz 1) (aCons (eFz 3) (aNil)))) (eOp2 subD (eOp2 subD (eOp2 ixD (eV 4) (eC (.int 1))) (eOp2 ixD (eV 4) (eC (.int 0)))) (eC (.int 1)))) boolD)) (sRet (eC (.bool false))) (sNil)) (sIf (mT (eOp2 neD (eFn g_borne (aCons (eFz 1) (aCons (eFz 3) (aNil)))) (eFn g__law_by_strands (aCons (eFz 1) (aCons (eFz 3) (aNil))))) boolD) (sRet (eC (.bool false))) (sNil))))
theorem right_turn {L : List (Nat × Nat)} (h : Ok L) (a b c : Int) (x2 x3 x4 : SlotV) : ∃ a' c' y3 y4, rgB [.lst (tr a b c), .dat (lotsP L), x2, x3, x4] = some (.nx [.lst (tr a' b c'), .dat (lotsP L), x2, y3, y4]) := by
  obtain ⟨o, a', c', cn, ho⟩ := e_order h a b c
  obtain ⟨t, ts, hW⟩ := allW_ne (o := o) h
  have hm := least_W h cn hW
  have hw := e_weak_in h cn hW
  generalize minW t ts = m at hm hw
  have hs : 1 ≤ m.1 := by
    obtain ⟨p, _, h1, _, _⟩ := hm.bad
    exact h1
  have hwk := e_law_weak h cn hm
  have hws := e_weak_stretch h cn hw
  have hbo := e_borne h cn hs hw
  have hby := e_by_strands h cn hm
  generalize hdue : T [N m.2.1, N (m.2.1 + m.1), N m.2.2] = due at *
  have n1 : neD due due = some (.dat (.bool false)) := neD_self (by rw [← hdue]; rfl)
  have n2 : neD (N (m.1 - 1)) (N (m.1 - 1)) = some (.dat (.bool false)) := neD_self rfl
  have i1 : ixD due (.int 1) = some (.dat (N (m.2.1 + m.1))) := by rw [← hdue]; rfl
  have i0 : ixD due (.int 0) = some (.dat (N m.2.1)) := by rw [← hdue]; rfl
  have s1 : subD (N (m.2.1 + m.1)) (N m.2.1) = some (.dat (N m.1)) := by rw [subD_nat (by omega), show m.2.1 + m.1 - m.2.1 = m.1 by omega]
  have s2 : subD (N m.1) (.int 1) = some (.dat (N (m.1 - 1))) := subD_nat (a := m.1) (b := 1) hs
  refine ⟨a', c', .dat (ordP o), .dat due, (sSeq_nx (s1 := [.lst (tr a' b c'), .dat (lotsP L), x2, .dat (ordP o), x4]) ?_).trans ((sSeq_nx (s1 := [.lst (tr a' b c'), .dat (lotsP L), x2, .dat (ordP o), .dat due]) ?_).trans ((sSeq_nx (s1 := [.lst (tr a' b c'), .dat (lotsP L), x2, .dat (ordP o), .dat due]) ((sIf_n (s1 := [.lst (tr a' b c'), .dat (lotsP L), x2, .dat (ordP o), .dat due]) ?_).trans rfl)).trans ((sIf_n (s1 := [.lst (tr a' b c'), .dat (lotsP L), x2, .dat (ordP o), .dat due]) ?_).trans rfl)))⟩
  · simp only [ho, runP, ss0, toRes, sRet, sSet, sEx, sUn, sPar, put1, sNil, sSetIx, eV, eFz, eMv, eC, eOp2, eUn, eCB, eFn, eIO, eIOt, eAnd, eOr, eNot, notD, eIf, eChain, eTup, eLst, aNil, aCons, mT, mNot, mAnd, mOr, mYes, boolD, truD, val, vals, frz, frzs, Res.ev, opn, bN, bT, bsCons, bsNil, wipeS, pNo, pSo, eApp, eExt, List.length_cons, List.map_cons, List.getElem?_cons_zero, List.getElem?_cons_succ, List.length_nil, if_true, if_false, List.map_nil, List.cons_append, List.nil_append, Option.bind_some, Option.map_some, List.set_cons_zero, List.set_cons_succ, List.replicate, Nat.reduceAdd, Nat.reduceSub, Nat.reduceEqDiff, Bool.not_true, Bool.not_false, Bool.false_eq_true, reduceCtorEq, reduceIte]
  · simp only [hwk, runP, ss0, toRes, sRet, sSet, sEx, sUn, sPar, put1, sNil, sSetIx, eV, eFz, eMv, eC, eOp2, eUn, eCB, eFn, eIO, eIOt, eAnd, eOr, eNot, notD, eIf, eChain, eTup, eLst, aNil, aCons, mT, mNot, mAnd, mOr, mYes, boolD, truD, val, vals, frz, frzs, Res.ev, opn, bN, bT, bsCons, bsNil, wipeS, pNo, pSo, eApp, eExt, List.length_cons, List.map_cons, List.getElem?_cons_zero, List.getElem?_cons_succ, List.length_nil, if_true, if_false, List.map_nil, List.cons_append, List.nil_append, Option.bind_some, Option.map_some, List.set_cons_zero, List.set_cons_succ, List.replicate, Nat.reduceAdd, Nat.reduceSub, Nat.reduceEqDiff, Bool.not_true, Bool.not_false, Bool.false_eq_true, reduceCtorEq, reduceIte]
  · simp only [hws, n1, hbo, i1, i0, s1, s2, n2, runP, ss0, toRes, sRet, sSet, sEx, sUn, sPar, put1, sNil, sSetIx, eV, eFz, eMv, eC, eOp2, eUn, eCB, eFn, eIO, eIOt, eAnd, eOr, eNot, notD, eIf, eChain, eTup, eLst, aNil, aCons, mT, mNot, mAnd, mOr, mYes, boolD, truD, val, vals, frz, frzs, Res.ev, opn, bN, bT, bsCons, bsNil, wipeS, pNo, pSo, eApp, eExt, List.length_cons, List.map_cons, List.getElem?_cons_zero, List.getElem?_cons_succ, List.length_nil, if_true, if_false, List.map_nil, List.cons_append, List.nil_append, Option.bind_some, Option.map_some, List.set_cons_zero, List.set_cons_succ, List.replicate, Nat.reduceAdd, Nat.reduceSub, Nat.reduceEqDiff, Bool.not_true, Bool.not_false, Bool.false_eq_true, reduceCtorEq, reduceIte]
  · simp only [hbo, hby, n2, runP, ss0, toRes, sRet, sSet, sEx, sUn, sPar, put1, sNil, sSetIx, eV, eFz, eMv, eC, eOp2, eUn, eCB, eFn, eIO, eIOt, eAnd, eOr, eNot, notD, eIf, eChain, eTup, eLst, aNil, aCons, mT, mNot, mAnd, mOr, mYes, boolD, truD, val, vals, frz, frzs, Res.ev, opn, bN, bT, bsCons, bsNil, wipeS, pNo, pSo, eApp, eExt, List.length_cons, List.map_cons, List.getElem?_cons_zero, List.getElem?_cons_succ, List.length_nil, if_true, if_false, List.map_nil, List.cons_append, List.nil_append, Option.bind_some, Option.map_some, List.set_cons_zero, List.set_cons_succ, List.replicate, Nat.reduceAdd, Nat.reduceSub, Nat.reduceEqDiff, Bool.not_true, Bool.not_false, Bool.false_eq_true, reduceCtorEq, reduceIte]
theorem e_right (a b c : Int) : ∃ cs, g__law_right (tr a b c) [] = some (.dat (.bool true), cs) := by
  obtain ⟨L, a1, c1, h, hL⟩ := e_lots a b c
  have h1 := e_strands h
  have h2 := e_law_strands h
  have h3 : listD [T ((allZ L).map encS)] = some (.own ((allZ L).map encS)) := rfl
  have h4 := neD_self (shaped_S (allZ L))
  obtain ⟨s2, f1, a2, c2, x2, x3, x4, f2⟩ := loopS_inv (b := bN 2) (body := rgB) (fun _ S => ∃ (a c : Int) (x2 x3 x4 : SlotV), S = [.lst (tr a b c), .dat (lotsP L), x2, x3, x4]) ((List.range 2).map N) 0 [.lst (tr a1 b c1), .dat (lotsP L), .un, .un, .un] ⟨a1, c1, _, _, _, rfl⟩ fun k d S e ⟨a, c, x2, x3, x4, hS⟩ => by
    subst hS
    obtain ⟨a', c', y3, y4, ht⟩ := right_turn h a b c (.dat d) x3 x4
    exact ⟨_, ⟨[.lst (tr a b c), .dat (lotsP L), .dat d, x3, x4], rfl, .inl ht⟩, a', c', _, _, _, rfl⟩
  refine ⟨tr a2 b c2, ?_⟩
  unfold g__law_right m__law_right
  refine runIO_rt (ev := .dat (.bool true)) (s := [.dat (lotsP L), x2, x3, x4]) rfl ((sSeq_nx (s1 := [.lst (tr a1 b c1), .dat (lotsP L), .un, .un, .un]) ?_).trans ((sSeq_nx (s1 := [.lst (tr a1 b c1), .dat (lotsP L), .un, .un, .un]) ((sIf_n (s1 := [.lst (tr a1 b c1), .dat (lotsP L), .un, .un, .un]) ?_).trans rfl)).trans ((sSeq_nx (s1 := [.lst (tr a2 b c2), .dat (lotsP L), x2, x3, x4]) ((sFor_of (iR_one (n := 2) rfl (by omega))).trans (f1.trans (by rw [f2])))).trans rfl))) rfl
  · simp only [hL, runP, ss0, toRes, sRet, sSet, sEx, sUn, sPar, put1, sNil, sSetIx, eV, eFz, eMv, eC, eOp2, eUn, eCB, eFn, eIO, eIOt, eAnd, eOr, eNot, notD, eIf, eChain, eTup, eLst, aNil, aCons, mT, mNot, mAnd, mOr, mYes, boolD, truD, val, vals, frz, frzs, Res.ev, opn, bN, bT, bsCons, bsNil, wipeS, pNo, pSo, eApp, eExt, List.length_cons, List.map_cons, List.getElem?_cons_zero, List.getElem?_cons_succ, List.length_nil, if_true, if_false, List.map_nil, List.cons_append, List.nil_append, Option.bind_some, Option.map_some, List.set_cons_zero, List.set_cons_succ, List.replicate, Nat.reduceAdd, Nat.reduceSub, Nat.reduceEqDiff, Bool.not_true, Bool.not_false, Bool.false_eq_true, reduceCtorEq, reduceIte]
  · simp only [h1, h2, h3, h4, runP, ss0, toRes, sRet, sSet, sEx, sUn, sPar, put1, sNil, sSetIx, eV, eFz, eMv, eC, eOp2, eUn, eCB, eFn, eIO, eIOt, eAnd, eOr, eNot, notD, eIf, eChain, eTup, eLst, aNil, aCons, mT, mNot, mAnd, mOr, mYes, boolD, truD, val, vals, frz, frzs, Res.ev, opn, bN, bT, bsCons, bsNil, wipeS, pNo, pSo, eApp, eExt, List.length_cons, List.map_cons, List.getElem?_cons_zero, List.getElem?_cons_succ, List.length_nil, if_true, if_false, List.map_nil, List.cons_append, List.nil_append, Option.bind_some, Option.map_some, List.set_cons_zero, List.set_cons_succ, List.replicate, Nat.reduceAdd, Nat.reduceSub, Nat.reduceEqDiff, Bool.not_true, Bool.not_false, Bool.false_eq_true, reduceCtorEq, reduceIte]
/-! ### the law -/
theorem t_1 : g_borne [T [T [.int 4, .int 2], T [.int 3, .int 2]], T [.int 0, .int 1, .int 0, .int 1, .int 0, .int 1, .int 0]] = some (.dat (.int 2)) := by kernel_rfl
theorem t_2 : g_weak_stretch [T [T [.int 4, .int 2], T [.int 3, .int 2]], T [.int 0, .int 0, .int 0, .int 0, .int 1, .int 1, .int 1]] = some (.dat (T [.int 4, .int 6, .int 1])) := by kernel_rfl
theorem t_3 : g_strands [T [T [.int 5, .int 5]]] = some (.dat (T [])) := by kernel_rfl
theorem t_4 : g_strands [T [T [.int 4, .int 2], T [.int 3, .int 2]]] = some (.dat (T [T [.int 0, .int 0, .int 2], T [.int 0, .int 1, .int 2], T [.int 1, .int 0, .int 3]])) := by kernel_rfl
theorem t_5 : g_borne [T [T [.int 1, .int 1]], T [.int 0]] = some (.dat (.int 0)) := by kernel_rfl
theorem t_6 : g_weak_stretch [T [T [.int 2, .int 1], T [.int 1, .int 1]], T [.int 0, .int 0, .int 1]] = some (.dat (T [.int 2, .int 3, .int 1])) := by kernel_rfl
theorem n_1 : neD (.list [.int 2, T [.int 4, .int 6, .int 1], T []]) (.list [.int 2, T [.int 4, .int 6, .int 1], T []]) = some (.dat (.bool false)) := by kernel_rfl
theorem n_2 : neD (T [T [.int 0, .int 0, .int 2], T [.int 0, .int 1, .int 2], T [.int 1, .int 0, .int 3]]) (T [T [.int 0, .int 0, .int 2], T [.int 0, .int 1, .int 2], T [.int 1, .int 0, .int 3]]) = some (.dat (.bool false)) := by kernel_rfl
theorem q_1 : eqD (.int 0) (.int 0) = some (.dat (.bool true)) := by kernel_rfl
theorem q_2 : eqD (T [.int 2, .int 3, .int 1]) (T [.int 2, .int 3, .int 1]) = some (.dat (.bool true)) := by kernel_rfl
theorem min4 (n : Nat) : minL [.int 4, N n] = some (.dat (N (min 4 n))) := by
  show some (Res.dat (.int (if (n : Int) < 4 then (n : Int) else 4))) = _
  split
  · rw [show min 4 n = n by omega]
  · rw [show min 4 n = 4 by omega]
    rfl
theorem max1 (n : Nat) : maxL [.int 1, N n] = some (.dat (N (max 1 n))) := by
  show some (Res.dat (.int (if (n : Int) > 1 then (n : Int) else 1))) = _
  split
  · rw [show max 1 n = n by omega]
  · rw [show max 1 n = 1 by omega]
    rfl
theorem pure (ns : List Int) (hn : ns.length ≤ 63) : g_law [.list (ns.map .int)] = some (.dat (.bool true)) := by
  have hlen : lenD [.list (ns.map .int)] = some (.dat (N ns.length)) := by
    show some (Res.dat (.int (((ns.map PyData.int).length : Nat) : Int))) = _
    rw [List.length_map]
  have hit : iR (aCons (eCB maxL (aCons (eC (.int 1)) (aCons (eCB minL (aCons (eC (.int 4)) (aCons (eCB lenD (aCons (eV 0) (aNil))) (aNil)))) (aNil)))) (aNil)) [.dat (.list (ns.map .int)), .un, .un, .un] = some ((List.range (max 1 (min 4 ns.length))).map N, [.dat (.list (ns.map .int)), .un, .un, .un]) := by
    refine iR_one ?_ (by omega)
    simp only [hlen, min4, max1, runP, ss0, toRes, sRet, sSet, sEx, sUn, sPar, put1, sNil, sSetIx, eV, eFz, eMv, eC, eOp2, eUn, eCB, eFn, eIO, eIOt, eAnd, eOr, eNot, notD, eIf, eChain, eTup, eLst, aNil, aCons, mT, mNot, mAnd, mOr, mYes, boolD, truD, val, vals, frz, frzs, Res.ev, opn, bN, bT, bsCons, bsNil, wipeS, pNo, pSo, eApp, eExt, List.length_cons, List.map_cons, List.getElem?_cons_zero, List.getElem?_cons_succ, List.length_nil, if_true, if_false, List.map_nil, List.cons_append, List.nil_append, Option.bind_some, Option.map_some, List.set_cons_zero, List.set_cons_succ, List.replicate, Nat.reduceAdd, Nat.reduceSub, Nat.reduceEqDiff, Bool.not_true, Bool.not_false, Bool.false_eq_true, reduceCtorEq, reduceIte]
  obtain ⟨s2, f1, x1, f2⟩ := loopS_inv (b := bN 1) (body := sIf (mNot (mT (eIOt (eFn g__law_tray (aCons (eFz 0) (aCons (eFz 1) (aNil)))) g__law_right (aNil)) truD)) (sRet (eC (.bool false))) (sNil)) (fun _ S => ∃ x1, S = [.dat (.list (ns.map .int)), x1, .un, .un]) ((List.range (max 1 (min 4 ns.length))).map N) 0 [.dat (.list (ns.map .int)), .un, .un, .un] ⟨_, rfl⟩ fun k d S e ⟨x1, hS⟩ => by
    subst hS
    obtain ⟨hj, rfl⟩ := range_map_get e
    obtain ⟨a, b, ht⟩ := e_tray ns k hn
    obtain ⟨cs, hr⟩ := e_right a b 0
    refine ⟨_, ⟨[.dat (.list (ns.map .int)), .dat (N k), .un, .un], rfl, .inl ((sIf_n (s1 := [.dat (.list (ns.map .int)), .dat (N k), .un, .un]) ?_).trans rfl)⟩, _, rfl⟩
    simp only [ht, hr, runP, ss0, toRes, sRet, sSet, sEx, sUn, sPar, put1, sNil, sSetIx, eV, eFz, eMv, eC, eOp2, eUn, eCB, eFn, eIO, eIOt, eAnd, eOr, eNot, notD, eIf, eChain, eTup, eLst, aNil, aCons, mT, mNot, mAnd, mOr, mYes, boolD, truD, val, vals, frz, frzs, Res.ev, opn, bN, bT, bsCons, bsNil, wipeS, pNo, pSo, eApp, eExt, List.length_cons, List.map_cons, List.getElem?_cons_zero, List.getElem?_cons_succ, List.length_nil, if_true, if_false, List.map_nil, List.cons_append, List.nil_append, Option.bind_some, Option.map_some, List.set_cons_zero, List.set_cons_succ, List.replicate, Nat.reduceAdd, Nat.reduceSub, Nat.reduceEqDiff, Bool.not_true, Bool.not_false, Bool.false_eq_true, reduceCtorEq, reduceIte]
  have b0 : 0 ≤ big := Nat.zero_le _
  have b1 : 1 ≤ big := by decide
  have b2 : 2 ≤ big := by decide
  have b3 : 3 ≤ big := by decide
  have b7 : 7 ≤ big := by decide
  unfold g_law m_law
  refine runP_rt (ev := .dat (.bool true)) (s := [.dat (.list (ns.map .int)), x1, .dat (T [T [.int 4, .int 2], T [.int 3, .int 2]]), .lst [.int 2, T [.int 4, .int 6, .int 1], T []]]) rfl ((sSeq_nx (s1 := [.dat (.list (ns.map .int)), x1, .un, .un]) ((sFor_of hit).trans (f1.trans (by rw [f2])))).trans ((sSeq_nx (s1 := [.dat (.list (ns.map .int)), x1, .dat (T [T [.int 4, .int 2], T [.int 3, .int 2]]), .un]) ?_).trans ((sSeq_nx (s1 := [.dat (.list (ns.map .int)), x1, .dat (T [T [.int 4, .int 2], T [.int 3, .int 2]]), .lst [.int 2, T [.int 4, .int 6, .int 1], T []]]) ?_).trans ((sSeq_nx (s1 := [.dat (.list (ns.map .int)), x1, .dat (T [T [.int 4, .int 2], T [.int 3, .int 2]]), .lst [.int 2, T [.int 4, .int 6, .int 1], T []]]) ((sIf_n (s1 := [.dat (.list (ns.map .int)), x1, .dat (T [T [.int 4, .int 2], T [.int 3, .int 2]]), .lst [.int 2, T [.int 4, .int 6, .int 1], T []]]) ?_).trans rfl)).trans ?_)))) rfl
  · simp only [b2, runP, ss0, toRes, sRet, sSet, sEx, sUn, sPar, put1, sNil, sSetIx, eV, eFz, eMv, eC, eOp2, eUn, eCB, eFn, eIO, eIOt, eAnd, eOr, eNot, notD, eIf, eChain, eTup, eLst, aNil, aCons, mT, mNot, mAnd, mOr, mYes, boolD, truD, val, vals, frz, frzs, Res.ev, opn, bN, bT, bsCons, bsNil, wipeS, pNo, pSo, eApp, eExt, List.length_cons, List.map_cons, List.getElem?_cons_zero, List.getElem?_cons_succ, List.length_nil, if_true, if_false, List.map_nil, List.cons_append, List.nil_append, Option.bind_some, Option.map_some, List.set_cons_zero, List.set_cons_succ, List.replicate, Nat.reduceAdd, Nat.reduceSub, Nat.reduceEqDiff, Bool.not_true, Bool.not_false, Bool.false_eq_true, reduceCtorEq, reduceIte]
  · simp only [b0, b1, b2, b3, b7, t_1, t_2, t_3, runP, ss0, toRes, sRet, sSet, sEx, sUn, sPar, put1, sNil, sSetIx, eV, eFz, eMv, eC, eOp2, eUn, eCB, eFn, eIO, eIOt, eAnd, eOr, eNot, notD, eIf, eChain, eTup, eLst, aNil, aCons, mT, mNot, mAnd, mOr, mYes, boolD, truD, val, vals, frz, frzs, Res.ev, opn, bN, bT, bsCons, bsNil, wipeS, pNo, pSo, eApp, eExt, List.length_cons, List.map_cons, List.getElem?_cons_zero, List.getElem?_cons_succ, List.length_nil, if_true, if_false, List.map_nil, List.cons_append, List.nil_append, Option.bind_some, Option.map_some, List.set_cons_zero, List.set_cons_succ, List.replicate, Nat.reduceAdd, Nat.reduceSub, Nat.reduceEqDiff, Bool.not_true, Bool.not_false, Bool.false_eq_true, reduceCtorEq, reduceIte]
  · simp only [b0, b1, b2, b3, b7, t_4, n_1, n_2, runP, ss0, toRes, sRet, sSet, sEx, sUn, sPar, put1, sNil, sSetIx, eV, eFz, eMv, eC, eOp2, eUn, eCB, eFn, eIO, eIOt, eAnd, eOr, eNot, notD, eIf, eChain, eTup, eLst, aNil, aCons, mT, mNot, mAnd, mOr, mYes, boolD, truD, val, vals, frz, frzs, Res.ev, opn, bN, bT, bsCons, bsNil, wipeS, pNo, pSo, eApp, eExt, List.length_cons, List.map_cons, List.getElem?_cons_zero, List.getElem?_cons_succ, List.length_nil, if_true, if_false, List.map_nil, List.cons_append, List.nil_append, Option.bind_some, Option.map_some, List.set_cons_zero, List.set_cons_succ, List.replicate, Nat.reduceAdd, Nat.reduceSub, Nat.reduceEqDiff, Bool.not_true, Bool.not_false, Bool.false_eq_true, reduceCtorEq, reduceIte]
  · simp only [b0, b1, b2, b3, b7, t_5, t_6, q_1, q_2, runP, ss0, toRes, sRet, sSet, sEx, sUn, sPar, put1, sNil, sSetIx, eV, eFz, eMv, eC, eOp2, eUn, eCB, eFn, eIO, eIOt, eAnd, eOr, eNot, notD, eIf, eChain, eTup, eLst, aNil, aCons, mT, mNot, mAnd, mOr, mYes, boolD, truD, val, vals, frz, frzs, Res.ev, opn, bN, bT, bsCons, bsNil, wipeS, pNo, pSo, eApp, eExt, List.length_cons, List.map_cons, List.getElem?_cons_zero, List.getElem?_cons_succ, List.length_nil, if_true, if_false, List.map_nil, List.cons_append, List.nil_append, Option.bind_some, Option.map_some, List.set_cons_zero, List.set_cons_succ, List.replicate, Nat.reduceAdd, Nat.reduceSub, Nat.reduceEqDiff, Bool.not_true, Bool.not_false, Bool.false_eq_true, reduceCtorEq, reduceIte]
end Wk

namespace Wk
open PySem PySem.Spec L2 Ly PyProof.Rows Hd
theorem facts {P : Program} {w : World} {K : PySem.W.Frag} {h : Heap} {mg : Str → Option Value} {f : Addr} (X : K.In h) (G : h.Ns mainGlobals mg) (hfa : mg ("law" : Str) = some (.ref f)) (c : He.SaysD fa fn K) :
    ∃ fd : FuncData, (∀ (s : Shared) (v : Value), BindsTo s fd ⟨[v], []⟩ [("_law_script", v)]) ∧ ∀ base : Heap, FnOk P w K mg base CX0 9 f fd ["_law_script"] (spP K 1 g_law) := by
  have md : Md mg := ⟨He.free_ok X G (c.fact 27 (f := .free "ValueError") rfl), He.free_ok X G (c.fact 28 (f := .free "abs") rfl), He.free_ok X G (c.fact 29 (f := .free "all") rfl), He.free_ok X G (c.fact 30 (f := .free "bool") rfl), He.free_ok X G (c.fact 31 (f := .free "enumerate") rfl), He.free_ok X G (c.fact 32 (f := .free "int") rfl), He.free_ok X G (c.fact 33 (f := .free "isinstance") rfl), He.free_ok X G (c.fact 34 (f := .free "len") rfl), He.free_ok X G (c.fact 35 (f := .free "list") rfl), He.free_ok X G (c.fact 36 (f := .free "max") rfl), He.free_ok X G (c.fact 37 (f := .free "min") rfl), He.free_ok X G (c.fact 38 (f := .free "range") rfl), He.free_ok X G (c.fact 39 (f := .free "sum") rfl), He.free_ok X G (c.fact 40 (f := .free "tuple") rfl), He.free_ok X G (c.fact 41 (f := .free "zip") rfl), He.int_ok X G (c.fact 42 (f := .int "MOST_LOTS" 12) rfl), He.int_ok X G (c.fact 43 (f := .int "MOST_FRAMES" 16) rfl), He.int_ok X G (c.fact 44 (f := .int "PAIR" 2) rfl)⟩
  obtain ⟨fd_is_whole, D_is_whole⟩ := c.def_ 0 (d := d_is_whole) rfl
  obtain ⟨fd_frames_in, D_frames_in⟩ := c.def_ 7 (d := d_frames_in) rfl
  obtain ⟨fd_lost_by, D_lost_by⟩ := c.def_ 8 (d := d_lost_by) rfl
  obtain ⟨fd__law_tray, D__law_tray⟩ := c.def_ 16 (d := d__law_tray) rfl
  obtain ⟨fd__law_pluck, D__law_pluck⟩ := c.def_ 17 (d := d__law_pluck) rfl
  obtain ⟨fd__law_short, D__law_short⟩ := c.def_ 21 (d := d__law_short) rfl
  obtain ⟨fd__law_strands, D__law_strands⟩ := c.def_ 23 (d := d__law_strands) rfl
  obtain ⟨fd_is_within, D_is_within⟩ := c.def_ 1 (d := d_is_within) rfl
  obtain ⟨fd_strand_length, D_strand_length⟩ := c.def_ 9 (d := d_strand_length) rfl
  obtain ⟨fd_weak_in, D_weak_in⟩ := c.def_ 11 (d := d_weak_in) rfl
  obtain ⟨fd__law_some, D__law_some⟩ := c.def_ 18 (d := d__law_some) rfl
  obtain ⟨fd__law_order, D__law_order⟩ := c.def_ 20 (d := d__law_order) rfl
  obtain ⟨fd__law_weak, D__law_weak⟩ := c.def_ 22 (d := d__law_weak) rfl
  obtain ⟨fd__law_by_strands, D__law_by_strands⟩ := c.def_ 24 (d := d__law_by_strands) rfl
  obtain ⟨fd_is_lot, D_is_lot⟩ := c.def_ 2 (d := d_is_lot) rfl
  obtain ⟨fd_is_order, D_is_order⟩ := c.def_ 5 (d := d_is_order) rfl
  obtain ⟨fd_strands_in, D_strands_in⟩ := c.def_ 10 (d := d_strands_in) rfl
  obtain ⟨fd_borne_in, D_borne_in⟩ := c.def_ 12 (d := d_borne_in) rfl
  obtain ⟨fd__law_lots, D__law_lots⟩ := c.def_ 19 (d := d__law_lots) rfl
  obtain ⟨fd_are_lots, D_are_lots⟩ := c.def_ 3 (d := d_are_lots) rfl
  obtain ⟨fd_require_lots, D_require_lots⟩ := c.def_ 4 (d := d_require_lots) rfl
  obtain ⟨fd_require_order, D_require_order⟩ := c.def_ 6 (d := d_require_order) rfl
  obtain ⟨fd_strands, D_strands⟩ := c.def_ 13 (d := d_strands) rfl
  obtain ⟨fd_borne, D_borne⟩ := c.def_ 14 (d := d_borne) rfl
  obtain ⟨fd_weak_stretch, D_weak_stretch⟩ := c.def_ 15 (d := d_weak_stretch) rfl
  obtain ⟨fd__law_right, D__law_right⟩ := c.def_ 25 (d := d__law_right) rfl
  obtain ⟨fd_law, D_law⟩ := c.def_ 26 (d := d_law) rfl
  have W_is_whole : ∀ base, _ := fun base => w_is_whole (P := P) (w := w) (base := base) md D_is_whole (He.glo_ok X G (c.fact 0 (f := .glo "is_whole") rfl))
  have W_frames_in : ∀ base, _ := fun base => w_frames_in (P := P) (w := w) (base := base) md D_frames_in (He.glo_ok X G (c.fact 7 (f := .glo "frames_in") rfl))
  have W_lost_by : ∀ base, _ := fun base => w_lost_by (P := P) (w := w) (base := base) md D_lost_by (He.glo_ok X G (c.fact 8 (f := .glo "lost_by") rfl))
  have W__law_tray : ∀ base, _ := fun base => w__law_tray (P := P) (w := w) (base := base) md D__law_tray (He.glo_ok X G (c.fact 16 (f := .glo "_law_tray") rfl))
  have W__law_pluck : ∀ base, _ := fun base => w__law_pluck (P := P) (w := w) (base := base) md D__law_pluck (He.glo_ok X G (c.fact 17 (f := .glo "_law_pluck") rfl))
  have W__law_short : ∀ base, _ := fun base => w__law_short (P := P) (w := w) (base := base) md D__law_short (He.glo_ok X G (c.fact 21 (f := .glo "_law_short") rfl))
  have W__law_strands : ∀ base, _ := fun base => w__law_strands (P := P) (w := w) (base := base) md D__law_strands (He.glo_ok X G (c.fact 23 (f := .glo "_law_strands") rfl))
  have W_is_within : ∀ base, _ := fun base => w_is_within (P := P) (w := w) (base := base) md D_is_within (He.glo_ok X G (c.fact 1 (f := .glo "is_within") rfl)) (W_is_whole base)
  have W_strand_length : ∀ base, _ := fun base => w_strand_length (P := P) (w := w) (base := base) md D_strand_length (He.glo_ok X G (c.fact 9 (f := .glo "strand_length") rfl)) (W_lost_by base)
  have W_weak_in : ∀ base, _ := fun base => w_weak_in (P := P) (w := w) (base := base) md D_weak_in (He.glo_ok X G (c.fact 11 (f := .glo "weak_in") rfl)) (W_lost_by base)
  have W__law_some : ∀ base, _ := fun base => w__law_some (P := P) (w := w) (base := base) md D__law_some (He.glo_ok X G (c.fact 18 (f := .glo "_law_some") rfl)) (W__law_pluck base)
  have W__law_order : ∀ base, _ := fun base => w__law_order (P := P) (w := w) (base := base) md D__law_order (He.glo_ok X G (c.fact 20 (f := .glo "_law_order") rfl)) (W__law_pluck base)
  have W__law_weak : ∀ base, _ := fun base => w__law_weak (P := P) (w := w) (base := base) md D__law_weak (He.glo_ok X G (c.fact 22 (f := .glo "_law_weak") rfl)) (W__law_short base)
  have W__law_by_strands : ∀ base, _ := fun base => w__law_by_strands (P := P) (w := w) (base := base) md D__law_by_strands (He.glo_ok X G (c.fact 24 (f := .glo "_law_by_strands") rfl)) (W__law_strands base)
  have W_is_lot : ∀ base, _ := fun base => w_is_lot (P := P) (w := w) (base := base) md D_is_lot (He.glo_ok X G (c.fact 2 (f := .glo "is_lot") rfl)) (W_is_within base)
  have W_is_order : ∀ base, _ := fun base => w_is_order (P := P) (w := w) (base := base) md D_is_order (He.glo_ok X G (c.fact 5 (f := .glo "is_order") rfl)) (W_is_within base) (W_frames_in base)
  have W_strands_in : ∀ base, _ := fun base => w_strands_in (P := P) (w := w) (base := base) md D_strands_in (He.glo_ok X G (c.fact 10 (f := .glo "strands_in") rfl)) (W_lost_by base) (W_strand_length base)
  have W_borne_in : ∀ base, _ := fun base => w_borne_in (P := P) (w := w) (base := base) md D_borne_in (He.glo_ok X G (c.fact 12 (f := .glo "borne_in") rfl)) (W_weak_in base)
  have W__law_lots : ∀ base, _ := fun base => w__law_lots (P := P) (w := w) (base := base) md D__law_lots (He.glo_ok X G (c.fact 19 (f := .glo "_law_lots") rfl)) (W__law_pluck base) (W__law_some base)
  have W_are_lots : ∀ base, _ := fun base => w_are_lots (P := P) (w := w) (base := base) md D_are_lots (He.glo_ok X G (c.fact 3 (f := .glo "are_lots") rfl)) (W_is_lot base)
  have W_require_lots : ∀ base, _ := fun base => w_require_lots (P := P) (w := w) (base := base) md D_require_lots (He.glo_ok X G (c.fact 4 (f := .glo "require_lots") rfl)) (W_are_lots base)
  have W_require_order : ∀ base, _ := fun base => w_require_order (P := P) (w := w) (base := base) md D_require_order (He.glo_ok X G (c.fact 6 (f := .glo "require_order") rfl)) (W_require_lots base) (W_is_order base)
  have W_strands : ∀ base, _ := fun base => w_strands (P := P) (w := w) (base := base) md D_strands (He.glo_ok X G (c.fact 13 (f := .glo "strands") rfl)) (W_require_lots base) (W_strands_in base)
  have W_borne : ∀ base, _ := fun base => w_borne (P := P) (w := w) (base := base) md D_borne (He.glo_ok X G (c.fact 14 (f := .glo "borne") rfl)) (W_require_order base) (W_borne_in base)
  have W_weak_stretch : ∀ base, _ := fun base => w_weak_stretch (P := P) (w := w) (base := base) md D_weak_stretch (He.glo_ok X G (c.fact 15 (f := .glo "weak_stretch") rfl)) (W_require_order base) (W_weak_in base)
  have W__law_right : ∀ base, _ := fun base => w__law_right (P := P) (w := w) (base := base) md D__law_right (He.glo_ok X G (c.fact 25 (f := .glo "_law_right") rfl)) (W_strands base) (W_borne base) (W_weak_stretch base) (W__law_lots base) (W__law_order base) (W__law_weak base) (W__law_strands base) (W__law_by_strands base)
  have e := hfa.symm.trans (He.glo_ok X G (c.fact 26 (f := .glo "law") rfl))
  cases e
  have b := FunD.bindsA (ps := ["_law_script"]) D_law fun _ _ _ _ _ _ us hl => match us, hl with | [_], _ => rfl
  exact ⟨fd_law, fun s v => b s [v] rfl, fun base => w_law md D_law hfa (W_strands base) (W_borne base) (W_weak_stretch base) (W__law_tray base) (W__law_right base)⟩
theorem rl_of {K : PySem.W.Frag} {H : Hp} {a : Addr} {xs : List V} (h : SqL K H a xs) : RL K (fun _ => False) H a xs := by
  rcases h with h | ⟨o, its, n, hk, hc, hd, hs, hz, r⟩
  · exact .inl ⟨h, fun z => z⟩
  · exact .inr ⟨o, its, n, hk, hc, hd, hs, hz, r⟩
end Wk
open PySem PySem.W PySem.Calls PyProof.Rows
theorem PySem.Challenge.cw_stillread_k83_whole_stretches_borne_holds : PySem.Challenge.rw_stillread_k83_whole_stretches_borne.Holds := by
  w_on; o_law
  refine HandSHeadRun.head_any (r := OpenLaw.row PySem.Challenge.rw_stillread_k83_whole_stretches_borne) (q := view (OpenLaw.row PySem.Challenge.rw_stillread_k83_whole_stretches_borne).prog [35]) (H := Hd.hk) (ob := Hd.ob) (M := 4000) (loose := Hd.names) (d := HandSHeadRun.topDef (OpenLaw.row PySem.Challenge.rw_stillread_k83_whole_stretches_borne).prog 35) (kwd := []) Hd.ob_eq
    (by kernel_rfl) (fun s => by kernel_rfl) Hd.run (by kernel_rfl) (by kernel_rfl) (by kernel_rfl) (by rfl) (by first | assumption | decide +kernel) (by decide +kernel) ⟨rfl, rfl, rfl, rfl, rfl, by decide +kernel⟩ ?hw ?hc
  case hw => w_witness2
  case hc =>
    refine L2.walk_ofE (l := PySem.Challenge.rw_stillread_k83_whole_stretches_borne) (n := 63) (k := 9) (x := "_law_script") (CX := L2.CX0) rfl (by decide) (by kernel_rfl) ⟨rfl, by decide, by decide⟩ ?F (fun _ _ _ _ z => z)
    intro w mg fa h Y G hmg0
    obtain ⟨K, KX, c⟩ := Y
    have hmg : mg ("law" : PySem.Str) = some (.ref fa) := by
      have e : (HandSHeadRun.topDef (OpenLaw.row PySem.Challenge.rw_stillread_k83_whole_stretches_borne).prog 35).name = ("law" : PySem.Str) := by kernel_rfl
      rw [← e]
      exact hmg0
    obtain ⟨fd, hb, hF⟩ := Wk.facts (P := (PySem.Challenge.rw_stillread_k83_whole_stretches_borne).prog) (w := w) KX G hmg c
    refine ⟨K, fd, Ly.spP K 1 Wk.g_law, KX, hb, fun H a ns hl _ hS => ?_, fun base _ _ => hF base⟩
    refine ⟨fun _ => False, [.list (ns.map .int)], .dat (.bool true), rfl, Wk.pure ns hl, fun _ z => z.elim, .cons (.lst (Wk.rl_of hS) Ly.RpA.ints) .nil, fun v H' _ r => ?_⟩
    have r : Ly.Rp K (fun _ => False) H' v (.bool true) := r
    cases r
    rfl

