import PyProof.Rows.All
import Wide.All
import OpenK.AllK
import Wide.FinOn
import HandS.ForMost
import HandS.TupAny
import HandS.IsInst
import HandS.Deep
import HandS.Walk
import HandS.TupSets
import KE.GoesEnum
import KE.GoesZip
import KE.GoesMore
import HandS.Iter
import HandS.Zip
import HandS.Small
import HandS.SetKeys
import HandS.Conv
import HandS.TupMul
import HandS.Style
import KE.KStateDown
import HandS.Base
import HandS.Call
import HandS.Ends
import HandS.More
import HandS.Words
import HandS.WordsExc
import HandS.Defaults
import HandS.Head0
import HandS.Head1
import HandS.Head2
import HandS.HeadEnd
import HandS.HeadHook1
import HandS.HeadHook2
import PySem.Challenge.RW_firstsafe_k42_whole_read_beside_all_worl
set_option Elab.async false
set_option linter.all false
set_option maxRecDepth 100000
set_option maxHeartbeats 0
-- FsA
/-! Pure data over the hand layer: what a value stands for in a frozen part of the heap; steps; owned lists. -/
namespace Fs
open PySem PySem.Spec PyProof.Rows L2

abbrev D := PyData
abbrev Frag := PySem.W.Frag

/-! ### a value stands for data -/
mutual
inductive Rep (K : Frag) (H : Hp) : V → D → Prop
  | non : Rep K H .non .none
  | bl (b : Bool) : Rep K H (.bl b) (.bool b)
  | int (i : Int) : Rep K H (.int i) (.int i)
  | str (x : Str) : Rep K H (.str x) (.str x)
  | lst {a : Addr} {xs : List V} {ds : List D} : H a = some (.lst xs) → Reps K H xs ds → Rep K H (.ref a) (.list ds)
  | tup {a : Addr} {xs : List V} {ds : List D} : H a = some (.tup xs) → Reps K H xs ds → Rep K H (.ref a) (.tuple ds)
  | dic {a : Addr} {kvs : List (Key × V)} {ds : List (D × D)} : H a = some (.dK kvs) → RepK K H kvs ds → Rep K H (.ref a) (.dict ds)
inductive Reps (K : Frag) (H : Hp) : List V → List D → Prop
  | nil : Reps K H [] []
  | cons {v : V} {vs : List V} {d : D} {ds : List D} : Rep K H v d → Reps K H vs ds → Reps K H (v :: vs) (d :: ds)
inductive RepK (K : Frag) (H : Hp) : List (Key × V) → List (D × D) → Prop
  | nil : RepK K H [] []
  | cons {k : Int} {v : V} {d : D} {vs : List (Key × V)} {ds : List (D × D)} : Rep K H v d → RepK K H vs ds → RepK K H ((.inl k, v) :: vs) ((.int k, d) :: ds)
end

theorem Same.rd {H H' : Hp} {a : Addr} {u : HO} (e : Same H H') (h : Rd H a u) : Rd H' a u := by
  rcases h with h | ⟨o, h⟩
  · exact .inl (e _ _ h)
  · exact .inr ⟨o, e _ _ h⟩
theorem Same.sqT {K : Frag} {H H' : Hp} {a : Addr} {xs : List V} (e : Same H H') (h : SqT K H a xs) : SqT K H' a xs := by
  rcases h with h | h
  · exact .inl (Same.rd e h)
  · exact .inr h
mutual
theorem Rep.mono {K : Frag} {H H' : Hp} (e : Same H H') : ∀ (d : D) (v : V), Rep K H v d → Rep K H' v d
  | .none, _, h => by cases h; exact .non
  | .bool b, _, h => by cases h; exact .bl b
  | .int i, _, h => by cases h; exact .int i
  | .str x, _, h => by cases h; exact .str x
  | .list ds, _, h => by
    cases h with
    | lst h1 h2 => exact .lst (e _ _ h1) (Reps.mono e ds _ h2)
  | .tuple ds, _, h => by
    cases h with
    | tup h1 h2 => exact .tup (e _ _ h1) (Reps.mono e ds _ h2)
  | .dict ds, _, h => by
    cases h with
    | dic h1 h2 => exact .dic (e _ _ h1) (RepK.mono e ds _ h2)
theorem Reps.mono {K : Frag} {H H' : Hp} (e : Same H H') : ∀ (ds : List D) (vs : List V), Reps K H vs ds → Reps K H' vs ds
  | [], _, h => by cases h; exact .nil
  | d :: ds, _, h => by
    cases h with
    | cons h1 h2 => exact .cons (Rep.mono e d _ h1) (Reps.mono e ds _ h2)
theorem RepK.mono {K : Frag} {H H' : Hp} (e : Same H H') : ∀ (ds : List (D × D)) (vs : List (Key × V)), RepK K H vs ds → RepK K H' vs ds
  | [], _, h => by cases h; exact .nil
  | (k, d) :: ds, _, h => by
    cases h with
    | cons h1 h2 => exact .cons (Rep.mono e d _ h1) (RepK.mono e ds _ h2)
end
theorem Rep.up {K : Frag} {H H' : Hp} {v : V} {d : D} (h : Rep K H v d) (e : Same H H') : Rep K H' v d := Rep.mono e d v h
theorem Reps.up {K : Frag} {H H' : Hp} {v : List V} {d : List D} (h : Reps K H v d) (e : Same H H') : Reps K H' v d := Reps.mono e d v h
theorem RepK.up {K : Frag} {H H' : Hp} {v : List (Key × V)} {d : List (D × D)} (h : RepK K H v d) (e : Same H H') : RepK K H' v d := RepK.mono e d v h

mutual
theorem Rep.dp {K : Frag} {H : Hp} : ∀ (d : D) (v : V), Rep K H v d → PyData.canLay0 d = true → Dp K H v d
  | .none, _, h, _ => by cases h; exact .non
  | .bool b, _, h, _ => by cases h; exact .bl b
  | .int i, _, h, _ => by cases h; exact .int i
  | .str x, _, h, _ => by cases h; exact .str x
  | .list ds, _, h, c => by
    cases h with
    | lst h1 h2 => exact .lst (SqL.of h1) (Reps.dp ds _ h2 (by simpa [PyData.canLay0] using c))
  | .tuple ds, _, h, c => by
    cases h with
    | tup h1 h2 => exact .tup (SqT.of h1) (Reps.dp ds _ h2 (by simpa [PyData.canLay0] using c))
  | .dict _, _, _, c => by simp [PyData.canLay0] at c
theorem Reps.dp {K : Frag} {H : Hp} : ∀ (ds : List D) (vs : List V), Reps K H vs ds → PyData.canLayAll0 ds = true → DpAll K H vs ds
  | [], _, h, _ => by cases h; exact .nil
  | d :: ds, _, h, c => by
    cases h with
    | cons h1 h2 =>
      have c' : d.canLay0 = true ∧ PyData.canLayAll0 ds = true := by simpa [PyData.canLayAll0] using c
      exact .cons (Rep.dp d _ h1 c'.1) (Reps.dp ds _ h2 c'.2)
end

section
variable {K : Frag} {H : Hp}
theorem Reps.len : ∀ {vs : List V} {ds : List D}, Reps K H vs ds → vs.length = ds.length
  | _, _, .nil => rfl
  | _, _, .cons _ t => congrArg (· + 1) (Reps.len t)
theorem Reps.get : ∀ {vs : List V} {ds : List D} {i : Nat} {d : D}, Reps K H vs ds → ds[i]? = some d → ∃ v, vs[i]? = some v ∧ Rep K H v d
  | _, _, _, _, .nil, h => by simp at h
  | _, _, 0, _, .cons r _, h => by
    have e := Option.some.inj h
    subst e
    exact ⟨_, rfl, r⟩
  | _, _, i + 1, d, .cons _ t, h => Reps.get (i := i) t h
theorem Reps.getV : ∀ {vs : List V} {ds : List D} {i : Nat} {v : V}, Reps K H vs ds → vs[i]? = some v → ∃ d, ds[i]? = some d ∧ Rep K H v d
  | _, _, _, _, .nil, h => by simp at h
  | _, _, 0, _, .cons r _, h => by
    have e := Option.some.inj h
    subst e
    exact ⟨_, rfl, r⟩
  | _, _, i + 1, d, .cons _ t, h => Reps.getV (i := i) t h
theorem Reps.append : ∀ {vs ws : List V} {ds es : List D}, Reps K H vs ds → Reps K H ws es → Reps K H (vs ++ ws) (ds ++ es)
  | _, _, _, _, .nil, s => s
  | _, _, _, _, .cons r t, s => .cons r (Reps.append t s)
theorem Reps.take : ∀ {vs : List V} {ds : List D} (n : Nat), Reps K H vs ds → Reps K H (vs.take n) (ds.take n)
  | _, _, 0, _ => .nil
  | _, _, _ + 1, .nil => .nil
  | _, _, n + 1, .cons r t => .cons r (Reps.take n t)
theorem Reps.drop : ∀ {vs : List V} {ds : List D} (n : Nat), Reps K H vs ds → Reps K H (vs.drop n) (ds.drop n)
  | _, _, 0, r => r
  | _, _, _ + 1, .nil => .nil
  | _, _, n + 1, .cons _ t => Reps.drop n t
theorem Reps.set : ∀ {vs : List V} {ds : List D} (i : Nat) {v : V} {d : D}, Reps K H vs ds → Rep K H v d → Reps K H (vs.set i v) (ds.set i d)
  | _, _, _, _, _, .nil, _ => .nil
  | _, _, 0, _, _, .cons _ t, q => .cons q t
  | _, _, i + 1, _, _, .cons r t, q => .cons r (Reps.set i t q)
theorem Reps.reverse {vs : List V} {ds : List D} (h : Reps K H vs ds) : Reps K H vs.reverse ds.reverse := by
  induction vs generalizing ds with
  | nil => cases h; exact .nil
  | cons v vs ih =>
    cases h with
    | cons r t =>
      rw [List.reverse_cons, List.reverse_cons]
      exact (ih t).append (.cons r .nil)
theorem Reps.ints : ∀ {vs : List V} {ns : List Int}, Reps K H vs (ns.map .int) → vs = ns.map V.int
  | _, [], h => by cases h; rfl
  | _, n :: ns, h => by
    cases h with
    | cons r t =>
      cases r
      rw [Reps.ints t]
      rfl
theorem Reps.of_ints : ∀ (ns : List Int), Reps K H (ns.map V.int) (ns.map .int)
  | [] => .nil
  | n :: ns => .cons (.int n) (Reps.of_ints ns)
theorem Reps.bls : ∀ {vs : List V} {ns : List Bool}, Reps K H vs (ns.map .bool) → vs = ns.map V.bl
  | _, [], h => by cases h; rfl
  | _, n :: ns, h => by
    cases h with
    | cons r t =>
      cases r
      rw [Reps.bls t]
      rfl
theorem Reps.rep {vs : List V} {ds : List D} (h : Reps K H vs ds) : ∀ k : Nat, Reps K H (List.replicate k vs).flatten (List.replicate k ds).flatten
  | 0 => .nil
  | k + 1 => by
    rw [List.replicate_succ, List.replicate_succ, List.flatten_cons, List.flatten_cons]
    exact h.append (Reps.rep h k)
end

/-! ### steps of the heap -/
/-- the drawn pool: its list, the list of further cells, what they hold -/
structure Pl where
  p : Addr
  L : Addr
  a : Int
  b : Int
  ns : List Int
abbrev PSt := Option Pl
def PoolIn (F H : Hp) : PSt → Prop
  | none => True
  | some q => F q.p = none ∧ F q.L = none ∧ q.p ≠ q.L ∧ H q.p = some (.lst [.int q.a, .int q.b, .ref q.L]) ∧ H q.L = some (.lst (q.ns.map V.int))
def NotP (pi : PSt) (a : Addr) : Prop := ∀ q, pi = some q → a ≠ q.p ∧ a ≠ q.L
structure Good (F H : Hp) (pi : PSt) : Prop where
  sub : Same F H
  pool : PoolIn F H pi
structure Step (F H : Hp) (pi : PSt) (F' H' : Hp) (pj : PSt) : Prop where
  g0 : Good F H pi
  g1 : Good F' H' pj
  ext : Same F F'
  fr : ∀ a o, H a = some o → NotP pi a → H' a = some o
  new : ∀ a, H a ≠ none → F' a = F a
  adr : pi.map (fun q => (q.p, q.L)) = pj.map (fun q => (q.p, q.L))
theorem same_upd {H : Hp} {p : Addr} {o : HO} (h : H p = none) : Same H (upd H p o) := fun b x e => by
  rw [upd_ne (ne_of_none e h)]
  exact e
theorem same_upd2 {F H : Hp} {p : Addr} {o : HO} (s : Same F H) : Same (upd F p o) (upd H p o) := fun b x e => by
  by_cases hb : b = p
  · subst hb
    rw [upd_same] at e ⊢
    exact e
  · rw [upd_ne hb] at e ⊢
    exact s b x e
theorem same_upd3 {F H : Hp} {p : Addr} {o : HO} (s : Same F H) (h : F p = none) : Same F (upd H p o) := fun b x e => by
  rw [upd_ne (ne_of_none e h)]
  exact s b x e
section
variable {F H F' H' F2 H2 : Hp} {pi pj pk : PSt} {p : Addr} {o : HO}
theorem Good.notP (g : Good F H pi) (h : H p = none) : NotP pi p := fun q e => by
  subst e
  obtain ⟨_, _, _, h1, h2⟩ := g.pool
  exact ⟨fun z => (ne_of_none h1 h) z.symm, fun z => (ne_of_none h2 h) z.symm⟩
theorem NotP.adr {a : Addr} (h : NotP pi a) (e : pi.map (fun q => (q.p, q.L)) = pj.map (fun q => (q.p, q.L))) : NotP pj a := fun q z => by
  subst z
  cases pi with
  | none => simp at e
  | some r =>
    simp only [Option.map_some, Option.some.injEq, Prod.mk.injEq] at e
    have := h r rfl
    rw [← e.1, ← e.2]
    exact this
theorem Good.fnone (g : Good F H pi) (h : H p = none) : F p = none := g.sub.free h
theorem Step.refl (g : Good F H pi) : Step F H pi F H pi := ⟨g, g, Same.refl _, fun _ _ e _ => e, fun _ _ => rfl, rfl⟩
theorem Good.upd2 (g : Good F H pi) (h : H p = none) : Good (upd F p o) (upd H p o) pi := by
  refine ⟨same_upd2 g.sub, ?_⟩
  have np := g.notP h
  cases pi with
  | none => trivial
  | some q =>
    obtain ⟨f1, f2, ne, h1, h2⟩ := g.pool
    have n := np q rfl
    exact ⟨by rw [upd_ne n.1.symm]; exact f1, by rw [upd_ne n.2.symm]; exact f2, ne, by rw [upd_ne n.1.symm]; exact h1, by rw [upd_ne n.2.symm]; exact h2⟩
theorem Good.upd1 (g : Good F H pi) (n : NotP pi p) (h : F p = none) : Good F (upd H p o) pi := by
  refine ⟨same_upd3 g.sub h, ?_⟩
  cases pi with
  | none => trivial
  | some q =>
    obtain ⟨f1, f2, ne, h1, h2⟩ := g.pool
    have n := n q rfl
    exact ⟨f1, f2, ne, by rw [upd_ne n.1.symm]; exact h1, by rw [upd_ne n.2.symm]; exact h2⟩
/-- a new object, frozen at once -/
theorem Step.alloc (g : Good F H pi) (h : H p = none) : Step F H pi (upd F p o) (upd H p o) pi :=
  ⟨g, g.upd2 h, same_upd (g.fnone h), fun a u e _ => by rw [upd_ne (ne_of_none e h)]; exact e, fun a n => upd_ne fun z => n (by rw [z]; exact h), rfl⟩
/-- a new object, owned -/
theorem Step.allocO (g : Good F H pi) (h : H p = none) : Step F H pi F (upd H p o) pi :=
  ⟨g, g.upd1 (g.notP h) (g.fnone h), Same.refl _, fun a u e _ => by rw [upd_ne (ne_of_none e h)]; exact e, fun _ _ => rfl, rfl⟩
theorem Good.there {a : Addr} (g : Good F H pi) (s : Step F H pi F' H' pj) (h : H a ≠ none) : H' a ≠ none := by
  cases e : H a with
  | none => exact absurd e h
  | some u =>
    by_cases hp : NotP pi a
    · rw [s.fr a u e hp]
      exact fun z => nomatch z
    · have : ∃ q, pi = some q ∧ (a = q.p ∨ a = q.L) := by
        apply Classical.byContradiction
        intro hn
        refine hp fun q hq => ⟨fun z => hn ⟨q, hq, .inl z⟩, fun z => hn ⟨q, hq, .inr z⟩⟩
      obtain ⟨q, rfl, hq⟩ := this
      cases pj with
      | none => have := s.adr; simp at this
      | some r =>
        have ea := s.adr
        simp only [Option.map_some, Option.some.injEq, Prod.mk.injEq] at ea
        obtain ⟨_, _, _, h1, h2⟩ := s.g1.pool
        rcases hq with rfl | rfl
        · rw [ea.1, h1]; exact fun z => nomatch z
        · rw [ea.2, h2]; exact fun z => nomatch z
theorem Step.trans (a : Step F H pi F' H' pj) (b : Step F' H' pj F2 H2 pk) : Step F H pi F2 H2 pk :=
  ⟨a.g0, b.g1, a.ext.trans b.ext, fun c u e n => b.fr c u (a.fr c u e n) (n.adr a.adr), fun c n => (b.new c (a.g0.there a n)).trans (a.new c n), a.adr.trans b.adr⟩
/-- an object that the start did not know may change while it isn't frozen -/
theorem Step.mut (a : Step F H pi F' H' pj) (h : H p = none) (f : F' p = none) : Step F H pi F' (upd H' p o) pj := by
  refine ⟨a.g0, a.g1.upd1 ((a.g0.notP h).adr a.adr) f, a.ext, fun c u e n => ?_, a.new, a.adr⟩
  rw [upd_ne (ne_of_none e h)]
  exact a.fr c u e n
/-- an owned object is frozen -/
theorem Step.freeze (a : Step F H pi F' H' pj) (h : H p = none) (f : F' p = none) (e : H' p = some o) : Step F H pi (upd F' p o) H' pj := by
  have hs : Same F' (upd F' p o) := same_upd f
  refine ⟨a.g0, ⟨fun b x q => ?_, ?_⟩, a.ext.trans hs, a.fr, fun c n => ?_, a.adr⟩
  · by_cases hb : b = p
    · subst hb
      rw [upd_same] at q
      rw [e, q]
    · rw [upd_ne hb] at q
      exact a.g1.sub b x q
  · have np := (a.g0.notP h).adr a.adr
    have g := a.g1.pool
    cases pj with
    | none => trivial
    | some q =>
      obtain ⟨f1, f2, ne, h1, h2⟩ := g
      have n := np q rfl
      exact ⟨by rw [upd_ne n.1.symm]; exact f1, by rw [upd_ne n.2.symm]; exact f2, ne, h1, h2⟩
  · rw [upd_ne fun z => n (by rw [z]; exact h)]
    exact a.new c n
/-- without the pool in sight: it stays -/
theorem Step.pure {q : PSt} (g : Good F H q) (s : Step F H none F' H' none) : Step F H q F' H' q := by
  refine ⟨g, ⟨s.g1.sub, ?_⟩, s.ext, fun a o e _ => s.fr a o e (fun _ z => nomatch z), s.new, rfl⟩
  cases q with
  | none => trivial
  | some q =>
    obtain ⟨f1, f2, ne, h1, h2⟩ := g.pool
    exact ⟨by rw [s.new _ (by rw [h1]; exact fun z => nomatch z)]; exact f1, by rw [s.new _ (by rw [h2]; exact fun z => nomatch z)]; exact f2, ne, s.fr _ _ h1 (fun _ z => nomatch z), s.fr _ _ h2 (fun _ z => nomatch z)⟩
end
end Fs
-- FsB
/-! The judgements over pure data: an expression evaluates to data (Ev), a test (EvT), arguments (EvA), a block runs (Ex). -/
namespace Fs
open PySem PySem.Spec PyProof.Rows L2

/-! ### slots -/
inductive Slot where
  | non
  | val (d : D)
  | own (ds : List D)
  | odic (kvs : List (D × D))
  | pool
  | lock (n : Nat)
structure Base where
  F : Hp
  H : Hp
  pi : PSt
  lk : Nat → V
def Owned : Slot → Prop
  | .own _ => True
  | .odic _ => True
  | _ => False
def SlotIn (K : Frag) (B : Base) (F H : Hp) (pi : PSt) (o : Option V) : Slot → Prop
  | .non => True
  | .val d => ∃ v, o = some v ∧ Rep K F v d
  | .own ds => ∃ l xs, o = some (.ref l) ∧ B.H l = none ∧ F l = none ∧ H l = some (.lst xs) ∧ Reps K F xs ds
  | .odic kvs => ∃ l xs, o = some (.ref l) ∧ B.H l = none ∧ F l = none ∧ H l = some (.dK xs) ∧ RepK K F xs kvs
  | .pool => ∃ q, pi = some q ∧ o = some (.ref q.p)
  | .lock n => o = some (B.lk n)
structure Holds (K : Frag) (B : Base) (F H : Hp) (σ : L2.St) (ρ : List Slot) (pi : PSt) : Prop where
  st : Step B.F B.H B.pi F H pi
  len : σ.length = ρ.length
  at_ : ∀ (i : Nat) (s : Slot), ρ[i]? = some s → ∃ o, σ[i]? = some o ∧ SlotIn K B F H pi o s
  sep : ∀ (i j : Nat) (a : Addr) (s t : Slot), i ≠ j → ρ[i]? = some s → ρ[j]? = some t → Owned s → Owned t → σ[i]? = some (some (.ref a)) → σ[j]? = some (some (.ref a)) → False

section
variable {K : Frag} {B : Base} {F H F' H' : Hp} {σ : L2.St} {ρ : List Slot} {pi pj : PSt} {o : Option V} {s : Slot}
theorem Holds.good (h : Holds K B F H σ ρ pi) : Good F H pi := h.st.g1
theorem Holds.notP (h : Holds K B F H σ ρ pi) {l : Addr} (e : B.H l = none) : NotP pi l := (h.st.g0.notP e).adr h.st.adr
theorem SlotIn.step (hs : SlotIn K B F H pi o s) (t : Step F H pi F' H' pj) (np : ∀ l, B.H l = none → NotP pi l) : SlotIn K B F' H' pj o s := by
  cases s with
  | non => trivial
  | val d =>
    obtain ⟨v, e, r⟩ := hs
    exact ⟨v, e, r.up t.ext⟩
  | own ds =>
    obtain ⟨l, xs, e, hb, hf, hh, r⟩ := hs
    exact ⟨l, xs, e, hb, by rw [t.new l (by rw [hh]; exact fun z => nomatch z)]; exact hf, t.fr l _ hh (np l hb), r.up t.ext⟩
  | odic ds =>
    obtain ⟨l, xs, e, hb, hf, hh, r⟩ := hs
    exact ⟨l, xs, e, hb, by rw [t.new l (by rw [hh]; exact fun z => nomatch z)]; exact hf, t.fr l _ hh (np l hb), r.up t.ext⟩
  | pool =>
    obtain ⟨q, e, z⟩ := hs
    subst e
    have a := t.adr
    cases pj with
    | none => simp at a
    | some r =>
      simp only [Option.map_some, Option.some.injEq, Prod.mk.injEq] at a
      exact ⟨r, rfl, by rw [z, a.1]⟩
  | lock n => exact hs
theorem Holds.step (h : Holds K B F H σ ρ pi) (t : Step F H pi F' H' pj) : Holds K B F' H' σ ρ pj :=
  ⟨h.st.trans t, h.len, fun i s e => let ⟨o, e1, q⟩ := h.at_ i s e; ⟨o, e1, q.step t fun _ z => h.notP z⟩, h.sep⟩
theorem getSet {α : Type} {xs : List α} {i j : Nat} {a b : α} (h : (xs.set i a)[j]? = some b) : (j = i ∧ b = a) ∨ (j ≠ i ∧ xs[j]? = some b) := by
  by_cases e : j = i
  · subst e
    have hl : j < xs.length := by
      have := (List.getElem?_eq_some_iff.mp h).1
      simpa using this
    rw [List.getElem?_set_self hl] at h
    exact .inl ⟨rfl, (Option.some.inj h).symm⟩
  · rw [List.getElem?_set_ne (Ne.symm e)] at h
    exact .inr ⟨e, h⟩
/-- a slot is stored -/
theorem Holds.set (h : Holds K B F H σ ρ pi) {i : Nat} {v : V} {s : Slot} (hi : i < ρ.length) (hs : SlotIn K B F H pi (some v) s)
    (hn : Owned s → ∀ a, v = V.ref a → ∀ (j : Nat) (t : Slot), ρ[j]? = some t → Owned t → σ[j]? ≠ some (some (V.ref a))) : Holds K B F H (σ.set i (some v)) (ρ.set i s) pi := by
  have hi' : i < σ.length := by rw [h.len]; exact hi
  refine ⟨h.st, by simpa using h.len, fun j t e => ?_, fun j k a t u ne e1 e2 o1 o2 z1 z2 => ?_⟩
  · rcases getSet e with ⟨rfl, rfl⟩ | ⟨ne, e⟩
    · exact ⟨some v, List.getElem?_set_self hi', hs⟩
    · obtain ⟨o, q1, q2⟩ := h.at_ j t e
      exact ⟨o, by rw [List.getElem?_set_ne (Ne.symm ne)]; exact q1, q2⟩
  · rcases getSet e1 with ⟨rfl, rfl⟩ | ⟨n1, f1⟩
    · rcases getSet e2 with ⟨rfl, rfl⟩ | ⟨n2, f2⟩
      · exact ne rfl
      · rw [List.getElem?_set_self hi'] at z1
        rw [List.getElem?_set_ne (Ne.symm n2)] at z2
        exact hn o1 a (Option.some.inj (Option.some.inj z1)) k u f2 o2 z2
    · rw [List.getElem?_set_ne (Ne.symm n1)] at z1
      rcases getSet e2 with ⟨rfl, rfl⟩ | ⟨n2, f2⟩
      · rw [List.getElem?_set_self hi'] at z2
        exact hn o2 a (Option.some.inj (Option.some.inj z2)) j t f1 o1 z1
      · rw [List.getElem?_set_ne (Ne.symm n2)] at z2
        exact h.sep j k a t u ne f1 f2 o1 o2 z1 z2
theorem Holds.setVal (h : Holds K B F H σ ρ pi) {i : Nat} {v : V} {d : D} (hi : i < ρ.length) (r : Rep K F v d) : Holds K B F H (σ.set i (some v)) (ρ.set i (.val d)) pi :=
  h.set hi ⟨v, rfl, r⟩ fun z => z.elim
/-- what a slot owns -/
theorem Holds.owned (h : Holds K B F H σ ρ pi) {i : Nat} {s : Slot} (e : ρ[i]? = some s) (o : Owned s) : ∃ a, σ[i]? = some (some (.ref a)) ∧ H a ≠ none ∧ B.H a = none ∧ F a = none := by
  obtain ⟨v, e1, q⟩ := h.at_ i s e
  cases s with
  | own ds =>
    obtain ⟨l, xs, rfl, hb, hf, hh, _⟩ := q
    exact ⟨l, e1, by rw [hh]; exact fun z => (nomatch z), hb, hf⟩
  | odic ds =>
    obtain ⟨l, xs, rfl, hb, hf, hh, _⟩ := q
    exact ⟨l, e1, by rw [hh]; exact fun z => (nomatch z), hb, hf⟩
  | non => exact o.elim
  | val d => exact o.elim
  | pool => exact o.elim
  | lock n => exact o.elim
/-- a new object (unknown at H0, an earlier heap where the slots held) is nobody's -/
theorem Holds.fresh (h : Holds K B F H σ ρ pi) {l : Addr} (n : H l = none) {j : Nat} {t : Slot} (e : ρ[j]? = some t) (o : Owned t) : σ[j]? ≠ some (some (.ref l)) := fun z => by
  obtain ⟨a, e1, ha, _⟩ := h.owned e o
  rw [z] at e1
  cases e1
  exact ha n
/-- an owned list is changed -/
theorem Holds.mut (h : Holds K B F H σ ρ pi) {i : Nat} {l : Addr} {s : Slot} (e : ρ[i]? = some s) (os : Owned s) (eσ : σ[i]? = some (some (.ref l))) {u : HO} {s' : Slot}
    (hs : SlotIn K B F (upd H l u) pi (some (.ref l)) s') : Holds K B F (upd H l u) σ (ρ.set i s') pi := by
  obtain ⟨a, e1, ha, hb, hf⟩ := h.owned e os
  rw [eσ] at e1
  cases e1
  have hi : i < ρ.length := (List.getElem?_eq_some_iff.mp e).1
  refine ⟨h.st.mut hb hf, by simpa using h.len, fun j t ej => ?_, fun j k a t u ne e1 e2 o1 o2 z1 z2 => ?_⟩
  · rcases getSet ej with ⟨rfl, rfl⟩ | ⟨ne, ej⟩
    · exact ⟨_, eσ, hs⟩
    · obtain ⟨o, q1, q2⟩ := h.at_ j t ej
      refine ⟨o, q1, ?_⟩
      cases t with
      | non => trivial
      | val d => exact q2
      | own ds =>
        obtain ⟨m, xs, e, hb', hf', hh, r⟩ := q2
        subst e
        have hm : m ≠ l := fun z => h.sep j i l _ _ ne ej e trivial os (by rw [q1, z]) eσ
        exact ⟨m, xs, rfl, hb', hf', by rw [upd_ne hm]; exact hh, r⟩
      | odic ds =>
        obtain ⟨m, xs, e, hb', hf', hh, r⟩ := q2
        subst e
        have hm : m ≠ l := fun z => h.sep j i l _ _ ne ej e trivial os (by rw [q1, z]) eσ
        exact ⟨m, xs, rfl, hb', hf', by rw [upd_ne hm]; exact hh, r⟩
      | pool => exact q2
      | lock n => exact q2
  · have back : ∀ {j : Nat} {t : Slot}, (ρ.set i s')[j]? = some t → Owned t → ∃ t', ρ[j]? = some t' ∧ Owned t' := fun {j t} ej ot => by
      rcases getSet ej with ⟨rfl, rfl⟩ | ⟨_, ej⟩
      · exact ⟨s, e, os⟩
      · exact ⟨t, ej, ot⟩
    obtain ⟨t1, f1, p1⟩ := back e1 o1
    obtain ⟨t2, f2, p2⟩ := back e2 o2
    exact h.sep j k a t1 t2 ne f1 f2 p1 p2 z1 z2
/-- an owned list is frozen -/
theorem Holds.freeze (h : Holds K B F H σ ρ pi) {i : Nat} {ds : List D} (e : ρ[i]? = some (.own ds)) : ∃ F', Same F F' ∧ Holds K B F' H σ (ρ.set i (.val (.list ds))) pi := by
  obtain ⟨o, e1, l, xs, rfl, hb, hf, hh, r⟩ := h.at_ i _ e
  have hs : Same F (upd F l (.lst xs)) := same_upd hf
  refine ⟨upd F l (.lst xs), hs, h.st.freeze hb hf hh, by simpa using h.len, fun j t ej => ?_, fun j k a t u ne f1 f2 o1 o2 z1 z2 => ?_⟩
  · rcases getSet ej with ⟨rfl, rfl⟩ | ⟨ne, ej⟩
    · exact ⟨_, e1, _, rfl, .lst upd_same (r.up hs)⟩
    · obtain ⟨o, q1, q2⟩ := h.at_ j t ej
      refine ⟨o, q1, ?_⟩
      cases t with
      | non => trivial
      | val d =>
        obtain ⟨v, ev, rv⟩ := q2
        exact ⟨v, ev, rv.up hs⟩
      | own ds' =>
        obtain ⟨m, ys, em, hb', hf', hh', r'⟩ := q2
        subst em
        have hm : m ≠ l := fun z => h.sep j i l _ _ ne ej e trivial trivial (by rw [q1, z]) e1
        exact ⟨m, ys, rfl, hb', by rw [upd_ne hm]; exact hf', hh', r'.up hs⟩
      | odic ds' =>
        obtain ⟨m, ys, em, hb', hf', hh', r'⟩ := q2
        subst em
        have hm : m ≠ l := fun z => h.sep j i l _ _ ne ej e trivial trivial (by rw [q1, z]) e1
        exact ⟨m, ys, rfl, hb', by rw [upd_ne hm]; exact hf', hh', r'.up hs⟩
      | pool => exact q2
      | lock n => exact q2
  · have back : ∀ {j : Nat} {t : Slot}, (ρ.set i (.val (.list ds)))[j]? = some t → Owned t → ρ[j]? = some t := fun {j t} ej ot => by
      rcases getSet ej with ⟨rfl, rfl⟩ | ⟨_, ej⟩
      · exact ot.elim
      · exact ej
    exact h.sep j k a t u ne (back f1 o1) (back f2 o2) o1 o2 z1 z2
theorem Holds.freezeD (h : Holds K B F H σ ρ pi) {i : Nat} {ds : List (D × D)} (e : ρ[i]? = some (.odic ds)) : ∃ F', Same F F' ∧ Holds K B F' H σ (ρ.set i (.val (.dict ds))) pi := by
  obtain ⟨o, e1, l, xs, rfl, hb, hf, hh, r⟩ := h.at_ i _ e
  have hs : Same F (upd F l (.dK xs)) := same_upd hf
  refine ⟨upd F l (.dK xs), hs, h.st.freeze hb hf hh, by simpa using h.len, fun j t ej => ?_, fun j k a t u ne f1 f2 o1 o2 z1 z2 => ?_⟩
  · rcases getSet ej with ⟨rfl, rfl⟩ | ⟨ne, ej⟩
    · exact ⟨_, e1, _, rfl, .dic upd_same (r.up hs)⟩
    · obtain ⟨o, q1, q2⟩ := h.at_ j t ej
      refine ⟨o, q1, ?_⟩
      cases t with
      | non => trivial
      | val d =>
        obtain ⟨v, ev, rv⟩ := q2
        exact ⟨v, ev, rv.up hs⟩
      | own ds' =>
        obtain ⟨m, ys, em, hb', hf', hh', r'⟩ := q2
        subst em
        have hm : m ≠ l := fun z => h.sep j i l _ _ ne ej e trivial trivial (by rw [q1, z]) e1
        exact ⟨m, ys, rfl, hb', by rw [upd_ne hm]; exact hf', hh', r'.up hs⟩
      | odic ds' =>
        obtain ⟨m, ys, em, hb', hf', hh', r'⟩ := q2
        subst em
        have hm : m ≠ l := fun z => h.sep j i l _ _ ne ej e trivial trivial (by rw [q1, z]) e1
        exact ⟨m, ys, rfl, hb', by rw [upd_ne hm]; exact hf', hh', r'.up hs⟩
      | pool => exact q2
      | lock n => exact q2
  · have back : ∀ {j : Nat} {t : Slot}, (ρ.set i (.val (.dict ds)))[j]? = some t → Owned t → ρ[j]? = some t := fun {j t} ej ot => by
      rcases getSet ej with ⟨rfl, rfl⟩ | ⟨_, ej⟩
      · exact ot.elim
      · exact ej
    exact h.sep j k a t u ne (back f1 o1) (back f2 o2) o1 o2 z1 z2
/-- a slot is forgotten -/
theorem Holds.drop (h : Holds K B F H σ ρ pi) (i : Nat) : Holds K B F H σ (ρ.set i .non) pi := by
  refine ⟨h.st, by simpa using h.len, fun j t ej => ?_, fun j k a t u ne f1 f2 o1 o2 z1 z2 => ?_⟩
  · rcases getSet ej with ⟨rfl, rfl⟩ | ⟨ne, ej⟩
    · have hl : j < σ.length := by
        rw [h.len]
        have := (List.getElem?_eq_some_iff.mp ej).1
        simpa using this
      exact ⟨σ[j], by simp [hl], trivial⟩
    · exact h.at_ j t ej
  · have back : ∀ {j : Nat} {t : Slot}, (ρ.set i .non)[j]? = some t → Owned t → ρ[j]? = some t := fun {j t} ej ot => by
      rcases getSet ej with ⟨rfl, rfl⟩ | ⟨_, ej⟩
      · exact ot.elim
      · exact ej
    exact h.sep j k a t u ne (back f1 o1) (back f2 o2) o1 o2 z1 z2
end

/-! ### weaker slots -/
inductive Wk1 : Slot → Slot → Prop
  | refl (s : Slot) : Wk1 s s
  | drop (s : Slot) : Wk1 s .non
  | frz (ds : List D) : Wk1 (.own ds) (.val (.list ds))
  | frzD (ds : List (D × D)) : Wk1 (.odic ds) (.val (.dict ds))
inductive Wk : List Slot → List Slot → Prop
  | nil : Wk [] []
  | cons {s t : Slot} {ρ ρ' : List Slot} : Wk1 s t → Wk ρ ρ' → Wk (s :: ρ) (t :: ρ')
theorem Wk.refl : ∀ ρ : List Slot, Wk ρ ρ
  | [] => .nil
  | s :: ρ => .cons (.refl s) (Wk.refl ρ)
theorem set_append {α : Type} (a : List α) (x y : α) (r : List α) : (a ++ x :: r).set a.length y = a ++ y :: r := by
  rw [List.set_append_right _ _ (Nat.le_refl _), Nat.sub_self] <;> rfl
theorem Holds.weakA {K : Frag} {B : Base} {H : Hp} {σ : L2.St} {pi : PSt} : ∀ {ρ ρ' : List Slot} {a : List Slot} {F : Hp}, Wk ρ ρ' → Holds K B F H σ (a ++ ρ) pi → ∃ F', Same F F' ∧ Holds K B F' H σ (a ++ ρ') pi
  | _, _, _, F, .nil, h => ⟨F, Same.refl F, h⟩
  | _, _, a, F, .cons (s := s) (t := t) (ρ := ρ) (ρ' := ρ') w1 w, h => by
    have at0 : (a ++ s :: ρ)[a.length]? = some s := by rw [List.getElem?_append_right (Nat.le_refl _), Nat.sub_self] <;> rfl
    have one : ∃ F', Same F F' ∧ Holds K B F' H σ (a ++ t :: ρ) pi := by
      cases w1 with
      | refl => exact ⟨F, Same.refl F, h⟩
      | drop =>
        have := h.drop a.length
        rw [set_append] at this
        exact ⟨F, Same.refl F, this⟩
      | frz ds =>
        obtain ⟨F', e, h'⟩ := h.freeze at0
        rw [set_append] at h'
        exact ⟨F', e, h'⟩
      | frzD ds =>
        obtain ⟨F', e, h'⟩ := h.freezeD at0
        rw [set_append] at h'
        exact ⟨F', e, h'⟩
    obtain ⟨F1, e1, h1⟩ := one
    have eq : ∀ r : List Slot, a ++ t :: r = (a ++ [t]) ++ r := fun r => by simp
    rw [eq] at h1
    obtain ⟨F2, e2, h2⟩ := Holds.weakA w h1
    rw [← eq] at h2
    exact ⟨F2, e1.trans e2, h2⟩
theorem Holds.weak {K : Frag} {B : Base} {F H : Hp} {σ : L2.St} {pi : PSt} {ρ ρ' : List Slot} (h : Holds K B F H σ ρ pi) (w : Wk ρ ρ') : ∃ F', Same F F' ∧ Holds K B F' H σ ρ' pi := Holds.weakA (a := []) w h

/-! ### the weakest readings -/
def WE (X : Cx) (e : Expr) : TE := fun σ H Q => ∀ pins s, Inv X pins σ H s → wpAny (model X.prog X.w) X.A (eval e X.env) (EP X pins σ Q) X.xe s
def WT (X : Cx) (e : Expr) : TT := fun σ H Q => ∀ pins s, Inv X pins σ H s → wpAny (model X.prog X.w) X.A (isTrue e X.env (eval e X.env)) (TP X pins σ Q) X.xe s
def WA (X : Cx) (es : List Expr) : TA := fun σ H Q => ∀ pos pins s, Inv X pins σ H s → wpAny (model X.prog X.w) X.A (spliced (backTo pos (starEach es X.env))) (AP X pins σ Q) X.xe s
def WSs (X : Cx) (st : List Stmt) : TS := fun D σ H => ∀ pins s, Inv X pins σ H s → wpAny (model X.prog X.w) X.A (execs st X.env) (SP X pins D) X.xe s
def WI (X : Cx) (tg it : Expr) : TI := fun σ H R => ∀ pins s, Inv X pins σ H s → wpAny (model X.prog X.w) X.A (eval it X.env) (fun v s1 => wpAny (model X.prog X.w) X.A (pyIter v) (PIE X pins σ tg R) X.xe s1) X.xe s
def WG (X : Cx) (tg : Expr) : TG := fun v σ H Q => ∀ pins s u, Inv X pins σ H s → RelV v u → wpAny (model X.prog X.w) X.A (assign tg X.env u) (fun _ s' => ∃ σ' H', Inv X pins σ' H' s' ∧ Q σ' H') X.xe s
theorem pe_W {X : Cx} {e : Expr} : PE X e (WE X e) := ⟨fun pins s σ H Q I h => h pins s I⟩
theorem pt_W {X : Cx} {e : Expr} : PT X e (WT X e) := ⟨fun pins s σ H Q I h => h pins s I⟩
theorem pa_W {X : Cx} {es : List Expr} : PA X es (WA X es) := ⟨fun pos pins s σ H Q I h => h pos pins s I⟩
theorem pss_W {X : Cx} {st : List Stmt} : PSs X st (WSs X st) := ⟨fun pins s σ H D I h => h pins s I⟩
theorem pi_W {X : Cx} {tg it : Expr} : PI X tg it (WI X tg it) := ⟨fun pins s σ H R I h => h pins s I⟩
theorem pg_W {X : Cx} {tg : Expr} : PG X tg (WG X tg) := ⟨fun pins s σ H v u Q I r h => h pins s u I r⟩

/-! ### the judgements -/
section
variable (X : Cx) (B : Base)
structure Ev (e : Expr) (ρ : List Slot) (pi : PSt) (d : D) (pj : PSt) : Prop where
  run : ∀ σ F H, Holds X.K B F H σ ρ pi → ∀ Q : VK, (∀ v F' H', Step F H pi F' H' pj → Rep X.K F' v d → Q v H') → WE X e σ H Q
/-- a new list, nobody's yet -/
structure EvO (e : Expr) (ρ : List Slot) (pi : PSt) (ds : List D) (pj : PSt) : Prop where
  run : ∀ σ F H, Holds X.K B F H σ ρ pi → ∀ Q : VK, (∀ l xs F' H', Step F H pi F' H' pj → H l = none → F' l = none → H' l = some (.lst xs) → Reps X.K F' xs ds → Q (.ref l) H') → WE X e σ H Q
structure EvT (e : Expr) (ρ : List Slot) (pi : PSt) (b : Bool) (pj : PSt) : Prop where
  run : ∀ σ F H, Holds X.K B F H σ ρ pi → ∀ Q : Bool → Hp → Prop, (∀ F' H', Step F H pi F' H' pj → Q b H') → WT X e σ H Q
def NoStar (es : List Expr) : Prop := ∀ env, starEach es env = es.map fun e => (false, eval e env)
structure EvA (es : List Expr) (ρ : List Slot) (pi : PSt) (ds : List D) (pj : PSt) : Prop where
  ns : NoStar es
  run : ∀ σ F H, Holds X.K B F H σ ρ pi → ∀ Q : List V → Hp → Prop, (∀ vs F' H', Step F H pi F' H' pj → Reps X.K F' vs ds → Q vs H') → WA X es σ H Q
structure Rt where
  nx : List Slot → PSt → Prop
  rt : D → PSt → Prop
  bk : List Slot → PSt → Prop := fun _ _ => False
  ct : List Slot → PSt → Prop := fun _ _ => False
def endsOf (K : Frag) (F0 : Hp) (R : Rt) : Ends where
  nx := fun σ H => ∃ F ρ pi, Same F0 F ∧ Holds K B F H σ ρ pi ∧ R.nx ρ pi
  rt := fun v H => ∃ F d pi, Step B.F B.H B.pi F H pi ∧ Rep K F v d ∧ R.rt d pi
  bk := fun σ H => ∃ F ρ pi, Same F0 F ∧ Holds K B F H σ ρ pi ∧ R.bk ρ pi
  ct := fun σ H => ∃ F ρ pi, Same F0 F ∧ Holds K B F H σ ρ pi ∧ R.ct ρ pi
structure Ex (st : List Stmt) (ρ : List Slot) (pi : PSt) (R : Rt) : Prop where
  run : ∀ σ F H F0, Same F0 F → Holds X.K B F H σ ρ pi → WSs X st (endsOf B X.K F0 R) σ H
end

/-! ### the frame's names, told once -/
structure Fr (X : Cx) (sc : Scope) (N Vs L G : List Str) (k : Nat) : Prop where
  hN : X.N = N
  hsc : X.env.scope = sc
  nd : N.Nodup
  vis : ∀ x ∈ Vs, Vis X.env.scope x ∧ (x == ("__debug__" : Str)) = false ∧ (x == ("__classdict__" : Str)) = false
  sto : ∀ x ∈ L, Loc X.env.scope x ∧ (X.fn x = true ∨ X.env.scope.names.lookup x = some .local)
  glo : ∀ x ∈ G, Gl X x ∧ (x == ("__debug__" : Str)) = false ∧ x ≠ "__name__"
  calm : X.calm = true
  room : Room k X.A
  xe : X.xe = fun _ _ => False
inductive Look : List Str → List Slot → Nat → Str → Slot → Prop
  | here {x : Str} {s : Slot} {N : List Str} {ρ : List Slot} : Look (x :: N) (s :: ρ) 0 x s
  | there {x y : Str} {s t : Slot} {N : List Str} {ρ : List Slot} {i : Nat} : Look N ρ i x s → Look (y :: N) (t :: ρ) (i + 1) x s
theorem Look.n : ∀ {N : List Str} {ρ : List Slot} {i : Nat} {x : Str} {s : Slot}, Look N ρ i x s → N[i]? = some x
  | _, _, _, _, _, .here => rfl
  | _, _, _, _, _, .there h => h.n
theorem Look.r : ∀ {N : List Str} {ρ : List Slot} {i : Nat} {x : Str} {s : Slot}, Look N ρ i x s → ρ[i]? = some s
  | _, _, _, _, _, .here => rfl
  | _, _, _, _, _, .there h => h.r
/-- a slot is stored: the list behind -/
inductive Sto : List Str → List Slot → Nat → Str → Slot → List Slot → Prop
  | here {x : Str} {s t : Slot} {N : List Str} {ρ : List Slot} : Sto (x :: N) (t :: ρ) 0 x s (s :: ρ)
  | there {x y : Str} {s t : Slot} {N : List Str} {ρ ρ' : List Slot} {i : Nat} : Sto N ρ i x s ρ' → Sto (y :: N) (t :: ρ) (i + 1) x s (t :: ρ')
theorem Sto.n : ∀ {N : List Str} {ρ ρ' : List Slot} {i : Nat} {x : Str} {s : Slot}, Sto N ρ i x s ρ' → N[i]? = some x
  | _, _, _, _, _, _, .here => rfl
  | _, _, _, _, _, _, .there h => h.n
theorem Sto.r : ∀ {N : List Str} {ρ ρ' : List Slot} {i : Nat} {x : Str} {s : Slot}, Sto N ρ i x s ρ' → ρ' = ρ.set i s
  | _, _, _, _, _, _, .here => rfl
  | _, _, _, _, _, _, .there h => by
    rw [h.r] <;> rfl
theorem Sto.lt : ∀ {N : List Str} {ρ ρ' : List Slot} {i : Nat} {x : Str} {s : Slot}, Sto N ρ i x s ρ' → i < ρ.length
  | _, _, _, _, _, _, .here => Nat.succ_pos _
  | _, _, _, _, _, _, .there h => Nat.succ_lt_succ h.lt

/-! ### promises -/
def spP (K : Frag) (g : List D → D → Prop) : Sp := fun vs H Q _ => ∃ F ds d, Same F H ∧ Reps K F vs ds ∧ g ds d ∧ ∀ v F' H', Step F H none F' H' none → Rep K F' v d → Q v H'
def spQ (K : Frag) (g : Pl → List D → D → Pl → Prop) : Sp := fun vs H Q _ => ∃ F q ws ds d q', vs = .ref q.p :: ws ∧ Good F H (some q) ∧ Reps K F ws ds ∧ g q ds d q' ∧ ∀ v F' H', Step F H (some q) F' H' (some q') → Rep K F' v d → Q v H'
def HasS (P : Program) (w : World) (K : Frag) (mg : Str → Option Value) (base : Heap) (k : Nat) (x : Str) (ps : List Str) (sp : Sp) : Prop :=
  ∃ f fd, FnOk P w K mg base CX0 k f fd ps sp ∧ mg x = some (.ref f) ∧ PySem.W.keepIn K (.ref f) = true ∧ Binds K fd ps []
abbrev Has (X : Cx) (k : Nat) (x : Str) (ps : List Str) (g : List D → D → Prop) : Prop := HasS X.prog X.w X.K X.mg X.base k x ps (spP X.K g)
abbrev HasQ (X : Cx) (k : Nat) (x : Str) (ps : List Str) (g : Pl → List D → D → Pl → Prop) : Prop := HasS X.prog X.w X.K X.mg X.base k x ps (spQ X.K g)
def retR (d : D) (pj : PSt) : Rt := { nx := fun _ pi => d = .none ∧ pi = pj, rt := fun d' pi => d' = d ∧ pi = pj }

/-! ### rules: names, constants -/
section
variable {X : Cx} {sc : Scope} {B : Base} {N Vs L G : List Str} {k : Nat} {ρ : List Slot} {pi pj pk : PSt} {pos : Pos} {e a b : Expr} {d da db : D} {x : Str} {i : Nat}
theorem Ev.of {t : TE} (hp : PE X e t) (h : ∀ σ F H, Holds X.K B F H σ ρ pi → ∀ Q : VK, (∀ v F' H', Step F H pi F' H' pj → Rep X.K F' v d → Q v H') → t σ H Q) : Ev X B e ρ pi d pj :=
  .mk fun σ F H hh Q q pins s I => hp.run pins s σ H Q I (h σ F H hh Q q)
theorem EvT.of {t : TT} {c : Bool} (hp : PT X e t) (h : ∀ σ F H, Holds X.K B F H σ ρ pi → ∀ Q : Bool → Hp → Prop, (∀ F' H', Step F H pi F' H' pj → Q c H') → t σ H Q) : EvT X B e ρ pi c pj :=
  .mk fun σ F H hh Q q pins s I => hp.run pins s σ H Q I (h σ F H hh Q q)
theorem Ev.is (h : Ev X B e ρ pi d pj) {d' : D} (eq : d = d') : Ev X B e ρ pi d' pj := eq ▸ h
theorem EvT.is {c c' : Bool} (h : EvT X B e ρ pi c pj) (eq : c = c') : EvT X B e ρ pi c' pj := eq ▸ h
theorem ev_int {n : Int} {j : Nat} : Ev X B (.Constant (.int n) j pos) ρ pi (.int n) pi := .of pe_int fun σ F H h Q q => q _ F H (Step.refl h.good) (.int n)
theorem ev_bl {n : Bool} {j : Nat} : Ev X B (.Constant (.bool n) j pos) ρ pi (.bool n) pi := .of pe_bl fun σ F H h Q q => q _ F H (Step.refl h.good) (.bl n)
theorem ev_non {j : Nat} : Ev X B (.Constant .none j pos) ρ pi .none pi := .of pe_non fun σ F H h Q q => q _ F H (Step.refl h.good) .non
theorem ev_str {n : Str} {j : Nat} : Ev X B (.Constant (.str n) j pos) ρ pi (.str n) pi := .of pe_str fun σ F H h Q q => q _ F H (Step.refl h.good) (.str n)
theorem Fr.pe (fr : Fr X sc N Vs L G k) (hi : N[i]? = some x) (v : x ∈ Vs) : PE X (.Name x pos) (tVar i) := pe_var (by rw [fr.hN]; exact hi) (fr.vis x v).1 (fr.vis x v).2.1 (fr.vis x v).2.2
theorem ev_name (fr : Fr X sc N Vs L G k) (l : Look N ρ i x (.val d)) (v : x ∈ Vs) : Ev X B (.Name x pos) ρ pi d pi := .of (fr.pe l.n v) fun σ F H h Q q => by
  obtain ⟨o, e1, v, rfl, r⟩ := h.at_ i _ l.r
  exact ⟨v, e1, q v F H (Step.refl h.good) r⟩
/-- a module's int -/
theorem ev_glob {n : Int} {t : Tok} (fr : Fr X sc N Vs L G k) (m : X.mg x = some (.int n t)) (hG : x ∈ G) : Ev X B (.Name x pos) ρ pi (.int n) pi :=
  .of (pe_glob (v := V.int n) (fr.glo x hG).1 m ⟨t, rfl⟩ (fr.glo x hG).2.1) fun σ F H h Q q => q _ F H (Step.refl h.good) (.int n)
theorem EvO.ev {ds : List D} (h : EvO X B e ρ pi ds pj) : Ev X B e ρ pi (.list ds) pj := .mk fun σ F H hh Q q => h.run σ F H hh Q fun l xs F' H' st n f' e' r =>
  q (.ref l) (upd F' l (.lst xs)) H' (st.freeze n f' e') (.lst upd_same (r.up (same_upd f')))

/-! ### two operands -/
def OpD (K : Frag) (r : R2) (da db d : D) : Prop := ∀ F H pi x y, Good F H pi → Rep K F x da → Rep K F y db → ∀ Q : VK, (∀ v F' H', Step F H pi F' H' pi → Rep K F' v d → Q v H') → r x y H Q
def OpO (K : Frag) (r : R2) (da db : D) (ds : List D) : Prop := ∀ F H pi x y, Good F H pi → Rep K F x da → Rep K F y db → ∀ Q : VK, (∀ l xs F' H', Step F H pi F' H' pi → H l = none → F' l = none → H' l = some (.lst xs) → Reps K F' xs ds → Q (.ref l) H') → r x y H Q
theorem two {r : R2} {σ : L2.St} {F H : Hp} (h : Holds X.K B F H σ ρ pi) (ha : Ev X B a ρ pi da pj) (hb : Ev X B b ρ pj db pk) {Q : VK}
    (hr : ∀ F' H' x y, Step F H pi F' H' pk → Rep X.K F' x da → Rep X.K F' y db → r x y H' Q) : tOp r (WE X a) (WE X b) σ H Q :=
  ha.run σ F H h _ fun x F1 H1 s1 r1 => hb.run σ F1 H1 (h.step s1) _ fun y F2 H2 s2 r2 => hr F2 H2 x y (s1.trans s2) (r1.up s2.ext) r2
theorem ev_op {op : Operator} {r : R2} (ho : OpR X (binaryOp op) r) (ha : Ev X B a ρ pi da pj) (hb : Ev X B b ρ pj db pk) (hr : OpD X.K r da db d) : Ev X B (.BinOp a op b pos) ρ pi d pk :=
  .of (pe_op ho pe_W pe_W) fun σ F H h Q q => two h ha hb fun F' H' x y st r1 r2 => hr F' H' pk x y st.g1 r1 r2 Q fun v F2 H2 s2 rv => q v F2 H2 (st.trans s2) rv
theorem evo_op {op : Operator} {r : R2} {ds : List D} (ho : OpR X (binaryOp op) r) (ha : Ev X B a ρ pi da pj) (hb : Ev X B b ρ pj db pk) (hr : OpO X.K r da db ds) : EvO X B (.BinOp a op b pos) ρ pi ds pk :=
  .mk fun σ F H h Q q pins s I => (pe_op ho pe_W pe_W).run pins s σ H Q I (two h ha hb fun F' H' x y st r1 r2 => hr F' H' pk x y st.g1 r1 r2 Q fun l xs F2 H2 s2 n f e rv => q l xs F2 H2 (st.trans s2) (by
    cases z : H l with
    | none => rfl
    | some u => exact absurd n (st.g0.there st (by rw [z]; exact fun z => nomatch z))) f e rv)
theorem ev_cmp {op : CmpOp} {r : R2} (ho : OpR X (compareOp op) r) (ha : Ev X B a ρ pi da pj) (hb : Ev X B b ρ pj db pk) (hm : behindInMarks op b = false) (hr : OpD X.K r da db d) : Ev X B (.Compare a [op] [b] pos) ρ pi d pk :=
  .of (pe_cmpR ho pe_W pe_W hm) fun σ F H h Q q => two h ha hb fun F' H' x y st r1 r2 => hr F' H' pk x y st.g1 r1 r2 Q fun v F2 H2 s2 rv => q v F2 H2 (st.trans s2) rv
theorem et_cmp {op : CmpOp} {r : R2} {c : Bool} (ho : OpR X (compareOp op) r) (ha : Ev X B a ρ pi da pj) (hb : Ev X B b ρ pj db pk) (hm : behindInMarks op b = false) (hr : OpD X.K r da db (.bool c)) : EvT X B (.Compare a [op] [b] pos) ρ pi c pk :=
  .of (pt_cmpR ho pe_W pe_W hm) fun σ F H h Q q => two h ha hb fun F' H' x y st r1 r2 => hr F' H' pk x y st.g1 r1 r2 _ fun v F2 H2 s2 rv => by
    cases rv
    exact ⟨c, rfl, q F2 H2 (st.trans s2)⟩
/-- ints in, a scalar out -/
theorem opd_I0 {K : Frag} {g : Int → Int → V} {m n : Int} {d : D} (hd : ∀ F : Hp, Rep K F (g m n) d) : OpD K (rI0 g) (.int m) (.int n) d := fun F H pi x y gd r1 r2 Q q => by
  cases r1
  cases r2
  exact ⟨m, n, rfl, rfl, q _ F H (Step.refl gd) (hd F)⟩
theorem opd_I {K : Frag} {C : Int → Int → Prop} {g : Int → Int → V} {m n : Int} {d : D} (hc : C m n) (hd : ∀ F : Hp, Rep K F (g m n) d) : OpD K (rI C g) (.int m) (.int n) d := fun F H pi x y gd r1 r2 Q q => by
  cases r1
  cases r2
  exact ⟨m, n, rfl, rfl, hc, q _ F H (Step.refl gd) (hd F)⟩
variable {m n : Int}
theorem ev_add (ha : Ev X B a ρ pi (.int m) pj) (hb : Ev X B b ρ pj (.int n) pk) : Ev X B (.BinOp a .Add b pos) ρ pi (.int (m + n)) pk := ev_op op_add ha hb (opd_I0 fun _ => .int _)
theorem ev_sub (ha : Ev X B a ρ pi (.int m) pj) (hb : Ev X B b ρ pj (.int n) pk) : Ev X B (.BinOp a .Sub b pos) ρ pi (.int (m - n)) pk := ev_op op_sub ha hb (opd_I0 fun _ => .int _)
theorem ev_mul (ha : Ev X B a ρ pi (.int m) pj) (hb : Ev X B b ρ pj (.int n) pk) (hc : CMul m n) : Ev X B (.BinOp a .Mult b pos) ρ pi (.int (m * n)) pk := ev_op op_mul ha hb (opd_I hc fun _ => .int _)
theorem ev_mod (ha : Ev X B a ρ pi (.int m) pj) (hb : Ev X B b ρ pj (.int n) pk) (hc : 0 < n) : Ev X B (.BinOp a .Mod b pos) ρ pi (.int (m % n)) pk := ev_op op_mod ha hb (opd_I hc fun _ => .int _)
theorem ev_div (ha : Ev X B a ρ pi (.int m) pj) (hb : Ev X B b ρ pj (.int n) pk) (hc : CDiv m n) : Ev X B (.BinOp a .FloorDiv b pos) ρ pi (.int (m / n)) pk := ev_op op_fdiv ha hb (opd_I hc fun _ => .int _)
theorem et_lt (ha : Ev X B a ρ pi (.int m) pj) (hb : Ev X B b ρ pj (.int n) pk) : EvT X B (.Compare a [.Lt] [b] pos) ρ pi (decide (m < n)) pk := et_cmp op_lt ha hb (nomark _) (opd_I0 fun _ => .bl _)
theorem et_le (ha : Ev X B a ρ pi (.int m) pj) (hb : Ev X B b ρ pj (.int n) pk) : EvT X B (.Compare a [.LtE] [b] pos) ρ pi (decide (m ≤ n)) pk := et_cmp op_le ha hb (nomark _) (opd_I0 fun _ => .bl _)
theorem et_gt (ha : Ev X B a ρ pi (.int m) pj) (hb : Ev X B b ρ pj (.int n) pk) : EvT X B (.Compare a [.Gt] [b] pos) ρ pi (decide (n < m)) pk := et_cmp op_gt ha hb (nomark _) (opd_I0 fun _ => .bl _)
theorem et_ge (ha : Ev X B a ρ pi (.int m) pj) (hb : Ev X B b ρ pj (.int n) pk) : EvT X B (.Compare a [.GtE] [b] pos) ρ pi (decide (n ≤ m)) pk := et_cmp op_ge ha hb (nomark _) (opd_I0 fun _ => .bl _)
theorem ev_le (ha : Ev X B a ρ pi (.int m) pj) (hb : Ev X B b ρ pj (.int n) pk) : Ev X B (.Compare a [.LtE] [b] pos) ρ pi (.bool (decide (m ≤ n))) pk := ev_cmp op_le ha hb (nomark _) (opd_I0 fun _ => .bl _)
end
end Fs
-- FsC
/-! Rules: subscripts, displays, calls, built-ins, tests, statements, loops. -/
namespace Fs
open PySem PySem.Spec PyProof.Rows L2

section
variable {X : Cx} {sc : Scope} {B : Base} {N Vs L G : List Str} {k : Nat} {ρ ρ' : List Slot} {pi pj pk pl : PSt} {pos pos' apos cpos : Pos} {e a b c : Expr} {es : List Expr} {d da db dc : D} {ds : List D} {x : Str} {i : Nat} {m n : Int}

/-! ### bools as values, as tests -/
theorem Rep.isB {K : Frag} {F : Hp} {v : V} {p : Bool} (h : Rep K F v (.bool p)) : v = .bl p := by cases h; rfl
theorem Rep.isI {K : Frag} {F : Hp} {v : V} {p : Int} (h : Rep K F v (.int p)) : v = .int p := by cases h; rfl
theorem ev_one {op : BoolOp} (h : Ev X B a ρ pi d pj) : Ev X B (.BoolOp op [a] pos) ρ pi d pj := .of (pe_one pe_W) fun σ F H hh Q q => h.run σ F H hh Q q
theorem ev_and {p q : Bool} (ha : Ev X B a ρ pi (.bool p) pi) (hb : p = true → Ev X B (.BoolOp .And (b :: es) pos) ρ pi (.bool q) pi) : Ev X B (.BoolOp .And (a :: b :: es) pos) ρ pi (.bool (p && q)) pi :=
  .of (pe_and pe_W pe_W) fun σ F H h Q z => ha.run σ F H h _ fun v F1 H1 s1 r => ⟨p, r.isB, by
    cases p with
    | true =>
      show WE X _ σ H1 Q
      exact (hb rfl).run σ F1 H1 (h.step s1) Q fun v F2 H2 s2 r2 => z v F2 H2 (s1.trans s2) r2
    | false =>
      show Q (.bl false) H1
      exact z _ F1 H1 s1 (.bl false)⟩
theorem ev_or {p q : Bool} (ha : Ev X B a ρ pi (.bool p) pi) (hb : p = false → Ev X B (.BoolOp .Or (b :: es) pos) ρ pi (.bool q) pi) : Ev X B (.BoolOp .Or (a :: b :: es) pos) ρ pi (.bool (p || q)) pi :=
  .of (pe_or pe_W pe_W) fun σ F H h Q z => ha.run σ F H h _ fun v F1 H1 s1 r => ⟨p, r.isB, by
    cases p with
    | false =>
      show WE X _ σ H1 Q
      exact (hb rfl).run σ F1 H1 (h.step s1) Q fun v F2 H2 s2 r2 => z v F2 H2 (s1.trans s2) r2
    | true =>
      show Q (.bl true) H1
      exact z _ F1 H1 s1 (.bl true)⟩
theorem ev_not {p : Bool} (ha : Ev X B a ρ pi (.bool p) pj) : Ev X B (.UnaryOp .Not a pos) ρ pi (.bool (!p)) pj :=
  .of (pe_not pe_W) fun σ F H h Q z => ha.run σ F H h _ fun v F1 H1 s1 r => ⟨p, r.isB, z _ F1 H1 s1 (.bl _)⟩
theorem et_not {p : Bool} (ha : EvT X B a ρ pi p pj) : EvT X B (.UnaryOp .Not a pos) ρ pi (!p) pj :=
  .of (pt_not pt_W) fun σ F H h Q z => ha.run σ F H h _ fun F1 H1 s1 => z F1 H1 s1
/-- an expression that gives True or False, as a test -/
theorem et_val {p : Bool} (ha : Ev X B a ρ pi (.bool p) pj) (he : ∀ env whole, isTrue a env whole = (do let v ← whole; standAt a.pos; holding [v] (truthy v)) := by intro _ _; rfl) : EvT X B a ρ pi p pj :=
  .of (pt_val pe_W (he _)) fun σ F H h Q z => ha.run σ F H h _ fun v F1 H1 s1 r => ⟨p, r.isB, z F1 H1 s1⟩
/-- and, or as tests: whatever their 'whole' is -/
def WW (X : Cx) (e : Expr) : TT := fun σ H Q => ∀ whole pins s, Inv X pins σ H s → wpAny (model X.prog X.w) X.A (isTrue e X.env whole) (TP X pins σ Q) X.xe s
theorem pw_W : PW X e (WW X e) := ⟨fun wh pins s σ H Q I h => h wh pins s I⟩
structure EvW (X : Cx) (B : Base) (e : Expr) (ρ : List Slot) (pi : PSt) (c : Bool) (pj : PSt) : Prop where
  run : ∀ σ F H, Holds X.K B F H σ ρ pi → ∀ Q : Bool → Hp → Prop, (∀ F' H', Step F H pi F' H' pj → Q c H') → WW X e σ H Q
theorem et_w {p : Bool} (h : EvW X B e ρ pi p pj) : EvT X B e ρ pi p pj := .of pw_W.pt fun σ F H hh Q q => h.run σ F H hh Q q
theorem EvW.of {t : TT} {p : Bool} (hp : PW X e t) (h : ∀ σ F H, Holds X.K B F H σ ρ pi → ∀ Q : Bool → Hp → Prop, (∀ F' H', Step F H pi F' H' pj → Q p H') → t σ H Q) : EvW X B e ρ pi p pj :=
  .mk fun σ F H hh Q q wh pins s I => hp.run wh pins s σ H Q I (h σ F H hh Q q)
theorem ew_and1 {p : Bool} (h : EvT X B a ρ pi p pj) : EvW X B (.BoolOp .And [a] pos) ρ pi p pj := .of (pw_and1 pt_W) fun σ F H hh Q q => h.run σ F H hh Q q
theorem ew_or1 {p : Bool} (h : EvT X B a ρ pi p pj) : EvW X B (.BoolOp .Or [a] pos) ρ pi p pj := .of (pw_or1 pt_W) fun σ F H hh Q q => h.run σ F H hh Q q
/-- with what the second part may change -/
theorem ew_andS {p q : Bool} (ha : EvT X B a ρ pi p pj) (hb : p = true → EvW X B (.BoolOp .And (b :: es) pos) ρ pj q pk) (hf : p = false → q = false ∧ pk = pj) : EvW X B (.BoolOp .And (a :: b :: es) pos) ρ pi q pk :=
  .of (pw_and pt_W pw_W) fun σ F H h Q z => ha.run σ F H h _ fun F1 H1 s1 => by
    cases p with
    | true =>
      show WW X _ σ H1 Q
      exact (hb rfl).run σ F1 H1 (h.step s1) Q fun F2 H2 s2 => z F2 H2 (s1.trans s2)
    | false =>
      show Q false H1
      obtain ⟨rfl, rfl⟩ := hf rfl
      exact z F1 H1 s1
theorem ew_and {p q : Bool} (ha : EvT X B a ρ pi p pi) (hb : p = true → EvW X B (.BoolOp .And (b :: es) pos) ρ pi q pi) : EvW X B (.BoolOp .And (a :: b :: es) pos) ρ pi (p && q) pi := by
  cases p with
  | true => exact ew_andS ha hb fun z => nomatch z
  | false => exact ew_andS ha (fun z => nomatch z) fun _ => ⟨rfl, rfl⟩
theorem ew_or {p q : Bool} (ha : EvT X B a ρ pi p pi) (hb : p = false → EvW X B (.BoolOp .Or (b :: es) pos) ρ pi q pi) : EvW X B (.BoolOp .Or (a :: b :: es) pos) ρ pi (p || q) pi :=
  .of (pw_or pt_W pw_W) fun σ F H h Q z => ha.run σ F H h _ fun F1 H1 s1 => by
    cases p with
    | false =>
      show WW X _ σ H1 Q
      exact (hb rfl).run σ F1 H1 (h.step s1) Q fun F2 H2 s2 => z F2 H2 (s1.trans s2)
    | true =>
      show Q true H1
      exact z F1 H1 s1
/-- x if t else y -/
theorem ev_if {p : Bool} (ht : EvT X B c ρ pi p pj) (ha : p = true → Ev X B a ρ pj d pk) (hb : p = false → Ev X B b ρ pj d pk) : Ev X B (.IfExp c a b pos) ρ pi d pk :=
  .of (pe_ifExp pt_W pe_W pe_W) fun σ F H h Q z => ht.run σ F H h _ fun F1 H1 s1 => by
    cases p with
    | true =>
      show WE X a σ H1 Q
      exact (ha rfl).run σ F1 H1 (h.step s1) Q fun v F2 H2 s2 r2 => z v F2 H2 (s1.trans s2) r2
    | false =>
      show WE X b σ H1 Q
      exact (hb rfl).run σ F1 H1 (h.step s1) Q fun v F2 H2 s2 r2 => z v F2 H2 (s1.trans s2) r2
theorem ev_ifP {p : Bool} (ht : EvT X B c ρ pi p pi) (ha : p = true → Ev X B a ρ pi da pi) (hb : p = false → Ev X B b ρ pi db pi) : Ev X B (.IfExp c a b pos) ρ pi (if p = true then da else db) pi := by
  cases p with
  | true => exact ev_if ht (fun _ => ha rfl) fun z => nomatch z
  | false => exact ev_if ht (fun z => nomatch z) fun _ => hb rfl

/-! ### comparisons of scalars and data -/
def isNone : D → Bool
  | .none => true
  | _ => false
theorem isNone_rep {K : Frag} {F : Hp} {v : V} {d : D} (h : Rep K F v d) : decide (v = .non) = isNone d := by
  cases h <;> simp [isNone]
theorem et_isN (ha : Ev X B a ρ pi d pj) {j : Nat} : EvT X B (.Compare a [.Is] [.Constant .none j pos'] pos) ρ pi (isNone d) pj :=
  .of (pt_cmpR op_isN pe_W pe_non (nomark _)) fun σ F H h Q z => ha.run σ F H h _ fun v F1 H1 s1 r => ⟨rfl, _, rfl, by
    rw [isNone_rep r]
    exact z F1 H1 s1⟩
theorem et_notN (ha : Ev X B a ρ pi d pj) {j : Nat} : EvT X B (.Compare a [.IsNot] [.Constant .none j pos'] pos) ρ pi (!isNone d) pj :=
  .of (pt_cmpR op_notN pe_W pe_non (nomark _)) fun σ F H h Q z => ha.run σ F H h _ fun v F1 H1 s1 r => ⟨rfl, _, rfl, by
    rw [isNone_rep r]
    exact z F1 H1 s1⟩
theorem ev_isN (ha : Ev X B a ρ pi d pj) {j : Nat} : Ev X B (.Compare a [.Is] [.Constant .none j pos'] pos) ρ pi (.bool (isNone d)) pj :=
  .of (pe_cmpR op_isN pe_W pe_non (nomark _)) fun σ F H h Q z => ha.run σ F H h _ fun v F1 H1 s1 r => ⟨rfl, by
    rw [isNone_rep r]
    exact z _ F1 H1 s1 (.bl _)⟩
theorem opd_eqD {K : Frag} (sa : SeqAt.shaped da = true) (sb : SeqAt.shaped db = true) : OpD K (rEqD K) da db (.bool (PyData.eqv da db)) := fun F H pi x y g r1 r2 Q q =>
  ⟨da, db, (r1.up g.sub).dp _ _ (SeqAt.canLay_of_shaped sa), (r2.up g.sub).dp _ _ (SeqAt.canLay_of_shaped sb), sa, sb, q _ F H (Step.refl g) (.bl _)⟩
theorem opd_neD {K : Frag} (sa : SeqAt.shaped da = true) (sb : SeqAt.shaped db = true) : OpD K (rNeD K) da db (.bool (!PyData.eqv da db)) := fun F H pi x y g r1 r2 Q q =>
  ⟨da, db, (r1.up g.sub).dp _ _ (SeqAt.canLay_of_shaped sa), (r2.up g.sub).dp _ _ (SeqAt.canLay_of_shaped sb), sa, sb, q _ F H (Step.refl g) (.bl _)⟩
theorem Fr.u64 (fr : Fr X sc N Vs L G k) : X.A.units + 64 < cLine := fr.room.units
theorem Fr.u65 (fr : Fr X sc N Vs L G k) : X.A.units + 65 < cLine := by have := fr.room.un; omega
theorem Fr.u1 (fr : Fr X sc N Vs L G k) : X.A.units + 1 < cLine := by have := fr.room.un; omega
theorem et_eq (fr : Fr X sc N Vs L G k) (ha : Ev X B a ρ pi da pj) (hb : Ev X B b ρ pj db pk) (sa : SeqAt.shaped da = true) (sb : SeqAt.shaped db = true) : EvT X B (.Compare a [.Eq] [b] pos) ρ pi (PyData.eqv da db) pk := et_cmp (op_eqD fr.u64) ha hb (nomark _) (opd_eqD sa sb)
theorem et_ne (fr : Fr X sc N Vs L G k) (ha : Ev X B a ρ pi da pj) (hb : Ev X B b ρ pj db pk) (sa : SeqAt.shaped da = true) (sb : SeqAt.shaped db = true) : EvT X B (.Compare a [.NotEq] [b] pos) ρ pi (!PyData.eqv da db) pk := et_cmp (op_neD fr.u64) ha hb (nomark _) (opd_neD sa sb)
theorem ev_eq (fr : Fr X sc N Vs L G k) (ha : Ev X B a ρ pi da pj) (hb : Ev X B b ρ pj db pk) (sa : SeqAt.shaped da = true) (sb : SeqAt.shaped db = true) : Ev X B (.Compare a [.Eq] [b] pos) ρ pi (.bool (PyData.eqv da db)) pk := ev_cmp (op_eqD fr.u64) ha hb (nomark _) (opd_eqD sa sb)
theorem ev_ne (fr : Fr X sc N Vs L G k) (ha : Ev X B a ρ pi da pj) (hb : Ev X B b ρ pj db pk) (sa : SeqAt.shaped da = true) (sb : SeqAt.shaped db = true) : Ev X B (.Compare a [.NotEq] [b] pos) ρ pi (.bool (!PyData.eqv da db)) pk := ev_cmp (op_neD fr.u64) ha hb (nomark _) (opd_neD sa sb)
/-- ints: == and != -/
theorem opd_eqI {K : Frag} : OpD K rEq (.int m) (.int n) (.bool (decide (m = n))) := fun F H pi x y g r1 r2 Q q => by
  cases r1
  cases r2
  refine ⟨rfl, ?_⟩
  have e : decide (V.int m = V.int n) = decide (m = n) := by simp
  rw [e]
  exact q _ F H (Step.refl g) (.bl _)
theorem opd_neI {K : Frag} : OpD K rNe (.int m) (.int n) (.bool (!decide (m = n))) := fun F H pi x y g r1 r2 Q q => by
  cases r1
  cases r2
  refine ⟨rfl, ?_⟩
  have e : decide (V.int m = V.int n) = decide (m = n) := by simp
  rw [e]
  exact q _ F H (Step.refl g) (.bl _)
theorem et_eqI (ha : Ev X B a ρ pi (.int m) pj) (hb : Ev X B b ρ pj (.int n) pk) : EvT X B (.Compare a [.Eq] [b] pos) ρ pi (decide (m = n)) pk := et_cmp op_eq ha hb (nomark _) opd_eqI
theorem et_neI (ha : Ev X B a ρ pi (.int m) pj) (hb : Ev X B b ρ pj (.int n) pk) : EvT X B (.Compare a [.NotEq] [b] pos) ρ pi (!decide (m = n)) pk := et_cmp op_ne ha hb (nomark _) opd_neI
theorem ev_eqI (ha : Ev X B a ρ pi (.int m) pj) (hb : Ev X B b ρ pj (.int n) pk) : Ev X B (.Compare a [.Eq] [b] pos) ρ pi (.bool (decide (m = n))) pk := ev_cmp op_eq ha hb (nomark _) opd_eqI
theorem ev_neI (ha : Ev X B a ρ pi (.int m) pj) (hb : Ev X B b ρ pj (.int n) pk) : Ev X B (.Compare a [.NotEq] [b] pos) ρ pi (.bool (!decide (m = n))) pk := ev_cmp op_ne ha hb (nomark _) opd_neI
/-- a op b op' c of ints -/
theorem three {r r' : R2} {σ : L2.St} {F H : Hp} {p q : Bool} (h : Holds X.K B F H σ ρ pi) (ha : Ev X B a ρ pi da pi) (hb : Ev X B b ρ pi db pi) (hc : Ev X B c ρ pi dc pi) (h1 : OpD X.K r da db (.bool p)) (h2 : OpD X.K r' db dc (.bool q)) {Q : VK}
    (z : ∀ v F' H', Step F H pi F' H' pi → Rep X.K F' v (.bool (p && q)) → Q v H') : tChain r r' (WE X a) (WE X b) (WE X c) σ H Q :=
  ha.run σ F H h _ fun x F1 H1 s1 r1 => hb.run σ F1 H1 (h.step s1) _ fun y F2 H2 s2 r2 => h1 F2 H2 pi x y s2.g1 (r1.up s2.ext) r2 _ fun v F3 H3 s3 r3 => ⟨p, r3.isB, by
    cases p with
    | false =>
      show Q (.bl false) H3
      exact z _ F3 H3 ((s1.trans s2).trans s3) (.bl false)
    | true =>
      show WE X c σ H3 _
      exact hc.run σ F3 H3 (((h.step s1).step s2).step s3) _ fun w F4 H4 s4 r4 => h2 F4 H4 pi y w s4.g1 (r2.up (s3.trans s4).ext) r4 _ fun v F5 H5 s5 r5 => z v F5 H5 ((((s1.trans s2).trans s3).trans s4).trans s5) r5⟩
theorem ev_lele {l : Int} (ha : Ev X B a ρ pi (.int l) pi) (hb : Ev X B b ρ pi (.int m) pi) (hc : Ev X B c ρ pi (.int n) pi) (hm : lastMarks [.LtE, .LtE] [b, c] = false := by with_unfolding_all rfl) : Ev X B (.Compare a [.LtE, .LtE] [b, c] pos) ρ pi (.bool (decide (l ≤ m) && decide (m ≤ n))) pi :=
  .of (pe_chain op_le op_le pe_W pe_W pe_W hm) fun σ F H h Q z => three h ha hb hc (opd_I0 fun _ => .bl _) (opd_I0 fun _ => .bl _) z
theorem ev_lelt {l : Int} (ha : Ev X B a ρ pi (.int l) pi) (hb : Ev X B b ρ pi (.int m) pi) (hc : Ev X B c ρ pi (.int n) pi) (hm : lastMarks [.LtE, .Lt] [b, c] = false := by with_unfolding_all rfl) : Ev X B (.Compare a [.LtE, .Lt] [b, c] pos) ρ pi (.bool (decide (l ≤ m) && decide (m < n))) pi :=
  .of (pe_chain op_le op_lt pe_W pe_W pe_W hm) fun σ F H h Q z => three h ha hb hc (opd_I0 fun _ => .bl _) (opd_I0 fun _ => .bl _) z
theorem et_lele {l : Int} (ha : Ev X B a ρ pi (.int l) pi) (hb : Ev X B b ρ pi (.int m) pi) (hc : Ev X B c ρ pi (.int n) pi) (hm : lastMarks [.LtE, .LtE] [b, c] = false := by with_unfolding_all rfl) : EvT X B (.Compare a [.LtE, .LtE] [b, c] pos) ρ pi (decide (l ≤ m) && decide (m ≤ n)) pi :=
  .of (pt_chain op_le op_le pe_W pe_W pe_W hm) fun σ F H h Q z => three h ha hb hc (opd_I0 fun _ => .bl _) (opd_I0 fun _ => .bl _) fun v F' H' st r => ⟨_, r.isB, z F' H' st⟩
/-- x in xs, x not in xs, data in a list -/
theorem et_inD (fr : Fr X sc N Vs L G k) (ha : Ev X B a ρ pi d pj) (hb : Ev X B b ρ pj (.list ds) pk) (sa : SeqAt.shaped d = true) (sb : SeqAt.shaped (.list ds) = true) (hm : behindInMarks .In b = false := by rfl) : EvT X B (.Compare a [.In] [b] pos) ρ pi (ds.any fun z => PyData.eqv z d) pk :=
  et_cmp (op_inD fr.u65) ha hb hm fun F H pi x y g r1 r2 Q q => ⟨d, ds, (r1.up g.sub).dp _ _ (SeqAt.canLay_of_shaped sa), (r2.up g.sub).dp _ _ (SeqAt.canLay_of_shaped sb), sa, sb, q _ F H (Step.refl g) (.bl _)⟩
theorem ev_inD (fr : Fr X sc N Vs L G k) (ha : Ev X B a ρ pi d pj) (hb : Ev X B b ρ pj (.list ds) pk) (sa : SeqAt.shaped d = true) (sb : SeqAt.shaped (.list ds) = true) (hm : behindInMarks .In b = false := by rfl) : Ev X B (.Compare a [.In] [b] pos) ρ pi (.bool (ds.any fun z => PyData.eqv z d)) pk :=
  ev_cmp (op_inD fr.u65) ha hb hm fun F H pi x y g r1 r2 Q q => ⟨d, ds, (r1.up g.sub).dp _ _ (SeqAt.canLay_of_shaped sa), (r2.up g.sub).dp _ _ (SeqAt.canLay_of_shaped sb), sa, sb, q _ F H (Step.refl g) (.bl _)⟩
theorem et_notInD (fr : Fr X sc N Vs L G k) (ha : Ev X B a ρ pi d pj) (hb : Ev X B b ρ pj (.list ds) pk) (sa : SeqAt.shaped d = true) (sb : SeqAt.shaped (.list ds) = true) (hm : behindInMarks .NotIn b = false := by rfl) : EvT X B (.Compare a [.NotIn] [b] pos) ρ pi (!ds.any fun z => PyData.eqv z d) pk :=
  et_cmp (op_notInD fr.u65) ha hb hm fun F H pi x y g r1 r2 Q q => ⟨d, ds, (r1.up g.sub).dp _ _ (SeqAt.canLay_of_shaped sa), (r2.up g.sub).dp _ _ (SeqAt.canLay_of_shaped sb), sa, sb, q _ F H (Step.refl g) (.bl _)⟩

/-! ### subscripts, slices -/
theorem Reps.atI {K : Frag} {F : Hp} {xs : List V} {ds : List D} (r : Reps K F xs ds) (h : atI ds n = some d) : ∃ v, L2.atI xs n = some v ∧ Rep K F v d := by
  unfold L2.atI at h ⊢
  rw [r.len]
  cases e : ixN ds.length n with
  | none => rw [e] at h; cases h
  | some j =>
    rw [e] at h
    obtain ⟨v, h1, h2⟩ := r.get (i := j) h
    exact ⟨v, h1, h2⟩
theorem at_nat {α : Type} {xs : List α} {j : Nat} {v : α} (e : n = (j : Int)) (h : xs[j]? = some v) : atI xs n = some v := by rw [e]; exact atI_nat h
theorem ev_ixL (ha : Ev X B a ρ pi (.list ds) pj) (hb : Ev X B b ρ pj (.int n) pk) (h : atI ds n = some d) (hs : PlainIx b := by exact fun _ _ => rfl) : Ev X B (.Subscript a b pos) ρ pi d pk :=
  .of (pe_ix ix_list pe_W pe_W hs) fun σ F H hh Q q => two hh ha hb fun F' H' x y st r1 r2 => by
    cases r1 with
    | lst h1 h2 =>
      cases r2
      obtain ⟨v, e1, e2⟩ := h2.atI h
      exact ⟨_, _, _, v, rfl, rfl, SqL.of (st.g1.sub _ _ h1), e1, q v F' H' st e2⟩
theorem ev_ixT (ha : Ev X B a ρ pi (.tuple ds) pj) (hb : Ev X B b ρ pj (.int n) pk) (h : atI ds n = some d) (hs : PlainIx b := by exact fun _ _ => rfl) : Ev X B (.Subscript a b pos) ρ pi d pk :=
  .of (pe_ix ix_tup pe_W pe_W hs) fun σ F H hh Q q => two hh ha hb fun F' H' x y st r1 r2 => by
    cases r1 with
    | tup h1 h2 =>
      cases r2
      obtain ⟨v, e1, e2⟩ := h2.atI h
      exact ⟨_, _, _, v, rfl, rfl, SqT.of (st.g1.sub _ _ h1), e1, q v F' H' st e2⟩
/-- of an owned list -/
theorem ev_ixO (fr : Fr X sc N Vs L G k) (l : Look N ρ i x (.own ds)) (hx : x ∈ Vs) (hb : Ev X B b ρ pi (.int n) pj) (h : atI ds n = some d) (hs : PlainIx b := by exact fun _ _ => rfl) : Ev X B (.Subscript (.Name x pos') b pos) ρ pi d pj :=
  .of (pe_ix ix_list (fr.pe l.n hx) pe_W hs) fun σ F H hh Q q => by
    obtain ⟨o, e1, m, xs, rfl, hB, hf, hH, r⟩ := hh.at_ i _ l.r
    refine ⟨_, e1, hb.run σ F H hh _ fun y F1 H1 s1 r1 => ?_⟩
    cases r1
    obtain ⟨v, q1, q2⟩ := (r.up s1.ext).atI h
    exact ⟨_, _, _, v, rfl, rfl, SqL.of (s1.fr _ _ hH (hh.notP hB)), q1, q v F1 H1 s1 q2⟩
def cutD {α : Type} (xs : List α) (lo hi : Option Int) : List α := (xs.drop (HT.sIx xs.length 0 lo)).take (HT.sIx xs.length xs.length hi - HT.sIx xs.length 0 lo)
theorem Reps.cut {K : Frag} {F : Hp} {xs : List V} {ds : List D} (r : Reps K F xs ds) (lo hi : Option Int) : Reps K F (cutV xs lo hi) (cutD ds lo hi) := by
  unfold cutV cutD
  rw [r.len]
  exact (r.drop _).take _
theorem cutD_all {α : Type} {xs : List α} {lo hi : Option Int} (h : HT.sIx xs.length 0 lo = 0 ∧ HT.sIx xs.length xs.length hi = xs.length) : cutD xs lo hi = xs := by
  unfold cutD
  rw [h.1, h.2]
  simp
theorem cutD_to {α : Type} (xs : List α) {m : Int} {j : Nat} (e : m = (j : Int)) : cutD xs none (some m) = xs.take j := by
  unfold cutD
  rw [e, HT.sIx_none, HT.sIx_nat]
  simp
theorem cutD_from {α : Type} (xs : List α) {m : Int} {j : Nat} (e : m = (j : Int)) : cutD xs (some m) none = xs.drop j := by
  unfold cutD
  rw [e, HT.sIx_none, HT.sIx_nat]
  by_cases h : j ≤ xs.length
  · rw [Nat.min_eq_left h, List.take_of_length_le (by simp)]
  · have h' : xs.length ≤ j := by omega
    rw [Nat.min_eq_right h', List.drop_eq_nil_of_le h', List.drop_length]
    simp
theorem cut_new {σ : L2.St} {F H F1 H1 : Hp} {x : V} {lo hi : Option Int} (st : Step F H pi F1 H1 pj) (r : Rep X.K F1 x (.tuple ds)) {Q : VK} (q : ∀ v F' H', Step F H pi F' H' pj → Rep X.K F' v (.tuple (cutD ds lo hi)) → Q v H') : rSlA X.K x lo hi H1 Q := by
  cases r with
  | tup h1 h2 =>
    refine ⟨_, _, rfl, SqT.of (st.g1.sub _ _ h1), fun hw => ?_, fun _ p hp => ?_⟩
    · rw [h2.len] at hw
      refine q _ F1 H1 st ?_
      rw [cutD_all hw]
      exact .tup h1 h2
    · exact q _ _ _ (st.trans (Step.alloc st.g1 hp)) (.tup upd_same ((h2.cut lo hi).up (same_upd (st.g1.fnone hp))))
theorem ev_slTo {p2 : Pos} (ha : Ev X B a ρ pi (.tuple ds) pj) (hb : Ev X B b ρ pj (.int n) pk) : Ev X B (.Subscript a (.Slice none (some b) none p2) pos) ρ pi (.tuple (cutD ds none (some n))) pk :=
  .of (pe_slice sl_tupA pe_W po_none (po_some pe_W)) fun σ F H h Q q => ha.run σ F H h _ fun x F1 H1 s1 r1 => hb.run σ F1 H1 (h.step s1) _ fun y F2 H2 s2 r2 => by
    cases r2
    exact ⟨n, rfl, cut_new (σ := σ) (s1.trans s2) (r1.up s2.ext) q⟩
theorem ev_slFrom {p2 : Pos} (ha : Ev X B a ρ pi (.tuple ds) pj) (hb : Ev X B b ρ pj (.int n) pk) : Ev X B (.Subscript a (.Slice (some b) none none p2) pos) ρ pi (.tuple (cutD ds (some n) none)) pk :=
  .of (pe_slice sl_tupA pe_W (po_some pe_W) po_none) fun σ F H h Q q => ha.run σ F H h _ fun x F1 H1 s1 r1 => hb.run σ F1 H1 (h.step s1) _ fun y F2 H2 s2 r2 => by
    cases r2
    exact ⟨n, rfl, cut_new (σ := σ) (s1.trans s2) (r1.up s2.ext) q⟩
theorem evo_slTo {p2 : Pos} (ha : Ev X B a ρ pi (.list ds) pj) (hb : Ev X B b ρ pj (.int n) pk) : EvO X B (.Subscript a (.Slice none (some b) none p2) pos) ρ pi (cutD ds none (some n)) pk :=
  .mk fun σ F H h Q q pins s I => (pe_slice sl_list pe_W po_none (po_some pe_W)).run pins s σ H Q I (ha.run σ F H h _ fun x F1 H1 s1 r1 => hb.run σ F1 H1 (h.step s1) _ fun y F2 H2 s2 r2 => by
    cases r2
    refine ⟨n, rfl, ?_⟩
    have st := s1.trans s2
    cases r1.up s2.ext with
    | lst h1 h2 =>
      refine ⟨_, _, rfl, SqL.of (st.g1.sub _ _ h1), fun p hp => ?_⟩
      exact q _ _ F2 _ (st.trans (Step.allocO st.g1 hp)) (by
        cases z : H p with
        | none => rfl
        | some u => exact absurd hp (st.g0.there st (by rw [z]; exact fun z => nomatch z))) (st.g1.fnone hp) upd_same (h2.cut none (some n)))

/-! ### arguments, displays -/
theorem nostar_nil : NoStar [] := fun _ => rfl
theorem nostar_cons (h : NoStar es) (hs : ∀ r env, starEach (e :: r) env = (false, eval e env) :: starEach r env := by intro _ _; rfl) : NoStar (e :: es) := fun env => by
  rw [hs, h env]
  rfl
theorem NoStar.any {l : List Expr} (h : NoStar l) (env : Env) : (backTo pos (starEach l env)).any (·.1) = false := by
  rw [h env]
  cases l with
  | nil => rfl
  | cons a r => simp [backTo]
theorem eva_nil : EvA X B [] ρ pi [] pi := ⟨nostar_nil, fun σ F H h Q q pos pins s I => pa_nil.run pos pins s σ H Q I (q [] F H (Step.refl h.good) .nil)⟩
theorem eva_cons (he : Ev X B e ρ pi d pj) (hr : EvA X B es ρ pj ds pk) (hs : ∀ r env, starEach (e :: r) env = (false, eval e env) :: starEach r env := by intro _ _; rfl) : EvA X B (e :: es) ρ pi (d :: ds) pk :=
  ⟨nostar_cons hr.1 hs, fun σ F H h Q q pos pins s I => (pa_cons pe_W pa_W (hs es X.env)).run pos pins s σ H Q I
    (he.run σ F H h _ fun x F1 H1 s1 r1 => hr.run σ F1 H1 (h.step s1) _ fun xs F2 H2 s2 r2 => q (x :: xs) F2 H2 (s1.trans s2) (.cons (r1.up s2.ext) r2))⟩
theorem ev_tup {x1 : Nat} (h : EvA X B es ρ pi ds pj) (hz : ds.length ≤ 100000) : Ev X B (.Tuple es x1 pos) ρ pi (.tuple ds) pj :=
  .of (pe_tup pa_W) fun σ F H hh Q q => h.run σ F H hh _ fun xs F1 H1 s1 r1 => ⟨Nat.le_trans (by rw [r1.len]; exact hz) (by decide), fun p hp =>
    q _ _ _ (s1.trans (Step.alloc s1.g1 hp)) (.tup upd_same (r1.up (same_upd (s1.g1.fnone hp))))⟩
theorem fresh_of {F H F1 H1 : Hp} {p : Addr} (st : Step F H pi F1 H1 pj) (hp : H1 p = none) : H p = none := by
  cases z : H p with
  | none => rfl
  | some u => exact absurd hp (st.g0.there st (by rw [z]; exact fun z => nomatch z))
theorem evo_lst (h : EvA X B es ρ pi ds pj) (hz : ds.length ≤ 100000) : EvO X B (.List es pos) ρ pi ds pj :=
  .mk fun σ F H hh Q q pins s I => (pe_lst pa_W).run pins s σ H Q I (h.run σ F H hh _ fun xs F1 H1 s1 r1 => ⟨Nat.le_trans (by rw [r1.len]; exact hz) (by decide), fun p hp =>
    q p xs F1 _ (s1.trans (Step.allocO s1.g1 hp)) (fresh_of s1 hp) (s1.g1.fnone hp) upd_same r1⟩)

/-! ### sequences: +, * -/
theorem opd_catT {K : Frag} {es : List D} (hz : ds.length + es.length ≤ 100000) : OpD K (rCatA K) (.tuple ds) (.tuple es) (.tuple (ds ++ es)) := fun F H pi x y g r1 r2 Q q => by
  cases r1 with
  | @tup a1 xs _ h1 h2 =>
    cases r2 with
    | @tup a2 ys _ h3 h4 =>
      refine ⟨a1, a2, xs, ys, rfl, rfl, SqT.of (g.sub _ _ h1), SqT.of (g.sub _ _ h3), Nat.le_trans (by rw [h2.len, h4.len]; exact hz) (by decide), fun e => ?_, fun e e' => ?_, fun _ _ p hp => ?_⟩
      · subst e
        cases h2
        exact q _ F H (Step.refl g) (.tup h3 h4)
      · subst e'
        cases h4
        refine q _ F H (Step.refl g) ?_
        rw [List.append_nil]
        exact .tup h1 h2
      · exact q _ _ _ (Step.alloc g hp) (.tup upd_same ((h2.append h4).up (same_upd (g.fnone hp))))
theorem ev_catT {es' : List D} (ha : Ev X B a ρ pi (.tuple ds) pj) (hb : Ev X B b ρ pj (.tuple es') pk) (hz : ds.length + es'.length ≤ 100000) : Ev X B (.BinOp a .Add b pos) ρ pi (.tuple (ds ++ es')) pk := ev_op op_catA ha hb (opd_catT hz)
theorem opo_catL {K : Frag} {es : List D} (hz : ds.length + es.length ≤ 100000) : OpO K rCat (.list ds) (.list es) (ds ++ es) := fun F H pi x y g r1 r2 Q q => by
  cases r1 with
  | @lst a1 xs _ h1 h2 =>
    cases r2 with
    | @lst a2 ys _ h3 h4 =>
      exact ⟨a1, a2, xs, ys, rfl, rfl, g.sub _ _ h1, g.sub _ _ h3, Nat.le_trans (by rw [h2.len, h4.len]; exact hz) (by decide), fun p hp => q p _ F _ (Step.allocO g hp) hp (g.fnone hp) upd_same (h2.append h4)⟩
theorem evo_catL {es' : List D} (ha : Ev X B a ρ pi (.list ds) pj) (hb : Ev X B b ρ pj (.list es') pk) (hz : ds.length + es'.length ≤ 100000) : EvO X B (.BinOp a .Add b pos) ρ pi (ds ++ es') pk := evo_op op_cat ha hb (opo_catL hz)
theorem opo_rep {K : Frag} (h0 : -1000 ≤ n) (h1 : n ≤ 1000) (hz : ds.length ≤ 1000) : OpO K rRep (.list ds) (.int n) (List.replicate n.toNat ds).flatten := fun F H pi x y g r1 r2 Q q => by
  cases r1 with
  | @lst a1 xs _ h1' h2 =>
    cases r2
    refine ⟨a1, n, xs, rfl, rfl, g.sub _ _ h1', by omega, by omega, ?_, fun p hp => q p _ F _ (Step.allocO g hp) hp (g.fnone hp) upd_same (h2.rep _)⟩
    rw [h2.len, sizeLine_eq]
    have : ds.length * n.toNat ≤ 1000 * 1000 := Nat.mul_le_mul hz (by omega)
    omega
theorem rep1 {α : Type} (m : Nat) (x : α) : (List.replicate m [x]).flatten = List.replicate m x := by
  induction m with
  | zero => rfl
  | succ m ih => rw [List.replicate_succ, List.flatten_cons, ih, List.replicate_succ]; rfl
/-- [x] * n -/
theorem evo_rep1 (ha : Ev X B a ρ pi (.list [d]) pj) (hb : Ev X B b ρ pj (.int n) pk) (h0 : -1000 ≤ n) (h1 : n ≤ 1000) : EvO X B (.BinOp a .Mult b pos) ρ pi (List.replicate n.toNat d) pk := by
  have := evo_op (pos := pos) op_rep ha hb (opo_rep (K := X.K) h0 h1 (by simp))
  rw [rep1] at this
  exact this
end
end Fs
-- FsD
/-! Rules: calls, built-ins, statements, loops, comprehensions. -/
namespace Fs
open PySem PySem.Spec PyProof.Rows L2

/-- the built-in names that nobody has stored -/
structure Bl (mg : Str → Option Value) : Prop where
  len : mg "len" = none
  range : mg "range" = none
  tuple : mg "tuple" = none
  list : mg "list" = none
  int : mg "int" = none
  bool : mg "bool" = none
  isinstance : mg "isinstance" = none
  max : mg "max" = none
  min : mg "min" = none
  enumerate : mg "enumerate" = none
  zip : mg "zip" = none
  any : mg "any" = none
  sorted : mg "sorted" = none

section
variable {X : Cx} {sc : Scope} {B : Base} {N Vs L G : List Str} {k : Nat} {ρ ρ' : List Slot} {pi pj pk pl : PSt} {pos pos' apos cpos p1 p2 : Pos} {e a b c : Expr} {es : List Expr} {d da db dc : D} {ds : List D} {x : Str} {i : Nat} {m n : Int}

/-! ### calls of defs -/
theorem ev_call {ps : List Str} {g : List D → D → Prop} (fr : Fr X sc N Vs L G k) (hc : Has X k x ps g) (hG : x ∈ G) (ha : EvA X B (e :: es) ρ pi ds pj) (hg : g ds d) : Ev X B (.Call (.Name x p1) (e :: es) [] pos) ρ pi d pj := by
  obtain ⟨f, fd, F, hm, hk, hb⟩ := hc
  have hs : ∀ env, starEach (e :: es) env = (false, eval e env) :: starEach es env := fun env => by
    have h1 := ha.1 env
    rw [h1, List.map_cons]
    congr 1
    cases es with
    | nil => rfl
    | cons a r =>
      have h2 : starEach (e :: a :: r) env = _ := h1
      cases e <;> first
        | (have h3 := List.cons.inj h2; exact h3.2.symm)
        | (exact absurd (congrArg Prod.fst (List.cons.inj h2).1) (by simp))
  have hr : NoStar es := fun env => by
    have h1 := ha.1 env
    rw [hs env, List.map_cons] at h1
    exact (List.cons.inj h1).2
  refine .of (pe_call F fr.room (fr.glo x hG).1 hm hk hb .nil pass0 pa_W (fr.glo x hG).2.1 (hs _) (hr.any _)) fun σ F' H h Q q => ha.run σ F' H h _ fun vs F1 H1 s1 r1 => ?_
  rw [List.append_nil]
  exact ⟨F1, ds, d, s1.g1.sub, r1, hg, fun v F2 H2 s2 r2 => q v F2 H2 (s1.trans (Step.pure s1.g1 s2)) r2⟩

/-! ### built-ins -/
def CallD (K : Frag) (r : List V → Hp → VK → Prop) (ds : List D) (d : D) : Prop := ∀ F H pi vs, Good F H pi → Reps K F vs ds → ∀ Q : VK, (∀ v F' H', Step F H pi F' H' pi → Rep K F' v d → Q v H') → r vs H Q
def CallO (K : Frag) (r : List V → Hp → VK → Prop) (ds es : List D) : Prop := ∀ F H pi vs, Good F H pi → Reps K F vs ds → ∀ Q : VK, (∀ l xs F' H', Step F H pi F' H' pi → H l = none → F' l = none → H' l = some (.lst xs) → Reps K F' xs es → Q (.ref l) H') → r vs H Q
theorem ns_head {es : List Expr} (h : NoStar (e :: es)) : (∀ env, starEach (e :: es) env = (false, eval e env) :: starEach es env) ∧ NoStar es := by
  have hs : ∀ env, starEach (e :: es) env = (false, eval e env) :: starEach es env := fun env => by
    have h1 := h env
    rw [h1, List.map_cons]
    congr 1
    cases es with
    | nil => rfl
    | cons a r =>
      have h2 : starEach (e :: a :: r) env = _ := h1
      cases e <;> first
        | (have h3 := List.cons.inj h2; exact h3.2.symm)
        | (exact absurd (congrArg Prod.fst (List.cons.inj h2).1) (by simp))
  exact ⟨hs, fun env => by
    have h1 := h env
    rw [hs env, List.map_cons] at h1
    exact (List.cons.inj h1).2⟩
theorem ev_callB {id : String} {r : List V → Hp → VK → Prop} (fr : Fr X sc N Vs L G k) (hc : CallR X (.builtin id) r) (hG : x ∈ G) (hm : X.mg x = none) (hv : bootBuiltins x = some (.builtin id)) (ha : EvA X B (e :: es) ρ pi ds pj) (hr : CallD X.K r ds d) :
    Ev X B (.Call (.Name x p1) (e :: es) [] pos) ρ pi d pj :=
  .of (pe_callB hc (fr.glo x hG).1 hm hv pa_W (fr.glo x hG).2.2 (fr.glo x hG).2.1 ((ns_head ha.1).1 _) ((ns_head ha.1).2.any _)) fun σ F H h Q q => ha.run σ F H h _ fun vs F1 H1 s1 r1 =>
    hr F1 H1 pj vs s1.g1 r1 Q fun v F2 H2 s2 r2 => q v F2 H2 (s1.trans s2) r2
theorem ev_callT {id : String} {r : List V → Hp → VK → Prop} (fr : Fr X sc N Vs L G k) (hc : CallR X (.type id) r) (hG : x ∈ G) (hm : X.mg x = none) (hv : bootBuiltins x = some (.type id)) (ha : EvA X B (e :: es) ρ pi ds pj) (hr : CallD X.K r ds d) :
    Ev X B (.Call (.Name x p1) (e :: es) [] pos) ρ pi d pj :=
  .of (pe_callTy hc (fr.glo x hG).1 hm hv pa_W (fr.glo x hG).2.2 (fr.glo x hG).2.1 ((ns_head ha.1).1 _) ((ns_head ha.1).2.any _)) fun σ F H h Q q => ha.run σ F H h _ fun vs F1 H1 s1 r1 =>
    hr F1 H1 pj vs s1.g1 r1 Q fun v F2 H2 s2 r2 => q v F2 H2 (s1.trans s2) r2
theorem evo_callT {id : String} {r : List V → Hp → VK → Prop} {es' : List D} (fr : Fr X sc N Vs L G k) (hc : CallR X (.type id) r) (hG : x ∈ G) (hm : X.mg x = none) (hv : bootBuiltins x = some (.type id)) (ha : EvA X B (e :: es) ρ pi ds pj) (hr : CallO X.K r ds es') :
    EvO X B (.Call (.Name x p1) (e :: es) [] pos) ρ pi es' pj :=
  .mk fun σ F H h Q q pins s I => (pe_callTy hc (fr.glo x hG).1 hm hv pa_W (fr.glo x hG).2.2 (fr.glo x hG).2.1 ((ns_head ha.1).1 _) ((ns_head ha.1).2.any _)).run pins s σ H Q I (ha.run σ F H h _ fun vs F1 H1 s1 r1 =>
    hr F1 H1 pj vs s1.g1 r1 Q fun l xs F2 H2 s2 n f e r2 => q l xs F2 H2 (s1.trans s2) (fresh_of s1 n) f e r2)
/-- how many items -/
def lenD : D → Nat
  | .list ds => ds.length
  | .tuple ds => ds.length
  | _ => 0
theorem cd_lenL {K : Frag} : CallD K (fun xs H Q => ∃ p ys, xs = [.ref p] ∧ (SqL K H p ys ∨ SqT K H p ys) ∧ Q (.int ys.length) H) [.list ds] (.int ds.length) := fun F H pi vs g r Q q => by
  cases r with
  | cons r1 r2 =>
    cases r2
    cases r1 with
    | lst h1 h2 =>
      refine ⟨_, _, rfl, .inl (SqL.of (g.sub _ _ h1)), ?_⟩
      rw [h2.len]
      exact q _ F H (Step.refl g) (.int _)
theorem cd_lenT {K : Frag} : CallD K (fun xs H Q => ∃ p ys, xs = [.ref p] ∧ (SqL K H p ys ∨ SqT K H p ys) ∧ Q (.int ys.length) H) [.tuple ds] (.int ds.length) := fun F H pi vs g r Q q => by
  cases r with
  | cons r1 r2 =>
    cases r2
    cases r1 with
    | tup h1 h2 =>
      refine ⟨_, _, rfl, .inr (SqT.of (g.sub _ _ h1)), ?_⟩
      rw [h2.len]
      exact q _ F H (Step.refl g) (.int _)
theorem ev_lenL (fr : Fr X sc N Vs L G k) (bl : Bl X.mg) (hG : ("len" : Str) ∈ G) (ha : Ev X B a ρ pi (.list ds) pj) (hs : ∀ r env, starEach (a :: r) env = (false, eval a env) :: starEach r env := by intro _ _; rfl) : Ev X B (.Call (.Name "len" p1) [a] [] pos) ρ pi (.int ds.length) pj :=
  ev_callB fr call_len_seq hG bl.len PySem.boot_len (eva_cons ha eva_nil hs) cd_lenL
theorem ev_lenT (fr : Fr X sc N Vs L G k) (bl : Bl X.mg) (hG : ("len" : Str) ∈ G) (ha : Ev X B a ρ pi (.tuple ds) pj) (hs : ∀ r env, starEach (a :: r) env = (false, eval a env) :: starEach r env := by intro _ _; rfl) : Ev X B (.Call (.Name "len" p1) [a] [] pos) ρ pi (.int ds.length) pj :=
  ev_callB fr call_len_seq hG bl.len PySem.boot_len (eva_cons ha eva_nil hs) cd_lenT
theorem boot_int' : bootBuiltins "int" = some (.type "int") := by decide +kernel
theorem boot_tuple' : bootBuiltins "tuple" = some (.type "tuple") := by decide +kernel
theorem boot_list' : bootBuiltins "list" = some (.type "list") := by decide +kernel
theorem boot_bool' : bootBuiltins "bool" = some (.type "bool") := by decide +kernel
theorem boot_isi' : bootBuiltins "isinstance" = some (.builtin "isinstance") := by decide +kernel
theorem boot_any' : bootBuiltins "any" = some (.builtin "any") := by decide +kernel
theorem boot_max' : bootBuiltins "max" = some (.builtin "max") := by decide +kernel
theorem boot_min' : bootBuiltins "min" = some (.builtin "min") := by decide +kernel
theorem boot_sorted' : bootBuiltins "sorted" = some (.builtin "sorted") := by decide +kernel
theorem ev_int1 (fr : Fr X sc N Vs L G k) (bl : Bl X.mg) (hG : ("int" : Str) ∈ G) (ha : Ev X B a ρ pi (.int n) pj) (hs : ∀ r env, starEach (a :: r) env = (false, eval a env) :: starEach r env := by intro _ _; rfl) : Ev X B (.Call (.Name "int" p1) [a] [] pos) ρ pi (.int n) pj :=
  ev_callT fr call_int1 hG bl.int boot_int' (eva_cons ha eva_nil hs) fun F H pi vs g r Q q => by
    cases r with
    | cons r1 r2 =>
      cases r2
      cases r1
      exact .inl ⟨n, rfl, q _ F H (Step.refl g) (.int _)⟩
theorem ev_tupL (fr : Fr X sc N Vs L G k) (bl : Bl X.mg) (hG : ("tuple" : Str) ∈ G) (ha : Ev X B a ρ pi (.list ds) pj) (hs : ∀ r env, starEach (a :: r) env = (false, eval a env) :: starEach r env := by intro _ _; rfl) : Ev X B (.Call (.Name "tuple" p1) [a] [] pos) ρ pi (.tuple ds) pj :=
  ev_callT fr call_tuple_of hG bl.tuple boot_tuple' (eva_cons ha eva_nil hs) fun F H pi vs g r Q q => by
    cases r with
    | cons r1 r2 =>
      cases r2
      cases r1 with
      | lst h1 h2 => exact ⟨_, _, rfl, .inl ⟨SqL.of (g.sub _ _ h1), fun p hp => q _ _ _ (Step.alloc g hp) (.tup upd_same (h2.up (same_upd (g.fnone hp))))⟩⟩
theorem evo_listT (fr : Fr X sc N Vs L G k) (bl : Bl X.mg) (hG : ("list" : Str) ∈ G) (ha : Ev X B a ρ pi (.tuple ds) pj) (hs : ∀ r env, starEach (a :: r) env = (false, eval a env) :: starEach r env := by intro _ _; rfl) : EvO X B (.Call (.Name "list" p1) [a] [] pos) ρ pi ds pj :=
  evo_callT fr call_list_of hG bl.list boot_list' (eva_cons ha eva_nil hs) fun F H pi vs g r Q q => by
    cases r with
    | cons r1 r2 =>
      cases r2
      cases r1 with
      | tup h1 h2 => exact ⟨_, _, rfl, .inr (SqT.of (g.sub _ _ h1)), fun p hp => q p _ F _ (Step.allocO g hp) hp (g.fnone hp) upd_same h2⟩
theorem evo_listL (fr : Fr X sc N Vs L G k) (bl : Bl X.mg) (hG : ("list" : Str) ∈ G) (ha : Ev X B a ρ pi (.list ds) pj) (hs : ∀ r env, starEach (a :: r) env = (false, eval a env) :: starEach r env := by intro _ _; rfl) : EvO X B (.Call (.Name "list" p1) [a] [] pos) ρ pi ds pj :=
  evo_callT fr call_list_of hG bl.list boot_list' (eva_cons ha eva_nil hs) fun F H pi vs g r Q q => by
    cases r with
    | cons r1 r2 =>
      cases r2
      cases r1 with
      | lst h1 h2 => exact ⟨_, _, rfl, .inl (SqL.of (g.sub _ _ h1)), fun p hp => q p _ F _ (Step.allocO g hp) hp (g.fnone hp) upd_same h2⟩
theorem ev_max2 (fr : Fr X sc N Vs L G k) (bl : Bl X.mg) (hG : ("max" : Str) ∈ G) (ha : EvA X B [a, b] ρ pi [.int m, .int n] pj) : Ev X B (.Call (.Name "max" p1) [a, b] [] pos) ρ pi (.int (if n > m then n else m)) pj :=
  ev_callB fr (call_max2 fr.calm) hG bl.max boot_max' ha fun F H pi vs g r Q q => by
    cases r with
    | cons r1 r2 =>
      cases r2 with
      | cons r2 r3 =>
        cases r3
        cases r1
        cases r2
        exact ⟨m, n, rfl, q _ F H (Step.refl g) (.int _)⟩
theorem ev_min2 (fr : Fr X sc N Vs L G k) (bl : Bl X.mg) (hG : ("min" : Str) ∈ G) (ha : EvA X B [a, b] ρ pi [.int m, .int n] pj) : Ev X B (.Call (.Name "min" p1) [a, b] [] pos) ρ pi (.int (if n < m then n else m)) pj :=
  ev_callB fr (call_min2 fr.calm) hG bl.min boot_min' ha fun F H pi vs g r Q q => by
    cases r with
    | cons r1 r2 =>
      cases r2 with
      | cons r2 r3 =>
        cases r3
        cases r1
        cases r2
        exact ⟨m, n, rfl, q _ F H (Step.refl g) (.int _)⟩
/-- the greatest, the least of a list of ints -/
theorem ev_maxL {ns : List Int} (fr : Fr X sc N Vs L G k) (bl : Bl X.mg) (hG : ("max" : Str) ∈ G) (ha : Ev X B a ρ pi (.list (ns.map .int)) pj) (h0 : 0 < ns.length) (hm : m ∈ ns) (hle : ∀ y ∈ ns, y ≤ m) (hs : ∀ r env, starEach (a :: r) env = (false, eval a env) :: starEach r env := by intro _ _; rfl) :
    Ev X B (.Call (.Name "max" p1) [a] [] pos) ρ pi (.int m) pj :=
  ev_callB fr (cr_max fr.calm) hG bl.max boot_max' (eva_cons ha eva_nil hs) fun F H pi vs g r Q q => by
    cases r with
    | cons r1 r2 =>
      cases r2
      cases r1 with
      | lst h1 h2 =>
        have e := h2.ints
        subst e
        refine ⟨_, ns, rfl, SqL.of (g.sub _ _ h1), h0, fun z hz hz' => ?_⟩
        have : z = m := Int.le_antisymm (hle z hz) (hz' m hm)
        subst this
        exact q _ F H (Step.refl g) (.int _)
theorem ev_minL {ns : List Int} (fr : Fr X sc N Vs L G k) (bl : Bl X.mg) (hG : ("min" : Str) ∈ G) (ha : Ev X B a ρ pi (.list (ns.map .int)) pj) (h0 : 0 < ns.length) (hm : m ∈ ns) (hle : ∀ y ∈ ns, m ≤ y) (hs : ∀ r env, starEach (a :: r) env = (false, eval a env) :: starEach r env := by intro _ _; rfl) :
    Ev X B (.Call (.Name "min" p1) [a] [] pos) ρ pi (.int m) pj :=
  ev_callB fr (cr_min fr.calm) hG bl.min boot_min' (eva_cons ha eva_nil hs) fun F H pi vs g r Q q => by
    cases r with
    | cons r1 r2 =>
      cases r2
      cases r1 with
      | lst h1 h2 =>
        have e := h2.ints
        subst e
        refine ⟨_, ns, rfl, SqL.of (g.sub _ _ h1), h0, fun z hz hz' => ?_⟩
        have : z = m := Int.le_antisymm (hz' m hm) (hle z hz)
        subst this
        exact q _ F H (Step.refl g) (.int _)
theorem ev_any {bs : List Bool} (fr : Fr X sc N Vs L G k) (bl : Bl X.mg) (hG : ("any" : Str) ∈ G) (ha : Ev X B a ρ pi (.list (bs.map .bool)) pj) (hs : ∀ r env, starEach (a :: r) env = (false, eval a env) :: starEach r env := by intro _ _; rfl) :
    Ev X B (.Call (.Name "any" p1) [a] [] pos) ρ pi (.bool (bs.any id)) pj :=
  ev_callB fr (cr_any fr.calm) hG bl.any boot_any' (eva_cons ha eva_nil hs) fun F H pi vs g r Q q => by
    cases r with
    | cons r1 r2 =>
      cases r2
      cases r1 with
      | lst h1 h2 =>
        have e := h2.bls
        subst e
        exact ⟨_, bs, rfl, SqL.of (g.sub _ _ h1), q _ F H (Step.refl g) (.bl _)⟩
/-! isinstance -/
def tyD : D → String
  | .none => "NoneType"
  | .bool _ => "bool"
  | .int _ => "int"
  | .str _ => "str"
  | .list _ => "list"
  | .tuple _ => "tuple"
  | .dict _ => "dict"
theorem tyOf_rep {K : Frag} {F H : Hp} {v : V} (s : Same F H) (h : Rep K F v d) : TyX K H v (.type (tyD d)) := by
  cases h with
  | non => exact .base .non
  | bl b => exact .base (.bl b)
  | int i => exact .base (.int i)
  | str z => exact .base (.str z)
  | lst h1 _ => exact .base (.lst (s _ _ h1))
  | tup h1 _ => exact .base (.tup (s _ _ h1))
  | dic h1 _ => exact .base (.dK (s _ _ h1))
theorem ev_isi {T : String} {y : Str} {r : Bool} (fr : Fr X sc N Vs L G k) (bl : Bl X.mg) (hG : ("isinstance" : Str) ∈ G) (ha : Ev X B a ρ pi d pj) (hy : y ∈ G) (hm : X.mg y = none) (hv : bootBuiltins y = some (.type T)) (hk : kitB (tyD d) T = some r)
    (hs : ∀ r env, starEach (a :: r) env = (false, eval a env) :: starEach r env := by intro _ _; rfl) : Ev X B (.Call (.Name "isinstance" p1) [a, .Name y p2] [] pos) ρ pi (.bool r) pj :=
  .of (pe_callB call_isi (fr.glo _ hG).1 bl.isinstance boot_isi' (pa_cons pe_W (pa_cons (pe_bltn (v := V.ty T) (fr.glo y hy).1 hm hv rfl (fr.glo y hy).2.2 (fr.glo y hy).2.1) pa_nil) (hs _ _)) (fr.glo _ hG).2.2 (fr.glo _ hG).2.1 (hs _ _) rfl)
    fun σ F H h Q q => ha.run σ F H h _ fun v F1 H1 s1 r1 => ⟨v, _, _, _, r, rfl, .ty T, tyOf_rep s1.g1.sub r1, kit_ty hk, q _ F1 H1 s1 (.bl r)⟩
end
end Fs
-- FsE
/-! Rules: statements, loops, a def's promise by its body. -/
namespace Fs
open PySem PySem.Spec PyProof.Rows L2

section
variable {X : Cx} {sc : Scope} {B : Base} {N Vs L G : List Str} {k : Nat} {ρ ρ' : List Slot} {pi pj pk pl : PSt} {pos pos' apos cpos p1 p2 : Pos} {e a b c tg : Expr} {es : List Expr} {st : Stmt} {rest body orelse : List Stmt} {d da db dc : D} {ds : List D} {x : Str} {i : Nat} {m n : Int} {R : Rt}

theorem ends_mono {D D' : Ends} {sts : List Stmt} {σ : L2.St} {H : Hp} (h : WSs X sts D σ H) (h1 : ∀ σ H, D.nx σ H → D'.nx σ H) (h2 : ∀ v H, D.rt v H → D'.rt v H) (h3 : ∀ σ H, D.bk σ H → D'.bk σ H) (h4 : ∀ σ H, D.ct σ H → D'.ct σ H) : WSs X sts D' σ H := fun pins s I =>
  thn (h pins s I) fun f s' q => by
    cases f with
    | next => obtain ⟨σ', H', I', q⟩ := q; exact ⟨σ', H', I', h1 _ _ q⟩
    | brk => obtain ⟨σ', H', I', q⟩ := q; exact ⟨σ', H', I', h3 _ _ q⟩
    | cont => obtain ⟨σ', H', I', q⟩ := q; exact ⟨σ', H', I', h4 _ _ q⟩
    | ret u => obtain ⟨v, σ', H', I', r, q⟩ := q; exact ⟨v, σ', H', I', r, h2 _ _ q⟩
theorem Ex.cons {t : TS} (hst : L2.PS X st t) (h : ∀ σ F H F0, Same F0 F → Holds X.K B F H σ ρ pi → t { nx := fun σ' H' => WSs X rest (endsOf B X.K F0 R) σ' H', rt := (endsOf B X.K F0 R).rt, bk := (endsOf B X.K F0 R).bk, ct := (endsOf B X.K F0 R).ct } σ H) : Ex X B (st :: rest) ρ pi R :=
  .mk fun σ F H F0 s0 hh pins s I => (pss_cons hst pss_W).run pins s σ H _ I (h σ F H F0 s0 hh)
theorem ex_nil (h : R.nx ρ pi) : Ex X B [] ρ pi R := .mk fun σ F H F0 s0 hh pins s I => pss_nil.run pins s σ H _ I ⟨F, ρ, pi, s0, hh, h⟩
/-- weaker slots -/
theorem ex_wk {sts : List Stmt} (w : Wk ρ ρ') (h : Ex X B sts ρ' pi R) : Ex X B sts ρ pi R := .mk fun σ F H F0 s0 hh => by
  obtain ⟨F', e, h'⟩ := hh.weak w
  exact h.run σ F' H F0 (s0.trans e) h'
theorem Ex.mono {sts : List Stmt} {R' : Rt} (h : Ex X B sts ρ pi R) (h1 : ∀ r p, R.nx r p → R'.nx r p) (h2 : ∀ d p, R.rt d p → R'.rt d p) (h3 : ∀ r p, R.bk r p → R'.bk r p) (h4 : ∀ r p, R.ct r p → R'.ct r p) : Ex X B sts ρ pi R' :=
  .mk fun σ F H F0 s0 hh => ends_mono (h.run σ F H F0 s0 hh) (fun _ _ ⟨F, r, p, s, q, z⟩ => ⟨F, r, p, s, q, h1 _ _ z⟩) (fun _ _ ⟨F, d, p, q, w, z⟩ => ⟨F, d, p, q, w, h2 _ _ z⟩) (fun _ _ ⟨F, r, p, s, q, z⟩ => ⟨F, r, p, s, q, h3 _ _ z⟩) (fun _ _ ⟨F, r, p, s, q, z⟩ => ⟨F, r, p, s, q, h4 _ _ z⟩)
theorem ex_ret (h : Ev X B e ρ pi d pj) (hr : R.rt d pj) : Ex X B (.Return (some e) pos :: rest) ρ pi R :=
  .cons (ps_ret pe_W) fun σ F H F0 s0 hh => h.run σ F H hh _ fun v F' H' st r => ⟨F', d, pj, hh.st.trans st, r, hr⟩
theorem ex_pass (h : Ex X B rest ρ pi R) : Ex X B (.Pass pos :: rest) ρ pi R := .cons ps_pass fun σ F H F0 s0 hh => h.run σ F H F0 s0 hh
theorem ex_break (h : R.bk ρ pi) : Ex X B (.Break pos :: rest) ρ pi R := .cons ps_break fun σ F H F0 s0 hh => ⟨F, ρ, pi, s0, hh, h⟩
theorem ex_cont (h : R.ct ρ pi) : Ex X B (.Continue pos :: rest) ρ pi R := .cons ps_continue fun σ F H F0 s0 hh => ⟨F, ρ, pi, s0, hh, h⟩
/-- x = e, a frozen value -/
theorem ex_asg (fr : Fr X sc N Vs L G k) (h : Ev X B e ρ pi d pj) (s : Sto N ρ i x (.val d) ρ') (hL : x ∈ L) (hr : Ex X B rest ρ' pj R) (hs : ∀ env, swapsWith e (some (.Name x pos')) pos.line env = pure false := by intro _; rfl) :
    Ex X B (.Assign [.Name x pos'] e pos :: rest) ρ pi R :=
  .cons (ps_set (i := i) (by rw [fr.hN]; exact fr.nd) (by rw [fr.hN]; exact s.n) (fr.sto x hL).1 pe_W (hs _) (fr.sto x hL).2) fun σ F H F0 s0 hh => h.run σ F H hh _ fun v F' H' st r => by
    have := (hh.step st).setVal s.lt r
    rw [← s.r] at this
    exact hr.run _ F' H' F0 (s0.trans st.ext) this
/-- x = e, a new list, owned -/
theorem ex_asgO (fr : Fr X sc N Vs L G k) (h : EvO X B e ρ pi ds pj) (s : Sto N ρ i x (.own ds) ρ') (hL : x ∈ L) (hr : Ex X B rest ρ' pj R) (hs : ∀ env, swapsWith e (some (.Name x pos')) pos.line env = pure false := by intro _; rfl) :
    Ex X B (.Assign [.Name x pos'] e pos :: rest) ρ pi R :=
  .cons (ps_set (i := i) (by rw [fr.hN]; exact fr.nd) (by rw [fr.hN]; exact s.n) (fr.sto x hL).1 pe_W (hs _) (fr.sto x hL).2) fun σ F H F0 s0 hh => h.run σ F H hh _ fun l xs F' H' st n f e r => by
    have hB : B.H l = none := fresh_of hh.st n
    have := (hh.step st).set s.lt (v := .ref l) (s := .own ds) ⟨l, xs, rfl, hB, f, e, r⟩ fun _ a ea j t ej ot => by
      cases ea
      exact hh.fresh n ej ot
    rw [← s.r] at this
    exact hr.run _ F' H' F0 (s0.trans st.ext) this
/-- x = y, y an owned list: it is x's -/
theorem ex_move {y : Str} {j : Nat} {ρ2 : List Slot} (fr : Fr X sc N Vs L G k) (l : Look N ρ j y (.own ds)) (hy : y ∈ Vs) (s0 : Sto N ρ j y .non ρ2) (s : Sto N ρ2 i x (.own ds) ρ') (hL : x ∈ L) (hr : Ex X B rest ρ' pi R) : Ex X B (.Assign [.Name x pos'] (.Name y p1) pos :: rest) ρ pi R :=
  .cons (ps_set (i := i) (by rw [fr.hN]; exact fr.nd) (by rw [fr.hN]; exact s.n) (fr.sto x hL).1 (fr.pe l.n hy) (by rfl) (fr.sto x hL).2) fun σ F H F0 sF hh => by
    obtain ⟨o, e1, m, xs, rfl, hB, hf, hH, r⟩ := hh.at_ j _ l.r
    refine ⟨_, e1, ?_⟩
    have h1 := hh.drop j
    rw [← s0.r] at h1
    have := h1.set s.lt (v := .ref m) (s := .own ds) ⟨m, xs, rfl, hB, hf, hH, r⟩ fun _ a ea q t eq ot z => by
      cases ea
      by_cases hq : q = j
      · subst hq
        have : ρ2[q]? = some .non := by
          rw [s0.r]
          exact List.getElem?_set_self s0.lt
        rw [this] at eq
        cases eq
        exact ot
      · have : ρ[q]? = some t := by
          rw [s0.r, List.getElem?_set_ne (Ne.symm hq)] at eq
          exact eq
        exact hh.sep q j m _ _ hq this l.r ot trivial z e1
    rw [← s.r] at this
    exact hr.run _ F H F0 sF this
/-- if -/
theorem ex_if {p : Bool} (ht : EvT X B c ρ pi p pj) (h1 : p = true → Ex X B body ρ pj { R with nx := fun r q => Ex X B rest r q R }) (h2 : p = false → Ex X B orelse ρ pj { R with nx := fun r q => Ex X B rest r q R }) : Ex X B (.If c body orelse pos :: rest) ρ pi R :=
  .cons (ps_if pt_W pss_W pss_W) fun σ F H F0 s0 hh => ht.run σ F H hh _ fun F' H' st => by
    have go : ∀ {sts : List Stmt}, Ex X B sts ρ pj { R with nx := fun r q => Ex X B rest r q R } → WSs X sts { nx := fun σ' H' => WSs X rest (endsOf B X.K F0 R) σ' H', rt := (endsOf B X.K F0 R).rt, bk := (endsOf B X.K F0 R).bk, ct := (endsOf B X.K F0 R).ct } σ H' := fun hx =>
      ends_mono (hx.run σ F' H' F0 (s0.trans st.ext) (hh.step st)) (fun σ' H2 ⟨F2, r, q, sq, hq, z⟩ => z.run σ' F2 H2 F0 sq hq) (fun _ _ z => z) (fun _ _ z => z) (fun _ _ z => z)
    cases p with
    | true =>
      show WSs X body _ σ H'
      exact go (h1 rfl)
    | false =>
      show WSs X orelse _ σ H'
      exact go (h2 rfl)
theorem ex_ifN {p : Bool} (ht : EvT X B c ρ pi p pj) (h1 : p = true → Ex X B body ρ pj { R with nx := fun r q => Ex X B rest r q R }) (h2 : p = false → Ex X B rest ρ pj R) : Ex X B (.If c body [] pos :: rest) ρ pi R :=
  ex_if ht h1 fun e => ex_nil (h2 e)
/-- a test that is known: the body (a raise) isn't come to -/
theorem ex_skip (ht : EvT X B c ρ pi false pj) (h2 : Ex X B rest ρ pj R) : Ex X B (.If c body [] pos :: rest) ρ pi R := ex_ifN ht (fun z => nomatch z) fun _ => h2
/-- xs.append(e) -/
theorem ex_append (fr : Fr X sc N Vs L G k) (l : Look N ρ i x (.own ds)) (hx : x ∈ Vs) (h : Ev X B e ρ pi d pj) (s : Sto N ρ i x (.own (ds ++ [d])) ρ') (hz : ds.length < 100000) (hr : Ex X B rest ρ' pj R)
    (hs : ∀ r env, starEach (e :: r) env = (false, eval e env) :: starEach r env := by intro _ _; rfl) (hline : (apos.endLine == cpos.line) = true := by rfl) : Ex X B (.Expr (.Call (.Attribute (.Name x p1) "append" apos) [e] [] cpos) pos :: rest) ρ pi R :=
  .cons (ps_expr (pe_bm PySem.F.plainAttrs_list PySem.F.slot_list_append PySem.F.type_list_append mt_append (fr.pe l.n hx) (pa_cons pe_W pa_nil (hs _ _)) (by rfl) (by rw [hs]; rfl) hline (hs _ _) rfl) (by rfl)) fun σ F H F0 s0 hh => by
    obtain ⟨o, e1, m, xs, rfl, hB, hf, hH, r⟩ := hh.at_ i _ l.r
    refine ⟨_, e1, .inl ⟨rfl, _, SqL.of hH⟩, h.run σ F H hh _ fun v F1 H1 s1 r1 => ?_⟩
    have h1 := hh.step s1
    have hm : H1 m = some (.lst xs) := s1.fr _ _ hH (hh.notP hB)
    have f1 : F1 m = none := by
      rw [s1.new m (by rw [hH]; exact fun z => nomatch z)]
      exact hf
    refine ⟨m, xs, v, rfl, rfl, hm, Nat.lt_of_lt_of_le (by rw [r.len]; exact hz) (by decide), ?_⟩
    have := h1.mut (s' := .own (ds ++ [d])) (u := .lst (xs ++ [v])) l.r trivial e1 ⟨m, _, rfl, hB, f1, upd_same, (r.up s1.ext).append (.cons r1 .nil)⟩
    rw [← s.r] at this
    exact hr.run _ F1 _ F0 (s0.trans s1.ext) this
/-- xs.extend(e), e a new list -/
theorem ex_extend {es' : List D} (fr : Fr X sc N Vs L G k) (l : Look N ρ i x (.own ds)) (hx : x ∈ Vs) (h : Ev X B e ρ pi (.list es') pj) (s : Sto N ρ i x (.own (ds ++ es')) ρ') (hz : ds.length + es'.length < 100000) (hr : Ex X B rest ρ' pj R)
    (hs : ∀ r env, starEach (e :: r) env = (false, eval e env) :: starEach r env := by intro _ _; rfl) (hline : (apos.endLine == cpos.line) = true := by rfl) : Ex X B (.Expr (.Call (.Attribute (.Name x p1) "extend" apos) [e] [] cpos) pos :: rest) ρ pi R :=
  .cons (ps_expr (pe_bm PySem.F.plainAttrs_list PySem.F.slot_list_extend PySem.F.type_list_extend mt_extend (fr.pe l.n hx) (pa_cons pe_W pa_nil (hs _ _)) (by rfl) (by rw [hs]; rfl) hline (hs _ _) rfl) (by rfl)) fun σ F H F0 s0 hh => by
    obtain ⟨o, e1, m, xs, rfl, hB, hf, hH, r⟩ := hh.at_ i _ l.r
    refine ⟨_, e1, .inl ⟨rfl, _, SqL.of hH⟩, h.run σ F H hh _ fun v F1 H1 s1 r1 => ?_⟩
    have h1 := hh.step s1
    have hm : H1 m = some (.lst xs) := s1.fr _ _ hH (hh.notP hB)
    have f1 : F1 m = none := by
      rw [s1.new m (by rw [hH]; exact fun z => nomatch z)]
      exact hf
    cases r1 with
    | @lst b zs _ hb rb =>
      refine ⟨m, b, xs, zs, rfl, rfl, hm, s1.g1.sub _ _ hb, Nat.le_trans (by rw [r.len, rb.len]; exact Nat.le_of_lt hz) (by decide), ?_⟩
      have := h1.mut (s' := .own (ds ++ es')) (u := .lst (xs ++ zs)) l.r trivial e1 ⟨m, _, rfl, hB, f1, upd_same, (r.up s1.ext).append rb⟩
      rw [← s.r] at this
      exact hr.run _ F1 _ F0 (s0.trans s1.ext) this
/-- xs[i] = e, xs owned -/
theorem ex_setL {j : Nat} (fr : Fr X sc N Vs L G k) (l : Look N ρ i x (.own ds)) (hx : x ∈ Vs) (h : Ev X B e ρ pi d pj) (hb : Ev X B b ρ pj (.int n) pk) (hj : ixN ds.length n = some j) (s : Sto N ρ i x (.own (ds.set j d)) ρ') (hr : Ex X B rest ρ' pk R)
    (h1 : ∀ env, swapsWithSole [.Subscript (.Name x p1) b p2] e pos.line env = pure false := by intro _; rfl) (h2 : ∀ env, swappedStores [.Subscript (.Name x p1) b p2] e env = pure none := by intro _; rfl)
    (h3 : ∀ env, (assignEach [.Subscript (.Name x p1) b p2] env).map (·.2) = [assign (.Subscript (.Name x p1) b p2) env] := by intro _; rfl)
    (h4 : ∀ env v, assign (.Subscript (.Name x p1) b p2) env v = (do
      let ov ← holding [v] (eval (.Name x p1) env)
      let iv ← holding [v, ov] (eval b env)
      standAt p2
      holding [v, ov, iv] (setItem ov iv v)
      release [v, ov, iv] []) := by intro _ _; rfl) :
    Ex X B (.Assign [.Subscript (.Name x p1) b p2] e pos :: rest) ρ pi R :=
  .cons (ps_asg pe_W (pg_sub (fr.pe l.n hx) pe_W set_list (h4 _)) (h1 _) (h2 _) (h3 _)) fun σ F H F0 s0 hh => h.run σ F H hh _ fun v F1 H1 s1 r1 => by
    have hh1 := hh.step s1
    obtain ⟨o, e1, m, xs, rfl, hB, hf, hH, r⟩ := hh1.at_ i _ l.r
    refine ⟨_, e1, hb.run σ F1 H1 hh1 _ fun y F2 H2 s2 r2 => ?_⟩
    cases r2
    have hh2 := hh1.step s2
    have hm : H2 m = some (.lst xs) := s2.fr _ _ hH (hh1.notP hB)
    have f1 : F2 m = none := by
      rw [s2.new m (by rw [hH]; exact fun z => nomatch z)]
      exact hf
    refine ⟨m, xs, n, j, rfl, rfl, hm, by rw [r.len]; exact hj, ?_⟩
    have := hh2.mut (s' := .own (ds.set j d)) (u := .lst (xs.set j v)) l.r trivial e1 ⟨m, _, rfl, hB, f1, upd_same, (r.up s2.ext).set j (r1.up s2.ext)⟩
    rw [← s.r] at this
    exact hr.run _ F2 _ F0 ((s0.trans s1.ext).trans s2.ext) this

/-! ### targets -/
structure Asg (X : Cx) (B : Base) (tg : Expr) (d : D) (ρ ρ' : List Slot) (is : List Nat) : Prop where
  run : ∀ σ F H pi v, Holds X.K B F H σ ρ pi → Rep X.K F v d → ∀ Q : L2.St → Hp → Prop, (∀ σ', σ'.length = σ.length → (∀ j, j ∉ is → σ'[j]? = σ[j]?) → Holds X.K B F H σ' ρ' pi → Q σ' H) → WG X tg v σ H Q
structure AsgS (X : Cx) (B : Base) (tgs : List Expr) (ds : List D) (ρ ρ' : List Slot) (is : List Nat) : Prop where
  run : ∃ t : TGs, PGs X tgs t ∧ ∀ σ F H pi vs, Holds X.K B F H σ ρ pi → Reps X.K F vs ds → ∀ Q : L2.St → Hp → Prop, (∀ σ', σ'.length = σ.length → (∀ j, j ∉ is → σ'[j]? = σ[j]?) → Holds X.K B F H σ' ρ' pi → Q σ' H) → t vs σ H Q
theorem asg_name (fr : Fr X sc N Vs L G k) (s : Sto N ρ i x (.val d) ρ') (hL : x ∈ L) : Asg X B (.Name x pos) d ρ ρ' [i] := .mk fun σ F H pi v hh r Q q pins s' u I ru =>
  (pg_name (i := i) (by rw [fr.hN]; exact fr.nd) (by rw [fr.hN]; exact s.n) (fr.sto x hL).1 (fr.sto x hL).2).run pins s' σ H v u Q I ru (by
    have := hh.setVal s.lt r
    rw [← s.r] at this
    exact q _ (by simp) (fun j hj => List.getElem?_set_ne (fun z => hj (by simp [z]))) this)
theorem asgs_nil : AsgS X B [] [] ρ ρ [] := ⟨gNil, pgs_nil, fun σ F H pi vs hh r Q q => by
  cases r
  exact ⟨rfl, q σ rfl (fun _ _ => rfl) hh⟩⟩
theorem asgs_cons {ρ2 : List Slot} {is js : List Nat} (h : Asg X B tg d ρ ρ' is) (hr : AsgS X B es ds ρ' ρ2 js) (hs : ∀ env, (assignEach (tg :: es) env).map (·.2) = assign tg env :: (assignEach es env).map (·.2) := by intro _; rfl) : AsgS X B (tg :: es) (d :: ds) ρ ρ2 (is ++ js) := by
  obtain ⟨t, pt, ht⟩ := hr
  refine ⟨gCons (WG X tg) t, pgs_cons pg_W pt (hs _), fun σ F H pi vs hh r Q q => ?_⟩
  cases r with
  | cons r1 r2 =>
    exact ⟨_, _, rfl, h.run σ F H pi _ hh r1 _ fun σ1 l1 k1 h1 => ht σ1 F H pi _ h1 r2 Q fun σ2 l2 k2 h2 => q σ2 (l2.trans l1) (fun j hj => by
      rw [List.mem_append] at hj
      rw [k2 j (fun z => hj (.inr z)), k1 j (fun z => hj (.inl z))]) h2⟩
theorem asg_tup {is : List Nat} {kk : Nat} (fr : Fr X sc N Vs L G k) (h : AsgS X B es ds ρ ρ' is) (hn : ∀ env, (assignEach es env).length = ds.length := by intro _; rfl) (hst : ∀ env, (assignEach es env).findIdx? (·.1) = none := by intro _; rfl) : Asg X B (.Tuple es kk pos) (.tuple ds) ρ ρ' is := by
  obtain ⟨t, pt, ht⟩ := h
  exact .mk fun σ F H pi v hh r Q q pins s u I ru => (pg_tup fr.calm pt (hn _) (hst _)).run pins s σ H v u Q I ru (by
    cases r with
    | tup h1 h2 => exact ⟨_, _, rfl, SqT.of (hh.good.sub _ _ h1), h2.len, ht σ F H pi _ hh h2 Q q⟩)
/-- a, b, .. = e (a tuple) -/
theorem ex_unpack {is : List Nat} {kk : Nat} (h : Ev X B e ρ pi d pj) (hg : Asg X B (.Tuple es kk pos') d ρ ρ' is) (hr : Ex X B rest ρ' pj R)
    (h1 : ∀ env, swapsWithSole [.Tuple es kk pos'] e pos.line env = pure false := by intro _; rfl) (h2 : swappedStores [.Tuple es kk pos'] e X.env = pure none := by rfl) : Ex X B (.Assign [.Tuple es kk pos'] e pos :: rest) ρ pi R :=
  .cons (ps_asg pe_W pg_W (h1 _) h2) fun σ F H F0 s0 hh => h.run σ F H hh _ fun v F1 H1 s1 r1 => hg.run σ F1 H1 pj v (hh.step s1) r1 _ fun σ' _ _ h' => hr.run σ' F1 H1 F0 (s0.trans s1.ext) h'
/-! ### loops -/
structure Walks (K : Frag) (F : Hp) (G : Hp → Prop) (J : It) (ds : List D) : Prop where
  go : ∀ i H, i < ds.length → G H → J.go i H
  stop : ∀ H, G H → J.stop ds.length H
  yld : ∀ i H x H', i < ds.length → G H → J.yld i H x H' → ∃ d, ds[i]? = some d ∧ ((H' = H ∧ Rep K F x d) ∨ ∃ T xs dd, x = .ref T ∧ H T = none ∧ H' = upd H T (.tup xs) ∧ Reps K F xs dd ∧ d = .tuple dd)
structure EvI (X : Cx) (B : Base) (tg it : Expr) (ρ : List Slot) (pi : PSt) (ds : List D) (pj : PSt) : Prop where
  run : ∀ σ F H, Holds X.K B F H σ ρ pi → ∀ Rq : It → Hp → Prop, (∀ J F' H', Step F H pi F' H' pj → Walks X.K F' (Same F') J ds → Rq J H') → WI X tg it σ H Rq
theorem EvI.of {t : TI} {it : Expr} (hp : PI X tg it t) (h : ∀ σ F H, Holds X.K B F H σ ρ pi → ∀ Rq : It → Hp → Prop, (∀ J F' H', Step F H pi F' H' pj → Walks X.K F' (Same F') J ds → Rq J H') → t σ H Rq) : EvI X B tg it ρ pi ds pj :=
  .mk fun σ F H hh Rq q pins s I => hp.run pins s σ H Rq I (h σ F H hh Rq q)
theorem walks_list {K : Frag} {F : Hp} {l : Addr} {xs : List V} (h : F l = some (.lst xs)) (r : Reps K F xs ds) : Walks K F (Same F) (Itl K l) ds where
  go := fun i H hi s => ⟨xs, xs[i]'(by rw [r.len]; exact hi), SqL.of (s _ _ h), by simp⟩
  stop := fun H s => ⟨xs, SqL.of (s _ _ h), by rw [r.len]; exact Nat.le_refl _⟩
  yld := fun i H x H' hi s y => by
    obtain ⟨d, e1, e2⟩ := r.getV (y.2 xs (SqL.of (s _ _ h)))
    exact ⟨d, e1, .inl ⟨y.1, e2⟩⟩
theorem walks_tup {K : Frag} {F : Hp} {l : Addr} {xs : List V} (h : F l = some (.tup xs)) (r : Reps K F xs ds) : Walks K F (Same F) (Itt K l) ds where
  go := fun i H hi s => ⟨xs, xs[i]'(by rw [r.len]; exact hi), SqT.of (s _ _ h), by simp⟩
  stop := fun H s => ⟨xs, SqT.of (s _ _ h), by rw [r.len]; exact Nat.le_refl _⟩
  yld := fun i H x H' hi s y => by
    obtain ⟨d, e1, e2⟩ := r.getV (y.2 xs (SqT.of (s _ _ h)))
    exact ⟨d, e1, .inl ⟨y.1, e2⟩⟩
theorem evi_list (h : Ev X B e ρ pi (.list ds) pj) : EvI X B tg e ρ pi ds pj := .of (pi_list pe_W) fun σ F H hh Rq q => h.run σ F H hh _ fun v F1 H1 s1 r1 => by
  cases r1 with
  | lst h1 h2 => exact ⟨_, rfl, ⟨_, SqL.of (s1.g1.sub _ _ h1)⟩, q _ F1 H1 s1 (walks_list h1 h2)⟩
theorem evi_tup (h : Ev X B e ρ pi (.tuple ds) pj) : EvI X B tg e ρ pi ds pj := .of (pi_tup pe_W) fun σ F H hh Rq q => h.run σ F H hh _ fun v F1 H1 s1 r1 => by
  cases r1 with
  | tup h1 h2 => exact ⟨_, rfl, ⟨_, SqT.of (s1.g1.sub _ _ h1)⟩, q _ F1 H1 s1 (walks_tup h1 h2)⟩
def rangeD (lo : Int) (n : Nat) : List D := (List.range n).map fun i => .int (lo + (i : Nat))
theorem walks_range {K : Frag} {F : Hp} (lo : Int) (n : Nat) : Walks K F (Same F) (Itr lo n) (rangeD lo n) where
  go := fun i H hi _ => by
    have : i < n := by simpa [rangeD] using hi
    exact this
  stop := fun H _ => by
    show n ≤ (rangeD lo n).length
    simp [rangeD]
  yld := fun i H x H' hi _ y => by
    have hi' : i < n := by simpa [rangeD] using hi
    refine ⟨.int (lo + (i : Nat)), by simp [rangeD, hi'], .inl ⟨y.1, ?_⟩⟩
    rw [y.2]
    exact .int _
theorem evi_range1 (fr : Fr X sc N Vs L G k) (bl : Bl X.mg) (hG : ("range" : Str) ∈ G) (h : Ev X B a ρ pi (.int n) pj) (h0 : -1000 ≤ n) (h1 : n ≤ 1000) (hs : ∀ r env, starEach (a :: r) env = (false, eval a env) :: starEach r env := by intro _ _; rfl) :
    EvI X B tg (.Call (.Name "range" p1) [a] [] pos) ρ pi (rangeD 0 n.toNat) pj :=
  .of (pi_range1 (fr.glo _ hG).1 bl.range (pa_cons pe_W pa_nil (hs _ _)) (hs _ _)) fun σ F H hh Rq q => h.run σ F H hh _ fun v F1 H1 s1 r1 => by
    cases r1
    exact ⟨n, rfl, by omega, by omega, q _ F1 H1 s1 (walks_range 0 _)⟩
theorem evi_range2 (fr : Fr X sc N Vs L G k) (bl : Bl X.mg) (hG : ("range" : Str) ∈ G) (ha : Ev X B a ρ pi (.int m) pj) (hb : Ev X B b ρ pj (.int n) pk) (h0 : -1000 ≤ m ∧ m ≤ 1000) (h1 : -1000 ≤ n ∧ n ≤ 1000)
    (hs : ∀ r env, starEach (a :: r) env = (false, eval a env) :: starEach r env := by intro _ _; rfl) (hs2 : ∀ r env, starEach (b :: r) env = (false, eval b env) :: starEach r env := by intro _ _; rfl) :
    EvI X B tg (.Call (.Name "range" p1) [a, b] [] pos) ρ pi (rangeD m (n - m).toNat) pk :=
  .of (pi_range2 (fr.glo _ hG).1 bl.range (pa_cons pe_W (pa_cons pe_W pa_nil (hs2 _ _)) (hs _ _)) (by rw [hs, hs2]; rfl) (hs2 _ _)) fun σ F H hh Rq q => ha.run σ F H hh _ fun v F1 H1 s1 r1 => hb.run σ F1 H1 (hh.step s1) _ fun w F2 H2 s2 r2 => by
    cases r1
    cases r2
    exact ⟨m, n, rfl, ⟨by omega, by omega, by omega, by omega⟩, q _ F2 H2 (s1.trans s2) (walks_range m _)⟩
/-- what a turn yields, as a step -/
theorem walks_turn {K : Frag} {F F' H H' : Hp} {J : It} {v : V} {p : PSt} (w : Walks K F (Same F) J ds) (g : Good F' H p) (s : Same F F') {i : Nat} (hi : i < ds.length) (y : J.yld i H v H') : ∃ d F2, ds[i]? = some d ∧ Step F' H p F2 H' p ∧ Rep K F2 v d := by
  obtain ⟨d, e, q⟩ := w.yld i H v H' hi (s.trans g.sub) y
  rcases q with ⟨rfl, r⟩ | ⟨T, xs, dd, rfl, hT, rfl, r, rfl⟩
  · exact ⟨d, F', e, Step.refl g, r.up s⟩
  · exact ⟨_, _, e, Step.alloc g hT, .tup upd_same ((r.up s).up (same_upd (g.fnone hT)))⟩
theorem ex_for (fr : Fr X sc N Vs L G k) {it : Expr} (hi : EvI X B tg it ρ pi ds pj) (Iv : Nat → List Slot → PSt → Prop) (h0 : Iv 0 ρ pj)
    (turn : ∀ i d ρ1 p1, ds[i]? = some d → Iv i ρ1 p1 → ∃ ρ2 is, Asg X B tg d ρ1 ρ2 is ∧
      Ex X B body ρ2 p1 { nx := fun r p => ∃ r', Wk r r' ∧ Iv (i + 1) r' p, ct := fun r p => ∃ r', Wk r r' ∧ Iv (i + 1) r' p, bk := fun r p => Ex X B rest r p R, rt := R.rt })
    (done : ∀ ρ1 p1, Iv ds.length ρ1 p1 → Ex X B rest ρ1 p1 R) (hs : ∀ env x, foldedSetIterable it env x = pure x := by intro _ _; rfl) : Ex X B (.For tg it body [] pos :: rest) ρ pi R :=
  .cons (ps_for (by rw [fr.xe]; exact PassesOwn.never) fr.calm pi_W pg_W pss_W (hs _)) fun σ F H F0 s0 hh => hi.run σ F H hh _ fun J F1 H1 s1 w => by
    refine ⟨fun i m σ' H' => m = ds.length - i ∧ i ≤ ds.length ∧ ∃ F' ρ1 p1, Same F1 F' ∧ Holds X.K B F' H' σ' ρ1 p1 ∧ Iv i ρ1 p1, ⟨_, rfl, Nat.zero_le _, F1, ρ, pj, Same.refl _, hh.step s1, h0⟩, ?_⟩
    rintro i m σ' H' ⟨rfl, hi, F', ρ1, p1, sF, h1, iv⟩
    have s01 : Same F0 F1 := s0.trans s1.ext
    by_cases hlt : i < ds.length
    · refine .inr ⟨w.go i H' hlt (sF.trans h1.good.sub), fun σ2 H2 => ∃ F2 ρ2 p2, Same F1 F2 ∧ Holds X.K B F2 H2 σ2 ρ2 p2 ∧ ∃ r', Wk ρ2 r' ∧ Iv (i + 1) r' p2, fun σ2 H2 ⟨F2, ρ2, p2, q1, q2, r', q3, q4⟩ => ?_, fun v H2 y => ?_⟩
      · obtain ⟨F3, e3, h3⟩ := q2.weak q3
        exact ⟨ds.length - (i + 1), by omega, rfl, hlt, F3, r', p2, q1.trans e3, h3, q4⟩
      · obtain ⟨d, F2, ed, st, r⟩ := walks_turn w h1.good sF hlt y
        obtain ⟨ρ2, is, ha, hx⟩ := turn i d ρ1 p1 ed iv
        have hF2 : Same F1 F2 := sF.trans st.ext
        refine ha.run σ' F2 H2 p1 v (h1.step st) r _ fun σ2 _ _ h2 => ?_
        exact ends_mono (hx.run σ2 F2 H2 F1 hF2 h2) (fun _ _ z => z) (fun _ _ z => z) (fun σ3 H3 ⟨F3, r3, p3, q, hq, z⟩ => z.run σ3 F3 H3 F0 (s01.trans q) hq) (fun _ _ z => z)
    · have e : i = ds.length := by omega
      subst e
      exact .inl ⟨w.stop H' (sF.trans h1.good.sub), (done ρ1 p1 iv).run σ' F' H' F0 (s01.trans sF) h1⟩
end
end Fs
-- FsF
/-! A def's promise by its body; comprehensions. -/
namespace Fs
open PySem PySem.Spec PyProof.Rows L2

/-! ### the names of a def, checked -/
def visC (sc : Scope) (x : Str) : Bool := match sc.names.lookup x with | some .local => true | some .cell => true | some .free => true | _ => false
def locC (sc : Scope) (x : Str) : Bool := match sc.names.lookup x with | some .local => true | some .cell => true | _ => false
def gloC (sc : Scope) (x : Str) : Bool := match sc.names.lookup x with | some .globalImplicit => true | _ => false
def scC (sc : Scope) (N Vs L G : List Str) : Bool := decide N.Nodup && (Vs.all fun x => visC sc x && !(x == ("__debug__" : Str)) && !(x == ("__classdict__" : Str))) && (L.all fun x => locC sc x) && (G.all fun x => gloC sc x && !(x == ("__debug__" : Str)) && !decide (x = "__name__"))
theorem vis_of {sc : Scope} {x : Str} (h : visC sc x = true) : Vis sc x := by
  unfold visC at h
  unfold Vis
  split at h <;> first
    | (rename_i e; exact .inl e)
    | (rename_i e; exact .inr (.inl e))
    | (rename_i e; exact .inr (.inr e))
    | cases h
theorem loc_of {sc : Scope} {x : Str} (h : locC sc x = true) : L2.Loc sc x := by
  unfold locC at h
  unfold L2.Loc
  split at h <;> first
    | (rename_i e; exact .inl e)
    | (rename_i e; exact .inr e)
    | cases h
theorem glo_of {sc : Scope} {x : Str} (h : gloC sc x = true) : sc.names.lookup x = some .globalImplicit := by
  unfold gloC at h
  split at h <;> first
    | (rename_i e; exact e)
    | cases h
section
variable {P : Program} {w : World} {K : Frag} {mg : Str → Option Value} {base : Heap} {x qual : Str} {st : Stmt} {f : Addr} {fd : FuncData} {N Vs L G ps : List Str} {k : Nat}
theorem fr_def {cdv : Value} {A : Around} {outer : List Env} {s : Shared} {H : Hp} {E : XK} (hc : scC (defScope st) N Vs L G = true) (hr : Room k (A.deeper (envOfC qual (defScope st) s.heap.objs.size f cdv))) :
    Fr (cxOf CX0 P w K mg base N qual (defScope st) f cdv A outer s H E).nox (defScope st) N Vs L G k := by
  unfold scC at hc
  simp only [Bool.and_eq_true, List.all_eq_true, decide_eq_true_eq, Bool.not_eq_true', decide_eq_false_iff_not] at hc
  obtain ⟨⟨⟨h1, h2⟩, h3⟩, h4⟩ := hc
  exact ⟨rfl, rfl, h1, fun x hx => ⟨vis_of (h2 x hx).1.1, (h2 x hx).1.2, (h2 x hx).2⟩, fun x hx => ⟨loc_of (h3 x hx), .inl rfl⟩, fun x hx => ⟨glo_of (h4 x hx).1.1, (h4 x hx).1.2, (h4 x hx).2⟩, rfl, hr, rfl⟩
def startS (N : List Str) (ds : List Slot) : List Slot := ds ++ List.replicate (N.length - ds.length) .non
theorem start_at {K : Frag} {B : Base} {F H : Hp} {pi : PSt} {vs : List V} {ss : List Slot} (hl : vs.length = ss.length) (hs : ∀ (i : Nat) (s : Slot), ss[i]? = some s → ∃ v, vs[i]? = some v ∧ SlotIn K B F H pi (some v) s) (i : Nat) (s : Slot) (e : (startS N ss)[i]? = some s) :
    ∃ o, (L2.start N vs)[i]? = some o ∧ SlotIn K B F H pi o s := by
  unfold startS at e
  unfold L2.start
  by_cases hi : i < ss.length
  · rw [List.getElem?_append_left hi] at e
    obtain ⟨v, e1, q⟩ := hs i s e
    refine ⟨some v, ?_, q⟩
    rw [List.getElem?_append_left (by simpa [hl] using hi), List.getElem?_map, e1]
    rfl
  · have hi' : ss.length ≤ i := by omega
    rw [List.getElem?_append_right hi', List.getElem?_replicate] at e
    by_cases hj : i - ss.length < N.length - ss.length
    · rw [if_pos hj] at e
      cases e
      refine ⟨none, ?_, trivial⟩
      rw [List.getElem?_append_right (by simpa [hl] using hi'), List.getElem?_replicate, if_pos (by simpa [hl] using hj)]
    · rw [if_neg hj] at e
      cases e
theorem start_len {vs : List V} {ss : List Slot} (hl : vs.length = ss.length) : (L2.start N vs).length = (startS N ss).length := by
  unfold L2.start startS
  rw [List.length_append, List.length_append, List.length_map, List.length_replicate, List.length_replicate, hl]
/-- THE RULE for a pure def -/
theorem fn_pure {g : List D → D → Prop} {FS : Program → World → Frag → (Str → Option Value) → Heap → Prop} (F : Fun K x qual st f fd) (S : FnScope N ps (defScope st)) (hc : scC (defScope st) N Vs L G = true) (len : ∀ ds d, g ds d → ds.length = ps.length) (hFS : FS P w K mg base)
    (body : ∀ X : Cx, Fr X (defScope st) N Vs L G k → FS X.prog X.w X.K X.mg X.base → ∀ B ds d, g ds d → Ex X B (defBody st) (startS N (ds.map .val)) none (retR d none)) : FnOk P w K mg base CX0 (k + 1) f fd ps (spP K g) := by
  refine F.ok S (fun vs H Q E h => ?_) (fun cdv A outer s H vs Q E hr h => ?_)
  · obtain ⟨F0, ds, d, _, r, hg, _⟩ := h
    rw [r.len]
    exact len ds d hg
  · obtain ⟨F0, ds, d, sF, r, hg, q⟩ := h
    refine ⟨_, pss_W, ?_⟩
    have hh : Holds K ⟨F0, H, none, fun _ => .non⟩ F0 H (L2.start N vs) (startS N (ds.map .val)) none := by
      refine ⟨Step.refl ⟨sF, trivial⟩, start_len (by simpa using r.len), start_at (by simpa using r.len) fun i t e => ?_, fun i j a t u ne e1 e2 o1 o2 z1 z2 => ?_⟩
      · rw [List.getElem?_map] at e
        cases ed : ds[i]? with
        | none => rw [ed] at e; cases e
        | some d =>
          rw [ed] at e
          cases e
          obtain ⟨v, ev, rv⟩ := r.get ed
          exact ⟨v, ev, v, rfl, rv⟩
      · have no : ∀ {i : Nat} {t : Slot}, (startS N (ds.map Slot.val))[i]? = some t → ¬ Owned t := fun {i t} e ho => by
          unfold startS at e
          have hm := List.mem_of_getElem? e
          rw [List.mem_append] at hm
          rcases hm with hm | hm
          · obtain ⟨d, _, rfl⟩ := List.mem_map.mp hm
            exact ho
          · have := List.eq_of_mem_replicate hm
            subst this
            exact ho
        exact no e1 o1
    have X := (body (cxOf CX0 P w K mg base N qual (defScope st) f cdv A outer s H E).nox (fr_def hc hr) hFS ⟨F0, H, none, fun _ => .non⟩ ds d hg).run (L2.start N vs) F0 H F0 (Same.refl _) hh
    refine ends_mono X (fun σ' H' ⟨F', ρ, p, _, h', e, ep⟩ => ?_) (fun v H' ⟨F', d', p, st', rv, e, ep⟩ => ?_) (fun _ _ ⟨_, _, _, _, _, z⟩ => z) (fun _ _ ⟨_, _, _, _, _, z⟩ => z)
    · subst ep
      exact q .non F' H' h'.st (by rw [e]; exact .non)
    · subst ep
      exact q v F' H' st' (by rw [← e]; exact rv)
/-- THE RULE for a def that draws from the pool -/
theorem fn_pool {g : Pl → List D → D → Pl → Prop} {FS : Program → World → Frag → (Str → Option Value) → Heap → Prop} (F : Fun K x qual st f fd) (S : FnScope N ps (defScope st)) (hc : scC (defScope st) N Vs L G = true) (len : ∀ q ds d q', g q ds d q' → ds.length + 1 = ps.length) (hFS : FS P w K mg base)
    (body : ∀ X : Cx, Fr X (defScope st) N Vs L G k → FS X.prog X.w X.K X.mg X.base → ∀ B q ds d q', g q ds d q' → Ex X B (defBody st) (startS N (.pool :: ds.map .val)) (some q) (retR d (some q'))) : FnOk P w K mg base CX0 (k + 1) f fd ps (spQ K g) := by
  refine F.ok S (fun vs H Q E h => ?_) (fun cdv A outer s H vs Q E hr h => ?_)
  · obtain ⟨F0, q, ws, ds, d, q', rfl, _, r, hg, _⟩ := h
    rw [List.length_cons, r.len]
    exact len q ds d q' hg
  · obtain ⟨F0, q, ws, ds, d, q', rfl, gd, r, hg, z⟩ := h
    refine ⟨_, pss_W, ?_⟩
    have hh : Holds K ⟨F0, H, some q, fun _ => .non⟩ F0 H (L2.start N (.ref q.p :: ws)) (startS N (.pool :: ds.map .val)) (some q) := by
      have hl : (V.ref q.p :: ws).length = (Slot.pool :: ds.map Slot.val).length := by simpa using r.len
      refine ⟨Step.refl gd, start_len hl, start_at hl fun i t e => ?_, fun i j a t u ne e1 e2 o1 o2 z1 z2 => ?_⟩
      · cases i with
        | zero =>
          cases e
          exact ⟨_, rfl, q, rfl, rfl⟩
        | succ i =>
          rw [List.getElem?_cons_succ, List.getElem?_map] at e
          cases ed : ds[i]? with
          | none => rw [ed] at e; cases e
          | some d =>
            rw [ed] at e
            cases e
            obtain ⟨v, ev, rv⟩ := r.get ed
            exact ⟨v, ev, v, rfl, rv⟩
      · have no : ∀ {i : Nat} {t : Slot}, (startS N (.pool :: ds.map Slot.val))[i]? = some t → ¬ Owned t := fun {i t} e ho => by
          unfold startS at e
          have hm := List.mem_of_getElem? e
          rw [List.mem_append, List.mem_cons] at hm
          rcases hm with (rfl | hm) | hm
          · exact ho
          · obtain ⟨d, _, rfl⟩ := List.mem_map.mp hm
            exact ho
          · have := List.eq_of_mem_replicate hm
            subst this
            exact ho
        exact no e1 o1
    have X := (body (cxOf CX0 P w K mg base N qual (defScope st) f cdv A outer s H E).nox (fr_def hc hr) hFS ⟨F0, H, some q, fun _ => .non⟩ q ds d q' hg).run (L2.start N (.ref q.p :: ws)) F0 H F0 (Same.refl _) hh
    refine ends_mono X (fun σ' H' ⟨F', ρ, p, _, h', e, ep⟩ => ?_) (fun v H' ⟨F', d', p, st', rv, e, ep⟩ => ?_) (fun _ _ ⟨_, _, _, _, _, z⟩ => z) (fun _ _ ⟨_, _, _, _, _, z⟩ => z)
    · subst ep
      exact z .non F' H' h'.st (by rw [e]; exact .non)
    · subst ep
      exact z v F' H' st' (by rw [← e]; exact rv)
end

/-! ### comprehensions -/
def blkAll (N : List Str) (sc scope : Scope) (own : List (Str × Nat)) (Vs L G : List Str) : Bool :=
  blkC N sc scope own && (Vs.all fun x => visC (relS scope sc) x && !(x == ("__debug__" : Str)) && !(x == ("__classdict__" : Str))) &&
    (L.all fun x => locC (relS scope sc) x && ((match scope.names.lookup x with | some .cell => true | _ => false) || (match (relS scope sc).names.lookup x with | some .local => true | _ => false))) && (G.all fun x => gloC (relS scope sc) x && !(x == ("__debug__" : Str)) && !decide (x = "__name__"))
structure Sub (X X' : Cx) : Prop where
  all : ∀ FS : Program → World → Frag → (Str → Option Value) → Heap → Prop, FS X.prog X.w X.K X.mg X.base → FS X'.prog X'.w X'.K X'.mg X'.base
theorem Sub.has {X X' : Cx} {k : Nat} {x : Str} {ps : List Str} {g : List D → D → Prop} (s : Sub X X') (h : Has X k x ps g) : Has X' k x ps g := s.all (fun P w K mg base => HasS P w K mg base k x ps (spP K g)) h
theorem Sub.hasQ {X X' : Cx} {k : Nat} {x : Str} {ps : List Str} {g : Pl → List D → D → Pl → Prop} (s : Sub X X') (h : HasQ X k x ps g) : HasQ X' k x ps g := s.all (fun P w K mg base => HasS P w K mg base k x ps (spQ K g)) h
theorem Sub.bl {X X' : Cx} (s : Sub X X') (h : Bl X.mg) : Bl X'.mg := s.all (fun _ _ _ mg _ => Bl mg) h
theorem fr_blk {X : Cx} {sc scope : Scope} {own : List (Str × Nat)} {N Vs L G Vs' L' G' : List Str} {k : Nat} (fr : Fr X sc N Vs L G k) (hb : blkAll N sc scope own Vs' L' G' = true) (s : Shared) (H : Hp) (C : Addr) (cl : List (Str × Addr)) (fp : List Addr) :
    Fr (X.blk s H scope (compEnvC scope cl C X.env) fp) (relS scope sc) N Vs' L' G' k := by
  unfold blkAll at hb
  simp only [Bool.and_eq_true, List.all_eq_true, Bool.not_eq_true', decide_eq_false_iff_not, Bool.or_eq_true] at hb
  obtain ⟨⟨⟨h1, h2⟩, h3⟩, h4⟩ := hb
  have es : (X.blk s H scope (compEnvC scope cl C X.env) fp).env.scope = relS scope sc := by
    show relS scope X.env.scope = relS scope sc
    rw [fr.hsc]
  refine ⟨fr.hN, es, fr.nd, fun x hx => ⟨by rw [es]; exact vis_of (h2 x hx).1.1, (h2 x hx).1.2, (h2 x hx).2⟩, fun x hx => ⟨by rw [es]; exact loc_of (h3 x hx).1, ?_⟩, fun x hx => ⟨?_, (h4 x hx).1.2, (h4 x hx).2⟩, fr.calm, fr.room, rfl⟩
  · rcases (h3 x hx).2 with z | z
    · refine .inl ?_
      show (scope.names.lookup x == some .cell) = true
      split at z <;> first
        | (rename_i e; rw [e]; rfl)
        | cases z
    · refine .inr ?_
      rw [es]
      split at z <;> first
        | (rename_i e; exact e)
        | cases z
  · show (X.blk s H scope (compEnvC scope cl C X.env) fp).env.scope.names.lookup x = some .globalImplicit
    rw [es]
    exact glo_of (h4 x hx).1.1
def wipeS (ρ : List Slot) : List Nat → List Slot
  | [] => ρ
  | v :: vs => (wipeS ρ vs).set v .non
theorem wipe_at (σ : L2.St) (vs : List Nat) (j : Nat) : (wipe σ vs)[j]? = if j ∈ vs then (σ[j]?.map fun _ => none) else σ[j]? := by
  induction vs with
  | nil => simp [wipe]
  | cons v vs ih =>
    unfold wipe
    by_cases e : v = j
    · subst e
      rw [if_pos List.mem_cons_self]
      by_cases hl : v < σ.length
      · rw [List.getElem?_set_self (by rw [wipe_length]; exact hl), List.getElem?_eq_getElem hl]
        rfl
      · rw [List.getElem?_eq_none (by rw [List.length_set, wipe_length]; omega), List.getElem?_eq_none (by omega)]
        rfl
    · rw [List.getElem?_set_ne e, ih]
      by_cases hm : j ∈ vs
      · rw [if_pos hm, if_pos (List.mem_cons_of_mem _ hm)]
      · rw [if_neg hm, if_neg (by rw [List.mem_cons]; rintro (z | z); exact e z.symm; exact hm z)]
theorem wipe_same {σ σ' : L2.St} {vs is : List Nat} (hl : σ'.length = (wipe σ vs).length) (h : ∀ j, j ∉ is → σ'[j]? = (wipe σ vs)[j]?) (hi : ∀ j ∈ is, j ∈ vs) : wipe σ' vs = wipe σ vs := by
  refine List.ext_getElem? fun j => ?_
  rw [wipe_at σ' vs j]
  by_cases hj : j ∈ vs
  · rw [if_pos hj, wipe_at σ vs j, if_pos hj]
    have h2 : σ'.length = σ.length := by rw [hl, wipe_length]
    by_cases hlt : j < σ.length
    · rw [List.getElem?_eq_getElem hlt, List.getElem?_eq_getElem (by rw [h2]; exact hlt)]
      rfl
    · rw [List.getElem?_eq_none (by omega), List.getElem?_eq_none (by omega)]
  · rw [if_neg hj]
    exact h j fun z => hj (hi j z)
theorem Holds.drop2 {K : Frag} {B : Base} {F H : Hp} {σ : L2.St} {ρ : List Slot} {pi : PSt} (h : Holds K B F H σ ρ pi) (i : Nat) : Holds K B F H (σ.set i none) (ρ.set i .non) pi := by
  have h1 := h.drop i
  refine ⟨h1.st, by simpa using h1.len, fun j t ej => ?_, fun j k a t u ne f1 f2 o1 o2 z1 z2 => ?_⟩
  · rcases getSet ej with ⟨rfl, rfl⟩ | ⟨ne, ej'⟩
    · have hl : j < σ.length := by
        rw [h.len]
        have := (List.getElem?_eq_some_iff.mp ej).1
        simpa using this
      exact ⟨none, List.getElem?_set_self hl, trivial⟩
    · obtain ⟨o, e1, q⟩ := h.at_ j t ej'
      exact ⟨o, by rw [List.getElem?_set_ne (Ne.symm ne)]; exact e1, q⟩
  · have back : ∀ {j : Nat} {t : Slot}, (ρ.set i .non)[j]? = some t → Owned t → j ≠ i := fun {j t} ej ot => by
      rcases getSet ej with ⟨rfl, rfl⟩ | ⟨ne, ej⟩
      · exact ot.elim
      · exact ne
    rw [List.getElem?_set_ne (Ne.symm (back f1 o1))] at z1
    rw [List.getElem?_set_ne (Ne.symm (back f2 o2))] at z2
    exact h1.sep j k a t u ne f1 f2 o1 o2 z1 z2
theorem Holds.wipe {K : Frag} {B : Base} {F H : Hp} {σ : L2.St} {ρ : List Slot} {pi : PSt} (h : Holds K B F H σ ρ pi) : ∀ vs : List Nat, Holds K B F H (L2.wipe σ vs) (wipeS ρ vs) pi
  | [] => h
  | v :: vs => (Holds.wipe h vs).drop2 v

section
variable {X : Cx} {sc scope : Scope} {B : Base} {N Vs L G Vs' L' G' : List Str} {k : Nat} {ρ ρ' : List Slot} {pi pj pk : PSt} {pos pos' : Pos} {elt tg it c : Expr} {ds : List D} {own : List (Str × Nat)} {ifs : List Expr}
/-- one turn of a comprehension: the state behind and what is added -/
def LcTurn (X : Cx) (sc' : Scope) (N Vs L G : List Str) (k : Nat) (B : Base) (elt tg : Expr) (ifs : List Expr) (ρw : List Slot) (own : List Nat) (d : D) (p : PSt) (more : List D) (p' : PSt) : Prop :=
  ∃ ρ2 is, (∀ j ∈ is, j ∈ own) ∧ (∀ X', Sub X X' → Fr X' sc' N Vs L G k → Asg X' B tg d ρw ρ2 is) ∧ match ifs with
    | [] => ∃ dy, more = [dy] ∧ ∀ X', Sub X X' → Fr X' sc' N Vs L G k → Ev X' B elt ρ2 p dy p'
    | [c] => ∃ b, (∀ X', Sub X X' → Fr X' sc' N Vs L G k → EvT X' B c ρ2 p b p) ∧ (b = true → ∃ dy, more = [dy] ∧ ∀ X', Sub X X' → Fr X' sc' N Vs L G k → Ev X' B elt ρ2 p dy p') ∧ (b = false → more = [] ∧ p' = p)
    | _ => False
abbrev gB (X : Cx) (scope : Scope) (tg : Expr) : TG := fun v σ H Q => ∀ (s : Shared) (H0 : Hp) (C : Addr) (cl : List (Str × Addr)) (fp : List Addr), WG (X.blk s H0 scope (compEnvC scope cl C X.env) fp) tg v σ H Q
abbrev eB (X : Cx) (scope : Scope) (e : Expr) : TE := fun σ H Q => ∀ (s : Shared) (H0 : Hp) (C : Addr) (cl : List (Str × Addr)) (fp : List Addr), WE (X.blk s H0 scope (compEnvC scope cl C X.env) fp) e σ H Q
abbrev tB (X : Cx) (scope : Scope) : List Expr → TT
  | [c] => fun σ H Q => ∀ (s : Shared) (H0 : Hp) (C : Addr) (cl : List (Str × Addr)) (fp : List Addr), WT (X.blk s H0 scope (compEnvC scope cl C X.env) fp) c σ H Q
  | _ => tYes
/-- the list that is made, as a reading -/
theorem lc_run (fr : Fr X sc N Vs L G k) (hb : blkAll N sc scope own Vs' L' G' = true) (hi : EvI X B tg it ρ pi ds pj) (hifs : ifs.length ≤ 1) (acc : Nat → List D) (stt : Nat → PSt) (ha0 : acc 0 = []) (hs0 : stt 0 = pj) (hsz : ∀ i, i < ds.length → (acc i).length < 100000)
    (turn : ∀ i d, ds[i]? = some d → ∃ more, LcTurn X (relS scope sc) N Vs' L' G' k B elt tg ifs (wipeS ρ (own.map (·.2))) (own.map (·.2)) d (stt i) more (stt (i + 1)) ∧ acc (i + 1) = acc i ++ more)
    (σ : L2.St) (F H : Hp) (hh : Holds X.K B F H σ ρ pi) (Q : VK) (q : ∀ l xs F' H', Step F H pi F' H' (stt ds.length) → H l = none → F' l = none → H' l = some (.lst xs) → Reps X.K F' xs (acc ds.length) → Q (.ref l) H') :
    tLc (WI X tg it) (gB X scope tg) (tB X scope ifs) (eB X scope elt) (own.map (·.2)) σ H Q :=
  hi.run σ F H hh _ fun J F1 H1 s1 w Dl hD => by
    have nD : NotP pj Dl := s1.g1.notP hD
    refine ⟨fun i m H' => m = ds.length - i ∧ i ≤ ds.length ∧ ∃ F' xs, Step F1 H1 pj F' H' (stt i) ∧ F' Dl = none ∧ H' Dl = some (.lst xs) ∧ Reps X.K F' xs (acc i),
      ⟨_, rfl, Nat.zero_le _, F1, [], by rw [hs0]; exact Step.allocO s1.g1 hD, s1.g1.fnone hD, upd_same, by rw [ha0]; exact .nil⟩, ?_⟩
    rintro i m H' ⟨rfl, hil, F', xs, st, fD, hDl, r⟩
    have sF : Same F1 F' := st.ext
    by_cases hlt : i < ds.length
    · refine .inr ⟨w.go i H' hlt (sF.trans st.g1.sub), fun H2 => ∃ F2 xs', Step F1 H1 pj F2 H2 (stt (i + 1)) ∧ F2 Dl = none ∧ H2 Dl = some (.lst xs') ∧ Reps X.K F2 xs' (acc (i + 1)), fun H2 z => ⟨ds.length - (i + 1), by omega, rfl, hlt, z⟩, fun v H2 y => ?_⟩
      obtain ⟨d, F2, ed, s2, rv⟩ := walks_turn w st.g1 sF hlt y
      have n2 : NotP (stt i) Dl := nD.adr st.adr
      have hD2 : H2 Dl = some (.lst xs) := s2.fr _ _ hDl n2
      have fD2 : F2 Dl = none := by
        rw [s2.new Dl (by rw [hDl]; exact fun z => nomatch z)]
        exact fD
      have hw : Holds X.K B F2 H2 (L2.wipe σ (own.map (·.2))) (wipeS ρ (own.map (·.2))) (stt i) := (((hh.step s1).step st).step s2).wipe _
      have st2 : Step F1 H1 pj F2 H2 (stt i) := st.trans s2
      obtain ⟨more, ⟨ρ2, is, hown, hasg, ht⟩, hacc⟩ := turn i d ed
      have sub : ∀ (s : Shared) (H0 : Hp) (C : Addr) (cl : List (Str × Addr)) (fp : List Addr), Sub X (X.blk s H0 scope (compEnvC scope cl C X.env) fp) := fun s H0 C cl fp => ⟨fun _ z => z⟩
      have frb : ∀ (s : Shared) (H0 : Hp) (C : Addr) (cl : List (Str × Addr)) (fp : List Addr), Fr (X.blk s H0 scope (compEnvC scope cl C X.env) fp) (relS scope sc) N Vs' L' G' k := fun s H0 C cl fp => fr_blk fr hb s H0 C cl fp
      intro s H0 C cl fp
      refine (hasg _ (sub s H0 C cl fp) (frb s H0 C cl fp)).run _ F2 H2 (stt i) v hw rv _ fun σ2 hl2 hk2 h2 => ⟨wipe_same hl2 hk2 hown, ?_⟩
      -- the element and its place
      have put : ∀ (F3 H3 : Hp) (dy : D), Step F1 H1 pj F3 H3 (stt i) → F3 Dl = none → H3 Dl = some (.lst xs) → Reps X.K F3 xs (acc i) → Holds X.K B F3 H3 σ2 ρ2 (stt i) → more = [dy] → (∀ X', Sub X X' → Fr X' (relS scope sc) N Vs' L' G' k → Ev X' B elt ρ2 (stt i) dy (stt (i + 1))) →
          eB X scope elt σ2 H3 fun y H4 => ∃ acc', H4 Dl = some (.lst acc') ∧ acc'.length < sizeLine ∧ ∃ F2 xs', Step F1 H1 pj F2 (upd H4 Dl (.lst (acc' ++ [y]))) (stt (i + 1)) ∧ F2 Dl = none ∧ upd H4 Dl (.lst (acc' ++ [y])) Dl = some (.lst xs') ∧ Reps X.K F2 xs' (acc (i + 1)) := by
        intro F3 H3 dy st3 fD3 hD3 r3 h3 hm he s H0 C cl fp
        refine (he _ (sub s H0 C cl fp) (frb s H0 C cl fp)).run σ2 F3 H3 h3 _ fun y F4 H4 s4 ry => ?_
        have n3 : NotP (stt i) Dl := nD.adr st3.adr
        have hD4 : H4 Dl = some (.lst xs) := s4.fr _ _ hD3 n3
        have fD4 : F4 Dl = none := by
          rw [s4.new Dl (by rw [hD3]; exact fun z => nomatch z)]
          exact fD3
        refine ⟨xs, hD4, Nat.lt_of_lt_of_le (by rw [r.len]; exact hsz i hlt) (by decide), F4, xs ++ [y], (st3.trans s4).mut hD fD4, fD4, upd_same, ?_⟩
        rw [hacc, hm]
        exact (r3.up s4.ext).append (.cons ry .nil)
      cases ifs with
      | nil =>
        obtain ⟨dy, hm, he⟩ := ht
        exact put F2 H2 dy st2 fD2 hD2 (r.up s2.ext) h2 hm he
      | cons c r0 =>
        cases r0 with
        | cons c2 r1 => exact absurd hifs (by simp)
        | nil =>
          obtain ⟨b, hc, ht1, ht2⟩ := ht
          intro s H0 C cl fp
          refine (hc _ (sub s H0 C cl fp) (frb s H0 C cl fp)).run σ2 F2 H2 h2 _ fun F3 H3 s3 => ?_
          have st3 : Step F1 H1 pj F3 H3 (stt i) := st2.trans s3
          have hD3 : H3 Dl = some (.lst xs) := s3.fr _ _ hD2 (nD.adr st2.adr)
          have fD3 : F3 Dl = none := by
            rw [s3.new Dl (by rw [hD2]; exact fun z => nomatch z)]
            exact fD2
          cases b with
          | true =>
            obtain ⟨dy, hm, he⟩ := ht1 rfl
            rw [if_pos rfl]
            exact put F3 H3 dy st3 fD3 hD3 ((r.up s2.ext).up s3.ext) (h2.step s3) hm he
          | false =>
            obtain ⟨hm, hp⟩ := ht2 rfl
            rw [if_neg Bool.false_ne_true]
            refine ⟨F3, xs, by rw [hp]; exact st3, fD3, hD3, ?_⟩
            rw [hacc, hm, List.append_nil]
            exact (r.up s2.ext).up s3.ext
    · have e : i = ds.length := by omega
      subst e
      exact .inl ⟨w.stop H' (sF.trans st.g1.sub), q Dl xs F' H' (s1.trans st) (fresh_of s1 hD) fD hDl r⟩
end
end Fs
-- FsG
/-! Comprehensions in use. -/
namespace Fs
open PySem PySem.Spec PyProof.Rows L2

section
variable {X : Cx} {sc scope : Scope} {B : Base} {N Vs L G Vs' L' G' : List Str} {k i : Nat} {ρ ρ' ρ2 : List Slot} {pi pj pk : PSt} {pos pos' spos py : Pos} {e elt tg it c : Expr} {ds : List D} {own : List (Str × Nat)} {ifs : List Expr} {x : Str} {rest : List Stmt} {R : Rt} {is : List Nat}

/-- a comprehension makes a list -/
def LcV (X : Cx) (B : Base) (e : Expr) (ρ : List Slot) (pi : PSt) (ds : List D) (pj : PSt) : Prop :=
  ∃ (elt tg it : Expr) (ifs : List Expr) (scope : Scope) (pos : Pos) (own : List (Str × Nat)) (wi : TI) (g : TG) (tt : TT) (te : TE), e = .ListComp elt [⟨tg, it, ifs, 0⟩] scope pos ∧ PI X tg it wi ∧ BlkOk X.N X.env.scope scope own ∧
    (∀ (s : Shared) (H : Hp) (C : Addr) (cl : List (Str × Addr)) (fp : List Addr), PG (X.blk s H scope (compEnvC scope cl C X.env) fp) tg g) ∧ (∀ (s : Shared) (H : Hp) (C : Addr) (cl : List (Str × Addr)) (fp : List Addr), PTs (X.blk s H scope (compEnvC scope cl C X.env) fp) ifs tt) ∧
    (∀ (s : Shared) (H : Hp) (C : Addr) (cl : List (Str × Addr)) (fp : List Addr), PE (X.blk s H scope (compEnvC scope cl C X.env) fp) elt te) ∧ (∀ x, foldedSetIterable it X.env x = pure x) ∧
    ∀ σ F H, Holds X.K B F H σ ρ pi → ∀ Q : VK, (∀ l xs F' H', Step F H pi F' H' pj → H l = none → F' l = none → H' l = some (.lst xs) → Reps X.K F' xs ds → Q (.ref l) H') → tLc wi g tt te (own.map (·.2)) σ H Q
theorem blk_ok (fr : Fr X sc N Vs L G k) (hb : blkAll N sc scope own Vs' L' G' = true) : BlkOk X.N X.env.scope scope own := by
  rw [fr.hN, fr.hsc]
  refine blkOk_by ?_
  unfold blkAll at hb
  simp only [Bool.and_eq_true] at hb
  exact hb.1.1.1
theorem lcv (fr : Fr X sc N Vs L G k) (hb : blkAll N sc scope own Vs' L' G' = true) (hi : EvI X B tg it ρ pi ds pj) (hifs : ifs.length ≤ 1) (acc : Nat → List D) (stt : Nat → PSt) (ha0 : acc 0 = []) (hs0 : stt 0 = pj) (hsz : ∀ i, i < ds.length → (acc i).length < 100000)
    (turn : ∀ i d, ds[i]? = some d → ∃ more, LcTurn X (relS scope sc) N Vs' L' G' k B elt tg ifs (wipeS ρ (own.map (·.2))) (own.map (·.2)) d (stt i) more (stt (i + 1)) ∧ acc (i + 1) = acc i ++ more)
    (hs : ∀ env x, foldedSetIterable it env x = pure x) : LcV X B (.ListComp elt [⟨tg, it, ifs, 0⟩] scope pos) ρ pi (acc ds.length) (stt ds.length) := by
  refine ⟨elt, tg, it, ifs, scope, pos, own, WI X tg it, gB X scope tg, tB X scope ifs, eB X scope elt, rfl, pi_W, blk_ok fr hb, fun s H C cl fp => ⟨fun pins s' σ H' v u Q I r h => h s H C cl fp pins s' u I r⟩, fun s H C cl fp => ?_, fun s H C cl fp => ⟨fun pins s' σ H' Q I h => h s H C cl fp pins s' I⟩, hs _, fun σ F H hh Q q => lc_run fr hb hi hifs acc stt ha0 hs0 hsz turn σ F H hh Q q⟩
  cases ifs with
  | nil => exact pts_nil
  | cons c r =>
    cases r with
    | nil => exact pts_one ⟨fun pins s' σ H' Q I h => h s H C cl fp pins s' I⟩
    | cons c2 r2 => exact absurd hifs (by simp)
theorem LcV.evo (fr : Fr X sc N Vs L G k) (h : LcV X B e ρ pi ds pj) : EvO X B e ρ pi ds pj := by
  obtain ⟨elt, tg, it, ifs, scope, pos, own, wi, g, tt, te, rfl, h1, h2, h3, h4, h5, h6, h7⟩ := h
  exact .mk fun σ F H hh Q q pins s I => (pe_lc fr.calm (by rw [fr.hN]; exact fr.nd) h1 h2 h3 h4 h5 h6).run pins s σ H Q I (h7 σ F H hh Q q)
theorem LcV.ev (fr : Fr X sc N Vs L G k) (h : LcV X B e ρ pi ds pj) : Ev X B e ρ pi (.list ds) pj := (h.evo fr).ev
/-- y = [..], y a plain local -/
theorem ex_lc {elt tg it : Expr} (fr : Fr X sc N Vs L G k) (h : LcV X B (.ListComp elt [⟨tg, it, ifs, 0⟩] scope pos) ρ pi ds pj) (s : Sto N ρ i x (.own ds) ρ') (hx : sc.names.lookup x = some .local) (hr : Ex X B rest ρ' pj R) (ha : (scope.names.any fun (n, k) => n == x && (k == .local || k == .cell)) = false)
    (hk : sc.kind = .function) (hl : (py.line == pos.line) = true := by rfl) : Ex X B (.Assign [.Name x py] (.ListComp elt [⟨tg, it, ifs, 0⟩] scope pos) spos :: rest) ρ pi R := by
  obtain ⟨elt, tg, it, ifs, scope, pos, own, wi, g, tt, te, he, h1, h2, h3, h4, h5, h6, h7⟩ := h
  cases he
  have hx' : X.env.scope.names.lookup x = some .local := by rw [fr.hsc]; exact hx
  refine .cons (ps_setLc (i := i) fr.calm (by rw [fr.hN]; exact fr.nd) (by rw [fr.hN]; exact s.n) hx' (sw_true (by rw [fr.hsc]; exact hk) hx' hl ha) h1 h2 h3 h4 h5 h6) fun σ F H F0 s0 hh => h7 σ F H hh _ fun l xs F' H' st n f e r => ?_
  have hB : B.H l = none := fresh_of hh.st n
  have := (hh.step st).set s.lt (v := .ref l) (s := .own ds) ⟨l, xs, rfl, hB, f, e, r⟩ fun _ a ea j t ej ot => by
    cases ea
    exact hh.fresh n ej ot
  rw [← s.r] at this
  exact hr.run _ F' H' F0 (s0.trans st.ext) this
/-- y = [..], y captured further down -/
theorem ex_lcC {elt tg it : Expr} (fr : Fr X sc N Vs L G k) (h : LcV X B (.ListComp elt [⟨tg, it, ifs, 0⟩] scope pos) ρ pi ds pj) (s : Sto N ρ i x (.own ds) ρ') (hL : x ∈ L) (hx : sc.names.lookup x = some .cell) (hr : Ex X B rest ρ' pj R) : Ex X B (.Assign [.Name x py] (.ListComp elt [⟨tg, it, ifs, 0⟩] scope pos) spos :: rest) ρ pi R := by
  have hx' : X.env.kindOf x = some .cell := by
    show X.env.scope.names.lookup x = some .cell
    rw [fr.hsc]
    exact hx
  have hsw : swapsWith (.ListComp elt [⟨tg, it, ifs, 0⟩] scope pos) (some (.Name x py)) spos.line X.env = pure false := by
    unfold swapsWith
    simp only [hx']
    show (pure _ : Sem Bool) = pure false
    congr 1
    cases X.env.blockKind <;> rfl
  refine .cons (ps_set (i := i) (by rw [fr.hN]; exact fr.nd) (by rw [fr.hN]; exact s.n) (fr.sto x hL).1 pe_W hsw (fr.sto x hL).2) fun σ F H F0 s0 hh => (h.evo fr).run σ F H hh _ fun l xs F' H' st n f e r => ?_
  have hB : B.H l = none := fresh_of hh.st n
  have := (hh.step st).set s.lt (v := .ref l) (s := .own ds) ⟨l, xs, rfl, hB, f, e, r⟩ fun _ a ea j t ej ot => by
    cases ea
    exact hh.fresh n ej ot
  rw [← s.r] at this
  exact hr.run _ F' H' F0 (s0.trans st.ext) this

/-! ### the usual forms -/
/-- [f x for x in xs], no draws -/
theorem lcv_map {α : Type} {xs : List α} {enc f : α → D} {own : List (Str × Nat)} (Vs' L' G' : List Str) (ρf : α → List Slot) (is : List Nat) (fr : Fr X sc N Vs L G k) (hb : blkAll N sc scope own Vs' L' G' = true) (hi : EvI X B tg it ρ pi (xs.map enc) pj) (hsz : xs.length < 100000) (hown : ∀ j ∈ is, j ∈ own.map (·.2))
    (ha : ∀ x ∈ xs, ∀ X', Sub X X' → Fr X' (relS scope sc) N Vs' L' G' k → Asg X' B tg (enc x) (wipeS ρ (own.map (·.2))) (ρf x) is)
    (he : ∀ x ∈ xs, ∀ X', Sub X X' → Fr X' (relS scope sc) N Vs' L' G' k → Ev X' B elt (ρf x) pj (f x) pj)
    (hs : ∀ env x, foldedSetIterable it env x = pure x := by intro _ _; rfl) : LcV X B (.ListComp elt [⟨tg, it, [], 0⟩] scope pos) ρ pi (xs.map f) pj := by
  have h := lcv (pos := pos) (ifs := []) fr hb hi (Nat.zero_le _) (fun i => (xs.take i).map f) (fun _ => pj) rfl rfl (fun i hi => by simp at hi ⊢; omega) (fun i d ed => by
    rw [List.getElem?_map] at ed
    cases ex : xs[i]? with
    | none => rw [ex] at ed; cases ed
    | some x =>
      rw [ex] at ed
      cases ed
      have hm := List.mem_of_getElem? ex
      exact ⟨[f x], ⟨ρf x, is, hown, ha x hm, f x, rfl, he x hm⟩, by rw [List.take_add_one, ex, List.map_append]; rfl⟩) hs
  have e : ((xs.take (xs.map enc).length).map f) = xs.map f := by rw [List.length_map, List.take_length]
  rw [e] at h
  exact h
/-- [f x for x in xs if p x] -/
theorem lcv_filter {α : Type} {xs : List α} {enc f : α → D} {p : α → Bool} {own : List (Str × Nat)} (Vs' L' G' : List Str) (ρf : α → List Slot) (is : List Nat) (fr : Fr X sc N Vs L G k) (hb : blkAll N sc scope own Vs' L' G' = true) (hi : EvI X B tg it ρ pi (xs.map enc) pj) (hsz : xs.length < 100000) (hown : ∀ j ∈ is, j ∈ own.map (·.2))
    (ha : ∀ x ∈ xs, ∀ X', Sub X X' → Fr X' (relS scope sc) N Vs' L' G' k → Asg X' B tg (enc x) (wipeS ρ (own.map (·.2))) (ρf x) is)
    (ht : ∀ x ∈ xs, ∀ X', Sub X X' → Fr X' (relS scope sc) N Vs' L' G' k → EvT X' B c (ρf x) pj (p x) pj)
    (he : ∀ x ∈ xs, p x = true → ∀ X', Sub X X' → Fr X' (relS scope sc) N Vs' L' G' k → Ev X' B elt (ρf x) pj (f x) pj)
    (hs : ∀ env x, foldedSetIterable it env x = pure x := by intro _ _; rfl) : LcV X B (.ListComp elt [⟨tg, it, [c], 0⟩] scope pos) ρ pi ((xs.filter p).map f) pj := by
  have h := lcv (pos := pos) (ifs := [c]) fr hb hi (Nat.le_refl _) (fun i => ((xs.take i).filter p).map f) (fun _ => pj) rfl rfl (fun i hi => by
    have h1 := List.length_filter_le p (xs.take i)
    simp at hi h1 ⊢
    omega) (fun i d ed => by
    rw [List.getElem?_map] at ed
    cases ex : xs[i]? with
    | none => rw [ex] at ed; cases ed
    | some x =>
      rw [ex] at ed
      cases ed
      have hm := List.mem_of_getElem? ex
      cases hp : p x with
      | true => exact ⟨[f x], ⟨ρf x, is, hown, ha x hm, true, (by rw [← hp]; exact ht x hm), fun _ => ⟨f x, rfl, he x hm hp⟩, (fun z => nomatch z)⟩, by rw [List.take_add_one, ex, List.filter_append, List.map_append]; simp [hp]⟩
      | false => exact ⟨[], ⟨ρf x, is, hown, ha x hm, false, (by rw [← hp]; exact ht x hm), (fun z => nomatch z), fun _ => ⟨rfl, rfl⟩⟩, by rw [List.take_add_one, ex, List.filter_append, List.map_append]; simp [hp]⟩) hs
  have e : (((xs.take (xs.map enc).length).filter p).map f) = (xs.filter p).map f := by rw [List.length_map, List.take_length]
  rw [e] at h
  exact h
/-- draws in a row -/
def scanL {α β : Type} (f : α → Pl → β × Pl) : List α → Pl → List β × Pl
  | [], q => ([], q)
  | x :: xs, q => ((f x q).1 :: (scanL f xs (f x q).2).1, (scanL f xs (f x q).2).2)
theorem scanL_snoc {α β : Type} (f : α → Pl → β × Pl) : ∀ (xs : List α) (x : α) (q : Pl), scanL f (xs ++ [x]) q = ((scanL f xs q).1 ++ [(f x (scanL f xs q).2).1], (f x (scanL f xs q).2).2)
  | [], _, _ => rfl
  | y :: ys, x, q => by
    show ((f y q).1 :: (scanL f (ys ++ [x]) (f y q).2).1, (scanL f (ys ++ [x]) (f y q).2).2) = _
    rw [scanL_snoc f ys x (f y q).2]
    rfl
theorem scanL_inv {α β : Type} {f : α → Pl → β × Pl} {I : Pl → Prop} (h : ∀ x q, I q → I (f x q).2) : ∀ (xs : List α) (q : Pl), I q → I (scanL f xs q).2
  | [], _, hq => hq
  | x :: xs, q, hq => scanL_inv h xs _ (h x q hq)
theorem scanL_len {α β : Type} {f : α → Pl → β × Pl} : ∀ (xs : List α) (q : Pl), (scanL f xs q).1.length = xs.length
  | [], _ => rfl
  | x :: xs, q => congrArg (· + 1) (scanL_len xs _)
theorem scanL_all {α β : Type} {f : α → Pl → β × Pl} {I : Pl → Prop} {J : β → Prop} (h : ∀ x q, I q → I (f x q).2) (hj : ∀ x q, I q → J (f x q).1) : ∀ (xs : List α) (q : Pl), I q → ∀ y ∈ (scanL f xs q).1, J y
  | [], _, _, _, hy => by cases hy
  | x :: xs, q, hq, y, hy => by
    rcases List.mem_cons.mp hy with rfl | hy
    · exact hj x q hq
    · exact scanL_all h hj xs _ (h x q hq) y hy
theorem lcv_scan {α β : Type} {xs : List α} {enc : α → D} {dec : β → D} {f : α → Pl → β × Pl} {q : Pl} {own : List (Str × Nat)} (Vs' L' G' : List Str) (I : Pl → Prop) (ρf : α → List Slot) (is : List Nat) (fr : Fr X sc N Vs L G k) (hb : blkAll N sc scope own Vs' L' G' = true) (hi : EvI X B tg it ρ pi (xs.map enc) (some q)) (hsz : xs.length < 100000) (hown : ∀ j ∈ is, j ∈ own.map (·.2))
    (hq : I q) (hI : ∀ x q, I q → I (f x q).2)
    (ha : ∀ x ∈ xs, ∀ X', Sub X X' → Fr X' (relS scope sc) N Vs' L' G' k → Asg X' B tg (enc x) (wipeS ρ (own.map (·.2))) (ρf x) is)
    (he : ∀ x ∈ xs, ∀ q, I q → ∀ X', Sub X X' → Fr X' (relS scope sc) N Vs' L' G' k → Ev X' B elt (ρf x) (some q) (dec (f x q).1) (some (f x q).2))
    (hs : ∀ env x, foldedSetIterable it env x = pure x := by intro _ _; rfl) : LcV X B (.ListComp elt [⟨tg, it, [], 0⟩] scope pos) ρ pi ((scanL f xs q).1.map dec) (some (scanL f xs q).2) := by
  have h := lcv (pos := pos) (ifs := []) fr hb hi (Nat.zero_le _) (fun i => (scanL f (xs.take i) q).1.map dec) (fun i => some (scanL f (xs.take i) q).2) rfl rfl (fun i hi => by
    rw [List.length_map, scanL_len]
    simp at hi ⊢
    omega) (fun i d ed => by
    rw [List.getElem?_map] at ed
    cases ex : xs[i]? with
    | none => rw [ex] at ed; cases ed
    | some x =>
      rw [ex] at ed
      cases ed
      have hm := List.mem_of_getElem? ex
      have et : xs.take (i + 1) = xs.take i ++ [x] := by rw [List.take_add_one, ex]; rfl
      refine ⟨[dec (f x (scanL f (xs.take i) q).2).1], ⟨ρf x, is, hown, ha x hm, _, rfl, ?_⟩, ?_⟩
      · rw [et, scanL_snoc]
        exact he x hm _ (scanL_inv hI _ _ hq)
      · rw [et, scanL_snoc, List.map_append]
        rfl) hs
  have e : xs.take (xs.map enc).length = xs := by rw [List.length_map, List.take_length]
  rw [e] at h
  exact h
end
end Fs
-- FsH
/-! Rules in the shape that a search from the first goal on can use. -/
namespace Fs
open PySem PySem.Spec PyProof.Rows L2

section
variable {X : Cx} {sc : Scope} {B : Base} {N Vs L G : List Str} {k : Nat} {ρ ρ' : List Slot} {pi pj pk pl : PSt} {pos pos' apos cpos p1 p2 : Pos} {e a b c tg : Expr} {es : List Expr} {st : Stmt} {rest body orelse : List Stmt} {d da db dc : D} {ds : List D} {x : Str} {i : Nat} {m n : Int} {R : Rt}

/-! ### two operands -/
def BinD (X : Cx) (op : Operator) (da db d : D) : Prop := ∃ r, OpR X (binaryOp op) r ∧ OpD X.K r da db d
def BinO (X : Cx) (op : Operator) (da db : D) (ds : List D) : Prop := ∃ r, OpR X (binaryOp op) r ∧ OpO X.K r da db ds
def CmpD (X : Cx) (op : CmpOp) (da db : D) (p : Bool) : Prop := ∃ r, OpR X (compareOp op) r ∧ OpD X.K r da db (.bool p)
def IxD (X : Cx) (da db d : D) : Prop := ∃ r, IxR X r ∧ OpD X.K r da db d
theorem ev_bin {op : Operator} (ha : Ev X B a ρ pi da pj) (hb : Ev X B b ρ pj db pk) (h : BinD X op da db d) : Ev X B (.BinOp a op b pos) ρ pi d pk :=
  let ⟨_, h1, h2⟩ := h; ev_op h1 ha hb h2
theorem evo_bin {op : Operator} (ha : Ev X B a ρ pi da pj) (hb : Ev X B b ρ pj db pk) (h : BinO X op da db ds) : EvO X B (.BinOp a op b pos) ρ pi ds pk :=
  let ⟨_, h1, h2⟩ := h; evo_op h1 ha hb h2
theorem ev_cmp1 {op : CmpOp} {p : Bool} (ha : Ev X B a ρ pi da pj) (hb : Ev X B b ρ pj db pk) (h : CmpD X op da db p) (hm : behindInMarks op b = false) : Ev X B (.Compare a [op] [b] pos) ρ pi (.bool p) pk :=
  let ⟨_, h1, h2⟩ := h; ev_cmp h1 ha hb hm h2
theorem et_cmp1 {op : CmpOp} {p : Bool} (ha : Ev X B a ρ pi da pj) (hb : Ev X B b ρ pj db pk) (h : CmpD X op da db p) (hm : behindInMarks op b = false) : EvT X B (.Compare a [op] [b] pos) ρ pi p pk :=
  let ⟨_, h1, h2⟩ := h; et_cmp h1 ha hb hm h2
theorem ev_ix (ha : Ev X B a ρ pi da pj) (hb : Ev X B b ρ pj db pk) (h : IxD X da db d) (hs : PlainIx b) : Ev X B (.Subscript a b pos) ρ pi d pk := by
  obtain ⟨r, h1, h2⟩ := h
  exact .of (pe_ix h1 pe_W pe_W hs) fun σ F H hh Q q => two hh ha hb fun F' H' x y st r1 r2 => h2 F' H' pk x y st.g1 r1 r2 Q fun v F2 H2 s2 rv => q v F2 H2 (st.trans s2) rv
theorem bin_add : BinD X .Add (.int m) (.int n) (.int (m + n)) := ⟨_, op_add, opd_I0 fun _ => .int _⟩
theorem bin_sub : BinD X .Sub (.int m) (.int n) (.int (m - n)) := ⟨_, op_sub, opd_I0 fun _ => .int _⟩
theorem bin_mul (h : CMul m n) : BinD X .Mult (.int m) (.int n) (.int (m * n)) := ⟨_, op_mul, opd_I h fun _ => .int _⟩
theorem bin_mod (h : 0 < n) : BinD X .Mod (.int m) (.int n) (.int (m % n)) := ⟨_, op_mod, opd_I h fun _ => .int _⟩
theorem bin_div (h : CDiv m n) : BinD X .FloorDiv (.int m) (.int n) (.int (m / n)) := ⟨_, op_fdiv, opd_I h fun _ => .int _⟩
theorem bin_pow (h : CPow m n) : BinD X .Pow (.int m) (.int n) (.int (m ^ n.toNat)) := ⟨_, op_pow, opd_I h fun _ => .int _⟩
theorem bin_cat {es : List D} (h : ds.length + es.length ≤ 100000) : BinD X .Add (.tuple ds) (.tuple es) (.tuple (ds ++ es)) := ⟨_, op_catA, opd_catT h⟩
theorem bino_cat {es : List D} (h : ds.length + es.length ≤ 100000) : BinO X .Add (.list ds) (.list es) (ds ++ es) := ⟨_, op_cat, opo_catL h⟩
theorem bino_rep (h0 : -1000 ≤ n) (h1 : n ≤ 1000) : BinO X .Mult (.list [d]) (.int n) (List.replicate n.toNat d) := by
  have := opo_rep (K := X.K) (ds := [d]) h0 h1 (by simp)
  rw [rep1] at this
  exact ⟨_, op_rep, this⟩
theorem cmp_lt : CmpD X .Lt (.int m) (.int n) (decide (m < n)) := ⟨_, op_lt, opd_I0 fun _ => .bl _⟩
theorem cmp_le : CmpD X .LtE (.int m) (.int n) (decide (m ≤ n)) := ⟨_, op_le, opd_I0 fun _ => .bl _⟩
theorem cmp_gt : CmpD X .Gt (.int m) (.int n) (decide (n < m)) := ⟨_, op_gt, opd_I0 fun _ => .bl _⟩
theorem cmp_ge : CmpD X .GtE (.int m) (.int n) (decide (n ≤ m)) := ⟨_, op_ge, opd_I0 fun _ => .bl _⟩
theorem cmp_eq : CmpD X .Eq (.int m) (.int n) (decide (m = n)) := ⟨_, op_eq, opd_eqI⟩
theorem cmp_ne : CmpD X .NotEq (.int m) (.int n) (!decide (m = n)) := ⟨_, op_ne, opd_neI⟩
theorem cmp_eqD (fr : Fr X sc N Vs L G k) (sa : SeqAt.shaped da = true) (sb : SeqAt.shaped db = true) : CmpD X .Eq da db (PyData.eqv da db) := ⟨_, op_eqD fr.u64, opd_eqD sa sb⟩
theorem cmp_neD (fr : Fr X sc N Vs L G k) (sa : SeqAt.shaped da = true) (sb : SeqAt.shaped db = true) : CmpD X .NotEq da db (!PyData.eqv da db) := ⟨_, op_neD fr.u64, opd_neD sa sb⟩
theorem cmp_in (fr : Fr X sc N Vs L G k) (sa : SeqAt.shaped d = true) (sb : SeqAt.shaped (.list ds) = true) : CmpD X .In d (.list ds) (ds.any fun z => PyData.eqv z d) := ⟨_, op_inD fr.u65, fun F H pi x y g r1 r2 Q q =>
  ⟨d, ds, (r1.up g.sub).dp _ _ (SeqAt.canLay_of_shaped sa), (r2.up g.sub).dp _ _ (SeqAt.canLay_of_shaped sb), sa, sb, q _ F H (Step.refl g) (.bl _)⟩⟩
theorem cmp_notIn (fr : Fr X sc N Vs L G k) (sa : SeqAt.shaped d = true) (sb : SeqAt.shaped (.list ds) = true) : CmpD X .NotIn d (.list ds) (!ds.any fun z => PyData.eqv z d) := ⟨_, op_notInD fr.u65, fun F H pi x y g r1 r2 Q q =>
  ⟨d, ds, (r1.up g.sub).dp _ _ (SeqAt.canLay_of_shaped sa), (r2.up g.sub).dp _ _ (SeqAt.canLay_of_shaped sb), sa, sb, q _ F H (Step.refl g) (.bl _)⟩⟩
/-- flat things in a list or tuple: numbers and None -/
def flatD : D → Bool
  | .none => true
  | .int _ => true
  | _ => false
def flatEq : D → D → Bool
  | .none, .none => true
  | .int a, .int b => decide (a = b)
  | _, _ => false
theorem rep_flat {K : Frag} {F : Hp} {v : V} (h : Rep K F v d) (f : flatD d = true) : flatV v = true := by
  cases h <;> first | rfl | cases f
theorem reps_flat {K : Frag} {F : Hp} : ∀ {vs : List V} {ds : List D}, Reps K F vs ds → ds.all flatD = true → vs.all flatV = true
  | _, _, .nil, _ => rfl
  | _, _, .cons r t, f => by
    simp only [List.all_cons, Bool.and_eq_true] at f ⊢
    exact ⟨rep_flat r f.1, reps_flat t f.2⟩
theorem eqV_flat {K : Frag} {F : Hp} {v w : V} {d e : D} (h : Rep K F v d) (h' : Rep K F w e) (f : flatD d = true) (f' : flatD e = true) : eqV v w = flatEq d e := by
  cases h <;> first | (exact absurd f Bool.false_ne_true) | (cases h' <;> first | (exact absurd f' Bool.false_ne_true) | (simp [eqV, flatEq]; done) | (simp only [eqV, flatEq]; rw [Bool.beq_eq_decide_eq]))
theorem inV_flat {K : Frag} {F : Hp} {v : V} {d : D} (h : Rep K F v d) (f : flatD d = true) : ∀ {vs : List V} {ds : List D}, Reps K F vs ds → ds.all flatD = true → inV v vs = ds.any fun z => flatEq z d
  | _, _, .nil, _ => rfl
  | _, _, .cons r t, g => by
    simp only [List.all_cons, Bool.and_eq_true] at g
    unfold inV
    simp only [List.any_cons]
    rw [eqV_flat r h g.1 f]
    congr 1
    exact inV_flat h f t g.2
theorem cmp_inT (f : flatD d = true) (g : ds.all flatD = true) : CmpD X .In d (.tuple ds) (ds.any fun z => flatEq z d) := ⟨_, op_in_seq, fun F H pi x y gd r1 r2 Q q => by
  cases r2 with
  | tup h1 h2 =>
    refine ⟨_, _, rfl, .inr (SqT.of (gd.sub _ _ h1)), rep_flat r1 f, reps_flat h2 g, ?_⟩
    rw [inV_flat r1 f h2 g]
    exact q _ F H (Step.refl gd) (.bl _)⟩
theorem cmp_notInT (f : flatD d = true) (g : ds.all flatD = true) : CmpD X .NotIn d (.tuple ds) (!ds.any fun z => flatEq z d) := ⟨_, op_notIn_seq, fun F H pi x y gd r1 r2 Q q => by
  cases r2 with
  | tup h1 h2 =>
    refine ⟨_, _, rfl, .inr (SqT.of (gd.sub _ _ h1)), rep_flat r1 f, reps_flat h2 g, ?_⟩
    rw [inV_flat r1 f h2 g]
    exact q _ F H (Step.refl gd) (.bl _)⟩
theorem cmp_notInL (f : flatD d = true) (g : ds.all flatD = true) : CmpD X .NotIn d (.list ds) (!ds.any fun z => flatEq z d) := ⟨_, op_notIn_seq, fun F H pi x y gd r1 r2 Q q => by
  cases r2 with
  | lst h1 h2 =>
    refine ⟨_, _, rfl, .inl (SqL.of (gd.sub _ _ h1)), rep_flat r1 f, reps_flat h2 g, ?_⟩
    rw [inV_flat r1 f h2 g]
    exact q _ F H (Step.refl gd) (.bl _)⟩
theorem ix_L (h : atI ds n = some d) : IxD X (.list ds) (.int n) d := ⟨_, ix_list, fun F H pi x y g r1 r2 Q q => by
  cases r1 with
  | lst h1 h2 =>
    cases r2
    obtain ⟨v, e1, e2⟩ := h2.atI h
    exact ⟨_, _, _, v, rfl, rfl, SqL.of (g.sub _ _ h1), e1, q v F H (Step.refl g) e2⟩⟩
theorem ix_T (h : atI ds n = some d) : IxD X (.tuple ds) (.int n) d := ⟨_, ix_tup, fun F H pi x y g r1 r2 Q q => by
  cases r1 with
  | tup h1 h2 =>
    cases r2
    obtain ⟨v, e1, e2⟩ := h2.atI h
    exact ⟨_, _, _, v, rfl, rfl, SqT.of (g.sub _ _ h1), e1, q v F H (Step.refl g) e2⟩⟩
/-! ### len, isinstance -/
inductive LenD : D → Nat → Prop
  | lst (ds : List D) : LenD (.list ds) ds.length
  | tup (ds : List D) : LenD (.tuple ds) ds.length
theorem ev_len {z : Nat} (fr : Fr X sc N Vs L G k) (bl : Bl X.mg) (hG : ("len" : Str) ∈ G) (ha : Ev X B a ρ pi d pj) (h : LenD d z) (hs : ∀ r env, starEach (a :: r) env = (false, eval a env) :: starEach r env) : Ev X B (.Call (.Name "len" p1) [a] [] pos) ρ pi (.int z) pj := by
  cases h with
  | lst ds => exact ev_lenL fr bl hG ha hs
  | tup ds => exact ev_lenT fr bl hG ha hs
/-- tuple(list), tuple(tuple) -/
inductive TupD : D → List D → Prop
  | lst (ds : List D) : TupD (.list ds) ds
theorem ev_tuple (fr : Fr X sc N Vs L G k) (bl : Bl X.mg) (hG : ("tuple" : Str) ∈ G) (ha : Ev X B a ρ pi (.list ds) pj) (hs : ∀ r env, starEach (a :: r) env = (false, eval a env) :: starEach r env) : Ev X B (.Call (.Name "tuple" p1) [a] [] pos) ρ pi (.tuple ds) pj := ev_tupL fr bl hG ha hs
theorem ev_int1' (fr : Fr X sc N Vs L G k) (bl : Bl X.mg) (hG : ("int" : Str) ∈ G) (ha : Ev X B a ρ pi (.int n) pj) (hs : ∀ r env, starEach (a :: r) env = (false, eval a env) :: starEach r env) : Ev X B (.Call (.Name "int" p1) [a] [] pos) ρ pi (.int n) pj := ev_int1 fr bl hG ha hs
inductive IsiD : D → Str → Bool → Prop
  | intInt (i : Int) : IsiD (.int i) "int" true
  | intBool (i : Int) : IsiD (.int i) "bool" false
  | tup (ds : List D) : IsiD (.tuple ds) "tuple" true
theorem kit_int_int : kitB (tyD (.int 0)) "int" = some true := by decide +kernel
theorem kit_int_bool : kitB (tyD (.int 0)) "bool" = some false := by decide +kernel
theorem kit_tup : kitB (tyD (.tuple [])) "tuple" = some true := by decide +kernel
theorem ev_isinst {y : Str} {p : Bool} (fr : Fr X sc N Vs L G k) (bl : Bl X.mg) (hG : ("isinstance" : Str) ∈ G) (ha : Ev X B a ρ pi d pj) (h : IsiD d y p) (hy : y ∈ G) (hs : ∀ r env, starEach (a :: r) env = (false, eval a env) :: starEach r env) :
    Ev X B (.Call (.Name "isinstance" p1) [a, .Name y p2] [] pos) ρ pi (.bool p) pj := by
  cases h with
  | intInt i => exact ev_isi fr bl hG ha hy bl.int boot_int' kit_int_int hs
  | intBool i => exact ev_isi fr bl hG ha hy bl.bool boot_bool' kit_int_bool hs
  | tup ds => exact ev_isi fr bl hG ha hy bl.tuple boot_tuple' kit_tup hs
theorem eva_cons' (he : Ev X B e ρ pi d pj) (hs : ∀ r env, starEach (e :: r) env = (false, eval e env) :: starEach r env) (hr : EvA X B es ρ pj ds pk) : EvA X B (e :: es) ρ pi (d :: ds) pk := eva_cons he hr hs
theorem ev_tup' {x1 : Nat} (h : EvA X B es ρ pi ds pj) (hz : ds.length ≤ 100000) : Ev X B (.Tuple es x1 pos) ρ pi (.tuple ds) pj := ev_tup h hz
/-- statements, what is asked last put last -/
theorem ex_asg' (fr : Fr X sc N Vs L G k) (h : Ev X B e ρ pi d pj) (s : Sto N ρ i x (.val d) ρ') (hL : x ∈ L) (hs : ∀ env, swapsWith e (some (.Name x pos')) pos.line env = pure false) (hr : Ex X B rest ρ' pj R) : Ex X B (.Assign [.Name x pos'] e pos :: rest) ρ pi R := ex_asg fr h s hL hr hs
theorem ex_asgO' (fr : Fr X sc N Vs L G k) (h : EvO X B e ρ pi ds pj) (s : Sto N ρ i x (.own ds) ρ') (hL : x ∈ L) (hs : ∀ env, swapsWith e (some (.Name x pos')) pos.line env = pure false) (hr : Ex X B rest ρ' pj R) : Ex X B (.Assign [.Name x pos'] e pos :: rest) ρ pi R := ex_asgO fr h s hL hr hs
theorem ex_append' (fr : Fr X sc N Vs L G k) (l : Look N ρ i x (.own ds)) (hx : x ∈ Vs) (h : Ev X B e ρ pi d pj) (s : Sto N ρ i x (.own (ds ++ [d])) ρ') (hz : ds.length < 100000)
    (hs : ∀ r env, starEach (e :: r) env = (false, eval e env) :: starEach r env) (hline : (apos.endLine == cpos.line) = true) (hr : Ex X B rest ρ' pj R) : Ex X B (.Expr (.Call (.Attribute (.Name x p1) "append" apos) [e] [] cpos) pos :: rest) ρ pi R := ex_append fr l hx h s hz hr hs hline
theorem ex_setL' {j : Nat} (fr : Fr X sc N Vs L G k) (l : Look N ρ i x (.own ds)) (hx : x ∈ Vs) (h : Ev X B e ρ pi d pj) (hb : Ev X B b ρ pj (.int n) pk) (hj : ixN ds.length n = some j) (s : Sto N ρ i x (.own (ds.set j d)) ρ')
    (h1 : ∀ env, swapsWithSole [.Subscript (.Name x p1) b p2] e pos.line env = pure false) (h2 : ∀ env, swappedStores [.Subscript (.Name x p1) b p2] e env = pure none)
    (h3 : ∀ env, (assignEach [.Subscript (.Name x p1) b p2] env).map (·.2) = [assign (.Subscript (.Name x p1) b p2) env])
    (h4 : ∀ env v, assign (.Subscript (.Name x p1) b p2) env v = (do
      let ov ← holding [v] (eval (.Name x p1) env)
      let iv ← holding [v, ov] (eval b env)
      standAt p2
      holding [v, ov, iv] (setItem ov iv v)
      release [v, ov, iv] [])) (hr : Ex X B rest ρ' pk R) :
    Ex X B (.Assign [.Subscript (.Name x p1) b p2] e pos :: rest) ρ pi R := ex_setL fr l hx h hb hj s hr h1 h2 h3 h4
theorem asgs_cons' {ρ2 : List Slot} {is js : List Nat} (h : Asg X B tg d ρ ρ' is) (hs : ∀ env, (assignEach (tg :: es) env).map (·.2) = assign tg env :: (assignEach es env).map (·.2)) (hr : AsgS X B es ds ρ' ρ2 js) : AsgS X B (tg :: es) (d :: ds) ρ ρ2 (is ++ js) := asgs_cons h hr hs
theorem asg_tup' {is : List Nat} {kk : Nat} (fr : Fr X sc N Vs L G k) (h : AsgS X B es ds ρ ρ' is) (hn : ∀ env, (assignEach es env).length = ds.length) (hst : ∀ env, (assignEach es env).findIdx? (·.1) = none) : Asg X B (.Tuple es kk pos) (.tuple ds) ρ ρ' is := asg_tup fr h hn hst
theorem ex_unpack' {is : List Nat} {kk : Nat} (h : Ev X B e ρ pi d pj) (hg : Asg X B (.Tuple es kk pos') d ρ ρ' is)
    (h1 : ∀ env, swapsWithSole [.Tuple es kk pos'] e pos.line env = pure false) (h2 : swappedStores [.Tuple es kk pos'] e X.env = pure none) (hr : Ex X B rest ρ' pj R) : Ex X B (.Assign [.Tuple es kk pos'] e pos :: rest) ρ pi R := ex_unpack h hg hr h1 h2
/-- a def's call, arguments first -/
theorem ev_def {ps : List Str} {g : List D → D → Prop} (fr : Fr X sc N Vs L G k) (hc : Has X k x ps g) (hG : x ∈ G) (ha : EvA X B (e :: es) ρ pi ds pj) (hg : g ds d) : Ev X B (.Call (.Name x p1) (e :: es) [] pos) ρ pi d pj := ev_call fr hc hG ha hg
end
end Fs
-- FsI
/-! Values or new own objects (EvS), stores of them, parallel stores, frames told by tests, comprehensions over such frames. -/
namespace Fs
open PySem PySem.Spec PyProof.Rows L2

def toD : Slot → Option D
  | .val d => some d
  | .own ds => some (.list ds)
  | .odic kvs => some (.dict kvs)
  | _ => none
def SlotNew (K : Frag) (H F' H' : Hp) (v : V) : Slot → Prop
  | .val d => Rep K F' v d
  | .own ds => ∃ l xs, v = .ref l ∧ H l = none ∧ F' l = none ∧ H' l = some (.lst xs) ∧ Reps K F' xs ds
  | .odic kvs => ∃ l xs, v = .ref l ∧ H l = none ∧ F' l = none ∧ H' l = some (.dK xs) ∧ RepK K F' xs kvs
  | _ => False
structure EvS (X : Cx) (B : Base) (e : Expr) (ρ : List Slot) (pi : PSt) (s : Slot) (pj : PSt) : Prop where
  run : ∀ σ F H, Holds X.K B F H σ ρ pi → ∀ Q : VK, (∀ v F' H', Step F H pi F' H' pj → SlotNew X.K H F' H' v s → Q v H') → WE X e σ H Q
section
variable {X : Cx} {sc : Scope} {B : Base} {N Vs L G : List Str} {k : Nat} {ρ ρ' ρ2 : List Slot} {pi pj pk pl : PSt} {pos pos' apos cpos p1 p2 p3 p4 : Pos} {e a b c tg : Expr} {es : List Expr} {st : Stmt} {rest body orelse : List Stmt} {d da db dc : D} {ds : List D} {x y z : Str} {i j : Nat} {m n : Int} {R : Rt} {s s1 s2 : Slot}
theorem Ev.toS (h : Ev X B e ρ pi d pj) : EvS X B e ρ pi (.val d) pj := .mk fun σ F H hh Q q => h.run σ F H hh Q q
theorem EvO.toS (h : EvO X B e ρ pi ds pj) : EvS X B e ρ pi (.own ds) pj := .mk fun σ F H hh Q q => h.run σ F H hh Q fun l xs F' H' st n f e' r => q _ F' H' st ⟨l, xs, rfl, n, f, e', r⟩
theorem EvS.ev (h : EvS X B e ρ pi s pj) (hd : toD s = some d) : Ev X B e ρ pi d pj := .mk fun σ F H hh Q q => h.run σ F H hh Q fun v F' H' st n => by
  cases s with
  | non => cases hd
  | pool => cases hd
  | lock n => cases hd
  | val d' => cases hd; exact q v F' H' st n
  | own ds =>
    cases hd
    obtain ⟨l, xs, rfl, n, f', e', r⟩ := n
    exact q (.ref l) (upd F' l (.lst xs)) H' (st.freeze n f' e') (.lst upd_same (r.up (same_upd f')))
  | odic ds =>
    cases hd
    obtain ⟨l, xs, rfl, n, f', e', r⟩ := n
    exact q (.ref l) (upd F' l (.dK xs)) H' (st.freeze n f' e') (.dic upd_same (r.up (same_upd f')))
theorem EvS.of {t : TE} (hp : PE X e t) (h : ∀ σ F H, Holds X.K B F H σ ρ pi → ∀ Q : VK, (∀ v F' H', Step F H pi F' H' pj → SlotNew X.K H F' H' v s → Q v H') → t σ H Q) : EvS X B e ρ pi s pj :=
  .mk fun σ F H hh Q q pins s I => hp.run pins s σ H Q I (h σ F H hh Q q)
/-- kept along a further step -/
theorem SlotNew.step {K : Frag} {H F1 H1 F2 H2 : Hp} {v : V} (hn : SlotNew K H F1 H1 v s) (np : ∀ l, H l = none → NotP pj l) (t : Step F1 H1 pj F2 H2 pk) : SlotNew K H F2 H2 v s := by
  cases s with
  | non => exact hn
  | pool => exact hn
  | lock n => exact hn
  | val d => exact Rep.up hn t.ext
  | own ds =>
    obtain ⟨l, xs, rfl, n, f, e, r⟩ := hn
    exact ⟨l, xs, rfl, n, by rw [t.new l (by rw [e]; exact fun z => nomatch z)]; exact f, t.fr l _ e (np l n), r.up t.ext⟩
  | odic ds =>
    obtain ⟨l, xs, rfl, n, f, e, r⟩ := hn
    exact ⟨l, xs, rfl, n, by rw [t.new l (by rw [e]; exact fun z => nomatch z)]; exact f, t.fr l _ e (np l n), r.up t.ext⟩
theorem SlotNew.slot {K : Frag} {H F1 H1 : Hp} {v : V} (hn : SlotNew K H F1 H1 v s) (hb : ∀ l, H l = none → B.H l = none) : SlotIn K B F1 H1 pi (some v) s := by
  cases s with
  | non => trivial
  | pool => exact hn.elim
  | lock n => exact hn.elim
  | val d => exact ⟨v, rfl, hn⟩
  | own ds =>
    obtain ⟨l, xs, rfl, n, f, e, r⟩ := hn
    exact ⟨l, xs, rfl, hb l n, f, e, r⟩
  | odic ds =>
    obtain ⟨l, xs, rfl, n, f, e, r⟩ := hn
    exact ⟨l, xs, rfl, hb l n, f, e, r⟩
theorem SlotNew.adr {K : Frag} {H F1 H1 : Hp} {v : V} (hn : SlotNew K H F1 H1 v s) (o : Owned s) : ∃ l, v = .ref l ∧ H l = none ∧ H1 l ≠ none := by
  cases s with
  | non => exact o.elim
  | pool => exact o.elim
  | lock n => exact o.elim
  | val d => exact o.elim
  | own ds =>
    obtain ⟨l, xs, rfl, n, f, e, r⟩ := hn
    exact ⟨l, rfl, n, by rw [e]; exact fun z => nomatch z⟩
  | odic ds =>
    obtain ⟨l, xs, rfl, n, f, e, r⟩ := hn
    exact ⟨l, rfl, n, by rw [e]; exact fun z => nomatch z⟩
/-- stored: known since H0, where the slots held -/
theorem Holds.put {K : Frag} {F H F1 H1 H0 : Hp} {σ : L2.St} {v : V} (h : Holds K B F H σ ρ pi) (st : Step F H pi F1 H1 pj) (hi : i < ρ.length) (hn : SlotNew K H0 F1 H1 v s) (h0 : ∀ l, H0 l = none → H l = none) : Holds K B F1 H1 (σ.set i (some v)) (ρ.set i s) pj :=
  (h.step st).set hi (hn.slot fun l n => fresh_of h.st (h0 l n)) fun o a ea j t ej ot => by
    obtain ⟨l, e, n, _⟩ := hn.adr o
    rw [e] at ea
    cases ea
    exact h.fresh (h0 _ n) ej ot
theorem ex_asgS (fr : Fr X sc N Vs L G k) (h : EvS X B e ρ pi s pj) (hs' : Sto N ρ i x s ρ') (hL : x ∈ L) (hr : Ex X B rest ρ' pj R) (hs : ∀ env, swapsWith e (some (.Name x pos')) pos.line env = pure false) :
    Ex X B (.Assign [.Name x pos'] e pos :: rest) ρ pi R :=
  .cons (ps_set (i := i) (by rw [fr.hN]; exact fr.nd) (by rw [fr.hN]; exact hs'.n) (fr.sto x hL).1 pe_W (hs _) (fr.sto x hL).2) fun σ F H F0 s0 hh => h.run σ F H hh _ fun v F' H' st n => by
    have := hh.put st hs'.lt n fun _ z => z
    rw [← hs'.r] at this
    exact hr.run _ F' H' F0 (s0.trans st.ext) this
/-- a, b = e, f stored in a row -/
theorem ex_par2 (fr : Fr X sc N Vs L G k) {kt k2 : Nat} (ha : EvS X B a ρ pi s1 pj) (hb : EvS X B b ρ pj s2 pk) (t1 : Sto N ρ i x s1 ρ') (t2 : Sto N ρ' j y s2 ρ2) (hij : i ≠ j) (hx : sc.names.lookup x = some .local) (hy : sc.names.lookup y = some .local)
    (hsa : ∀ r env, starEach (a :: r) env = (false, eval a env) :: starEach r env) (hsb : ∀ r env, starEach (b :: r) env = (false, eval b env) :: starEach r env)
    (hw : swappedStores [.Tuple [.Name x p1, .Name y p2] kt p3] (.Tuple [a, b] k2 p4) X.env = pure (some [x, y])) (hr : Ex X B rest ρ2 pk R) :
    Ex X B (.Assign [.Tuple [.Name x p1, .Name y p2] kt p3] (.Tuple [a, b] k2 p4) pos :: rest) ρ pi R :=
  .cons (ps_par (i := i) (j := j) fr.calm (by rw [fr.hN]; exact fr.nd) (by rw [fr.hN]; exact t1.n) (by rw [fr.hN]; exact t2.n) hij (by rw [fr.hsc]; exact hx) (by rw [fr.hsc]; exact hy) (pa_cons pe_W (pa_cons pe_W pa_nil (hsb _ _)) (hsa _ _)) hw) fun σ F H F0 s0 hh =>
    ha.run σ F H hh _ fun v F1 H1 st1 n1 => hb.run σ F1 H1 (hh.step st1) _ fun w F2 H2 st2 n2 => by
      refine ⟨v, w, rfl, ?_⟩
      have h1 := hh.put (st1.trans st2) t1.lt (n1.step (fun l hl => (st1.g0.notP hl).adr st1.adr) st2) fun _ z => z
      rw [← t1.r] at h1
      have hlt : j < ρ'.length := t2.lt
      have h2 := h1.set (i := j) hlt (n2.slot fun l hl => fresh_of hh.st (fresh_of st1 hl)) fun o a ea q t eq ot z => by
        obtain ⟨l2, e2, m2, _⟩ := n2.adr o
        rw [e2] at ea
        cases ea
        by_cases hq : q = i
        · subst hq
          rw [List.getElem?_set_self (by rw [hh.len]; exact t1.lt)] at z
          have hv := Option.some.inj (Option.some.inj z)
          have et : t = s1 := by
            rw [t1.r, List.getElem?_set_self t1.lt] at eq
            exact (Option.some.inj eq).symm
          subst et
          obtain ⟨l1, e1, _, m1⟩ := n1.adr ot
          rw [hv] at e1
          cases e1
          exact m1 m2
        · rw [List.getElem?_set_ne (Ne.symm hq)] at z
          rw [t1.r, List.getElem?_set_ne (Ne.symm hq)] at eq
          exact hh.fresh (fresh_of st1 m2) eq ot z
      rw [← t2.r] at h2
      exact hr.run _ F2 H2 F0 ((s0.trans st1.ext).trans st2.ext) h2
end

/-! ### frames by tests -/
def visOk (sc : Scope) (x : Str) : Bool := visC sc x && !(x == ("__debug__" : Str)) && !(x == ("__classdict__" : Str))
def gloOk (sc : Scope) (x : Str) : Bool := gloC sc x && !(x == ("__debug__" : Str)) && !decide (x = "__name__")
structure FrA (X : Cx) (sc : Scope) (sto : Str → Bool) (N : List Str) (k : Nat) : Prop where
  hN : X.N = N
  hsc : X.env.scope = sc
  nd : N.Nodup
  st : ∀ x, sto x = true → L2.Loc X.env.scope x ∧ (X.fn x = true ∨ X.env.scope.names.lookup x = some .local)
  calm : X.calm = true
  room : Room k X.A
  xe : X.xe = fun _ _ => False
theorem FrA.fr {X : Cx} {sc : Scope} {sto : Str → Bool} {N : List Str} {k : Nat} (h : FrA X sc sto N k) (Vs L G : List Str) (h1 : Vs.all (visOk sc) = true) (h2 : L.all sto = true) (h3 : G.all (gloOk sc) = true) : Fr X sc N Vs L G k := by
  simp only [List.all_eq_true, visOk, gloOk, Bool.and_eq_true, Bool.not_eq_true', decide_eq_false_iff_not] at h1 h2 h3
  exact ⟨h.hN, h.hsc, h.nd, fun x hx => ⟨by rw [h.hsc]; exact vis_of (h1 x hx).1.1, (h1 x hx).1.2, (h1 x hx).2⟩, fun x hx => h.st x (h2 x hx), fun x hx => ⟨by show X.env.scope.names.lookup x = _; rw [h.hsc]; exact glo_of (h3 x hx).1.1, (h3 x hx).1.2, (h3 x hx).2⟩, h.calm, h.room, h.xe⟩
theorem Fr.a {X : Cx} {sc : Scope} {N Vs L G : List Str} {k : Nat} (fr : Fr X sc N Vs L G k) (hfn : ∀ x, X.fn x = true) : FrA X sc (locC sc) N k :=
  ⟨fr.hN, fr.hsc, fr.nd, fun x hx => ⟨by rw [fr.hsc]; exact loc_of hx, .inl (hfn x)⟩, fr.calm, fr.room, fr.xe⟩
def stoB (scope sc : Scope) (x : Str) : Bool := locC (relS scope sc) x && ((match scope.names.lookup x with | some .cell => true | _ => false) || (match (relS scope sc).names.lookup x with | some .local => true | _ => false))
theorem FrA.blk {X : Cx} {sc scope : Scope} {sto : Str → Bool} {N : List Str} {k : Nat} (fr : FrA X sc sto N k) (s : Shared) (H : Hp) (C : Addr) (cl : List (Str × Addr)) (fp : List Addr) :
    FrA (X.blk s H scope (compEnvC scope cl C X.env) fp) (relS scope sc) (stoB scope sc) N k := by
  have es : (X.blk s H scope (compEnvC scope cl C X.env) fp).env.scope = relS scope sc := by
    show relS scope X.env.scope = relS scope sc
    rw [fr.hsc]
  refine ⟨fr.hN, es, fr.nd, fun x hx => ?_, fr.calm, fr.room, rfl⟩
  unfold stoB at hx
  simp only [Bool.and_eq_true, Bool.or_eq_true] at hx
  refine ⟨by rw [es]; exact loc_of hx.1, ?_⟩
  rcases hx.2 with z | z
  · refine .inl ?_
    show (scope.names.lookup x == some .cell) = true
    split at z <;> first
      | (rename_i e; rw [e]; rfl)
      | cases z
  · refine .inr ?_
    rw [es]
    split at z <;> first
      | (rename_i e; exact e)
      | cases z
end Fs
-- FsJ
/-! Codes of expressions and statements over slots, how they run over pure data, how they match the text. -/
namespace Fs
open PySem PySem.Spec PyProof.Rows L2

inductive BO | add | sub | mul | mod | div | pow
inductive CO | eq | ne | lt | le | gt | ge | inn | notin
inductive BF | len | int | tup | lst | max | min | any | sorted
inductive Tg | n (i : Nat) | nil | cons (t ts : Tg) | tup (ts : Tg)
inductive C
  | k (d : D) | v (i : Nat) | g (j : Nat) | bin (o : BO) (a b : C) | cmp (o : CO) (a b : C) | ch (le : Bool) (a b c : C) | isN (neg : Bool) (a : C)
  | and (a b : C) | or (a b : C) | not (a : C) | neg (a : C) | ite (t a b : C)
  | ix (a b : C) | ixO (i : Nat) (b : C) | slTo (a b : C) | slFrom (a b : C) | rev (a : C) | inO (neg : Bool) (a : C) (i : Nat)
  | tup (a : C) | lst (a : C) | dic | nil | cons (a b : C)
  | call (j : Nat) (a : C) | callQ (j i : Nat) (a : C) | fn (f : BF) (a : C) | lenO (i : Nat) | isi (t : Nat) (a : C) | lrng (a : C)
  | get (a b c : C) | getO (i : Nat) (b c : C) | cnt (a n b : C)
  | lc (elt : C) (tg : Tg) (it : C) (own : List (Str × Nat)) | lcIf (elt cond : C) (tg : Tg) (it : C) (own : List (Str × Nat))
  | seq (a : C) | rng1 (a : C) | rng2 (a b : C) | enum (a : C) | zip (a b : C) | seqO (i : Nat) | items (j : Nat) (a : C) | pl (i j : Nat) | plNe (i : Nat)
inductive S
  | nil | asg (i : Nat) (c : C) (r : S) | par2 (i : Nat) (c : C) (j : Nat) (d : C) (r : S) | par3 (i : Nat) (c : C) (j : Nat) (d : C) (l : Nat) (e : C) (r : S) | unp (t : Tg) (c : C) (r : S)
  | frz (i : Nat) (r : S) | app (i : Nat) (c : C) (r : S) | ext (i : Nat) (c : C) (r : S) | setL (i : Nat) (b c : C) (r : S) | setD (i : Nat) (b c : C) (r : S)
  | ite (c : C) (s1 s2 r : S) | «for» (t : Tg) (it : C) (body r : S) | forO (t : Tg) (i : Nat) (body r : S) | whl (c : C) (body r : S) (fuel : Nat) | exp (c : C) (r : S) | ret (c : C) | brk | cont | bad | drw (i j : Nat) (c : C) (r : S) | plPop (i x : Nat) (r : S) | plSet (i j : Nat) (c : C) (r : S)
structure Tab where
  gl : List (Str × Int)
  tb : List (Str × (List D → Option D))
  tq : List (Str × (List D → Pl → Option (D × Pl)))
  tn : List (Str × (List D → Option (List (D × D)))) := []

/-! ### running -/
def Tg.asg : Tg → D → List Slot → Option (List Slot)
  | .n i, d, ρ => if i < ρ.length then some (ρ.set i (.val d)) else none
  | .tup ts, .tuple ds, ρ => ts.asg (.tuple ds) ρ
  | .nil, .tuple [], ρ => some ρ
  | .cons t ts, .tuple (d :: ds), ρ => (t.asg d ρ).bind fun ρ' => ts.asg (.tuple ds) ρ'
  | _, _, _ => none
def Tg.is : Tg → List Nat
  | .n i => [i]
  | .tup ts => ts.is
  | .nil => []
  | .cons t ts => t.is ++ ts.is
abbrev Rs := Option (Slot × PSt)
def dOf (r : Rs) : Option (D × PSt) := r.bind fun z => (toD z.1).map fun d => (d, z.2)
def bOf (r : Rs) : Option (Bool × PSt) := r.bind fun z => match z.1 with | .val (.bool b) => some (b, z.2) | _ => none
def iOf (r : Rs) : Option (Int × PSt) := r.bind fun z => match z.1 with | .val (.int b) => some (b, z.2) | _ => none
def lOf (r : Rs) : Option (List D × PSt) := r.bind fun z => match z.1 with | .val (.list b) => some (b, z.2) | .own b => some (b, z.2) | _ => none
def tOf (r : Rs) : Option (List D × PSt) := r.bind fun z => match z.1 with | .val (.tuple b) => some (b, z.2) | _ => none
def sOf (r : Rs) : Option (List D × PSt) := r.bind fun z => match z.1 with | .val (.tuple b) => some (b, z.2) | .val (.list b) => some (b, z.2) | .own b => some (b, z.2) | _ => none
def small (m : Int) : Bool := decide (-1000 ≤ m) && decide (m ≤ 1000)
def binD : BO → D → D → Option Slot
  | .add, .int m, .int n => some (.val (.int (m + n)))
  | .add, .tuple x, .tuple y => if x.length + y.length ≤ 100000 then some (.val (.tuple (x ++ y))) else none
  | .add, .list x, .list y => if x.length + y.length ≤ 100000 then some (.own (x ++ y)) else none
  | .sub, .int m, .int n => some (.val (.int (m - n)))
  | .mul, .int m, .int n => if (-(2 ^ 64) < m ∧ m < 2 ^ 64) ∨ (-(2 ^ 64) < n ∧ n < 2 ^ 64) then some (.val (.int (m * n))) else none
  | .mul, .list [d], .int n => if small n then some (.own (List.replicate n.toNat d)) else none
  | .mul, .tuple [d], .int n => if 1 ≤ n ∧ n ≤ 1000 then some (.val (.tuple (List.replicate n.toNat d))) else none
  | .mod, .int m, .int n => if 0 < n then some (.val (.int (m % n))) else none
  | .div, .int m, .int n => if 0 < n ∧ n < 1073741824 then some (.val (.int (m / n))) else none
  | .pow, .int m, .int n => if 0 ≤ n ∧ n ≤ 1000000 ∧ m.natAbs < 2 ^ 64 then some (.val (.int (m ^ n.toNat))) else none
  | _, _, _ => none
def cmpD : CO → D → D → Option Bool
  | .lt, .int m, .int n => some (decide (m < n))
  | .le, .int m, .int n => some (decide (m ≤ n))
  | .gt, .int m, .int n => some (decide (n < m))
  | .ge, .int m, .int n => some (decide (n ≤ m))
  | .eq, .int m, .int n => some (decide (m = n))
  | .ne, .int m, .int n => some (!decide (m = n))
  | .eq, .list x, .list [] => some (x.isEmpty)
  | .eq, a, b => if SeqAt.shaped a = true ∧ SeqAt.shaped b = true then some (PyData.eqv a b) else none
  | .ne, a, b => if SeqAt.shaped a = true ∧ SeqAt.shaped b = true then some (!PyData.eqv a b) else none
  | .inn, a, .tuple ds => if flatD a = true ∧ ds.all flatD = true then some (ds.any fun z => flatEq z a) else none
  | .notin, a, .tuple ds => if flatD a = true ∧ ds.all flatD = true then some (!ds.any fun z => flatEq z a) else none
  | .inn, a, .list ds => if SeqAt.shaped a = true ∧ SeqAt.shaped (.list ds) = true then some (ds.any fun z => PyData.eqv z a) else none
  | .notin, a, .list ds => if flatD a = true ∧ ds.all flatD = true then some (!ds.any fun z => flatEq z a) else none
  | _, _, _ => none
def intsOf : List D → Option (List Int)
  | [] => some []
  | .int n :: ds => (intsOf ds).map (n :: ·)
  | _ => none
def boolsOf : List D → Option (List Bool)
  | [] => some []
  | .bool n :: ds => (boolsOf ds).map (n :: ·)
  | _ => none
def maxI : Int → List Int → Int
  | a, [] => a
  | a, b :: r => maxI (if b > a then b else a) r
def minI : Int → List Int → Int
  | a, [] => a
  | a, b :: r => minI (if b < a then b else a) r
/-- tuples of numbers, in order -/
def insC (x : List Int) : List (List Int) → List (List Int)
  | [] => [x]
  | y :: r => if TS.code 64 x ≤ TS.code 64 y then x :: y :: r else y :: insC x r
def sortC : List (List Int) → List (List Int)
  | [] => []
  | x :: r => insC x (sortC r)
def encT (ns : List Int) : D := .tuple (ns.map .int)
def bdT (ns : List Int) : Bool := ns.all fun m => decide (0 ≤ m) && decide (m < 64)
def lenT : List (List Int) → Nat
  | [] => 1
  | x :: _ => x.length
def tupsOf : List D → Option (List (List Int))
  | [] => some []
  | .tuple x :: ds => (intsOf x).bind fun y => (tupsOf ds).map (y :: ·)
  | _ => none
def fnD : BF → List D → Option Slot
  | .len, [.list x] => some (.val (.int x.length))
  | .len, [.tuple x] => some (.val (.int x.length))
  | .int, [.int n] => some (.val (.int n))
  | .tup, [.list x] => some (.val (.tuple x))
  | .lst, [.list x] => some (.own x)
  | .lst, [.tuple x] => some (.own x)
  | .max, [.int m, .int n] => some (.val (.int (if n > m then n else m)))
  | .min, [.int m, .int n] => some (.val (.int (if n < m then n else m)))
  | .max, [.list x] => match intsOf x with | some (a :: r) => some (.val (.int (maxI a r))) | _ => none
  | .min, [.list x] => match intsOf x with | some (a :: r) => some (.val (.int (minI a r))) | _ => none
  | .sorted, [.list x] => match tupsOf x with
    | some ts => if ts.length < 64 ∧ 1 ≤ lenT ts ∧ ts.all (fun t => decide (t.length = lenT ts) && bdT t) = true then some (.own ((sortC ts).map encT)) else none
    | none => none
  | .any, [.list x] => match boolsOf x with | some bs => some (.val (.bool (bs.any id))) | _ => none
  | _, _ => none
def isiD : Nat → D → Option Bool
  | 0, .tuple _ => some true
  | 1, .int _ => some true
  | 2, .int _ => some false
  | _, _ => none
def getK : List (D × D) → Int → Option D
  | [], _ => none
  | (.int k, d) :: r, n => if k = n then some d else getK r n
  | _ :: r, n => getK r n
def setK : List (D × D) → Int → D → List (D × D)
  | [], n, d => [(.int n, d)]
  | (.int k, e) :: r, n, d => if k = n then (.int k, d) :: r else (.int k, e) :: setK r n d
  | z :: r, n, d => z :: setK r n d
/-- keys but once -/
def keysD : List (D × D) → List Int
  | [] => []
  | (.int k, _) :: r => k :: keysD r
  | _ :: r => keysD r
def enumD : Int → List D → List D
  | _, [] => []
  | i, d :: ds => .tuple [.int i, d] :: enumD (i + 1) ds
def zipD : List D → List D → List D
  | a :: x, b :: y => .tuple [a, b] :: zipD x y
  | _, _ => []
def lcGo (f : D → PSt → Option (List D × PSt)) : List D → PSt → Option (List D × PSt)
  | [], p => some ([], p)
  | d :: ds, p => (f d p).bind fun z => (lcGo f ds z.2).map fun y => (z.1 ++ y.1, y.2)
def run (T : Tab) : C → List Slot → PSt → Rs
  | .k d, _, p => some (.val d, p)
  | .v i, ρ, p => match ρ[i]? with | some (.val d) => some (.val d, p) | _ => none
  | .g j, _, p => (T.gl[j]?).map fun z => (.val (.int z.2), p)
  | .bin o a b, ρ, p => (dOf (run T a ρ p)).bind fun x => (dOf (run T b ρ x.2)).bind fun y => (binD o x.1 y.1).map fun s => (s, y.2)
  | .cmp o a b, ρ, p => (dOf (run T a ρ p)).bind fun x => (dOf (run T b ρ x.2)).bind fun y => (cmpD o x.1 y.1).map fun s => (.val (.bool s), y.2)
  | .ch le a b c, ρ, none => (iOf (run T a ρ none)).bind fun x => (iOf (run T b ρ none)).bind fun y => (iOf (run T c ρ none)).bind fun z => match x.2, y.2, z.2 with
      | none, none, none => some (.val (.bool (decide (x.1 ≤ y.1) && (match le with | true => decide (y.1 ≤ z.1) | false => decide (y.1 < z.1)))), none)
      | _, _, _ => none
  | .ch _ _ _ _, _, some _ => none
  | .isN neg a, ρ, p => (dOf (run T a ρ p)).map fun x => (.val (.bool (match neg with | true => !isNone x.1 | false => isNone x.1)), x.2)
  | .and a b, ρ, p => (bOf (run T a ρ p)).bind fun x => match x.1 with | true => (bOf (run T b ρ x.2)).map fun y => (.val (.bool y.1), y.2) | false => some (.val (.bool false), x.2)
  | .or a b, ρ, p => (bOf (run T a ρ p)).bind fun x => match x.1 with | false => (bOf (run T b ρ x.2)).map fun y => (.val (.bool y.1), y.2) | true => some (.val (.bool true), x.2)
  | .not a, ρ, p => (bOf (run T a ρ p)).map fun x => (.val (.bool (!x.1)), x.2)
  | .neg a, ρ, p => (iOf (run T a ρ p)).map fun x => (.val (.int (-x.1)), x.2)
  | .ite t a b, ρ, p => (bOf (run T t ρ p)).bind fun x => match x.1 with | true => (dOf (run T a ρ x.2)).map fun y => (.val y.1, y.2) | false => (dOf (run T b ρ x.2)).map fun y => (.val y.1, y.2)
  | .ix a b, ρ, p => (sOf (run T a ρ p)).bind fun x => (iOf (run T b ρ x.2)).bind fun y => (atI x.1 y.1).map fun d => (.val d, y.2)
  | .ixO i b, ρ, p => match ρ[i]? with | some (.own ds) => (iOf (run T b ρ p)).bind fun y => (atI ds y.1).map fun d => (.val d, y.2) | _ => none
  | .slTo a b, ρ, p => (dOf (run T a ρ p)).bind fun x => (iOf (run T b ρ x.2)).bind fun y => match x.1 with
      | .tuple ds => some (.val (.tuple (cutD ds none (some y.1))), y.2)
      | .list ds => some (.own (cutD ds none (some y.1)), y.2)
      | _ => none
  | .slFrom a b, ρ, p => (tOf (run T a ρ p)).bind fun x => (iOf (run T b ρ x.2)).map fun y => (.val (.tuple (cutD x.1 (some y.1) none)), y.2)
  | .rev a, ρ, p => (tOf (run T a ρ p)).map fun x => (.val (.tuple x.1.reverse), x.2)
  | .inO neg a i, ρ, p => match ρ[i]? with
      | some (.own ds) => (dOf (run T a ρ p)).bind fun x => if SeqAt.shaped x.1 = true ∧ SeqAt.shaped (.list ds) = true then some (.val (.bool (match neg with | true => !(ds.any fun z => PyData.eqv z x.1) | false => ds.any fun z => PyData.eqv z x.1)), x.2) else none
      | _ => none
  | .tup a, ρ, p => (lOf (run T a ρ p)).bind fun x => if x.1.length ≤ 100000 then some (.val (.tuple x.1), x.2) else none
  | .lst a, ρ, p => (lOf (run T a ρ p)).bind fun x => if x.1.length ≤ 100000 then some (.own x.1, x.2) else none
  | .dic, _, p => some (.odic [], p)
  | .nil, _, p => some (.val (.list []), p)
  | .cons a b, ρ, p => (dOf (run T a ρ p)).bind fun x => (lOf (run T b ρ x.2)).map fun y => (.val (.list (x.1 :: y.1)), y.2)
  | .call j a, ρ, p => (lOf (run T a ρ p)).bind fun x => (T.tb[j]?).bind fun f => (f.2 x.1).map fun d => (.val d, x.2)
  | .callQ j i a, ρ, p => match ρ[i]? with
      | some .pool => (lOf (run T a ρ p)).bind fun x => (T.tq[j]?).bind fun f => x.2.bind fun q => (f.2 x.1 q).map fun d => (.val d.1, some d.2)
      | _ => none
  | .fn f a, ρ, p => (lOf (run T a ρ p)).bind fun x => (fnD f x.1).map fun s => (s, x.2)
  | .lenO i, ρ, p => match ρ[i]? with | some (.own ds) => some (.val (.int ds.length), p) | _ => none
  | .isi t a, ρ, p => (dOf (run T a ρ p)).bind fun x => (isiD t x.1).map fun b => (.val (.bool b), x.2)
  | .lrng a, ρ, p => (iOf (run T a ρ p)).bind fun x => if small x.1 then some (.own (rangeD 0 x.1.toNat), x.2) else none
  | .get a b c, ρ, p => (dOf (run T a ρ p)).bind fun x => (iOf (run T b ρ x.2)).bind fun y => (dOf (run T c ρ y.2)).bind fun z => match x.1 with
      | .dict kvs => some (.val ((getK kvs y.1).getD z.1), z.2)
      | _ => none
  | .getO i b c, ρ, p => match ρ[i]? with
      | some (.odic kvs) => (iOf (run T b ρ p)).bind fun y => (dOf (run T c ρ y.2)).map fun z => (.val ((getK kvs y.1).getD z.1), z.2)
      | _ => none
  | .cnt a n b, ρ, p => (tOf (run T a ρ p)).bind fun x => (iOf (run T n ρ x.2)).bind fun y => (iOf (run T b ρ y.2)).bind fun z => (intsOf x.1).bind fun ns =>
      if ¬ (HT.sIx ns.length ns.length (some y.1) = ns.length) then some (.val (.int ((ns.take (HT.sIx ns.length ns.length (some y.1))).countP fun m => decide (m = z.1) : Nat)), z.2) else none
  | .lc elt tg it own, ρ, p => (lOf (run T it ρ p)).bind fun x => (lcGo (fun d q => (tg.asg d (wipeS ρ (own.map (·.2)))).bind fun ρ2 => (dOf (run T elt ρ2 q)).map fun y => ([y.1], y.2)) x.1 x.2).bind fun z =>
      if z.1.length < 100000 then some (.own z.1, z.2) else none
  | .lcIf elt cond tg it own, ρ, p => (lOf (run T it ρ p)).bind fun x => (lcGo (fun d q => (tg.asg d (wipeS ρ (own.map (·.2)))).bind fun ρ2 => match q with
        | none => (bOf (run T cond ρ2 none)).bind fun c => match c.1, c.2 with
          | true, none => (dOf (run T elt ρ2 none)).map fun y => ([y.1], y.2)
          | false, none => some ([], none)
          | _, _ => none
        | some _ => none) x.1 x.2).bind fun z =>
      if z.1.length < 100000 then some (.own z.1, z.2) else none
  | .seq a, ρ, p => (sOf (run T a ρ p)).map fun x => (.val (.list x.1), x.2)
  | .rng1 a, ρ, p => (iOf (run T a ρ p)).bind fun x => if small x.1 then some (.val (.list (rangeD 0 x.1.toNat)), x.2) else none
  | .rng2 a b, ρ, p => (iOf (run T a ρ p)).bind fun x => (iOf (run T b ρ x.2)).bind fun y => if small x.1 && small y.1 then some (.val (.list (rangeD x.1 (y.1 - x.1).toNat)), y.2) else none
  | .enum a, ρ, p => (tOf (run T a ρ p)).map fun x => (.val (.list (enumD 0 x.1)), x.2)
  | .zip a b, ρ, p => (dOf (run T a ρ p)).bind fun x => (dOf (run T b ρ x.2)).bind fun y => match x.1, y.1 with
      | .list u, .list v => some (.val (.list (zipD u v)), y.2)
      | .tuple u, .tuple v => some (.val (.list (zipD u v)), y.2)
      | .list u, .tuple v => some (.val (.list (zipD u v)), y.2)
      | _, _ => none
  | .seqO i, ρ, p => match ρ[i]? with | some (.own ds) => some (.val (.list ds), p) | _ => none
  | .items j a, ρ, p => (lOf (run T a ρ p)).bind fun x => (T.tn[j]?).bind fun f => (f.2 x.1).map fun kvs => (.val (.list (kvs.map fun z => .tuple [z.1, z.2])), x.2)
  | .pl i j, ρ, p => match ρ[i]?, p with
      | some .pool, some q => match j with | 0 => some (.val (.int q.a), some q) | 1 => some (.val (.int q.b), some q) | _ => none
      | _, _ => none
  | .plNe i, ρ, p => match ρ[i]?, p with
      | some .pool, some q => some (.val (.bool (!q.ns.isEmpty)), some q)
      | _, _ => none

inductive Out
  | nx (ρ : List Slot) (p : PSt) | rt (d : D) (p : PSt) | bk (ρ : List Slot) (p : PSt) | ct (ρ : List Slot) (p : PSt)
def Out.then (o : Out) (f : List Slot → PSt → Option Out) : Option Out :=
  match o with
  | .nx ρ p => f ρ p
  | o => some o
def forGo (f : D → List Slot → PSt → Option Out) : List D → List Slot → PSt → Option Out
  | [], ρ, p => some (.nx ρ p)
  | d :: ds, ρ, p => (f d ρ p).bind fun o => match o with
    | .nx ρ2 p2 => forGo f ds ρ2 p2
    | .ct ρ2 p2 => forGo f ds ρ2 p2
    | .bk ρ2 p2 => some (.nx ρ2 p2)
    | .rt d q => some (.rt d q)
def whGo (c : List Slot → PSt → Option (Bool × PSt)) (f : List Slot → PSt → Option Out) : Nat → List Slot → PSt → Option Out
  | 0, _, _ => none
  | n + 1, ρ, p => (c ρ p).bind fun b => match b.1 with
    | false => some (.nx ρ b.2)
    | true => (f ρ b.2).bind fun o => match o with
      | .nx ρ2 p2 => whGo c f n ρ2 p2
      | .ct ρ2 p2 => whGo c f n ρ2 p2
      | .bk ρ2 p2 => some (.nx ρ2 p2)
      | .rt d q => some (.rt d q)
/-- what is owned put away, and back -/
def lockS : Nat → List Slot → List Slot
  | _, [] => []
  | j, s :: r => (match s with | .own _ => .lock j | .odic _ => .lock j | .lock _ => .lock j | s => s) :: lockS (j + 1) r
def unlockS : Nat → List Slot → List Slot → Option (List Slot)
  | _, [], [] => some []
  | j, s :: r, t :: q => match t with
    | .lock n => if n = j then (match s with | .own _ => (unlockS (j + 1) r q).map (s :: ·) | .odic _ => (unlockS (j + 1) r q).map (s :: ·) | .lock _ => (unlockS (j + 1) r q).map (s :: ·) | _ => none) else none
    | t => (unlockS (j + 1) r q).map (t :: ·)
  | _, _, _ => none
def goOn : Option Out → Option Out
  | some (.nx ρ p) => some (.nx ρ p)
  | some (.ct ρ p) => some (.ct ρ p)
  | _ => none
def freeze1 (ρ : List Slot) (i : Nat) : List Slot :=
  match ρ[i]? with
  | some (.own ds) => ρ.set i (.val (.list ds))
  | some (.odic ds) => ρ.set i (.val (.dict ds))
  | _ => ρ
def runS (T : Tab) : S → List Slot → PSt → Option Out
  | .nil, ρ, p => some (.nx ρ p)
  | .asg i c r, ρ, p => (run T c ρ p).bind fun z => if i < ρ.length then runS T r (ρ.set i z.1) z.2 else none
  | .par2 i c j d r, ρ, p => (run T c ρ p).bind fun z => (run T d ρ z.2).bind fun y => if i < ρ.length ∧ j < ρ.length ∧ i ≠ j then runS T r ((ρ.set i z.1).set j y.1) y.2 else none
  | .par3 i c j d l e r, ρ, p => (run T c ρ p).bind fun z => (run T d ρ z.2).bind fun y => (run T e ρ y.2).bind fun x => if i < ρ.length ∧ j < ρ.length ∧ l < ρ.length ∧ i ≠ j ∧ i ≠ l ∧ j ≠ l then runS T r (((ρ.set i z.1).set j y.1).set l x.1) x.2 else none
  | .unp t c r, ρ, p => (dOf (run T c ρ p)).bind fun z => (t.asg z.1 ρ).bind fun ρ2 => runS T r ρ2 z.2
  | .frz i r, ρ, p => runS T r (freeze1 ρ i) p
  | .app i c r, ρ, p => match ρ[i]? with
    | some (.own ds) => (dOf (run T c ρ p)).bind fun z => if ds.length < 100000 then runS T r (ρ.set i (.own (ds ++ [z.1]))) z.2 else none
    | _ => none
  | .ext i c r, ρ, p => match ρ[i]? with
    | some (.own ds) => (lOf (run T c ρ p)).bind fun z => if ds.length + z.1.length < 100000 then runS T r (ρ.set i (.own (ds ++ z.1))) z.2 else none
    | _ => none
  | .setL i b c r, ρ, p => match ρ[i]? with
    | some (.own ds) => (dOf (run T c ρ p)).bind fun z => (iOf (run T b ρ z.2)).bind fun y => (ixN ds.length y.1).bind fun j => runS T r (ρ.set i (.own (ds.set j z.1))) y.2
    | _ => none
  | .setD i b c r, ρ, p => match ρ[i]? with
    | some (.odic kvs) => (dOf (run T c ρ p)).bind fun z => (iOf (run T b ρ z.2)).bind fun y => if kvs.length < 1000 ∧ (keysD kvs).Nodup then runS T r (ρ.set i (.odic (setK kvs y.1 z.1))) y.2 else none
    | _ => none
  | .ite c s1 s2 r, ρ, p => (bOf (run T c ρ p)).bind fun b => (match b.1 with | true => runS T s1 ρ b.2 | false => runS T s2 ρ b.2).bind fun o => o.then (runS T r)
  | .for t it body r, ρ, p => (lOf (run T it ρ p)).bind fun x => (forGo (fun d ρ1 q => (t.asg d ρ1).bind fun ρ2 => runS T body ρ2 q) x.1 ρ x.2).bind fun o => o.then (runS T r)
  | .forO t i body r, ρ, p => match ρ[i]? with
    | some (.own ds) => (forGo (fun d ρ1 q => goOn ((t.asg d ρ1).bind fun ρ2 => runS T body ρ2 q)) ds (lockS 0 ρ) p).bind fun o => match o with
      | .nx ρ1 p1 => (unlockS 0 ρ ρ1).bind fun ρ3 => runS T r ρ3 p1
      | _ => none
    | _ => none
  | .whl c body r fuel, ρ, p => (whGo (fun ρ1 q => bOf (run T c ρ1 q)) (runS T body) fuel ρ p).bind fun o => o.then (runS T r)
  | .exp c r, ρ, p => (dOf (run T c ρ p)).bind fun z => runS T r ρ z.2
  | .ret c, ρ, p => (dOf (run T c ρ p)).map fun z => .rt z.1 z.2
  | .brk, ρ, p => some (.bk ρ p)
  | .cont, ρ, p => some (.ct ρ p)
  | .bad, _, _ => none
  | .drw i j c r, ρ, p => match ρ[i]?, ρ[j]? with
    | some (.own ds), some (.own es) => (iOf (run T c ρ p)).bind fun z => if 0 ≤ z.1 ∧ z.1 < 1000 ∧ ds.length < 100000 ∧ i ≠ j then (es[z.1.toNat]?).bind fun d => runS T r ((ρ.set j (.own (es.eraseIdx z.1.toNat))).set i (.own (ds ++ [d]))) z.2 else none
    | _, _ => none
  | .plPop i x r, ρ, p => match ρ[i]?, p with
    | some .pool, some q => match q.ns with
      | n :: t => if x < ρ.length then runS T r (ρ.set x (.val (.int n))) (some { q with ns := t }) else none
      | [] => none
    | _, _ => none
  | .plSet i j c r, ρ, p => (iOf (run T c ρ p)).bind fun z => match ρ[i]?, z.2 with
    | some .pool, some q => match j with
      | 0 => runS T r ρ (some { q with a := z.1 })
      | 1 => runS T r ρ (some { q with b := z.1 })
      | _ => none
    | _, _ => none
/-- what a def hands back -/
def outD : Option Out → Option D
  | some (.rt d _) => some d
  | some (.nx _ _) => some .none
  | _ => none
def outQ : Option Out → Option (D × Pl)
  | some (.rt d (some q)) => some (d, q)
  | some (.nx _ (some q)) => some (.none, q)
  | _ => none
def defP (T : Tab) (n : Nat) (N : List Str) (s : S) (ds : List D) : Option D := if ds.length = n then outD (runS T s (startS N (ds.map .val)) none) else none
def defQ (T : Tab) (n : Nat) (N : List Str) (s : S) (ds : List D) (q : Pl) : Option (D × Pl) := if ds.length + 1 = n then outQ (runS T s (startS N (.pool :: ds.map .val)) (some q)) else none

/-! ### matching the text -/
def opC : BO → Operator → Bool
  | .add, .Add => true
  | .sub, .Sub => true
  | .mul, .Mult => true
  | .mod, .Mod => true
  | .div, .FloorDiv => true
  | .pow, .Pow => true
  | _, _ => false
def cmC : CO → CmpOp → Bool
  | .eq, .Eq => true
  | .ne, .NotEq => true
  | .lt, .Lt => true
  | .le, .LtE => true
  | .gt, .Gt => true
  | .ge, .GtE => true
  | .inn, .In => true
  | .notin, .NotIn => true
  | _, _ => false
def notStar : Expr → Bool
  | .Starred .. => false
  | _ => true
def notSet : Expr → Bool
  | .Set .. => false
  | _ => true
def notSl : Expr → Bool
  | .Slice .. => false
  | _ => true
def notComp : Expr → Bool
  | .ListComp .. => false
  | .SetComp .. => false
  | .DictComp .. => false
  | _ => true
def plainT : Expr → Bool
  | .UnaryOp .. => false
  | .BoolOp .. => false
  | .IfExp .. => false
  | .Compare .. => false
  | _ => true
def fnN : BF → Str
  | .len => "len"
  | .int => "int"
  | .tup => "tuple"
  | .lst => "list"
  | .max => "max"
  | .min => "min"
  | .any => "any"
  | .sorted => "sorted"
def tyN : Nat → Str
  | 0 => "tuple"
  | 1 => "int"
  | _ => "bool"
def nmC (sc : Scope) (N : List Str) (i : Nat) (x : Str) : Bool := decide (N[i]? = some x) && visOk sc x
def andM (fa fb fw : Expr → Bool) (op : BoolOp) : Expr → Bool
  | .BoolOp op' [x, y] _ => decide (op' = op) && fa x && fb y
  | .BoolOp op' (x :: y :: z :: r) pos => decide (op' = op) && fa x && fw (.BoolOp op (y :: z :: r) pos)
  | _ => false
def isTup : Expr → Bool
  | .Tuple .. => true
  | _ => false
mutual
def Tg.chk (sto : Str → Bool) (N : List Str) : Tg → Expr → Bool
  | .n i, .Name x _ => decide (N[i]? = some x) && sto x
  | .tup ts, .Tuple es _ _ => ts.chks sto N es
  | _, _ => false
def Tg.chks (sto : Str → Bool) (N : List Str) : Tg → List Expr → Bool
  | .nil, [] => true
  | .cons t ts, e :: es => t.chk sto N e && ts.chks sto N es
  | _, _ => false
end
mutual
def chk (T : Tab) (N : List Str) : C → Scope → (Str → Bool) → Expr → Bool
  | .k d, sc, sto, .Constant c _ _ => (match d, c with
      | .none, .none => true
      | .bool a, .bool b => decide (a = b)
      | .int a, .int b => decide (a = b)
      | .str a, .str b => decide (a = b)
      | _, _ => false)
  | .v i, sc, sto, .Name x _ => nmC sc N i x
  | .g j, sc, sto, .Name x _ => (match T.gl[j]? with | some z => decide (z.1 = x) | none => false) && gloOk sc x
  | .bin o a b, sc, sto, .BinOp x op y _ => opC o op && chk T N a sc sto x && chk T N b sc sto y
  | .cmp o a b, sc, sto, .Compare x [op] [y] _ => cmC o op && notSet y && chk T N a sc sto x && chk T N b sc sto y
  | .ch le a b c, sc, sto, .Compare x [o1, o2] [y, z] _ => decide (o1 = .LtE) && decide (o2 = match le with | true => .LtE | false => .Lt) && notSet z && chk T N a sc sto x && chk T N b sc sto y && chk T N c sc sto z
  | .isN neg a, sc, sto, .Compare x [op] [.Constant .none _ _] _ => decide (op = match neg with | true => .IsNot | false => .Is) && chk T N a sc sto x
  | .and a b, sc, sto, e => andM (chk T N a sc sto) (chk T N b sc sto) (chk T N b sc sto) .And e
  | .or a b, sc, sto, e => andM (chk T N a sc sto) (chk T N b sc sto) (chk T N b sc sto) .Or e
  | .not a, sc, sto, .UnaryOp .Not x _ => chk T N a sc sto x
  | .neg a, sc, sto, .UnaryOp .USub x _ => chk T N a sc sto x
  | .ite t a b, sc, sto, .IfExp x y z _ => chkT T N t sc sto x && chk T N a sc sto y && chk T N b sc sto z
  | .ix a b, sc, sto, .Subscript x y _ => notSl y && chk T N a sc sto x && chk T N b sc sto y
  | .ixO i b, sc, sto, .Subscript (.Name x _) y _ => notSl y && nmC sc N i x && chk T N b sc sto y
  | .slTo a b, sc, sto, .Subscript x (.Slice none (some y) none _) _ => chk T N a sc sto x && chk T N b sc sto y
  | .slFrom a b, sc, sto, .Subscript x (.Slice (some y) none none _) _ => chk T N a sc sto x && chk T N b sc sto y
  | .rev a, sc, sto, .Subscript x (.Slice none none (some (.UnaryOp .USub (.Constant (.int n) _ _) _)) _) _ => decide (n = 1) && chk T N a sc sto x
  | .inO neg a i, sc, sto, .Compare x [op] [.Name y _] _ => decide (op = match neg with | true => .NotIn | false => .In) && nmC sc N i y && chk T N a sc sto x
  | .dic, _, _, .Dict [] [] _ => true
  | .lrng a, sc, sto, .Call (.Name x _) [.Call (.Name y _) [e] [] _] [] _ => decide (x = "list") && gloOk sc x && decide (y = "range") && gloOk sc y && notStar e && chk T N a sc sto e
  | .get a b c, sc, sto, .Call (.Attribute (.Name x px) m apos) [e, f] [] cpos => decide (m = "get") && (apos.endLine == cpos.line) && notStar e && notStar f && chk T N a sc sto (.Name x px) && chk T N b sc sto e && chk T N c sc sto f
  | .getO i b c, sc, sto, .Call (.Attribute (.Name x px) m apos) [e, f] [] cpos => decide (m = "get") && (apos.endLine == cpos.line) && notStar e && notStar f && nmC sc N i x && chk T N b sc sto e && chk T N c sc sto f
  | .pl i j, sc, _, .Subscript (.Name x _) (.Constant (.int n) _ _) _ => nmC sc N i x && decide (n = (j : Int))
  | .cnt a n b, sc, sto, .Call (.Attribute (.Subscript e (.Slice none (some f) none _) _) m apos) [g] [] cpos => decide (m = "count") && (apos.endLine == cpos.line) && notStar g && chk T N a sc sto e && chk T N n sc sto f && chk T N b sc sto g
  | .lenO i, sc, _, .Call (.Name x _) [.Name y _] [] _ => decide (x = "len") && gloOk sc x && nmC sc N i y
  | .tup a, sc, sto, .Tuple es _ _ => chkA T N a sc sto es
  | .lst a, sc, sto, .List es _ => chkA T N a sc sto es
  | .call j a, sc, sto, .Call (.Name x _) (e :: es) [] _ => (match T.tb[j]? with | some z => decide (z.1 = x) | none => false) && gloOk sc x && chkA T N a sc sto (e :: es)
  | .callQ j i a, sc, sto, .Call (.Name x _) (.Name y _ :: es) [] _ => (match T.tq[j]? with | some z => decide (z.1 = x) | none => false) && gloOk sc x && nmC sc N i y && chkA T N a sc sto es
  | .fn f a, sc, sto, .Call (.Name x _) (e :: es) [] _ => decide (fnN f = x) && gloOk sc x && chkA T N a sc sto (e :: es)
  | .isi t a, sc, sto, .Call (.Name x _) [e, .Name y _] [] _ => decide (x = "isinstance") && gloOk sc x && decide (tyN t = y) && gloOk sc y && notStar e && chk T N a sc sto e
  | .lc elt tg it own, sc, sto, .ListComp el [⟨te, ie, [], 0⟩] scope _ => blkC N sc scope own && tg.is.all (fun i => (own.map (·.2)).contains i) && notSet ie && chkI T N it sc sto te ie && tg.chk (stoB scope sc) N te && chk T N elt (relS scope sc) (stoB scope sc) el
  | .lcIf elt cond tg it own, sc, sto, .ListComp el [⟨te, ie, [ce], 0⟩] scope _ => blkC N sc scope own && tg.is.all (fun i => (own.map (·.2)).contains i) && notSet ie && chkI T N it sc sto te ie && tg.chk (stoB scope sc) N te && chk T N elt (relS scope sc) (stoB scope sc) el && chkT T N cond (relS scope sc) (stoB scope sc) ce
  | _, _, _, _ => false
def chkT (T : Tab) (N : List Str) : C → Scope → (Str → Bool) → Expr → Bool
  | .cmp o a b, sc, sto, .Compare x [op] [y] _ => cmC o op && notSet y && chk T N a sc sto x && chk T N b sc sto y
  | .ch le a b c, sc, sto, .Compare x [o1, o2] [y, z] _ => decide (o1 = .LtE) && decide (o2 = match le with | true => .LtE | false => .Lt) && notSet z && chk T N a sc sto x && chk T N b sc sto y && chk T N c sc sto z
  | .isN neg a, sc, sto, .Compare x [op] [.Constant .none _ _] _ => decide (op = match neg with | true => .IsNot | false => .Is) && chk T N a sc sto x
  | .and a b, sc, sto, e => andM (chkT T N a sc sto) (chkT T N b sc sto) (chkW T N b sc sto) .And e
  | .or a b, sc, sto, e => andM (chkT T N a sc sto) (chkT T N b sc sto) (chkW T N b sc sto) .Or e
  | .inO neg a i, sc, sto, .Compare x [op] [.Name y _] _ => decide (op = match neg with | true => .NotIn | false => .In) && nmC sc N i y && chk T N a sc sto x
  | .plNe i, sc, _, .Compare (.Subscript (.Name x _) (.Constant (.int n) _ _) _) [.NotEq] [.List [] _] _ => nmC sc N i x && decide (n = 2)
  | .not a, sc, sto, .UnaryOp .Not x _ => chkT T N a sc sto x
  | .k d, sc, sto, .Constant c _ _ => (match d, c with
      | .bool a, .bool b => decide (a = b)
      | _, _ => false)
  | .v i, sc, sto, .Name x _ => nmC sc N i x
  | .call j a, sc, sto, .Call (.Name x _) (e :: es) [] _ => (match T.tb[j]? with | some z => decide (z.1 = x) | none => false) && gloOk sc x && chkA T N a sc sto (e :: es)
  | .fn f a, sc, sto, .Call (.Name x _) (e :: es) [] _ => decide (fnN f = x) && gloOk sc x && chkA T N a sc sto (e :: es)
  | .isi t a, sc, sto, .Call (.Name x _) [e, .Name y _] [] _ => decide (x = "isinstance") && gloOk sc x && decide (tyN t = y) && gloOk sc y && notStar e && chk T N a sc sto e
  | _, _, _, _ => false
def chkW (T : Tab) (N : List Str) : C → Scope → (Str → Bool) → Expr → Bool
  | .and a b, sc, sto, e => andM (chkT T N a sc sto) (chkT T N b sc sto) (chkW T N b sc sto) .And e
  | .or a b, sc, sto, e => andM (chkT T N a sc sto) (chkT T N b sc sto) (chkW T N b sc sto) .Or e
  | _, _, _, _ => false
def chkA (T : Tab) (N : List Str) : C → Scope → (Str → Bool) → List Expr → Bool
  | .nil, _, _, [] => true
  | .cons a b, sc, sto, e :: es => notStar e && chk T N a sc sto e && chkA T N b sc sto es
  | _, _, _, _ => false
def chkI (T : Tab) (N : List Str) : C → Scope → (Str → Bool) → Expr → Expr → Bool
  | .seq a, sc, sto, _, e => chk T N a sc sto e
  | .rng1 a, sc, sto, _, .Call (.Name x _) [e] [] _ => decide (x = "range") && gloOk sc x && notStar e && chk T N a sc sto e
  | .rng2 a b, sc, sto, _, .Call (.Name x _) [e, f] [] _ => decide (x = "range") && gloOk sc x && notStar e && notStar f && chk T N a sc sto e && chk T N b sc sto f
  | .enum a, sc, sto, tg, .Call (.Name x _) [e] [] _ => isTup tg && decide (x = "enumerate") && gloOk sc x && notStar e && chk T N a sc sto e
  | .items j a, sc, sto, tg, .Call (.Attribute (.Call (.Name x _) (e :: es) [] _) m apos) [] [] cpos => isTup tg && decide (m = "items") && (apos.endLine == cpos.line) && (match T.tn[j]? with | some z => decide (z.1 = x) | none => false) && gloOk sc x && chkA T N a sc sto (e :: es)
  | .zip a b, sc, sto, tg, .Call (.Name x _) [e, f] [] _ => isTup tg && decide (x = "zip") && gloOk sc x && notStar e && notStar f && chk T N a sc sto e && chk T N b sc sto f
  | _, _, _, _, _ => false
end
def lcOkS (sc : Scope) (x : Str) (px : Pos) : Expr → Bool
  | .ListComp _ [⟨_, _, _, _⟩] scope p => decide (sc.names.lookup x = some .cell) || (decide (sc.names.lookup x = some .local) && decide (sc.kind = .function) && (px.line == p.line) && !(scope.names.any fun (n, k) => n == x && (k == .local || k == .cell)))
  | e => notComp e
/-- the stores of a display in a row, or not -/
def parOk (sc : Scope) (x y : Str) (px py : Pos) (a b : Expr) : Bool :=
  decide (sc.kind = .function) && decide (sc.names.lookup x = some .local) && decide (sc.names.lookup y = some .local) && decide (px.line = py.line) && decide (x ≠ y) && notStar a && notStar b && !([a, b].all (foldedForSure 8)) && !([a, b].all (constantsAlone 8))
def parOk3 (sc : Scope) (x y z : Str) (px py pz : Pos) (a b c : Expr) : Bool :=
  decide (sc.kind = .function) && decide (sc.names.lookup x = some .local) && decide (sc.names.lookup y = some .local) && decide (sc.names.lookup z = some .local) && decide (px.line = py.line) && decide (px.line = pz.line) && decide (x ≠ y) && decide (x ≠ z) && decide (y ≠ z) && notStar a && notStar b && notStar c && !([a, b, c].all (foldedForSure 8)) && !([a, b, c].all (constantsAlone 8))
def unpOk (sc : Scope) (ts : List Expr) : Expr → Bool
  | .Tuple vs _ _ => vs.all (foldedForSure 8) || (match ts with | [.Name x _, .Name y _] => decide (sc.names.lookup x = some .cell) || decide (sc.names.lookup y = some .cell) | _ => false)
  | .List .. => false
  | _ => true
def chkS (T : Tab) (N : List Str) (sc : Scope) (sto : Str → Bool) : S → List Stmt → Bool
  | .nil, [] => true
  | .asg i c r, .Assign [.Name x px] e pos :: rest => decide (N[i]? = some x) && sto x && lcOkS sc x px e && chk T N c sc sto e && chkS T N sc sto r rest
  | .par2 i c j d r, .Assign [.Tuple [.Name x px, .Name y py] _ _] (.Tuple [a, b] _ _) pos :: rest => decide (N[i]? = some x) && decide (N[j]? = some y) && parOk sc x y px py a b && chk T N c sc sto a && chk T N d sc sto b && chkS T N sc sto r rest
  | .par3 i c j d l f r, .Assign [.Tuple [.Name x px, .Name y py, .Name z pz] _ _] (.Tuple [a, b, e] _ _) pos :: rest => decide (N[i]? = some x) && decide (N[j]? = some y) && decide (N[l]? = some z) && parOk3 sc x y z px py pz a b e && chk T N c sc sto a && chk T N d sc sto b && chk T N f sc sto e && chkS T N sc sto r rest
  | .unp t c r, .Assign [.Tuple ts k p] e pos :: rest => unpOk sc ts e && t.chk sto N (.Tuple ts k p) && chk T N c sc sto e && chkS T N sc sto r rest
  | .frz i r, sts => chkS T N sc sto r sts
  | .app i c r, .Expr (.Call (.Attribute (.Name x _) a apos) [e] [] cpos) _ :: rest => decide (a = "append") && (apos.endLine == cpos.line) && notStar e && nmC sc N i x && chk T N c sc sto e && chkS T N sc sto r rest
  | .ext i c r, .Expr (.Call (.Attribute (.Name x _) a apos) [e] [] cpos) _ :: rest => decide (a = "extend") && (apos.endLine == cpos.line) && notStar e && nmC sc N i x && chk T N c sc sto e && chkS T N sc sto r rest
  | .setL i b c r, .Assign [.Subscript (.Name x _) y _] e _ :: rest => notSl y && notComp e && nmC sc N i x && chk T N c sc sto e && chk T N b sc sto y && chkS T N sc sto r rest
  | .setD i b c r, .Assign [.Subscript (.Name x _) y _] e _ :: rest => notSl y && notComp e && nmC sc N i x && chk T N c sc sto e && chk T N b sc sto y && chkS T N sc sto r rest
  | .drw i j c r, .Expr (.Call (.Attribute (.Name x _) m1 apos) [.Call (.Attribute (.Name y _) m2 apos2) [e] [] cpos2] [] cpos) _ :: rest => decide (m1 = "append") && decide (m2 = "pop") && (apos.endLine == cpos.line) && (apos2.endLine == cpos2.line) && notStar e && nmC sc N i x && nmC sc N j y && chk T N c sc sto e && chkS T N sc sto r rest
  | .plPop i x r, .Assign [.Name y _] (.Call (.Name f _) [.Call (.Attribute (.Subscript (.Name z _) (.Constant (.int n) _ _) _) m apos) [.Constant (.int n0) _ _] [] cpos] [] _) _ :: rest => decide (n = 2) && decide (n0 = 0) && decide (f = "int") && decide (m = "pop") && (apos.endLine == cpos.line) && gloOk sc f && nmC sc N i z && decide (N[x]? = some y) && sto y && chkS T N sc sto r rest
  | .plSet i j c r, .Assign [.Subscript (.Name x _) (.Constant (.int n) _ _) _] e _ :: rest => decide (n = (j : Int)) && notComp e && nmC sc N i x && chk T N c sc sto e && chkS T N sc sto r rest
  | .ite c s1 s2 r, .If t b1 b2 _ :: rest => chkT T N c sc sto t && chkS T N sc sto s1 b1 && chkS T N sc sto s2 b2 && chkS T N sc sto r rest
  | .for t it body r, .For te ie b [] _ :: rest => notSet ie && chkI T N it sc sto te ie && t.chk sto N te && chkS T N sc sto body b && chkS T N sc sto r rest
  | .forO t i body r, .For te (.Name x _) b [] _ :: rest => nmC sc N i x && t.chk sto N te && chkS T N sc sto body b && chkS T N sc sto r rest
  | .whl c body r _, .While t b [] _ :: rest => chkT T N c sc sto t && chkS T N sc sto body b && chkS T N sc sto r rest
  | .exp c r, .Expr e _ :: rest => notComp e && chk T N c sc sto e && chkS T N sc sto r rest
  | .ret c, .Return (some e) _ :: _ => chk T N c sc sto e
  | .brk, .Break _ :: _ => true
  | .cont, .Continue _ :: _ => true
  | .bad, _ => true
  | _, _ => false
end Fs
-- FsK
/-! Soundness of the codes: what runs over data is what the text does. -/
namespace Fs
open PySem PySem.Spec PyProof.Rows L2

/-- a promise of a new dict, nobody's yet -/
def spN (K : Frag) (g : List D → List (D × D) → Prop) : Sp := fun vs H Q _ => ∃ F ds kvs, Same F H ∧ Reps K F vs ds ∧ g ds kvs ∧ ∀ v F' H', Step F H none F' H' none → SlotNew K H F' H' v (.odic kvs) → Q v H'
abbrev HasN (X : Cx) (k : Nat) (x : Str) (ps : List Str) (g : List D → List (D × D) → Prop) : Prop := HasS X.prog X.w X.K X.mg X.base k x ps (spN X.K g)
structure En (T : Tab) (X : Cx) (k : Nat) : Prop where
  bl : Bl X.mg
  gl : ∀ (j : Nat) (z : Str × Int), T.gl[j]? = some z → ∃ t, X.mg z.1 = some (.int z.2 t)
  tb : ∀ (j : Nat) (z : Str × (List D → Option D)), T.tb[j]? = some z → ∃ ps, Has X k z.1 ps fun ds d => z.2 ds = some d
  tq : ∀ (j : Nat) (z : Str × (List D → Pl → Option (D × Pl))), T.tq[j]? = some z → ∃ ps, HasQ X k z.1 ps fun q ds d q' => z.2 ds q = some (d, q')
  tn : ∀ (j : Nat) (z : Str × (List D → Option (List (D × D)))), T.tn[j]? = some z → ∃ ps, HasN X k z.1 ps fun ds kvs => z.2 ds = some kvs
theorem En.sub {T : Tab} {X X' : Cx} {k : Nat} (s : Sub X X') (h : En T X k) : En T X' k where
  bl := s.bl h.bl
  gl := s.all (fun _ _ _ mg _ => ∀ (j : Nat) (z : Str × Int), T.gl[j]? = some z → ∃ t, mg z.1 = some (.int z.2 t)) h.gl
  tb := fun j z e => let ⟨ps, q⟩ := h.tb j z e; ⟨ps, s.has q⟩
  tq := fun j z e => let ⟨ps, q⟩ := h.tq j z e; ⟨ps, s.hasQ q⟩
  tn := fun j z e => let ⟨ps, q⟩ := h.tn j z e; ⟨ps, s.all (fun P w K mg base => HasS P w K mg base k z.1 ps (spN K fun ds kvs => z.2 ds = some kvs)) q⟩

section
variable {X : Cx} {sc : Scope} {B : Base} {N Vs L G : List Str} {k : Nat} {ρ ρ' ρ2 : List Slot} {pi pj pk pl : PSt} {pos pos' apos cpos p1 p2 p3 p4 : Pos} {e a b c tg : Expr} {es : List Expr} {st : Stmt} {rest body orelse : List Stmt} {d da db dc : D} {ds : List D} {x y z : Str} {i j : Nat} {m n : Int} {R : Rt} {s s1 s2 : Slot} {q : Bool}

/-! ### side conditions by tests -/
theorem star_of (h : notStar e = true) (r : List Expr) (env : Env) : starEach (e :: r) env = (false, eval e env) :: starEach r env := by
  cases e <;> first | rfl | cases h
theorem set_of (h : notSet e = true) (env : Env) (v : Value) : foldedSetIterable e env v = pure v := by
  cases e <;> first | rfl | cases h
theorem mark_of (h : notSet e = true) (op : CmpOp) : behindInMarks op e = false := by
  cases e <;> first | rfl | cases h
theorem sl_of (h : notSl e = true) : PlainIx e := by
  cases e <;> first | exact fun _ _ => rfl | cases h
theorem comp_of (h : notComp e = true) (t : Option Expr) (l : Nat) (env : Env) : swapsWith e t l env = pure false := by
  cases e <;> first | rfl | cases h
theorem last_of (h : notSet c = true) (o1 o2 : CmpOp) : lastMarks [o1, o2] [b, c] = false := by
  unfold lastMarks
  unfold lastMarks
  exact mark_of h o2

/-! ### and, or that draw -/
theorem ev_andS {p : Bool} (ha : Ev X B a ρ pi (.bool p) pj) (hb : p = true → Ev X B (.BoolOp .And (b :: es) pos) ρ pj (.bool q) pk) (hf : p = false → q = false ∧ pk = pj) : Ev X B (.BoolOp .And (a :: b :: es) pos) ρ pi (.bool q) pk :=
  .of (pe_and pe_W pe_W) fun σ F H h Q z => ha.run σ F H h _ fun v F1 H1 s1 r => ⟨p, r.isB, by
    cases p with
    | true =>
      show WE X _ σ H1 Q
      exact (hb rfl).run σ F1 H1 (h.step s1) Q fun v F2 H2 s2 r2 => z v F2 H2 (s1.trans s2) r2
    | false =>
      show Q (.bl false) H1
      obtain ⟨rfl, rfl⟩ := hf rfl
      exact z _ F1 H1 s1 (.bl false)⟩
theorem ev_orS {p : Bool} (ha : Ev X B a ρ pi (.bool p) pj) (hb : p = false → Ev X B (.BoolOp .Or (b :: es) pos) ρ pj (.bool q) pk) (hf : p = true → q = true ∧ pk = pj) : Ev X B (.BoolOp .Or (a :: b :: es) pos) ρ pi (.bool q) pk :=
  .of (pe_or pe_W pe_W) fun σ F H h Q z => ha.run σ F H h _ fun v F1 H1 s1 r => ⟨p, r.isB, by
    cases p with
    | false =>
      show WE X _ σ H1 Q
      exact (hb rfl).run σ F1 H1 (h.step s1) Q fun v F2 H2 s2 r2 => z v F2 H2 (s1.trans s2) r2
    | true =>
      show Q (.bl true) H1
      obtain ⟨rfl, rfl⟩ := hf rfl
      exact z _ F1 H1 s1 (.bl true)⟩
theorem ew_orS {p : Bool} (ha : EvT X B a ρ pi p pj) (hb : p = false → EvW X B (.BoolOp .Or (b :: es) pos) ρ pj q pk) (hf : p = true → q = true ∧ pk = pj) : EvW X B (.BoolOp .Or (a :: b :: es) pos) ρ pi q pk :=
  .of (pw_or pt_W pw_W) fun σ F H h Q z => ha.run σ F H h _ fun F1 H1 s1 => by
    cases p with
    | false =>
      show WW X _ σ H1 Q
      exact (hb rfl).run σ F1 H1 (h.step s1) Q fun F2 H2 s2 => z F2 H2 (s1.trans s2)
    | true =>
      show Q true H1
      obtain ⟨rfl, rfl⟩ := hf rfl
      exact z F1 H1 s1

/-! ### operators that give a value or a new object -/
def OpS (K : Frag) (r : R2) (da db : D) (s : Slot) : Prop := ∀ F H pi x y, Good F H pi → Rep K F x da → Rep K F y db → ∀ Q : VK, (∀ v F' H', Step F H pi F' H' pi → SlotNew K H F' H' v s → Q v H') → r x y H Q
def BinS (X : Cx) (op : Operator) (da db : D) (s : Slot) : Prop := ∃ r, OpR X (binaryOp op) r ∧ OpS X.K r da db s
theorem BinD.toS {op : Operator} (h : BinD X op da db d) : BinS X op da db (.val d) := let ⟨r, h1, h2⟩ := h; ⟨r, h1, fun F H pi x y g r1 r2 Q q => h2 F H pi x y g r1 r2 Q q⟩
theorem BinO.toS {op : Operator} (h : BinO X op da db ds) : BinS X op da db (.own ds) := let ⟨r, h1, h2⟩ := h; ⟨r, h1, fun F H pi x y g r1 r2 Q q => h2 F H pi x y g r1 r2 Q fun l xs F' H' st n f e r => q _ F' H' st ⟨l, xs, rfl, n, f, e, r⟩⟩
theorem SlotNew.base {K : Frag} {H H2 F' H' : Hp} {v : V} (hn : SlotNew K H2 F' H' v s) (h0 : ∀ l, H2 l = none → H l = none) : SlotNew K H F' H' v s := by
  cases s with
  | non => exact hn
  | pool => exact hn
  | lock n => exact hn
  | val d => exact hn
  | own ds =>
    obtain ⟨l, xs, rfl, n, r⟩ := hn
    exact ⟨l, xs, rfl, h0 l n, r⟩
  | odic ds =>
    obtain ⟨l, xs, rfl, n, r⟩ := hn
    exact ⟨l, xs, rfl, h0 l n, r⟩
theorem evs_bin {op : Operator} (ha : Ev X B a ρ pi da pj) (hb : Ev X B b ρ pj db pk) (h : BinS X op da db s) : EvS X B (.BinOp a op b pos) ρ pi s pk := by
  obtain ⟨r, ho, hr⟩ := h
  exact .of (pe_op ho pe_W pe_W) fun σ F H h Q q => two h ha hb fun F' H' x y st r1 r2 => hr F' H' pk x y st.g1 r1 r2 Q fun v F2 H2 s2 rv => q v F2 H2 (st.trans s2) (rv.base fun l hl => fresh_of st hl)
/-- lists of different lengths -/
theorem op_eqLen (fr : Fr X sc N Vs L G k) : OpR X (compareOp .Eq) (fun x y H Q => ∃ a b xs ys, x = .ref a ∧ y = .ref b ∧ SqL X.K H a xs ∧ SqL X.K H b ys ∧ xs.length ≠ ys.length ∧ Q (.bl false) H) := by
  intro pins s σ H x y v u Q I rx ry h
  obtain ⟨a, b, xs, ys, rfl, rfl, hq, hq2, hne, q⟩ := h
  cases rx
  cases ry
  obtain ⟨its, r, pl, hz⟩ := I.list hq
  obtain ⟨its2, r2, pl2, hz2⟩ := I.list hq2
  obtain ⟨⟨cls, dd, data, sl⟩, ho, hc, n, hd⟩ := id pl.isList
  obtain ⟨⟨cls2, dd2, data2, sl2⟩, ho2, hc2, n2, hd2⟩ := id pl2.isList
  simp only at hc hd hc2 hd2
  subst hc hd hc2 hd2
  have ta : s.TypeIs (.ref a) "list" := ⟨_, ho, rfl⟩
  have tb : s.TypeIs (.ref b) "list" := ⟨_, ho2, rfl⟩
  have hs : (its.toArray.size != its2.toArray.size) = true := by
    rw [List.size_toArray, List.size_toArray, ← r.length, ← r2.length]
    simpa using hne
  have hu : X.A.units < cLine := by have := fr.u1; omega
  exact wpAny_richCompare_same_room (op := .Eq) ta tb F.slot_list_eq (call_meets F.slot_list_eq ta F.entry_list_eq (F.args_list_eq_2 _ _) (SeqAt.list_eq_lengthsAt a b its.toArray its2.toArray n n2 dd dd2 sl sl2 hs)
    ⟨ho, ho2, show Value.bool false ≠ Value.notImplemented ∧ EP X pins σ Q (.bool false) s from ⟨(fun x => nomatch x), ⟨.bl false, H, I, rfl, q⟩⟩⟩) hu
theorem cmp_eqLen (fr : Fr X sc N Vs L G k) {es : List D} (h : ds.length ≠ es.length) : CmpD X .Eq (.list ds) (.list es) false := ⟨_, op_eqLen fr, fun F H pi x y g r1 r2 Q q => by
  cases r1 with
  | lst h1 h2 =>
    cases r2 with
    | lst h3 h4 => exact ⟨_, _, _, _, rfl, rfl, SqL.of (g.sub _ _ h1), SqL.of (g.sub _ _ h3), by rw [h2.len, h4.len]; exact h, q _ F H (Step.refl g) (.bl _)⟩⟩
theorem cmp_snd {o : CO} {op : CmpOp} (fr : Fr X sc N Vs L G k) (ho : cmC o op = true) (h : cmpD o da db = some q) : CmpD X op da db q := by
  unfold cmpD at h
  split at h <;> (cases op <;> first | (exact absurd ho Bool.false_ne_true) | skip)
  · cases h; exact cmp_lt
  · cases h; exact cmp_le
  · cases h; exact cmp_gt
  · cases h; exact cmp_ge
  · cases h; exact cmp_eq
  · cases h; exact cmp_ne
  · rename_i ds
    cases h
    cases ds with
    | nil => exact cmp_eqD fr (by decide +kernel) (by decide +kernel)
    | cons a r => exact cmp_eqLen fr (by simp)
  · split at h
    · rename_i hs
      cases h; exact cmp_eqD fr hs.1 hs.2
    · cases h
  · split at h
    · rename_i hs
      cases h; exact cmp_neD fr hs.1 hs.2
    · cases h
  · split at h
    · rename_i hs
      cases h; exact cmp_inT hs.1 hs.2
    · cases h
  · split at h
    · rename_i hs
      cases h; exact cmp_notInT hs.1 hs.2
    · cases h
  · split at h
    · rename_i hs
      cases h; exact cmp_in fr hs.1 hs.2
    · cases h
  · split at h
    · rename_i hs
      cases h; exact cmp_notInL hs.1 hs.2
    · cases h
  all_goals cases h
end
end Fs
-- FsX
/-! enumerate(tuple), zip: walked over data. -/
namespace Fs
open PySem PySem.Spec PyProof.Rows L2

/-- the tuple at a, each item in a new pair -/
def IteT (K : Frag) (a : Addr) : It :=
  ⟨fun i H => ∃ (xs : List V) (x : V), SqT K H a xs ∧ xs[i]? = some x, fun i H v H' => ∃ T x, v = .ref T ∧ H T = none ∧ H' = upd H T (.tup [.int (i : Nat), x]) ∧ ∀ xs, SqT K H a xs → xs[i]? = some x, fun i H => ∃ xs : List V, SqT K H a xs ∧ xs.length = i⟩
theorem enum_ne {h : Heap} {e it a : Addr} {i : Int} {old : Value} {xs : Array Value} (he : IsEnum h e it i old) (p : h.IsTuple a xs) : e ≠ a := fun z => by
  subst z
  obtain ⟨o, ho, hc, _⟩ := p
  rw [show h.get? e = _ from he] at ho
  cases ho
  simp at hc
theorem iter_ne {h : Heap} {it a : Addr} {i : Nat} {xs : Array Value} (hi : h.IsTupleIter it a i) (p : h.IsTuple a xs) : a ≠ it := fun z => by
  subst z
  obtain ⟨o, ho, hc, _⟩ := p
  obtain ⟨o2, ho2, hc2, _⟩ := hi
  rw [ho] at ho2
  cases ho2
  rw [hc] at hc2
  simp at hc2
theorem turn_enumT {P : Program} {w : World} {K : Frag} {elts : List Expr} {kk : Nat} {tpos : Pos} (a e it : Addr) :
    Turn P w K (.Tuple elts kk tpos) (IteT K a) [e, it] e (fun i h => (∃ old, IsEnum h e it ((i : Nat) : Int) old) ∧ h.IsTupleIter it a i ∧ e ≠ it) where
  mem := by simp
  obj := fun i h st b hb => by
    obtain ⟨⟨old, he⟩, ⟨o, ho, hc, hd⟩, _⟩ := st
    have e' : b = e ∨ b = it := by simpa using hb
    rcases e' with z | z
    · rw [z]; exact ⟨_, he, fun v q => nomatch q⟩
    · rw [z]; exact ⟨o, ho, fun v q => by rw [hd] at q; cases q⟩
  keep := fun i h h' st k => let ⟨⟨old, he⟩, hi, hne⟩ := st; ⟨⟨old, k e (by simp) _ he⟩, hi.at fun o q => k it (by simp) o q, hne⟩
  item := by
    intro X hP hw hK hc i pins s σ H E I hf st hg
    subst hP hw hK
    obtain ⟨⟨old, he⟩, hit, hne⟩ := st
    obtain ⟨xs, x, hq, hx⟩ := hg
    obtain ⟨its, rv, p, hz⟩ := I.tuple hq
    obtain ⟨u, hu, ru⟩ := rv.get hx
    have hel : e < s.heap.objs.size := Heap.lt_size he
    have hil : it < s.heap.objs.size := by obtain ⟨_, q, _⟩ := hit; exact Heap.lt_size q
    have hlt : i < its.toArray.size := by
      have := (List.getElem?_eq_some_iff.mp hu).1
      simpa using this
    refine wpAny_pyNext_enum_itemD (Draws.tuple (show X.A.in1.handled = none from I.ok.hd hc) it a (iter_ne hit p) its.toArray) he ⟨hit, p⟩ hlt hne (by simp [hne, enum_ne he p]) fun y h' tk hy ho hst' hT hsz hk => ?_
    have hyu : y = u := by
      have : its.toArray[i]? = some u := by simpa using hu
      rw [this] at hy
      exact (Option.some.inj hy).symm
    subst hyu
    refine ⟨_, rfl, wpAny_letOwnedTupleGo_enum (s := { s with heap := h', toks := tk + 1 }) ho fun h'' he' sb => ?_⟩
    have hT2 : h''.get? s.heap.objs.size = some { cls := .type "tuple", data := .seq #[.int i tk, y] } := (sb.2 _ (Nat.ne_of_gt hel)).trans hT
    have new : ObjOk X.prog X.w (upd H s.heap.objs.size (.tup [.int (i : Nat), x])) h'' s.heap.objs.size (.tup [.int (i : Nat), x]) :=
      ⟨by show 2 ≤ sizeLine; decide, [.int i tk, y], .cons ⟨_, rfl⟩ (.cons ru .nil), ⟨_, hT2, rfl, _, rfl⟩⟩
    have I1 : Inv X pins σ (upd H s.heap.objs.size (.tup [.int (i : Nat), x])) { s with heap := h'', toks := tk + 1 } :=
      I.turnedNew (t' := tk + 1) (ch := [e, it]) (fun b ob hb q => (sb.2 b (fun z => hb (by simp [z]))).trans (hk b ob (fun z => hb (by simp [z])) (fun z => hb (by simp [z])) q)) hf (Nat.le_refl _) new
    refine ⟨.ref s.heap.objs.size, _, I1, rfl, ⟨_, x, rfl, I.hok.fresh (Nat.le_refl _), rfl, fun ys hy => by rw [I.tuple_inj hy hq]; exact hx⟩, ⟨⟨y, ?_⟩, hst'.1.at fun o q => (sb.2 it (Ne.symm hne)).trans q, hne⟩, fun b hb => ?_⟩
    · have e1 : ((i + 1 : Nat) : Int) = (i : Int) + 1 := by omega
      rw [e1]; exact he'
    · have hb' : b < s.heap.objs.size := by
        have e' : b = e ∨ b = it := by simpa using hb
        rcases e' with z | z
        · rw [z]; exact hel
        · rw [z]; exact hil
      rw [upd_ne (Nat.ne_of_lt hb')]
      exact (hf b hb).1
  done := by
    intro X hP hw hK hc i pins s σ H E I hf st hg
    subst hP hw hK
    obtain ⟨⟨old, he⟩, hit, hne⟩ := st
    obtain ⟨xs, hq, hx⟩ := hg
    obtain ⟨its, rv, p, hz⟩ := I.tuple hq
    obtain ⟨f0, f1, f2, f3, f4, f5⟩ := hf it (by simp)
    have hl := rv.length
    have hn : i = its.toArray.size := by simp; omega
    subst hn
    exact wpAny_pyNext_enum_endD (Draws.tuple (show X.A.in1.handled = none from I.ok.hd hc) it a (iter_ne hit p) its.toArray) he ⟨hit, p⟩ fun h' eb => ⟨rfl, I.turned (t' := s.toks) (fun b o hb q => eb b o hb q) f0 f1 f3 f4 f5⟩
  self := fun A i s Q E st h => let ⟨⟨_, he⟩, _⟩ := st; wpAny_pyIter_enum he h
set_option maxHeartbeats 2000000 in
theorem meets_enumerate_newB1 {v : Value} {o : Obj} {H : Heap → Prop} (B : Begins v o H) :
    Meets (Builtin.«enumerate.__new__» ⟨[.type "enumerate", v], []⟩) (fun _ R s => H s.heap ∧
      R (.ok (.ret (.ref (s.heap.push o).objs.size))) { s with heap := (s.heap.push o).push { cls := .type "enumerate", data := .fields #[.none, .bool false, .ref s.heap.objs.size, rawInt 0, .none, .none] } }) :=
  .of_wp fun prog w A R s h => by
    obtain ⟨hp, g, d, tk, os⟩ := s; obtain ⟨h1, h⟩ := h
    have hsub := sub_enumerate
    have q1 : ∀ {A' : Around} {E : Value → Shared → Prop} {Q : Value → Shared → Prop}, Q (.ref hp.objs.size) ⟨hp.push o, g, d, tk, os⟩ → wpAny (model prog w) A' (pyIter v) Q E ⟨hp, g, d, tk, os⟩ :=
      fun q => B.iter prog w _ _ ⟨hp, g, d, tk, os⟩ _ h1 q
    wp_walk using q1
    refine wpAny_stack_any fun st => wpAny_pure ?_
    split
    · rename_i c _ _ _ _ _
      cases (c == Value.type "enumerate")
      · wp_walk using q1
        exact ⟨_, rfl, h⟩
      · wp_walk using q1
        exact ⟨_, rfl, h⟩
    · wp_walk using q1
      exact ⟨_, rfl, h⟩
section
variable {prog : Program} {w : World} {A : Around} {E : Value → Shared → Prop} {s : Shared}
theorem enum_begins1 {v : Value} {o : Obj} {H : Heap → Prop} {Q : Value → Shared → Prop} (B : Begins v o H) (h1 : H s.heap)
    (h : ∀ h', IsEnum h' (s.heap.objs.size + 1) s.heap.objs.size 0 .none → h'.get? s.heap.objs.size = some o → h'.objs.size = s.heap.objs.size + 2 →
      (∀ b o, s.heap.get? b = some o → h'.get? b = some o) → Q (.ref (s.heap.objs.size + 1)) { s with heap := h' }) :
    wpAny (model prog w) A (call (.type "enumerate") [v]) Q E s := by
  refine callType_new F.called_enumerate (by decide) (F.typeCall_enumerate_1 _) (F.newCall_enumerate_1 _) (fun obj => F.args_object_init_2 obj _) F.entry_enumerate_new
    (meets_enumerate_newB1 B) ⟨h1, ?_⟩
  have hz : (s.heap.push o).objs.size = s.heap.objs.size + 1 := Heap.size_push ..
  show _ ∧ _
  rw [hz]
  have he : IsEnum ((s.heap.push o).push { cls := .type "enumerate", data := .fields #[.none, .bool false, .ref s.heap.objs.size, rawInt 0, .none, .none] }) (s.heap.objs.size + 1) s.heap.objs.size 0 .none := by
    have := Heap.get?_push_size (s.heap.push o) (o := { cls := .type "enumerate", data := .fields #[.none, .bool false, .ref s.heap.objs.size, rawInt 0, .none, .none] }) rfl
    rw [hz] at this; exact this
  exact ⟨⟨_, he, rfl⟩, h _ he (Heap.get?_push_of_some _ (Heap.get?_push_size _ B.free)) (by rw [Heap.size_push, hz]) fun b o x => Heap.get?_push_of_some _ (Heap.get?_push_of_some _ x)⟩
end
def iEnumT (K : Frag) (ta : TA) : TI := fun σ H R => ta σ H fun vs H1 => ∃ a xs, vs = [.ref a] ∧ SqT K H1 a xs ∧ R (IteT K a) H1
theorem pi_enumT {X : Cx} {e : Expr} {ta : TA} {p pos tpos : Pos} {elts : List Expr} {kk : Nat} (hg : Gl X "enumerate") (hm : X.mg "enumerate" = none) (ha : PA X [e] ta) (hs : starEach [e] X.env = [(false, eval e X.env)]) :
    PI X (.Tuple elts kk tpos) (.Call (.Name "enumerate" p) [e] [] pos) (iEnumT X.K ta) := by
  refine ⟨fun pins s σ H R I h => ?_⟩
  refine Call_ (ld_blt I hg hm boot_enumerate (PyProof.Rows.callWith_type1 (thn (ha.run pos pins s σ H _ I h) fun us s1 ⟨vs, H1, I1, r1, q1⟩ => ?_) hs rfl))
  obtain ⟨a, xs, ex, hq, q⟩ := q1
  subst ex
  cases r1 with
  | cons r rr =>
    cases rr
    cases r
    obtain ⟨its, rv, p', hz⟩ := I1.tuple hq
    refine enum_begins1 (begins_tuple a its.toArray) p' fun h' he hit hsz hk => wpAny_pyIter_enum he ?_
    have I2 : Inv X pins σ H1 { s1 with heap := h' } := I1.kept (t' := s1.toks) hk
    refine ⟨s1.heap.objs.size + 1, [s1.heap.objs.size + 1, s1.heap.objs.size], _, _, H1, rfl, I2, turn_enumT a (s1.heap.objs.size + 1) s1.heap.objs.size, ⟨⟨.none, he⟩, ⟨_, hit, rfl, rfl⟩, Nat.succ_ne_self _⟩, fun b hb => ?_, q⟩
    have e' : b = s1.heap.objs.size + 1 ∨ b = s1.heap.objs.size := by simpa using hb
    have hle : s1.heap.objs.size ≤ b := by
      rcases e' with z | z
      · rw [z]; exact Nat.le_add_right _ _
      · rw [z]; exact Nat.le_refl _
    exact I1.fpOk hle (I1.hok.fresh hle)

/-- a list and a tuple, side by side -/
def ItzM (K : Frag) (a b : Addr) : It :=
  ⟨fun i H => ∃ (xs ys : List V) (x y : V), SqL K H a xs ∧ SqT K H b ys ∧ xs[i]? = some x ∧ ys[i]? = some y,
    fun i H v H' => ∃ T x y, v = .ref T ∧ H T = none ∧ H' = upd H T (.tup [x, y]) ∧ (∀ xs, SqL K H a xs → xs[i]? = some x) ∧ ∀ ys, SqT K H b ys → ys[i]? = some y,
    fun i H => ∃ xs ys : List V, SqL K H a xs ∧ SqT K H b ys ∧ i ≤ xs.length ∧ i ≤ ys.length ∧ (i = xs.length ∨ i = ys.length)⟩
theorem liter_ne {h : Heap} {it a : Addr} {i : Nat} {xs : Array Value} (hi : h.IsListIter it a i) (p : h.IsList a xs) : a ≠ it := fun z => by
  subst z
  obtain ⟨o, ho, hc, _⟩ := p
  obtain ⟨o2, ho2, hc2, _⟩ := hi
  rw [ho] at ho2
  cases ho2
  rw [hc] at hc2
  simp at hc2
theorem turn_zipM {P : Program} {w : World} {K : Frag} {elts : List Expr} {kk : Nat} {tpos : Pos} {a b z TI TO i1 i2 : Addr} (D : ZipSep2 z TI TO i1 i2 [i1, a] [i2, b]) :
    Turn P w K (.Tuple elts kk tpos) (ItzM K a b) [z, TI, TO, i1, i2] z (fun i h => IsZip h z TI TO .none ∧ IsTupOf2 h TI (.ref i1) (.ref i2) ∧ (∃ x y, IsTupOf2 h TO x y) ∧ h.IsListIter i1 a i ∧ h.IsTupleIter i2 b i) where
  mem := by simp
  obj := fun i h st c hc => by
    obtain ⟨hz, hTI, ⟨x, y, hTO⟩, ⟨o1, e1, _, d1⟩, ⟨o2, e2, _, d2⟩⟩ := st
    have e' : c = z ∨ c = TI ∨ c = TO ∨ c = i1 ∨ c = i2 := by simpa using hc
    rcases e' with q | q | q | q | q
    · rw [q]; exact ⟨_, hz, fun v q => nomatch q⟩
    · rw [q]; exact ⟨_, hTI, fun v q => nomatch q⟩
    · rw [q]; exact ⟨_, hTO, fun v q => nomatch q⟩
    · rw [q]; exact ⟨o1, e1, fun v q => by rw [d1] at q; cases q⟩
    · rw [q]; exact ⟨o2, e2, fun v q => by rw [d2] at q; cases q⟩
  keep := fun i h h' st k => by
    obtain ⟨hz, hTI, ⟨x, y, hTO⟩, h1, h2⟩ := st
    exact ⟨k z (by simp) _ hz, k TI (by simp) _ hTI, ⟨x, y, k TO (by simp) _ hTO⟩, h1.at fun o q => k i1 (by simp) o q, h2.at fun o q => k i2 (by simp) o q⟩
  item := by
    intro X hP hw hK hc i pins s σ H E I hf st hg
    subst hP hw hK
    obtain ⟨hz, hTI, ⟨x0, y0, hTO⟩, h1, h2⟩ := st
    obtain ⟨xs, ys, x, y, hqx, hqy, hx, hy⟩ := hg
    obtain ⟨its, rv, p, _⟩ := I.list hqx
    obtain ⟨its2, rv2, p2, _⟩ := I.tuple hqy
    obtain ⟨u, hu, ru⟩ := rv.get hx
    obtain ⟨u2, hu2, ru2⟩ := rv2.get hy
    have hzl : z < s.heap.objs.size := Heap.lt_size hz
    have l1 : i < its.toArray.size := by have := (List.getElem?_eq_some_iff.mp hu).1; simpa using this
    have l2 : i < its2.toArray.size := by have := (List.getElem?_eq_some_iff.mp hu2).1; simpa using this
    have hh : X.A.in1.handled = none := I.ok.hd hc
    refine wpAny_pyNext_zipD2_item D (Draws.list hh i1 a (liter_ne h1 p.isList) its.toArray) (Draws.tuple hh i2 b (iter_ne h2 p2) its2.toArray) hz hTI hTO ⟨h1, p.isList⟩ ⟨h2, p2⟩ l1 l2 fun v1 v2 h' tk e1 e2 z' TO' h1' h2' hT hsz hk => ?_
    have q1 : v1 = u := by
      have : its.toArray[i]? = some u := by simpa using hu
      rw [this] at e1
      exact (Option.some.inj e1).symm
    have q2 : v2 = u2 := by
      have : its2.toArray[i]? = some u2 := by simpa using hu2
      rw [this] at e2
      exact (Option.some.inj e2).symm
    subst q1 q2
    refine ⟨_, rfl, wpAny_letOwnedTupleGo_zip (s := { s with heap := h', toks := tk }) z' fun h'' z'' sb => ?_⟩
    have hT2 : h''.get? s.heap.objs.size = some { cls := .type "tuple", data := .seq #[v1, v2] } := (sb.2 _ (Nat.ne_of_gt hzl)).trans hT
    have new : ObjOk X.prog X.w (upd H s.heap.objs.size (.tup [x, y])) h'' s.heap.objs.size (.tup [x, y]) :=
      ⟨by show 2 ≤ sizeLine; decide, [v1, v2], .cons ru (.cons ru2 .nil), ⟨_, hT2, rfl, _, rfl⟩⟩
    have I1 : Inv X pins σ (upd H s.heap.objs.size (.tup [x, y])) { s with heap := h'', toks := tk } :=
      I.turnedNew (t' := tk) (ch := [z, TI, TO, i1, i2]) (fun c o hb q => (sb.2 c (fun q' => hb (by simp [q']))).trans (hk c o (fun q' => hb (by simp [q'])) (fun q' => hb (by simp [q'])) (fun q' => hb (by simp [q'])) (fun q' => hb (by simp [q'])) q)) hf (Nat.le_refl _) new
    have kTI : h'.get? TI = _ := hk _ _ D.TIz D.TITO D.TIi1 D.TIi2 hTI
    refine ⟨.ref s.heap.objs.size, _, I1, rfl, ⟨_, x, y, rfl, I.hok.fresh (Nat.le_refl _), rfl, fun l hl => by rw [I.list_inj hl hqx]; exact hx, fun l hl => by rw [I.tuple_inj hl hqy]; exact hy⟩, ⟨z'', ?_, ⟨v1, v2, ?_⟩, ?_, ?_⟩, fun c hcm => ?_⟩
    · exact (sb.2 _ D.TIz).trans kTI
    · exact (sb.2 _ D.TOz).trans TO'
    · exact h1'.1.at fun o q => (sb.2 _ (Ne.symm D.zi1)).trans q
    · exact h2'.1.at fun o q => (sb.2 _ (Ne.symm D.zi2)).trans q
    · have hlt : c < s.heap.objs.size := by
        have e' : c = z ∨ c = TI ∨ c = TO ∨ c = i1 ∨ c = i2 := by simpa using hcm
        rcases e' with q | q | q | q | q
        · rw [q]; exact hzl
        · rw [q]; exact Heap.lt_size hTI
        · rw [q]; exact Heap.lt_size hTO
        · rw [q]; obtain ⟨_, e1, _⟩ := h1; exact Heap.lt_size e1
        · rw [q]; obtain ⟨_, e2, _⟩ := h2; exact Heap.lt_size e2
      rw [upd_ne (Nat.ne_of_lt hlt)]
      exact (hf c hcm).1
  done := by
    intro X hP hw hK hc i pins s σ H E I hf st hg
    subst hP hw hK
    obtain ⟨hz, hTI, ⟨x0, y0, hTO⟩, h1, h2⟩ := st
    obtain ⟨xs, ys, hqx, hqy, le1, le2, hend⟩ := hg
    obtain ⟨its, rv, p, _⟩ := I.list hqx
    obtain ⟨its2, rv2, p2, _⟩ := I.tuple hqy
    have l1 := rv.length
    have l2 := rv2.length
    have hh : X.A.in1.handled = none := I.ok.hd hc
    exact wpAny_pyNext_zipD2_end D (Draws.list hh i1 a (liter_ne h1 p.isList) its.toArray) (Draws.tuple hh i2 b (iter_ne h2 p2) its2.toArray) hz hTI hTO ⟨h1, p.isList⟩ ⟨h2, p2⟩ (by simp; omega) (by simp; omega) (by simp; omega) fun h' tk hk => ⟨rfl, I.turnedL (t' := tk) (ch := [z, TI, TO, i1, i2]) (fun c o hb q =>
      hk c o (fun q' => hb (by simp [q'])) (fun q' => hb (by simp [q'])) (fun q' => hb (by simp [q'])) (fun q' => hb (by simp [q'])) q) hf⟩
  self := fun A i s Q E st h => wpAny_pyIter_zip st.1 h
def iZipM (K : Frag) (ta : TA) : TI := fun σ H R => ta σ H fun vs H1 => ∃ a b xs ys, vs = [.ref a, .ref b] ∧ SqL K H1 a xs ∧ SqT K H1 b ys ∧ R (ItzM K a b) H1
theorem pi_zipM {X : Cx} {e e2 : Expr} {ta : TA} {p pos tpos : Pos} {elts : List Expr} {kk : Nat} (hg : Gl X "zip") (hm : X.mg "zip" = none) (ha : PA X [e, e2] ta)
    (hs : starEach [e, e2] X.env = (false, eval e X.env) :: starEach [e2] X.env) (hpl : (backTo pos (starEach [e2] X.env)).any (·.1) = false) :
    PI X (.Tuple elts kk tpos) (.Call (.Name "zip" p) [e, e2] [] pos) (iZipM X.K ta) := by
  refine ⟨fun pins s σ H R I h => ?_⟩
  refine Call_ (ld_blt I hg hm PyProof.Rows.boot_zip (PyProof.Rows.callWith_type1 (thn (ha.run pos pins s σ H _ I h) fun us s1 ⟨vs, H1, I1, r1, q1⟩ => ?_) hs hpl))
  obtain ⟨a, b, xs, ys, ex, hqx, hqy, q⟩ := q1
  subst ex
  cases r1 with
  | cons r rr =>
    cases rr with
    | cons r' rr =>
      cases rr
      cases r
      cases r'
      have fresh5 : ∀ c, c ∈ [s1.heap.objs.size + 4, s1.heap.objs.size + 2, s1.heap.objs.size + 3, s1.heap.objs.size, s1.heap.objs.size + 1] → FpOk X pins H1 c := fun c hcm => by
        have e' : c = s1.heap.objs.size + 4 ∨ c = s1.heap.objs.size + 2 ∨ c = s1.heap.objs.size + 3 ∨ c = s1.heap.objs.size ∨ c = s1.heap.objs.size + 1 := by simpa using hcm
        have hle : s1.heap.objs.size ≤ c := by
          rcases e' with z | z | z | z | z
          · rw [z]; exact Nat.le_add_right _ _
          · rw [z]; exact Nat.le_add_right _ _
          · rw [z]; exact Nat.le_add_right _ _
          · rw [z]; exact Nat.le_refl _
          · rw [z]; exact Nat.le_add_right _ _
        exact I1.fpOk hle (I1.hok.fresh hle)
      obtain ⟨its, rv, p1, _⟩ := I1.list hqx
      obtain ⟨its2, rv2, p2, _⟩ := I1.tuple hqy
      obtain ⟨o2, ho2, _⟩ := id p2
      refine zip_begins2 (begins_list a its.toArray) (begins_tuple b its2.toArray) p1.isList p2 fun h' hz hTI hTO h1 h2 hsz hk => wpAny_pyIter_zip hz ?_
      have I2 : Inv X pins σ H1 { s1 with heap := h' } := I1.kept (t' := s1.toks) hk
      exact ⟨s1.heap.objs.size + 4, [s1.heap.objs.size + 4, s1.heap.objs.size + 2, s1.heap.objs.size + 3, s1.heap.objs.size, s1.heap.objs.size + 1], _, _, H1, rfl, I2,
        turn_zipM (zip_sep2 (N := s1.heap.objs.size) (fp1 := [a]) (fp2 := [b]) (fun c hc => by have : c = a := (by simpa using hc); rw [this]; exact p1.lt) (fun c hc => by have : c = b := (by simpa using hc); rw [this]; exact Heap.lt_size ho2)), ⟨hz, hTI, ⟨_, _, hTO⟩, ⟨_, h1, rfl, rfl⟩, ⟨_, h2, rfl, rfl⟩⟩, fresh5, q⟩

/-! ### over data -/
theorem enumD_at : ∀ (ds : List D) (k : Int) (i : Nat), (enumD k ds)[i]? = (ds[i]?).map fun d => .tuple [.int (k + (i : Nat)), d]
  | [], _, i => by simp [enumD]
  | d :: ds, k, 0 => by simp [enumD]
  | d :: ds, k, i + 1 => by
    simp only [enumD, List.getElem?_cons_succ]
    rw [enumD_at ds (k + 1) i]
    congr 1
    funext d
    congr 3
    push_cast
    omega
theorem enumD_len : ∀ (ds : List D) (k : Int), (enumD k ds).length = ds.length
  | [], _ => rfl
  | d :: ds, k => congrArg (· + 1) (enumD_len ds (k + 1))
theorem zipD_at : ∀ (ds es : List D) (i : Nat) (d e : D), ds[i]? = some d → es[i]? = some e → (zipD ds es)[i]? = some (.tuple [d, e])
  | [], _, i, _, _, h, _ => by simp at h
  | _ :: _, [], i, _, _, _, h => by simp at h
  | d :: ds, e :: es, 0, _, _, h, h' => by cases h; cases h'; rfl
  | d :: ds, e :: es, i + 1, _, _, h, h' => by
    simp only [zipD, List.getElem?_cons_succ] at h h' ⊢
    exact zipD_at ds es i _ _ h h'
theorem zipD_len : ∀ (ds es : List D), (zipD ds es).length = min ds.length es.length
  | [], _ => by simp [zipD]
  | _ :: _, [] => by simp [zipD]
  | d :: ds, e :: es => by
    simp only [zipD, List.length_cons, zipD_len ds es]
    omega
theorem walks_enumT {K : Frag} {F : Hp} {l : Addr} {xs : List V} {ds : List D} (h : F l = some (.tup xs)) (r : Reps K F xs ds) : Walks K F (Same F) (IteT K l) (enumD 0 ds) where
  go := fun i H hi s => ⟨xs, xs[i]'(by rw [r.len]; rw [enumD_len] at hi; exact hi), SqT.of (s _ _ h), by simp⟩
  stop := fun H s => ⟨xs, SqT.of (s _ _ h), by rw [r.len, enumD_len]⟩
  yld := fun i H x H' hi s y => by
    obtain ⟨T, v, rfl, hT, rfl, hv⟩ := y
    obtain ⟨d, e1, e2⟩ := r.getV (hv xs (SqT.of (s _ _ h)))
    refine ⟨.tuple [.int (i : Nat), d], by rw [enumD_at, e1]; simp, .inr ⟨T, _, _, rfl, hT, rfl, .cons (.int _) (.cons e2 .nil), rfl⟩⟩
theorem zlt {ds es : List D} {i : Nat} (hi : i < (zipD ds es).length) : i < ds.length ∧ i < es.length := by rw [zipD_len] at hi; omega
theorem walks_zipL {K : Frag} {F : Hp} {a b : Addr} {xs ys : List V} {ds es : List D} (h : F a = some (.lst xs)) (h' : F b = some (.lst ys)) (r : Reps K F xs ds) (r' : Reps K F ys es) : Walks K F (Same F) (Itz K a b) (zipD ds es) where
  go := fun i H hi s => ⟨xs, ys, xs[i]'(by rw [r.len]; exact (zlt hi).1), ys[i]'(by rw [r'.len]; exact (zlt hi).2), SqL.of (s _ _ h), SqL.of (s _ _ h'), by simp, by simp⟩
  stop := fun H s => ⟨xs, ys, SqL.of (s _ _ h), SqL.of (s _ _ h'), by rw [r.len, r'.len, zipD_len]; omega⟩
  yld := fun i H x H' hi s y => by
    obtain ⟨T, v, w, rfl, hT, rfl, hv, hw⟩ := y
    obtain ⟨d, e1, e2⟩ := r.getV (hv xs (SqL.of (s _ _ h)))
    obtain ⟨d', e1', e2'⟩ := r'.getV (hw ys (SqL.of (s _ _ h')))
    exact ⟨.tuple [d, d'], zipD_at _ _ _ _ _ e1 e1', .inr ⟨T, _, _, rfl, hT, rfl, .cons e2 (.cons e2' .nil), rfl⟩⟩
theorem walks_zipT {K : Frag} {F : Hp} {a b : Addr} {xs ys : List V} {ds es : List D} (h : F a = some (.tup xs)) (h' : F b = some (.tup ys)) (r : Reps K F xs ds) (r' : Reps K F ys es) : Walks K F (Same F) (RZ.ItzT K a b) (zipD ds es) where
  go := fun i H hi s => ⟨xs, ys, xs[i]'(by rw [r.len]; exact (zlt hi).1), ys[i]'(by rw [r'.len]; exact (zlt hi).2), SqT.of (s _ _ h), SqT.of (s _ _ h'), by simp, by simp⟩
  stop := fun H s => ⟨xs, ys, SqT.of (s _ _ h), SqT.of (s _ _ h'), by rw [r.len, r'.len, zipD_len]; omega⟩
  yld := fun i H x H' hi s y => by
    obtain ⟨T, v, w, rfl, hT, rfl, hv, hw⟩ := y
    obtain ⟨d, e1, e2⟩ := r.getV (hv xs (SqT.of (s _ _ h)))
    obtain ⟨d', e1', e2'⟩ := r'.getV (hw ys (SqT.of (s _ _ h')))
    exact ⟨.tuple [d, d'], zipD_at _ _ _ _ _ e1 e1', .inr ⟨T, _, _, rfl, hT, rfl, .cons e2 (.cons e2' .nil), rfl⟩⟩
theorem walks_zipM {K : Frag} {F : Hp} {a b : Addr} {xs ys : List V} {ds es : List D} (h : F a = some (.lst xs)) (h' : F b = some (.tup ys)) (r : Reps K F xs ds) (r' : Reps K F ys es) : Walks K F (Same F) (ItzM K a b) (zipD ds es) where
  go := fun i H hi s => ⟨xs, ys, xs[i]'(by rw [r.len]; exact (zlt hi).1), ys[i]'(by rw [r'.len]; exact (zlt hi).2), SqL.of (s _ _ h), SqT.of (s _ _ h'), by simp, by simp⟩
  stop := fun H s => ⟨xs, ys, SqL.of (s _ _ h), SqT.of (s _ _ h'), by rw [r.len, zipD_len]; omega, by rw [r'.len, zipD_len]; omega, by rw [r.len, r'.len, zipD_len]; omega⟩
  yld := fun i H x H' hi s y => by
    obtain ⟨T, v, w, rfl, hT, rfl, hv, hw⟩ := y
    obtain ⟨d, e1, e2⟩ := r.getV (hv xs (SqL.of (s _ _ h)))
    obtain ⟨d', e1', e2'⟩ := r'.getV (hw ys (SqT.of (s _ _ h')))
    exact ⟨.tuple [d, d'], zipD_at _ _ _ _ _ e1 e1', .inr ⟨T, _, _, rfl, hT, rfl, .cons e2 (.cons e2' .nil), rfl⟩⟩
section
variable {X : Cx} {sc : Scope} {B : Base} {N Vs L G : List Str} {k : Nat} {ρ : List Slot} {pi pj pk : PSt} {pos p1 tpos : Pos} {a b : Expr} {ds es : List D} {elts : List Expr} {kk : Nat}
theorem evi_enum (fr : Fr X sc N Vs L G k) (bl : Bl X.mg) (hG : ("enumerate" : Str) ∈ G) (h : Ev X B a ρ pi (.tuple ds) pj) (hs : notStar a = true) : EvI X B (.Tuple elts kk tpos) (.Call (.Name "enumerate" p1) [a] [] pos) ρ pi (enumD 0 ds) pj :=
  .of (pi_enumT (fr.glo _ hG).1 bl.enumerate (pa_cons pe_W pa_nil (star_of hs _ _)) (star_of hs _ _)) fun σ F H hh Rq q => h.run σ F H hh _ fun v F1 H1 s1 r1 => by
    cases r1 with
    | tup h1 h2 => exact ⟨_, _, rfl, SqT.of (s1.g1.sub _ _ h1), q _ F1 H1 s1 (walks_enumT h1 h2)⟩
/-- zip of lists, of tuples, of a list and a tuple -/
theorem evi_zip {da db : D} (fr : Fr X sc N Vs L G k) (bl : Bl X.mg) (hG : ("zip" : Str) ∈ G) (ha : Ev X B a ρ pi da pj) (hb : Ev X B b ρ pj db pk) (hs : notStar a = true) (hs2 : notStar b = true)
    (hd : (da = .list ds ∧ db = .list es) ∨ (da = .tuple ds ∧ db = .tuple es) ∨ (da = .list ds ∧ db = .tuple es)) : EvI X B (.Tuple elts kk tpos) (.Call (.Name "zip" p1) [a, b] [] pos) ρ pi (zipD ds es) pk := by
  have hpl : (backTo pos (starEach [b] X.env)).any (·.1) = false := by rw [star_of hs2]; rfl
  rcases hd with ⟨rfl, rfl⟩ | ⟨rfl, rfl⟩ | ⟨rfl, rfl⟩
  · exact .of (RZ.pi_zipA (fr.glo _ hG).1 bl.zip (pa_cons pe_W (pa_cons pe_W pa_nil (star_of hs2 _ _)) (star_of hs _ _)) (star_of hs _ _) hpl) fun σ F H hh Rq q => ha.run σ F H hh _ fun v F1 H1 s1 r1 => hb.run σ F1 H1 (hh.step s1) _ fun w F2 H2 s2 r2 => by
      have r1 := r1.up s2.ext
      cases r1 with
      | lst h1 h2 =>
        cases r2 with
        | lst h3 h4 => exact ⟨_, _, _, _, rfl, .inl ⟨SqL.of (s2.g1.sub _ _ h1), SqL.of (s2.g1.sub _ _ h3), q _ F2 H2 (s1.trans s2) (walks_zipL h1 h3 h2 h4)⟩⟩
  · exact .of (RZ.pi_zipA (fr.glo _ hG).1 bl.zip (pa_cons pe_W (pa_cons pe_W pa_nil (star_of hs2 _ _)) (star_of hs _ _)) (star_of hs _ _) hpl) fun σ F H hh Rq q => ha.run σ F H hh _ fun v F1 H1 s1 r1 => hb.run σ F1 H1 (hh.step s1) _ fun w F2 H2 s2 r2 => by
      have r1 := r1.up s2.ext
      cases r1 with
      | tup h1 h2 =>
        cases r2 with
        | tup h3 h4 => exact ⟨_, _, _, _, rfl, .inr ⟨SqT.of (s2.g1.sub _ _ h1), SqT.of (s2.g1.sub _ _ h3), q _ F2 H2 (s1.trans s2) (walks_zipT h1 h3 h2 h4)⟩⟩
  · exact .of (pi_zipM (fr.glo _ hG).1 bl.zip (pa_cons pe_W (pa_cons pe_W pa_nil (star_of hs2 _ _)) (star_of hs _ _)) (star_of hs _ _) hpl) fun σ F H hh Rq q => ha.run σ F H hh _ fun v F1 H1 s1 r1 => hb.run σ F1 H1 (hh.step s1) _ fun w F2 H2 s2 r2 => by
      have r1 := r1.up s2.ext
      cases r1 with
      | lst h1 h2 =>
        cases r2 with
        | tup h3 h4 => exact ⟨_, _, _, _, rfl, SqL.of (s2.g1.sub _ _ h1), SqT.of (s2.g1.sub _ _ h3), q _ F2 H2 (s1.trans s2) (walks_zipM h1 h3 h2 h4)⟩
end
end Fs
-- FsY
/-! Rules: in an own list, dicts, list(range), sorted, a draw out of a list. -/
namespace Fs
open PySem PySem.Spec PyProof.Rows L2

section
variable {X : Cx} {sc : Scope} {B : Base} {N Vs L G : List Str} {k : Nat} {ρ ρ' ρ2 : List Slot} {pi pj pk pl : PSt} {pos pos' apos cpos p1 p2 p3 p4 : Pos} {e a b c tg : Expr} {es : List Expr} {st : Stmt} {rest body orelse : List Stmt} {d da db dc : D} {ds : List D} {kvs : List (D × D)} {x y z : Str} {i j : Nat} {m n : Int} {R : Rt}

/-! ### in -/
theorem dp_own {K : Frag} {F H : Hp} {l : Addr} {xs : List V} (s : Same F H) (e : H l = some (.lst xs)) (r : Reps K F xs ds) (sb : SeqAt.shaped (.list ds) = true) : Dp K H (.ref l) (.list ds) :=
  .lst (SqL.of e) (Reps.dp ds xs (r.up s) (by simpa [PyData.canLay0] using SeqAt.canLay_of_shaped sb))
theorem own_at {F H : Hp} {σ : L2.St} (hh : Holds X.K B F H σ ρ pi) (l : Look N ρ i x (.own ds)) : ∃ p xs, σ[i]? = some (some (.ref p)) ∧ H p = some (.lst xs) ∧ Reps X.K F xs ds := by
  obtain ⟨o, e1, m, xs, rfl, hB, hf, hH, r⟩ := hh.at_ i _ l.r
  exact ⟨m, xs, e1, hH, r⟩
theorem ev_inO (fr : Fr X sc N Vs L G k) (l : Look N ρ i x (.own ds)) (hx : x ∈ Vs) (ha : Ev X B a ρ pi d pj) (sa : SeqAt.shaped d = true) (sb : SeqAt.shaped (.list ds) = true) :
    Ev X B (.Compare a [.In] [.Name x p1] pos) ρ pi (.bool (ds.any fun z => PyData.eqv z d)) pj ∧ EvT X B (.Compare a [.In] [.Name x p1] pos) ρ pi (ds.any fun z => PyData.eqv z d) pj :=
  ⟨.of (pe_cmpR (op_inD fr.u65) pe_W (fr.pe l.n hx) rfl) fun σ F H hh Q q => ha.run σ F H hh _ fun v F1 H1 s1 r1 => by
    obtain ⟨p, xs, e1, hH, r⟩ := own_at (hh.step s1) l
    exact ⟨_, e1, d, ds, (r1.up s1.g1.sub).dp _ _ (SeqAt.canLay_of_shaped sa), dp_own s1.g1.sub hH r sb, sa, sb, q _ F1 H1 s1 (.bl _)⟩,
  .of (pt_cmpR (op_inD fr.u65) pe_W (fr.pe l.n hx) rfl) fun σ F H hh Q q => ha.run σ F H hh _ fun v F1 H1 s1 r1 => by
    obtain ⟨p, xs, e1, hH, r⟩ := own_at (hh.step s1) l
    exact ⟨_, e1, d, ds, (r1.up s1.g1.sub).dp _ _ (SeqAt.canLay_of_shaped sa), dp_own s1.g1.sub hH r sb, sa, sb, ⟨_, rfl, q F1 H1 s1⟩⟩⟩
theorem ev_notInO (fr : Fr X sc N Vs L G k) (l : Look N ρ i x (.own ds)) (hx : x ∈ Vs) (ha : Ev X B a ρ pi d pj) (sa : SeqAt.shaped d = true) (sb : SeqAt.shaped (.list ds) = true) :
    Ev X B (.Compare a [.NotIn] [.Name x p1] pos) ρ pi (.bool (!(ds.any fun z => PyData.eqv z d))) pj ∧ EvT X B (.Compare a [.NotIn] [.Name x p1] pos) ρ pi (!(ds.any fun z => PyData.eqv z d)) pj :=
  ⟨.of (pe_cmpR (op_notInD fr.u65) pe_W (fr.pe l.n hx) rfl) fun σ F H hh Q q => ha.run σ F H hh _ fun v F1 H1 s1 r1 => by
    obtain ⟨p, xs, e1, hH, r⟩ := own_at (hh.step s1) l
    exact ⟨_, e1, d, ds, (r1.up s1.g1.sub).dp _ _ (SeqAt.canLay_of_shaped sa), dp_own s1.g1.sub hH r sb, sa, sb, q _ F1 H1 s1 (.bl _)⟩,
  .of (pt_cmpR (op_notInD fr.u65) pe_W (fr.pe l.n hx) rfl) fun σ F H hh Q q => ha.run σ F H hh _ fun v F1 H1 s1 r1 => by
    obtain ⟨p, xs, e1, hH, r⟩ := own_at (hh.step s1) l
    exact ⟨_, e1, d, ds, (r1.up s1.g1.sub).dp _ _ (SeqAt.canLay_of_shaped sa), dp_own s1.g1.sub hH r sb, sa, sb, ⟨_, rfl, q F1 H1 s1⟩⟩⟩

/-! ### dicts with int keys -/
theorem evs_dic : EvS X B (.Dict [] [] pos) ρ pi (.odic []) pi :=
  .of pe_dnewK fun σ F H hh Q q p hp => q _ F _ (Step.allocO hh.good hp) ⟨p, [], rfl, hp, hh.good.fnone hp, upd_same, .nil⟩
theorem repK_val {K : Frag} {F : Hp} : ∀ {xs : List (Key × V)} {kvs : List (D × D)}, RepK K F xs kvs → ∀ n : Int, match getK kvs n with
    | none => valV xs (.inl n) = none
    | some d => ∃ v, valV xs (.inl n) = some v ∧ Rep K F v d
  | _, _, .nil, n => rfl
  | _, _, .cons (k := k) (v := v) (d := d) (vs := vs) (ds := ds) r t, n => by
    unfold getK
    by_cases e : k = n
    · subst e
      rw [if_pos rfl]
      exact ⟨v, valV_pos rfl, r⟩
    · rw [if_neg e]
      have ih := repK_val t n
      have hv : valV ((Sum.inl k, v) :: vs) (Sum.inl n : Key) = valV vs (.inl n) := valV_neg (by simpa using e)
      rw [hv]
      exact ih
theorem repK_getD {K : Frag} {F : Hp} {xs : List (Key × V)} {w : V} (r : RepK K F xs kvs) (rw' : Rep K F w d) : Rep K F ((valV xs (.inl n)).getD w) ((getK kvs n).getD d) := by
  have h := repK_val r n
  cases e : getK kvs n with
  | none =>
    rw [e] at h
    rw [h]
    exact rw'
  | some d' =>
    rw [e] at h
    obtain ⟨v, h1, h2⟩ := h
    rw [h1]
    exact h2
theorem RepK.len {K : Frag} {F : Hp} : ∀ {xs : List (Key × V)} {kvs : List (D × D)}, RepK K F xs kvs → xs.length = kvs.length
  | _, _, .nil => rfl
  | _, _, .cons _ t => congrArg (· + 1) (RepK.len t)
theorem RepK.append {K : Frag} {F : Hp} : ∀ {xs ys : List (Key × V)} {ks ls : List (D × D)}, RepK K F xs ks → RepK K F ys ls → RepK K F (xs ++ ys) (ks ++ ls)
  | _, _, _, _, .nil, s => s
  | _, _, _, _, .cons r t, s => .cons r (RepK.append t s)
theorem setK_new : ∀ {kvs : List (D × D)} {n : Int} {d : D}, getK kvs n = none → setK kvs n d = kvs ++ [(.int n, d)]
  | [], _, _, _ => rfl
  | (k, e) :: r, n, d, h => by
    cases k <;> first
      | (simp only [setK, getK, List.cons_append] at h ⊢; rw [setK_new h]; done)
      | skip
    simp only [getK] at h
    split at h
    · cases h
    · rename_i hne
      simp only [setK, if_neg hne, List.cons_append]
      rw [setK_new h]
theorem repK_map {K : Frag} {F : Hp} {w : V} (rw' : Rep K F w d) : ∀ {xs : List (Key × V)} {kvs : List (D × D)}, RepK K F xs kvs → (keysD kvs).Nodup → getK kvs n ≠ none → RepK K F (xs.map fun kv => if kv.1 = (.inl n : Key) then (kv.1, w) else kv) (setK kvs n d)
  | _, _, .nil, _, h => absurd rfl h
  | _, _, .cons (k := k) (v := v) (d := e) (vs := vs) (ds := ds) r t, hn, h => by
    simp only [keysD, List.nodup_cons] at hn
    have notin : ∀ {vs : List (Key × V)} {ds : List (D × D)}, RepK K F vs ds → n ∉ keysD ds → vs.map (fun kv => if kv.1 = (.inl n : Key) then (kv.1, w) else kv) = vs := by
      intro vs ds t hk
      induction vs generalizing ds with
      | nil => rfl
      | cons p vs ih =>
        cases t with
        | cons r t =>
          simp only [keysD, List.mem_cons, not_or] at hk
          rw [List.map_cons, ih t hk.2]
          rw [if_neg (by simpa using fun z => hk.1 z.symm)]
    by_cases ek : k = n
    · subst ek
      simp only [setK, if_true, List.map_cons]
      rw [notin t hn.1]
      exact .cons rw' t
    · simp only [setK, if_neg ek, List.map_cons]
      have h' : getK ds n ≠ none := by simpa [getK, ek] using h
      have e1 : (if (Sum.inl k : Key) = .inl n then ((Sum.inl k : Key), w) else (.inl k, v)) = (.inl k, v) := if_neg (by simpa using ek)
      rw [e1]
      exact .cons r (repK_map rw' t hn.2 h')
theorem repK_put {K : Frag} {F : Hp} {xs : List (Key × V)} {w : V} (r : RepK K F xs kvs) (rw' : Rep K F w d) (hn : (keysD kvs).Nodup) : RepK K F (putK xs (.inl n) w) (setK kvs n d) := by
  have h := repK_val r n
  unfold putK
  rw [valV_any]
  cases e : getK kvs n with
  | none =>
    rw [e] at h
    rw [h]
    simp only [Option.isSome_none, Bool.false_eq_true, if_false]
    rw [setK_new e]
    exact r.append (.cons rw' .nil)
  | some d' =>
    rw [e] at h
    obtain ⟨v, h1, h2⟩ := h
    rw [h1]
    simp only [Option.isSome_some, if_true]
    exact repK_map rw' r hn (by rw [e]; exact fun z => nomatch z)
theorem m2_of {o : Expr} {mm : Str} (hb : attributeBase o mm X.env (eval o X.env) = eval o X.env) (hs : notStar a = true) (hs2 : notStar b = true) (hl : (apos.endLine == cpos.line) = true) : M2 X o mm apos a b cpos := by
  have e1 : starEach [a, b] X.env = [(false, eval a X.env), (false, eval b X.env)] := by
    rw [star_of hs, star_of hs2]
    rfl
  exact ⟨hb, by rw [e1]; rfl, hl, by rw [e1]; rfl⟩
/-- d.get(k, e), d a value -/
theorem ev_get (fr : Fr X sc N Vs L G k) (ha : Ev X B a ρ pi (.dict kvs) pj) (hb : Ev X B b ρ pj (.int n) pk) (hc : Ev X B c ρ pk d pl) (hbase : attributeBase a "get" X.env (eval a X.env) = eval a X.env) (hs : notStar b = true) (hs2 : notStar c = true) (hl : (apos.endLine == cpos.line) = true) :
    Ev X B (.Call (.Attribute a "get" apos) [b, c] [] cpos) ρ pi ((getK kvs n).getD d) pl :=
  .of (pe_dget2 fr.u1 pe_W pe_W pe_W (m2_of hbase hs hs2 hl)) fun σ F H hh Q q => ha.run σ F H hh _ fun v F1 H1 s1 r1 => by
    cases r1 with
    | dic h1 h2 =>
      refine ⟨_, rfl, .inl ⟨_, Rd.of (s1.g1.sub _ _ h1)⟩, hb.run σ F1 H1 (hh.step s1) _ fun w F2 H2 s2 r2 => hc.run σ F2 H2 ((hh.step s1).step s2) _ fun u F3 H3 s3 r3 => ?_⟩
      cases r2
      exact ⟨_, DGet.k (k := (.inl n : Key)) (s3.g1.sub _ _ ((s2.trans s3).ext _ _ h1)), q _ F3 H3 ((s1.trans s2).trans s3) (repK_getD (h2.up (s2.trans s3).ext) r3)⟩
/-- .. d an own dict -/
theorem ev_getO (fr : Fr X sc N Vs L G k) (l : Look N ρ i x (.odic kvs)) (hx : x ∈ Vs) (hb : Ev X B b ρ pi (.int n) pj) (hc : Ev X B c ρ pj d pk) (hs : notStar b = true) (hs2 : notStar c = true) (hl : (apos.endLine == cpos.line) = true) :
    Ev X B (.Call (.Attribute (.Name x p1) "get" apos) [b, c] [] cpos) ρ pi ((getK kvs n).getD d) pk :=
  .of (pe_dget2 fr.u1 (fr.pe l.n hx) pe_W pe_W (m2_of rfl hs hs2 hl)) fun σ F H hh Q q => by
    obtain ⟨o, e1, p, xs, rfl, hB, hf, hH, r⟩ := hh.at_ i _ l.r
    refine ⟨_, e1, _, rfl, .inl ⟨_, Rd.of hH⟩, hb.run σ F H hh _ fun w F2 H2 s2 r2 => hc.run σ F2 H2 (hh.step s2) _ fun u F3 H3 s3 r3 => ?_⟩
    cases r2
    have st := s2.trans s3
    exact ⟨_, DGet.k (k := (.inl n : Key)) (st.fr _ _ hH (hh.notP hB)), q _ F3 H3 st (repK_getD (r.up st.ext) r3)⟩
/-- d[b] = e, d an own dict -/
theorem ex_setD (fr : Fr X sc N Vs L G k) (l : Look N ρ i x (.odic kvs)) (hx : x ∈ Vs) (h : Ev X B e ρ pi d pj) (hb : Ev X B b ρ pj (.int n) pk) (hn : (keysD kvs).Nodup) (hz : kvs.length < 100000) (s : Sto N ρ i x (.odic (setK kvs n d)) ρ') (hr : Ex X B rest ρ' pk R)
    (h1 : ∀ env, swapsWithSole [.Subscript (.Name x p1) b p2] e pos.line env = pure false) (h2 : ∀ env, swappedStores [.Subscript (.Name x p1) b p2] e env = pure none)
    (h3 : ∀ env, (assignEach [.Subscript (.Name x p1) b p2] env).map (·.2) = [assign (.Subscript (.Name x p1) b p2) env])
    (h4 : ∀ env v, assign (.Subscript (.Name x p1) b p2) env v = (do
      let ov ← holding [v] (eval (.Name x p1) env)
      let iv ← holding [v, ov] (eval b env)
      standAt p2
      holding [v, ov, iv] (setItem ov iv v)
      release [v, ov, iv] [])) :
    Ex X B (.Assign [.Subscript (.Name x p1) b p2] e pos :: rest) ρ pi R :=
  .cons (ps_asg pe_W (pg_sub (fr.pe l.n hx) pe_W (set_dict fr.u1) (h4 _)) (h1 _) (h2 _) (h3 _)) fun σ F H F0 s0 hh => h.run σ F H hh _ fun v F1 H1 s1 r1 => by
    have hh1 := hh.step s1
    obtain ⟨o, e1, m, xs, rfl, hB, hf, hH, r⟩ := hh1.at_ i _ l.r
    refine ⟨_, e1, hb.run σ F1 H1 hh1 _ fun y F2 H2 s2 r2 => ?_⟩
    cases r2
    have hh2 := hh1.step s2
    have hm : H2 m = some (.dK xs) := s2.fr _ _ hH (hh1.notP hB)
    have f1 : F2 m = none := by
      rw [s2.new m (by rw [hH]; exact fun z => nomatch z)]
      exact hf
    have rk := r.up s2.ext
    refine ⟨m, _, rfl, DPut.k (k := (.inl n : Key)) hm (Nat.lt_of_lt_of_le (by rw [rk.len]; exact hz) (by decide)), ?_⟩
    have := hh2.mut (s' := .odic (setK kvs n d)) (u := .dK (putK xs (.inl n) v)) l.r trivial e1 ⟨m, _, rfl, hB, f1, upd_same, repK_put rk (r1.up s2.ext) hn⟩
    rw [← s.r] at this
    exact hr.run _ F2 _ F0 ((s0.trans s1.ext).trans s2.ext) this

/-! ### list(range(n)) -/
theorem reps_rg {K : Frag} {F : Hp} (n : Int) : Reps K F (rgV 0 n) (rangeD 0 n.toNat) := by
  have e1 : rgV 0 n = ((List.range n.toNat).map fun i => (0 : Int) + (i : Nat)).map V.int := by
    unfold rgV
    rw [List.map_map, Int.sub_zero]
    rfl
  have e2 : rangeD 0 n.toNat = ((List.range n.toNat).map fun i => (0 : Int) + (i : Nat)).map PyData.int := by
    unfold rangeD
    rw [List.map_map]
    rfl
  rw [e1, e2]
  exact Reps.of_ints _
theorem evo_lrng (fr : Fr X sc N Vs L G k) (bl : Bl X.mg) (hG : ("list" : Str) ∈ G) (hG2 : ("range" : Str) ∈ G) (ha : Ev X B a ρ pi (.int n) pj) (h0 : -1000 ≤ n) (h1 : n ≤ 1000) (hs : notStar a = true) :
    EvO X B (.Call (.Name "list" p1) [.Call (.Name "range" p2) [a] [] p3] [] pos) ρ pi (rangeD 0 n.toNat) pj :=
  .mk fun σ F H hh Q q pins s I => (pe_listRg fr.calm (fr.glo _ hG).1 bl.list (prg_1 (fr.glo _ hG2).1 bl.range pe_W (star_of hs _ _)) (by rfl)).run pins s σ H Q I (ha.run σ F H hh _ fun v F1 H1 s1 r1 => by
    cases r1
    exact ⟨n, rfl, ⟨by omega, by omega, by omega, by omega, by omega⟩, fun p hp => q p _ F1 _ (s1.trans (Step.allocO s1.g1 hp)) (fresh_of s1 hp) (s1.g1.fnone hp) upd_same (reps_rg n)⟩)
end
end Fs
-- FsZ
/-! Rules: a draw out of an own list, tuple * int, tuple[::-1], sorted tuples. -/
namespace Fs
open PySem PySem.Spec PyProof.Rows L2

section
variable {X : Cx} {sc : Scope} {B : Base} {N Vs L G : List Str} {k : Nat} {ρ ρ' ρ2 : List Slot} {pi pj pk pl : PSt} {pos pos' apos cpos apos2 cpos2 p1 p2 p3 p4 : Pos} {e a b c tg : Expr} {es : List Expr} {st : Stmt} {rest body orelse : List Stmt} {d da db dc : D} {ds : List D} {kvs : List (D × D)} {x y z : Str} {i j : Nat} {m n : Int} {R : Rt}
theorem Reps.eraseIdx {K : Frag} {F : Hp} {xs : List V} {ds : List D} (r : Reps K F xs ds) (k : Nat) : Reps K F (xs.eraseIdx k) (ds.eraseIdx k) := by
  rw [List.eraseIdx_eq_take_drop_succ, List.eraseIdx_eq_take_drop_succ]
  exact (r.take _).append (r.drop _)
/-- len of an own list -/
theorem ev_lenO (fr : Fr X sc N Vs L G k) (bl : Bl X.mg) (hG : ("len" : Str) ∈ G) (l : Look N ρ i x (.own ds)) (hx : x ∈ Vs) : Ev X B (.Call (.Name "len" p1) [.Name x p2] [] pos) ρ pi (.int ds.length) pi :=
  .of (pe_callB call_len_seq (fr.glo _ hG).1 bl.len PySem.boot_len (pa_cons (fr.pe l.n hx) pa_nil (by rfl)) (fr.glo _ hG).2.2 (fr.glo _ hG).2.1 (by rfl) (by rfl)) fun σ F H hh Q q => by
    obtain ⟨p, xs, e1, hH, r⟩ := own_at hh l
    refine ⟨_, e1, p, xs, rfl, .inl (SqL.of hH), ?_⟩
    rw [r.len]
    exact q _ F H (Step.refl hh.good) (.int _)
/-- x.append(y.pop(c)) -/
theorem ex_drw {es' : List D} (fr : Fr X sc N Vs L G k) (l : Look N ρ i x (.own ds)) (l2 : Look N ρ j y (.own es')) (hx : x ∈ Vs) (hy : y ∈ Vs) (hij : i ≠ j) (hc : Ev X B c ρ pi (.int n) pj) (hs : notStar c = true) (h0 : 0 ≤ n) (h1 : n < 1000) (hd : es'[n.toNat]? = some d) (hz : ds.length < 100000)
    (hl1 : (apos.endLine == cpos.line) = true) (hl2 : (apos2.endLine == cpos2.line) = true) (hr : Ex X B rest ((ρ.set j (.own (es'.eraseIdx n.toNat))).set i (.own (ds ++ [d]))) pj R) :
    Ex X B (.Expr (.Call (.Attribute (.Name x p1) "append" apos) [.Call (.Attribute (.Name y p2) "pop" apos2) [c] [] cpos2] [] cpos) pos :: rest) ρ pi R :=
  .cons (ps_expr (pe_bm PySem.F.plainAttrs_list PySem.F.slot_list_append PySem.F.type_list_append mt_append (fr.pe l.n hx)
    (pa_cons (pe_bm PySem.F.plainAttrs_list PySem.F.slot_list_pop PySem.F.type_list_pop mt_popAt (fr.pe l2.n hy) (pa_cons pe_W pa_nil (star_of hs _ _)) (by rfl) (by rw [star_of hs]; rfl) hl2 (star_of hs _ _) rfl) pa_nil (by rfl)) (by rfl) (by rfl) hl1 (by rfl) rfl) (by rfl)) fun σ F H F0 s0 hh => by
    obtain ⟨o, e1, m, xs, rfl, hB, hf, hH, r⟩ := hh.at_ i _ l.r
    obtain ⟨o2, e2, m2, ys, rfl, hB2, hf2, hH2, r2⟩ := hh.at_ j _ l2.r
    refine ⟨_, e1, .inl ⟨rfl, _, SqL.of hH⟩, _, e2, .inl ⟨rfl, _, SqL.of hH2⟩, hc.run σ F H hh _ fun v F1 H1 s1 r1 => ?_⟩
    cases r1
    have hm : H1 m = some (.lst xs) := s1.fr _ _ hH (hh.notP hB)
    have hm2 : H1 m2 = some (.lst ys) := s1.fr _ _ hH2 (hh.notP hB2)
    have f1 : F1 m = none := by
      rw [s1.new m (by rw [hH]; exact fun z => nomatch z)]
      exact hf
    have f2 : F1 m2 = none := by
      rw [s1.new m2 (by rw [hH2]; exact fun z => nomatch z)]
      exact hf2
    obtain ⟨w, hw, rw'⟩ := (r2.up s1.ext).get hd
    have hlt : n.toNat < ys.length := (List.getElem?_eq_some_iff.mp hw).1
    have hne : m ≠ m2 := fun q => by
      subst q
      exact hh.sep i j m _ _ hij l.r l2.r trivial trivial e1 e2
    refine ⟨m2, ys, n, n.toNat, w, rfl, rfl, hm2, by omega, by omega, seqIndex_of h0 (by omega), hw, m, xs, w, rfl, rfl, by rw [upd_ne hne]; exact hm, Nat.lt_of_lt_of_le (by rw [r.len]; exact hz) (by decide), ?_⟩
    have h2 := (hh.step s1).mut (s' := .own (es'.eraseIdx n.toNat)) (u := .lst (ys.eraseIdx n.toNat)) l2.r trivial e2 ⟨m2, _, rfl, hB2, f2, upd_same, (r2.up s1.ext).eraseIdx _⟩
    have lk : (ρ.set j (.own (es'.eraseIdx n.toNat)))[i]? = some (.own ds) := by
      rw [List.getElem?_set_ne (Ne.symm hij)]
      exact l.r
    have h3 := h2.mut (s' := .own (ds ++ [d])) (u := .lst (xs ++ [w])) lk trivial e1 ⟨m, _, rfl, hB, f1, upd_same, (r.up s1.ext).append (.cons rw' .nil)⟩
    exact hr.run _ F1 _ F0 (s0.trans s1.ext) h3

/-! ### tuple * int -/
theorem tuple_mul1 (l : Addr) (items : Array Value) (n : Nat) (dd : Option Addr) (sl : Array (Option Value)) (u : Tok) :
    Meets (Builtin.«tuple.__mul__» ⟨[.ref l, .int 1 u], []⟩) (fun _ R s => s.heap.get? l = some { cls := .type "tuple", dict := dd, data := .seq items n, slots := sl } ∧
      R (.ok (.ret (.ref l))) s) :=
  .of_wp fun prog w A R s h => by
    obtain ⟨hp, g, d, tk, os⟩ := s
    obtain ⟨hl, h⟩ := h
    have f1 := AutoSeq1.idx_int
    have c0 : (decide ((1 : Int) < -(2 ^ 63)) || decide ((1 : Int) ≥ 2 ^ 63)) = false := by decide
    have c1 : (items.isEmpty || (1 : Int) == 1) = true := by simp
    wp_walk using wpAny_loadPart' hl
    repeat (first
      | (refine wpAny_ite_false (decide_eq_false (by rw [c0]; exact Bool.false_ne_true)) ?_; wp_walk using wpAny_loadPart' hl)
      | (refine wpAny_ite_true (decide_eq_true (by rw [c1])) ?_; wp_walk using wpAny_loadPart' hl))
    exact ⟨_, rfl, h⟩
theorem op_repT1 : OpR X (binaryOp .Mult) (fun x y H Q => ∃ l xs, x = .ref l ∧ y = .int 1 ∧ SqT X.K H l xs ∧ Q (.ref l) H) := by
  intro pins s σ H x y v u Q I rx ry h
  obtain ⟨l, xs, rfl, rfl, hT, q⟩ := h
  cases rx
  obtain ⟨t, rfl⟩ := ry
  obtain ⟨its, r, ⟨⟨cls, dd, data, sl⟩, ho, hc, n, hd⟩, hs⟩ := I.tuple hT
  simp only at hc hd
  subst hc hd
  refine wpAny_binaryOp_repeat_ref (T := "tuple") (U := "int") (by decide) ⟨_, ho, rfl⟩ (fun s' => typeIs_int s' 1 t) noFill_tuple_mul F.fills_int_mul F.slot_int_rmul repeat_tuple F.slot_int_index.lookup
    (call_meets F.slot_int_rmul (typeIs_int s 1 t) F.entry_int_rmul (F.args_int_rmul_2 _ _) (int_rmul_tuple 1 t l its.toArray n dd sl)
      ⟨ho, rfl, ⟨_, ho, rfl⟩, call_meets F.slot_tuple_mul ⟨_, ho, rfl⟩ F.entry_tuple_mul (F.args_tuple_mul_2 _ _) (tuple_mul1 l its.toArray n dd sl t) ⟨ho, ?_⟩⟩)
  exact ⟨.ref l, H, I, rfl, q⟩
theorem bin_repT (h1 : 1 ≤ n) (h2 : n ≤ 1000) : BinD X .Mult (.tuple [d]) (.int n) (.tuple (List.replicate n.toNat d)) := by
  by_cases e : n = 1
  · subst e
    exact ⟨_, op_repT1, fun F H pi x y g r1 r2 Q q => by
      cases r1 with
      | tup h1 h2 =>
        cases r2
        exact ⟨_, _, rfl, rfl, SqT.of (g.sub _ _ h1), q _ F H (Step.refl g) (.tup h1 h2)⟩⟩
  · refine ⟨_, op_repT, fun F H pi x y g r1 r2 Q q => ?_⟩
    cases r1 with
    | @tup a xs _ hh1 hh2 =>
      cases r2
      have hl : xs.length = 1 := hh2.len
      refine ⟨_, n, xs, rfl, rfl, SqT.of (g.sub _ _ hh1), (fun z => by rw [z] at hl; cases hl), by omega, h2, by omega, fun p hp => q _ _ _ (Step.alloc g hp) (.tup upd_same ?_)⟩
      have := hh2.rep n.toNat
      rw [rep1] at this
      exact this.up (same_upd (g.fnone hp))
end
end Fs
-- FsZ2
/-! Rules: tuple[::-1], sorted tuples. -/
namespace Fs
open PySem PySem.Spec PyProof.Rows L2 HT
section
variable {prog : Program} {w : World} {A : Around} {E : Value → Shared → Prop} {s : Shared}
theorem adjust_rev (n : Nat) : Builtin.Slice.sliceAdjust none none (-1) (n : Int) = ((n : Int) - 1, -1) := by
  unfold Builtin.Slice.sliceAdjust
  simp
theorem places_rev (n : Nat) : Builtin.Slice.slicePlaces ((n : Int) - 1) (-1) (-1) = n := by
  unfold Builtin.Slice.slicePlaces
  have h1 : ¬ ((-1 : Int) > 0) := by omega
  simp only [h1, if_false]
  split <;> simp <;> omega
theorem fm_congr {α β : Type} {f g : α → Option β} : ∀ {l : List α}, (∀ x ∈ l, f x = g x) → l.filterMap f = l.filterMap g
  | [], _ => rfl
  | a :: l, h => by rw [List.filterMap_cons, List.filterMap_cons, h a List.mem_cons_self, fm_congr fun x hx => h x (List.mem_cons_of_mem _ hx)]
theorem pick_rev (xs : Array Value) : ((List.range xs.size).filterMap fun (m : Nat) => xs[((xs.size : Int) - 1 + (m : Int) * (-1)).toNat]?).toArray = xs.toList.reverse.toArray := by
  congr 1
  have e : ∀ m ∈ List.range xs.size, xs[((xs.size : Int) - 1 + (m : Int) * (-1)).toNat]? = xs.toList.reverse[m]? := fun m hm => by
    have hm := List.mem_range.mp hm
    rw [List.getElem?_reverse (by simpa using hm)]
    have : ((xs.size : Int) - 1 + (m : Int) * (-1)).toNat = xs.toList.length - 1 - m := by
      simp only [Array.length_toList]
      omega
    rw [this, Array.getElem?_toList]
  rw [fm_congr e]
  refine List.ext_getElem? fun i => ?_
  have hf : (List.range xs.size).filterMap (fun m => xs.toList.reverse[m]?) = xs.toList.reverse := by
    have hl : xs.size = xs.toList.reverse.length := by simp
    rw [hl]
    generalize xs.toList.reverse = l
    clear hl e
    induction l with
    | nil => rfl
    | cons a l ih =>
      rw [List.length_cons, List.range_succ_eq_map, List.filterMap_cons]
      simp only [List.getElem?_cons_zero]
      rw [List.filterMap_map]
      congr 1
  rw [hf]
theorem sliceApplied_rev {sl : Addr} {vs : Value} {n : Nat} {Q : Int × Int × Nat → Shared → Prop} (hs : s.heap.IsSliceOf sl .none .none vs) (ps : IsPart vs (some (-1)))
    (h : Q ((n : Int) - 1, -1, n) s) : wpAny (model prog w) A (Builtin.Slice.sliceApplied (.ref sl) (pure (n : Int))) Q E s := by
  obtain ⟨os, hos, hcs, hds⟩ := id hs
  unfold Builtin.Slice.sliceApplied Builtin.Slice.sliceFields
  refine wpAny_bind (wpAny_bind (wpAny_field hos hds (x := .none) rfl (wpAny_bind (wpAny_field hos hds (x := .none) rfl (wpAny_bind (wpAny_field hos hds (x := vs) rfl (wpAny_pure ?_)))))))
  refine wpAny_bind (slicePart_ ps ?_)
  show wpAny _ _ (if ((-1 : Int) == 0) = true then _ else _) _ _ s
  rw [if_neg (by decide)]
  refine wpAny_bind (slicePart_none (wpAny_bind (slicePart_none (wpAny_bind (wpAny_pure ?_)))))
  show wpAny _ _ (match Builtin.Slice.sliceAdjust none none (-1) (n : Int) with | (lo, hi) => pure (lo, (-1 : Int), Builtin.Slice.slicePlaces lo hi (-1))) _ _ s
  rw [adjust_rev n]
  show wpAny _ _ (pure ((n : Int) - 1, (-1 : Int), Builtin.Slice.slicePlaces ((n : Int) - 1) (-1) (-1))) _ _ s
  rw [places_rev]
  exact wpAny_pure h
theorem getItem_tuple_rev {t sl : Addr} {items : Array Value} {vs : Value} {Q : Value → Shared → Prop} (ht : IsTup s.heap t items) (hs : s.heap.IsSliceOf sl .none .none vs) (ps : IsPart vs (some (-1)))
    (h : Q (.ref s.heap.objs.size) { s with heap := s.heap.push { cls := .type "tuple", data := .seq items.toList.reverse.toArray } })
    (hsz : items.size ≤ sizeLine) : wpAny (model prog w) A (getItem (.ref t) (.ref sl)) Q E s := by
  have htake : sizeOk (.seq items.toList.reverse.toArray) := by
    show items.toList.reverse.toArray.size ≤ sizeLine
    rw [List.size_toArray, List.length_reverse, Array.length_toList]
    exact hsz
  obtain ⟨os, hos, hcs, hds⟩ := id hs
  have hTs : s.TypeIs (.ref sl) "slice" := ⟨os, hos, hcs⟩
  unfold getItem
  try with_reducible refine wpAny_holding ?_
  first | refine wpAny_bind (wpAny_pure ?_) | skip
  refine wpAny_bind (wpAny_sequenceKey ht.typeIs (by decide) ?_)
  refine wpAny_bind (wpAny_callSpecial?_slot (name := Str.ofString "__getitem__") ht.typeIs PyProof.Rows.slot_tuple_getitem
    (wpAny_call_entry PyProof.Rows.slot_tuple_getitem ht.typeIs entry_tuple_getitem ?_ (args_tuple_getitem _ _)))
  show wpAny _ _ (Builtin.Tuple.tupleItemsOf (.ref t) >>= _) _ _ s
  refine wpAny_bind (tupleItemsOf_ ht ?_)
  refine wpAny_bind (wpAny_typeOf hTs ?_)
  rw [if_pos (by decide)]
  refine wpAny_bind (sliceApplied_rev hs ps ?_)
  have hno : ¬ (((items.size : Int) - 1 == 0 && (-1 : Int) == 1 && items.size == items.size) = true) := by simp
  show wpAny _ _ (if ((items.size : Int) - 1 == 0 && (-1 : Int) == 1 && items.size == items.size) = true then _ else _) _ _ s
  rw [if_neg hno, pick_rev]
  first
    | exact wpAny_bind (m := Builtin.Tuple.tupleExact _) (wpAny_newObj_type (wpAny_pure ⟨_, rfl, wpAny_pure h⟩) htake)
    | exact wpAny_bind (m := Builtin.Tuple.tupleExact _) (wpAny_newObj_type (wpAny_bind (wpAny_pure (wpAny_pure ⟨_, rfl, wpAny_pure h⟩))) htake)
    | exact wpAny_bind (wpAny_bind (m := Builtin.Tuple.tupleExact _) (wpAny_newObj_type (wpAny_pure (wpAny_pure ⟨_, rfl, wpAny_pure h⟩)) htake))
end
section
variable {X : Cx}
def tRevT (K : Frag) (te : TE) : TE := fun σ H Q => te σ H fun x H1 => ∃ a xs, x = .ref a ∧ SqT K H1 a xs ∧ ∀ p, H1 p = none → Q (.ref p) (upd H1 p (.tup xs.reverse))
theorem pe_revT {e : Expr} {te : TE} {k : Nat} {p1 p2 p3 pos : Pos} (he : PE X e te) : PE X (.Subscript e (.Slice none none (some (.UnaryOp .USub (.Constant (.int 1) k p1) p2)) p3) pos) (tRevT X.K te) := by
  refine ⟨fun pins s σ H Q I h => ?_⟩
  refine Subscript_ (thn (he.run pins s σ H _ I h) fun v s1 ⟨x, H1, I1, r1, q1⟩ => ?_)
  obtain ⟨a, xs, ex, hx, q⟩ := q1
  subst ex
  cases r1
  have hst : PO X (some (.UnaryOp .USub (.Constant (.int 1) k p1) p2)) (tPart (tUn (rU fun i => .int (-i)) (tC (.int 1)))) := po_some (pe_un un_neg pe_int)
  refine wpAny_Slice (thn (po_none.run pins s1 σ H1 (fun o H2 => o = none ∧ H2 = H1) I1 ⟨rfl, rfl⟩) fun vl s2 ⟨l, H2, I2, pl, el, e2⟩ => ?_)
  subst el e2
  refine thn (po_none.run pins s2 σ H2 (fun o H3 => o = none ∧ H3 = H2) I2 ⟨rfl, rfl⟩) fun vu s3 ⟨u, H3, I3, pu, eu, e3⟩ => ?_
  subst eu e3
  refine thn (hst.run pins s3 σ H3 (fun o H4 => o = some (-1) ∧ H4 = H3) I3 ⟨1, rfl, -1, rfl, rfl, rfl⟩) fun vs s4 ⟨o, H4, I4, ps, eo, e4⟩ => ?_
  subst eo e4
  have I5 : Inv X pins σ H4 { s4 with heap := s4.heap.push { cls := .type "slice", data := .fields #[vl, vu, vs] } } := I4.kept (t' := s4.toks) fun b ob q => Heap.get?_push_of_some _ q
  obtain ⟨its, r, ht, hz⟩ := I5.tuple hx
  have hlen := r.length
  cases pl
  cases pu
  show wpAny (model X.prog X.w) X.A (subscriptTail e (.Slice none none (some (.UnaryOp .USub (.Constant (.int 1) k p1) p2)) p3) (.ref a) (.ref s4.heap.objs.size)) (EP X pins σ Q) X.xe { s4 with heap := s4.heap.push { cls := .type "slice", data := .fields #[.none, .none, vs] } }
  refine tail_any (ops := [.ref a, .ref s4.heap.objs.size]) ht.typeIs (PyProof.Rows.slot_tuple_getitem.lookup) ?_ (by with_unfolding_all rfl)
  refine getItem_tuple_rev ht (Heap.IsSliceOf.new _ .none .none vs) ps ?_ (by rw [List.size_toArray]; omega)
  refine ⟨.ref _, _, I5.laid (t' := s4.toks) (o := .tup xs.reverse) (fun b ob q => Heap.get?_push_of_some _ q) (Nat.le_refl _) ?_, rfl, q _ (I5.hok.fresh (Nat.le_refl _))⟩
  exact ⟨by rw [List.length_reverse]; exact hz, _, r.reverse, IsTup.new _ _⟩
end
section
variable {X : Cx} {sc : Scope} {B : Base} {N Vs L G : List Str} {k : Nat} {ρ ρ' ρ2 : List Slot} {pi pj pk pl : PSt} {pos p1 p2 p3 p4 : Pos} {e a : Expr} {ds : List D} {j : Nat}
theorem ev_rev (ha : Ev X B a ρ pi (.tuple ds) pj) : Ev X B (.Subscript a (.Slice none none (some (.UnaryOp .USub (.Constant (.int 1) j p1) p2)) p3) pos) ρ pi (.tuple ds.reverse) pj :=
  .of (pe_revT pe_W) fun σ F H hh Q q => ha.run σ F H hh _ fun v F1 H1 s1 r1 => by
    cases r1 with
    | tup h1 h2 => exact ⟨_, _, rfl, SqT.of (s1.g1.sub _ _ h1), fun p hp => q _ _ _ (s1.trans (Step.alloc s1.g1 hp)) (.tup upd_same (h2.reverse.up (same_upd (s1.g1.fnone hp))))⟩
end
end Fs
-- FsZ3
/-! Rules: sorted tuples of ints. -/
namespace Fs
open PySem PySem.Spec PyProof.Rows L2
theorem code_eq : ∀ {x y : List Int}, x.length = y.length → TS.Bd 64 x → TS.Bd 64 y → TS.code 64 x = TS.code 64 y → x = y
  | [], [], _, _, _, _ => rfl
  | [], _ :: _, h, _, _, _ => by simp at h
  | _ :: _, [], h, _, _, _ => by simp at h
  | d :: x, e :: y, h, hx, hy, hc => by
    have hl : x.length = y.length := by simpa using h
    rcases Int.lt_trichotomy d e with c | c | c
    · have := TS.code_lt hl hx.tail hy.tail c
      omega
    · subst c
      have : TS.code 64 x = TS.code 64 y := by
        have h1 : d * 64 ^ x.length + TS.code 64 x = d * 64 ^ y.length + TS.code 64 y := hc
        rw [hl] at h1
        omega
      rw [code_eq hl hx.tail hy.tail this]
    · have := TS.code_lt hl.symm hy.tail hx.tail c
      omega
theorem ins_perm (x : List Int) : ∀ r : List (List Int), (insC x r).Perm (x :: r)
  | [] => .refl _
  | y :: r => by
    unfold insC
    split
    · exact .refl _
    · exact ((ins_perm x r).cons y).trans (.swap x y r)
theorem sort_perm : ∀ r : List (List Int), (sortC r).Perm r
  | [] => .refl _
  | x :: r => (ins_perm x _).trans ((sort_perm r).cons x)
theorem ins_sorted (x : List Int) : ∀ r : List (List Int), r.Pairwise (fun a b => TS.code 64 a ≤ TS.code 64 b) → (insC x r).Pairwise (fun a b => TS.code 64 a ≤ TS.code 64 b)
  | [], _ => by simp [insC]
  | y :: r, h => by
    have h' := List.pairwise_cons.mp h
    unfold insC
    split
    · rename_i hle
      refine List.pairwise_cons.mpr ⟨fun z hz => ?_, h⟩
      rcases List.mem_cons.mp hz with rfl | hz
      · exact hle
      · exact Int.le_trans hle (h'.1 z hz)
    · rename_i hle
      refine List.pairwise_cons.mpr ⟨fun z hz => ?_, ins_sorted x r h'.2⟩
      rcases List.mem_cons.mp ((ins_perm x r).mem_iff.mp hz) with rfl | hz
      · omega
      · exact h'.1 z hz
theorem sort_sorted : ∀ r : List (List Int), (sortC r).Pairwise (fun a b => TS.code 64 a ≤ TS.code 64 b)
  | [] => .nil
  | x :: r => ins_sorted x _ (sort_sorted r)
theorem sorted_uniq : ∀ {a b : List (List Int)}, a.Perm b → a.Pairwise (fun a b => TS.code 64 a ≤ TS.code 64 b) → b.Pairwise (fun a b => TS.code 64 a ≤ TS.code 64 b) → (∀ x ∈ a, ∀ y ∈ a, TS.code 64 x = TS.code 64 y → x = y) → a = b
  | [], b, p, _, _, _ => p.nil_eq
  | x :: a, [], p, _, _, _ => by simpa using p.length_eq
  | x :: a, y :: b, p, ha, hb, inj => by
    have ha' := List.pairwise_cons.mp ha
    have hb' := List.pairwise_cons.mp hb
    have hy : y ∈ x :: a := p.mem_iff.mpr List.mem_cons_self
    have hx : x ∈ y :: b := p.mem_iff.mp List.mem_cons_self
    have e : x = y := inj x List.mem_cons_self y hy (by
      have h1 : TS.code 64 x ≤ TS.code 64 y := by
        rcases List.mem_cons.mp hy with e | hy
        · rw [e]; exact Int.le_refl _
        · exact ha'.1 y hy
      have h2 : TS.code 64 y ≤ TS.code 64 x := by
        rcases List.mem_cons.mp hx with e | hx
        · rw [e]; exact Int.le_refl _
        · exact hb'.1 x hx
      omega)
    subst e
    rw [sorted_uniq p.cons_inv ha'.2 hb'.2 fun u hu v hv => inj u (List.mem_cons_of_mem _ hu) v (List.mem_cons_of_mem _ hv)]
theorem reps_perm {K : Frag} {F : Hp} {xs ys : List V} (p : ys.Perm xs) : ∀ {ts : List (List Int)}, Reps K F xs (ts.map encT) → ∃ us : List (List Int), Reps K F ys (us.map encT) ∧ us.Perm ts := by
  induction p with
  | nil => exact fun {ts} r => ⟨ts, r, .refl _⟩
  | cons x p ih =>
    intro ts r
    cases ts with
    | nil => cases r
    | cons t ts =>
      cases r with
      | cons r1 r2 =>
        obtain ⟨us, h1, h2⟩ := ih r2
        exact ⟨t :: us, .cons r1 h1, h2.cons t⟩
  | swap x y l =>
    intro ts r
    rcases ts with _ | ⟨t, _ | ⟨u, ts⟩⟩
    · cases r
    · cases r with
      | cons r1 r2 => cases r2
    · cases r with
      | cons r1 r2 =>
        cases r2 with
        | cons r2 r3 => exact ⟨u :: t :: ts, .cons r2 (.cons r1 r3), .swap t u ts⟩
  | trans p1 p2 ih1 ih2 =>
    intro ts r
    obtain ⟨us, h1, h2⟩ := ih2 r
    obtain ⟨ws, h3, h4⟩ := ih1 h1
    exact ⟨ws, h3, h4.trans h2⟩
theorem tupsOf_eq : ∀ {ds : List D} {ts : List (List Int)}, tupsOf ds = some ts → ds = ts.map encT := by
  intro ds
  induction ds with
  | nil => intro ts h; cases h; rfl
  | cons d ds ih =>
    intro ts h
    cases d <;> first | (simp [tupsOf] at h; done) | skip
    simp only [tupsOf, Option.bind_eq_some_iff, Option.map_eq_some_iff] at h
    obtain ⟨y, hy, r, hr, rfl⟩ := h
    rw [ih hr]
    have : ∀ {ds : List D} {ns : List Int}, intsOf ds = some ns → ds = ns.map .int := by
      intro ds
      induction ds with
      | nil => intro ns h; cases h; rfl
      | cons d ds ih =>
        intro ns h
        cases d <;> first | (simp [intsOf] at h; done) | skip
        simp only [intsOf, Option.map_eq_some_iff] at h
        obtain ⟨r, h1, rfl⟩ := h
        rw [ih h1]
        rfl
    rw [this hy]
    rfl
theorem reps_at {K : Frag} {F : Hp} : ∀ {xs : List V} {ts : List (List Int)}, Reps K F xs (ts.map encT) → ∀ x ∈ xs, ∃ t ∈ ts, Rep K F x (encT t)
  | _, [], h, x, hx => by cases h; cases hx
  | _, t :: ts, h, x, hx => by
    cases h with
    | cons r1 r2 =>
      rcases List.mem_cons.mp hx with rfl | hx
      · exact ⟨t, List.mem_cons_self, r1⟩
      · obtain ⟨u, hu, r⟩ := reps_at r2 x hx
        exact ⟨u, List.mem_cons_of_mem _ hu, r⟩
theorem rep_tupI {K : Frag} {F H : Hp} {x : V} {t : List Int} (s : Same F H) (r : Rep K F x (encT t)) : TupI K H x t := by
  cases r with
  | tup h1 h2 =>
    have e := h2.ints
    subst e
    exact ⟨_, rfl, SqT.of (s _ _ h1)⟩
theorem pw_of {K : Frag} {F H : Hp} (s : Same F H) : ∀ {ys : List V} {us : List (List Int)}, Reps K F ys (us.map encT) → ys.Pairwise (fun x y => ∀ n m, TupI K H x n → TupI K H y m → TS.code 64 n ≤ TS.code 64 m) → us.Pairwise (fun a b => TS.code 64 a ≤ TS.code 64 b)
  | _, [], _, _ => .nil
  | y :: ys, u :: us, r, h => by
    cases r with
    | cons r1 r2 =>
      have h' := List.pairwise_cons.mp h
      refine List.pairwise_cons.mpr ⟨fun w hw => ?_, pw_of s r2 h'.2⟩
      have : ∀ {ys : List V} {us : List (List Int)}, Reps K F ys (us.map encT) → ∀ w ∈ us, ∃ y ∈ ys, Rep K F y (encT w) := by
        intro ys us
        induction us generalizing ys with
        | nil => intro _ w hw; cases hw
        | cons v us ih =>
          intro r w hw
          cases r with
          | cons r1 r2 =>
            rcases List.mem_cons.mp hw with rfl | hw
            · exact ⟨_, List.mem_cons_self, r1⟩
            · obtain ⟨y, hy, q⟩ := ih r2 w hw
              exact ⟨y, List.mem_cons_of_mem _ hy, q⟩
      obtain ⟨z, hz, rz⟩ := this r2 w hw
      exact h'.1 z hz u w (rep_tupI s r1) (rep_tupI s rz)
  | [], u :: us, r, _ => by cases r
theorem bdT_of {t : List Int} (h : bdT t = true) : TS.Bd 64 t := fun m hm => by
  unfold bdT at h
  have := List.all_eq_true.mp h m hm
  simpa using this
theorem co_sorted {K : Frag} {ts : List (List Int)} {d : Nat} (hl : ts.length < 64) (hd : ∀ t ∈ ts, t.length = d ∧ TS.Bd 64 t) : CallO K (rSortU K d 64) [.list (ts.map encT)] ((sortC ts).map encT) := fun F H pi vs g r Q q => by
  cases r with
  | cons r1 r2 =>
    cases r2
    cases r1 with
    | @lst a xs _ h1 h2 =>
      refine ⟨a, xs, rfl, SqL.of (g.sub _ _ h1), by rw [h2.len, List.length_map]; exact hl, fun x hx => ?_, fun ys p hp hs hn => ?_⟩
      · obtain ⟨t, ht, rt⟩ := reps_at h2 x hx
        exact ⟨t, rep_tupI g.sub rt, (hd t ht).1, (hd t ht).2⟩
      · obtain ⟨us, q1, q2⟩ := reps_perm hp h2
        have e : us = sortC ts := sorted_uniq (q2.trans (sort_perm ts).symm) (pw_of g.sub q1 hs) (sort_sorted ts) fun x hx y hy hc => by
          have hx := hd x (q2.mem_iff.mp hx)
          have hy := hd y (q2.mem_iff.mp hy)
          exact code_eq (hx.1.trans hy.1.symm) hx.2 hy.2 hc
        subst e
        exact q p ys F _ (Step.allocO g hn) hn (g.fnone hn) upd_same q1
end Fs
-- FsZ4
/-! Rule: t[:n].count(b). -/
namespace Fs
open PySem PySem.Spec PyProof.Rows L2 HT
/-- t[:n].count(b), t[:n] less than t -/
def tCnt (K : Frag) (te tn tb : TE) : TE := fun σ H Q => te σ H fun x H1 => tPart tn σ H1 fun u H3 => ∃ (a : Addr) (ns : List Int) (n : Int), x = .ref a ∧ u = some n ∧ SqT K H3 a (ns.map V.int) ∧ ¬ (HT.sIx ns.length ns.length (some n) = ns.length) ∧
  ∀ p, H3 p = none → tb σ (upd H3 p (.tup ((ns.take (HT.sIx ns.length ns.length (some n))).map V.int))) fun z H4 => ∃ (b : Int), z = .int b ∧ SqT K H4 p ((ns.take (HT.sIx ns.length ns.length (some n))).map V.int) ∧ Q (.int (((ns.take (HT.sIx ns.length ns.length (some n))).countP fun m => decide (m = b)) : Nat)) H4
theorem countP_vals : ∀ {us : List Value} {ns : List Int} {b : Int}, Vals (ns.map V.int) us → (us.countP fun u => match u with | .int m _ => m == b | _ => false) = ns.countP fun m => decide (m = b)
  | _, [], _, h => by cases h; rfl
  | _, n :: ns, b, h => by
    cases h with
    | cons r t =>
      obtain ⟨tk, rfl⟩ := r
      rw [List.countP_cons, List.countP_cons, countP_vals t]
      congr 1
theorem vals_int_at : ∀ {us : List Value} {ns : List Int}, Vals (ns.map V.int) us → ∀ u ∈ us, ∃ m t, u = .int m t
  | _, [], h, u, hu => by cases h; cases hu
  | _, n :: ns, h, u, hu => by
    cases h with
    | cons r t =>
      rcases List.mem_cons.mp hu with rfl | hu
      · obtain ⟨tk, rfl⟩ := r
        exact ⟨_, _, rfl⟩
      · exact vals_int_at t u hu
theorem cutV_to (xs : List V) (n : Int) : cutV xs none (some n) = xs.take (HT.sIx xs.length xs.length (some n)) := by
  unfold cutV
  rw [HT.sIx_none]
  simp
theorem pe_cnt {X : Cx} {e nE b : Expr} {te tn tb : TE} {p2 p3 apos cpos : Pos} (he : PE X e te) (hn : PE X nE tn) (hb : PE X b tb) (hs : notStar b = true) (hl : (apos.endLine == cpos.line) = true) :
    PE X (.Call (.Attribute (.Subscript e (.Slice none (some nE) none p2) p3) "count" apos) [b] [] cpos) (tCnt X.K te tn tb) := by
  refine ⟨fun pins s σ H Q I h => ?_⟩
  have hst : starEach [b] X.env = [(false, eval b X.env)] := by rw [star_of hs]; rfl
  refine wpAny_Call_method (T := "tuple") (id := "tuple.count") rfl (by rw [hst]; rfl) hl PySem.F.plainAttrs_tuple PySem.F.slot_tuple_count PySem.F.type_tuple_count ?_
  refine Subscript_ (thn (he.run pins s σ H _ I h) fun v s1 ⟨x, H1, I1, r1, q1⟩ => ?_)
  refine wpAny_Slice (thn (po_none.run pins s1 σ H1 (fun o H2 => o = none ∧ H2 = H1) I1 ⟨rfl, rfl⟩) fun vl s2 ⟨l, H2, I2, pl, el, e2⟩ => ?_)
  subst el e2
  refine thn ((po_some hn).run pins s2 σ _ _ I2 q1) fun vu s3 ⟨u, H3, I3, pu, q3⟩ => ?_
  obtain ⟨a, ns, n, rfl, rfl, hx, hw, q⟩ := q3
  rw [evalPart_none]
  refine wpAny_pure ?_
  cases r1
  have I4 : Inv X pins σ H3 { s3 with heap := s3.heap.push { cls := .type "slice", data := .fields #[vl, vu, .none] } } := I3.kept (t' := s3.toks) fun b ob q => Heap.get?_push_of_some _ q
  obtain ⟨its, r, ht, hz⟩ := I4.tuple hx
  have hlen : its.toArray.size = ns.length := by rw [List.size_toArray, ← r.length, List.length_map]
  have hzz : its.toArray.size ≤ sizeLine := by rw [hlen]; rw [List.length_map] at hz; exact hz
  refine tail_any (ops := [.ref s3.heap.objs.size, .ref a]) ht.typeIs PyProof.Rows.slot_tuple_getitem.lookup ?_ (by with_unfolding_all rfl)
  refine HT.getItem_tuple_cut ht (Heap.IsSliceOf.new ..) pl pu (by rw [hlen, HT.sIx_none]; exact fun z => hw z.2) ?_ hzz
  rw [hlen, HT.sIx_none, Nat.sub_zero, List.drop_zero]
  generalize hk : HT.sIx ns.length ns.length (some n) = k
  rw [hk] at q
  have hv : Vals ((ns.take k).map V.int) (its.take k) := by rw [List.map_take]; exact r.take k
  have hfr : H3 (s3.heap.push { cls := .type "slice", data := .fields #[vl, vu, .none] }).objs.size = none := I4.hok.fresh (Nat.le_refl _)
  have q := q _ hfr
  have I5 : Inv X pins σ (upd H3 (s3.heap.push { cls := .type "slice", data := .fields #[vl, vu, .none] }).objs.size (.tup ((ns.take k).map V.int))) { s3 with heap := (s3.heap.push { cls := .type "slice", data := .fields #[vl, vu, .none] }).push { cls := .type "tuple", data := .seq (its.take k).toArray } } :=
    I4.laid (t' := s3.toks) (o := .tup ((ns.take k).map V.int)) (fun b ob q => Heap.get?_push_of_some _ q) (Nat.le_refl _) ⟨Nat.le_trans (by rw [List.length_map, List.length_take]; omega) hzz, _, hv, IsTup.new _ _⟩
  refine ⟨⟨_, Heap.get?_push_size _ rfl, rfl⟩, fun b eb => ?_, ?_⟩
  · cases eb
    exact ⟨_, Heap.get?_push_size _ rfl, rfl⟩
  rw [hst]
  refine Calls.callWith_builtin rfl (Calls.evalArgs_plain (Calls.spliced_cons (thn (hb.run pins _ σ _ _ I5 q) fun bv s5 ⟨z, H5, I6, rz, b', ez, hx5, q5⟩ => Calls.spliced_nil ?_)))
  subst ez
  obtain ⟨tb', rfl⟩ := rz
  obtain ⟨its5, r5, ⟨⟨cls, dd, data, sl⟩, ho, hc, m, hd⟩, _⟩ := I6.tuple hx5
  simp only at hc hd
  subst hc hd
  refine call_meets PySem.F.slot_tuple_count ⟨_, ho, rfl⟩ PySem.F.entry_tuple_count (PySem.F.args_tuple_count_2 _ _) (SeqAt.tuple_countAt _ its5.toArray m dd sl (.int b' tb') (fun u => match u with | .int m _ => m == b' | _ => false)) ⟨ho, fun y hy => ?_, ?_⟩
  · obtain ⟨m', t', rfl⟩ := vals_int_at r5 y (by simpa using hy)
    exact SeqAt.EqAt.int_int m' t' b' tb'
  · refine ⟨.int _, H5, I6.tok _, ⟨_, rfl⟩, ?_⟩
    rw [show its5.toArray.toList = its5 from rfl, countP_vals r5]
    exact q5
end Fs
-- FsZ5
/-! Rules: counting, the items of a new dict. -/
namespace Fs
open PySem PySem.Spec PyProof.Rows L2
theorem pe_lockA {X : Cx} {e : Expr} {td : TE} (he : PE X e td) : PE X e (fun σ H Q => td σ H fun x H1 => ∃ d u, x = .ref d ∧ H1 d = some u ∧ Mut (some u) ∧ ∀ od, Q x (upd H1 d (.frz od u))) := by
  refine ⟨fun pins s σ H Q I h => ?_⟩
  refine thn (he.run pins s σ H _ I h) fun v s1 ⟨x, H1, I1, r1, q1⟩ => ?_
  obtain ⟨d, u, rfl, hd, mu, q⟩ := q1
  obtain ⟨od, I2⟩ := I1.lock hd mu
  exact ⟨_, _, I2, r1, q od⟩
theorem RepK.at_ {K : Frag} {F : Hp} : ∀ {xs : List (Key × V)} {kvs : List (D × D)} {i : Nat} {k : Key} {v : V}, RepK K F xs kvs → xs[i]? = some (k, v) → ∃ z, kvs[i]? = some z ∧ Rep K F (kV k) z.1 ∧ Rep K F v z.2
  | _, _, i, _, _, .nil, h => by simp at h
  | _, _, 0, _, _, .cons (k := k) r t, h => by
    cases h
    exact ⟨_, rfl, .int k, r⟩
  | _, _, i + 1, _, _, .cons r t, h => RepK.at_ (i := i) t h
section
variable {X : Cx} {sc : Scope} {B : Base} {N Vs L G : List Str} {k : Nat} {ρ ρ' ρ2 : List Slot} {pi pj pk pl : PSt} {pos pos' apos cpos p1 p2 p3 p4 tpos : Pos} {e a b c nE : Expr} {es elts : List Expr} {ds : List D} {kvs : List (D × D)} {ns : List Int} {x : Str} {m n : Int} {kk : Nat}
theorem ev_cnt (ha : Ev X B a ρ pi (.tuple (ns.map .int)) pj) (hn : Ev X B nE ρ pj (.int n) pk) (hb : Ev X B b ρ pk (.int m) pl) (hw : ¬ (HT.sIx ns.length ns.length (some n) = ns.length)) (hs : notStar b = true) (hl : (apos.endLine == cpos.line) = true) :
    Ev X B (.Call (.Attribute (.Subscript a (.Slice none (some nE) none p2) p3) "count" apos) [b] [] cpos) ρ pi (.int ((ns.take (HT.sIx ns.length ns.length (some n))).countP fun z => decide (z = m) : Nat)) pl :=
  .of (pe_cnt pe_W pe_W pe_W hs hl) fun σ F H hh Q q => ha.run σ F H hh _ fun v F1 H1 s1 r1 => by
    cases r1 with
    | tup h1 h2 =>
      have e := h2.ints
      subst e
      refine hn.run σ F1 H1 (hh.step s1) _ fun w F2 H2 s2 r2 => ?_
      cases r2
      refine ⟨n, rfl, _, ns, n, rfl, rfl, SqT.of (s2.g1.sub _ _ (s2.ext _ _ h1)), hw, fun p hp => ?_⟩
      have s3 := (s1.trans s2).trans (Step.alloc (o := .tup ((ns.take (HT.sIx ns.length ns.length (some n))).map V.int)) s2.g1 hp)
      exact hb.run σ _ _ (hh.step s3) _ fun u F3 H3 s4 r3 => ⟨m, r3.isI, SqT.of (s4.g1.sub _ _ (s4.ext _ _ upd_same)), q _ F3 H3 (s3.trans s4) (.int _)⟩
theorem evs_callN {ps : List Str} {g : List D → List (D × D) → Prop} (fr : Fr X sc N Vs L G k) (hc : HasN X k x ps g) (hG : x ∈ G) (ha : EvA X B (e :: es) ρ pi ds pj) (hg : g ds kvs) : EvS X B (.Call (.Name x p1) (e :: es) [] pos) ρ pi (.odic kvs) pj := by
  obtain ⟨f, fd, F, hm, hk, hb⟩ := hc
  refine .of (pe_call F fr.room (fr.glo x hG).1 hm hk hb .nil pass0 pa_W (fr.glo x hG).2.1 ((ns_head ha.1).1 _) ((ns_head ha.1).2.any _)) fun σ F' H h Q q => ha.run σ F' H h _ fun vs F1 H1 s1 r1 => ?_
  rw [List.append_nil]
  exact ⟨F1, ds, kvs, s1.g1.sub, r1, hg, fun v F2 H2 s2 r2 => q v F2 H2 (s1.trans (Step.pure s1.g1 s2)) (r2.base fun l hl => fresh_of s1 hl)⟩
theorem walks_items {K : Frag} {F : Hp} {l : Addr} {od : Obj} {xs : List (Key × V)} (h : F l = some (.frz od (.dK xs))) (r : RepK K F xs kvs) : Walks K F (Same F) (Iti l od xs) (kvs.map fun z => .tuple [z.1, z.2]) where
  go := fun i H hi s => ⟨s _ _ h, by rw [r.len]; simpa using hi⟩
  stop := fun H s => ⟨s _ _ h, by rw [r.len]; simp⟩
  yld := fun i H x H' hi s y => by
    obtain ⟨T, k, v, hkv, rfl, hT, rfl⟩ := y
    obtain ⟨z, hz, rk, rv⟩ := r.at_ hkv
    exact ⟨.tuple [z.1, z.2], by rw [List.getElem?_map, hz]; rfl, .inr ⟨T, _, _, rfl, hT, rfl, .cons rk (.cons rv .nil), rfl⟩⟩
/-- the items of a new dict -/
theorem evi_items {y : Str} {e' : Expr} {es' : List Expr} (h : EvS X B (.Call (.Name y p1) (e' :: es') [] p2) ρ pi (.odic kvs) pj) (hl : (apos.endLine == cpos.line) = true) :
    EvI X B (.Tuple elts kk tpos) (.Call (.Attribute (.Call (.Name y p1) (e' :: es') [] p2) "items" apos) [] [] cpos) ρ pi (kvs.map fun z => .tuple [z.1, z.2]) pj :=
  .of (pi_items (pe_lockA pe_W) (by rfl) hl) fun σ F H hh Rq q => h.run σ F H hh _ fun v F1 H1 s1 n1 => by
    obtain ⟨l, xs, rfl, hn, f, ee, r⟩ := n1
    refine ⟨l, .dK xs, rfl, ee, trivial, fun od => ⟨l, od, xs, rfl, upd_same, ?_⟩⟩
    have st := (s1.mut (o := .frz od (.dK xs)) hn f).freeze hn f upd_same
    exact q _ _ _ st (walks_items upd_same (r.up (same_upd f)))
end
end Fs
-- FsV
/-! Rules: the drawn pool. -/
namespace Fs
open PySem PySem.Spec PyProof.Rows L2
theorem can_ints : ∀ ns : List Int, PyData.canLayAll0 (ns.map .int) = true
  | [] => by simp [PyData.canLayAll0]
  | n :: ns => by simp [PyData.canLayAll0, PyData.canLay0, can_ints ns]
theorem depth_ints : ∀ ns : List Int, PyData.depthAll (ns.map .int) ≤ 1
  | [] => by simp [PyData.depthAll]
  | n :: ns => by
    have := depth_ints ns
    simp [PyData.depthAll, PyData.depth]
    omega
theorem shaped_ints (ns : List Int) : SeqAt.shaped (.list (ns.map .int)) = true := by
  have := depth_ints ns
  simp [SeqAt.shaped, PyData.canLay0, can_ints ns, PyData.depth]
  omega
theorem eqv_nil (ns : List Int) : PyData.eqv (.list (ns.map .int)) (.list []) = ns.isEmpty := by
  cases ns <;> simp [PyData.eqv, PyData.eqvAll]
section
variable {F H : Hp} {q : Pl}
theorem Step.plL (g : Good F H (some q)) (t : List Int) : Step F H (some q) F (upd H q.L (.lst (t.map V.int))) (some { q with ns := t }) := by
  obtain ⟨f1, f2, ne, h1, h2⟩ := g.pool
  exact ⟨g, ⟨same_upd3 g.sub f2, f1, f2, ne, by rw [upd_ne ne]; exact h1, upd_same⟩, Same.refl _, fun a o e n => by rw [upd_ne (n q rfl).2]; exact e, fun _ _ => rfl, rfl⟩
theorem Step.plP (g : Good F H (some q)) (a b : Int) : Step F H (some q) F (upd H q.p (.lst [.int a, .int b, .ref q.L])) (some { q with a := a, b := b }) := by
  obtain ⟨f1, f2, ne, h1, h2⟩ := g.pool
  exact ⟨g, ⟨same_upd3 g.sub f1, f1, f2, ne, upd_same, by rw [upd_ne (Ne.symm ne)]; exact h2⟩, Same.refl _, fun a o e n => by rw [upd_ne (n q rfl).1]; exact e, fun _ _ => rfl, rfl⟩
end
section
variable {X : Cx} {sc : Scope} {B : Base} {N Vs L G : List Str} {k : Nat} {ρ ρ' : List Slot} {pi pj pk : PSt} {pos pos' apos cpos p1 p2 p3 p4 p5 p6 : Pos} {e : Expr} {rest : List Stmt} {x y : Str} {i j : Nat} {n m : Int} {R : Rt} {q : Pl} {c1 c2 : Nat}
theorem pool_at {F H : Hp} {σ : L2.St} (hh : Holds X.K B F H σ ρ (some q)) (l : Look N ρ i x .pool) : σ[i]? = some (some (.ref q.p)) ∧ F q.p = none ∧ F q.L = none ∧ q.p ≠ q.L ∧ H q.p = some (.lst [.int q.a, .int q.b, .ref q.L]) ∧ H q.L = some (.lst (q.ns.map V.int)) := by
  obtain ⟨o, e1, q0, e2, rfl⟩ := hh.at_ i _ l.r
  cases e2
  obtain ⟨f1, f2, ne, h1, h2⟩ := hh.good.pool
  exact ⟨e1, f1, f2, ne, h1, h2⟩
/-- pool[0], pool[1] -/
theorem ev_pl (fr : Fr X sc N Vs L G k) (l : Look N ρ i x .pool) (hx : x ∈ Vs) (h : (n = 0 ∧ m = q.a) ∨ (n = 1 ∧ m = q.b)) : Ev X B (.Subscript (.Name x p1) (.Constant (.int n) c1 p2) pos) ρ (some q) (.int m) (some q) :=
  .of (pe_ix ix_list (fr.pe l.n hx) pe_int (fun _ _ => rfl)) fun σ F H hh Q z => by
    obtain ⟨e1, f1, f2, ne, h1, h2⟩ := pool_at hh l
    refine ⟨_, e1, q.p, _, n, .int m, rfl, rfl, SqL.of h1, ?_, z _ F H (Step.refl hh.good) (.int _)⟩
    rcases h with ⟨rfl, rfl⟩ | ⟨rfl, rfl⟩ <;> rfl
/-- pool[2] != [] -/
theorem et_plNe (fr : Fr X sc N Vs L G k) (l : Look N ρ i x .pool) (hx : x ∈ Vs) : EvT X B (.Compare (.Subscript (.Name x p1) (.Constant (.int 2) c1 p2) p3) [.NotEq] [.List [] p4] pos) ρ (some q) (!q.ns.isEmpty) (some q) :=
  .of (pt_cmpR (op_neD fr.u64) (pe_ix ix_list (fr.pe l.n hx) pe_int (fun _ _ => rfl)) (pe_lst pa_nil) (nomark _)) fun σ F H hh Q z => by
    obtain ⟨e1, f1, f2, ne, h1, h2⟩ := pool_at hh l
    refine ⟨_, e1, q.p, _, 2, .ref q.L, rfl, rfl, SqL.of h1, rfl, by show 0 ≤ sizeLine; decide, fun p hp => ?_⟩
    have hne : q.L ≠ p := ne_of_none h2 hp
    refine ⟨.list (q.ns.map .int), .list [], .lst (SqL.of (by rw [upd_ne hne]; exact h2)) (Reps.dp _ _ (Reps.of_ints q.ns) (can_ints q.ns)), .lst (SqL.of upd_same) .nil, shaped_ints q.ns, by decide +kernel, ?_⟩
    rw [eqv_nil]
    exact ⟨_, rfl, z F _ (Step.allocO hh.good hp)⟩
/-- y = int(pool[2].pop(0)) -/
theorem ex_plPop {t : List Int} (fr : Fr X sc N Vs L G k) (bl : Bl X.mg) (hG : ("int" : Str) ∈ G) (l : Look N ρ i x .pool) (hx : x ∈ Vs) (hq : q.ns = n :: t) (s : Sto N ρ j y (.val (.int n)) ρ') (hL : y ∈ L) (hl : (apos.endLine == cpos.line) = true) (hr : Ex X B rest ρ' (some { q with ns := t }) R) :
    Ex X B (.Assign [.Name y p1] (.Call (.Name "int" p2) [.Call (.Attribute (.Subscript (.Name x p3) (.Constant (.int 2) c1 p4) p5) "pop" apos) [.Constant (.int 0) c2 p6] [] cpos] [] pos') pos :: rest) ρ (some q) R :=
  .cons (ps_set (i := j) (by rw [fr.hN]; exact fr.nd) (by rw [fr.hN]; exact s.n) (fr.sto y hL).1
    (pe_callTy call_int1 (fr.glo _ hG).1 bl.int boot_int' (pa_cons (pe_bm PySem.F.plainAttrs_list PySem.F.slot_list_pop PySem.F.type_list_pop mt_popAt (pe_ix ix_list (fr.pe l.n hx) pe_int (fun _ _ => rfl)) (pa_cons pe_int pa_nil (by rfl)) (by rfl) (by rfl) hl (by rfl) rfl) pa_nil (by rfl)) (fr.glo _ hG).2.2 (fr.glo _ hG).2.1 (by rfl) (by rfl)) (by rfl) (fr.sto y hL).2) fun σ F H F0 s0 hh => by
    obtain ⟨e1, f1, f2, ne, h1, h2⟩ := pool_at hh l
    have st := Step.plL hh.good t
    refine ⟨_, e1, q.p, _, 2, .ref q.L, rfl, rfl, SqL.of h1, rfl, .inl ⟨rfl, _, SqL.of h2⟩, q.L, q.ns.map V.int, 0, 0, .int n, rfl, rfl, h2, by decide, by decide, ?_, by rw [hq]; rfl, ?_⟩
    · rw [hq]
      exact seqIndex_of (by decide) (by simp)
    · refine .inl ⟨n, rfl, ?_⟩
      have := (hh.step st).setVal s.lt (v := .int n) (.int n)
      rw [← s.r] at this
      have e : (q.ns.map V.int).eraseIdx 0 = t.map V.int := by rw [hq]; rfl
      rw [e]
      exact hr.run _ F _ F0 s0 this
/-- pool[0] = e, pool[1] = e -/
theorem ex_plSet {q' : Pl} (fr : Fr X sc N Vs L G k) (l : Look N ρ i x .pool) (hx : x ∈ Vs) (h : Ev X B e ρ pi (.int m) (some q)) (hn : (n = 0 ∧ q' = { q with a := m }) ∨ (n = 1 ∧ q' = { q with b := m })) (hr : Ex X B rest ρ (some q') R)
    (h1 : ∀ env, swapsWithSole [.Subscript (.Name x p1) (.Constant (.int n) c1 p2) p3] e pos.line env = pure false) (h2 : ∀ env, swappedStores [.Subscript (.Name x p1) (.Constant (.int n) c1 p2) p3] e env = pure none) :
    Ex X B (.Assign [.Subscript (.Name x p1) (.Constant (.int n) c1 p2) p3] e pos :: rest) ρ pi R :=
  .cons (ps_asg pe_W (pg_sub (fr.pe l.n hx) pe_int set_list (by intro _; rfl)) (h1 _) (h2 _) (by rfl)) fun σ F H F0 s0 hh => h.run σ F H hh _ fun v F1 H1 s1 r1 => by
    cases r1
    obtain ⟨e1, f1, f2, ne, g1, g2⟩ := pool_at (hh.step s1) l
    rcases hn with ⟨rfl, rfl⟩ | ⟨rfl, rfl⟩
    · exact ⟨_, e1, q.p, _, 0, 0, rfl, rfl, g1, rfl, hr.run _ F1 _ F0 (s0.trans s1.ext) ((hh.step s1).step (Step.plP (hh.step s1).good m q.b))⟩
    · exact ⟨_, e1, q.p, _, 1, 1, rfl, rfl, g1, rfl, hr.run _ F1 _ F0 (s0.trans s1.ext) ((hh.step s1).step (Step.plP (hh.step s1).good q.a m))⟩
end
end Fs
-- FsL
/-! Soundness of the expression codes. -/
namespace Fs
open PySem PySem.Spec PyProof.Rows L2

section
variable {X : Cx} {sc : Scope} {B : Base} {N Vs L G : List Str} {k : Nat} {ρ ρ' ρ2 : List Slot} {pi pj pk pl : PSt} {pos pos' apos cpos p1 p2 p3 p4 : Pos} {e a b c tg : Expr} {es : List Expr} {st : Stmt} {rest body orelse : List Stmt} {d da db dc : D} {ds : List D} {x y z : Str} {i j : Nat} {m n : Int} {R : Rt} {s s1 s2 : Slot} {q : Bool}

/-- a tuple of one thing, repeated -/
theorem bin_snd {o : BO} {op : Operator} (ho : opC o op = true) (h : binD o da db = some s) : BinS X op da db s := by
  unfold binD at h
  split at h <;> (cases op <;> first | (exact absurd ho Bool.false_ne_true) | skip)
  · cases h; exact bin_add.toS
  · split at h
    · cases h; exact (bin_cat (by assumption)).toS
    · cases h
  · split at h
    · cases h; exact (bino_cat (by assumption)).toS
    · cases h
  · cases h; exact bin_sub.toS
  · split at h
    · cases h; exact (bin_mul (by assumption)).toS
    · cases h
  · split at h
    · rename_i hs
      cases h
      unfold small at hs
      simp only [Bool.and_eq_true, decide_eq_true_eq] at hs
      exact (bino_rep hs.1 hs.2).toS
    · cases h
  · split at h
    · rename_i hs
      cases h
      exact (bin_repT hs.1 hs.2).toS
    · cases h
  · split at h
    · cases h; exact (bin_mod (by assumption)).toS
    · cases h
  · split at h
    · cases h; exact (bin_div (by assumption)).toS
    · cases h
  · split at h
    · cases h; exact (bin_pow (by assumption)).toS
    · cases h
  all_goals cases h

/-! ### targets -/
theorem look_of : ∀ {N : List Str} {ρ : List Slot} {i : Nat} {x : Str} {s : Slot}, N[i]? = some x → ρ[i]? = some s → Look N ρ i x s
  | [], _, i, _, _, h, _ => by cases i <;> cases h
  | _ :: _, [], i, _, _, _, h => by cases i <;> cases h
  | y :: N, t :: ρ, 0, _, _, h, h' => by cases h; cases h'; exact .here
  | y :: N, t :: ρ, i + 1, _, _, h, h' => .there (look_of (i := i) h h')
theorem sto_of : ∀ {N : List Str} {ρ : List Slot} {i : Nat} {x : Str} {s : Slot}, N[i]? = some x → i < ρ.length → Sto N ρ i x s (ρ.set i s)
  | [], _, i, _, _, h, _ => by cases i <;> cases h
  | _ :: _, [], i, _, _, _, h => absurd h (Nat.not_lt_zero _)
  | y :: N, t :: ρ, 0, _, _, h, h' => by cases h; exact .here
  | y :: N, t :: ρ, i + 1, _, _, h, h' => .there (sto_of (i := i) h (Nat.lt_of_succ_lt_succ h'))
theorem tgs_star {sto : Str → Bool} : ∀ {t : Tg} {es : List Expr}, t.chks sto N es = true → (∀ env, (assignEach es env).findIdx? (·.1) = none) ∧ (∀ env, (assignEach es env).length = es.length)
  | .nil, [], _ => ⟨fun _ => rfl, fun _ => rfl⟩
  | .cons t ts, e :: es, h => by
    simp only [Tg.chks, Bool.and_eq_true] at h
    have ih := tgs_star h.2
    have hs : ∀ env, assignEach (e :: es) env = (false, assign e env) :: assignEach es env := fun env => by
      cases e <;> first
        | rfl
        | (have := h.1; cases t <;> cases this)
    exact ⟨fun env => by rw [hs]; simp [List.findIdx?_cons, ih.1 env], fun env => by rw [hs]; simp [ih.2 env]⟩
  | .nil, _ :: _, h => by simp [Tg.chks] at h
  | .cons _ _, [], h => by simp [Tg.chks] at h
  | .n _, _, h => by simp [Tg.chks] at h
  | .tup _, _, h => by simp [Tg.chks] at h
theorem asg_snd {sto : Str → Bool} (fr : FrA X sc sto N k) : ∀ (t : Tg), (∀ {e : Expr} {d : D} {ρ ρ' : List Slot}, t.chk sto N e = true → t.asg d ρ = some ρ' → Asg X B e d ρ ρ' t.is) ∧ (∀ {es : List Expr} {ds : List D} {ρ ρ' : List Slot}, t.chks sto N es = true → t.asg (.tuple ds) ρ = some ρ' → AsgS X B es ds ρ ρ' t.is ∧ es.length = ds.length) := by
  intro t
  induction t with
  | n i =>
    refine ⟨fun {e d ρ ρ'} h r => ?_, fun {es ds ρ ρ'} h r => by simp [Tg.chks] at h⟩
    cases e <;> first | (simp [Tg.chk] at h; done) | skip
    rename_i x p
    simp only [Tg.chk, Bool.and_eq_true, decide_eq_true_eq] at h
    unfold Tg.asg at r
    split at r
    · cases r
      exact asg_name (fr.fr [] [x] [] rfl (by simp [h.2]) rfl) (sto_of h.1 (by assumption)) (by simp)
    · cases r
  | nil =>
    refine ⟨fun {e d ρ ρ'} h r => by simp [Tg.chk] at h, fun {es ds ρ ρ'} h r => ?_⟩
    cases es with
    | cons _ _ => simp [Tg.chks] at h
    | nil =>
      cases ds with
      | cons _ _ => simp [Tg.asg] at r
      | nil => simp only [Tg.asg, Option.some.injEq] at r; subst r; exact ⟨asgs_nil, rfl⟩
  | tup ts ih =>
    refine ⟨fun {e d ρ ρ'} h r => ?_, fun {es ds ρ ρ'} h r => by simp [Tg.chks] at h⟩
    cases e <;> first | (simp [Tg.chk] at h; done) | skip
    rename_i es kk p
    simp only [Tg.chk] at h
    cases d <;> first | (simp [Tg.asg] at r; done) | skip
    rename_i ds
    simp only [Tg.asg] at r
    have := ih.2 h r
    exact asg_tup (fr.fr [] [] [] rfl rfl rfl) this.1 (fun env => by rw [(tgs_star h).2 env]; exact this.2) (tgs_star h).1
  | cons t ts ih1 ih2 =>
    refine ⟨fun {e d ρ ρ'} h r => by simp [Tg.chk] at h, fun {es ds ρ ρ'} h r => ?_⟩
    cases es with
    | nil => simp [Tg.chks] at h
    | cons e es =>
      cases ds with
      | nil => simp [Tg.asg] at r
      | cons d ds =>
        simp only [Tg.chks, Bool.and_eq_true] at h
        simp only [Tg.asg, Option.bind_eq_some_iff] at r
        obtain ⟨ρ1, r1, r2⟩ := r
        have h2 := ih2.2 h.2 r2
        refine ⟨asgs_cons (ih1.1 h.1 r1) h2.1 (fun env => ?_), by simp [h2.2]⟩
        cases e <;> first
          | rfl
          | (have := h.1; cases t <;> cases this)

/-! ### built-ins by their arguments -/
theorem reps1 {K : Frag} {F : Hp} {vs : List V} {d : D} (r : Reps K F vs [d]) : ∃ v, vs = [v] ∧ Rep K F v d := by
  cases r with
  | cons r1 r2 => cases r2; exact ⟨_, rfl, r1⟩
theorem reps2 {K : Frag} {F : Hp} {vs : List V} {d e : D} (r : Reps K F vs [d, e]) : ∃ v w, vs = [v, w] ∧ Rep K F v d ∧ Rep K F w e := by
  cases r with
  | cons r1 r2 =>
    cases r2 with
    | cons r2 r3 => cases r3; exact ⟨_, _, rfl, r1, r2⟩
theorem intsOf_eq : ∀ {ds : List D} {ns : List Int}, intsOf ds = some ns → ds = ns.map .int
  | [], _, h => by cases h; rfl
  | d :: ds, ns, h => by
    cases d <;> first | (simp [intsOf] at h; done) | skip
    simp only [intsOf, Option.map_eq_some_iff] at h
    obtain ⟨r, h1, rfl⟩ := h
    rw [intsOf_eq h1]
    rfl
theorem boolsOf_eq : ∀ {ds : List D} {ns : List Bool}, boolsOf ds = some ns → ds = ns.map .bool
  | [], _, h => by cases h; rfl
  | d :: ds, ns, h => by
    cases d <;> first | (simp [boolsOf] at h; done) | skip
    simp only [boolsOf, Option.map_eq_some_iff] at h
    obtain ⟨r, h1, rfl⟩ := h
    rw [boolsOf_eq h1]
    rfl
theorem maxI_mem : ∀ (r : List Int) (a : Int), (maxI a r ∈ a :: r) ∧ ∀ y ∈ a :: r, y ≤ maxI a r
  | [], a => ⟨by simp [maxI], by simp [maxI]⟩
  | b :: r, a => by
    have ih := maxI_mem r (if b > a then b else a)
    refine ⟨?_, fun y hy => ?_⟩
    · unfold maxI
      rcases List.mem_cons.mp ih.1 with h | h
      · rw [h]; split <;> simp
      · exact List.mem_cons_of_mem _ (List.mem_cons_of_mem _ h)
    · unfold maxI
      have h0 := ih.2 _ List.mem_cons_self
      rcases List.mem_cons.mp hy with rfl | hy
      · split at h0 <;> (simp only [*, if_true, if_false] at * ; try omega)
      · rcases List.mem_cons.mp hy with rfl | hy
        · split at h0 <;> (simp only [*, if_true, if_false] at * ; try omega)
        · exact ih.2 y (List.mem_cons_of_mem _ hy)
theorem minI_mem : ∀ (r : List Int) (a : Int), (minI a r ∈ a :: r) ∧ ∀ y ∈ a :: r, minI a r ≤ y
  | [], a => ⟨by simp [minI], by simp [minI]⟩
  | b :: r, a => by
    have ih := minI_mem r (if b < a then b else a)
    refine ⟨?_, fun y hy => ?_⟩
    · unfold minI
      rcases List.mem_cons.mp ih.1 with h | h
      · rw [h]; split <;> simp
      · exact List.mem_cons_of_mem _ (List.mem_cons_of_mem _ h)
    · unfold minI
      have h0 := ih.2 _ List.mem_cons_self
      rcases List.mem_cons.mp hy with rfl | hy
      · split at h0 <;> (simp only [*, if_true, if_false] at * ; try omega)
      · rcases List.mem_cons.mp hy with rfl | hy
        · split at h0 <;> (simp only [*, if_true, if_false] at * ; try omega)
        · exact ih.2 y (List.mem_cons_of_mem _ hy)
theorem if_some0 {α : Type} {c : Prop} [Decidable c] {x : Option α} {y : α} (h : (if c then x else none) = some y) : c ∧ x = some y := by
  by_cases hc : c
  · rw [if_pos hc] at h; exact ⟨hc, h⟩
  · rw [if_neg hc] at h; cases h
theorem evo_callB {id : String} {r : List V → Hp → VK → Prop} {es' : List D} (fr : Fr X sc N Vs L G k) (hc : CallR X (.builtin id) r) (hG : x ∈ G) (hm : X.mg x = none) (hv : bootBuiltins x = some (.builtin id)) (ha : EvA X B (e :: es) ρ pi ds pj) (hr : CallO X.K r ds es') :
    EvO X B (.Call (.Name x p1) (e :: es) [] pos) ρ pi es' pj :=
  .mk fun σ F H h Q q pins s I => (pe_callB hc (fr.glo x hG).1 hm hv pa_W (fr.glo x hG).2.2 (fr.glo x hG).2.1 ((ns_head ha.1).1 _) ((ns_head ha.1).2.any _)).run pins s σ H Q I (ha.run σ F H h _ fun vs F1 H1 s1 r1 =>
    hr F1 H1 pj vs s1.g1 r1 Q fun l xs F2 H2 s2 n f e r2 => q l xs F2 H2 (s1.trans s2) (fresh_of s1 n) f e r2)
theorem fn_snd (fr : Fr X sc N Vs L G k) (bl : Bl X.mg) {f : BF} (hG : fnN f ∈ G) (ha : EvA X B (e :: es) ρ pi ds pj) (h : fnD f ds = some s) : EvS X B (.Call (.Name (fnN f) p1) (e :: es) [] pos) ρ pi s pj := by
  unfold fnD at h
  split at h
  · cases h; exact (ev_callB fr call_len_seq hG bl.len PySem.boot_len ha cd_lenL).toS
  · cases h; exact (ev_callB fr call_len_seq hG bl.len PySem.boot_len ha cd_lenT).toS
  · cases h
    refine (ev_callT fr call_int1 hG bl.int boot_int' ha fun F H pi vs g r Q q => ?_).toS
    obtain ⟨v, rfl, r1⟩ := reps1 r
    cases r1
    exact .inl ⟨_, rfl, q _ F H (Step.refl g) (.int _)⟩
  · cases h
    refine (ev_callT fr call_tuple_of hG bl.tuple boot_tuple' ha fun F H pi vs g r Q q => ?_).toS
    obtain ⟨v, rfl, r1⟩ := reps1 r
    cases r1 with
    | lst h1 h2 => exact ⟨_, _, rfl, .inl ⟨SqL.of (g.sub _ _ h1), fun p hp => q _ _ _ (Step.alloc g hp) (.tup upd_same (h2.up (same_upd (g.fnone hp))))⟩⟩
  · cases h
    refine (evo_callT fr call_list_of hG bl.list boot_list' ha fun F H pi vs g r Q q => ?_).toS
    obtain ⟨v, rfl, r1⟩ := reps1 r
    cases r1 with
    | lst h1 h2 => exact ⟨_, _, rfl, .inl (SqL.of (g.sub _ _ h1)), fun p hp => q p _ F _ (Step.allocO g hp) hp (g.fnone hp) upd_same h2⟩
  · cases h
    refine (evo_callT fr call_list_of hG bl.list boot_list' ha fun F H pi vs g r Q q => ?_).toS
    obtain ⟨v, rfl, r1⟩ := reps1 r
    cases r1 with
    | tup h1 h2 => exact ⟨_, _, rfl, .inr (SqT.of (g.sub _ _ h1)), fun p hp => q p _ F _ (Step.allocO g hp) hp (g.fnone hp) upd_same h2⟩
  · cases h
    refine (ev_callB fr (call_max2 fr.calm) hG bl.max boot_max' ha fun F H pi vs g r Q q => ?_).toS
    obtain ⟨v, w, rfl, r1, r2⟩ := reps2 r
    cases r1
    cases r2
    exact ⟨_, _, rfl, q _ F H (Step.refl g) (.int _)⟩
  · cases h
    refine (ev_callB fr (call_min2 fr.calm) hG bl.min boot_min' ha fun F H pi vs g r Q q => ?_).toS
    obtain ⟨v, w, rfl, r1, r2⟩ := reps2 r
    cases r1
    cases r2
    exact ⟨_, _, rfl, q _ F H (Step.refl g) (.int _)⟩
  · split at h
    · rename_i a r he
      cases h
      refine (ev_callB fr (cr_max fr.calm) hG bl.max boot_max' ha fun F H pi vs g r' Q q => ?_).toS
      obtain ⟨v, rfl, r1⟩ := reps1 r'
      cases r1 with
      | lst h1 h2 =>
        have hx := intsOf_eq he
        subst hx
        have e := h2.ints
        subst e
        refine ⟨_, _, rfl, SqL.of (g.sub _ _ h1), by simp, fun z hz hz' => ?_⟩
        have : z = maxI a r := Int.le_antisymm ((maxI_mem r a).2 z hz) (hz' _ (maxI_mem r a).1)
        subst this
        exact q _ F H (Step.refl g) (.int _)
    · cases h
  · split at h
    · rename_i a r he
      cases h
      refine (ev_callB fr (cr_min fr.calm) hG bl.min boot_min' ha fun F H pi vs g r' Q q => ?_).toS
      obtain ⟨v, rfl, r1⟩ := reps1 r'
      cases r1 with
      | lst h1 h2 =>
        have hx := intsOf_eq he
        subst hx
        have e := h2.ints
        subst e
        refine ⟨_, _, rfl, SqL.of (g.sub _ _ h1), by simp, fun z hz hz' => ?_⟩
        have : z = minI a r := Int.le_antisymm (hz' _ (minI_mem r a).1) ((minI_mem r a).2 z hz)
        subst this
        exact q _ F H (Step.refl g) (.int _)
    · cases h
  · split at h
    · rename_i ts he
      obtain ⟨⟨h1, h2, h3⟩, h⟩ := if_some0 h
      cases h
      have e := tupsOf_eq he
      rw [e] at ha
      refine (evo_callB fr (cr_sortT (d := lenT ts) h2) hG bl.sorted boot_sorted' ha (co_sorted h1 fun t ht => ?_)).toS
      have := List.all_eq_true.mp h3 t ht
      rw [Bool.and_eq_true, decide_eq_true_eq] at this
      exact ⟨this.1, bdT_of this.2⟩
    · cases h
  · split at h
    · rename_i bs he
      cases h
      refine (ev_callB fr (cr_any fr.calm) hG bl.any boot_any' ha fun F H pi vs g r' Q q => ?_).toS
      obtain ⟨v, rfl, r1⟩ := reps1 r'
      cases r1 with
      | lst h1 h2 =>
        have hx := boolsOf_eq he
        subst hx
        have e := h2.bls
        subst e
        exact ⟨_, bs, rfl, SqL.of (g.sub _ _ h1), q _ F H (Step.refl g) (.bl _)⟩
    · cases h
  · cases h
end
end Fs
-- FsO
/-! Comprehensions over frames told by tests (from FsF, FsG, the frame changed). -/
namespace Fs
open PySem PySem.Spec PyProof.Rows L2
section
variable {X : Cx} {sc scope : Scope} {B : Base} {N : List Str} {sto : Str → Bool} {k i : Nat} {ρ ρ' ρ2 : List Slot} {pi pj pk : PSt} {pos pos' spos py : Pos} {e elt tg it c : Expr} {ds : List D} {own : List (Str × Nat)} {ifs : List Expr} {x : Str} {rest : List Stmt} {R : Rt} {is : List Nat}
/-- one turn of a comprehension: the state behind and what is added -/
def LcTurnA (X : Cx) (sc' : Scope) (sto' : Str → Bool) (N : List Str) (k : Nat) (B : Base) (elt tg : Expr) (ifs : List Expr) (ρw : List Slot) (own : List Nat) (d : D) (p : PSt) (more : List D) (p' : PSt) : Prop :=
  ∃ ρ2 is, (∀ j ∈ is, j ∈ own) ∧ (∀ X', Sub X X' → FrA X' sc' sto' N k → Asg X' B tg d ρw ρ2 is) ∧ match ifs with
    | [] => ∃ dy, more = [dy] ∧ ∀ X', Sub X X' → FrA X' sc' sto' N k → Ev X' B elt ρ2 p dy p'
    | [c] => ∃ b, (∀ X', Sub X X' → FrA X' sc' sto' N k → EvT X' B c ρ2 p b p) ∧ (b = true → ∃ dy, more = [dy] ∧ ∀ X', Sub X X' → FrA X' sc' sto' N k → Ev X' B elt ρ2 p dy p') ∧ (b = false → more = [] ∧ p' = p)
    | _ => False
/-- the list that is made, as a reading -/
theorem lc_runA (fr : FrA X sc sto N k) (hb : blkC N sc scope own = true) (hi : EvI X B tg it ρ pi ds pj) (hifs : ifs.length ≤ 1) (acc : Nat → List D) (stt : Nat → PSt) (ha0 : acc 0 = []) (hs0 : stt 0 = pj) (hsz : ∀ i, i < ds.length → (acc i).length < 100000)
    (turn : ∀ i d, ds[i]? = some d → ∃ more, LcTurnA X (relS scope sc) (stoB scope sc) N k B elt tg ifs (wipeS ρ (own.map (·.2))) (own.map (·.2)) d (stt i) more (stt (i + 1)) ∧ acc (i + 1) = acc i ++ more)
    (σ : L2.St) (F H : Hp) (hh : Holds X.K B F H σ ρ pi) (Q : VK) (q : ∀ l xs F' H', Step F H pi F' H' (stt ds.length) → H l = none → F' l = none → H' l = some (.lst xs) → Reps X.K F' xs (acc ds.length) → Q (.ref l) H') :
    tLc (WI X tg it) (gB X scope tg) (tB X scope ifs) (eB X scope elt) (own.map (·.2)) σ H Q :=
  hi.run σ F H hh _ fun J F1 H1 s1 w Dl hD => by
    have nD : NotP pj Dl := s1.g1.notP hD
    refine ⟨fun i m H' => m = ds.length - i ∧ i ≤ ds.length ∧ ∃ F' xs, Step F1 H1 pj F' H' (stt i) ∧ F' Dl = none ∧ H' Dl = some (.lst xs) ∧ Reps X.K F' xs (acc i),
      ⟨_, rfl, Nat.zero_le _, F1, [], by rw [hs0]; exact Step.allocO s1.g1 hD, s1.g1.fnone hD, upd_same, by rw [ha0]; exact .nil⟩, ?_⟩
    rintro i m H' ⟨rfl, hil, F', xs, st, fD, hDl, r⟩
    have sF : Same F1 F' := st.ext
    by_cases hlt : i < ds.length
    · refine .inr ⟨w.go i H' hlt (sF.trans st.g1.sub), fun H2 => ∃ F2 xs', Step F1 H1 pj F2 H2 (stt (i + 1)) ∧ F2 Dl = none ∧ H2 Dl = some (.lst xs') ∧ Reps X.K F2 xs' (acc (i + 1)), fun H2 z => ⟨ds.length - (i + 1), by omega, rfl, hlt, z⟩, fun v H2 y => ?_⟩
      obtain ⟨d, F2, ed, s2, rv⟩ := walks_turn w st.g1 sF hlt y
      have n2 : NotP (stt i) Dl := nD.adr st.adr
      have hD2 : H2 Dl = some (.lst xs) := s2.fr _ _ hDl n2
      have fD2 : F2 Dl = none := by
        rw [s2.new Dl (by rw [hDl]; exact fun z => nomatch z)]
        exact fD
      have hw : Holds X.K B F2 H2 (L2.wipe σ (own.map (·.2))) (wipeS ρ (own.map (·.2))) (stt i) := (((hh.step s1).step st).step s2).wipe _
      have st2 : Step F1 H1 pj F2 H2 (stt i) := st.trans s2
      obtain ⟨more, ⟨ρ2, is, hown, hasg, ht⟩, hacc⟩ := turn i d ed
      have sub : ∀ (s : Shared) (H0 : Hp) (C : Addr) (cl : List (Str × Addr)) (fp : List Addr), Sub X (X.blk s H0 scope (compEnvC scope cl C X.env) fp) := fun s H0 C cl fp => ⟨fun _ z => z⟩
      have frb : ∀ (s : Shared) (H0 : Hp) (C : Addr) (cl : List (Str × Addr)) (fp : List Addr), FrA (X.blk s H0 scope (compEnvC scope cl C X.env) fp) (relS scope sc) (stoB scope sc) N k := fun s H0 C cl fp => fr.blk s H0 C cl fp
      intro s H0 C cl fp
      refine (hasg _ (sub s H0 C cl fp) (frb s H0 C cl fp)).run _ F2 H2 (stt i) v hw rv _ fun σ2 hl2 hk2 h2 => ⟨wipe_same hl2 hk2 hown, ?_⟩
      -- the element and its place
      have put : ∀ (F3 H3 : Hp) (dy : D), Step F1 H1 pj F3 H3 (stt i) → F3 Dl = none → H3 Dl = some (.lst xs) → Reps X.K F3 xs (acc i) → Holds X.K B F3 H3 σ2 ρ2 (stt i) → more = [dy] → (∀ X', Sub X X' → FrA X' (relS scope sc) (stoB scope sc) N k → Ev X' B elt ρ2 (stt i) dy (stt (i + 1))) →
          eB X scope elt σ2 H3 fun y H4 => ∃ acc', H4 Dl = some (.lst acc') ∧ acc'.length < sizeLine ∧ ∃ F2 xs', Step F1 H1 pj F2 (upd H4 Dl (.lst (acc' ++ [y]))) (stt (i + 1)) ∧ F2 Dl = none ∧ upd H4 Dl (.lst (acc' ++ [y])) Dl = some (.lst xs') ∧ Reps X.K F2 xs' (acc (i + 1)) := by
        intro F3 H3 dy st3 fD3 hD3 r3 h3 hm he s H0 C cl fp
        refine (he _ (sub s H0 C cl fp) (frb s H0 C cl fp)).run σ2 F3 H3 h3 _ fun y F4 H4 s4 ry => ?_
        have n3 : NotP (stt i) Dl := nD.adr st3.adr
        have hD4 : H4 Dl = some (.lst xs) := s4.fr _ _ hD3 n3
        have fD4 : F4 Dl = none := by
          rw [s4.new Dl (by rw [hD3]; exact fun z => nomatch z)]
          exact fD3
        refine ⟨xs, hD4, Nat.lt_of_lt_of_le (by rw [r.len]; exact hsz i hlt) (by decide), F4, xs ++ [y], (st3.trans s4).mut hD fD4, fD4, upd_same, ?_⟩
        rw [hacc, hm]
        exact (r3.up s4.ext).append (.cons ry .nil)
      cases ifs with
      | nil =>
        obtain ⟨dy, hm, he⟩ := ht
        exact put F2 H2 dy st2 fD2 hD2 (r.up s2.ext) h2 hm he
      | cons c r0 =>
        cases r0 with
        | cons c2 r1 => exact absurd hifs (by simp)
        | nil =>
          obtain ⟨b, hc, ht1, ht2⟩ := ht
          intro s H0 C cl fp
          refine (hc _ (sub s H0 C cl fp) (frb s H0 C cl fp)).run σ2 F2 H2 h2 _ fun F3 H3 s3 => ?_
          have st3 : Step F1 H1 pj F3 H3 (stt i) := st2.trans s3
          have hD3 : H3 Dl = some (.lst xs) := s3.fr _ _ hD2 (nD.adr st2.adr)
          have fD3 : F3 Dl = none := by
            rw [s3.new Dl (by rw [hD2]; exact fun z => nomatch z)]
            exact fD2
          cases b with
          | true =>
            obtain ⟨dy, hm, he⟩ := ht1 rfl
            rw [if_pos rfl]
            exact put F3 H3 dy st3 fD3 hD3 ((r.up s2.ext).up s3.ext) (h2.step s3) hm he
          | false =>
            obtain ⟨hm, hp⟩ := ht2 rfl
            rw [if_neg Bool.false_ne_true]
            refine ⟨F3, xs, by rw [hp]; exact st3, fD3, hD3, ?_⟩
            rw [hacc, hm, List.append_nil]
            exact (r.up s2.ext).up s3.ext
    · have e : i = ds.length := by omega
      subst e
      exact .inl ⟨w.stop H' (sF.trans st.g1.sub), q Dl xs F' H' (s1.trans st) (fresh_of s1 hD) fD hDl r⟩
theorem blk_okA (fr : FrA X sc sto N k) (hb : blkC N sc scope own = true) : BlkOk X.N X.env.scope scope own := by
  rw [fr.hN, fr.hsc]
  exact blkOk_by hb
theorem lcvA (fr : FrA X sc sto N k) (hb : blkC N sc scope own = true) (hi : EvI X B tg it ρ pi ds pj) (hifs : ifs.length ≤ 1) (acc : Nat → List D) (stt : Nat → PSt) (ha0 : acc 0 = []) (hs0 : stt 0 = pj) (hsz : ∀ i, i < ds.length → (acc i).length < 100000)
    (turn : ∀ i d, ds[i]? = some d → ∃ more, LcTurnA X (relS scope sc) (stoB scope sc) N k B elt tg ifs (wipeS ρ (own.map (·.2))) (own.map (·.2)) d (stt i) more (stt (i + 1)) ∧ acc (i + 1) = acc i ++ more)
    (hs : ∀ env x, foldedSetIterable it env x = pure x) : LcV X B (.ListComp elt [⟨tg, it, ifs, 0⟩] scope pos) ρ pi (acc ds.length) (stt ds.length) := by
  refine ⟨elt, tg, it, ifs, scope, pos, own, WI X tg it, gB X scope tg, tB X scope ifs, eB X scope elt, rfl, pi_W, blk_okA fr hb, fun s H C cl fp => ⟨fun pins s' σ H' v u Q I r h => h s H C cl fp pins s' u I r⟩, fun s H C cl fp => ?_, fun s H C cl fp => ⟨fun pins s' σ H' Q I h => h s H C cl fp pins s' I⟩, hs _, fun σ F H hh Q q => lc_runA fr hb hi hifs acc stt ha0 hs0 hsz turn σ F H hh Q q⟩
  cases ifs with
  | nil => exact pts_nil
  | cons c r =>
    cases r with
    | nil => exact pts_one ⟨fun pins s' σ H' Q I h => h s H C cl fp pins s' I⟩
    | cons c2 r2 => exact absurd hifs (by simp)
end
end Fs
-- FsP
/-! Soundness of the expression codes, one by one. -/
namespace Fs
open PySem PySem.Spec PyProof.Rows L2

structure Snd (T : Tab) (c : C) : Prop where
  ev : ∀ {X : Cx} {sc : Scope} {sto : Str → Bool} {N : List Str} {k : Nat} {B : Base} {e : Expr} {ρ : List Slot} {pi pj : PSt} {s : Slot}, FrA X sc sto N k → En T X k → chk T N c sc sto e = true → run T c ρ pi = some (s, pj) → EvS X B e ρ pi s pj
  lc : ∀ {X : Cx} {sc : Scope} {sto : Str → Bool} {N : List Str} {k : Nat} {B : Base} {el : Expr} {gs : List Comprehension} {scope : Scope} {pos : Pos} {ρ : List Slot} {pi pj : PSt} {s : Slot}, FrA X sc sto N k → En T X k → chk T N c sc sto (.ListComp el gs scope pos) = true → run T c ρ pi = some (s, pj) → ∃ ds, s = .own ds ∧ LcV X B (.ListComp el gs scope pos) ρ pi ds pj
  te : ∀ {X : Cx} {sc : Scope} {sto : Str → Bool} {N : List Str} {k : Nat} {B : Base} {e : Expr} {ρ : List Slot} {pi pj : PSt} {b : Bool}, FrA X sc sto N k → En T X k → chkT T N c sc sto e = true → bOf (run T c ρ pi) = some (b, pj) → EvT X B e ρ pi b pj
  tw : ∀ {X : Cx} {sc : Scope} {sto : Str → Bool} {N : List Str} {k : Nat} {B : Base} {e : Expr} {ρ : List Slot} {pi pj : PSt} {b : Bool}, FrA X sc sto N k → En T X k → chkW T N c sc sto e = true → bOf (run T c ρ pi) = some (b, pj) → EvW X B e ρ pi b pj
  ar : ∀ {X : Cx} {sc : Scope} {sto : Str → Bool} {N : List Str} {k : Nat} {B : Base} {es : List Expr} {ρ : List Slot} {pi pj : PSt} {ds : List D}, FrA X sc sto N k → En T X k → chkA T N c sc sto es = true → lOf (run T c ρ pi) = some (ds, pj) → EvA X B es ρ pi ds pj
  it : ∀ {X : Cx} {sc : Scope} {sto : Str → Bool} {N : List Str} {k : Nat} {B : Base} {tg e : Expr} {ρ : List Slot} {pi pj : PSt} {ds : List D}, FrA X sc sto N k → En T X k → chkI T N c sc sto tg e = true → lOf (run T c ρ pi) = some (ds, pj) → EvI X B tg e ρ pi ds pj

section
variable {r : Rs} {p : PSt} {d : D} {b : Bool} {n : Int} {ds : List D}
theorem dOf_some (h : dOf r = some (d, p)) : ∃ s, r = some (s, p) ∧ toD s = some d := by
  unfold dOf at h
  simp only [Option.bind_eq_some_iff, Option.map_eq_some_iff, Prod.mk.injEq] at h
  obtain ⟨⟨s, p'⟩, h1, d', h2, rfl, rfl⟩ := h
  exact ⟨s, h1, h2⟩
theorem bOf_some (h : bOf r = some (b, p)) : r = some (.val (.bool b), p) := by
  unfold bOf at h
  simp only [Option.bind_eq_some_iff] at h
  obtain ⟨⟨s, p'⟩, h1, h2⟩ := h
  split at h2 <;> cases h2
  rename_i hs
  simp only at hs
  rw [h1, hs]
theorem iOf_some (h : iOf r = some (n, p)) : r = some (.val (.int n), p) := by
  unfold iOf at h
  simp only [Option.bind_eq_some_iff] at h
  obtain ⟨⟨s, p'⟩, h1, h2⟩ := h
  split at h2 <;> cases h2
  rename_i hs
  simp only at hs
  rw [h1, hs]
theorem tOf_some (h : tOf r = some (ds, p)) : r = some (.val (.tuple ds), p) := by
  unfold tOf at h
  simp only [Option.bind_eq_some_iff] at h
  obtain ⟨⟨s, p'⟩, h1, h2⟩ := h
  split at h2 <;> cases h2
  rename_i hs
  simp only at hs
  rw [h1, hs]
theorem lOf_some (h : lOf r = some (ds, p)) : ∃ s, r = some (s, p) ∧ toD s = some (.list ds) := by
  unfold lOf at h
  simp only [Option.bind_eq_some_iff] at h
  obtain ⟨⟨s, p'⟩, h1, h2⟩ := h
  split at h2 <;> cases h2 <;> (rename_i hs; simp only at hs; subst hs; exact ⟨_, h1, rfl⟩)
theorem sOf_some (h : sOf r = some (ds, p)) : ∃ s, r = some (s, p) ∧ (toD s = some (.list ds) ∨ toD s = some (.tuple ds)) := by
  unfold sOf at h
  simp only [Option.bind_eq_some_iff] at h
  obtain ⟨⟨s, p'⟩, h1, h2⟩ := h
  split at h2 <;> cases h2 <;> (rename_i hs; simp only at hs; subst hs; first | exact ⟨_, h1, .inl rfl⟩ | exact ⟨_, h1, .inr rfl⟩)
end
section
variable {T : Tab} {c : C} {X : Cx} {sc : Scope} {sto : Str → Bool} {N : List Str} {k : Nat} {B : Base} {e : Expr} {ρ : List Slot} {pi pj : PSt} {b : Bool} {n : Int} {d : D} {ds : List D}
theorem Snd.dd (h : Snd T c) (fr : FrA X sc sto N k) (en : En T X k) (hc : chk T N c sc sto e = true) (hr : dOf (run T c ρ pi) = some (d, pj)) : Ev X B e ρ pi d pj :=
  let ⟨_, h1, h2⟩ := dOf_some hr; (h.ev fr en hc h1).ev h2
theorem Snd.bb (h : Snd T c) (fr : FrA X sc sto N k) (en : En T X k) (hc : chk T N c sc sto e = true) (hr : bOf (run T c ρ pi) = some (b, pj)) : Ev X B e ρ pi (.bool b) pj := (h.ev fr en hc (bOf_some hr)).ev rfl
theorem Snd.ii (h : Snd T c) (fr : FrA X sc sto N k) (en : En T X k) (hc : chk T N c sc sto e = true) (hr : iOf (run T c ρ pi) = some (n, pj)) : Ev X B e ρ pi (.int n) pj := (h.ev fr en hc (iOf_some hr)).ev rfl
theorem Snd.tt (h : Snd T c) (fr : FrA X sc sto N k) (en : En T X k) (hc : chk T N c sc sto e = true) (hr : tOf (run T c ρ pi) = some (ds, pj)) : Ev X B e ρ pi (.tuple ds) pj := (h.ev fr en hc (tOf_some hr)).ev rfl
theorem Snd.ll (h : Snd T c) (fr : FrA X sc sto N k) (en : En T X k) (hc : chk T N c sc sto e = true) (hr : lOf (run T c ρ pi) = some (ds, pj)) : Ev X B e ρ pi (.list ds) pj :=
  let ⟨_, h1, h2⟩ := lOf_some hr; (h.ev fr en hc h1).ev h2
/-- a code with a value alone -/
theorem Snd.of (ev : ∀ {X : Cx} {sc : Scope} {sto : Str → Bool} {N : List Str} {k : Nat} {B : Base} {e : Expr} {ρ : List Slot} {pi pj : PSt} {s : Slot}, FrA X sc sto N k → En T X k → chk T N c sc sto e = true → run T c ρ pi = some (s, pj) → EvS X B e ρ pi s pj)
    (hl : ∀ N sc sto el gs scope pos, chk T N c sc sto (.ListComp el gs scope pos) = false) (hT : ∀ N sc sto e, chkT T N c sc sto e = false) (hW : ∀ N sc sto e, chkW T N c sc sto e = false) (hA : ∀ N sc sto es, chkA T N c sc sto es = false) (hI : ∀ N sc sto t e, chkI T N c sc sto t e = false) : Snd T c where
  ev := ev
  lc := fun _ _ h _ => by rw [hl] at h; cases h
  te := fun _ _ h _ => by rw [hT] at h; cases h
  tw := fun _ _ h _ => by rw [hW] at h; cases h
  ar := fun _ _ h _ => by rw [hA] at h; cases h
  it := fun _ _ h _ => by rw [hI] at h; cases h
/-- a code that is no more than False -/
theorem evs_no (h : chk T N c sc sto e = true) (h0 : chk T N c sc sto e = false) {P : Prop} : P := by rw [h0] at h; cases h
end
section
variable {T : Tab} {a b c : C}
theorem snd_k {d : D} : Snd T (.k d) where
  ev := fun {X sc sto N k B e ρ pi pj s} fr en h r => by
    cases e <;> first | (exact absurd h Bool.false_ne_true) | skip
    rename_i cst kk pos
    simp only [run, Option.some.injEq, Prod.mk.injEq] at r
    obtain ⟨rfl, rfl⟩ := r
    simp only [chk] at h
    split at h <;> first | (exact absurd h Bool.false_ne_true) | skip
    · exact ev_non.toS
    · rw [of_decide_eq_true h]; exact ev_bl.toS
    · rw [of_decide_eq_true h]; exact ev_int.toS
    · rw [of_decide_eq_true h]; exact ev_str.toS
  lc := fun _ _ h _ => by first | (exact absurd h Bool.false_ne_true)
  te := fun {X sc sto N k B e ρ pi pj b} fr en h r => by
    cases e <;> first | (exact absurd h Bool.false_ne_true) | skip
    rename_i cst kk pos
    simp only [chkT] at h
    split at h <;> first | (exact absurd h Bool.false_ne_true) | skip
    have := bOf_some r
    simp only [run, Option.some.injEq, Prod.mk.injEq, Slot.val.injEq, PyData.bool.injEq] at this
    obtain ⟨rfl, rfl⟩ := this
    rw [of_decide_eq_true h]
    exact et_val ev_bl
  tw := fun _ _ h _ => absurd h Bool.false_ne_true
  ar := fun {X sc sto N k B es ρ pi pj b} _ _ h _ => by cases es <;> exact absurd h Bool.false_ne_true
  it := fun {X sc sto N k B tg e ρ pi pj b} _ _ h _ => by cases e <;> exact absurd h Bool.false_ne_true

theorem snd_v {i : Nat} : Snd T (.v i) where
  ev := fun {X sc sto N k B e ρ pi pj s} fr en h r => by
    cases e <;> first | (exact absurd h Bool.false_ne_true) | skip
    rename_i x pos
    simp only [chk, nmC, Bool.and_eq_true, decide_eq_true_eq] at h
    simp only [run] at r
    split at r
    · rename_i hs
      cases r
      exact (ev_name (fr.fr [x] [] [] (by simp [h.2]) rfl rfl) (look_of h.1 hs) (by simp)).toS
    · cases r
  lc := fun _ _ h _ => absurd h Bool.false_ne_true
  te := fun {X sc sto N k B e ρ pi pj b} fr en h r => by
    cases e <;> first | (exact absurd h Bool.false_ne_true) | skip
    rename_i x pos
    simp only [chkT, nmC, Bool.and_eq_true, decide_eq_true_eq] at h
    have r := bOf_some r
    simp only [run] at r
    split at r
    · rename_i hs
      cases r
      exact et_val (ev_name (fr.fr [x] [] [] (by simp [h.2]) rfl rfl) (look_of h.1 hs) (by simp))
    · cases r
  tw := fun _ _ h _ => absurd h Bool.false_ne_true
  ar := fun {X sc sto N k B es ρ pi pj b} _ _ h _ => by cases es <;> exact absurd h Bool.false_ne_true
  it := fun {X sc sto N k B tg e ρ pi pj b} _ _ h _ => by cases e <;> exact absurd h Bool.false_ne_true
theorem snd_g {j : Nat} : Snd T (.g j) := .of (fun {X sc sto N k B e ρ pi pj s} fr en h r => by
    cases e <;> first | (exact absurd h Bool.false_ne_true) | skip
    rename_i x pos
    simp only [chk, Bool.and_eq_true] at h
    simp only [run, Option.map_eq_some_iff, Prod.mk.injEq] at r
    obtain ⟨z, hz, rfl, rfl⟩ := r
    rw [hz] at h
    simp only [decide_eq_true_eq] at h
    obtain ⟨h1, h2⟩ := h
    obtain ⟨t, ht⟩ := en.gl j z hz
    rw [h1] at ht
    exact (ev_glob (fr.fr [] [] [x] rfl rfl (by simp [h2])) ht (by simp)).toS) (fun _ _ _ _ _ _ _ => rfl) (fun _ _ _ e => by cases e <;> rfl) (fun _ _ _ e => by cases e <;> rfl) (fun _ _ _ es => by cases es <;> rfl) (fun _ _ _ _ e => by cases e <;> rfl)
theorem snd_bin {o : BO} (ha : Snd T a) (hb : Snd T b) : Snd T (.bin o a b) := .of (fun {X sc sto N k B e ρ pi pj s} fr en h r => by
    cases e <;> first | (exact absurd h Bool.false_ne_true) | skip
    simp only [chk, Bool.and_eq_true] at h
    simp only [run, Option.bind_eq_some_iff, Option.map_eq_some_iff, Prod.mk.injEq] at r
    obtain ⟨x, hx, y, hy, z, hz, rfl, rfl⟩ := r
    exact evs_bin (ha.dd fr en h.1.2 hx) (hb.dd fr en h.2 hy) (bin_snd h.1.1 hz)) (fun _ _ _ _ _ _ _ => rfl) (fun _ _ _ e => by cases e <;> rfl) (fun _ _ _ e => by cases e <;> rfl) (fun _ _ _ es => by cases es <;> rfl) (fun _ _ _ _ e => by cases e <;> rfl)
theorem cmp_ok {o : CO} {op : CmpOp} {X : Cx} {sc : Scope} {sto : Str → Bool} {N : List Str} {k : Nat} {B : Base} {x y : Expr} {pos : Pos} {ρ : List Slot} {pi pj : PSt} {q : Bool} (ha : Snd T a) (hb : Snd T b) (fr : FrA X sc sto N k) (en : En T X k)
    (h : (cmC o op && notSet y && chk T N a sc sto x && chk T N b sc sto y) = true) (r : run T (.cmp o a b) ρ pi = some (.val (.bool q), pj)) : Ev X B (.Compare x [op] [y] pos) ρ pi (.bool q) pj ∧ EvT X B (.Compare x [op] [y] pos) ρ pi q pj := by
  simp only [Bool.and_eq_true] at h
  simp only [run, Option.bind_eq_some_iff, Option.map_eq_some_iff, Prod.mk.injEq, Slot.val.injEq, PyData.bool.injEq] at r
  obtain ⟨u, hu, v, hv, z, hz, rfl, rfl⟩ := r
  have c := cmp_snd (X := X) (fr.fr [] [] [] rfl rfl rfl) h.1.1.1 hz
  exact ⟨ev_cmp1 (ha.dd fr en h.1.2 hu) (hb.dd fr en h.2 hv) c (mark_of h.1.1.2 _), et_cmp1 (ha.dd fr en h.1.2 hu) (hb.dd fr en h.2 hv) c (mark_of h.1.1.2 _)⟩
theorem cmp_bool {o : CO} {ρ : List Slot} {pi pj : PSt} {s : Slot} (r : run T (.cmp o a b) ρ pi = some (s, pj)) : ∃ q, s = .val (.bool q) := by
  simp only [run, Option.bind_eq_some_iff, Option.map_eq_some_iff, Prod.mk.injEq] at r
  obtain ⟨u, hu, v, hv, z, hz, rfl, rfl⟩ := r
  exact ⟨_, rfl⟩
theorem snd_cmp {o : CO} (ha : Snd T a) (hb : Snd T b) : Snd T (.cmp o a b) where
  ev := fun {X sc sto N k B e ρ pi pj s} fr en h r => by
    cases e <;> first | (exact absurd h Bool.false_ne_true) | skip
    rename_i x ops cs pos
    rcases ops with _ | ⟨op, _ | ⟨o2, ops⟩⟩ <;> first | (exact absurd h Bool.false_ne_true) | skip
    rcases cs with _ | ⟨y, _ | ⟨y2, cs⟩⟩ <;> first | (exact absurd h Bool.false_ne_true) | skip
    simp only [chk] at h
    obtain ⟨q, rfl⟩ := cmp_bool r
    exact (cmp_ok ha hb fr en h r).1.toS
  lc := fun _ _ h _ => absurd h Bool.false_ne_true
  te := fun {X sc sto N k B e ρ pi pj b} fr en h r => by
    cases e <;> first | (exact absurd h Bool.false_ne_true) | skip
    rename_i x ops cs pos
    rcases ops with _ | ⟨op, _ | ⟨o2, ops⟩⟩ <;> first | (exact absurd h Bool.false_ne_true) | skip
    rcases cs with _ | ⟨y, _ | ⟨y2, cs⟩⟩ <;> first | (exact absurd h Bool.false_ne_true) | skip
    simp only [chkT] at h
    exact (cmp_ok ha hb fr en h (bOf_some r)).2
  tw := fun _ _ h _ => absurd h Bool.false_ne_true
  ar := fun {X sc sto N k B es ρ pi pj b} _ _ h _ => by cases es <;> exact absurd h Bool.false_ne_true
  it := fun {X sc sto N k B tg e ρ pi pj b} _ _ h _ => by cases e <;> exact absurd h Bool.false_ne_true
theorem et_lelt {X : Cx} {B : Base} {x y z : Expr} {ρ : List Slot} {pi : PSt} {pos : Pos} {l m n : Int} (ha : Ev X B x ρ pi (.int l) pi) (hb : Ev X B y ρ pi (.int m) pi) (hc : Ev X B z ρ pi (.int n) pi) (hm : lastMarks [.LtE, .Lt] [y, z] = false) : EvT X B (.Compare x [.LtE, .Lt] [y, z] pos) ρ pi (decide (l ≤ m) && decide (m < n)) pi :=
  .of (pt_chain op_le op_lt pe_W pe_W pe_W hm) fun σ F H h Q z => three h ha hb hc (opd_I0 fun _ => .bl _) (opd_I0 fun _ => .bl _) fun v F' H' st r => ⟨_, r.isB, z F' H' st⟩
theorem ch_ok {le : Bool} {o1 o2 : CmpOp} {X : Cx} {sc : Scope} {sto : Str → Bool} {N : List Str} {k : Nat} {B : Base} {x y z : Expr} {pos : Pos} {ρ : List Slot} {pi pj : PSt} {s : Slot} (ha : Snd T a) (hb : Snd T b) (hc : Snd T c) (fr : FrA X sc sto N k) (en : En T X k)
    (h : (decide (o1 = .LtE) && decide (o2 = match le with | true => .LtE | false => .Lt) && notSet z && chk T N a sc sto x && chk T N b sc sto y && chk T N c sc sto z) = true) (r : run T (.ch le a b c) ρ pi = some (s, pj)) : ∃ q, s = .val (.bool q) ∧ Ev X B (.Compare x [o1, o2] [y, z] pos) ρ pi (.bool q) pj ∧ EvT X B (.Compare x [o1, o2] [y, z] pos) ρ pi q pj := by
  simp only [Bool.and_eq_true, decide_eq_true_eq] at h
  obtain ⟨⟨⟨⟨⟨h1, h2⟩, h3⟩, h4⟩, h5⟩, h6⟩ := h
  subst h1 h2
  cases pi with
  | some p => cases r
  | none =>
    simp only [run, Option.bind_eq_some_iff] at r
    obtain ⟨⟨u, up⟩, hu, ⟨v, vp⟩, hv, ⟨w, wp⟩, hw, r⟩ := r
    cases up <;> cases vp <;> cases wp <;> first | (cases r; done) | skip
    simp only [Option.some.injEq, Prod.mk.injEq] at r
    obtain ⟨rfl, rfl⟩ := r
    refine ⟨_, rfl, ?_⟩
    cases le with
    | true => exact ⟨ev_lele (ha.ii fr en h4 hu) (hb.ii fr en h5 hv) (hc.ii fr en h6 hw) (last_of h3 _ _), et_lele (ha.ii fr en h4 hu) (hb.ii fr en h5 hv) (hc.ii fr en h6 hw) (last_of h3 _ _)⟩
    | false => exact ⟨ev_lelt (ha.ii fr en h4 hu) (hb.ii fr en h5 hv) (hc.ii fr en h6 hw) (last_of h3 _ _), et_lelt (ha.ii fr en h4 hu) (hb.ii fr en h5 hv) (hc.ii fr en h6 hw) (last_of h3 _ _)⟩
theorem snd_ch {le : Bool} (ha : Snd T a) (hb : Snd T b) (hc : Snd T c) : Snd T (.ch le a b c) where
  ev := fun {X sc sto N k B e ρ pi pj s} fr en h r => by
    cases e <;> first | (exact absurd h Bool.false_ne_true) | skip
    rename_i x ops cs pos
    rcases ops with _ | ⟨o1, _ | ⟨o2, _ | ⟨o3, ops⟩⟩⟩ <;> first | (exact absurd h Bool.false_ne_true) | skip
    rcases cs with _ | ⟨y, _ | ⟨z, _ | ⟨z2, cs⟩⟩⟩ <;> first | (exact absurd h Bool.false_ne_true) | skip
    simp only [chk] at h
    obtain ⟨q, rfl, h1, _⟩ := ch_ok (B := B) (pos := pos) ha hb hc fr en h r
    exact h1.toS
  lc := fun _ _ h _ => absurd h Bool.false_ne_true
  te := fun {X sc sto N k B e ρ pi pj b} fr en h r => by
    cases e <;> first | (exact absurd h Bool.false_ne_true) | skip
    rename_i x ops cs pos
    rcases ops with _ | ⟨o1, _ | ⟨o2, _ | ⟨o3, ops⟩⟩⟩ <;> first | (exact absurd h Bool.false_ne_true) | skip
    rcases cs with _ | ⟨y, _ | ⟨z, _ | ⟨z2, cs⟩⟩⟩ <;> first | (exact absurd h Bool.false_ne_true) | skip
    simp only [chkT] at h
    obtain ⟨q, hq, _, h1⟩ := ch_ok (B := B) (pos := pos) ha hb hc fr en h (bOf_some r)
    cases hq
    exact h1
  tw := fun _ _ h _ => absurd h Bool.false_ne_true
  ar := fun {X sc sto N k B es ρ pi pj b} _ _ h _ => by cases es <;> exact absurd h Bool.false_ne_true
  it := fun {X sc sto N k B tg e ρ pi pj b} _ _ h _ => by cases e <;> exact absurd h Bool.false_ne_true
theorem ev_notN {X : Cx} {B : Base} {x : Expr} {ρ : List Slot} {pi pj : PSt} {d : D} {pos pos' : Pos} (ha : Ev X B x ρ pi d pj) {j : Nat} : Ev X B (.Compare x [.IsNot] [.Constant .none j pos'] pos) ρ pi (.bool (!isNone d)) pj :=
  .of (pe_cmpR op_notN pe_W pe_non (nomark _)) fun σ F H h Q z => ha.run σ F H h _ fun v F1 H1 s1 r => ⟨rfl, by
    rw [isNone_rep r]
    exact z _ F1 H1 s1 (.bl _)⟩
theorem snd_isN {neg : Bool} (ha : Snd T a) : Snd T (.isN neg a) where
  ev := fun {X sc sto N k B e ρ pi pj s} fr en h r => by
    cases e <;> first | (exact absurd h Bool.false_ne_true) | skip
    rename_i x ops cs pos
    rcases ops with _ | ⟨op, _ | ⟨o2, ops⟩⟩ <;> first | (exact absurd h Bool.false_ne_true) | skip
    rcases cs with _ | ⟨y, _ | ⟨y2, cs⟩⟩ <;> first | (exact absurd h Bool.false_ne_true) | skip
    · cases y <;> first | (exact absurd h Bool.false_ne_true) | skip
      rename_i cst kk p
      cases cst <;> first | (exact absurd h Bool.false_ne_true) | skip
      simp only [chk, Bool.and_eq_true, decide_eq_true_eq] at h
      simp only [run, Option.map_eq_some_iff, Prod.mk.injEq] at r
      obtain ⟨u, hu, rfl, rfl⟩ := r
      obtain ⟨rfl, h2⟩ := h
      cases neg with
      | true => exact (ev_notN (ha.dd fr en h2 hu)).toS
      | false => exact (ev_isN (ha.dd fr en h2 hu)).toS
    · cases y <;> first | (exact absurd h Bool.false_ne_true) | skip
      rename_i cst kk p
      cases cst <;> first | (exact absurd h Bool.false_ne_true) | skip
  lc := fun _ _ h _ => absurd h Bool.false_ne_true
  te := fun {X sc sto N k B e ρ pi pj b} fr en h r => by
    cases e <;> first | (exact absurd h Bool.false_ne_true) | skip
    rename_i x ops cs pos
    rcases ops with _ | ⟨op, _ | ⟨o2, ops⟩⟩ <;> first | (exact absurd h Bool.false_ne_true) | skip
    rcases cs with _ | ⟨y, _ | ⟨y2, cs⟩⟩ <;> first | (exact absurd h Bool.false_ne_true) | skip
    · cases y <;> first | (exact absurd h Bool.false_ne_true) | skip
      rename_i cst kk p
      cases cst <;> first | (exact absurd h Bool.false_ne_true) | skip
      simp only [chkT, Bool.and_eq_true, decide_eq_true_eq] at h
      have r := bOf_some r
      simp only [run, Option.map_eq_some_iff, Prod.mk.injEq, Slot.val.injEq, PyData.bool.injEq] at r
      obtain ⟨u, hu, rfl, rfl⟩ := r
      obtain ⟨rfl, h2⟩ := h
      cases neg with
      | true => exact et_notN (ha.dd fr en h2 hu)
      | false => exact et_isN (ha.dd fr en h2 hu)
    · cases y <;> first | (exact absurd h Bool.false_ne_true) | skip
      rename_i cst kk p
      cases cst <;> first | (exact absurd h Bool.false_ne_true) | skip
  tw := fun _ _ h _ => absurd h Bool.false_ne_true
  ar := fun {X sc sto N k B es ρ pi pj b} _ _ h _ => by cases es <;> exact absurd h Bool.false_ne_true
  it := fun {X sc sto N k B tg e ρ pi pj b} _ _ h _ => by cases e <;> exact absurd h Bool.false_ne_true

theorem andM_some {fa fb fw : Expr → Bool} {op : BoolOp} {e : Expr} (h : andM fa fb fw op e = true) : ∃ x y r pos, e = .BoolOp op (x :: y :: r) pos ∧ fa x = true ∧ ((r = [] ∧ fb y = true) ∨ fw (.BoolOp op (y :: r) pos) = true) := by
  unfold andM at h
  split at h
  · simp only [Bool.and_eq_true, decide_eq_true_eq] at h
    obtain ⟨⟨rfl, h1⟩, h2⟩ := h
    exact ⟨_, _, _, _, rfl, h1, .inl ⟨rfl, h2⟩⟩
  · simp only [Bool.and_eq_true, decide_eq_true_eq] at h
    obtain ⟨⟨rfl, h1⟩, h2⟩ := h
    exact ⟨_, _, _, _, rfl, h1, .inr h2⟩
  · cases h
theorem and_run {ρ : List Slot} {pi pj : PSt} {s : Slot} (r : run T (.and a b) ρ pi = some (s, pj)) : ∃ q p p1, s = .val (.bool q) ∧ bOf (run T a ρ pi) = some (p, p1) ∧ (p = true → bOf (run T b ρ p1) = some (q, pj)) ∧ (p = false → q = false ∧ pj = p1) := by
  simp only [run, Option.bind_eq_some_iff] at r
  obtain ⟨⟨p, p1⟩, hp, r⟩ := r
  cases p with
  | true =>
    simp only [Option.map_eq_some_iff, Prod.mk.injEq] at r
    obtain ⟨⟨q, p2⟩, hq, rfl, rfl⟩ := r
    exact ⟨q, true, p1, rfl, hp, fun _ => hq, fun z => nomatch z⟩
  | false =>
    simp only [Option.some.injEq, Prod.mk.injEq] at r
    obtain ⟨rfl, rfl⟩ := r
    exact ⟨false, false, p1, rfl, hp, (fun z => nomatch z), fun _ => ⟨rfl, rfl⟩⟩
theorem or_run {ρ : List Slot} {pi pj : PSt} {s : Slot} (r : run T (.or a b) ρ pi = some (s, pj)) : ∃ q p p1, s = .val (.bool q) ∧ bOf (run T a ρ pi) = some (p, p1) ∧ (p = false → bOf (run T b ρ p1) = some (q, pj)) ∧ (p = true → q = true ∧ pj = p1) := by
  simp only [run, Option.bind_eq_some_iff] at r
  obtain ⟨⟨p, p1⟩, hp, r⟩ := r
  cases p with
  | false =>
    simp only [Option.map_eq_some_iff, Prod.mk.injEq] at r
    obtain ⟨⟨q, p2⟩, hq, rfl, rfl⟩ := r
    exact ⟨q, false, p1, rfl, hp, fun _ => hq, fun z => nomatch z⟩
  | true =>
    simp only [Option.some.injEq, Prod.mk.injEq] at r
    obtain ⟨rfl, rfl⟩ := r
    exact ⟨true, true, p1, rfl, hp, (fun z => nomatch z), fun _ => ⟨rfl, rfl⟩⟩
theorem chk_andN {N : List Str} {sc : Scope} {sto : Str → Bool} {es : List Expr} : chkA T N (.and a b) sc sto es = false := by cases es <;> rfl
theorem tw_and (ha : Snd T a) (hb : Snd T b) {X : Cx} {sc : Scope} {sto : Str → Bool} {N : List Str} {k : Nat} {B : Base} {e : Expr} {ρ : List Slot} {pi pj : PSt} {q : Bool} (fr : FrA X sc sto N k) (en : En T X k) (h : andM (chkT T N a sc sto) (chkT T N b sc sto) (chkW T N b sc sto) .And e = true) (r : bOf (run T (.and a b) ρ pi) = some (q, pj)) : EvW X B e ρ pi q pj := by
  obtain ⟨x, y, es, pos, rfl, h1, h2⟩ := andM_some h
  obtain ⟨q', p, p1, hq, r1, r2, r3⟩ := and_run (bOf_some r)
  cases hq
  refine ew_andS (ha.te fr en h1 r1) (fun hp => ?_) fun hp => r3 hp
  rcases h2 with ⟨rfl, h2⟩ | h2
  · exact ew_and1 (hb.te fr en h2 (r2 hp))
  · exact hb.tw fr en h2 (r2 hp)
theorem tw_or (ha : Snd T a) (hb : Snd T b) {X : Cx} {sc : Scope} {sto : Str → Bool} {N : List Str} {k : Nat} {B : Base} {e : Expr} {ρ : List Slot} {pi pj : PSt} {q : Bool} (fr : FrA X sc sto N k) (en : En T X k) (h : andM (chkT T N a sc sto) (chkT T N b sc sto) (chkW T N b sc sto) .Or e = true) (r : bOf (run T (.or a b) ρ pi) = some (q, pj)) : EvW X B e ρ pi q pj := by
  obtain ⟨x, y, es, pos, rfl, h1, h2⟩ := andM_some h
  obtain ⟨q', p, p1, hq, r1, r2, r3⟩ := or_run (bOf_some r)
  cases hq
  refine ew_orS (ha.te fr en h1 r1) (fun hp => ?_) fun hp => r3 hp
  rcases h2 with ⟨rfl, h2⟩ | h2
  · exact ew_or1 (hb.te fr en h2 (r2 hp))
  · exact hb.tw fr en h2 (r2 hp)
theorem snd_and (ha : Snd T a) (hb : Snd T b) : Snd T (.and a b) where
  ev := fun {X sc sto N k B e ρ pi pj s} fr en h r => by
    have h : andM (chk T N a sc sto) (chk T N b sc sto) (chk T N b sc sto) .And e = true := by simpa only [chk] using h
    obtain ⟨x, y, es, pos, rfl, h1, h2⟩ := andM_some h
    obtain ⟨q', p, p1, rfl, r1, r2, r3⟩ := and_run r
    refine (ev_andS (ha.bb fr en h1 r1) (fun hp => ?_) fun hp => r3 hp).toS
    rcases h2 with ⟨rfl, h2⟩ | h2
    · exact ev_one (hb.bb fr en h2 (r2 hp))
    · exact hb.bb fr en h2 (r2 hp)
  lc := fun _ _ h _ => absurd h Bool.false_ne_true
  te := fun {X sc sto N k B e ρ pi pj b} fr en h r => by
    simp only [chkT] at h
    obtain ⟨x, y, es, pos, rfl, _⟩ := andM_some h
    exact et_w (tw_and ha hb fr en h r)
  tw := fun {X sc sto N k B e ρ pi pj b} fr en h r => by
    simp only [chkW] at h
    exact tw_and ha hb fr en h r
  ar := fun {X sc sto N k B es ρ pi pj b} _ _ h _ => by cases es <;> exact absurd h Bool.false_ne_true
  it := fun {X sc sto N k B tg e ρ pi pj b} _ _ h _ => by cases e <;> exact absurd h Bool.false_ne_true
theorem snd_or (ha : Snd T a) (hb : Snd T b) : Snd T (.or a b) where
  ev := fun {X sc sto N k B e ρ pi pj s} fr en h r => by
    have h : andM (chk T N a sc sto) (chk T N b sc sto) (chk T N b sc sto) .Or e = true := by simpa only [chk] using h
    obtain ⟨x, y, es, pos, rfl, h1, h2⟩ := andM_some h
    obtain ⟨q', p, p1, rfl, r1, r2, r3⟩ := or_run r
    refine (ev_orS (ha.bb fr en h1 r1) (fun hp => ?_) fun hp => r3 hp).toS
    rcases h2 with ⟨rfl, h2⟩ | h2
    · exact ev_one (hb.bb fr en h2 (r2 hp))
    · exact hb.bb fr en h2 (r2 hp)
  lc := fun _ _ h _ => absurd h Bool.false_ne_true
  te := fun {X sc sto N k B e ρ pi pj b} fr en h r => by
    simp only [chkT] at h
    obtain ⟨x, y, es, pos, rfl, _⟩ := andM_some h
    exact et_w (tw_or ha hb fr en h r)
  tw := fun {X sc sto N k B e ρ pi pj b} fr en h r => by
    simp only [chkW] at h
    exact tw_or ha hb fr en h r
  ar := fun {X sc sto N k B es ρ pi pj b} _ _ h _ => by cases es <;> exact absurd h Bool.false_ne_true
  it := fun {X sc sto N k B tg e ρ pi pj b} _ _ h _ => by cases e <;> exact absurd h Bool.false_ne_true
theorem snd_not (ha : Snd T a) : Snd T (.not a) where
  ev := fun {X sc sto N k B e ρ pi pj s} fr en h r => by
    cases e <;> first | (exact absurd h Bool.false_ne_true) | skip
    rename_i op x pos
    cases op <;> first | (exact absurd h Bool.false_ne_true) | skip
    simp only [chk] at h
    simp only [run, Option.map_eq_some_iff, Prod.mk.injEq] at r
    obtain ⟨u, hu, rfl, rfl⟩ := r
    exact (ev_not (ha.bb fr en h hu)).toS
  lc := fun _ _ h _ => absurd h Bool.false_ne_true
  te := fun {X sc sto N k B e ρ pi pj b} fr en h r => by
    cases e <;> first | (exact absurd h Bool.false_ne_true) | skip
    rename_i op x pos
    cases op <;> first | (exact absurd h Bool.false_ne_true) | skip
    simp only [chkT] at h
    have r := bOf_some r
    simp only [run, Option.map_eq_some_iff, Prod.mk.injEq, Slot.val.injEq, PyData.bool.injEq] at r
    obtain ⟨u, hu, rfl, rfl⟩ := r
    exact et_not (ha.te fr en h hu)
  tw := fun _ _ h _ => absurd h Bool.false_ne_true
  ar := fun {X sc sto N k B es ρ pi pj b} _ _ h _ => by cases es <;> exact absurd h Bool.false_ne_true
  it := fun {X sc sto N k B tg e ρ pi pj b} _ _ h _ => by cases e <;> exact absurd h Bool.false_ne_true
theorem ev_neg {X : Cx} {B : Base} {x : Expr} {ρ : List Slot} {pi pj : PSt} {n : Int} {pos : Pos} (ha : Ev X B x ρ pi (.int n) pj) : Ev X B (.UnaryOp .USub x pos) ρ pi (.int (-n)) pj :=
  .of (pe_un un_neg pe_W) fun σ F H h Q z => ha.run σ F H h _ fun v F1 H1 s1 r => ⟨n, r.isI, z _ F1 H1 s1 (.int _)⟩
theorem snd_neg (ha : Snd T a) : Snd T (.neg a) := .of (fun {X sc sto N k B e ρ pi pj s} fr en h r => by
    cases e <;> first | (exact absurd h Bool.false_ne_true) | skip
    rename_i op x pos
    cases op <;> first | (exact absurd h Bool.false_ne_true) | skip
    simp only [chk] at h
    simp only [run, Option.map_eq_some_iff, Prod.mk.injEq] at r
    obtain ⟨u, hu, rfl, rfl⟩ := r
    exact (ev_neg (ha.ii fr en h hu)).toS) (fun _ _ _ _ _ _ _ => rfl) (fun _ _ _ e => by cases e <;> rfl) (fun _ _ _ e => by cases e <;> rfl) (fun _ _ _ es => by cases es <;> rfl) (fun _ _ _ _ e => by cases e <;> rfl)
theorem snd_ite (hc : Snd T c) (ha : Snd T a) (hb : Snd T b) : Snd T (.ite c a b) := .of (fun {X sc sto N k B e ρ pi pj s} fr en h r => by
    cases e <;> first | (exact absurd h Bool.false_ne_true) | skip
    simp only [chk, Bool.and_eq_true] at h
    simp only [run, Option.bind_eq_some_iff] at r
    obtain ⟨⟨p, p1⟩, hp, r⟩ := r
    cases p with
    | true =>
      simp only [Option.map_eq_some_iff, Prod.mk.injEq] at r
      obtain ⟨y, hy, rfl, rfl⟩ := r
      exact (ev_if (hc.te fr en h.1.1 hp) (fun _ => ha.dd fr en h.1.2 hy) fun z => nomatch z).toS
    | false =>
      simp only [Option.map_eq_some_iff, Prod.mk.injEq] at r
      obtain ⟨y, hy, rfl, rfl⟩ := r
      exact (ev_if (hc.te fr en h.1.1 hp) (fun z => nomatch z) fun _ => hb.dd fr en h.2 hy).toS) (fun _ _ _ _ _ _ _ => rfl) (fun _ _ _ e => by cases e <;> rfl) (fun _ _ _ e => by cases e <;> rfl) (fun _ _ _ es => by cases es <;> rfl) (fun _ _ _ _ e => by cases e <;> rfl)
theorem snd_ix (ha : Snd T a) (hb : Snd T b) : Snd T (.ix a b) := .of (fun {X sc sto N k B e ρ pi pj s} fr en h r => by
    cases e <;> first | (exact absurd h Bool.false_ne_true) | skip
    simp only [chk, Bool.and_eq_true] at h
    simp only [run, Option.bind_eq_some_iff, Option.map_eq_some_iff, Prod.mk.injEq] at r
    obtain ⟨⟨x, xp⟩, hx, ⟨y, yp⟩, hy, d, hd, rfl, rfl⟩ := r
    obtain ⟨s1, h1, h2⟩ := sOf_some hx
    rcases h2 with h2 | h2
    · exact (ev_ix ((ha.ev fr en h.1.2 h1).ev h2) (hb.ii fr en h.2 hy) (ix_L hd) (sl_of h.1.1)).toS
    · exact (ev_ix ((ha.ev fr en h.1.2 h1).ev h2) (hb.ii fr en h.2 hy) (ix_T hd) (sl_of h.1.1)).toS) (fun _ _ _ _ _ _ _ => rfl) (fun _ _ _ e => by cases e <;> rfl) (fun _ _ _ e => by cases e <;> rfl) (fun _ _ _ es => by cases es <;> rfl) (fun _ _ _ _ e => by cases e <;> rfl)
theorem snd_ixO {i : Nat} (hb : Snd T b) : Snd T (.ixO i b) := .of (fun {X sc sto N k B e ρ pi pj s} fr en h r => by
    cases e <;> first | (exact absurd h Bool.false_ne_true) | skip
    rename_i v sl pos
    cases v <;> first | (exact absurd h Bool.false_ne_true) | skip
    rename_i x px
    simp only [chk, nmC, Bool.and_eq_true, decide_eq_true_eq] at h
    simp only [run] at r
    split at r
    · rename_i hs
      simp only [Option.bind_eq_some_iff, Option.map_eq_some_iff, Prod.mk.injEq] at r
      obtain ⟨⟨y, yp⟩, hy, d, hd, rfl, rfl⟩ := r
      exact (ev_ixO (fr.fr [x] [] [] (by simp [h.1.2.2]) rfl rfl) (look_of h.1.2.1 hs) (by simp) (hb.ii fr en h.2 hy) hd (sl_of h.1.1)).toS
    · cases r) (fun _ _ _ _ _ _ _ => rfl) (fun _ _ _ e => by cases e <;> rfl) (fun _ _ _ e => by cases e <;> rfl) (fun _ _ _ es => by cases es <;> rfl) (fun _ _ _ _ e => by cases e <;> rfl)
theorem snd_slTo (ha : Snd T a) (hb : Snd T b) : Snd T (.slTo a b) := .of (fun {X sc sto N k B e ρ pi pj s} fr en h r => by
    cases e <;> first | (exact absurd h Bool.false_ne_true) | skip
    rename_i v sl pos
    cases sl <;> first | (exact absurd h Bool.false_ne_true) | skip
    rename_i lo up st p2
    cases lo <;> first | (exact absurd h Bool.false_ne_true) | skip
    cases up <;> first | (exact absurd h Bool.false_ne_true) | skip
    cases st <;> first | (exact absurd h Bool.false_ne_true) | skip
    simp only [chk, Bool.and_eq_true] at h
    simp only [run, Option.bind_eq_some_iff] at r
    obtain ⟨⟨x, xp⟩, hx, ⟨y, yp⟩, hy, r⟩ := r
    split at r
    · rename_i ds hd
      simp only at hd
      subst hd
      simp only [Option.some.injEq, Prod.mk.injEq] at r
      obtain ⟨rfl, rfl⟩ := r
      exact (ev_slTo (ha.dd fr en h.1 hx) (hb.ii fr en h.2 hy)).toS
    · rename_i ds hd
      simp only at hd
      subst hd
      simp only [Option.some.injEq, Prod.mk.injEq] at r
      obtain ⟨rfl, rfl⟩ := r
      exact (evo_slTo (ha.dd fr en h.1 hx) (hb.ii fr en h.2 hy)).toS
    · cases r) (fun _ _ _ _ _ _ _ => rfl) (fun _ _ _ e => by cases e <;> rfl) (fun _ _ _ e => by cases e <;> rfl) (fun _ _ _ es => by cases es <;> rfl) (fun _ _ _ _ e => by cases e <;> rfl)
theorem snd_slFrom (ha : Snd T a) (hb : Snd T b) : Snd T (.slFrom a b) := .of (fun {X sc sto N k B e ρ pi pj s} fr en h r => by
    cases e <;> first | (exact absurd h Bool.false_ne_true) | skip
    rename_i v sl pos
    cases sl <;> first | (exact absurd h Bool.false_ne_true) | skip
    rename_i lo up st p2
    cases lo <;> first | (exact absurd h Bool.false_ne_true) | skip
    cases up <;> first | (exact absurd h Bool.false_ne_true) | skip
    cases st <;> first | (exact absurd h Bool.false_ne_true) | skip
    simp only [chk, Bool.and_eq_true] at h
    simp only [run, Option.bind_eq_some_iff, Option.map_eq_some_iff, Prod.mk.injEq] at r
    obtain ⟨⟨x, xp⟩, hx, ⟨y, yp⟩, hy, rfl, rfl⟩ := r
    exact (ev_slFrom (ha.tt fr en h.1 hx) (hb.ii fr en h.2 hy)).toS) (fun _ _ _ _ _ _ _ => rfl) (fun _ _ _ e => by cases e <;> rfl) (fun _ _ _ e => by cases e <;> rfl) (fun _ _ _ es => by cases es <;> rfl) (fun _ _ _ _ e => by cases e <;> rfl)
theorem snd_tup (ha : Snd T a) : Snd T (.tup a) := .of (fun {X sc sto N k B e ρ pi pj s} fr en h r => by
    cases e <;> first | (exact absurd h Bool.false_ne_true) | skip
    simp only [chk] at h
    simp only [run, Option.bind_eq_some_iff] at r
    obtain ⟨⟨x, xp⟩, hx, r⟩ := r
    split at r
    · simp only [Option.some.injEq, Prod.mk.injEq] at r
      obtain ⟨rfl, rfl⟩ := r
      exact (ev_tup (ha.ar fr en h hx) (by assumption)).toS
    · cases r) (fun _ _ _ _ _ _ _ => rfl) (fun _ _ _ e => by cases e <;> rfl) (fun _ _ _ e => by cases e <;> rfl) (fun _ _ _ es => by cases es <;> rfl) (fun _ _ _ _ e => by cases e <;> rfl)
theorem snd_lst (ha : Snd T a) : Snd T (.lst a) := .of (fun {X sc sto N k B e ρ pi pj s} fr en h r => by
    cases e <;> first | (exact absurd h Bool.false_ne_true) | skip
    simp only [chk] at h
    simp only [run, Option.bind_eq_some_iff] at r
    obtain ⟨⟨x, xp⟩, hx, r⟩ := r
    split at r
    · simp only [Option.some.injEq, Prod.mk.injEq] at r
      obtain ⟨rfl, rfl⟩ := r
      exact (evo_lst (ha.ar fr en h hx) (by assumption)).toS
    · cases r) (fun _ _ _ _ _ _ _ => rfl) (fun _ _ _ e => by cases e <;> rfl) (fun _ _ _ e => by cases e <;> rfl) (fun _ _ _ es => by cases es <;> rfl) (fun _ _ _ _ e => by cases e <;> rfl)
theorem snd_nil : Snd T .nil where
  ev := fun {X sc sto N k B e ρ pi pj s} fr en h r => by
    cases e <;> exact absurd h Bool.false_ne_true
  lc := fun _ _ h _ => absurd h Bool.false_ne_true
  te := fun {X sc sto N k B e ρ pi pj b} _ _ h _ => by cases e <;> exact absurd h Bool.false_ne_true
  tw := fun {X sc sto N k B e ρ pi pj b} _ _ h _ => by cases e <;> exact absurd h Bool.false_ne_true
  ar := fun {X sc sto N k B es ρ pi pj b} _ _ h r => by
    cases es with
    | cons _ _ => exact absurd h Bool.false_ne_true
    | nil =>
      simp only [run, lOf, Option.bind_some, Option.some.injEq, Prod.mk.injEq] at r
      obtain ⟨rfl, rfl⟩ := r
      exact eva_nil
  it := fun {X sc sto N k B tg e ρ pi pj b} _ _ h _ => by cases e <;> exact absurd h Bool.false_ne_true
theorem snd_cons (ha : Snd T a) (hb : Snd T b) : Snd T (.cons a b) where
  ev := fun {X sc sto N k B e ρ pi pj s} fr en h r => by
    cases e <;> exact absurd h Bool.false_ne_true
  lc := fun _ _ h _ => absurd h Bool.false_ne_true
  te := fun {X sc sto N k B e ρ pi pj b} _ _ h _ => by cases e <;> exact absurd h Bool.false_ne_true
  tw := fun {X sc sto N k B e ρ pi pj b} _ _ h _ => by cases e <;> exact absurd h Bool.false_ne_true
  ar := fun {X sc sto N k B es ρ pi pj ds} fr en h r => by
    cases es with
    | nil => exact absurd h Bool.false_ne_true
    | cons x es =>
      simp only [chkA, Bool.and_eq_true] at h
      obtain ⟨s, r, hs⟩ := lOf_some r
      simp only [run, Option.bind_eq_some_iff, Option.map_eq_some_iff, Prod.mk.injEq] at r
      obtain ⟨⟨x, xp⟩, hx, ⟨y, yp⟩, hy, rfl, rfl⟩ := r
      cases hs
      exact eva_cons (ha.dd fr en h.1.2 hx) (hb.ar fr en h.2 hy) fun r env => star_of h.1.1 r env
  it := fun {X sc sto N k B tg e ρ pi pj b} _ _ h _ => by cases e <;> exact absurd h Bool.false_ne_true
end
end Fs
-- FsQ
/-! Soundness of the expression codes: calls, comprehensions, what is walked. -/
namespace Fs
open PySem PySem.Spec PyProof.Rows L2
section
variable {X : Cx} {sc : Scope} {B : Base} {N Vs L G : List Str} {k : Nat} {ρ ρ' ρ2 : List Slot} {pi pj pk pl : PSt} {pos pos' apos cpos p1 p2 p3 p4 : Pos} {e a b c tg : Expr} {es : List Expr} {d da db dc : D} {ds : List D} {x y z : Str} {i j : Nat}
theorem ev_callQ {ps : List Str} {g : Pl → List D → D → Pl → Prop} {q q' : Pl} (fr : Fr X sc N Vs L G k) (hc : HasQ X k x ps g) (hG : x ∈ G) (l : Look N ρ i y .pool) (hy : y ∈ Vs) (ha : EvA X B es ρ pi ds (some q)) (hg : g q ds d q') : Ev X B (.Call (.Name x p1) (.Name y p2 :: es) [] pos) ρ pi d (some q') := by
  obtain ⟨f, fd, F, hm, hk, hb⟩ := hc
  refine .of (pe_call F fr.room (fr.glo x hG).1 hm hk hb .nil pass0 (pa_cons (fr.pe l.n hy) pa_W (by rfl)) (fr.glo x hG).2.1 (by rfl) (ha.1.any _)) fun σ F' H h Q qq => ?_
  obtain ⟨o, e1, q0, rfl, rfl⟩ := h.at_ i _ l.r
  refine ⟨_, e1, ha.run σ F' H h _ fun vs F1 H1 s1 r1 => ?_⟩
  have ad := s1.adr
  simp only [Option.map_some, Option.some.injEq, Prod.mk.injEq] at ad
  show spQ X.K g ((V.ref q0.p :: vs) ++ []) H1 Q E0
  rw [List.append_nil]
  exact ⟨F1, q, vs, ds, d, q', by rw [ad.1], s1.g1, r1, hg, fun v F2 H2 s2 r2 => qq v F2 H2 (s1.trans s2) r2⟩
end
section
variable {T : Tab} {a b c : C}

theorem call_ok {j : Nat} {X : Cx} {sc : Scope} {sto : Str → Bool} {N : List Str} {k : Nat} {B : Base} {x : Str} {y : Expr} {ys : List Expr} {px pos : Pos} {ρ : List Slot} {pi pj : PSt} {s : Slot} (ha : Snd T a) (fr : FrA X sc sto N k) (en : En T X k)
    (h : ((match T.tb[j]? with | some z => decide (z.1 = x) | none => false) && gloOk sc x && chkA T N a sc sto (y :: ys)) = true) (r : run T (.call j a) ρ pi = some (s, pj)) : ∃ d, s = .val d ∧ Ev X B (.Call (.Name x px) (y :: ys) [] pos) ρ pi d pj := by
  simp only [Bool.and_eq_true] at h
  obtain ⟨⟨h1, h2⟩, h3⟩ := h
  simp only [run, Option.bind_eq_some_iff, Option.map_eq_some_iff, Prod.mk.injEq] at r
  obtain ⟨⟨u, up⟩, hu, z, hz, d, hd, rfl, rfl⟩ := r
  rw [hz] at h1
  simp only [decide_eq_true_eq] at h1
  subst h1
  obtain ⟨ps, hh⟩ := en.tb j z hz
  exact ⟨d, rfl, ev_call (fr.fr [] [] [z.1] rfl rfl (by simp [h2])) hh (by simp) (ha.ar fr en h3 hu) hd⟩
theorem snd_call {j : Nat} (ha : Snd T a) : Snd T (.call j a) where
  ev := fun {X sc sto N k B e ρ pi pj s} fr en h r => by
    cases e <;> first | (exact absurd h Bool.false_ne_true) | skip
    rename_i fn args kws pos
    cases fn <;> first | (exact absurd h Bool.false_ne_true) | skip
    rename_i x px
    cases args <;> first | (exact absurd h Bool.false_ne_true) | skip
    rename_i y ys
    cases kws <;> first | (exact absurd h Bool.false_ne_true) | skip
    simp only [chk] at h
    obtain ⟨d, rfl, q⟩ := call_ok (B := B) (px := px) (pos := pos) ha fr en h r
    exact q.toS
  lc := fun _ _ h _ => absurd h Bool.false_ne_true
  te := fun {X sc sto N k B e ρ pi pj b} fr en h r => by
    cases e <;> first | (exact absurd h Bool.false_ne_true) | skip
    rename_i fn args kws pos
    cases fn <;> first | (exact absurd h Bool.false_ne_true) | skip
    rename_i x px
    cases args <;> first | (exact absurd h Bool.false_ne_true) | skip
    rename_i y ys
    cases kws <;> first | (exact absurd h Bool.false_ne_true) | skip
    simp only [chkT] at h
    obtain ⟨d, hd, q⟩ := call_ok (B := B) (px := px) (pos := pos) ha fr en h (bOf_some r)
    cases hd
    exact et_val q
  tw := fun {X sc sto N k B e ρ pi pj b} _ _ h _ => by cases e <;> exact absurd h Bool.false_ne_true
  ar := fun {X sc sto N k B es ρ pi pj b} _ _ h _ => by cases es <;> exact absurd h Bool.false_ne_true
  it := fun {X sc sto N k B tg e ρ pi pj b} _ _ h _ => by cases e <;> exact absurd h Bool.false_ne_true

theorem snd_callQ {i j : Nat} (ha : Snd T a) : Snd T (.callQ j i a) := .of (fun {X sc sto N k B e ρ pi pj s} fr en h r => by
    cases e <;> first | (exact absurd h Bool.false_ne_true) | skip
    rename_i fn args kws pos
    cases fn <;> first | (exact absurd h Bool.false_ne_true) | skip
    rename_i x px
    cases args <;> first | (exact absurd h Bool.false_ne_true) | skip
    rename_i y ys
    cases y <;> first | (exact absurd h Bool.false_ne_true) | skip
    rename_i y py
    cases kws <;> first | (exact absurd h Bool.false_ne_true) | skip
    simp only [chk, nmC, Bool.and_eq_true, decide_eq_true_eq] at h
    obtain ⟨⟨⟨h1, h2⟩, h3, h4⟩, h5⟩ := h
    simp only [run] at r
    split at r
    · rename_i hs
      simp only [Option.bind_eq_some_iff, Option.map_eq_some_iff, Prod.mk.injEq] at r
      obtain ⟨⟨u, up⟩, hu, z, hz, q, hq, d, hd, rfl, rfl⟩ := r
      simp only at hq
      subst hq
      rw [hz] at h1
      simp only [decide_eq_true_eq] at h1
      subst h1
      obtain ⟨ps, hh⟩ := en.tq j z hz
      exact (ev_callQ (fr.fr [y] [] [z.1] (by simp [h4]) rfl (by simp [h2])) hh (by simp) (look_of h3 hs) (by simp) (ha.ar fr en h5 hu) hd).toS
    · cases r) (fun _ _ _ _ _ _ _ => rfl) (fun _ _ _ e => by cases e <;> rfl) (fun _ _ _ e => by cases e <;> rfl) (fun _ _ _ es => by cases es <;> rfl) (fun _ _ _ _ e => by cases e <;> rfl)
theorem snd_fn {f : BF} (ha : Snd T a) : Snd T (.fn f a) where
  ev := fun {X sc sto N k B e ρ pi pj s} fr en h r => by
    cases e <;> first | (exact absurd h Bool.false_ne_true) | skip
    rename_i fn args kws pos
    cases fn <;> first | (exact absurd h Bool.false_ne_true) | skip
    rename_i x px
    cases args <;> first | (exact absurd h Bool.false_ne_true) | skip
    rename_i y ys
    cases kws <;> first | (exact absurd h Bool.false_ne_true) | skip
    simp only [chk, Bool.and_eq_true, decide_eq_true_eq] at h
    obtain ⟨⟨rfl, h2⟩, h3⟩ := h
    simp only [run, Option.bind_eq_some_iff, Option.map_eq_some_iff, Prod.mk.injEq] at r
    obtain ⟨⟨u, up⟩, hu, z, hz, rfl, rfl⟩ := r
    exact fn_snd (fr.fr [] [] [fnN f] rfl rfl (by simp [h2])) en.bl (by simp) (ha.ar fr en h3 hu) hz
  lc := fun _ _ h _ => absurd h Bool.false_ne_true
  te := fun {X sc sto N k B e ρ pi pj b} fr en h r => by
    cases e <;> first | (exact absurd h Bool.false_ne_true) | skip
    rename_i fn args kws pos
    cases fn <;> first | (exact absurd h Bool.false_ne_true) | skip
    rename_i x px
    cases args <;> first | (exact absurd h Bool.false_ne_true) | skip
    rename_i y ys
    cases kws <;> first | (exact absurd h Bool.false_ne_true) | skip
    simp only [chkT, Bool.and_eq_true, decide_eq_true_eq] at h
    obtain ⟨⟨rfl, h2⟩, h3⟩ := h
    have r := bOf_some r
    simp only [run, Option.bind_eq_some_iff, Option.map_eq_some_iff, Prod.mk.injEq] at r
    obtain ⟨⟨u, up⟩, hu, z, hz, rfl, rfl⟩ := r
    exact et_val ((fn_snd (fr.fr [] [] [fnN f] rfl rfl (by simp [h2])) en.bl (by simp) (ha.ar fr en h3 hu) hz).ev rfl)
  tw := fun {X sc sto N k B e ρ pi pj b} _ _ h _ => by cases e <;> exact absurd h Bool.false_ne_true
  ar := fun {X sc sto N k B es ρ pi pj b} _ _ h _ => by cases es <;> exact absurd h Bool.false_ne_true
  it := fun {X sc sto N k B tg e ρ pi pj b} _ _ h _ => by cases e <;> exact absurd h Bool.false_ne_true

theorem isi_ok {t : Nat} {X : Cx} {sc : Scope} {sto : Str → Bool} {N : List Str} {k : Nat} {B : Base} {x y : Str} {e : Expr} {px py pos : Pos} {ρ : List Slot} {pi pj : PSt} {s : Slot} (ha : Snd T a) (fr : FrA X sc sto N k) (en : En T X k)
    (h : (decide (x = "isinstance") && gloOk sc x && decide (tyN t = y) && gloOk sc y && notStar e && chk T N a sc sto e) = true) (r : run T (.isi t a) ρ pi = some (s, pj)) : ∃ q, s = .val (.bool q) ∧ Ev X B (.Call (.Name x px) [e, .Name y py] [] pos) ρ pi (.bool q) pj := by
  simp only [Bool.and_eq_true, decide_eq_true_eq] at h
  obtain ⟨⟨⟨⟨⟨rfl, h2⟩, rfl⟩, h4⟩, h5⟩, h6⟩ := h
  simp only [run, Option.bind_eq_some_iff, Option.map_eq_some_iff, Prod.mk.injEq] at r
  obtain ⟨⟨u, up⟩, hu, z, hz, rfl, rfl⟩ := r
  refine ⟨z, rfl, ev_isinst (fr.fr [] [] ["isinstance", tyN t] rfl rfl (by simp [h2, h4])) en.bl (by simp) (ha.dd fr en h6 hu) ?_ (by simp) fun r env => star_of h5 r env⟩
  have hz : isiD t u = some z := hz
  unfold isiD at hz
  split at hz <;> cases hz
  · exact .tup _
  · exact .intInt _
  · exact .intBool _
theorem snd_isi {t : Nat} (ha : Snd T a) : Snd T (.isi t a) where
  ev := fun {X sc sto N k B e ρ pi pj s} fr en h r => by
    cases e <;> first | (exact absurd h Bool.false_ne_true) | skip
    rename_i fn args kws pos
    cases fn <;> first | (exact absurd h Bool.false_ne_true) | skip
    rename_i x px
    cases args <;> first | (exact absurd h Bool.false_ne_true) | skip
    rename_i y ys
    rcases ys with _ | ⟨z, _ | ⟨z2, ys⟩⟩ <;> first | (exact absurd h Bool.false_ne_true) | skip
    · cases z <;> first | (exact absurd h Bool.false_ne_true) | skip
      rename_i z pz
      cases kws <;> first | (exact absurd h Bool.false_ne_true) | skip
      simp only [chk] at h
      obtain ⟨d, rfl, q⟩ := isi_ok (B := B) (px := px) (py := pz) (pos := pos) ha fr en h r
      exact q.toS
    · cases z <;> first | (exact absurd h Bool.false_ne_true) | skip
  lc := fun _ _ h _ => absurd h Bool.false_ne_true
  te := fun {X sc sto N k B e ρ pi pj b} fr en h r => by
    cases e <;> first | (exact absurd h Bool.false_ne_true) | skip
    rename_i fn args kws pos
    cases fn <;> first | (exact absurd h Bool.false_ne_true) | skip
    rename_i x px
    cases args <;> first | (exact absurd h Bool.false_ne_true) | skip
    rename_i y ys
    rcases ys with _ | ⟨z, _ | ⟨z2, ys⟩⟩ <;> first | (exact absurd h Bool.false_ne_true) | skip
    · cases z <;> first | (exact absurd h Bool.false_ne_true) | skip
      rename_i z pz
      cases kws <;> first | (exact absurd h Bool.false_ne_true) | skip
      simp only [chkT] at h
      obtain ⟨d, hd, q⟩ := isi_ok (B := B) (px := px) (py := pz) (pos := pos) ha fr en h (bOf_some r)
      cases hd
      exact et_val q
    · cases z <;> first | (exact absurd h Bool.false_ne_true) | skip
  tw := fun {X sc sto N k B e ρ pi pj b} _ _ h _ => by cases e <;> exact absurd h Bool.false_ne_true
  ar := fun {X sc sto N k B es ρ pi pj b} _ _ h _ => by cases es <;> exact absurd h Bool.false_ne_true
  it := fun {X sc sto N k B tg e ρ pi pj b} _ _ h _ => by cases e <;> exact absurd h Bool.false_ne_true

/-! what is walked -/
theorem snd_seq (ha : Snd T a) : Snd T (.seq a) where
  ev := fun {X sc sto N k B e ρ pi pj s} fr en h r => by cases e <;> exact absurd h Bool.false_ne_true
  lc := fun _ _ h _ => absurd h Bool.false_ne_true
  te := fun {X sc sto N k B e ρ pi pj b} _ _ h _ => by cases e <;> exact absurd h Bool.false_ne_true
  tw := fun {X sc sto N k B e ρ pi pj b} _ _ h _ => by cases e <;> exact absurd h Bool.false_ne_true
  ar := fun {X sc sto N k B es ρ pi pj b} _ _ h _ => by cases es <;> exact absurd h Bool.false_ne_true
  it := fun {X sc sto N k B tg e ρ pi pj ds} fr en h r => by
    simp only [chkI] at h
    obtain ⟨s, r, hs⟩ := lOf_some r
    simp only [run, Option.map_eq_some_iff, Prod.mk.injEq] at r
    obtain ⟨⟨x, xp⟩, hx, rfl, rfl⟩ := r
    cases hs
    obtain ⟨s1, h1, h2⟩ := sOf_some hx
    rcases h2 with h2 | h2
    · exact evi_list ((ha.ev fr en h h1).ev h2)
    · exact evi_tup ((ha.ev fr en h h1).ev h2)
theorem snd_rng1 (ha : Snd T a) : Snd T (.rng1 a) where
  ev := fun {X sc sto N k B e ρ pi pj s} fr en h r => by cases e <;> exact absurd h Bool.false_ne_true
  lc := fun _ _ h _ => absurd h Bool.false_ne_true
  te := fun {X sc sto N k B e ρ pi pj b} _ _ h _ => by cases e <;> exact absurd h Bool.false_ne_true
  tw := fun {X sc sto N k B e ρ pi pj b} _ _ h _ => by cases e <;> exact absurd h Bool.false_ne_true
  ar := fun {X sc sto N k B es ρ pi pj b} _ _ h _ => by cases es <;> exact absurd h Bool.false_ne_true
  it := fun {X sc sto N k B tg e ρ pi pj ds} fr en h r => by
    cases e <;> first | (exact absurd h Bool.false_ne_true) | skip
    rename_i fn args kws pos
    cases fn <;> first | (exact absurd h Bool.false_ne_true) | skip
    rename_i x px
    cases args <;> first | (exact absurd h Bool.false_ne_true) | skip
    rename_i y ys
    rcases ys with _ | ⟨z, ys⟩ <;> first | (exact absurd h Bool.false_ne_true) | skip
    cases kws <;> first | (exact absurd h Bool.false_ne_true) | skip
    simp only [chkI, Bool.and_eq_true, decide_eq_true_eq] at h
    obtain ⟨⟨⟨rfl, h2⟩, h3⟩, h4⟩ := h
    obtain ⟨s, r, hs⟩ := lOf_some r
    simp only [run, Option.bind_eq_some_iff] at r
    obtain ⟨⟨x, xp⟩, hx, r⟩ := r
    split at r
    · rename_i hsm
      simp only [Option.some.injEq, Prod.mk.injEq] at r
      obtain ⟨rfl, rfl⟩ := r
      cases hs
      unfold small at hsm
      simp only [Bool.and_eq_true, decide_eq_true_eq] at hsm
      exact evi_range1 (fr.fr [] [] ["range"] rfl rfl (by simp [h2])) en.bl (by simp) (ha.ii fr en h4 hx) hsm.1 hsm.2 fun r env => star_of h3 r env
    · cases r
theorem snd_rng2 (ha : Snd T a) (hb : Snd T b) : Snd T (.rng2 a b) where
  ev := fun {X sc sto N k B e ρ pi pj s} fr en h r => by cases e <;> exact absurd h Bool.false_ne_true
  lc := fun _ _ h _ => absurd h Bool.false_ne_true
  te := fun {X sc sto N k B e ρ pi pj b} _ _ h _ => by cases e <;> exact absurd h Bool.false_ne_true
  tw := fun {X sc sto N k B e ρ pi pj b} _ _ h _ => by cases e <;> exact absurd h Bool.false_ne_true
  ar := fun {X sc sto N k B es ρ pi pj b} _ _ h _ => by cases es <;> exact absurd h Bool.false_ne_true
  it := fun {X sc sto N k B tg e ρ pi pj ds} fr en h r => by
    cases e <;> first | (exact absurd h Bool.false_ne_true) | skip
    rename_i fn args kws pos
    cases fn <;> first | (exact absurd h Bool.false_ne_true) | skip
    rename_i x px
    cases args <;> first | (exact absurd h Bool.false_ne_true) | skip
    rename_i y ys
    rcases ys with _ | ⟨z, _ | ⟨z2, ys⟩⟩ <;> first | (exact absurd h Bool.false_ne_true) | skip
    cases kws <;> first | (exact absurd h Bool.false_ne_true) | skip
    simp only [chkI, Bool.and_eq_true, decide_eq_true_eq] at h
    obtain ⟨⟨⟨⟨⟨rfl, h2⟩, h3⟩, h4⟩, h5⟩, h6⟩ := h
    obtain ⟨s, r, hs⟩ := lOf_some r
    simp only [run, Option.bind_eq_some_iff] at r
    obtain ⟨⟨x, xp⟩, hx, ⟨w, wp⟩, hw, r⟩ := r
    split at r
    · rename_i hsm
      simp only [Option.some.injEq, Prod.mk.injEq] at r
      obtain ⟨rfl, rfl⟩ := r
      cases hs
      unfold small at hsm
      simp only [Bool.and_eq_true, decide_eq_true_eq] at hsm
      exact evi_range2 (fr.fr [] [] ["range"] rfl rfl (by simp [h2])) en.bl (by simp) (ha.ii fr en h5 hx) (hb.ii fr en h6 hw) hsm.1 hsm.2 (fun r env => star_of h3 r env) fun r env => star_of h4 r env
    · cases r
/-! comprehensions -/
theorem lcGo_nil {f : D → PSt → Option (List D × PSt)} {p : PSt} : lcGo f [] p = some ([], p) := rfl
theorem lcGo_take {f : D → PSt → Option (List D × PSt)} : ∀ {ds : List D} {p q : PSt} {r : List D}, lcGo f ds p = some (r, q) → ∀ i, ∃ r' q', lcGo f (ds.take i) p = some (r', q') ∧ r'.length ≤ r.length ∧ ∀ d, ds[i]? = some d → ∃ more q2, f d q' = some (more, q2) ∧ lcGo f (ds.take (i + 1)) p = some (r' ++ more, q2)
  | [], p, q, r, h, i => ⟨[], p, by simp [lcGo], Nat.zero_le _, fun d hd => by simp at hd⟩
  | d :: ds, p, q, r, h, 0 => by
    simp only [lcGo, Option.bind_eq_some_iff, Option.map_eq_some_iff, Prod.mk.injEq] at h
    obtain ⟨⟨m, p1⟩, hm, ⟨y, p2⟩, hy, rfl, rfl⟩ := h
    refine ⟨[], p, rfl, Nat.zero_le _, fun d' hd => ?_⟩
    cases hd
    exact ⟨m, p1, hm, by simp [lcGo, hm]⟩
  | d :: ds, p, q, r, h, i + 1 => by
    simp only [lcGo, Option.bind_eq_some_iff, Option.map_eq_some_iff, Prod.mk.injEq] at h
    obtain ⟨⟨m, p1⟩, hm, ⟨y, p2⟩, hy, rfl, rfl⟩ := h
    obtain ⟨r', q', h1, h2, h3⟩ := lcGo_take hy i
    refine ⟨m ++ r', q', by simp [lcGo, hm, h1], by simp; omega, fun d' hd => ?_⟩
    obtain ⟨more, q2, h4, h5⟩ := h3 d' hd
    exact ⟨more, q2, h4, by rw [List.take_succ_cons]; simp [lcGo, hm, h5]⟩

theorem lc_v {elt it : C} {tg : Tg} {own : List (Str × Nat)} (he : Snd T elt) (hi : Snd T it) {X : Cx} {sc : Scope} {sto : Str → Bool} {N : List Str} {k : Nat} {B : Base} {el : Expr} {gs : List Comprehension} {scope : Scope} {pos : Pos} {ρ : List Slot} {pi pj : PSt} {s : Slot}
    (fr : FrA X sc sto N k) (en : En T X k) (h : chk T N (C.lc elt tg it own) sc sto (.ListComp el gs scope pos) = true) (r : run T (C.lc elt tg it own) ρ pi = some (s, pj)) : ∃ ds, s = .own ds ∧ LcV X B (.ListComp el gs scope pos) ρ pi ds pj := by
  rcases gs with _ | ⟨⟨te, ie, ifs, asy⟩, _ | ⟨g2, gs⟩⟩ <;> first | (exact absurd h Bool.false_ne_true) | skip
  rotate_left
  · exact absurd h (by unfold chk; split <;> simp_all)
  cases ifs <;> first | (exact absurd h Bool.false_ne_true) | skip
  by_cases ha : asy = 0
  case neg => exact absurd h (by unfold chk; split <;> simp_all)
  subst ha
  simp only [chk, Bool.and_eq_true, List.all_eq_true] at h
  obtain ⟨⟨⟨⟨⟨hb, ho⟩, h2⟩, h3⟩, h4⟩, h5⟩ := h
  simp only [run, Option.bind_eq_some_iff] at r
  obtain ⟨⟨ds, p1⟩, hds, ⟨ys, q⟩, hys, r⟩ := r
  split at r
  · rename_i hlen
    simp only [Option.some.injEq, Prod.mk.injEq] at r
    obtain ⟨rfl, rfl⟩ := r
    refine ⟨ys, rfl, ?_⟩
    obtain ⟨f, hf⟩ : ∃ f, f = fun (d : D) (q : PSt) => (tg.asg d (wipeS ρ (own.map (·.2)))).bind fun ρ2 => (dOf (run T elt ρ2 q)).map fun y => ([y.1], y.2) := ⟨_, rfl⟩
    have hys : lcGo f ds p1 = some (ys, q) := by rw [hf]; exact hys
    have tk := lcGo_take hys
    have full : lcGo f (ds.take ds.length) p1 = some (ys, q) := by rw [List.take_length]; exact hys
    have := lcvA (X := X) (B := B) (pos := pos) (elt := el) (tg := te) (it := ie) (ifs := []) fr hb (hi.it fr en h3 hds) (by simp) (fun i => ((lcGo f (ds.take i) p1).map (·.1)).getD []) (fun i => ((lcGo f (ds.take i) p1).map (·.2)).getD none) rfl rfl (fun i _ => by
      obtain ⟨r', q', e1, e2, _⟩ := tk i
      simp only [e1, Option.map_some, Option.getD_some]
      have hl : ys.length < 100000 := hlen
      omega) (fun i d hd => by
      obtain ⟨r', q', e1, e2, e3⟩ := tk i
      obtain ⟨more, q2, e4, e5⟩ := e3 d hd
      refine ⟨more, ?_, by simp only [e1, e5, Option.map_some, Option.getD_some]⟩
      simp only [e1, e5, Option.map_some, Option.getD_some]
      rw [hf] at e4
      simp only [Option.bind_eq_some_iff] at e4
      obtain ⟨ρ2, e6, e4⟩ := e4
      refine ⟨ρ2, tg.is, fun j hj => by simpa using ho j hj, fun X' sb fr' => (asg_snd fr' tg).1 h4 e6, ?_⟩
      simp only [Option.map_eq_some_iff, Prod.mk.injEq] at e4
      obtain ⟨⟨y, yp⟩, hy, rfl, rfl⟩ := e4
      exact ⟨y, rfl, fun X' sb fr' => he.dd fr' (en.sub sb) h5 hy⟩) (fun env v => set_of h2 env v)
    simp only [full, Option.map_some, Option.getD_some] at this
    exact this
  · cases r

theorem lcIf_v {elt it : C} {cond : C} {tg : Tg} {own : List (Str × Nat)} (he : Snd T elt) (hi : Snd T it) (hc : Snd T cond) {X : Cx} {sc : Scope} {sto : Str → Bool} {N : List Str} {k : Nat} {B : Base} {el : Expr} {gs : List Comprehension} {scope : Scope} {pos : Pos} {ρ : List Slot} {pi pj : PSt} {s : Slot}
    (fr : FrA X sc sto N k) (en : En T X k) (h : chk T N (C.lcIf elt cond tg it own) sc sto (.ListComp el gs scope pos) = true) (r : run T (C.lcIf elt cond tg it own) ρ pi = some (s, pj)) : ∃ ds, s = .own ds ∧ LcV X B (.ListComp el gs scope pos) ρ pi ds pj := by
  rcases gs with _ | ⟨⟨te, ie, ifs, asy⟩, _ | ⟨g2, gs⟩⟩ <;> first | (exact absurd h Bool.false_ne_true) | skip
  rotate_left
  · exact absurd h (by unfold chk; split <;> simp_all)
  rcases ifs with _ | ⟨ce, _ | ⟨c2, ifs⟩⟩ <;> first | (exact absurd h Bool.false_ne_true) | skip
  by_cases ha : asy = 0
  case neg => exact absurd h (by unfold chk; split <;> simp_all)
  subst ha
  simp only [chk, Bool.and_eq_true, List.all_eq_true] at h
  obtain ⟨⟨⟨⟨⟨⟨hb, ho⟩, h2⟩, h3⟩, h4⟩, h5⟩, h6⟩ := h
  simp only [run, Option.bind_eq_some_iff] at r
  obtain ⟨⟨ds, p1⟩, hds, ⟨ys, q⟩, hys, r⟩ := r
  split at r
  · rename_i hlen
    simp only [Option.some.injEq, Prod.mk.injEq] at r
    obtain ⟨rfl, rfl⟩ := r
    refine ⟨ys, rfl, ?_⟩
    obtain ⟨f, hf⟩ : ∃ f, f = fun (d : D) (q : PSt) => (tg.asg d (wipeS ρ (own.map (·.2)))).bind fun ρ2 => match q with
        | none => (bOf (run T cond ρ2 none)).bind fun c => match c.1, c.2 with
          | true, none => (dOf (run T elt ρ2 none)).map fun y => ([y.1], y.2)
          | false, none => some ([], none)
          | _, _ => none
        | some _ => none := ⟨_, rfl⟩
    have hys : lcGo f ds p1 = some (ys, q) := by rw [hf]; exact hys
    have tk := lcGo_take hys
    have full : lcGo f (ds.take ds.length) p1 = some (ys, q) := by rw [List.take_length]; exact hys
    have := lcvA (X := X) (B := B) (pos := pos) (elt := el) (tg := te) (it := ie) (ifs := [ce]) fr hb (hi.it fr en h3 hds) (by simp) (fun i => ((lcGo f (ds.take i) p1).map (·.1)).getD []) (fun i => ((lcGo f (ds.take i) p1).map (·.2)).getD none) rfl rfl (fun i _ => by
      obtain ⟨r', q', e1, e2, _⟩ := tk i
      simp only [e1, Option.map_some, Option.getD_some]
      have hl : ys.length < 100000 := hlen
      omega) (fun i d hd => by
      obtain ⟨r', q', e1, e2, e3⟩ := tk i
      obtain ⟨more, q2, e4, e5⟩ := e3 d hd
      refine ⟨more, ?_, by simp only [e1, e5, Option.map_some, Option.getD_some]⟩
      simp only [e1, e5, Option.map_some, Option.getD_some]
      rw [hf] at e4
      simp only [Option.bind_eq_some_iff] at e4
      obtain ⟨ρ2, e6, e4⟩ := e4
      refine ⟨ρ2, tg.is, fun j hj => by simpa using ho j hj, fun X' sb fr' => (asg_snd fr' tg).1 h4 e6, ?_⟩
      cases q' with
      | some _ => cases e4
      | none =>
        simp only [Option.bind_eq_some_iff] at e4
        obtain ⟨⟨c, cp⟩, hcc, e4⟩ := e4
        cases cp with
        | some _ => cases c <;> cases e4
        | none =>
          refine ⟨c, fun X' sb fr' => hc.te fr' (en.sub sb) h6 hcc, fun z => ?_, fun z => ?_⟩
          · subst z
            simp only [Option.map_eq_some_iff, Prod.mk.injEq] at e4
            obtain ⟨⟨y, yp⟩, hy, rfl, rfl⟩ := e4
            exact ⟨y, rfl, fun X' sb fr' => he.dd fr' (en.sub sb) h5 hy⟩
          · subst z
            simp only [Option.some.injEq, Prod.mk.injEq] at e4
            exact ⟨e4.1.symm, e4.2.symm⟩) (fun env v => set_of h2 env v)
    simp only [full, Option.map_some, Option.getD_some] at this
    exact this
  · cases r
theorem snd_lc {elt it : C} {tg : Tg} {own : List (Str × Nat)} (he : Snd T elt) (hi : Snd T it) : Snd T (C.lc elt tg it own) where
  ev := fun {X sc sto N k B e ρ pi pj s} fr en h r => by
    cases e <;> first | (exact absurd h Bool.false_ne_true) | skip
    obtain ⟨ds, rfl, q⟩ := lc_v (B := B) he hi fr en h r
    exact (q.evo (fr.fr [] [] [] rfl rfl rfl)).toS
  lc := fun fr en h r => lc_v he hi fr en h r
  te := fun {X sc sto N k B e ρ pi pj b} _ _ h _ => by cases e <;> exact absurd h Bool.false_ne_true
  tw := fun {X sc sto N k B e ρ pi pj b} _ _ h _ => by cases e <;> exact absurd h Bool.false_ne_true
  ar := fun {X sc sto N k B es ρ pi pj b} _ _ h _ => by cases es <;> exact absurd h Bool.false_ne_true
  it := fun {X sc sto N k B tg e ρ pi pj b} _ _ h _ => by cases e <;> exact absurd h Bool.false_ne_true
theorem snd_lcIf {elt it : C} {cond : C} {tg : Tg} {own : List (Str × Nat)} (he : Snd T elt) (hi : Snd T it) (hc : Snd T cond) : Snd T (C.lcIf elt cond tg it own) where
  ev := fun {X sc sto N k B e ρ pi pj s} fr en h r => by
    cases e <;> first | (exact absurd h Bool.false_ne_true) | skip
    obtain ⟨ds, rfl, q⟩ := lcIf_v (B := B) he hi hc fr en h r
    exact (q.evo (fr.fr [] [] [] rfl rfl rfl)).toS
  lc := fun fr en h r => lcIf_v he hi hc fr en h r
  te := fun {X sc sto N k B e ρ pi pj b} _ _ h _ => by cases e <;> exact absurd h Bool.false_ne_true
  tw := fun {X sc sto N k B e ρ pi pj b} _ _ h _ => by cases e <;> exact absurd h Bool.false_ne_true
  ar := fun {X sc sto N k B es ρ pi pj b} _ _ h _ => by cases es <;> exact absurd h Bool.false_ne_true
  it := fun {X sc sto N k B tg e ρ pi pj b} _ _ h _ => by cases e <;> exact absurd h Bool.false_ne_true

theorem nmc_fr {X : Cx} {sc : Scope} {sto : Str → Bool} {N : List Str} {k i : Nat} {x : Str} (fr : FrA X sc sto N k) (h : nmC sc N i x = true) (G : List Str) (hG : G.all (gloOk sc) = true) : Fr X sc N [x] [] G k ∧ N[i]? = some x := by
  unfold nmC at h
  simp only [Bool.and_eq_true, decide_eq_true_eq] at h
  exact ⟨fr.fr [x] [] G (by simp [h.2]) rfl hG, h.1⟩
theorem snd_rev (ha : Snd T a) : Snd T (.rev a) := .of (fun {X sc sto N k B e ρ pi pj s} fr en h r => by
    unfold chk at h
    split at h <;> first | (cases h; done) | (rename_i heq; cases heq)
    simp only [Bool.and_eq_true, decide_eq_true_eq] at h
    obtain ⟨rfl, h2⟩ := h
    simp only [run, Option.map_eq_some_iff, Prod.mk.injEq] at r
    obtain ⟨⟨x, xp⟩, hx, rfl, rfl⟩ := r
    exact (ev_rev (ha.tt fr en h2 hx)).toS) (fun _ _ _ _ _ _ _ => rfl) (fun _ _ _ e => by cases e <;> rfl) (fun _ _ _ e => by cases e <;> rfl) (fun _ _ _ es => by cases es <;> rfl) (fun _ _ _ _ e => by cases e <;> rfl)
theorem ino_ok {neg : Bool} {i : Nat} {op : CmpOp} {X : Cx} {sc : Scope} {sto : Str → Bool} {N : List Str} {k : Nat} {B : Base} {x : Expr} {y : Str} {py pos : Pos} {ρ : List Slot} {pi pj : PSt} {s : Slot} (ha : Snd T a) (fr : FrA X sc sto N k) (en : En T X k)
    (h : (decide (op = match neg with | true => .NotIn | false => .In) && nmC sc N i y && chk T N a sc sto x) = true) (r : run T (.inO neg a i) ρ pi = some (s, pj)) : ∃ q, s = .val (.bool q) ∧ Ev X B (.Compare x [op] [.Name y py] pos) ρ pi (.bool q) pj ∧ EvT X B (.Compare x [op] [.Name y py] pos) ρ pi q pj := by
  simp only [Bool.and_eq_true, decide_eq_true_eq] at h
  obtain ⟨⟨rfl, h2⟩, h3⟩ := h
  obtain ⟨F, hN⟩ := nmc_fr fr h2 [] rfl
  simp only [run] at r
  split at r
  · rename_i ds hd
    simp only [Option.bind_eq_some_iff] at r
    obtain ⟨⟨u, up⟩, hu, r⟩ := r
    obtain ⟨⟨g1, g2⟩, r⟩ := if_some0 r
    simp only [Option.some.injEq, Prod.mk.injEq] at r
    obtain ⟨rfl, rfl⟩ := r
    refine ⟨_, rfl, ?_⟩
    cases neg with
    | true => exact ev_notInO F (look_of hN hd) (by simp) (ha.dd fr en h3 hu) g1 g2
    | false => exact ev_inO F (look_of hN hd) (by simp) (ha.dd fr en h3 hu) g1 g2
  · cases r
theorem snd_inO {neg : Bool} {i : Nat} (ha : Snd T a) : Snd T (.inO neg a i) where
  ev := fun {X sc sto N k B e ρ pi pj s} fr en h r => by
    unfold chk at h
    split at h <;> first | (cases h; done) | (rename_i heq; cases heq)
    obtain ⟨q, rfl, h1, _⟩ := ino_ok (B := B) ha fr en h r
    exact h1.toS
  lc := fun _ _ h _ => absurd h Bool.false_ne_true
  te := fun {X sc sto N k B e ρ pi pj b} fr en h r => by
    unfold chkT at h
    split at h <;> first | (cases h; done) | (rename_i heq; cases heq)
    obtain ⟨q, hq, _, h1⟩ := ino_ok (B := B) ha fr en h (bOf_some r)
    cases hq
    exact h1
  tw := fun {X sc sto N k B e ρ pi pj b} _ _ h _ => by cases e <;> exact absurd h Bool.false_ne_true
  ar := fun {X sc sto N k B es ρ pi pj b} _ _ h _ => by cases es <;> exact absurd h Bool.false_ne_true
  it := fun {X sc sto N k B tg e ρ pi pj b} _ _ h _ => by cases e <;> exact absurd h Bool.false_ne_true
theorem snd_dic : Snd T .dic := .of (fun {X sc sto N k B e ρ pi pj s} fr en h r => by
    unfold chk at h
    split at h <;> first | (cases h; done) | (rename_i heq; cases heq)
    cases r
    exact evs_dic) (fun _ _ _ _ _ _ _ => rfl) (fun _ _ _ e => by cases e <;> rfl) (fun _ _ _ e => by cases e <;> rfl) (fun _ _ _ es => by cases es <;> rfl) (fun _ _ _ _ e => by cases e <;> rfl)
theorem snd_lrng (ha : Snd T a) : Snd T (.lrng a) := .of (fun {X sc sto N k B e ρ pi pj s} fr en h r => by
    unfold chk at h
    split at h <;> first | (cases h; done) | (rename_i heq; cases heq)
    simp only [Bool.and_eq_true, decide_eq_true_eq] at h
    obtain ⟨⟨⟨⟨⟨rfl, h2⟩, rfl⟩, h4⟩, h5⟩, h6⟩ := h
    simp only [run, Option.bind_eq_some_iff] at r
    obtain ⟨⟨x, xp⟩, hx, r⟩ := r
    obtain ⟨hsm, r⟩ := if_some0 r
    simp only [Option.some.injEq, Prod.mk.injEq] at r
    obtain ⟨rfl, rfl⟩ := r
    unfold small at hsm
    simp only [Bool.and_eq_true, decide_eq_true_eq] at hsm
    exact (evo_lrng (fr.fr [] [] ["list", "range"] rfl rfl (by simp [h2, h4])) en.bl (by simp) (by simp) (ha.ii fr en h6 hx) hsm.1 hsm.2 h5).toS) (fun _ _ _ _ _ _ _ => rfl) (fun _ _ _ e => by cases e <;> rfl) (fun _ _ _ e => by cases e <;> rfl) (fun _ _ _ es => by cases es <;> rfl) (fun _ _ _ _ e => by cases e <;> rfl)
theorem snd_get (ha : Snd T a) (hb : Snd T b) (hc : Snd T c) : Snd T (.get a b c) := .of (fun {X sc sto N k B e ρ pi pj s} fr en h r => by
    unfold chk at h
    split at h <;> first | (cases h; done) | (rename_i heq; cases heq)
    simp only [Bool.and_eq_true, decide_eq_true_eq] at h
    obtain ⟨⟨⟨⟨⟨⟨rfl, h2⟩, h3⟩, h4⟩, h5⟩, h6⟩, h7⟩ := h
    simp only [run, Option.bind_eq_some_iff] at r
    obtain ⟨⟨x, xp⟩, hx, ⟨y, yp⟩, hy, ⟨z, zp⟩, hz, r⟩ := r
    split at r
    · rename_i kvs hd
      simp only at hd
      subst hd
      simp only [Option.some.injEq, Prod.mk.injEq] at r
      obtain ⟨rfl, rfl⟩ := r
      exact (ev_get (fr.fr [] [] [] rfl rfl rfl) (ha.dd fr en h5 hx) (hb.ii fr en h6 hy) (hc.dd fr en h7 hz) rfl h3 h4 h2).toS
    · cases r) (fun _ _ _ _ _ _ _ => rfl) (fun _ _ _ e => by cases e <;> rfl) (fun _ _ _ e => by cases e <;> rfl) (fun _ _ _ es => by cases es <;> rfl) (fun _ _ _ _ e => by cases e <;> rfl)
theorem snd_getO {i : Nat} (hb : Snd T b) (hc : Snd T c) : Snd T (.getO i b c) := .of (fun {X sc sto N k B e ρ pi pj s} fr en h r => by
    unfold chk at h
    split at h <;> first | (cases h; done) | (rename_i heq; cases heq)
    simp only [Bool.and_eq_true, decide_eq_true_eq] at h
    obtain ⟨⟨⟨⟨⟨⟨rfl, h2⟩, h3⟩, h4⟩, h5⟩, h6⟩, h7⟩ := h
    obtain ⟨F, hN⟩ := nmc_fr fr h5 [] rfl
    simp only [run] at r
    split at r
    · rename_i kvs hd
      simp only [Option.bind_eq_some_iff, Option.map_eq_some_iff, Prod.mk.injEq] at r
      obtain ⟨⟨y, yp⟩, hy, ⟨z, zp⟩, hz, rfl, rfl⟩ := r
      exact (ev_getO F (look_of hN hd) (by simp) (hb.ii fr en h6 hy) (hc.dd fr en h7 hz) h3 h4 h2).toS
    · cases r) (fun _ _ _ _ _ _ _ => rfl) (fun _ _ _ e => by cases e <;> rfl) (fun _ _ _ e => by cases e <;> rfl) (fun _ _ _ es => by cases es <;> rfl) (fun _ _ _ _ e => by cases e <;> rfl)
theorem snd_lenO {i : Nat} : Snd T (.lenO i) := .of (fun {X sc sto N k B e ρ pi pj s} fr en h r => by
    unfold chk at h
    split at h <;> first | (cases h; done) | (rename_i heq; cases heq)
    simp only [Bool.and_eq_true, decide_eq_true_eq] at h
    obtain ⟨⟨rfl, h2⟩, h3⟩ := h
    obtain ⟨F, hN⟩ := nmc_fr fr h3 ["len"] (by simp [h2])
    simp only [run] at r
    split at r
    · rename_i ds hd
      cases r
      exact (ev_lenO F en.bl (by simp) (look_of hN hd) (by simp)).toS
    · cases r) (fun _ _ _ _ _ _ _ => rfl) (fun _ _ _ e => by cases e <;> rfl) (fun _ _ _ e => by cases e <;> rfl) (fun _ _ _ es => by cases es <;> rfl) (fun _ _ _ _ e => by cases e <;> rfl)
theorem snd_cnt (ha : Snd T a) (hb : Snd T b) (hc : Snd T c) : Snd T (.cnt a b c) := .of (fun {X sc sto N k B e ρ pi pj s} fr en h r => by
    unfold chk at h
    split at h <;> first | (cases h; done) | (rename_i heq; cases heq)
    simp only [Bool.and_eq_true, decide_eq_true_eq] at h
    obtain ⟨⟨⟨⟨⟨rfl, h2⟩, h3⟩, h4⟩, h5⟩, h6⟩ := h
    simp only [run, Option.bind_eq_some_iff] at r
    obtain ⟨⟨x, xp⟩, hx, ⟨y, yp⟩, hy, ⟨z, zp⟩, hz, ns, hns, r⟩ := r
    obtain ⟨hw, r⟩ := if_some0 r
    simp only [Option.some.injEq, Prod.mk.injEq] at r
    obtain ⟨rfl, rfl⟩ := r
    have e := intsOf_eq hns
    simp only at e
    subst e
    exact (ev_cnt (ha.tt fr en h4 hx) (hb.ii fr en h5 hy) (hc.ii fr en h6 hz) hw h3 h2).toS) (fun _ _ _ _ _ _ _ => rfl) (fun _ _ _ e => by cases e <;> rfl) (fun _ _ _ e => by cases e <;> rfl) (fun _ _ _ es => by cases es <;> rfl) (fun _ _ _ _ e => by cases e <;> rfl)
theorem isTup_of {e : Expr} (h : isTup e = true) : ∃ es k p, e = .Tuple es k p := by
  cases e <;> first | (exact absurd h Bool.false_ne_true) | exact ⟨_, _, _, rfl⟩
theorem snd_enum (ha : Snd T a) : Snd T (.enum a) where
  ev := fun {X sc sto N k B e ρ pi pj s} fr en h r => by cases e <;> exact absurd h Bool.false_ne_true
  lc := fun _ _ h _ => absurd h Bool.false_ne_true
  te := fun {X sc sto N k B e ρ pi pj b} _ _ h _ => by cases e <;> exact absurd h Bool.false_ne_true
  tw := fun {X sc sto N k B e ρ pi pj b} _ _ h _ => by cases e <;> exact absurd h Bool.false_ne_true
  ar := fun {X sc sto N k B es ρ pi pj b} _ _ h _ => by cases es <;> exact absurd h Bool.false_ne_true
  it := fun {X sc sto N k B tg e ρ pi pj ds} fr en h r => by
    unfold chkI at h
    split at h <;> first | (cases h; done) | (rename_i heq; cases heq)
    simp only [Bool.and_eq_true, decide_eq_true_eq] at h
    obtain ⟨⟨⟨⟨h1, rfl⟩, h2⟩, h3⟩, h4⟩ := h
    obtain ⟨elts, kk, tpos, rfl⟩ := isTup_of h1
    obtain ⟨s, r, hs⟩ := lOf_some r
    simp only [run, Option.map_eq_some_iff, Prod.mk.injEq] at r
    obtain ⟨⟨x, xp⟩, hx, rfl, rfl⟩ := r
    cases hs
    exact evi_enum (fr.fr [] [] ["enumerate"] rfl rfl (by simp [h2])) en.bl (by simp) (ha.tt fr en h4 hx) h3
theorem snd_zip (ha : Snd T a) (hb : Snd T b) : Snd T (.zip a b) where
  ev := fun {X sc sto N k B e ρ pi pj s} fr en h r => by cases e <;> exact absurd h Bool.false_ne_true
  lc := fun _ _ h _ => absurd h Bool.false_ne_true
  te := fun {X sc sto N k B e ρ pi pj b} _ _ h _ => by cases e <;> exact absurd h Bool.false_ne_true
  tw := fun {X sc sto N k B e ρ pi pj b} _ _ h _ => by cases e <;> exact absurd h Bool.false_ne_true
  ar := fun {X sc sto N k B es ρ pi pj b} _ _ h _ => by cases es <;> exact absurd h Bool.false_ne_true
  it := fun {X sc sto N k B tg e ρ pi pj ds} fr en h r => by
    unfold chkI at h
    split at h <;> first | (cases h; done) | (rename_i heq; cases heq)
    simp only [Bool.and_eq_true, decide_eq_true_eq] at h
    obtain ⟨⟨⟨⟨⟨⟨h1, rfl⟩, h2⟩, h3⟩, h4⟩, h5⟩, h6⟩ := h
    obtain ⟨elts, kk, tpos, rfl⟩ := isTup_of h1
    obtain ⟨s, r, hs⟩ := lOf_some r
    simp only [run, Option.bind_eq_some_iff] at r
    obtain ⟨⟨x, xp⟩, hx, ⟨y, yp⟩, hy, r⟩ := r
    have F := fr.fr [] [] ["zip"] rfl rfl (by simp [h2])
    split at r <;> first | (cases r; done) | skip
    all_goals
      rename_i u v hu hv
      simp only at hu hv
      subst hu hv
      simp only [Option.some.injEq, Prod.mk.injEq] at r
      obtain ⟨rfl, rfl⟩ := r
      cases hs
    · exact evi_zip F en.bl (by simp) (ha.dd fr en h5 hx) (hb.dd fr en h6 hy) h3 h4 (.inl ⟨rfl, rfl⟩)
    · exact evi_zip F en.bl (by simp) (ha.dd fr en h5 hx) (hb.dd fr en h6 hy) h3 h4 (.inr (.inl ⟨rfl, rfl⟩))
    · exact evi_zip F en.bl (by simp) (ha.dd fr en h5 hx) (hb.dd fr en h6 hy) h3 h4 (.inr (.inr ⟨rfl, rfl⟩))
theorem snd_items {j : Nat} (ha : Snd T a) : Snd T (.items j a) where
  ev := fun {X sc sto N k B e ρ pi pj s} fr en h r => by cases e <;> exact absurd h Bool.false_ne_true
  lc := fun _ _ h _ => absurd h Bool.false_ne_true
  te := fun {X sc sto N k B e ρ pi pj b} _ _ h _ => by cases e <;> exact absurd h Bool.false_ne_true
  tw := fun {X sc sto N k B e ρ pi pj b} _ _ h _ => by cases e <;> exact absurd h Bool.false_ne_true
  ar := fun {X sc sto N k B es ρ pi pj b} _ _ h _ => by cases es <;> exact absurd h Bool.false_ne_true
  it := fun {X sc sto N k B tg e ρ pi pj ds} fr en h r => by
    unfold chkI at h
    split at h <;> first | (cases h; done) | (rename_i heq; cases heq)
    simp only [Bool.and_eq_true, decide_eq_true_eq] at h
    obtain ⟨⟨⟨⟨⟨h1, rfl⟩, h2⟩, h3⟩, h4⟩, h5⟩ := h
    obtain ⟨elts, kk, tpos, rfl⟩ := isTup_of h1
    obtain ⟨s, r, hs⟩ := lOf_some r
    simp only [run, Option.bind_eq_some_iff, Option.map_eq_some_iff, Prod.mk.injEq] at r
    obtain ⟨⟨u, up⟩, hu, z, hz, kvs, hk, rfl, rfl⟩ := r
    cases hs
    rw [hz] at h3
    simp only [decide_eq_true_eq] at h3
    subst h3
    obtain ⟨ps, hh⟩ := en.tn j z hz
    exact evi_items (evs_callN (fr.fr [] [] [z.1] rfl rfl (by simp [h4])) hh (by simp) (ha.ar fr en h5 hu) hk) h2
theorem snd_pl {i j : Nat} : Snd T (.pl i j) := .of (fun {X sc sto N k B e ρ pi pj s} fr en h r => by
    unfold chk at h
    split at h <;> first | (cases h; done) | (rename_i heq; cases heq)
    simp only [Bool.and_eq_true, decide_eq_true_eq] at h
    obtain ⟨h1, rfl⟩ := h
    obtain ⟨F, hN⟩ := nmc_fr fr h1 [] rfl
    simp only [run] at r
    split at r
    · rename_i q hs
      split at r
      · cases r
        exact (ev_pl F (look_of hN hs) (by simp) (.inl ⟨rfl, rfl⟩)).toS
      · cases r
        exact (ev_pl F (look_of hN hs) (by simp) (.inr ⟨rfl, rfl⟩)).toS
      · cases r
    · cases r) (fun _ _ _ _ _ _ _ => rfl) (fun _ _ _ e => by cases e <;> rfl) (fun _ _ _ e => by cases e <;> rfl) (fun _ _ _ es => by cases es <;> rfl) (fun _ _ _ _ e => by cases e <;> rfl)
theorem snd_plNe {i : Nat} : Snd T (.plNe i) where
  ev := fun {X sc sto N k B e ρ pi pj s} fr en h r => by cases e <;> exact absurd h Bool.false_ne_true
  lc := fun _ _ h _ => absurd h Bool.false_ne_true
  te := fun {X sc sto N k B e ρ pi pj b} fr en h r => by
    unfold chkT at h
    split at h <;> first | (cases h; done) | (rename_i heq; cases heq)
    simp only [Bool.and_eq_true, decide_eq_true_eq] at h
    obtain ⟨h1, rfl⟩ := h
    obtain ⟨F, hN⟩ := nmc_fr fr h1 [] rfl
    replace r := bOf_some r
    simp only [run] at r
    split at r
    · rename_i q hs
      cases r
      exact et_plNe F (look_of hN hs) (by simp)
    · cases r
  tw := fun {X sc sto N k B e ρ pi pj b} _ _ h _ => by cases e <;> exact absurd h Bool.false_ne_true
  ar := fun {X sc sto N k B es ρ pi pj b} _ _ h _ => by cases es <;> exact absurd h Bool.false_ne_true
  it := fun {X sc sto N k B tg e ρ pi pj b} _ _ h _ => by cases e <;> exact absurd h Bool.false_ne_true
end
end Fs
-- FsW
/-! A loop over an own list, nothing else of what is owned in sight. -/
namespace Fs
open PySem PySem.Spec PyProof.Rows L2
theorem lockS_at : ∀ {ρ : List Slot} {j i : Nat} {t : Slot}, (lockS j ρ)[i]? = some t → ∃ s, ρ[i]? = some s ∧ ((t = .lock (j + i) ∧ (Owned s ∨ ∃ n, s = .lock n)) ∨ (t = s ∧ ¬ Owned s ∧ ∀ n, s ≠ .lock n))
  | [], j, i, t, h => by simp [lockS] at h
  | s :: ρ, j, 0, t, h => by
    simp only [lockS, List.getElem?_cons_zero, Option.some.injEq] at h
    refine ⟨s, rfl, ?_⟩
    cases s with
    | own ds => exact .inl ⟨h.symm, .inl trivial⟩
    | odic ds => exact .inl ⟨h.symm, .inl trivial⟩
    | lock n => exact .inl ⟨h.symm, .inr ⟨n, rfl⟩⟩
    | non => exact .inr ⟨h.symm, id, fun n z => nomatch z⟩
    | val d => exact .inr ⟨h.symm, id, fun n z => nomatch z⟩
    | pool => exact .inr ⟨h.symm, id, fun n z => nomatch z⟩
  | s :: ρ, j, i + 1, t, h => by
    simp only [lockS, List.getElem?_cons_succ] at h
    obtain ⟨u, h1, h2⟩ := lockS_at h
    refine ⟨u, h1, ?_⟩
    have e : j + 1 + i = j + (i + 1) := by omega
    rw [e] at h2
    exact h2
theorem lockS_len : ∀ {ρ : List Slot} {j : Nat}, (lockS j ρ).length = ρ.length
  | [], _ => rfl
  | _ :: ρ, j => congrArg (· + 1) (lockS_len (ρ := ρ) (j := j + 1))
theorem unlock_at : ∀ {ρ τ υ : List Slot} {j i : Nat} {u : Slot}, unlockS j ρ τ = some υ → υ[i]? = some u → ∃ t, τ[i]? = some t ∧ ((t = .lock (j + i) ∧ ρ[i]? = some u ∧ (Owned u ∨ ∃ n, u = .lock n)) ∨ (u = t ∧ ∀ n, t ≠ .lock n))
  | [], [], υ, j, i, u, h, h' => by cases h; simp at h'
  | [], _ :: _, υ, j, i, u, h, h' => by simp [unlockS] at h
  | _ :: _, [], υ, j, i, u, h, h' => by simp [unlockS] at h
  | s :: ρ, t :: τ, υ, j, i, u, h, h' => by
    have key : ∃ w r, unlockS (j + 1) ρ τ = some r ∧ υ = w :: r ∧ ((t = .lock j ∧ w = s ∧ (Owned s ∨ ∃ n, s = .lock n)) ∨ (w = t ∧ ∀ n, t ≠ .lock n)) := by
      cases t with
      | lock n =>
        simp only [unlockS] at h
        split at h
        · rename_i e
          subst e
          cases s with
          | own ds =>
            simp only [Option.map_eq_some_iff] at h
            obtain ⟨r, h1, rfl⟩ := h
            exact ⟨_, r, h1, rfl, .inl ⟨rfl, rfl, .inl trivial⟩⟩
          | odic ds =>
            simp only [Option.map_eq_some_iff] at h
            obtain ⟨r, h1, rfl⟩ := h
            exact ⟨_, r, h1, rfl, .inl ⟨rfl, rfl, .inl trivial⟩⟩
          | lock m =>
            simp only [Option.map_eq_some_iff] at h
            obtain ⟨r, h1, rfl⟩ := h
            exact ⟨_, r, h1, rfl, .inl ⟨rfl, rfl, .inr ⟨m, rfl⟩⟩⟩
          | non => cases h
          | val d => cases h
          | pool => cases h
        · cases h
      | own ds =>
        simp only [unlockS, Option.map_eq_some_iff] at h
        obtain ⟨r, h1, rfl⟩ := h
        exact ⟨_, r, h1, rfl, .inr ⟨rfl, fun n z => nomatch z⟩⟩
      | odic ds =>
        simp only [unlockS, Option.map_eq_some_iff] at h
        obtain ⟨r, h1, rfl⟩ := h
        exact ⟨_, r, h1, rfl, .inr ⟨rfl, fun n z => nomatch z⟩⟩
      | non =>
        simp only [unlockS, Option.map_eq_some_iff] at h
        obtain ⟨r, h1, rfl⟩ := h
        exact ⟨_, r, h1, rfl, .inr ⟨rfl, fun n z => nomatch z⟩⟩
      | val d =>
        simp only [unlockS, Option.map_eq_some_iff] at h
        obtain ⟨r, h1, rfl⟩ := h
        exact ⟨_, r, h1, rfl, .inr ⟨rfl, fun n z => nomatch z⟩⟩
      | pool =>
        simp only [unlockS, Option.map_eq_some_iff] at h
        obtain ⟨r, h1, rfl⟩ := h
        exact ⟨_, r, h1, rfl, .inr ⟨rfl, fun n z => nomatch z⟩⟩
    obtain ⟨w, r, h1, rfl, hk⟩ := key
    cases i with
    | zero =>
      simp only [List.getElem?_cons_zero, Option.some.injEq] at h'
      subst h'
      refine ⟨t, rfl, ?_⟩
      rcases hk with ⟨q1, q2, q3⟩ | hk
      · subst q2
        exact .inl ⟨q1, rfl, q3⟩
      · exact .inr hk
    | succ i =>
      simp only [List.getElem?_cons_succ] at h'
      obtain ⟨v, q1, q2⟩ := unlock_at h1 h'
      refine ⟨v, q1, ?_⟩
      have e : j + 1 + i = j + (i + 1) := by omega
      rw [e] at q2
      exact q2
theorem unlock_len : ∀ {ρ τ υ : List Slot} {j : Nat}, unlockS j ρ τ = some υ → υ.length = τ.length
  | [], [], υ, j, h => by cases h; rfl
  | [], _ :: _, υ, j, h => by simp [unlockS] at h
  | _ :: _, [], υ, j, h => by simp [unlockS] at h
  | s :: ρ, t :: τ, υ, j, h => by
    have key : ∃ w r, unlockS (j + 1) ρ τ = some r ∧ υ = w :: r := by
      cases t <;> (try (simp only [unlockS, Option.map_eq_some_iff] at h; obtain ⟨r, h1, rfl⟩ := h; exact ⟨_, r, h1, rfl⟩))
      simp only [unlockS] at h
      split at h
      · cases s <;> first
          | (cases h; done)
          | (simp only [Option.map_eq_some_iff] at h; obtain ⟨r, h1, rfl⟩ := h; exact ⟨_, r, h1, rfl⟩)
      · cases h
    obtain ⟨w, r, h1, rfl⟩ := key
    exact congrArg (· + 1) (unlock_len h1)
section
variable {K : Frag} {B : Base} {F H F' H' : Hp} {σ σ' : L2.St} {ρ τ υ : List Slot} {pi pj : PSt}
def lockB (F H : Hp) (σ : L2.St) (pi : PSt) : Base := ⟨F, H, pi, fun j => ((σ[j]?).bind id).getD .non⟩
theorem Holds.lock (h : Holds K B F H σ ρ pi) : Holds K (lockB F H σ pi) F H σ (lockS 0 ρ) pi := by
  have no : ∀ {i : Nat} {t : Slot}, (lockS 0 ρ)[i]? = some t → ¬ Owned t := fun {i t} e o => by
    obtain ⟨s, _, h2⟩ := lockS_at e
    rcases h2 with ⟨rfl, _⟩ | ⟨rfl, h3, _⟩
    · exact o
    · exact h3 o
  refine ⟨Step.refl h.good, by rw [lockS_len]; exact h.len, fun i t e => ?_, fun i j a t u ne e1 e2 o1 => (no e1 o1).elim⟩
  obtain ⟨s, h1, h2⟩ := lockS_at e
  obtain ⟨o, eo, q⟩ := h.at_ i s h1
  refine ⟨o, eo, ?_⟩
  rcases h2 with ⟨rfl, h3⟩ | ⟨rfl, h3, h4⟩
  · have : ∃ v, o = some v := by
      rcases h3 with h3 | ⟨n, rfl⟩
      · obtain ⟨a, ea, _⟩ := h.owned h1 h3
        rw [eo] at ea
        cases ea
        exact ⟨_, rfl⟩
      · exact ⟨_, q⟩
    obtain ⟨v, rfl⟩ := this
    show some v = some (((σ[0 + i]?).bind id).getD .non)
    rw [Nat.zero_add, eo]
    rfl
  · cases t with
    | non => trivial
    | val d => exact q
    | pool => exact q
    | own ds => exact absurd trivial h3
    | odic ds => exact absurd trivial h3
    | lock n => exact absurd rfl (h4 n)
theorem Holds.unlock (h : Holds K B F H σ ρ pi) (h' : Holds K (lockB F H σ pi) F' H' σ' τ pj) (hu : unlockS 0 ρ τ = some υ) : Holds K B F' H' σ' υ pj := by
  have st : Step F H pi F' H' pj := h'.st
  -- what is put back lies where it lay
  have back : ∀ {i : Nat} {u : Slot}, τ[i]? = some (.lock (0 + i)) → ρ[i]? = some u → (Owned u ∨ ∃ n, u = .lock n) → ∃ v, σ[i]? = some (some v) ∧ σ'[i]? = some (some v) := fun {i u} e1 e2 ho => by
    obtain ⟨o, eo, q⟩ := h'.at_ i _ e1
    have q' : o = some (((σ[0 + i]?).bind id).getD .non) := q
    obtain ⟨o2, eo2, q2⟩ := h.at_ i _ e2
    have : ∃ v, o2 = some v := by
      rcases ho with h3 | ⟨n, rfl⟩
      · obtain ⟨a, ea, _⟩ := h.owned e2 h3
        rw [eo2] at ea
        cases ea
        exact ⟨_, rfl⟩
      · exact ⟨_, q2⟩
    obtain ⟨v, rfl⟩ := this
    rw [Nat.zero_add, eo2] at q'
    refine ⟨v, eo2, ?_⟩
    rw [eo, q']
    rfl
  refine ⟨h.st.trans st, by rw [unlock_len hu]; exact h'.len, fun i u e => ?_, fun i j a t u ne e1 e2 o1 o2 z1 z2 => ?_⟩
  · obtain ⟨t, e1, h2⟩ := unlock_at hu e
    rcases h2 with ⟨rfl, h3, h4⟩ | ⟨rfl, h3⟩
    · obtain ⟨v, q1, q2⟩ := back e1 h3 h4
      obtain ⟨o, eo, q⟩ := h.at_ i _ h3
      rw [q1] at eo
      cases eo
      exact ⟨_, q2, q.step st fun l z => h.notP z⟩
    · obtain ⟨o, eo, q⟩ := h'.at_ i _ e1
      refine ⟨o, eo, ?_⟩
      cases u with
      | non => trivial
      | val d => exact q
      | pool => exact q
      | own ds =>
        obtain ⟨l, xs, e, hb, r⟩ := q
        exact ⟨l, xs, e, fresh_of h.st hb, r⟩
      | odic ds =>
        obtain ⟨l, xs, e, hb, r⟩ := q
        exact ⟨l, xs, e, fresh_of h.st hb, r⟩
      | lock n => exact absurd rfl (h3 n)
  · obtain ⟨t1, f1, g1⟩ := unlock_at hu e1
    obtain ⟨t2, f2, g2⟩ := unlock_at hu e2
    have newA : ∀ {i : Nat} {t : Slot}, τ[i]? = some t → Owned t → σ'[i]? = some (some (.ref a)) → H a = none := fun {i t} e o z => by
      obtain ⟨b, eb, _, hb, _⟩ := h'.owned e o
      rw [z] at eb
      cases eb
      exact hb
    have oldA : ∀ {i : Nat} {u : Slot}, τ[i]? = some (.lock (0 + i)) → ρ[i]? = some u → Owned u → σ'[i]? = some (some (.ref a)) → H a ≠ none ∧ σ[i]? = some (some (.ref a)) := fun {i u} e1 e2 o z => by
      obtain ⟨v, q1, q2⟩ := back e1 e2 (.inl o)
      rw [z] at q2
      cases q2
      obtain ⟨b, eb, hb, _⟩ := h.owned e2 o
      rw [q1] at eb
      cases eb
      exact ⟨hb, q1⟩
    rcases g1 with ⟨rfl, g3, _⟩ | ⟨rfl, _⟩
    · obtain ⟨hb, w1⟩ := oldA f1 g3 o1 z1
      rcases g2 with ⟨rfl, g4, _⟩ | ⟨rfl, _⟩
      · obtain ⟨_, w2⟩ := oldA f2 g4 o2 z2
        exact h.sep i j a _ _ ne g3 g4 o1 o2 w1 w2
      · exact hb (newA f2 o2 z2)
    · rcases g2 with ⟨rfl, g4, _⟩ | ⟨rfl, _⟩
      · obtain ⟨hb, _⟩ := oldA f2 g4 o2 z2
        exact hb (newA f1 o1 z1)
      · exact h'.sep i j a _ _ ne f1 f2 o1 o2 z1 z2
end
section
variable {X : Cx} {sc : Scope} {B : Base} {N Vs L G : List Str} {k : Nat} {ρ ρ' : List Slot} {pi pj pk pl : PSt} {pos p1 : Pos} {tg : Expr} {rest body : List Stmt} {ds : List D} {x : Str} {i : Nat} {R : Rt}
theorem ex_forO (fr : Fr X sc N Vs L G k) (l : Look N ρ i x (.own ds)) (hx : x ∈ Vs) (Iv : Nat → List Slot → PSt → Prop) (h0 : Iv 0 (lockS 0 ρ) pi)
    (turn : ∀ (B' : Base) i d ρ1 p1, ds[i]? = some d → Iv i ρ1 p1 → ∃ ρ2 is, Asg X B' tg d ρ1 ρ2 is ∧ Ex X B' body ρ2 p1 { nx := fun r p => Iv (i + 1) r p, ct := fun r p => Iv (i + 1) r p, bk := fun _ _ => False, rt := fun _ _ => False })
    (done : ∀ ρ1 p1, Iv ds.length ρ1 p1 → ∃ ρ3, unlockS 0 ρ ρ1 = some ρ3 ∧ Ex X B rest ρ3 p1 R) : Ex X B (.For tg (.Name x p1) body [] pos :: rest) ρ pi R :=
  .cons (ps_for (by rw [fr.xe]; exact PassesOwn.never) fr.calm (pi_list (fr.pe l.n hx)) pg_W pss_W (fun _ => rfl)) fun σ F H F0 s0 hh => by
    obtain ⟨o, e1, a, xs, rfl, hB, hf, hH, r⟩ := hh.at_ i _ l.r
    refine ⟨_, e1, a, rfl, ⟨_, SqL.of hH⟩, ?_⟩
    have na : NotP pi a := hh.notP hB
    refine ⟨fun i m σ' H' => m = ds.length - i ∧ i ≤ ds.length ∧ ∃ F' ρ1 p1, Same F F' ∧ Holds X.K (lockB F H σ pi) F' H' σ' ρ1 p1 ∧ Iv i ρ1 p1, ⟨_, rfl, Nat.zero_le _, F, lockS 0 ρ, pi, Same.refl _, hh.lock, h0⟩, ?_⟩
    rintro i m σ' H' ⟨rfl, hi, F', ρ1, p1, sF, h1, iv⟩
    have st : Step F H pi F' H' p1 := h1.st
    have hH' : H' a = some (.lst xs) := st.fr _ _ hH na
    by_cases hlt : i < ds.length
    · refine .inr ⟨⟨xs, xs[i]'(by rw [r.len]; exact hlt), SqL.of hH', by simp⟩, fun σ2 H2 => ∃ F2 ρ2 p2, Same F F2 ∧ Holds X.K (lockB F H σ pi) F2 H2 σ2 ρ2 p2 ∧ Iv (i + 1) ρ2 p2, fun σ2 H2 ⟨F2, ρ2, p2, q1, q2, q4⟩ => ?_, fun v H2 y => ?_⟩
      · exact ⟨ds.length - (i + 1), by omega, rfl, hlt, F2, ρ2, p2, q1, q2, q4⟩
      · obtain ⟨rfl, y2⟩ := y
        obtain ⟨d, ed, rv⟩ := (r.up sF).getV (y2 xs (SqL.of hH'))
        obtain ⟨ρ2, is, ha, hx⟩ := turn (lockB F H σ pi) i d ρ1 p1 ed iv
        refine ha.run σ' F' H2 p1 v h1 rv _ fun σ2 _ _ h2 => ?_
        exact ends_mono (hx.run σ2 F' H2 F sF h2) (fun _ _ z => z) (fun _ _ ⟨_, _, _, _, _, z⟩ => z.elim) (fun _ _ ⟨_, _, _, _, _, z⟩ => z.elim) (fun _ _ z => z)
    · have e : i = ds.length := by omega
      subst e
      obtain ⟨ρ3, hu, hx⟩ := done ρ1 p1 iv
      exact .inl ⟨⟨xs, SqL.of hH', by rw [r.len]; exact Nat.le_refl _⟩, hx.run σ' F' H' F0 (s0.trans st.ext) (hh.unlock h1 hu)⟩
end
end Fs
-- FsR
/-! Soundness of the statement codes. -/
namespace Fs
open PySem PySem.Spec PyProof.Rows L2
section
variable {T : Tab}
theorem Snd.vac {c : C} (h : ∀ N sc sto e, chk T N c sc sto e = false) (hT : ∀ N sc sto e, chkT T N c sc sto e = false) (hW : ∀ N sc sto e, chkW T N c sc sto e = false) (hA : ∀ N sc sto es, chkA T N c sc sto es = false) (hI : ∀ N sc sto t e, chkI T N c sc sto t e = false) : Snd T c where
  ev := fun _ _ q _ => by rw [h] at q; cases q
  lc := fun _ _ q _ => by rw [h] at q; cases q
  te := fun _ _ h _ => by rw [hT] at h; cases h
  tw := fun _ _ h _ => by rw [hW] at h; cases h
  ar := fun _ _ h _ => by rw [hA] at h; cases h
  it := fun _ _ h _ => by rw [hI] at h; cases h
theorem snd : ∀ c : C, Snd T c := by
  intro c
  induction c with
  | k d => exact snd_k
  | v i => exact snd_v
  | g j => exact snd_g
  | bin o a b ha hb => exact snd_bin ha hb
  | cmp o a b ha hb => exact snd_cmp ha hb
  | ch le a b c ha hb hc => exact snd_ch ha hb hc
  | isN neg a ha => exact snd_isN ha
  | and a b ha hb => exact snd_and ha hb
  | or a b ha hb => exact snd_or ha hb
  | not a ha => exact snd_not ha
  | neg a ha => exact snd_neg ha
  | ite t a b ht ha hb => exact snd_ite ht ha hb
  | ix a b ha hb => exact snd_ix ha hb
  | ixO i b hb => exact snd_ixO hb
  | slTo a b ha hb => exact snd_slTo ha hb
  | slFrom a b ha hb => exact snd_slFrom ha hb
  | tup a ha => exact snd_tup ha
  | lst a ha => exact snd_lst ha
  | nil => exact snd_nil
  | cons a b ha hb => exact snd_cons ha hb
  | call j a ha => exact snd_call ha
  | callQ j i a ha => exact snd_callQ ha
  | fn f a ha => exact snd_fn ha
  | isi t a ha => exact snd_isi ha
  | lc elt tg it own he hi => exact snd_lc he hi
  | lcIf elt cond tg it own he hc hi => exact snd_lcIf he hi hc
  | seq a ha => exact snd_seq ha
  | rev a ha => exact snd_rev ha
  | inO neg a i ha => exact snd_inO ha
  | dic => exact snd_dic
  | lrng a ha => exact snd_lrng ha
  | get a b c ha hb hc => exact snd_get ha hb hc
  | getO i b c hb hc => exact snd_getO hb hc
  | lenO i => exact snd_lenO
  | cnt a n b ha hn hb => exact snd_cnt ha hn hb
  | items j a ha => exact snd_items ha
  | pl i j => exact snd_pl
  | plNe i => exact snd_plNe
  | enum a ha => exact snd_enum ha
  | zip a b ha hb => exact snd_zip ha hb
  | rng1 a ha => exact snd_rng1 ha
  | rng2 a b ha hb => exact snd_rng2 ha hb
  | _ => exact Snd.vac (fun _ _ _ e => by cases e <;> rfl) (fun _ _ _ e => by cases e <;> rfl) (fun _ _ _ e => by cases e <;> rfl) (fun _ _ _ es => by cases es <;> rfl) (fun _ _ _ _ e => by cases e <;> rfl)
end

section
variable {X : Cx} {sc : Scope} {B : Base} {N Vs L G : List Str} {k : Nat} {ρ ρ' ρ2 : List Slot} {pi pj pk pl : PSt} {pos pos' apos cpos p1 p2 p3 p4 : Pos} {e a b c tg : Expr} {es : List Expr} {st : Stmt} {rest body orelse : List Stmt} {d da db dc : D} {ds : List D} {x y z : Str} {i j : Nat} {R : Rt}
theorem par_of {env : Env} {kt k2 : Nat} (he : env.scope = sc) (h : parOk sc x y p1 p2 a b = true) : swappedStores [.Tuple [.Name x p1, .Name y p2] kt p3] (.Tuple [a, b] k2 p4) env = pure (some [x, y]) := by
  unfold parOk at h
  simp only [Bool.and_eq_true, decide_eq_true_eq, Bool.not_eq_true'] at h
  obtain ⟨⟨⟨⟨⟨⟨⟨⟨h1, h2⟩, h3⟩, h4⟩, h5⟩, h6⟩, h7⟩, h8⟩, h9⟩ := h
  have hb : env.blockKind = .function := by unfold Env.blockKind; rw [he, h1]; rfl
  have k1 : env.kindOf x = some .local := by show env.scope.names.lookup x = _; rw [he]; exact h2
  have k2 : env.kindOf y = some .local := by show env.scope.names.lookup y = _; rw [he]; exact h3
  have hd : ([x, y] : List Str).eraseDups = [x, y] := by
    simp [List.eraseDups_cons, Ne.symm h5]
  unfold swappedStores
  simp only [hb, k1, k2, h4, Expr.pos, List.filterMap, List.head?_cons, Option.map_some, Option.getD_some, beq_self_eq_true, Bool.and_true, if_true, List.any_cons, List.any_nil, Bool.or_false, h8, h9, hd, List.length_cons, List.length_nil, bne_self_eq_false, Bool.or_true, Bool.true_or, Bool.not_true]
  refine (if_neg Bool.false_ne_true).trans ((if_neg ?_).trans ((if_neg (by decide)).trans ((if_neg Bool.false_ne_true).trans (if_neg Bool.false_ne_true))))
  intro hh
  rw [Bool.or_eq_true] at hh
  rcases hh with hh | hh
  · cases a <;> first | (exact absurd hh Bool.false_ne_true) | (exact absurd h6 Bool.false_ne_true)
  · cases b <;> first | (exact absurd hh Bool.false_ne_true) | (exact absurd h7 Bool.false_ne_true)
theorem unp_of {env : Env} {ts : List Expr} {kt : Nat} (he : env.scope = sc) (h : unpOk sc ts e = true) : swappedStores [.Tuple ts kt p3] e env = pure none := by
  cases e <;> first | rfl | (exact absurd h Bool.false_ne_true) | skip
  rename_i vs kv pv
  unfold unpOk at h
  simp only [Bool.or_eq_true] at h
  unfold swappedStores
  simp only
  split
  · rfl
  · split
    · rfl
    · rcases h with h | h
      · split <;> first | rfl | exact if_pos h
      · refine if_pos ?_
        split at h
        · rename_i x p y p'
          simp only [Bool.or_eq_true, decide_eq_true_eq] at h
          have kx : ∀ z : Str, env.kindOf z = sc.names.lookup z := fun z => by show env.scope.names.lookup z = _; rw [he]
          rw [Bool.or_eq_true]
          left
          have e1 : (some NameKind.cell == some NameKind.local) = false := rfl
          rcases h with h | h
          · simp only [List.filterMap_cons, kx, h, List.filterMap_nil, e1, Bool.false_and, Bool.false_eq_true, if_false]
            split <;> simp
          · simp only [List.filterMap_cons, kx, h, List.filterMap_nil, e1, Bool.false_and, Bool.false_eq_true, if_false]
            split <;> simp
        · cases h
theorem par3_of {env : Env} {kt k2 : Nat} {p5 : Pos} (he : env.scope = sc) (h : parOk3 sc x y z p1 p2 p5 a b c = true) : swappedStores [.Tuple [.Name x p1, .Name y p2, .Name z p5] kt p3] (.Tuple [a, b, c] k2 p4) env = pure (some [x, y, z]) := by
  unfold parOk3 at h
  simp only [Bool.and_eq_true, decide_eq_true_eq, Bool.not_eq_true'] at h
  obtain ⟨⟨⟨⟨⟨⟨⟨⟨⟨⟨⟨⟨⟨h1, h2⟩, h3⟩, h3'⟩, h4⟩, h4'⟩, h5⟩, h5'⟩, h5''⟩, h6⟩, h7⟩, h7'⟩, h8⟩, h9⟩ := h
  have hb : env.blockKind = .function := by unfold Env.blockKind; rw [he, h1]; rfl
  have k1 : env.kindOf x = some .local := by show env.scope.names.lookup x = _; rw [he]; exact h2
  have k2 : env.kindOf y = some .local := by show env.scope.names.lookup y = _; rw [he]; exact h3
  have k3 : env.kindOf z = some .local := by show env.scope.names.lookup z = _; rw [he]; exact h3'
  have hd : ([x, y, z] : List Str).eraseDups = [x, y, z] := by
    simp [List.eraseDups_cons, Ne.symm h5, Ne.symm h5', Ne.symm h5'']
  have e4 : p2.line = p1.line := h4.symm
  have e5 : p5.line = p1.line := h4'.symm
  unfold swappedStores
  simp only [hb, k1, k2, k3, e4, e5, Expr.pos, List.filterMap, List.head?_cons, Option.map_some, Option.getD_some, beq_self_eq_true, Bool.and_true, if_true, List.any_cons, List.any_nil, Bool.or_false, h8, h9, hd, List.length_cons, List.length_nil, bne_self_eq_false, Bool.or_true, Bool.true_or, Bool.not_true]
  refine (if_neg Bool.false_ne_true).trans ((if_neg ?_).trans ((if_neg (by decide)).trans ((if_neg Bool.false_ne_true).trans (if_neg Bool.false_ne_true))))
  intro hh
  rw [Bool.or_eq_true, Bool.or_eq_true] at hh
  rcases hh with hh | hh | hh
  · cases a <;> first | (exact absurd hh Bool.false_ne_true) | (exact absurd h6 Bool.false_ne_true)
  · cases b <;> first | (exact absurd hh Bool.false_ne_true) | (exact absurd h7 Bool.false_ne_true)
  · cases c <;> first | (exact absurd hh Bool.false_ne_true) | (exact absurd h7' Bool.false_ne_true)
/-- what is owned is known at H1 -/
def Known (σ : L2.St) (ρ : List Slot) (H1 : Hp) : Prop := ∀ (j : Nat) (t : Slot) (a : Addr), ρ[j]? = some t → Owned t → σ[j]? = some (some (.ref a)) → H1 a ≠ none
theorem Holds.known {K : Frag} {F H : Hp} {σ : L2.St} (h : Holds K B F H σ ρ pi) : Known σ ρ H := fun j t a e o z => by
  obtain ⟨l, e1, e2, _⟩ := h.owned e o
  rw [z] at e1
  cases e1
  exact e2
theorem Holds.putK {K : Frag} {F H H1 : Hp} {σ : L2.St} {v : V} {s : Slot} (h : Holds K B F H σ ρ pi) (hk : Known σ ρ H1) (hi : i < ρ.length) (hn : SlotNew K H1 F H v s) (hb : ∀ l, H1 l = none → B.H l = none) :
    Holds K B F H (σ.set i (some v)) (ρ.set i s) pi := h.set hi (hn.slot hb) fun o a ea j t ej ot z => by
  obtain ⟨l, e, n, _⟩ := hn.adr o
  rw [e] at ea
  cases ea
  exact hk j t _ ej ot z n
theorem Known.put {K : Frag} {F H H1 H2 : Hp} {σ : L2.St} {v : V} {s : Slot} (hl : σ.length = ρ.length) (hk : Known σ ρ H1) (hi : i < ρ.length) (h12 : ∀ a, H1 a ≠ none → H2 a ≠ none) (hn : ∀ (o : Owned s) l, v = .ref l → H2 l ≠ none) : Known (σ.set i (some v)) (ρ.set i s) H2 := fun j t a e o z => by
  rcases getSet e with ⟨rfl, rfl⟩ | ⟨ne, e⟩
  · rw [List.getElem?_set_self (by rw [hl]; exact hi)] at z
    exact hn o a (Option.some.inj (Option.some.inj z))
  · rw [List.getElem?_set_ne (Ne.symm ne)] at z
    exact h12 a (hk j t a e o z)
theorem ex_par3 {l : Nat} {s1 s2 s3 : Slot} {p5 : Pos} (fr : Fr X sc N Vs L G k) {kt k2 : Nat} (ha : EvS X B a ρ pi s1 pj) (hb : EvS X B b ρ pj s2 pk) (hc : EvS X B c ρ pk s3 pl) (hi : N[i]? = some x) (hj : N[j]? = some y) (hl : N[l]? = some z) (li : i < ρ.length) (lj : j < ρ.length) (ll : l < ρ.length) (hij : i ≠ j) (hil : i ≠ l) (hjl : j ≠ l)
    (hx : sc.names.lookup x = some .local) (hy : sc.names.lookup y = some .local) (hz : sc.names.lookup z = some .local)
    (hsa : ∀ r env, starEach (a :: r) env = (false, eval a env) :: starEach r env) (hsb : ∀ r env, starEach (b :: r) env = (false, eval b env) :: starEach r env) (hsc : ∀ r env, starEach (c :: r) env = (false, eval c env) :: starEach r env)
    (hw : swappedStores [.Tuple [.Name x p1, .Name y p2, .Name z p5] kt p3] (.Tuple [a, b, c] k2 p4) X.env = pure (some [x, y, z])) (hr : Ex X B rest (((ρ.set i s1).set j s2).set l s3) pl R) :
    Ex X B (.Assign [.Tuple [.Name x p1, .Name y p2, .Name z p5] kt p3] (.Tuple [a, b, c] k2 p4) pos :: rest) ρ pi R :=
  .cons (ps_par3 (i := i) (j := j) (l := l) fr.calm (by rw [fr.hN]; exact fr.nd) (by rw [fr.hN]; exact hi) (by rw [fr.hN]; exact hj) (by rw [fr.hN]; exact hl) hij hil hjl (by rw [fr.hsc]; exact hx) (by rw [fr.hsc]; exact hy) (by rw [fr.hsc]; exact hz) (pa_cons pe_W (pa_cons pe_W (pa_cons pe_W pa_nil (hsc _ _)) (hsb _ _)) (hsa _ _)) hw) fun σ F H F0 s0 hh =>
    ha.run σ F H hh _ fun u F1 H1 st1 n1 => hb.run σ F1 H1 (hh.step st1) _ fun v F2 H2 st2 n2 => hc.run σ F2 H2 ((hh.step st1).step st2) _ fun w F3 H3 st3 n3 => by
      refine ⟨u, v, w, rfl, ?_⟩
      have np0 : ∀ l, H l = none → NotP pj l := fun l hl => (st1.g0.notP hl).adr st1.adr
      have np0' : ∀ l, H l = none → NotP pk l := fun l hl => (np0 l hl).adr st2.adr
      have np1 : ∀ l, H1 l = none → NotP pk l := fun l hl => (st2.g0.notP hl).adr st2.adr
      have n1' := (n1.step np0 st2).step np0' st3
      have n2' := n2.step np1 st3
      have h0 := ((hh.step st1).step st2).step st3
      have k0 : Known σ ρ H := hh.known
      have h1 := h0.putK k0 li n1' fun l q => fresh_of hh.st q
      have k1 : Known (σ.set i (some u)) (ρ.set i s1) H1 := k0.put (K := X.K) (F := F) (H := H) hh.len li (fun a q => st1.g0.there st1 q) fun o l e => by
        obtain ⟨l', e', _, q⟩ := n1.adr o
        rw [e] at e'
        cases e'
        exact q
      have h2 := h1.putK k1 (by rw [List.length_set]; exact lj) n2' fun l q => fresh_of hh.st (fresh_of st1 q)
      have k2 : Known ((σ.set i (some u)).set j (some v)) ((ρ.set i s1).set j s2) H2 := k1.put (K := X.K) (F := F) (H := H) h1.len (by rw [List.length_set]; exact lj) (fun a q => st2.g0.there st2 q) fun o l e => by
        obtain ⟨l', e', _, q⟩ := n2.adr o
        rw [e] at e'
        cases e'
        exact q
      have h3 := h2.putK k2 (by rw [List.length_set, List.length_set]; exact ll) n3 fun l q => fresh_of hh.st (fresh_of st1 (fresh_of st2 q))
      exact hr.run _ F3 H3 F0 (((s0.trans st1.ext).trans st2.ext).trans st3.ext) h3
/-- while -/
theorem ex_while (fr : Fr X sc N Vs L G k) (Iv : Nat → List Slot → PSt → Prop) (m0 : Nat) (h0 : Iv m0 ρ pi)
    (turn : ∀ m ρ1 p1, Iv m ρ1 p1 → ∃ b p2, EvT X B c ρ1 p1 b p2 ∧ (b = false → Ex X B rest ρ1 p2 R) ∧ (b = true → Ex X B body ρ1 p2 { nx := fun r p => ∃ m', m' < m ∧ Iv m' r p, ct := fun r p => ∃ m', m' < m ∧ Iv m' r p, bk := fun r p => Ex X B rest r p R, rt := R.rt })) : Ex X B (.While c body [] pos :: rest) ρ pi R :=
  .cons (ps_while (by rw [fr.xe]; exact PassesOwn.never) pt_W pss_W) fun σ F H F0 s0 hh => ⟨fun m σ' H' => ∃ F' ρ1 p1, Same F0 F' ∧ Holds X.K B F' H' σ' ρ1 p1 ∧ Iv m ρ1 p1, ⟨m0, F, ρ, pi, s0, hh, h0⟩, fun m σ' H' ⟨F', ρ1, p1, sF, h1, iv⟩ => by
    obtain ⟨b, p2, ht, hf, htr⟩ := turn m ρ1 p1 iv
    refine ht.run σ' F' H' h1 _ fun F2 H2 st => ?_
    cases b with
    | false =>
      show if false = true then _ else _
      rw [if_neg Bool.false_ne_true]
      exact (hf rfl).run σ' F2 H2 F0 (sF.trans st.ext) (h1.step st)
    | true =>
      show if true = true then _ else _
      rw [if_pos rfl]
      refine ⟨fun σ2 H3 => ∃ F3 r p, Same F0 F3 ∧ Holds X.K B F3 H3 σ2 r p ∧ ∃ m', m' < m ∧ Iv m' r p, fun σ2 H3 ⟨F3, r, p, q1, q2, m', q3, q4⟩ => ⟨m', q3, F3, r, p, q1, q2, q4⟩, ?_⟩
      exact ends_mono ((htr rfl).run σ' F2 H2 F0 (sF.trans st.ext) (h1.step st)) (fun _ _ z => z) (fun _ _ z => z) (fun σ3 H3 ⟨F3, r3, p3, q, hq, z⟩ => z.run σ3 F3 H3 F0 q hq) (fun _ _ z => z)⟩
theorem wk_set : ∀ {ρ : List Slot} {i : Nat} {s t : Slot}, ρ[i]? = some s → Wk1 s t → Wk ρ (ρ.set i t)
  | [], i, _, _, h, _ => by cases i <;> cases h
  | a :: ρ, 0, _, _, h, w => by cases h; exact .cons w (Wk.refl _)
  | a :: ρ, i + 1, _, _, h, w => .cons (.refl _) (wk_set (i := i) h w)
theorem wk_freeze (ρ : List Slot) (i : Nat) : Wk ρ (freeze1 ρ i) := by
  unfold freeze1
  split
  · exact wk_set (by assumption) (.frz _)
  · exact wk_set (by assumption) (.frzD _)
  · exact Wk.refl _
end
def RtO (o : Out) : Rt := { nx := fun r p => o = .nx r p, rt := fun d p => o = .rt d p, bk := fun r p => o = .bk r p, ct := fun r p => o = .ct r p }
def SndS (T : Tab) (s : S) : Prop := ∀ {X : Cx} {sc : Scope} {sto : Str → Bool} {N : List Str} {k : Nat} {B : Base} {sts : List Stmt} {ρ : List Slot} {pi : PSt} {o : Out}, FrA X sc sto N k → En T X k → chkS T N sc sto s sts = true → runS T s ρ pi = some o → Ex X B sts ρ pi (RtO o)

section
variable {T : Tab}
theorem Out.then_nx {o : Out} {f : List Slot → PSt → Option Out} {o' : Out} (h : o.then f = some o') : (∃ ρ p, o = .nx ρ p ∧ f ρ p = some o') ∨ ((∀ ρ p, o ≠ .nx ρ p) ∧ o = o') := by
  cases o with
  | nx ρ p => exact .inl ⟨ρ, p, rfl, h⟩
  | rt d p => exact .inr ⟨(fun _ _ z => nomatch z), Option.some.inj h⟩
  | bk ρ p => exact .inr ⟨(fun _ _ z => nomatch z), Option.some.inj h⟩
  | ct ρ p => exact .inr ⟨(fun _ _ z => nomatch z), Option.some.inj h⟩
theorem len_set {ρ : List Slot} {i j : Nat} {s : Slot} (h : j < ρ.length) : j < (ρ.set i s).length := by rw [List.length_set]; exact h
theorem if_some {α : Type} {c : Prop} [Decidable c] {x : Option α} {y : α} (h : (if c then x else none) = some y) : c ∧ x = some y := by
  by_cases hc : c
  · rw [if_pos hc] at h; exact ⟨hc, h⟩
  · rw [if_neg hc] at h; cases h
theorem snds_nil : SndS T .nil := fun {X sc sto N k B sts ρ pi o} fr en h r => by
  cases sts <;> first | (exact absurd h Bool.false_ne_true) | skip
  cases r
  exact ex_nil rfl
theorem snds_asg {i : Nat} {c : C} {s : S} (hs : SndS T s) : SndS T (.asg i c s) := fun {X sc sto N k B sts ρ pi o} fr en h r => by
  cases sts <;> first | (exact absurd h Bool.false_ne_true) | skip
  rename_i st rest
  cases st <;> first | (exact absurd h Bool.false_ne_true) | skip
  rename_i tgs e pos
  rcases tgs with _ | ⟨tg, _ | ⟨t2, tgs⟩⟩ <;> first | (exact absurd h Bool.false_ne_true) | skip
  · cases tg <;> first | (exact absurd h Bool.false_ne_true) | skip
    rename_i x px
    simp only [chkS, Bool.and_eq_true, decide_eq_true_eq] at h
    obtain ⟨⟨⟨⟨h1, h2⟩, h3⟩, h4⟩, h5⟩ := h
    simp only [runS, Option.bind_eq_some_iff] at r
    obtain ⟨⟨z, p1⟩, hz, r⟩ := r
    obtain ⟨hi, r⟩ := if_some r
    have F := fr.fr [] [x] [] rfl (by simp [h2]) rfl
    have rest := hs (X := X) (B := B) fr en h5 r
    by_cases hl : notComp e = true
    · exact ex_asgS F ((snd c).ev fr en h4 hz) (sto_of h1 hi) (by simp) rest fun env => comp_of hl _ _ env
    · cases e <;> first | (exact absurd rfl hl) | skip
      · rename_i el gs scope p
        rcases gs with _ | ⟨⟨te, ie, ifs, asy⟩, _ | ⟨g2, gs⟩⟩ <;> first | (exact absurd h3 Bool.false_ne_true) | skip
        obtain ⟨ds, rfl, lv⟩ := (snd c).lc (B := B) fr en h4 hz
        have hasy : asy = 0 := by
          obtain ⟨_, _, _, _, _, _, _, _, _, _, _, he, _⟩ := lv
          simp at he
          exact he.2.1.2.2.2
        subst hasy
        unfold lcOkS at h3
        simp only [Bool.or_eq_true, Bool.and_eq_true, decide_eq_true_eq, Bool.not_eq_true'] at h3
        rcases h3 with h3 | ⟨⟨⟨h31, h32⟩, h33⟩, h34⟩
        · exact ex_lcC F lv (sto_of h1 hi) (by simp) h3 rest
        · exact ex_lc F lv (sto_of h1 hi) h31 rest h34 h32 h33
      · exact absurd h3 Bool.false_ne_true
      · exact absurd h3 Bool.false_ne_true
  · cases tg <;> first | (exact absurd h Bool.false_ne_true) | skip
theorem snds_par2 {i j : Nat} {c d : C} {s : S} (hs : SndS T s) : SndS T (.par2 i c j d s) := fun {X sc sto N k B sts ρ pi o} fr en h r => by
  cases sts <;> first | (exact absurd h Bool.false_ne_true) | skip
  rename_i st rest
  cases st <;> first | (exact absurd h Bool.false_ne_true) | skip
  rename_i tgs e pos
  rcases tgs with _ | ⟨tg, _ | ⟨t2, tgs⟩⟩ <;> first | (exact absurd h Bool.false_ne_true) | skip
  · cases tg <;> first | (exact absurd h Bool.false_ne_true) | skip
    rename_i ts kt pt
    rcases ts with _ | ⟨t1, _ | ⟨t2, _ | ⟨t3, ts⟩⟩⟩ <;> first | (exact absurd h Bool.false_ne_true) | skip
    · cases t1 <;> first | (exact absurd h Bool.false_ne_true) | skip
    · cases t1 <;> first | (exact absurd h Bool.false_ne_true) | skip
      cases t2 <;> first | (exact absurd h Bool.false_ne_true) | skip
      cases e <;> first | (exact absurd h Bool.false_ne_true) | skip
      rename_i x px y py vs kv pv
      rcases vs with _ | ⟨a, _ | ⟨b, _ | ⟨v3, vs⟩⟩⟩ <;> first | (exact absurd h Bool.false_ne_true) | skip
      simp only [chkS, Bool.and_eq_true, decide_eq_true_eq] at h
      obtain ⟨⟨⟨⟨⟨h1, h2⟩, h3⟩, h4⟩, h5⟩, h6⟩ := h
      simp only [runS, Option.bind_eq_some_iff] at r
      obtain ⟨⟨z, p1⟩, hz, ⟨w, q1⟩, hw, r⟩ := r
      obtain ⟨⟨hi, hj, hij⟩, r⟩ := if_some r
      have h3' := h3
      unfold parOk at h3
      simp only [Bool.and_eq_true, decide_eq_true_eq, Bool.not_eq_true'] at h3
      obtain ⟨⟨⟨⟨⟨⟨⟨⟨g1, g2⟩, g3⟩, g4⟩, g5⟩, g6⟩, g7⟩, g8⟩, g9⟩ := h3
      exact ex_par2 (fr.fr [] [] [] rfl rfl rfl) ((snd c).ev fr en h4 hz) ((snd d).ev fr en h5 hw) (sto_of h1 hi) (sto_of h2 (len_set hj)) hij g2 g3 (fun r env => star_of g6 r env) (fun r env => star_of g7 r env) (par_of fr.hsc h3') (hs fr en h6 r)
    · cases t1 <;> first | (exact absurd h Bool.false_ne_true) | skip
      cases t2 <;> first | (exact absurd h Bool.false_ne_true) | skip
  · cases tg <;> first | (exact absurd h Bool.false_ne_true) | skip
    rename_i ts kt pt
    rcases ts with _ | ⟨t1, _ | ⟨t2, _ | ⟨t3, ts⟩⟩⟩ <;> first | (exact absurd h Bool.false_ne_true) | skip
    · cases t1 <;> first | (exact absurd h Bool.false_ne_true) | skip
    · cases t1 <;> first | (exact absurd h Bool.false_ne_true) | skip
      cases t2 <;> first | (exact absurd h Bool.false_ne_true) | skip
    · cases t1 <;> first | (exact absurd h Bool.false_ne_true) | skip
      cases t2 <;> first | (exact absurd h Bool.false_ne_true) | skip
theorem snds_par3 {i j l : Nat} {c d f : C} {s : S} (hs : SndS T s) : SndS T (.par3 i c j d l f s) := fun {X sc sto N k B sts ρ pi o} fr en h r => by
  unfold chkS at h
  split at h <;> first | (cases h; done) | (rename_i heq; cases heq)
  rename_i x px y py z pz k1 pt a b e k2 pv pos rest
  simp only [Bool.and_eq_true, decide_eq_true_eq] at h
  obtain ⟨⟨⟨⟨⟨⟨⟨h1, h2⟩, h3⟩, h4⟩, h5⟩, h6⟩, h7⟩, h8⟩ := h
  simp only [runS, Option.bind_eq_some_iff] at r
  obtain ⟨⟨z1, q1⟩, hz1, ⟨z2, q2⟩, hz2, ⟨z3, q3⟩, hz3, r⟩ := r
  obtain ⟨⟨li, lj, ll, hij, hil, hjl⟩, r⟩ := if_some r
  have h4' := h4
  unfold parOk3 at h4
  simp only [Bool.and_eq_true, decide_eq_true_eq, Bool.not_eq_true'] at h4
  obtain ⟨⟨⟨⟨⟨⟨⟨⟨⟨⟨⟨⟨⟨g1, g2⟩, g3⟩, g3'⟩, g4⟩, g4'⟩, g5⟩, g5'⟩, g5''⟩, g6⟩, g7⟩, g7'⟩, g8⟩, g9⟩ := h4
  exact ex_par3 (fr.fr [] [] [] rfl rfl rfl) ((snd c).ev fr en h5 hz1) ((snd d).ev fr en h6 hz2) ((snd f).ev fr en h7 hz3) h1 h2 h3 li lj ll hij hil hjl g2 g3 g3' (fun r env => star_of g6 r env) (fun r env => star_of g7 r env) (fun r env => star_of g7' r env) (par3_of fr.hsc h4') (hs fr en h8 r)
theorem sole_of {ts : List Expr} {kt : Nat} {p : Pos} {e : Expr} {l : Nat} {env : Env} : swapsWithSole [.Tuple ts kt p] e l env = pure false := by
  cases e <;> rfl
theorem snds_unp {t : Tg} {c : C} {s : S} (hs : SndS T s) : SndS T (.unp t c s) := fun {X sc sto N k B sts ρ pi o} fr en h r => by
  cases sts <;> first | (exact absurd h Bool.false_ne_true) | skip
  rename_i st rest
  cases st <;> first | (exact absurd h Bool.false_ne_true) | skip
  rename_i tgs e pos
  rcases tgs with _ | ⟨tg, _ | ⟨t2, tgs⟩⟩ <;> first | (exact absurd h Bool.false_ne_true) | skip
  · cases tg <;> first | (exact absurd h Bool.false_ne_true) | skip
    rename_i ts kt pt
    simp only [chkS, Bool.and_eq_true] at h
    obtain ⟨⟨⟨h1, h2⟩, h3⟩, h4⟩ := h
    simp only [runS, Option.bind_eq_some_iff] at r
    obtain ⟨⟨z, p1⟩, hz, ρ2, h5, r⟩ := r
    exact ex_unpack ((snd c).dd fr en h3 hz) ((asg_snd fr t).1 h2 h5) (hs fr en h4 r) (fun env => sole_of) (unp_of fr.hsc h1)
  · cases tg <;> first | (exact absurd h Bool.false_ne_true) | skip
theorem snds_frz {i : Nat} {s : S} (hs : SndS T s) : SndS T (.frz i s) := fun {X sc sto N k B sts ρ pi o} fr en h r => by
  simp only [chkS] at h
  simp only [runS] at r
  exact ex_wk (wk_freeze ρ i) (hs fr en h r)
theorem nm_fr {X : Cx} {sc : Scope} {sto : Str → Bool} {N : List Str} {k i : Nat} {x : Str} (fr : FrA X sc sto N k) (h : nmC sc N i x = true) : Fr X sc N [x] [] [] k ∧ N[i]? = some x := by
  unfold nmC at h
  simp only [Bool.and_eq_true, decide_eq_true_eq] at h
  exact ⟨fr.fr [x] [] [] (by simp [h.2]) rfl rfl, h.1⟩
theorem lt_of_at {ρ : List Slot} {i : Nat} {s : Slot} (h : ρ[i]? = some s) : i < ρ.length := (List.getElem?_eq_some_iff.mp h).1
theorem snds_app {i : Nat} {c : C} {s : S} (hs : SndS T s) : SndS T (.app i c s) := fun {X sc sto N k B sts ρ pi o} fr en h r => by
  unfold chkS at h
  split at h <;> first | (cases h; done) | (rename_i heq; cases heq)
  rename_i x p1 a apos e cpos pos rest
  simp only [Bool.and_eq_true, decide_eq_true_eq] at h
  obtain ⟨⟨⟨⟨⟨rfl, h2⟩, h3⟩, h4⟩, h5⟩, h6⟩ := h
  obtain ⟨F, hN⟩ := nm_fr fr h4
  simp only [runS] at r
  split at r
  · rename_i ds hd
    simp only [Option.bind_eq_some_iff] at r
    obtain ⟨⟨z, p2⟩, hz, r⟩ := r
    obtain ⟨hl, r⟩ := if_some r
    exact ex_append F (look_of hN hd) (by simp) ((snd c).dd fr en h5 hz) (sto_of hN (lt_of_at hd)) hl (hs fr en h6 r) (fun r env => star_of h3 r env) h2
  · cases r
theorem snds_ext {i : Nat} {c : C} {s : S} (hs : SndS T s) : SndS T (.ext i c s) := fun {X sc sto N k B sts ρ pi o} fr en h r => by
  unfold chkS at h
  split at h <;> first | (cases h; done) | (rename_i heq; cases heq)
  rename_i x p1 a apos e cpos pos rest
  simp only [Bool.and_eq_true, decide_eq_true_eq] at h
  obtain ⟨⟨⟨⟨⟨rfl, h2⟩, h3⟩, h4⟩, h5⟩, h6⟩ := h
  obtain ⟨F, hN⟩ := nm_fr fr h4
  simp only [runS] at r
  split at r
  · rename_i ds hd
    simp only [Option.bind_eq_some_iff] at r
    obtain ⟨⟨z, p2⟩, hz, r⟩ := r
    obtain ⟨hl, r⟩ := if_some r
    exact ex_extend F (look_of hN hd) (by simp) ((snd c).ll fr en h5 hz) (sto_of hN (lt_of_at hd)) hl (hs fr en h6 r) (fun r env => star_of h3 r env) h2
  · cases r
theorem snds_setL {i : Nat} {b c : C} {s : S} (hs : SndS T s) : SndS T (.setL i b c s) := fun {X sc sto N k B sts ρ pi o} fr en h r => by
  unfold chkS at h
  split at h <;> first | (cases h; done) | (rename_i heq; cases heq)
  rename_i x p1 y p2 e pos rest
  simp only [Bool.and_eq_true] at h
  obtain ⟨⟨⟨⟨⟨h1, h2⟩, h3⟩, h4⟩, h5⟩, h6⟩ := h
  obtain ⟨F, hN⟩ := nm_fr fr h3
  simp only [runS] at r
  split at r
  · rename_i ds hd
    simp only [Option.bind_eq_some_iff] at r
    obtain ⟨⟨z, q2⟩, hz, ⟨n, q3⟩, hn, j, hj, r⟩ := r
    exact ex_setL F (look_of hN hd) (by simp) ((snd c).dd fr en h4 hz) ((snd b).ii fr en h5 hn) hj (sto_of hN (lt_of_at hd)) (hs fr en h6 r) (fun env => by cases e <;> first | rfl | cases h2) (fun env => by cases e <;> rfl) (fun env => rfl) (fun env v => by cases y <;> first | rfl | cases h1)
  · cases r
theorem snds_setD {i : Nat} {b c : C} {s : S} (hs : SndS T s) : SndS T (.setD i b c s) := fun {X sc sto N k B sts ρ pi o} fr en h r => by
  unfold chkS at h
  split at h <;> first | (cases h; done) | (rename_i heq; cases heq)
  rename_i x p1 y p2 e pos rest
  simp only [Bool.and_eq_true] at h
  obtain ⟨⟨⟨⟨⟨h1, h2⟩, h3⟩, h4⟩, h5⟩, h6⟩ := h
  obtain ⟨F, hN⟩ := nm_fr fr h3
  simp only [runS] at r
  split at r
  · rename_i kvs hd
    simp only [Option.bind_eq_some_iff] at r
    obtain ⟨⟨z, q2⟩, hz, ⟨n, q3⟩, hn, r⟩ := r
    obtain ⟨⟨hl, hk⟩, r⟩ := if_some r
    exact ex_setD F (look_of hN hd) (by simp) ((snd c).dd fr en h4 hz) ((snd b).ii fr en h5 hn) hk (by omega) (sto_of hN (lt_of_at hd)) (hs fr en h6 r) (fun env => by cases e <;> first | rfl | cases h2) (fun env => by cases e <;> rfl) (fun env => rfl) (fun env v => by cases y <;> first | rfl | cases h1)
  · cases r
theorem snds_drw {i j : Nat} {c : C} {s : S} (hs : SndS T s) : SndS T (.drw i j c s) := fun {X sc sto N k B sts ρ pi o} fr en h r => by
  unfold chkS at h
  split at h <;> first | (cases h; done) | (rename_i heq; cases heq)
  rename_i x p1 m1 apos y p2 m2 apos2 e cpos2 cpos pos rest
  simp only [Bool.and_eq_true, decide_eq_true_eq] at h
  obtain ⟨⟨⟨⟨⟨⟨⟨⟨rfl, rfl⟩, h3⟩, h4⟩, h5⟩, h6⟩, h7⟩, h8⟩, h9⟩ := h
  obtain ⟨F, hN⟩ := nm_fr fr h6
  obtain ⟨F2, hN2⟩ := nm_fr fr h7
  unfold nmC at h6 h7
  simp only [Bool.and_eq_true] at h6 h7
  simp only [runS] at r
  split at r
  · rename_i ds es hd he
    simp only [Option.bind_eq_some_iff] at r
    obtain ⟨⟨n, q2⟩, hn, r⟩ := r
    obtain ⟨⟨g1, g2, g3, g4⟩, r⟩ := if_some r
    simp only [Option.bind_eq_some_iff] at r
    obtain ⟨d, hd', r⟩ := r
    exact ex_drw (fr.fr [x, y] [] [] (by simp [h6.2, h7.2]) rfl rfl) (look_of hN hd) (look_of hN2 he) (by simp) (by simp) g4 ((snd c).ii fr en h8 hn) h5 g1 g2 hd' g3 h3 h4 (hs fr en h9 r)
  · cases r
theorem sole_sub {t e : Expr} {l : Nat} {env : Env} (h : notComp e = true) : swapsWithSole [t] e l env = pure false := by cases e <;> first | rfl | cases h
theorem sub_none {a b e : Expr} {p : Pos} {env : Env} : swappedStores [.Subscript a b p] e env = pure none := by cases e <;> rfl
theorem snds_plPop {i x : Nat} {s : S} (hs : SndS T s) : SndS T (.plPop i x s) := fun {X sc sto N k B sts ρ pi o} fr en h r => by
  unfold chkS at h
  split at h <;> first | (cases h; done) | (rename_i heq; cases heq)
  simp only [Bool.and_eq_true, decide_eq_true_eq] at h
  obtain ⟨⟨⟨⟨⟨⟨⟨⟨⟨rfl, rfl⟩, rfl⟩, rfl⟩, h1⟩, h2⟩, h3⟩, h4⟩, h5⟩, h6⟩ := h
  rename_i y _ _ z _ _ _ _ _ _ _ _ _ _ _
  have hN := (nm_fr fr h3).2
  unfold nmC at h3
  simp only [Bool.and_eq_true] at h3
  simp only [runS] at r
  split at r
  · rename_i q hd
    split at r
    · rename_i n t hq
      obtain ⟨hl, r⟩ := if_some r
      exact ex_plPop (fr.fr [z] [y] ["int"] (by simp [h3.2]) (by simp [h5]) (by simp [h2])) en.bl (by simp) (look_of hN hd) (by simp) hq (sto_of h4 hl) (by simp) h1 (hs fr en h6 r)
    · cases r
  · cases r
theorem snds_plSet {i j : Nat} {c : C} {s : S} (hs : SndS T s) : SndS T (.plSet i j c s) := fun {X sc sto N k B sts ρ pi o} fr en h r => by
  unfold chkS at h
  split at h <;> first | (cases h; done) | (rename_i heq; cases heq)
  simp only [Bool.and_eq_true, decide_eq_true_eq] at h
  obtain ⟨⟨⟨⟨rfl, h2⟩, h3⟩, h4⟩, h5⟩ := h
  obtain ⟨F, hN⟩ := nm_fr fr h3
  simp only [runS, Option.bind_eq_some_iff] at r
  obtain ⟨⟨z, p⟩, hz, r⟩ := r
  split at r
  · rename_i q hd hq
    simp only at hq
    subst hq
    split at r
    · exact ex_plSet F (look_of hN hd) (by simp) ((snd c).ii fr en h4 hz) (.inl ⟨rfl, rfl⟩) (hs fr en h5 r) (fun env => sole_sub h2) (fun env => sub_none)
    · exact ex_plSet F (look_of hN hd) (by simp) ((snd c).ii fr en h4 hz) (.inr ⟨rfl, rfl⟩) (hs fr en h5 r) (fun env => sole_sub h2) (fun env => sub_none)
    · cases r
  · cases r
theorem snds_ite {c : C} {s1 s2 s : S} (h1 : SndS T s1) (h2 : SndS T s2) (hs : SndS T s) : SndS T (.ite c s1 s2 s) := fun {X sc sto N k B sts ρ pi o} fr en h r => by
  unfold chkS at h
  split at h <;> first | (cases h; done) | (rename_i heq; cases heq)
  rename_i t b1 b2 pos rest
  simp only [Bool.and_eq_true] at h
  obtain ⟨⟨⟨g1, g2⟩, g3⟩, g4⟩ := h
  simp only [runS, Option.bind_eq_some_iff] at r
  obtain ⟨⟨b, p⟩, hb, o1, ho, r⟩ := r
  have fin : ∀ {blk : List Stmt}, Ex X B blk ρ p (RtO o1) → Ex X B blk ρ p { RtO o with nx := fun r q => Ex X B rest r q (RtO o) } := fun hx => by
    rcases Out.then_nx r with ⟨ρ2, p2, rfl, r2⟩ | ⟨hn, rfl⟩
    · refine hx.mono (fun r q e => ?_) (fun d q e => nomatch e) (fun r q e => nomatch e) (fun r q e => nomatch e)
      cases e
      exact hs fr en g4 r2
    · exact hx.mono (fun r q e => absurd e (hn r q)) (fun _ _ z => z) (fun _ _ z => z) (fun _ _ z => z)
  refine ex_if ((snd c).te fr en g1 hb) (fun e => ?_) (fun e => ?_)
  · subst e
    exact fin (h1 fr en g2 ho)
  · subst e
    exact fin (h2 fr en g3 ho)
theorem snds_exp {c : C} {s : S} (hs : SndS T s) : SndS T (.exp c s) := fun {X sc sto N k B sts ρ pi o} fr en h r => by
  unfold chkS at h
  split at h <;> first | (cases h; done) | (rename_i heq; cases heq)
  rename_i e pos rest
  simp only [Bool.and_eq_true] at h
  obtain ⟨⟨h1, h2⟩, h3⟩ := h
  simp only [runS, Option.bind_eq_some_iff] at r
  obtain ⟨⟨z, p⟩, hz, r⟩ := r
  exact .cons (ps_expr pe_W (comp_of h1 _ _ _)) fun σ F H F0 s0 hh => ((snd c).dd fr en h2 hz).run σ F H hh _ fun v F' H' st _ => (hs fr en h3 r).run σ F' H' F0 (s0.trans st.ext) (hh.step st)
theorem snds_ret {c : C} : SndS T (.ret c) := fun {X sc sto N k B sts ρ pi o} fr en h r => by
  unfold chkS at h
  split at h <;> first | (cases h; done) | (rename_i heq; cases heq)
  simp only [runS, Option.map_eq_some_iff] at r
  obtain ⟨⟨z, p⟩, hz, rfl⟩ := r
  exact ex_ret ((snd c).dd fr en h hz) rfl
theorem snds_brk : SndS T .brk := fun {X sc sto N k B sts ρ pi o} fr en h r => by
  unfold chkS at h
  split at h <;> first | (cases h; done) | (rename_i heq; cases heq)
  cases r
  exact ex_break rfl
theorem snds_cont : SndS T .cont := fun {X sc sto N k B sts ρ pi o} fr en h r => by
  unfold chkS at h
  split at h <;> first | (cases h; done) | (rename_i heq; cases heq)
  cases r
  exact ex_cont rfl
theorem snds_bad : SndS T .bad := fun fr en h r => by cases r
theorem snds_for {t : Tg} {it : C} {body s : S} (hb : SndS T body) (hs : SndS T s) : SndS T (.for t it body s) := fun {X sc sto N k B sts ρ pi o} fr en h r => by
  unfold chkS at h
  split at h <;> first | (cases h; done) | (rename_i heq; cases heq)
  rename_i te ie b pos rest
  simp only [Bool.and_eq_true] at h
  obtain ⟨⟨⟨⟨g1, g2⟩, g3⟩, g4⟩, g5⟩ := h
  simp only [runS, Option.bind_eq_some_iff] at r
  obtain ⟨⟨ds, p⟩, hd, o1, ho, r⟩ := r
  obtain ⟨f, hf⟩ : ∃ f, f = fun (d : D) (ρ1 : List Slot) (q : PSt) => (t.asg d ρ1).bind fun ρ2 => runS T body ρ2 q := ⟨_, rfl⟩
  have ho : forGo f ds ρ p = some o1 := by rw [hf]; exact ho
  refine ex_for (fr.fr [] [] [] rfl rfl rfl) ((snd it).it fr en g2 hd) (fun i ρ1 p1 => forGo f (ds.drop i) ρ1 p1 = some o1) ho (fun i d ρ1 p1 ed iv => ?_) (fun ρ1 p1 iv => ?_) (fun env v => set_of g1 env v)
  · have e : ds.drop i = d :: ds.drop (i + 1) := by
      obtain ⟨hl, he⟩ := List.getElem?_eq_some_iff.mp ed
      rw [List.drop_eq_getElem_cons hl, he]
    rw [e] at iv
    simp only [forGo, Option.bind_eq_some_iff] at iv
    obtain ⟨ob, hob, iv⟩ := iv
    rw [hf] at hob
    simp only [Option.bind_eq_some_iff] at hob
    obtain ⟨ρ2, h2, hob⟩ := hob
    refine ⟨ρ2, t.is, (asg_snd fr t).1 g3 h2, (hb (X := X) (B := B) fr en g4 hob).mono (fun r' q e => ?_) (fun d' q e => ?_) (fun r' q e => ?_) (fun r' q e => ?_)⟩
    · cases e
      exact ⟨r', Wk.refl _, iv⟩
    · cases e
      simp only [Option.some.injEq] at iv
      subst iv
      show o = .rt d' q
      simp only [Out.then, Option.some.injEq] at r
      exact r.symm
    · cases e
      simp only [Option.some.injEq] at iv
      subst iv
      exact hs fr en g5 r
    · cases e
      exact ⟨r', Wk.refl _, iv⟩
  · rw [List.drop_length] at iv
    simp only [forGo, Option.some.injEq] at iv
    subst iv
    exact hs fr en g5 r
theorem snds_forO {t : Tg} {i : Nat} {body s : S} (hb : SndS T body) (hs : SndS T s) : SndS T (.forO t i body s) := fun {X sc sto N k B sts ρ pi o} fr en h r => by
  unfold chkS at h
  split at h <;> first | (cases h; done) | (rename_i heq; cases heq)
  rename_i te x px b pos rest
  simp only [Bool.and_eq_true] at h
  obtain ⟨⟨⟨g1, g2⟩, g3⟩, g4⟩ := h
  obtain ⟨F, hN⟩ := nm_fr fr g1
  simp only [runS] at r
  split at r
  · rename_i ds hd
    simp only [Option.bind_eq_some_iff] at r
    obtain ⟨o1, ho, r⟩ := r
    obtain ⟨f, hf⟩ : ∃ f, f = fun (d : D) (ρ1 : List Slot) (q : PSt) => goOn ((t.asg d ρ1).bind fun ρ2 => runS T body ρ2 q) := ⟨_, rfl⟩
    have ho : forGo f ds (lockS 0 ρ) pi = some o1 := by rw [hf]; exact ho
    refine ex_forO F (look_of hN hd) (by simp) (fun i ρ1 p1 => forGo f (ds.drop i) ρ1 p1 = some o1) ho (fun B' i d ρ1 p1 ed iv => ?_) (fun ρ1 p1 iv => ?_)
    · have e : ds.drop i = d :: ds.drop (i + 1) := by
        obtain ⟨hl, he⟩ := List.getElem?_eq_some_iff.mp ed
        rw [List.drop_eq_getElem_cons hl, he]
      rw [e] at iv
      simp only [forGo, Option.bind_eq_some_iff] at iv
      obtain ⟨ob, hob, iv⟩ := iv
      rw [hf] at hob
      replace hob : goOn ((t.asg d ρ1).bind fun ρ2 => runS T body ρ2 p1) = some ob := hob
      cases hx : ((t.asg d ρ1).bind fun ρ2 => runS T body ρ2 p1) with
      | none => rw [hx] at hob; cases hob
      | some oc =>
        rw [hx] at hob
        simp only [Option.bind_eq_some_iff] at hx
        obtain ⟨ρ2, h2, hx⟩ := hx
        refine ⟨ρ2, t.is, (asg_snd fr t).1 g2 h2, (hb (X := X) (B := B') fr en g3 hx).mono (fun r' q e => ?_) (fun d' q e => ?_) (fun r' q e => ?_) (fun r' q e => ?_)⟩
        · subst e; cases hob; exact iv
        · subst e; cases hob
        · subst e; cases hob
        · subst e; cases hob; exact iv
    · rw [List.drop_length] at iv
      simp only [forGo, Option.some.injEq] at iv
      subst iv
      simp only [Option.bind_eq_some_iff] at r
      obtain ⟨ρ3, h3, r⟩ := r
      exact ⟨ρ3, h3, hs fr en g4 r⟩
  · cases r
theorem snds_whl {c : C} {body s : S} {fuel : Nat} (hb : SndS T body) (hs : SndS T s) : SndS T (.whl c body s fuel) := fun {X sc sto N k B sts ρ pi o} fr en h r => by
  unfold chkS at h
  split at h <;> first | (cases h; done) | (rename_i heq; cases heq)
  rename_i t b pos rest
  simp only [Bool.and_eq_true] at h
  obtain ⟨⟨g1, g2⟩, g3⟩ := h
  simp only [runS, Option.bind_eq_some_iff] at r
  obtain ⟨o1, ho, r⟩ := r
  obtain ⟨f, hf⟩ : ∃ f, f = fun (ρ1 : List Slot) (q : PSt) => bOf (run T c ρ1 q) := ⟨_, rfl⟩
  have ho : whGo f (runS T body) fuel ρ pi = some o1 := by rw [hf]; exact ho
  refine ex_while (fr.fr [] [] [] rfl rfl rfl) (fun m ρ1 p1 => whGo f (runS T body) m ρ1 p1 = some o1) fuel ho (fun m ρ1 p1 iv => ?_)
  cases m with
  | zero => cases iv
  | succ m =>
    simp only [whGo, Option.bind_eq_some_iff] at iv
    obtain ⟨⟨q, p2⟩, hq, iv⟩ := iv
    have hq' := hq
    rw [hf] at hq'
    refine ⟨q, p2, (snd c).te fr en g1 hq', fun e => ?_, fun e => ?_⟩
    · subst e
      simp only [Option.some.injEq] at iv
      subst iv
      exact hs fr en g3 r
    · subst e
      simp only [Option.bind_eq_some_iff] at iv
      obtain ⟨ob, hob, iv⟩ := iv
      refine (hb (X := X) (B := B) fr en g2 hob).mono (fun r' q e => ?_) (fun d' q e => ?_) (fun r' q e => ?_) (fun r' q e => ?_)
      · cases e
        exact ⟨m, Nat.lt_succ_self _, iv⟩
      · cases e
        simp only [Option.some.injEq] at iv
        subst iv
        show o = .rt d' q
        simp only [Out.then, Option.some.injEq] at r
        exact r.symm
      · cases e
        simp only [Option.some.injEq] at iv
        subst iv
        exact hs fr en g3 r
      · cases e
        exact ⟨m, Nat.lt_succ_self _, iv⟩
theorem SndS.vac {s : S} (h : ∀ N sc sto sts, chkS T N sc sto s sts = false) : SndS T s := fun fr en q r => by rw [h] at q; cases q
theorem snds : ∀ s : S, SndS T s := by
  intro s
  induction s with
  | nil => exact snds_nil
  | asg i c r hr => exact snds_asg hr
  | par2 i c j d r hr => exact snds_par2 hr
  | par3 i c j d l f r hr => exact snds_par3 hr
  | unp t c r hr => exact snds_unp hr
  | frz i r hr => exact snds_frz hr
  | app i c r hr => exact snds_app hr
  | ext i c r hr => exact snds_ext hr
  | setL i b c r hr => exact snds_setL hr
  | setD i b c r hr => exact snds_setD hr
  | drw i j c r hr => exact snds_drw hr
  | plPop i x r hr => exact snds_plPop hr
  | plSet i j c r hr => exact snds_plSet hr
  | ite c s1 s2 r h1 h2 hr => exact snds_ite h1 h2 hr
  | «for» t it b r hb hr => exact snds_for hb hr
  | forO t i b r hb hr => exact snds_forO hb hr
  | whl c b r f hb hr => exact snds_whl hb hr
  | exp c r hr => exact snds_exp hr
  | ret c => exact snds_ret
  | brk => exact snds_brk
  | cont => exact snds_cont
  | bad => exact snds_bad
end
end Fs
-- FsS
/-! A def's promise by its code. -/
namespace Fs
open PySem PySem.Spec PyProof.Rows L2
section
variable {P : Program} {w : World} {K : Frag} {mg : Str → Option Value} {base : Heap} {x qual : Str} {st : Stmt} {f : Addr} {fd : FuncData} {N Vs L G ps : List Str} {k : Nat}
/-- THE RULE for a pure def -/
theorem fn_pureA {g : List D → D → Prop} {FS : Program → World → Frag → (Str → Option Value) → Heap → Prop} (F : Fun K x qual st f fd) (S : FnScope N ps (defScope st)) (hc : scC (defScope st) N [] [] [] = true) (len : ∀ ds d, g ds d → ds.length = ps.length) (hFS : FS P w K mg base)
    (body : ∀ X : Cx, FrA X (defScope st) (locC (defScope st)) N k → FS X.prog X.w X.K X.mg X.base → ∀ B ds d, g ds d → Ex X B (defBody st) (startS N (ds.map .val)) none { nx := fun _ _ => d = .none, rt := fun d' _ => d' = d }) : FnOk P w K mg base CX0 (k + 1) f fd ps (spP K g) := by
  refine F.ok S (fun vs H Q E h => ?_) (fun cdv A outer s H vs Q E hr h => ?_)
  · obtain ⟨F0, ds, d, _, r, hg, _⟩ := h
    rw [r.len]
    exact len ds d hg
  · obtain ⟨F0, ds, d, sF, r, hg, q⟩ := h
    refine ⟨_, pss_W, ?_⟩
    have hh : Holds K ⟨F0, H, none, fun _ => .non⟩ F0 H (L2.start N vs) (startS N (ds.map .val)) none := by
      refine ⟨Step.refl ⟨sF, trivial⟩, start_len (by simpa using r.len), start_at (by simpa using r.len) fun i t e => ?_, fun i j a t u ne e1 e2 o1 o2 z1 z2 => ?_⟩
      · rw [List.getElem?_map] at e
        cases ed : ds[i]? with
        | none => rw [ed] at e; cases e
        | some d =>
          rw [ed] at e
          cases e
          obtain ⟨v, ev, rv⟩ := r.get ed
          exact ⟨v, ev, v, rfl, rv⟩
      · have no : ∀ {i : Nat} {t : Slot}, (startS N (ds.map Slot.val))[i]? = some t → ¬ Owned t := fun {i t} e ho => by
          unfold startS at e
          have hm := List.mem_of_getElem? e
          rw [List.mem_append] at hm
          rcases hm with hm | hm
          · obtain ⟨d, _, rfl⟩ := List.mem_map.mp hm
            exact ho
          · have := List.eq_of_mem_replicate hm
            subst this
            exact ho
        exact no e1 o1
    have X := (body (cxOf CX0 P w K mg base N qual (defScope st) f cdv A outer s H E).nox ((fr_def hc hr).a fun _ => rfl) hFS ⟨F0, H, none, fun _ => .non⟩ ds d hg).run (L2.start N vs) F0 H F0 (Same.refl _) hh
    refine ends_mono X (fun σ' H' ⟨F', ρ, p, _, h', e⟩ => ?_) (fun v H' ⟨F', d', p, st', rv, e⟩ => ?_) (fun _ _ ⟨_, _, _, _, _, z⟩ => z) (fun _ _ ⟨_, _, _, _, _, z⟩ => z)
    · have ep : p = none := by
        have := h'.st.adr
        cases p with
        | none => rfl
        | some q => cases this
      subst ep
      exact q .non F' H' h'.st (by rw [e]; exact .non)
    · have ep : p = none := by
        have := st'.adr
        cases p with
        | none => rfl
        | some q => cases this
      subst ep
      exact q v F' H' st' (by rw [← e]; exact rv)
/-- THE RULE for a def that draws from the pool -/
theorem fn_poolA {g : Pl → List D → D → Pl → Prop} {FS : Program → World → Frag → (Str → Option Value) → Heap → Prop} (F : Fun K x qual st f fd) (S : FnScope N ps (defScope st)) (hc : scC (defScope st) N [] [] [] = true) (len : ∀ q ds d q', g q ds d q' → ds.length + 1 = ps.length) (hFS : FS P w K mg base)
    (body : ∀ X : Cx, FrA X (defScope st) (locC (defScope st)) N k → FS X.prog X.w X.K X.mg X.base → ∀ B q ds d q', g q ds d q' → Ex X B (defBody st) (startS N (.pool :: ds.map .val)) (some q) (retR d (some q'))) : FnOk P w K mg base CX0 (k + 1) f fd ps (spQ K g) := by
  refine F.ok S (fun vs H Q E h => ?_) (fun cdv A outer s H vs Q E hr h => ?_)
  · obtain ⟨F0, q, ws, ds, d, q', rfl, _, r, hg, _⟩ := h
    rw [List.length_cons, r.len]
    exact len q ds d q' hg
  · obtain ⟨F0, q, ws, ds, d, q', rfl, gd, r, hg, z⟩ := h
    refine ⟨_, pss_W, ?_⟩
    have hh : Holds K ⟨F0, H, some q, fun _ => .non⟩ F0 H (L2.start N (.ref q.p :: ws)) (startS N (.pool :: ds.map .val)) (some q) := by
      have hl : (V.ref q.p :: ws).length = (Slot.pool :: ds.map Slot.val).length := by simpa using r.len
      refine ⟨Step.refl gd, start_len hl, start_at hl fun i t e => ?_, fun i j a t u ne e1 e2 o1 o2 z1 z2 => ?_⟩
      · cases i with
        | zero =>
          cases e
          exact ⟨_, rfl, q, rfl, rfl⟩
        | succ i =>
          rw [List.getElem?_cons_succ, List.getElem?_map] at e
          cases ed : ds[i]? with
          | none => rw [ed] at e; cases e
          | some d =>
            rw [ed] at e
            cases e
            obtain ⟨v, ev, rv⟩ := r.get ed
            exact ⟨v, ev, v, rfl, rv⟩
      · have no : ∀ {i : Nat} {t : Slot}, (startS N (.pool :: ds.map Slot.val))[i]? = some t → ¬ Owned t := fun {i t} e ho => by
          unfold startS at e
          have hm := List.mem_of_getElem? e
          rw [List.mem_append, List.mem_cons] at hm
          rcases hm with (rfl | hm) | hm
          · exact ho
          · obtain ⟨d, _, rfl⟩ := List.mem_map.mp hm
            exact ho
          · have := List.eq_of_mem_replicate hm
            subst this
            exact ho
        exact no e1 o1
    have X := (body (cxOf CX0 P w K mg base N qual (defScope st) f cdv A outer s H E).nox ((fr_def hc hr).a fun _ => rfl) hFS ⟨F0, H, some q, fun _ => .non⟩ q ds d q' hg).run (L2.start N (.ref q.p :: ws)) F0 H F0 (Same.refl _) hh
    refine ends_mono X (fun σ' H' ⟨F', ρ, p, _, h', e, ep⟩ => ?_) (fun v H' ⟨F', d', p, st', rv, e, ep⟩ => ?_) (fun _ _ ⟨_, _, _, _, _, z⟩ => z) (fun _ _ ⟨_, _, _, _, _, z⟩ => z)
    · subst ep
      exact z .non F' H' h'.st (by rw [e]; exact .non)
    · subst ep
      exact z v F' H' st' (by rw [← e]; exact rv)
end


section
def FSo (T : Tab) (k : Nat) (P : Program) (w : World) (K : Frag) (mg : Str → Option Value) (base : Heap) : Prop :=
  Bl mg ∧ (∀ (j : Nat) (z : Str × Int), T.gl[j]? = some z → ∃ t, mg z.1 = some (.int z.2 t)) ∧ (∀ (j : Nat) (z : Str × (List D → Option D)), T.tb[j]? = some z → ∃ ps, HasS P w K mg base k z.1 ps (spP K fun ds d => z.2 ds = some d)) ∧
    (∀ (j : Nat) (z : Str × (List D → Pl → Option (D × Pl))), T.tq[j]? = some z → ∃ ps, HasS P w K mg base k z.1 ps (spQ K fun q ds d q' => z.2 ds q = some (d, q'))) ∧
    (∀ (j : Nat) (z : Str × (List D → Option (List (D × D)))), T.tn[j]? = some z → ∃ ps, HasS P w K mg base k z.1 ps (spN K fun ds kvs => z.2 ds = some kvs))
theorem FSo.en {T : Tab} {k : Nat} {X : Cx} (h : FSo T k X.prog X.w X.K X.mg X.base) : En T X k := ⟨h.1, h.2.1, h.2.2.1, h.2.2.2.1, h.2.2.2.2⟩
variable {T : Tab} {P : Program} {w : World} {K : Frag} {mg : Str → Option Value} {base : Heap} {x qual : Str} {st : Stmt} {f : Addr} {fd : FuncData} {N ps : List Str} {k : Nat} {s : S}
theorem def_pure (F : Fun K x qual st f fd) (Sc : FnScope N ps (defScope st)) (hc : (scC (defScope st) N [] [] [] && chkS T N (defScope st) (locC (defScope st)) s (defBody st)) = true) (hFS : FSo T k P w K mg base) : FnOk P w K mg base CX0 (k + 1) f fd ps (spP K fun ds d => defP T ps.length N s ds = some d) := by
  rw [Bool.and_eq_true] at hc
  refine fn_pureA (FS := FSo T k) F Sc hc.1 (fun ds d h => (if_some h).1) hFS fun X fr hf B ds d h => ?_
  have h := (if_some h).2
  cases ho : runS T s (startS N (ds.map .val)) none with
  | none => rw [ho] at h; cases h
  | some o =>
    rw [ho] at h
    refine (snds s fr hf.en hc.2 ho).mono (fun r p e => ?_) (fun d' p e => ?_) (fun r p e => ?_) (fun r p e => ?_)
    · subst e; cases h; rfl
    · subst e; cases h; rfl
    · subst e; cases h
    · subst e; cases h
theorem def_pool (F : Fun K x qual st f fd) (Sc : FnScope N ps (defScope st)) (hc : (scC (defScope st) N [] [] [] && chkS T N (defScope st) (locC (defScope st)) s (defBody st)) = true) (hFS : FSo T k P w K mg base) : FnOk P w K mg base CX0 (k + 1) f fd ps (spQ K fun q ds d q' => defQ T ps.length N s ds q = some (d, q')) := by
  rw [Bool.and_eq_true] at hc
  refine fn_poolA (FS := FSo T k) F Sc hc.1 (fun q ds d q' h => (if_some h).1) hFS fun X fr hf B q ds d q' h => ?_
  have h := (if_some h).2
  cases ho : runS T s (startS N (.pool :: ds.map .val)) (some q) with
  | none => rw [ho] at h; cases h
  | some o =>
    rw [ho] at h
    refine (snds s fr hf.en hc.2 ho).mono (fun r p e => ?_) (fun d' p e => ?_) (fun r p e => ?_) (fun r p e => ?_)
    · subst e
      cases p with
      | none => cases h
      | some p => cases h; exact ⟨rfl, rfl⟩
    · subst e
      cases p with
      | none => cases h
      | some p => cases h; exact ⟨rfl, rfl⟩
    · subst e
      cases p <;> cases h
    · subst e
      cases p <;> cases h
end
end Fs
-- FsN
/-! The defs of the text by places: names by slots, checked. Printed by gen.py. -/
namespace Fs
open PySem PySem.Spec PyProof.Rows L2
def topS (i : Nat) : Stmt := PySem.Challenge.pw_firstsafe_k42_whole_read_beside_all_worl.main.body.getD i (.Pass ⟨0, 0, 0, 0⟩)
abbrev s_is_whole : Stmt := topS 12
abbrev n_is_whole : List Str := ["thing", "low", "high"]
abbrev v_is_whole : List Str := ["thing", "low", "high"]
abbrev g_is_whole : List Str := ["isinstance", "int", "bool"]
theorem sc_is_whole : FnScope n_is_whole ["thing", "low", "high"] (defScope s_is_whole) := ⟨rfl, rfl, rfl, by decide +kernel, rfl, by decide +kernel, by decide +kernel⟩
theorem cc_is_whole : scC (defScope s_is_whole) n_is_whole v_is_whole v_is_whole g_is_whole = true := by decide +kernel
abbrev s_is_prime : Stmt := topS 13
abbrev n_is_prime : List Str := ["n", "divisor"]
abbrev v_is_prime : List Str := ["n", "divisor"]
abbrev g_is_prime : List Str := ["is_whole", "MOST_PRIME"]
theorem sc_is_prime : FnScope n_is_prime ["n"] (defScope s_is_prime) := ⟨rfl, rfl, rfl, by decide +kernel, rfl, by decide +kernel, by decide +kernel⟩
theorem cc_is_prime : scC (defScope s_is_prime) n_is_prime v_is_prime v_is_prime g_is_prime = true := by decide +kernel
abbrev s_inverse : Stmt := topS 14
abbrev n_inverse : List Str := ["a", "p", "low", "high", "one", "other", "times"]
abbrev v_inverse : List Str := ["a", "p", "low", "high", "one", "other", "times"]
abbrev g_inverse : List Str := ["int", "NoInverse"]
theorem sc_inverse : FnScope n_inverse ["a", "p"] (defScope s_inverse) := ⟨rfl, rfl, rfl, by decide +kernel, rfl, by decide +kernel, by decide +kernel⟩
theorem cc_inverse : scC (defScope s_inverse) n_inverse v_inverse v_inverse g_inverse = true := by decide +kernel
abbrev s_are_points : Stmt := topS 18
abbrev n_are_points : List Str := ["p", "thing", "index"]
abbrev v_are_points : List Str := ["p", "thing", "index"]
abbrev g_are_points : List Str := ["isinstance", "tuple", "len", "MOST_SHELVES_grounds", "range", "is_whole"]
theorem sc_are_points : FnScope n_are_points ["p", "thing"] (defScope s_are_points) := ⟨rfl, rfl, rfl, by decide +kernel, rfl, by decide +kernel, by decide +kernel⟩
theorem cc_are_points : scC (defScope s_are_points) n_are_points v_are_points v_are_points g_are_points = true := by decide +kernel
abbrev s_made_ground : Stmt := topS 19
abbrev n_made_ground : List Str := ["thing"]
abbrev v_made_ground : List Str := ["thing"]
abbrev g_made_ground : List Str := ["isinstance", "tuple", "len", "BadGround", "is_prime", "is_whole", "MOST_NUMBERS", "are_points"]
theorem sc_made_ground : FnScope n_made_ground ["thing"] (defScope s_made_ground) := ⟨rfl, rfl, rfl, by decide +kernel, rfl, by decide +kernel, by decide +kernel⟩
theorem cc_made_ground : scC (defScope s_made_ground) n_made_ground v_made_ground v_made_ground g_made_ground = true := by decide +kernel
abbrev s_shelves : Stmt := topS 20
abbrev n_shelves : List Str := ["ground"]
abbrev v_shelves : List Str := ["ground"]
abbrev g_shelves : List Str := ["len", "made_ground"]
theorem sc_shelves : FnScope n_shelves ["ground"] (defScope s_shelves) := ⟨rfl, rfl, rfl, by decide +kernel, rfl, by decide +kernel, by decide +kernel⟩
theorem cc_shelves : scC (defScope s_shelves) n_shelves v_shelves v_shelves g_shelves = true := by decide +kernel
abbrev s_ways : Stmt := topS 22
abbrev n_ways : List Str := ["j", "many", "p", "found", "turn", "total", "grown", "number"]
abbrev v_ways : List Str := ["j", "many", "p", "found", "turn", "total", "grown", "number"]
abbrev g_ways : List Str := ["range"]
theorem sc_ways : FnScope n_ways ["j", "many", "p"] (defScope s_ways) := ⟨rfl, rfl, rfl, by decide +kernel, rfl, by decide +kernel, by decide +kernel⟩
theorem cc_ways : scC (defScope s_ways) n_ways v_ways v_ways g_ways = true := by decide +kernel
-- weights line 83
abbrev o_weights_0 : List (Str × Nat) := [("t", 9)]
abbrev v_weights_0 : List Str := ["t", "k", "j"]
abbrev l_weights_0 : List Str := ["t"]
abbrev g_weights_0 : List Str := []
abbrev s_weights : Stmt := topS 24
abbrev n_weights : List Str := ["ground", "shelf", "j", "p", "k", "points", "found", "power", "many", "t"]
abbrev v_weights : List Str := ["ground", "shelf", "j", "p", "k", "points", "found", "power", "many"]
abbrev g_weights : List Str := ["tuple", "range", "ways"]
theorem sc_weights : FnScope n_weights ["ground", "shelf", "j"] (defScope s_weights) := ⟨rfl, rfl, rfl, by decide +kernel, rfl, by decide +kernel, by decide +kernel⟩
theorem cc_weights : scC (defScope s_weights) n_weights v_weights v_weights g_weights = true := by decide +kernel
abbrev s_is_below : Stmt := topS 28
abbrev n_is_below : List Str := ["thing", "many"]
abbrev v_is_below : List Str := ["thing", "many"]
abbrev g_is_below : List Str := ["isinstance", "int", "bool"]
theorem sc_is_below : FnScope n_is_below ["thing", "many"] (defScope s_is_below) := ⟨rfl, rfl, rfl, by decide +kernel, rfl, by decide +kernel, by decide +kernel⟩
theorem cc_is_below : scC (defScope s_is_below) n_is_below v_is_below v_is_below g_is_below = true := by decide +kernel
abbrev s_is_tape : Stmt := topS 29
abbrev n_is_tape : List Str := ["thing", "number"]
abbrev v_is_tape : List Str := ["thing", "number"]
abbrev g_is_tape : List Str := ["isinstance", "tuple", "len", "MOST_CELLS", "is_below", "MOST_BATCHES"]
theorem sc_is_tape : FnScope n_is_tape ["thing"] (defScope s_is_tape) := ⟨rfl, rfl, rfl, by decide +kernel, rfl, by decide +kernel, by decide +kernel⟩
theorem cc_is_tape : scC (defScope s_is_tape) n_is_tape v_is_tape v_is_tape g_is_tape = true := by decide +kernel
abbrev s_is_cell : Stmt := topS 30
abbrev n_is_cell : List Str := ["thing", "p"]
abbrev v_is_cell : List Str := ["thing", "p"]
abbrev g_is_cell : List Str := ["isinstance", "tuple", "len", "is_below", "MOST_BATCHES"]
theorem sc_is_cell : FnScope n_is_cell ["thing", "p"] (defScope s_is_cell) := ⟨rfl, rfl, rfl, by decide +kernel, rfl, by decide +kernel, by decide +kernel⟩
theorem cc_is_cell : scC (defScope s_is_cell) n_is_cell v_is_cell v_is_cell g_is_cell = true := by decide +kernel
abbrev s_are_cells : Stmt := topS 31
abbrev n_are_cells : List Str := ["thing", "p", "cell"]
abbrev v_are_cells : List Str := ["thing", "p", "cell"]
abbrev g_are_cells : List Str := ["isinstance", "tuple", "len", "MOST_CELLS", "is_cell"]
theorem sc_are_cells : FnScope n_are_cells ["thing", "p"] (defScope s_are_cells) := ⟨rfl, rfl, rfl, by decide +kernel, rfl, by decide +kernel, by decide +kernel⟩
theorem cc_are_cells : scC (defScope s_are_cells) n_are_cells v_are_cells v_are_cells g_are_cells = true := by decide +kernel
abbrev s_made_weaving : Stmt := topS 32
abbrev n_made_weaving : List Str := ["ground", "thing", "shelf", "tape"]
abbrev v_made_weaving : List Str := ["ground", "thing", "shelf", "tape"]
abbrev g_made_weaving : List Str := ["made_ground", "isinstance", "tuple", "len", "shelves", "BadWeaving", "enumerate", "is_tape"]
theorem sc_made_weaving : FnScope n_made_weaving ["ground", "thing"] (defScope s_made_weaving) := ⟨rfl, rfl, rfl, by decide +kernel, rfl, by decide +kernel, by decide +kernel⟩
theorem cc_made_weaving : scC (defScope s_made_weaving) n_made_weaving v_made_weaving v_made_weaving g_made_weaving = true := by decide +kernel
abbrev s_made_reading : Stmt := topS 33
abbrev n_made_reading : List Str := ["ground", "thing", "shelf", "cells"]
abbrev v_made_reading : List Str := ["ground", "thing", "shelf", "cells"]
abbrev g_made_reading : List Str := ["made_ground", "isinstance", "tuple", "len", "shelves", "BadReading", "enumerate", "are_cells"]
theorem sc_made_reading : FnScope n_made_reading ["ground", "thing"] (defScope s_made_reading) := ⟨rfl, rfl, rfl, by decide +kernel, rfl, by decide +kernel, by decide +kernel⟩
theorem cc_made_reading : scC (defScope s_made_reading) n_made_reading v_made_reading v_made_reading g_made_reading = true := by decide +kernel
abbrev s_is_bound : Stmt := topS 38
abbrev n_is_bound : List Str := ["thing"]
abbrev v_is_bound : List Str := ["thing"]
abbrev g_is_bound : List Str := ["is_below", "MOST_FATE"]
theorem sc_is_bound : FnScope n_is_bound ["thing"] (defScope s_is_bound) := ⟨rfl, rfl, rfl, by decide +kernel, rfl, by decide +kernel, by decide +kernel⟩
theorem cc_is_bound : scC (defScope s_is_bound) n_is_bound v_is_bound v_is_bound g_is_bound = true := by decide +kernel
abbrev s_is_fate : Stmt := topS 39
abbrev n_is_fate : List Str := ["thing"]
abbrev v_is_fate : List Str := ["thing"]
abbrev g_is_fate : List Str := ["isinstance", "tuple", "len", "is_bound"]
theorem sc_is_fate : FnScope n_is_fate ["thing"] (defScope s_is_fate) := ⟨rfl, rfl, rfl, by decide +kernel, rfl, by decide +kernel, by decide +kernel⟩
theorem cc_is_fate : scC (defScope s_is_fate) n_is_fate v_is_fate v_is_fate g_is_fate = true := by decide +kernel
abbrev s_is_row : Stmt := topS 40
abbrev n_is_row : List Str := ["many", "thing", "fate"]
abbrev v_is_row : List Str := ["many", "thing", "fate"]
abbrev g_is_row : List Str := ["isinstance", "tuple", "len", "is_fate"]
theorem sc_is_row : FnScope n_is_row ["many", "thing"] (defScope s_is_row) := ⟨rfl, rfl, rfl, by decide +kernel, rfl, by decide +kernel, by decide +kernel⟩
theorem cc_is_row : scC (defScope s_is_row) n_is_row v_is_row v_is_row g_is_row = true := by decide +kernel
abbrev s_made_book : Stmt := topS 41
abbrev n_made_book : List Str := ["many", "thing", "index", "row"]
abbrev v_made_book : List Str := ["many", "thing", "index", "row"]
abbrev g_made_book : List Str := ["is_below", "MOST_SHELVES_books", "BadMany", "isinstance", "tuple", "BadBook", "len", "MOST_ROWS", "TooMany", "enumerate", "is_row"]
theorem sc_made_book : FnScope n_made_book ["many", "thing"] (defScope s_made_book) := ⟨rfl, rfl, rfl, by decide +kernel, rfl, by decide +kernel, by decide +kernel⟩
theorem cc_made_book : scC (defScope s_made_book) n_made_book v_made_book v_made_book g_made_book = true := by decide +kernel
-- without line 157
abbrev o_without_0 : List (Str × Nat) := [("number", 5), ("other", 6)]
abbrev v_without_0 : List Str := ["number", "other", "factor", "p"]
abbrev l_without_0 : List Str := ["number", "other"]
abbrev g_without_0 : List Str := []
abbrev s_without : Stmt := topS 43
abbrev n_without : List Str := ["row", "pivot", "place", "p", "factor", "number", "other"]
abbrev v_without : List Str := ["row", "pivot", "place", "p", "factor"]
abbrev g_without : List Str := ["zip"]
theorem sc_without : FnScope n_without ["row", "pivot", "place", "p"] (defScope s_without) := ⟨rfl, rfl, rfl, by decide +kernel, rfl, by decide +kernel, by decide +kernel⟩
theorem cc_without : scC (defScope s_without) n_without v_without v_without g_without = true := by decide +kernel
abbrev s_first_place : Stmt := topS 44
abbrev n_first_place : List Str := ["row", "place"]
abbrev v_first_place : List Str := ["row", "place"]
abbrev g_first_place : List Str := ["range", "len"]
theorem sc_first_place : FnScope n_first_place ["row"] (defScope s_first_place) := ⟨rfl, rfl, rfl, by decide +kernel, rfl, by decide +kernel, by decide +kernel⟩
theorem cc_first_place : scC (defScope s_first_place) n_first_place v_first_place v_first_place g_first_place = true := by decide +kernel
-- reduced line 164
abbrev o_reduced_0 : List (Str × Nat) := [("row", 9)]
abbrev v_reduced_0 : List Str := ["row", "p"]
abbrev l_reduced_0 : List Str := ["row"]
abbrev g_reduced_0 : List Str := []
-- reduced line 164
abbrev o_reduced_1 : List (Str × Nat) := [("number", 10)]
abbrev v_reduced_1 : List Str := ["number", "p"]
abbrev l_reduced_1 : List Str := ["number"]
abbrev g_reduced_1 : List Str := ["int"]
-- reduced line 166
abbrev o_reduced_2 : List (Str × Nat) := [("row", 9)]
abbrev v_reduced_2 : List Str := ["row", "place"]
abbrev l_reduced_2 : List Str := ["row"]
abbrev g_reduced_2 : List Str := []
-- reduced line 169
abbrev o_reduced_3 : List (Str × Nat) := [("number", 10)]
abbrev v_reduced_3 : List Str := ["number", "factor", "p"]
abbrev l_reduced_3 : List Str := ["number"]
abbrev g_reduced_3 : List Str := []
-- reduced line 170
abbrev o_reduced_4 : List (Str × Nat) := [("row", 9)]
abbrev v_reduced_4 : List Str := ["row", "pivot", "place", "p"]
abbrev l_reduced_4 : List Str := ["row"]
abbrev g_reduced_4 : List Str := ["without"]
-- reduced line 171
abbrev o_reduced_5 : List (Str × Nat) := [("row", 9)]
abbrev v_reduced_5 : List Str := ["row", "pivot", "place", "p"]
abbrev l_reduced_5 : List Str := ["row"]
abbrev g_reduced_5 : List Str := ["without"]
-- reduced line 172
abbrev o_reduced_6 : List (Str × Nat) := [("row", 9)]
abbrev v_reduced_6 : List Str := ["row"]
abbrev l_reduced_6 : List Str := ["row"]
abbrev g_reduced_6 : List Str := ["tuple"]
abbrev s_reduced : Stmt := topS 45
abbrev n_reduced : List Str := ["rows", "many", "p", "left", "found", "place", "chosen", "factor", "pivot", "row", "number"]
abbrev v_reduced : List Str := ["rows", "many", "p", "left", "found", "place", "chosen", "factor", "pivot"]
abbrev g_reduced : List Str := ["range", "inverse", "tuple"]
theorem sc_reduced : FnScope n_reduced ["rows", "many", "p"] (defScope s_reduced) := ⟨rfl, rfl, rfl, by decide +kernel, rfl, by decide +kernel, by decide +kernel⟩
theorem cc_reduced : scC (defScope s_reduced) n_reduced v_reduced v_reduced g_reduced = true := by decide +kernel
-- kernel_of line 175
abbrev o_kernel_of_0 : List (Str × Nat) := [("row", 9)]
abbrev v_kernel_of_0 : List Str := ["row"]
abbrev l_kernel_of_0 : List Str := ["row"]
abbrev g_kernel_of_0 : List Str := ["first_place"]
abbrev s_kernel_of : Stmt := topS 46
abbrev n_kernel_of : List Str := ["rows", "many", "p", "base", "places", "found", "column", "way", "place", "row"]
abbrev v_kernel_of : List Str := ["rows", "many", "p", "base", "places", "found", "column", "way", "place", "row"]
abbrev g_kernel_of : List Str := ["reduced", "range", "zip", "tuple"]
theorem sc_kernel_of : FnScope n_kernel_of ["rows", "many", "p"] (defScope s_kernel_of) := ⟨rfl, rfl, rfl, by decide +kernel, rfl, by decide +kernel, by decide +kernel⟩
theorem cc_kernel_of : scC (defScope s_kernel_of) n_kernel_of v_kernel_of v_kernel_of g_kernel_of = true := by decide +kernel
-- less line 187
abbrev o_less_0 : List (Str × Nat) := [("one", 4), ("other", 5)]
abbrev v_less_0 : List Str := ["one", "other", "factor", "prime"]
abbrev l_less_0 : List Str := ["one", "other"]
abbrev g_less_0 : List Str := []
abbrev s_less : Stmt := topS 48
abbrev n_less : List Str := ["numbers", "factor", "others", "prime", "one", "other"]
abbrev v_less : List Str := ["numbers", "factor", "others", "prime"]
abbrev g_less : List Str := ["tuple", "zip"]
theorem sc_less : FnScope n_less ["numbers", "factor", "others", "prime"] (defScope s_less) := ⟨rfl, rfl, rfl, by decide +kernel, rfl, by decide +kernel, by decide +kernel⟩
theorem cc_less : scC (defScope s_less) n_less v_less v_less g_less = true := by decide +kernel
abbrev s_first_column : Stmt := topS 49
abbrev n_first_column : List Str := ["numbers", "many", "column"]
abbrev v_first_column : List Str := ["numbers", "many", "column"]
abbrev g_first_column : List Str := ["range"]
theorem sc_first_column : FnScope n_first_column ["numbers", "many"] (defScope s_first_column) := ⟨rfl, rfl, rfl, by decide +kernel, rfl, by decide +kernel, by decide +kernel⟩
theorem cc_first_column : scC (defScope s_first_column) n_first_column v_first_column v_first_column g_first_column = true := by decide +kernel
-- chosen line 203
abbrev o_chosen_0 : List (Str × Nat) := [("number", 12)]
abbrev v_chosen_0 : List Str := ["number", "factor", "prime"]
abbrev l_chosen_0 : List Str := ["number"]
abbrev g_chosen_0 : List Str := []
abbrev s_chosen : Stmt := topS 50
abbrev n_chosen : List Str := ["prime", "many", "equations", "known", "indexes", "index", "weights", "right", "left", "column", "numbers", "factor", "number"]
abbrev v_chosen : List Str := ["prime", "many", "equations", "known", "indexes", "index", "weights", "right", "left", "column", "numbers", "factor"]
abbrev g_chosen : List Str := ["enumerate", "less", "first_column", "inverse", "tuple"]
theorem sc_chosen : FnScope n_chosen ["prime", "many", "equations"] (defScope s_chosen) := ⟨rfl, rfl, rfl, by decide +kernel, rfl, by decide +kernel, by decide +kernel⟩
theorem cc_chosen : scC (defScope s_chosen) n_chosen v_chosen v_chosen g_chosen = true := by decide +kernel
-- flat_of line 212
abbrev o_flat_of_0 : List (Str × Nat) := [("index", 9)]
abbrev v_flat_of_0 : List Str := ["index", "equations"]
abbrev l_flat_of_0 : List Str := ["index"]
abbrev g_flat_of_0 : List Str := []
-- flat_of line 217
abbrev o_flat_of_1 : List (Str × Nat) := [("numbers", 8)]
abbrev v_flat_of_1 : List Str := ["numbers", "many"]
abbrev l_flat_of_1 : List Str := ["numbers"]
abbrev g_flat_of_1 : List Str := []
abbrev s_flat_of : Stmt := topS 51
abbrev n_flat_of : List Str := ["prime", "many", "equations", "indexes", "clash", "kept", "solved", "point", "numbers", "index"]
abbrev v_flat_of : List Str := ["prime", "many", "equations", "indexes", "clash", "kept", "solved", "point", "numbers"]
abbrev g_flat_of : List Str := ["chosen", "reduced", "tuple", "first_column", "kernel_of"]
theorem sc_flat_of : FnScope n_flat_of ["prime", "many", "equations"] (defScope s_flat_of) := ⟨rfl, rfl, rfl, by decide +kernel, rfl, by decide +kernel, by decide +kernel⟩
theorem cc_flat_of : scC (defScope s_flat_of) n_flat_of v_flat_of v_flat_of g_flat_of = true := by decide +kernel
abbrev s_check_number : Stmt := topS 54
abbrev n_check_number : List Str := ["number"]
abbrev v_check_number : List Str := ["number"]
abbrev g_check_number : List Str := ["is_whole", "MOST_NUMBER", "BadNumber"]
theorem sc_check_number : FnScope n_check_number ["number"] (defScope s_check_number) := ⟨rfl, rfl, rfl, by decide +kernel, rfl, by decide +kernel, by decide +kernel⟩
theorem cc_check_number : scC (defScope s_check_number) n_check_number v_check_number v_check_number g_check_number = true := by decide +kernel
abbrev s_right_heads : Stmt := topS 55
abbrev n_right_heads : List Str := ["fates", "reading", "found", "gone", "wrong", "tape"]
abbrev v_right_heads : List Str := ["fates", "reading", "found", "gone", "wrong", "tape"]
abbrev g_right_heads : List Str := ["zip", "max", "len", "tuple"]
theorem sc_right_heads : FnScope n_right_heads ["fates", "reading"] (defScope s_right_heads) := ⟨rfl, rfl, rfl, by decide +kernel, rfl, by decide +kernel, by decide +kernel⟩
theorem cc_right_heads : scC (defScope s_right_heads) n_right_heads v_right_heads v_right_heads g_right_heads = true := by decide +kernel
-- first_far line 234
abbrev o_first_far_0 : List (Str × Nat) := [("number", 10), ("content", 11)]
abbrev v_first_far_0 : List Str := ["number", "content"]
abbrev l_first_far_0 : List Str := ["number", "content"]
abbrev g_first_far_0 : List Str := []
abbrev s_first_far : Stmt := topS 56
abbrev n_first_far : List Str := ["fates", "stand", "reading", "heads", "shelf", "gone", "wrong", "stood", "lies", "numbers", "number", "content"]
abbrev v_first_far : List Str := ["fates", "stand", "reading", "heads", "shelf", "gone", "wrong", "stood", "lies", "numbers"]
abbrev g_first_far : List Str := ["right_heads", "enumerate", "len", "tuple"]
theorem sc_first_far : FnScope n_first_far ["fates", "stand", "reading"] (defScope s_first_far) := ⟨rfl, rfl, rfl, by decide +kernel, rfl, by decide +kernel, by decide +kernel⟩
theorem cc_first_far : scC (defScope s_first_far) n_first_far v_first_far v_first_far g_first_far = true := by decide +kernel
abbrev s_cells_by : Stmt := topS 57
abbrev n_cells_by : List Str := ["reading", "lengths", "found", "shelf", "tape", "places", "number", "content", "place"]
abbrev v_cells_by : List Str := ["reading", "lengths", "found", "shelf", "tape", "places", "number", "content", "place"]
abbrev g_cells_by : List Str := ["enumerate"]
theorem sc_cells_by : FnScope n_cells_by ["reading", "lengths"] (defScope s_cells_by) := ⟨rfl, rfl, rfl, by decide +kernel, rfl, by decide +kernel, by decide +kernel⟩
theorem cc_cells_by : scC (defScope s_cells_by) n_cells_by v_cells_by v_cells_by g_cells_by = true := by decide +kernel
-- weights_table line 248
abbrev o_weights_table_0 : List (Str × Nat) := [("shelf", 1)]
abbrev v_weights_table_0 : List Str := ["shelf", "ground"]
abbrev l_weights_table_0 : List Str := ["shelf"]
abbrev g_weights_table_0 : List Str := ["range"]
-- weights_table line 248
abbrev o_weights_table_1 : List (Str × Nat) := [("place", 2)]
abbrev v_weights_table_1 : List Str := ["place", "ground", "shelf"]
abbrev l_weights_table_1 : List Str := ["place"]
abbrev g_weights_table_1 : List Str := ["weights"]
abbrev s_weights_table : Stmt := topS 58
abbrev n_weights_table : List Str := ["ground", "shelf", "place"]
abbrev v_weights_table : List Str := ["ground"]
abbrev g_weights_table : List Str := ["range", "len"]
theorem sc_weights_table : FnScope n_weights_table ["ground"] (defScope s_weights_table) := ⟨rfl, rfl, rfl, by decide +kernel, rfl, by decide +kernel, by decide +kernel⟩
theorem cc_weights_table : scC (defScope s_weights_table) n_weights_table v_weights_table v_weights_table g_weights_table = true := by decide +kernel
abbrev s_equations_of : Stmt := topS 59
abbrev n_equations_of : List Str := ["table", "many", "cells", "found", "shelf", "place", "content"]
abbrev v_equations_of : List Str := ["table", "many", "cells", "found", "shelf", "place", "content"]
abbrev g_equations_of : List Str := ["tuple"]
theorem sc_equations_of : FnScope n_equations_of ["table", "many", "cells"] (defScope s_equations_of) := ⟨rfl, rfl, rfl, by decide +kernel, rfl, by decide +kernel, by decide +kernel⟩
theorem cc_equations_of : scC (defScope s_equations_of) n_equations_of v_equations_of v_equations_of g_equations_of = true := by decide +kernel
abbrev s_flats_in : Stmt := topS 60
abbrev n_flats_in : List Str := ["ground", "table", "reading", "lengths", "prime", "many", "points", "found", "number", "cells", "known"]
abbrev v_flats_in : List Str := ["ground", "table", "reading", "lengths", "prime", "many", "points", "found", "number", "cells", "known"]
abbrev g_flats_in : List Str := ["cells_by", "flat_of", "equations_of"]
theorem sc_flats_in : FnScope n_flats_in ["ground", "table", "reading", "lengths"] (defScope s_flats_in) := ⟨rfl, rfl, rfl, by decide +kernel, rfl, by decide +kernel, by decide +kernel⟩
theorem cc_flats_in : scC (defScope s_flats_in) n_flats_in v_flats_in v_flats_in g_flats_in = true := by decide +kernel
abbrev s_possible_flats : Stmt := topS 61
abbrev n_possible_flats : List Str := ["ground", "book", "stand", "reading", "found", "seen", "table", "fates", "lengths", "known"]
abbrev v_possible_flats : List Str := ["ground", "book", "stand", "reading", "found", "seen", "table", "fates", "lengths", "known"]
abbrev g_possible_flats : List Str := ["weights_table", "right_heads", "first_far", "flats_in"]
theorem sc_possible_flats : FnScope n_possible_flats ["ground", "book", "stand", "reading"] (defScope s_possible_flats) := ⟨rfl, rfl, rfl, by decide +kernel, rfl, by decide +kernel, by decide +kernel⟩
theorem cc_possible_flats : scC (defScope s_possible_flats) n_possible_flats v_possible_flats v_possible_flats g_possible_flats = true := by decide +kernel
-- whole_flat line 277
abbrev o_whole_flat_0 : List (Str × Nat) := [("other", 3)]
abbrev v_whole_flat_0 : List Str := ["other", "place"]
abbrev l_whole_flat_0 : List Str := ["other"]
abbrev g_whole_flat_0 : List Str := []
abbrev s_whole_flat : Stmt := topS 62
abbrev n_whole_flat : List Str := ["many", "ways", "place", "other"]
abbrev v_whole_flat : List Str := ["many", "ways", "place"]
abbrev g_whole_flat : List Str := ["range", "tuple"]
theorem sc_whole_flat : FnScope n_whole_flat ["many"] (defScope s_whole_flat) := ⟨rfl, rfl, rfl, by decide +kernel, rfl, by decide +kernel, by decide +kernel⟩
theorem cc_whole_flat : scC (defScope s_whole_flat) n_whole_flat v_whole_flat v_whole_flat g_whole_flat = true := by decide +kernel
-- agreed line 283
abbrev o_agreed_0 : List (Str × Nat) := [("way", 6)]
abbrev v_agreed_0 : List Str := ["way", "place"]
abbrev l_agreed_0 : List Str := ["way"]
abbrev g_agreed_0 : List Str := []
abbrev s_agreed : Stmt := topS 63
abbrev n_agreed : List Str := ["many", "lot", "found", "point", "ways", "place", "way"]
abbrev v_agreed : List Str := ["many", "lot", "found", "point", "ways", "place"]
abbrev g_agreed : List Str := ["list", "range", "any", "tuple"]
theorem sc_agreed : FnScope n_agreed ["many", "lot"] (defScope s_agreed) := ⟨rfl, rfl, rfl, by decide +kernel, rfl, by decide +kernel, by decide +kernel⟩
theorem cc_agreed : scC (defScope s_agreed) n_agreed v_agreed v_agreed g_agreed = true := by decide +kernel
-- two_unlike line 292
abbrev o_two_unlike_0 : List (Str × Nat) := [("one", 5), ("other", 6)]
abbrev v_two_unlike_0 : List Str := ["one", "other", "prime"]
abbrev l_two_unlike_0 : List Str := ["one", "other"]
abbrev g_two_unlike_0 : List Str := []
abbrev s_two_unlike : Stmt := topS 64
abbrev n_two_unlike : List Str := ["prime", "lot", "first", "point", "ways", "one", "other"]
abbrev v_two_unlike : List Str := ["prime", "lot", "first", "point", "ways"]
abbrev g_two_unlike : List Str := ["tuple", "zip"]
theorem sc_two_unlike : FnScope n_two_unlike ["prime", "lot"] (defScope s_two_unlike) := ⟨rfl, rfl, rfl, by decide +kernel, rfl, by decide +kernel, by decide +kernel⟩
theorem cc_two_unlike : scC (defScope s_two_unlike) n_two_unlike v_two_unlike v_two_unlike g_two_unlike = true := by decide +kernel
-- answer_of line 298
abbrev o_answer_of_0 : List (Str × Nat) := [("known", 10)]
abbrev v_answer_of_0 : List Str := ["known", "number", "many"]
abbrev l_answer_of_0 : List Str := ["known"]
abbrev g_answer_of_0 : List Str := ["whole_flat"]
abbrev s_answer_of : Stmt := topS 65
abbrev n_answer_of : List Str := ["ground", "possible", "number", "prime", "many", "points", "lot", "numbers", "one", "two", "known"]
abbrev v_answer_of : List Str := ["ground", "possible", "number", "prime", "many", "points", "lot", "numbers", "one", "two"]
abbrev g_answer_of : List Str := ["agreed", "two_unlike"]
theorem sc_answer_of : FnScope n_answer_of ["ground", "possible", "number"] (defScope s_answer_of) := ⟨rfl, rfl, rfl, by decide +kernel, rfl, by decide +kernel, by decide +kernel⟩
theorem cc_answer_of : scC (defScope s_answer_of) n_answer_of v_answer_of v_answer_of g_answer_of = true := by decide +kernel
abbrev s_made_all : Stmt := topS 66
abbrev n_made_all : List Str := ["ground", "book", "stand", "reading", "right", "rows_told", "stood"]
abbrev v_made_all : List Str := ["ground", "book", "stand", "reading", "right", "rows_told", "stood"]
abbrev g_made_all : List Str := ["made_ground", "made_book", "shelves", "made_weaving", "made_reading"]
theorem sc_made_all : FnScope n_made_all ["ground", "book", "stand", "reading"] (defScope s_made_all) := ⟨rfl, rfl, rfl, by decide +kernel, rfl, by decide +kernel, by decide +kernel⟩
theorem cc_made_all : scC (defScope s_made_all) n_made_all v_made_all v_made_all g_made_all = true := by decide +kernel
abbrev s_read : Stmt := topS 67
abbrev n_read : List Str := ["ground", "book", "stand", "reading", "b", "right", "rows_told", "stood", "lies"]
abbrev v_read : List Str := ["ground", "book", "stand", "reading", "b", "right", "rows_told", "stood", "lies"]
abbrev g_read : List Str := ["made_all", "check_number", "answer_of", "possible_flats"]
theorem sc_read : FnScope n_read ["ground", "book", "stand", "reading", "b"] (defScope s_read) := ⟨rfl, rfl, rfl, by decide +kernel, rfl, by decide +kernel, by decide +kernel⟩
theorem cc_read : scC (defScope s_read) n_read v_read v_read g_read = true := by decide +kernel
abbrev s_pool : Stmt := topS 69
abbrev n_pool : List Str := ["_law_script", "_law_first", "_law_size"]
abbrev v_pool : List Str := ["_law_script", "_law_first", "_law_size"]
abbrev g_pool : List Str := ["len", "int", "list"]
theorem sc_pool : FnScope n_pool ["_law_script"] (defScope s_pool) := ⟨rfl, rfl, rfl, by decide +kernel, rfl, by decide +kernel, by decide +kernel⟩
theorem cc_pool : scC (defScope s_pool) n_pool v_pool v_pool g_pool = true := by decide +kernel
abbrev s_draw : Stmt := topS 70
abbrev n_draw : List Str := ["_law_pool_here", "_law_many", "_law_cell", "_law_size", "_law_found"]
abbrev v_draw : List Str := ["_law_pool_here", "_law_many", "_law_cell", "_law_size", "_law_found"]
abbrev g_draw : List Str := ["int"]
theorem sc_draw : FnScope n_draw ["_law_pool_here", "_law_many"] (defScope s_draw) := ⟨rfl, rfl, rfl, by decide +kernel, rfl, by decide +kernel, by decide +kernel⟩
theorem cc_draw : scC (defScope s_draw) n_draw v_draw v_draw g_draw = true := by decide +kernel
abbrev s_pick : Stmt := topS 71
abbrev n_pick : List Str := ["_law_pool_here", "_law_things"]
abbrev v_pick : List Str := ["_law_pool_here", "_law_things"]
abbrev g_pick : List Str := ["_law_draw", "len"]
theorem sc_pick : FnScope n_pick ["_law_pool_here", "_law_things"] (defScope s_pick) := ⟨rfl, rfl, rfl, by decide +kernel, rfl, by decide +kernel, by decide +kernel⟩
theorem cc_pick : scC (defScope s_pick) n_pick v_pick v_pick g_pick = true := by decide +kernel
abbrev s_turned : Stmt := topS 72
abbrev n_turned : List Str := ["_law_pool_here", "_law_many", "_law_left", "_law_found", "_law_turn"]
abbrev v_turned : List Str := ["_law_pool_here", "_law_many", "_law_left", "_law_found", "_law_turn"]
abbrev g_turned : List Str := ["list", "range", "_law_draw", "len"]
theorem sc_turned : FnScope n_turned ["_law_pool_here", "_law_many"] (defScope s_turned) := ⟨rfl, rfl, rfl, by decide +kernel, rfl, by decide +kernel, by decide +kernel⟩
theorem cc_turned : scC (defScope s_turned) n_turned v_turned v_turned g_turned = true := by decide +kernel
-- _law_batch line 340
abbrev o_batch_0 : List (Str × Nat) := [("_law_place", 5)]
abbrev v_batch_0 : List Str := ["_law_place", "_law_pool_here", "_law_p"]
abbrev l_batch_0 : List Str := ["_law_place"]
abbrev g_batch_0 : List Str := ["_law_draw"]
-- _law_batch line 342
abbrev o_batch_1 : List (Str × Nat) := [("_law_at", 6)]
abbrev v_batch_1 : List Str := ["_law_at", "_law_place", "_law_p"]
abbrev l_batch_1 : List Str := ["_law_at"]
abbrev g_batch_1 : List Str := []
abbrev s_batch : Stmt := topS 73
abbrev n_batch : List Str := ["_law_pool_here", "_law_ground", "_law_p", "_law_k", "_law_points", "_law_place", "_law_at"]
abbrev v_batch : List Str := ["_law_pool_here", "_law_ground", "_law_p", "_law_k", "_law_points", "_law_place"]
abbrev g_batch : List Str := ["_law_draw", "tuple", "range"]
theorem sc_batch : FnScope n_batch ["_law_pool_here", "_law_ground"] (defScope s_batch) := ⟨rfl, rfl, rfl, by decide +kernel, rfl, by decide +kernel, by decide +kernel⟩
theorem cc_batch : scC (defScope s_batch) n_batch v_batch v_batch g_batch = true := by decide +kernel
-- _law_written_out line 349
abbrev o_written_out_0 : List (Str × Nat) := [("_law_at", 6)]
abbrev v_written_out_0 : List Str := ["_law_at", "_law_point", "_law_longer", "_law_p"]
abbrev l_written_out_0 : List Str := ["_law_at"]
abbrev g_written_out_0 : List Str := ["int"]
abbrev s_written_out : Stmt := topS 74
abbrev n_written_out : List Str := ["_law_p", "_law_form", "_law_point", "_law_found", "_law_number", "_law_longer", "_law_at"]
abbrev v_written_out : List Str := ["_law_p", "_law_form", "_law_point", "_law_found", "_law_number", "_law_longer"]
abbrev g_written_out : List Str := ["list", "range", "len", "int"]
theorem sc_written_out : FnScope n_written_out ["_law_p", "_law_form", "_law_point"] (defScope s_written_out) := ⟨rfl, rfl, rfl, by decide +kernel, rfl, by decide +kernel, by decide +kernel⟩
theorem cc_written_out : scC (defScope s_written_out) n_written_out v_written_out v_written_out g_written_out = true := by decide +kernel
-- _law_woven line 355
abbrev o_woven_0 : List (Str × Nat) := [("_law_batch_here", 11)]
abbrev v_woven_0 : List Str := ["_law_batch_here", "_law_ground", "_law_shelf"]
abbrev l_woven_0 : List Str := ["_law_batch_here"]
abbrev g_woven_0 : List Str := ["_law_written_out"]
abbrev s_woven : Stmt := topS 75
abbrev n_woven : List Str := ["_law_ground", "_law_batches", "_law_weaving", "_law_found", "_law_shelf", "_law_tape", "_law_rows", "_law_cells", "_law_at", "_law_b", "_law_j", "_law_batch_here"]
abbrev v_woven : List Str := ["_law_ground", "_law_batches", "_law_weaving", "_law_found", "_law_shelf", "_law_tape", "_law_rows", "_law_cells", "_law_at", "_law_b", "_law_j"]
abbrev g_woven : List Str := ["enumerate", "len", "tuple"]
theorem sc_woven : FnScope n_woven ["_law_ground", "_law_batches", "_law_weaving"] (defScope s_woven) := ⟨rfl, rfl, rfl, by decide +kernel, rfl, by decide +kernel, by decide +kernel⟩
theorem cc_woven : scC (defScope s_woven) n_woven v_woven v_woven g_woven = true := by decide +kernel
abbrev s_wrong_cell : Stmt := topS 76
abbrev n_wrong_cell : List Str := ["_law_pool_here", "_law_ground", "_law_cell", "_law_batches", "_law_way", "_law_b"]
abbrev v_wrong_cell : List Str := ["_law_pool_here", "_law_ground", "_law_cell", "_law_batches", "_law_way", "_law_b"]
abbrev g_wrong_cell : List Str := ["_law_draw", "_law_pick"]
theorem sc_wrong_cell : FnScope n_wrong_cell ["_law_pool_here", "_law_ground", "_law_cell", "_law_batches"] (defScope s_wrong_cell) := ⟨rfl, rfl, rfl, by decide +kernel, rfl, by decide +kernel, by decide +kernel⟩
theorem cc_wrong_cell : scC (defScope s_wrong_cell) n_wrong_cell v_wrong_cell v_wrong_cell g_wrong_cell = true := by decide +kernel
-- _law_stop line 376
abbrev o_stop_0 : List (Str × Nat) := [("_law_cell", 13)]
abbrev v_stop_0 : List Str := ["_law_cell", "_law_pool_here", "_law_ground", "_law_batches"]
abbrev l_stop_0 : List Str := ["_law_cell"]
abbrev g_stop_0 : List Str := ["_law_wrong_cell"]
abbrev s_stop : Stmt := topS 77
abbrev n_stop : List Str := ["_law_pool_here", "_law_ground", "_law_row", "_law_reading_here", "_law_batches", "_law_found", "_law_fate", "_law_cells", "_law_most", "_law_gone", "_law_left", "_law_many", "_law_wrong", "_law_cell"]
abbrev v_stop : List Str := ["_law_pool_here", "_law_ground", "_law_row", "_law_reading_here", "_law_batches", "_law_found", "_law_fate", "_law_cells", "_law_most", "_law_gone", "_law_left", "_law_many", "_law_wrong"]
abbrev g_stop : List Str := ["zip", "len", "min", "_law_pick", "_law_draw", "tuple"]
theorem sc_stop : FnScope n_stop ["_law_pool_here", "_law_ground", "_law_row", "_law_reading_here", "_law_batches"] (defScope s_stop) := ⟨rfl, rfl, rfl, by decide +kernel, rfl, by decide +kernel, by decide +kernel⟩
theorem cc_stop : scC (defScope s_stop) n_stop v_stop v_stop g_stop = true := by decide +kernel
abbrev s_stopped : Stmt := topS 78
abbrev n_stopped : List Str := ["_law_reading_here", "_law_stop_here", "_law_found", "_law_cells", "_law_loss", "_law_left"]
abbrev v_stopped : List Str := ["_law_reading_here", "_law_stop_here", "_law_found", "_law_cells", "_law_loss", "_law_left"]
abbrev g_stopped : List Str := ["zip", "len", "tuple"]
theorem sc_stopped : FnScope n_stopped ["_law_reading_here", "_law_stop_here"] (defScope s_stopped) := ⟨rfl, rfl, rfl, by decide +kernel, rfl, by decide +kernel, by decide +kernel⟩
theorem cc_stopped : scC (defScope s_stopped) n_stopped v_stopped v_stopped g_stopped = true := by decide +kernel
-- _law_all_rows line 390
abbrev o_all_rows_0 : List (Str × Nat) := [("_law_number", 6)]
abbrev v_all_rows_0 : List Str := ["_law_number", "_law_row"]
abbrev l_all_rows_0 : List Str := ["_law_number"]
abbrev g_all_rows_0 : List Str := []
abbrev s_all_rows : Stmt := topS 79
abbrev n_all_rows : List Str := ["_law_numbers", "_law_many", "_law_found", "_law_turn", "_law_longer", "_law_row", "_law_number"]
abbrev v_all_rows : List Str := ["_law_numbers", "_law_many", "_law_found", "_law_turn", "_law_longer", "_law_row"]
abbrev g_all_rows : List Str := ["range"]
theorem sc_all_rows : FnScope n_all_rows ["_law_numbers", "_law_many"] (defScope s_all_rows) := ⟨rfl, rfl, rfl, by decide +kernel, rfl, by decide +kernel, by decide +kernel⟩
theorem cc_all_rows : scC (defScope s_all_rows) n_all_rows v_all_rows v_all_rows g_all_rows = true := by decide +kernel
-- _law_tapes_for line 398
abbrev o_tapes_for_0 : List (Str × Nat) := [("_law_tape", 10)]
abbrev v_tapes_for_0 : List Str := ["_law_tape", "_law_stand", "_law_shelf"]
abbrev l_tapes_for_0 : List Str := ["_law_tape"]
abbrev g_tapes_for_0 : List Str := []
abbrev s_tapes_for : Stmt := topS 80
abbrev n_tapes_for : List Str := ["_law_row", "_law_stand", "_law_reading_here", "_law_shelf", "_law_batches", "_law_most", "_law_found", "_law_many", "_law_gone", "_law_length", "_law_tape"]
abbrev v_tapes_for : List Str := ["_law_row", "_law_stand", "_law_reading_here", "_law_shelf", "_law_batches", "_law_most", "_law_found", "_law_many", "_law_gone", "_law_length"]
abbrev g_tapes_for : List Str := ["len", "range", "_law_all_rows", "list"]
theorem sc_tapes_for : FnScope n_tapes_for ["_law_row", "_law_stand", "_law_reading_here", "_law_shelf", "_law_batches", "_law_most"] (defScope s_tapes_for) := ⟨rfl, rfl, rfl, by decide +kernel, rfl, by decide +kernel, by decide +kernel⟩
theorem cc_tapes_for : scC (defScope s_tapes_for) n_tapes_for v_tapes_for v_tapes_for g_tapes_for = true := by decide +kernel
abbrev s_leaves : Stmt := topS 81
abbrev n_leaves : List Str := ["_law_fate", "_law_cells", "_law_lying", "_law_right", "_law_one", "_law_other"]
abbrev v_leaves : List Str := ["_law_fate", "_law_cells", "_law_lying", "_law_right", "_law_one", "_law_other"]
abbrev g_leaves : List Str := ["zip", "len"]
theorem sc_leaves : FnScope n_leaves ["_law_fate", "_law_cells", "_law_lying"] (defScope s_leaves) := ⟨rfl, rfl, rfl, by decide +kernel, rfl, by decide +kernel, by decide +kernel⟩
theorem cc_leaves : scC (defScope s_leaves) n_leaves v_leaves v_leaves g_leaves = true := by decide +kernel
-- _law_worlds line 413
abbrev o_worlds_0 : List (Str × Nat) := [("_law_tape", 16)]
abbrev v_worlds_0 : List Str := ["_law_tape", "_law_tapes_here"]
abbrev l_worlds_0 : List Str := ["_law_tape"]
abbrev g_worlds_0 : List Str := []
abbrev s_worlds : Stmt := topS 82
abbrev n_worlds : List Str := ["_law_ground", "_law_book", "_law_stand", "_law_reading_here", "_law_b", "_law_batches", "_law_most", "_law_some", "_law_found", "_law_row", "_law_weavings", "_law_shelf", "_law_longer", "_law_tapes_here", "_law_weaving", "_law_choice", "_law_tape"]
abbrev v_worlds : List Str := ["_law_ground", "_law_book", "_law_stand", "_law_reading_here", "_law_b", "_law_batches", "_law_most", "_law_some", "_law_found", "_law_row", "_law_weavings", "_law_shelf", "_law_longer", "_law_tapes_here", "_law_weaving", "_law_choice"]
abbrev g_worlds : List Str := ["_law_all_rows", "list", "range", "len", "_law_tapes_for", "_law_is_world", "sorted"]
theorem sc_worlds : FnScope n_worlds ["_law_ground", "_law_book", "_law_stand", "_law_reading_here", "_law_b", "_law_batches", "_law_most"] (defScope s_worlds) := ⟨rfl, rfl, rfl, by decide +kernel, rfl, by decide +kernel, by decide +kernel⟩
theorem cc_worlds : scC (defScope s_worlds) n_worlds v_worlds v_worlds g_worlds = true := by decide +kernel
abbrev s_is_world : Stmt := topS 83
abbrev n_is_world : List Str := ["_law_ground", "_law_row", "_law_choice", "_law_weaving", "_law_reading_here", "_law_shelf", "_law_cells"]
abbrev v_is_world : List Str := ["_law_ground", "_law_row", "_law_choice", "_law_weaving", "_law_reading_here", "_law_shelf", "_law_cells"]
abbrev g_is_world : List Str := ["enumerate", "_law_woven", "_law_leaves"]
theorem sc_is_world : FnScope n_is_world ["_law_ground", "_law_row", "_law_choice", "_law_weaving", "_law_reading_here"] (defScope s_is_world) := ⟨rfl, rfl, rfl, by decide +kernel, rfl, by decide +kernel, by decide +kernel⟩
theorem cc_is_world : scC (defScope s_is_world) n_is_world v_is_world v_is_world g_is_world = true := by decide +kernel
-- _law_tiny line 431
abbrev o_tiny_0 : List (Str × Nat) := [("_law_point", 7)]
abbrev v_tiny_0 : List Str := ["_law_point", "_law_pool_here", "_law_bounds"]
abbrev l_tiny_0 : List Str := ["_law_point"]
abbrev g_tiny_0 : List Str := ["_law_pick"]
abbrev s_tiny : Stmt := topS 84
abbrev n_tiny : List Str := ["_law_pool_here", "_law_k", "_law_p", "_law_points", "_law_bounds", "_law_rows", "_law_turn", "_law_point"]
abbrev v_tiny : List Str := ["_law_pool_here", "_law_k", "_law_p", "_law_points", "_law_bounds", "_law_rows", "_law_turn"]
abbrev g_tiny : List Str := ["_law_draw", "_law_pick", "_law_turned", "range", "tuple"]
theorem sc_tiny : FnScope n_tiny ["_law_pool_here"] (defScope s_tiny) := ⟨rfl, rfl, rfl, by decide +kernel, rfl, by decide +kernel, by decide +kernel⟩
theorem cc_tiny : scC (defScope s_tiny) n_tiny v_tiny v_tiny g_tiny = true := by decide +kernel
-- _law_tapes line 434
abbrev o_tapes_0 : List (Str × Nat) := [("_law_shelf", 3)]
abbrev v_tapes_0 : List Str := ["_law_shelf", "_law_pool_here", "_law_most"]
abbrev l_tapes_0 : List Str := ["_law_shelf"]
abbrev g_tapes_0 : List Str := ["tuple", "range", "_law_draw"]
-- _law_tapes line 434
abbrev o_tapes_1 : List (Str × Nat) := [("_law_turn", 4)]
abbrev v_tapes_1 : List Str := ["_law_turn", "_law_pool_here"]
abbrev l_tapes_1 : List Str := ["_law_turn"]
abbrev g_tapes_1 : List Str := ["_law_draw"]
abbrev s_tapes : Stmt := topS 85
abbrev n_tapes : List Str := ["_law_pool_here", "_law_many", "_law_most", "_law_shelf", "_law_turn"]
abbrev v_tapes : List Str := ["_law_pool_here", "_law_many", "_law_most"]
abbrev g_tapes : List Str := ["tuple", "range"]
theorem sc_tapes : FnScope n_tapes ["_law_pool_here", "_law_many", "_law_most"] (defScope s_tapes) := ⟨rfl, rfl, rfl, by decide +kernel, rfl, by decide +kernel, by decide +kernel⟩
theorem cc_tapes : scC (defScope s_tapes) n_tapes v_tapes v_tapes g_tapes = true := by decide +kernel
-- _law_reading line 437
abbrev o_reading_0 : List (Str × Nat) := [("_law_tape", 6)]
abbrev v_reading_0 : List Str := ["_law_tape", "_law_pool_here", "_law_ground"]
abbrev l_reading_0 : List Str := ["_law_tape"]
abbrev g_reading_0 : List Str := ["tuple"]
-- _law_reading line 437
abbrev o_reading_1 : List (Str × Nat) := [("_law_b", 7)]
abbrev v_reading_1 : List Str := ["_law_b", "_law_pool_here", "_law_ground"]
abbrev l_reading_1 : List Str := ["_law_b"]
abbrev g_reading_1 : List Str := ["_law_draw"]
-- _law_reading line 440
abbrev o_reading_2 : List (Str × Nat) := [("_law_cells", 8)]
abbrev v_reading_2 : List Str := ["_law_cells"]
abbrev l_reading_2 : List Str := ["_law_cells"]
abbrev g_reading_2 : List Str := ["tuple"]
-- _law_reading line 440
abbrev o_reading_3 : List (Str × Nat) := [("_law_cell", 9)]
abbrev v_reading_3 : List Str := ["_law_cell"]
abbrev l_reading_3 : List Str := ["_law_cell"]
abbrev g_reading_3 : List Str := ["int"]
abbrev s_reading : Stmt := topS 86
abbrev n_reading : List Str := ["_law_pool_here", "_law_ground", "_law_book", "_law_weaving", "_law_whole", "_law_found", "_law_tape", "_law_b", "_law_cells", "_law_cell"]
abbrev v_reading : List Str := ["_law_pool_here", "_law_ground", "_law_book", "_law_weaving", "_law_whole", "_law_found"]
abbrev g_reading : List Str := ["_law_draw", "tuple", "_law_woven", "_law_batch", "_law_stopped", "_law_stop", "_law_pick"]
theorem sc_reading : FnScope n_reading ["_law_pool_here", "_law_ground", "_law_book", "_law_weaving"] (defScope s_reading) := ⟨rfl, rfl, rfl, by decide +kernel, rfl, by decide +kernel, by decide +kernel⟩
theorem cc_reading : scC (defScope s_reading) n_reading v_reading v_reading g_reading = true := by decide +kernel
-- _law_due_right line 448
abbrev o_due_right_0 : List (Str × Nat) := [("_law_batch_here", 6)]
abbrev v_due_right_0 : List Str := ["_law_batch_here", "_law_place"]
abbrev l_due_right_0 : List Str := ["_law_batch_here"]
abbrev g_due_right_0 : List Str := []
abbrev s_due_right : Stmt := topS 87
abbrev n_due_right : List Str := ["_law_ground", "_law_those", "_law_told", "_law_numbers", "_law_place", "_law_some", "_law_batch_here"]
abbrev v_due_right : List Str := ["_law_ground", "_law_those", "_law_told", "_law_numbers", "_law_place", "_law_some"]
abbrev g_due_right : List Str := ["len", "range", "min", "max", "isinstance", "tuple"]
theorem sc_due_right : FnScope n_due_right ["_law_ground", "_law_those", "_law_told"] (defScope s_due_right) := ⟨rfl, rfl, rfl, by decide +kernel, rfl, by decide +kernel, by decide +kernel⟩
theorem cc_due_right : scC (defScope s_due_right) n_due_right v_due_right v_due_right g_due_right = true := by decide +kernel
-- law line 460
abbrev o_law_0 : List (Str × Nat) := [("_law_cells", 11)]
abbrev v_law_0 : List Str := ["_law_cells"]
abbrev l_law_0 : List Str := ["_law_cells"]
abbrev g_law_0 : List Str := ["len"]
abbrev s_law : Stmt := topS 88
abbrev n_law : List Str := ["_law_script", "_law_pool_here", "_law_ground", "_law_book", "_law_most", "_law_weaving", "_law_reading_here", "_law_stand", "_law_lies", "_law_b", "_law_those", "_law_cells"]
abbrev v_law : List Str := ["_law_script", "_law_pool_here", "_law_ground", "_law_book", "_law_most", "_law_weaving", "_law_reading_here", "_law_stand", "_law_lies", "_law_b", "_law_those"]
abbrev g_law : List Str := ["_law_pool", "_law_tiny", "len", "_law_draw", "_law_tapes", "_law_reading", "max", "range", "_law_worlds", "_law_due_right", "read"]
theorem sc_law : FnScope n_law ["_law_script"] (defScope s_law) := ⟨rfl, rfl, rfl, by decide +kernel, rfl, by decide +kernel, by decide +kernel⟩
theorem cc_law : scC (defScope s_law) n_law v_law v_law g_law = true := by decide +kernel
end Fs
-- FsU
/-! cells_by, by hand: a dict of lists that grow. -/
namespace Fs
open PySem PySem.Spec PyProof.Rows L2

/-! ### what it makes -/
def cbSet (kvs : List (D × D)) (n : Int) (d : D) : List (D × D) :=
  match getK kvs n with
  | some (.list xs) => setK kvs n (.list (xs ++ [d]))
  | _ => setK kvs n (.list [d])
def cbTape (s : Int) : List D → List (D × D) → List (D × D) → Option (List (D × D))
  | [], _, found => some found
  | .tuple [.int n, c] :: cells, places, found =>
    match (getK places n).getD (.int 0) with
    | .int m => if places.length < 1000 ∧ found.length < 1000 ∧ (keysD places).Nodup ∧ found.all (fun z => decide (lenD z.2 < 1000)) = true then cbTape s cells (setK places n (.int (m + 1))) (cbSet found n (.tuple [.int s, .int m, c])) else none
    | _ => none
  | _, _, _ => none
def cbGo (ls : List D) : Int → List D → List (D × D) → Option (List (D × D))
  | _, [], found => some found
  | s, .tuple cells :: tapes, found => match atI ls s with
    | some (.int l) => (cbTape s (cutD cells none (some l)) [] found).bind (cbGo ls (s + 1) tapes)
    | _ => none
  | _, _, _ => none
def R_cells_by : List D → Option (List (D × D))
  | [.tuple reading, .tuple ls] => cbGo ls 0 reading []
  | _ => none

/-! ### the dict of lists, owned -/
abbrev LT := List (Int × Addr × List D)
abbrev lx (L : LT) : List (Key × V) := L.map fun t => (.inl t.1, .ref t.2.1)
abbrev lk (L : LT) : List (D × D) := L.map fun t => (.int t.1, .list t.2.2)
structure DLL (K : Frag) (B : Base) (F H : Hp) (l : Addr) (L : LT) : Prop where
  hb : B.H l = none
  hf : F l = none
  hh : H l = some (.dK (lx L))
  nk : (L.map (·.1)).Nodup
  na : (L.map (·.2.1)).Nodup
  at_ : ∀ t ∈ L, B.H t.2.1 = none ∧ F t.2.1 = none ∧ ∃ ys, H t.2.1 = some (.lst ys) ∧ Reps K F ys t.2.2
theorem DLL.step {K : Frag} {B : Base} {F H F' H' : Hp} {l : Addr} {L : LT} (h : DLL K B F H l L) (st : Step F H none F' H' none) : DLL K B F' H' l L := by
  have np : ∀ a, NotP none a := fun a _ z => nomatch z
  refine ⟨h.hb, by rw [st.new l (by rw [h.hh]; exact fun z => nomatch z)]; exact h.hf, st.fr _ _ h.hh (np _), h.nk, h.na, fun t ht => ?_⟩
  obtain ⟨g1, g2, ys, g3, g4⟩ := h.at_ t ht
  exact ⟨g1, by rw [st.new _ (by rw [g3]; exact fun z => nomatch z)]; exact g2, ys, st.fr _ _ g3 (np _), g4.up st.ext⟩
/-- a change elsewhere -/
theorem DLL.upd {K : Frag} {B : Base} {F H : Hp} {l p : Addr} {L : LT} {u : HO} (h : DLL K B F H l L) (hp : p ≠ l) (hl : ∀ ys, H p ≠ some (.lst ys)) : DLL K B F (upd H p u) l L := by
  refine ⟨h.hb, h.hf, by rw [upd_ne (Ne.symm hp)]; exact h.hh, h.nk, h.na, fun t ht => ?_⟩
  obtain ⟨g1, g2, ys, g3, g4⟩ := h.at_ t ht
  exact ⟨g1, g2, ys, by rw [upd_ne (fun z => hl ys (by rw [← z]; exact g3))]; exact g3, g4⟩
def DL (K : Frag) (B : Base) (F H : Hp) (l : Addr) (kvs : List (D × D)) : Prop := ∃ L, kvs = lk L ∧ DLL K B F H l L
theorem DL.step {K : Frag} {B : Base} {F H F' H' : Hp} {l : Addr} {kvs : List (D × D)} (h : DL K B F H l kvs) (st : Step F H none F' H' none) : DL K B F' H' l kvs := let ⟨L, e, q⟩ := h; ⟨L, e, q.step st⟩
theorem DL.upd {K : Frag} {B : Base} {F H : Hp} {l p : Addr} {kvs : List (D × D)} {u : HO} (h : DL K B F H l kvs) (hp : p ≠ l) (hl : ∀ ys, H p ≠ some (.lst ys)) : DL K B F (upd H p u) l kvs := let ⟨L, e, q⟩ := h; ⟨L, e, q.upd hp hl⟩

theorem lx_val (n : Int) : ∀ L : LT, valV (lx L) (.inl n : Key) = (L.find? fun t => decide (t.1 = n)).map fun t => V.ref t.2.1
  | [] => rfl
  | t :: L => by
    have ih := lx_val n L
    by_cases e : t.1 = n
    · rw [List.find?_cons, show (decide (t.1 = n)) = true from decide_eq_true e]
      exact valV_pos (by simp [e])
    · rw [List.find?_cons, show (decide (t.1 = n)) = false from decide_eq_false e]
      rw [← ih]
      exact valV_neg (by simpa using e)
theorem lk_get (n : Int) : ∀ L : LT, getK (lk L) n = (L.find? fun t => decide (t.1 = n)).map fun t => PyData.list t.2.2
  | [] => rfl
  | t :: L => by
    have ih := lk_get n L
    show getK ((.int t.1, .list t.2.2) :: lk L) n = _
    unfold getK
    by_cases e : t.1 = n
    · rw [if_pos e, List.find?_cons, show (decide (t.1 = n)) = true from decide_eq_true e]
      rfl
    · rw [if_neg e, List.find?_cons, show (decide (t.1 = n)) = false from decide_eq_false e]
      exact ih
def lUp (n : Int) (Y : List D) (L : LT) : LT := L.map fun u => if u.1 = n then (u.1, u.2.1, Y) else u
theorem lUp_x (n : Int) (Y : List D) (L : LT) : lx (lUp n Y L) = lx L := by
  unfold lUp lx
  rw [List.map_map]
  refine List.map_congr_left fun u _ => ?_
  simp only [Function.comp]
  split <;> rfl
theorem lUp_id {n : Int} {Y : List D} : ∀ {L : LT}, n ∉ L.map (·.1) → lUp n Y L = L
  | [], _ => rfl
  | t :: L, h => by
    simp only [List.map_cons, List.mem_cons, not_or] at h
    show (if t.1 = n then _ else t) :: lUp n Y L = _
    rw [if_neg (fun z => h.1 z.symm), lUp_id h.2]
theorem lk_set {n : Int} {Y : List D} : ∀ {L : LT}, (L.map (·.1)).Nodup → n ∈ L.map (·.1) → setK (lk L) n (.list Y) = lk (lUp n Y L)
  | [], _, h => by cases h
  | t :: L, hn, h => by
    simp only [List.map_cons, List.nodup_cons] at hn
    show setK ((.int t.1, .list t.2.2) :: lk L) n (.list Y) = lk ((if t.1 = n then (t.1, t.2.1, Y) else t) :: lUp n Y L)
    unfold setK
    by_cases e : t.1 = n
    · subst e
      rw [if_pos rfl, if_pos rfl, lUp_id hn.1]
      rfl
    · rw [if_neg e, if_neg e]
      have h' : n ∈ L.map (·.1) := by
        simp only [List.map_cons, List.mem_cons] at h
        rcases h with h | h
        · exact absurd h.symm e
        · exact h
      rw [lk_set hn.2 h']
      rfl
theorem uniq_key {n : Int} {t : Int × Addr × List D} : ∀ {L : LT}, (L.map (·.1)).Nodup → (L.find? fun t => decide (t.1 = n)) = some t → t ∈ L ∧ t.1 = n ∧ ∀ u ∈ L, u.1 = n → u = t
  | [], _, h => by cases h
  | v :: L, hn, h => by
    simp only [List.map_cons, List.nodup_cons] at hn
    rw [List.find?_cons] at h
    by_cases e : v.1 = n
    · rw [show (decide (v.1 = n)) = true from decide_eq_true e] at h
      cases h
      refine ⟨List.mem_cons_self, e, fun u hu hn' => ?_⟩
      rcases List.mem_cons.mp hu with rfl | hu
      · rfl
      · exact absurd (List.mem_map.mpr ⟨u, hu, hn'.trans e.symm⟩) hn.1
    · rw [show (decide (v.1 = n)) = false from decide_eq_false e] at h
      obtain ⟨h1, h2, h3⟩ := uniq_key hn.2 h
      refine ⟨List.mem_cons_of_mem _ h1, h2, fun u hu hn' => ?_⟩
      rcases List.mem_cons.mp hu with rfl | hu
      · exact absurd hn' e
      · exact h3 u hu hn'
theorem no_key {n : Int} {L : LT} (h : (L.find? fun t => decide (t.1 = n)) = none) : n ∉ L.map (·.1) := fun hm => by
  obtain ⟨u, hu, e⟩ := List.mem_map.mp hm
  have := List.find?_eq_none.mp h u hu
  simp [e] at this
/-- a place that no slot owns is changed -/
theorem Holds.mutX {K : Frag} {B : Base} {F H : Hp} {σ : L2.St} {ρ : List Slot} {pi : PSt} {a : Addr} {u : HO} (h : Holds K B F H σ ρ pi) (hb : B.H a = none) (hf : F a = none) (ho : ∀ (i : Nat) (s : Slot), ρ[i]? = some s → Owned s → σ[i]? ≠ some (some (.ref a))) : Holds K B F (upd H a u) σ ρ pi := by
  refine ⟨h.st.mut hb hf, h.len, fun j t ej => ?_, h.sep⟩
  obtain ⟨o, q1, q2⟩ := h.at_ j t ej
  refine ⟨o, q1, ?_⟩
  cases t with
  | non => trivial
  | val d => exact q2
  | pool => exact q2
  | lock n => exact q2
  | own ds =>
    obtain ⟨m, xs, e, hb', hf', hh, r⟩ := q2
    subst e
    exact ⟨m, xs, rfl, hb', hf', by rw [upd_ne (fun z => ho j _ ej trivial (by rw [q1, z]))]; exact hh, r⟩
  | odic ds =>
    obtain ⟨m, xs, e, hb', hf', hh, r⟩ := q2
    subst e
    exact ⟨m, xs, rfl, hb', hf', by rw [upd_ne (fun z => ho j _ ej trivial (by rw [q1, z]))]; exact hh, r⟩
section
variable {X : Cx} {sc : Scope} {B : Base} {N Vs L0 G : List Str} {k : Nat} {ρ ρ' : List Slot} {pos apos cpos apos2 cpos2 p1 p2 : Pos} {a b : Expr} {x : Str} {i : Nat} {n : Int} {d : D} {l : Addr} {kvs : List (D × D)}
theorem evO_ref {F H : Hp} {σ : L2.St} (hh : Holds X.K B F H σ ρ none) (hod : ∀ (j : Nat) (s : Slot), ρ[j]? = some s → Owned s → (∃ kv, s = .odic kv) ∧ σ[j]? ≠ some (some (.ref l))) {a : Addr} {ys : List V} (h : H a = some (.lst ys)) (j : Nat) (s : Slot) (e : ρ[j]? = some s) (o : Owned s) : σ[j]? ≠ some (some (.ref a)) := fun z => by
  obtain ⟨⟨kv, rfl⟩, _⟩ := hod j s e o
  obtain ⟨o', e1, m, xs, rfl, hb, hf, hH, r⟩ := hh.at_ j _ e
  rw [z] at e1
  cases e1
  rw [h] at hH
  cases hH
/-- x.setdefault(a, []).append(b) -/
theorem wss_setd (fr : Fr X sc N Vs L0 G k) (hN : N[i]? = some x) (hx : x ∈ Vs) (ha : Ev X B a ρ none (.int n) none) (hb : Ev X B b ρ none d none) (hs : notStar a = true) (hs2 : notStar b = true) (hl1 : (apos.endLine == cpos.line) = true) (hl2 : (apos2.endLine == cpos2.line) = true) (hz : kvs.length < 1000)
    (σ : L2.St) (F H : Hp) (hh : Holds X.K B F H σ ρ none) (dl : DL X.K B F H l kvs) (e1 : σ[i]? = some (some (.ref l))) (hod : ∀ (j : Nat) (s : Slot), ρ[j]? = some s → Owned s → (∃ kv, s = .odic kv) ∧ σ[j]? ≠ some (some (.ref l))) (hsz : ∀ z ∈ kvs, lenD z.2 < 100000) (D' : Ends)
    (hD : ∀ F' H', Same F F' → Holds X.K B F' H' σ ρ none → DL X.K B F' H' l (cbSet kvs n d) → D'.nx σ H') :
    WSs X [.Expr (.Call (.Attribute (.Call (.Attribute (.Name x p1) "setdefault" apos) [a, .List [] p2] [] cpos) "append" apos2) [b] [] cpos2) pos] D' σ H := by
  obtain ⟨L, rfl, q⟩ := dl
  refine fun pins s I => (pss_one (ps_expr (pe_bm PySem.F.plainAttrs_list PySem.F.slot_list_append PySem.F.type_list_append mt_append (pe_dsetd (fr.pe hN hx) pe_W (pe_lst pa_nil) (m2_of rfl hs rfl hl1)) (pa_cons pe_W pa_nil (star_of hs2 _ _)) (by rfl) (by rw [star_of hs2]; rfl) hl2 (star_of hs2 _ _) rfl) (by rfl))).run pins s σ H _ I ?_
  refine ⟨_, e1, l, rfl, .inl ⟨_, Rd.of q.hh⟩, ha.run σ F H hh _ fun v F1 H1 s1 r1 => ?_⟩
  cases r1
  have q1 := q.step s1
  have hh1 := hh.step s1
  refine ⟨by show 0 ≤ sizeLine; decide, fun p hp => ?_⟩
  have s2 : Step F1 H1 none F1 (upd H1 p (.lst [])) none := Step.allocO s1.g1 hp
  have q2 := q1.step s2
  have hh2 := hh1.step s2
  have hlp : l ≠ p := ne_of_none q1.hh hp
  refine ⟨lx L, .inl n, q2.hh, rfl, Nat.lt_of_lt_of_le (by rw [List.length_map]; rw [List.length_map] at hz; exact hz) (by decide), fun v hv => ?_, fun hv => ?_⟩
  · -- there already
    rw [lx_val] at hv
    obtain ⟨t, ht, rfl⟩ := Option.map_eq_some_iff.mp hv
    obtain ⟨t1, t2, t3⟩ := uniq_key q.nk ht
    obtain ⟨g1, g2, ys, g3, g4⟩ := q2.at_ t t1
    refine ⟨.inl ⟨rfl, _, SqL.of g3⟩, hb.run σ F1 _ hh2 _ fun w F3 H3 s3 r3 => ?_⟩
    have q3 := q2.step s3
    obtain ⟨k1, k2, ys', k3, k4⟩ := q3.at_ t t1
    have hlen : ys'.length < 100000 := by
      rw [k4.len]
      exact hsz (.int t.1, .list t.2.2) (List.mem_map.mpr ⟨t, t1, rfl⟩)
    refine ⟨t.2.1, ys', w, rfl, rfl, k3, Nat.lt_of_lt_of_le hlen (by decide), ?_⟩
    have hh3 := (hh2.step s3).mutX (u := .lst (ys' ++ [w])) k1 k2 fun j s e o => evO_ref (hh2.step s3) hod k3 j s e o
    refine hD F3 _ ((s1.ext.trans s2.ext).trans s3.ext) hh3 ⟨lUp n (t.2.2 ++ [d]) L, ?_, ?_⟩
    · unfold cbSet
      rw [lk_get, ht]
      exact lk_set q.nk (List.mem_map.mpr ⟨t, t1, t2⟩)
    · have hlt : l ≠ t.2.1 := fun z => by
        have := q3.hh
        rw [z, k3] at this
        cases this
      have keep1 : (lUp n (t.2.2 ++ [d]) L).map (·.1) = L.map (·.1) := by
        unfold lUp
        rw [List.map_map]
        refine List.map_congr_left fun u _ => ?_
        simp only [Function.comp]
        split <;> rfl
      have keep2 : (lUp n (t.2.2 ++ [d]) L).map (·.2.1) = L.map (·.2.1) := by
        unfold lUp
        rw [List.map_map]
        refine List.map_congr_left fun u _ => ?_
        simp only [Function.comp]
        split <;> rfl
      refine ⟨q3.hb, q3.hf, by rw [upd_ne hlt, lUp_x]; exact q3.hh, by rw [keep1]; exact q3.nk, by rw [keep2]; exact q3.na, fun u hu => ?_⟩
      obtain ⟨u0, hu0, rfl⟩ := List.mem_map.mp hu
      by_cases eu : u0.1 = n
      · have := t3 u0 hu0 eu
        subst this
        simp only [if_pos eu]
        exact ⟨k1, k2, _, upd_same, k4.append (.cons r3 .nil)⟩
      · simp only [if_neg eu]
        obtain ⟨m1, m2, zs, m3, m4⟩ := q3.at_ u0 hu0
        have hne : u0.2.1 ≠ t.2.1 := fun z => by
          have : u0 = t := by
            have hp := List.pairwise_map.mp q.na
            exact Classical.byContradiction fun hd => by
              obtain ⟨i1, hi1, e1⟩ := List.getElem_of_mem hu0
              obtain ⟨i2, hi2, e2⟩ := List.getElem_of_mem t1
              have hij : i1 ≠ i2 := fun z => hd (by subst z; rw [← e1, ← e2])
              rcases Nat.lt_or_gt_of_ne hij with c | c
              · exact (List.pairwise_iff_getElem.mp hp i1 i2 hi1 hi2 c) (by rw [e1, e2]; exact z)
              · exact (List.pairwise_iff_getElem.mp hp i2 i1 hi2 hi1 c) (by rw [e1, e2]; exact z.symm)
          exact eu (by rw [this]; exact t2)
        exact ⟨m1, m2, zs, by rw [upd_ne hne]; exact m3, m4⟩
  · -- a new one
    rw [lx_val] at hv
    have ht : (L.find? fun t => decide (t.1 = n)) = none := by simpa using hv
    have hnk := no_key ht
    have hp1 : H p = none := fresh_of s1 hp
    have hBp : B.H p = none := fresh_of hh.st hp1
    have e3 : putK (lx L) (.inl n : Key) (.ref p) = lx L ++ [(.inl n, .ref p)] := by
      unfold putK
      rw [valV_any, lx_val, ht]
      rfl
    have hne : ∀ t ∈ L, t.2.1 ≠ p := fun t ht => by
      obtain ⟨_, _, ys, g3, _⟩ := q1.at_ t ht
      exact ne_of_none g3 hp
    have hlL : ∀ t ∈ L, t.2.1 ≠ l := fun t ht z => by
      obtain ⟨_, _, ys, g3, _⟩ := q1.at_ t ht
      have := q1.hh
      rw [← z, g3] at this
      cases this
    have q2' : DLL X.K B F1 (upd (upd H1 p (.lst [])) l (.dK (putK (lx L) (.inl n : Key) (.ref p)))) l (L ++ [(n, p, [])]) := by
      refine ⟨q1.hb, q1.hf, by rw [upd_same, e3]; simp [lx], ?_, ?_, fun t ht => ?_⟩
      · rw [List.map_append]
        exact List.nodup_append.mpr ⟨q.nk, by simp, fun a' ha' b' hb' => by
          simp at hb'
          subst hb'
          exact fun z => hnk (by rw [← z]; exact ha')⟩
      · rw [List.map_append]
        exact List.nodup_append.mpr ⟨q.na, by simp, fun a' ha' b' hb' => by
          simp at hb'
          subst hb'
          obtain ⟨t, ht, rfl⟩ := List.mem_map.mp ha'
          exact hne t ht⟩
      · rcases List.mem_append.mp ht with ht | ht
        · obtain ⟨g1, g2, ys, g3, g4⟩ := q1.at_ t ht
          exact ⟨g1, g2, ys, by rw [upd_ne (hlL t ht), upd_ne (hne t ht)]; exact g3, g4⟩
        · simp at ht
          subst ht
          exact ⟨hBp, s1.g1.fnone hp, [], by rw [upd_ne (Ne.symm hlp)]; exact upd_same, .nil⟩
    have hh2' := hh2.mutX (u := .dK (putK (lx L) (.inl n : Key) (.ref p))) q1.hb q1.hf fun j s e o => (hod j s e o).2
    have hHp : upd (upd H1 p (.lst [])) l (.dK (putK (lx L) (.inl n : Key) (.ref p))) p = some (.lst []) := by rw [upd_ne (Ne.symm hlp)]; exact upd_same
    refine ⟨.inl ⟨rfl, _, SqL.of hHp⟩, hb.run σ F1 _ hh2' _ fun w F3 H3 s3 r3 => ?_⟩
    have q3 := q2'.step s3
    obtain ⟨k1, k2, ys', k3, k4⟩ := q3.at_ (n, p, []) (by simp)
    cases k4
    refine ⟨p, [], w, rfl, rfl, k3, by show 0 < sizeLine; decide, ?_⟩
    have hh3 := (hh2'.step s3).mutX (u := .lst ([] ++ [w])) k1 k2 fun j s e o => evO_ref (hh2'.step s3) hod k3 j s e o
    refine hD F3 _ (s1.ext.trans s3.ext) hh3 ⟨L ++ [(n, p, [d])], ?_, ?_⟩
    · unfold cbSet
      rw [lk_get, ht]
      show setK (lk L) n (.list [d]) = _
      rw [setK_new (by rw [lk_get, ht]; rfl)]
      simp [lk]
    · refine ⟨q3.hb, q3.hf, by rw [upd_ne hlp]; have := q3.hh; simpa [lx] using this, by have := q3.nk; simpa using this, by have := q3.na; simpa using this, fun t ht => ?_⟩
      rcases List.mem_append.mp ht with ht | ht
      · obtain ⟨g1, g2, ys, g3, g4⟩ := q3.at_ t (by simp [ht])
        exact ⟨g1, g2, ys, by rw [upd_ne (hne t ht)]; exact g3, g4⟩
      · simp at ht
        subst ht
        exact ⟨k1, k2, _, upd_same, .cons r3 .nil⟩
end
end Fs
-- FsU2
/-! cells_by, by hand: its loops. -/
namespace Fs
open PySem PySem.Spec PyProof.Rows L2
section
variable {X : Cx} {sc : Scope} {B : Base} {N Vs L0 G : List Str} {k : Nat} {ρ ρ' : List Slot} {pos : Pos} {tg it : Expr} {st : Stmt} {rest body : List Stmt} {ds : List D}
theorem wss_cons {t : TS} {D' : Ends} {σ : L2.St} {H : Hp} (hst : L2.PS X st t) (h : t { D' with nx := fun σ' H' => WSs X rest D' σ' H' } σ H) : WSs X (st :: rest) D' σ H := fun pins s I => (pss_cons hst pss_W).run pins s σ H _ I h
theorem wss_for (fr : Fr X sc N Vs L0 G k) (hi : EvI X B tg it ρ none ds none) (Jv : Nat → L2.St → Hp → Hp → List Slot → Prop) (σ : L2.St) (F H : Hp) (hh : Holds X.K B F H σ ρ none) (D' : Ends)
    (h0 : ∀ F' H', Step F H none F' H' none → Jv 0 σ F' H' ρ)
    (turn : ∀ i d σ' F' H' ρ1, ds[i]? = some d → Holds X.K B F' H' σ' ρ1 none → Jv i σ' F' H' ρ1 → ∃ ρ2 is, Asg X B tg d ρ1 ρ2 is ∧ ∀ F2 H2 σ2, Step F' H' none F2 H2 none → (∀ j, j ∉ is → σ2[j]? = σ'[j]?) → Holds X.K B F2 H2 σ2 ρ2 none →
      ∀ Dq : Ends, (∀ σ3 F3 H3 ρ3, Same F2 F3 → Holds X.K B F3 H3 σ3 ρ3 none → Jv (i + 1) σ3 F3 H3 ρ3 → Dq.nx σ3 H3) → WSs X body Dq σ2 H2)
    (done : ∀ σ' F' H' ρ1, Same F F' → Holds X.K B F' H' σ' ρ1 none → Jv ds.length σ' F' H' ρ1 → WSs X rest D' σ' H') (hs : ∀ env x, foldedSetIterable it env x = pure x) : WSs X (.For tg it body [] pos :: rest) D' σ H :=
  wss_cons (ps_for (by rw [fr.xe]; exact PassesOwn.never) fr.calm pi_W pg_W pss_W (hs _)) (hi.run σ F H hh _ fun J F1 H1 s1 w => by
    refine ⟨fun i m σ' H' => m = ds.length - i ∧ i ≤ ds.length ∧ ∃ F' ρ1, Same F1 F' ∧ Holds X.K B F' H' σ' ρ1 none ∧ Jv i σ' F' H' ρ1, ⟨_, rfl, Nat.zero_le _, F1, ρ, Same.refl _, hh.step s1, h0 F1 H1 s1⟩, ?_⟩
    rintro i m σ' H' ⟨rfl, hi, F', ρ1, sF, h1, iv⟩
    by_cases hlt : i < ds.length
    · refine .inr ⟨w.go i H' hlt (sF.trans h1.good.sub), fun σ2 H2 => ∃ F2 ρ2, Same F1 F2 ∧ Holds X.K B F2 H2 σ2 ρ2 none ∧ Jv (i + 1) σ2 F2 H2 ρ2, fun σ2 H2 ⟨F2, ρ2, q1, q2, q3⟩ => ?_, fun v H2 y => ?_⟩
      · exact ⟨ds.length - (i + 1), by omega, rfl, hlt, F2, ρ2, q1, q2, q3⟩
      · obtain ⟨d, F2, ed, st, r⟩ := walks_turn w h1.good sF hlt y
        obtain ⟨ρ2, is, ha, hx⟩ := turn i d σ' F' H' ρ1 ed h1 iv
        have hF2 : Same F1 F2 := sF.trans st.ext
        refine ha.run σ' F2 H2 none v (h1.step st) r _ fun σ2 _ k2 h2 => ?_
        exact hx F2 H2 σ2 st k2 h2 _ fun σ3 F3 H3 ρ3 s3 q2 q3 => ⟨F3, ρ3, hF2.trans s3, q2, q3⟩
    · have e : i = ds.length := by omega
      subst e
      exact .inl ⟨w.stop H' (sF.trans h1.good.sub), done σ' F' H' ρ1 (s1.ext.trans sF) h1 iv⟩)
end

/-! ### the text -/
def cbIn (T : Tab) (N : List Str) (sc : Scope) (sto : Str → Bool) : List Stmt → Bool
  | [.Assign [.Name pc _] g _, .Assign [.Subscript (.Name pl _) k1 _] v _, .Expr (.Call (.Attribute (.Call (.Attribute (.Name f _) m1 ap1) [k2, .List [] _] [] cp1) m2 ap2) [tp] [] cp2) _] =>
      decide (N[8]? = some pc) && sto pc && notComp g && chk T N (.getO 5 (.v 6) (.k (.int 0))) sc sto g &&
      nmC sc N 5 pl && notSl k1 && notComp v && chk T N (.v 6) sc sto k1 && chk T N (.bin .add (.v 8) (.k (.int 1))) sc sto v &&
      decide (m1 = "setdefault") && decide (m2 = "append") && (ap1.endLine == cp1.line) && (ap2.endLine == cp2.line) && notStar k2 && notStar tp && nmC sc N 2 f && chk T N (.v 6) sc sto k2 && chk T N (.tup (.cons (.v 3) (.cons (.v 8) (.cons (.v 7) .nil)))) sc sto tp
  | _ => false
def cbOut (T : Tab) (N : List Str) (sc : Scope) (sto : Str → Bool) : List Stmt → Bool
  | [.Assign [.Name pl _] (.Dict [] [] _) _, .For te ie b [] _] => decide (N[5]? = some pl) && sto pl && notSet ie && (Tg.tup (.cons (.n 6) (.cons (.n 7) .nil))).chk sto N te && chkI T N (.seq (.slTo (.v 4) (.ix (.v 1) (.v 3)))) sc sto te ie && cbIn T N sc sto b
  | _ => false
def cbChk (T : Tab) (N : List Str) (sc : Scope) (sto : Str → Bool) : List Stmt → Bool
  | [.Assign [.Name f _] (.Dict [] [] _) _, .For te ie b [] _, .Return (some (.Name f2 _)) _] => decide (N[2]? = some f) && sto f && nmC sc N 2 f2 && notSet ie && (Tg.tup (.cons (.n 3) (.cons (.n 4) .nil))).chk sto N te && chkI T N (.enum (.v 0)) sc sto te ie && cbOut T N sc sto b
  | _ => false
def t_cells_by : Tab := ⟨[], [], [], []⟩
theorem cb_text : (scC (defScope s_cells_by) n_cells_by [] [] [] && cbChk t_cells_by n_cells_by (defScope s_cells_by) (locC (defScope s_cells_by)) (defBody s_cells_by)) = true := by decide +kernel

abbrev RhoI (rd ls : List D) (s : Int) (tape : List D) (places : List (D × D)) (x6 x7 x8 : Slot) : List Slot := [.val (.tuple rd), .val (.tuple ls), .lock 0, .val (.int s), .val (.tuple tape), .odic places, x6, x7, x8]
theorem rho_own {rd ls : List D} {s : Int} {tape : List D} {places : List (D × D)} {x6 x7 x8 : Slot} (h6 : ¬ Owned x6) (h7 : ¬ Owned x7) (h8 : ¬ Owned x8) {j : Nat} {t : Slot} (e : (RhoI rd ls s tape places x6 x7 x8)[j]? = some t) (o : Owned t) : j = 5 ∧ t = .odic places := by
  match j, e with
  | 0, e => cases e; exact o.elim
  | 1, e => cases e; exact o.elim
  | 2, e => cases e; exact o.elim
  | 3, e => cases e; exact o.elim
  | 4, e => cases e; exact o.elim
  | 5, e => cases e; exact ⟨rfl, rfl⟩
  | 6, e => cases e; exact absurd o h6
  | 7, e => cases e; exact absurd o h7
  | 8, e => cases e; exact absurd o h8
  | j + 9, e => simp at e
section
variable {T : Tab} {X : Cx} {sc : Scope} {sto : Str → Bool} {N : List Str} {k : Nat} {B : Base} {sts : List Stmt} {rd ls : List D} {s n m : Int} {tape : List D} {places found : List (D × D)} {x6 x7 x8 : Slot} {c : D} {l : Addr}
theorem cb_in (fr : FrA X sc sto N k) (en : En T X k) (h : cbIn T N sc sto sts = true) (hlk : B.lk 0 = .ref l) (h8 : ¬ Owned x8) (hm : (getK places n).getD (.int 0) = .int m) (hp : places.length < 1000) (hf : found.length < 1000) (hn : (keysD places).Nodup) (hs : found.all (fun z => decide (lenD z.2 < 1000)) = true)
    (σ : L2.St) (F H : Hp) (hh : Holds X.K B F H σ (RhoI rd ls s tape places (.val (.int n)) (.val c) x8) none) (dl : DL X.K B F H l found) (h5 : σ[5]? ≠ some (some (.ref l))) (Dq : Ends)
    (q : ∀ σ3 F3 H3, Same F F3 → Holds X.K B F3 H3 σ3 (RhoI rd ls s tape (setK places n (.int (m + 1))) (.val (.int n)) (.val c) (.val (.int m))) none → DL X.K B F3 H3 l (cbSet found n (.tuple [.int s, .int m, c])) → σ3[5]? ≠ some (some (.ref l)) → Dq.nx σ3 H3) : WSs X sts Dq σ H := by
  unfold cbIn at h
  split at h <;> first | (cases h; done) | skip
  rename_i pc ppc g pg pl ppl k1 pk1 v pv f pf m1 ap1 k2 pk2 cp1 m2 ap2 tp cp2 ps
  simp only [Bool.and_eq_true, decide_eq_true_eq] at h
  obtain ⟨⟨⟨⟨⟨⟨⟨⟨⟨⟨⟨⟨⟨⟨⟨⟨⟨g1, g2⟩, g3⟩, g4⟩, g5⟩, g6⟩, g7⟩, g8⟩, g9⟩, rfl⟩, rfl⟩, g12⟩, g13⟩, g14⟩, g15⟩, g16⟩, g17⟩, g18⟩ := h
  -- place = places.get(number, 0)
  have F1r := fr.fr [] [pc] [] rfl (by simp [g2]) rfl
  refine wss_cons (ps_set (i := 8) (by rw [F1r.hN]; exact F1r.nd) (by rw [F1r.hN]; exact g1) (F1r.sto pc (by simp)).1 pe_W (comp_of g3 _ _ _) (F1r.sto pc (by simp)).2) ?_
  refine ((snd _).dd (pj := none) (d := .int m) fr en g4 ?_).run σ F H hh _ fun v1 F1 H1 s1 r1 => ?_
  · show dOf (some (.val ((getK places n).getD (.int 0)), none)) = _
    rw [hm]
    rfl
  have hh1 := (hh.step s1).setVal (i := 8) (v := v1) (d := .int m) (by show 8 < 9; decide) r1
  have dl1 := dl.step s1
  have h51 : (σ.set 8 (some v1))[5]? ≠ some (some (.ref l)) := by rw [List.getElem?_set_ne (by decide)]; exact h5
  show WSs X _ _ (σ.set 8 (some v1)) H1
  generalize σ.set 8 (some v1) = σ1 at hh1 h51 ⊢
  replace hh1 : Holds X.K B F1 H1 σ1 (RhoI rd ls s tape places (.val (.int n)) (.val c) (.val (.int m))) none := hh1
  -- places[number] = place + 1
  obtain ⟨F2r, hN5⟩ := nm_fr fr g5
  refine wss_cons (ps_asg pe_W (pg_sub (F2r.pe hN5 (by simp)) pe_W (set_dict F2r.u1) (by intro v; cases k1 <;> first | rfl | cases g6)) (sole_sub g7) sub_none (by rfl)) ?_
  refine ((snd _).dd (pj := none) (d := .int (m + 1)) fr en g9 rfl).run σ1 F1 H1 hh1 _ fun v2 F2 H2 s2 r2 => ?_
  have hh2 := hh1.step s2
  obtain ⟨o, e1, p, xs, rfl, hB, hfp, hH, r⟩ := hh2.at_ 5 _ rfl
  refine ⟨_, e1, ((snd _).dd (pj := none) (d := .int n) fr en g8 rfl).run σ1 F2 H2 hh2 _ fun y F3 H3 s3 r3 => ?_⟩
  cases r3
  have hh3 := hh2.step s3
  have hm3 : H3 p = some (.dK xs) := s3.fr _ _ hH (hh2.notP hB)
  have f3 : F3 p = none := by
    rw [s3.new p (by rw [hH]; exact fun z => nomatch z)]
    exact hfp
  have rk := r.up s3.ext
  refine ⟨p, _, rfl, DPut.k (k := (.inl n : Key)) hm3 (Nat.lt_of_lt_of_le (by rw [rk.len]; exact hp) (by decide)), ?_⟩
  have hne : p ≠ l := fun z => h51 (by rw [e1, z])
  have hh4 := hh3.mut (s' := .odic (setK places n (.int (m + 1)))) (u := .dK (putK xs (.inl n) v2)) (i := 5) rfl trivial e1 ⟨p, _, rfl, hB, f3, upd_same, repK_put rk (r2.up s3.ext) hn⟩
  replace hh4 : Holds X.K B F3 (upd H3 p (.dK (putK xs (.inl n) v2))) σ1 (RhoI rd ls s tape (setK places n (.int (m + 1))) (.val (.int n)) (.val c) (.val (.int m))) none := hh4
  have dl4 := ((dl1.step s2).step s3).upd (u := .dK (putK xs (.inl n) v2)) hne (fun ys z => by rw [hm3] at z; cases z)
  -- found.setdefault(number, []).append((shelf, place, content))
  obtain ⟨F4r, hN2⟩ := nm_fr fr g16
  obtain ⟨o2, e2, e3⟩ := hh4.at_ 2 _ rfl
  have e3 : o2 = some (B.lk 0) := e3
  rw [hlk] at e3
  subst e3
  have hall : ∀ z ∈ found, lenD z.2 < 100000 := fun z hz => by
    have := List.all_eq_true.mp hs z hz
    simp only [decide_eq_true_eq] at this
    omega
  refine wss_setd F4r hN2 (by simp) ((snd _).dd (pj := none) (d := .int n) fr en g17 rfl |> fun z => z) ((snd _).dd (pj := none) (d := .tuple [.int s, .int m, c]) fr en g18 rfl) g14 g15 g12 g13 hf σ1 F3 _ hh4 dl4 e2 (fun j t ej oj => ?_) hall Dq fun F5 H5 sF hh5 dl5 => q σ1 F5 H5 (((s1.ext.trans s2.ext).trans s3.ext).trans sF) hh5 dl5 h51
  obtain ⟨rfl, rfl⟩ := rho_own (x6 := .val (.int n)) (x7 := .val c) (x8 := .val (.int m)) id id id ej oj
  exact ⟨⟨_, rfl⟩, h51⟩
theorem cbTape_cons {d : D} {cells : List D} {r : List (D × D)} (h : cbTape s (d :: cells) places found = some r) : ∃ n c m, d = .tuple [.int n, c] ∧ (getK places n).getD (.int 0) = .int m ∧ places.length < 1000 ∧ found.length < 1000 ∧ (keysD places).Nodup ∧ found.all (fun z => decide (lenD z.2 < 1000)) = true ∧
    cbTape s cells (setK places n (.int (m + 1))) (cbSet found n (.tuple [.int s, .int m, c])) = some r := by
  unfold cbTape at h
  split at h
  · rename_i heq; cases heq
  · rename_i heq
    cases heq
    split at h
    · obtain ⟨⟨i1, i2, i3, i4⟩, h⟩ := if_some h
      exact ⟨_, _, _, rfl, by assumption, i1, i2, i3, i4, h⟩
    · cases h
  · cases h
theorem cb_out {r1 : List (D × D)} {x5 : Slot} (fr : FrA X sc sto N k) (en : En T X k) (h : cbOut T N sc sto sts = true) (hlk : B.lk 0 = .ref l) (h6 : ¬ Owned x6) (h7 : ¬ Owned x7) (h8 : ¬ Owned x8) (hn : atI ls s = some (.int n)) (hr : cbTape s (cutD tape none (some n)) [] found = some r1)
    (σ : L2.St) (F H : Hp) (hh : Holds X.K B F H σ [.val (.tuple rd), .val (.tuple ls), .lock 0, .val (.int s), .val (.tuple tape), x5, x6, x7, x8] none) (dl : DL X.K B F H l found) (Dq : Ends)
    (q : ∀ σ3 F3 H3 y5 y6 y7 y8, Same F F3 → ¬ Owned y6 → ¬ Owned y7 → ¬ Owned y8 → Holds X.K B F3 H3 σ3 [.val (.tuple rd), .val (.tuple ls), .lock 0, .val (.int s), .val (.tuple tape), y5, y6, y7, y8] none → DL X.K B F3 H3 l r1 → Dq.nx σ3 H3) : WSs X sts Dq σ H := by
  unfold cbOut at h
  split at h <;> first | (cases h; done) | skip
  rename_i pl ppl pd pa te ie b pf
  simp only [Bool.and_eq_true, decide_eq_true_eq] at h
  obtain ⟨⟨⟨⟨⟨g1, g2⟩, g3⟩, g4⟩, g5⟩, g6⟩ := h
  have F1r := fr.fr [] [pl] [] rfl (by simp [g2]) rfl
  refine wss_cons (ps_set (i := 5) (by rw [F1r.hN]; exact F1r.nd) (by rw [F1r.hN]; exact g1) (F1r.sto pl (by simp)).1 pe_dnewK (by rfl) (F1r.sto pl (by simp)).2) fun p hp => ?_
  show WSs X _ _ (σ.set 5 (some (.ref p))) (upd H p (.dK []))
  have st : Step F H none F (upd H p (.dK [])) none := Step.allocO hh.good hp
  have hh1 := hh.put (s := .odic []) (i := 5) (v := .ref p) (H0 := H) st (by show 5 < 9; decide) ⟨p, [], rfl, hp, hh.good.fnone hp, upd_same, .nil⟩ fun _ z => z
  have dl1 := dl.step st
  have hpl : p ≠ l := fun z => by
    obtain ⟨L, _, dq⟩ := dl
    rw [z, dq.hh] at hp
    cases hp
  have h51 : (σ.set 5 (some (.ref p)))[5]? ≠ some (some (.ref l)) := by
    rw [List.getElem?_set_self (by rw [hh.len]; show 5 < 9; decide)]
    exact fun z => hpl (by cases z; rfl)
  generalize σ.set 5 (some (.ref p)) = σ1 at hh1 h51 ⊢
  replace hh1 : Holds X.K B F (upd H p (.dK [])) σ1 (RhoI rd ls s tape [] x6 x7 x8) none := hh1
  have hi : EvI X B te ie (RhoI rd ls s tape [] x6 x7 x8) none (cutD tape none (some n)) none := (snd _).it fr en g5 (by
    simp [run, sOf, iOf, dOf, lOf, toD, hn])
  refine wss_for (fr.fr [] [] [] rfl rfl rfl) hi (fun i σ' F' H' ρ1 => ∃ places fnd y6 y7 y8, ρ1 = RhoI rd ls s tape places y6 y7 y8 ∧ ¬ Owned y6 ∧ ¬ Owned y7 ∧ ¬ Owned y8 ∧ DL X.K B F' H' l fnd ∧ σ'[5]? ≠ some (some (.ref l)) ∧ Same F F' ∧ cbTape s ((cutD tape none (some n)).drop i) places fnd = some r1) σ1 F _ hh1 Dq
    (fun F' H' st' => ⟨[], found, x6, x7, x8, rfl, h6, h7, h8, dl1.step st', h51, st'.ext, hr⟩)
    (fun i d σ' F' H' ρ1 ed h1 iv => ?_) (fun σ' F' H' ρ1 sF h1 iv => ?_) (fun env v => set_of g3 env v)
  · obtain ⟨places, fnd, y6, y7, y8, rfl, k6, k7, k8, dl', k5, sF, iv⟩ := iv
    have e : (cutD tape none (some n)).drop i = d :: (cutD tape none (some n)).drop (i + 1) := by
      obtain ⟨hl, he⟩ := List.getElem?_eq_some_iff.mp ed
      rw [List.drop_eq_getElem_cons hl, he]
    rw [e] at iv
    obtain ⟨nn, c, m, rfl, hm, i1, i2, i3, i4, iv⟩ := cbTape_cons iv
    refine ⟨RhoI rd ls s tape places (.val (.int nn)) (.val c) y8, [6, 7], (asg_snd fr _).1 g4 rfl, fun F2 H2 σ2 s2 k2 hh2 Dq' qq => ?_⟩
    exact cb_in fr en g6 hlk k8 hm i1 i2 i3 i4 σ2 F2 H2 hh2 (dl'.step s2) (by rw [k2 5 (by decide)]; exact k5) Dq' fun σ3 F3 H3 s3 hh3 dl3 h53 => qq σ3 F3 H3 _ s3 hh3 ⟨_, _, _, _, _, rfl, id, id, id, dl3, h53, (sF.trans s2.ext).trans s3, iv⟩
  · obtain ⟨places, fnd, y6, y7, y8, rfl, k6, k7, k8, dl', k5, sF', iv⟩ := iv
    rw [List.drop_length] at iv
    cases iv
    exact fun pins s I => pss_nil.run pins s σ' H' _ I (q σ' F' H' _ y6 y7 y8 sF' k6 k7 k8 h1 dl')
end

theorem freezeL {K : Frag} {F H H' : Hp} : ∀ (L : LT) (F' : Hp), Step F H none F' H' none → (L.map (·.2.1)).Nodup → (∀ t ∈ L, H t.2.1 = none ∧ F' t.2.1 = none ∧ ∃ ys, H' t.2.1 = some (.lst ys) ∧ Reps K F' ys t.2.2) →
    ∃ F2, Step F H none F2 H' none ∧ (∀ a, (∀ t ∈ L, a ≠ t.2.1) → F2 a = F' a) ∧ Same F' F2 ∧ RepK K F2 (lx L) (lk L)
  | [], F', st, _, _ => ⟨F', st, fun _ _ => rfl, Same.refl _, .nil⟩
  | t :: L, F', st, hn, h => by
    simp only [List.map_cons, List.nodup_cons] at hn
    obtain ⟨h1, h2, ys, h3, h4⟩ := h t List.mem_cons_self
    have ne : ∀ u ∈ L, u.2.1 ≠ t.2.1 := fun u hu z => hn.1 (List.mem_map.mpr ⟨u, hu, z⟩)
    have sf : Same F' (upd F' t.2.1 (.lst ys)) := same_upd h2
    obtain ⟨F2, q1, q2, q3, q4⟩ := freezeL L (upd F' t.2.1 (.lst ys)) (st.freeze h1 h2 h3) hn.2 fun u hu => by
      obtain ⟨g1, g2, zs, g3, g4⟩ := h u (List.mem_cons_of_mem _ hu)
      exact ⟨g1, by rw [upd_ne (ne u hu)]; exact g2, zs, g3, g4.up sf⟩
    refine ⟨F2, q1, fun a ha => ?_, sf.trans q3, ?_⟩
    · rw [q2 a fun u hu => ha u (List.mem_cons_of_mem _ hu), upd_ne (ha t List.mem_cons_self)]
    · exact .cons (.lst (q3 _ _ upd_same) ((h4.up sf).up q3)) q4
theorem start_holds {K : Frag} {F0 H : Hp} {N : List Str} {vs : List V} {ds : List D} {lk : Nat → V} (sF : Same F0 H) (r : Reps K F0 vs ds) : Holds K ⟨F0, H, none, lk⟩ F0 H (L2.start N vs) (startS N (ds.map .val)) none := by
  refine ⟨Step.refl ⟨sF, trivial⟩, start_len (by simpa using r.len), start_at (by simpa using r.len) fun i t e => ?_, fun i j a t u ne e1 e2 o1 o2 z1 z2 => ?_⟩
  · rw [List.getElem?_map] at e
    cases ed : ds[i]? with
    | none => rw [ed] at e; cases e
    | some d =>
      rw [ed] at e
      cases e
      obtain ⟨v, ev, rv⟩ := r.get ed
      exact ⟨v, ev, v, rfl, rv⟩
  · have no : ∀ {i : Nat} {t : Slot}, (startS N (ds.map Slot.val))[i]? = some t → ¬ Owned t := fun {i t} e ho => by
      unfold startS at e
      have hm := List.mem_of_getElem? e
      rw [List.mem_append] at hm
      rcases hm with hm | hm
      · obtain ⟨d, _, rfl⟩ := List.mem_map.mp hm
        exact ho
      · have := List.eq_of_mem_replicate hm
        subst this
        exact ho
    exact no e1 o1
theorem cb_args {ds : List D} {kvs : List (D × D)} (h : R_cells_by ds = some kvs) : ∃ rd ls, ds = [.tuple rd, .tuple ls] ∧ cbGo ls 0 rd [] = some kvs := by
  unfold R_cells_by at h
  split at h
  · exact ⟨_, _, rfl, h⟩
  · cases h
theorem cbGo_cons {ls : List D} {s : Int} {d : D} {ds : List D} {fnd r : List (D × D)} (h : cbGo ls s (d :: ds) fnd = some r) : ∃ cells n r1, d = .tuple cells ∧ atI ls s = some (.int n) ∧ cbTape s (cutD cells none (some n)) [] fnd = some r1 ∧ cbGo ls (s + 1) ds r1 = some r := by
  unfold cbGo at h
  split at h
  · rename_i heq; cases heq
  · rename_i heq
    cases heq
    split at h
    · simp only [Option.bind_eq_some_iff] at h
      obtain ⟨r1, h1, h2⟩ := h
      exact ⟨_, _, r1, rfl, by assumption, h1, h2⟩
    · cases h
  · cases h
theorem cb_body {T : Tab} {X : Cx} {sc : Scope} {sto : Str → Bool} {k : Nat} {sts : List Stmt} {F0 H : Hp} {vs : List V} {rd ls : List D} {kvs : List (D × D)} (fr : FrA X sc sto n_cells_by k) (en : En T X k) (h : cbChk T n_cells_by sc sto sts = true) (sF : Same F0 H) (r : Reps X.K F0 vs [.tuple rd, .tuple ls]) (hg : cbGo ls 0 rd [] = some kvs) (Q : VK)
    (q : ∀ v F' H', Step F0 H none F' H' none → SlotNew X.K H F' H' v (.odic kvs) → Q v H') (Dq : Ends) (hq : Dq.rt = Q) : WSs X sts Dq (L2.start n_cells_by vs) H := by
  unfold cbChk at h
  split at h <;> first | (cases h; done) | skip
  rename_i f pf pd pa te ie b pfo f2 pf2 pr
  simp only [Bool.and_eq_true, decide_eq_true_eq] at h
  obtain ⟨⟨⟨⟨⟨⟨g1, g2⟩, g3⟩, g4⟩, g5⟩, g6⟩, g7⟩ := h
  have F1r := fr.fr [] [f] [] rfl (by simp [g2]) rfl
  refine wss_cons (ps_set (i := 2) (by rw [F1r.hN]; exact F1r.nd) (by rw [F1r.hN]; exact g1) (F1r.sto f (by simp)).1 pe_dnewK (by rfl) (F1r.sto f (by simp)).2) fun l hl => ?_
  show WSs X _ _ ((L2.start n_cells_by vs).set 2 (some (.ref l))) (upd H l (.dK []))
  have hh0 : Holds X.K ⟨F0, H, none, fun _ => .ref l⟩ F0 H (L2.start n_cells_by vs) (startS n_cells_by ([.tuple rd, .tuple ls].map .val)) none := start_holds sF r
  have st : Step F0 H none F0 (upd H l (.dK [])) none := Step.allocO hh0.good hl
  have hh1 := (hh0.step st).set (i := 2) (v := .ref l) (s := .lock 0) (by show 2 < 9; decide) rfl fun o => o.elim
  generalize (L2.start n_cells_by vs).set 2 (some (.ref l)) = σ1 at hh1 ⊢
  replace hh1 : Holds X.K ⟨F0, H, none, fun _ => .ref l⟩ F0 (upd H l (.dK [])) σ1 [.val (.tuple rd), .val (.tuple ls), .lock 0, .non, .non, .non, .non, .non, .non] none := hh1
  have dl1 : DL X.K ⟨F0, H, none, fun _ => .ref l⟩ F0 (upd H l (.dK [])) l [] := ⟨[], rfl, hl, hh0.good.fnone hl, upd_same, by simp, by simp, fun t ht => by cases ht⟩
  have hi : EvI X ⟨F0, H, none, fun _ => .ref l⟩ te ie [.val (.tuple rd), .val (.tuple ls), .lock 0, .non, .non, .non, .non, .non, .non] none (enumD 0 rd) none := (snd _).it fr en g6 rfl
  refine wss_for (fr.fr [] [] [] rfl rfl rfl) hi (fun i σ' F' H' ρ1 => ∃ fnd x3 x4 x5 x6 x7 x8, ρ1 = [.val (.tuple rd), .val (.tuple ls), .lock 0, x3, x4, x5, x6, x7, x8] ∧ ¬ Owned x6 ∧ ¬ Owned x7 ∧ ¬ Owned x8 ∧ DL X.K ⟨F0, H, none, fun _ => .ref l⟩ F' H' l fnd ∧ cbGo ls (i : Nat) (rd.drop i) fnd = some kvs) σ1 F0 _ hh1 Dq
    (fun F' H' st' => ⟨[], _, _, _, _, _, _, rfl, id, id, id, dl1.step st', hg⟩)
    (fun i d σ' F' H' ρ1 ed h1 iv => ?_) (fun σ' F' H' ρ1 sF' h1 iv => ?_) (fun env v => set_of g4 env v)
  · obtain ⟨fnd, x3, x4, x5, x6, x7, x8, rfl, k6, k7, k8, dl', iv⟩ := iv
    rw [enumD_at] at ed
    cases e0 : rd[i]? with
    | none => rw [e0] at ed; cases ed
    | some tp =>
      rw [e0] at ed
      cases ed
      have e : rd.drop i = tp :: rd.drop (i + 1) := by
        obtain ⟨hl, he⟩ := List.getElem?_eq_some_iff.mp e0
        rw [List.drop_eq_getElem_cons hl, he]
      rw [e] at iv
      obtain ⟨cells, n, r1, rfl, i1, i2, i3⟩ := cbGo_cons iv
      refine ⟨[.val (.tuple rd), .val (.tuple ls), .lock 0, .val (.int (0 + (i : Nat))), .val (.tuple cells), x5, x6, x7, x8], [3, 4], (asg_snd fr _).1 g5 rfl, fun F2 H2 σ2 s2 k2 hh2 Dq' qq => ?_⟩
      have ez : (0 : Int) + (i : Nat) = (i : Nat) := by omega
      refine cb_out fr en g7 rfl k6 k7 k8 (by rw [ez]; exact i1) (by rw [ez]; exact i2) σ2 F2 H2 hh2 (dl'.step s2) Dq' fun σ3 F3 H3 y5 y6 y7 y8 s3 j6 j7 j8 hh3 dl3 => qq σ3 F3 H3 _ s3 hh3 ⟨r1, _, _, y5, y6, y7, y8, rfl, j6, j7, j8, dl3, ?_⟩
      have ez2 : ((i + 1 : Nat) : Int) = (i : Int) + 1 := by omega
      rw [ez2]
      exact i3
  · obtain ⟨fnd, x3, x4, x5, x6, x7, x8, rfl, k6, k7, k8, dl', iv⟩ := iv
    rw [enumD_len, List.drop_length] at iv
    cases iv
    obtain ⟨F2r, hN2⟩ := nm_fr fr g3
    obtain ⟨o, e1, e2⟩ := h1.at_ 2 _ rfl
    have e2 : o = some (.ref l) := e2
    subst e2
    obtain ⟨L, rfl, dq⟩ := dl'
    obtain ⟨F2, q1, q2, q3, q4⟩ := freezeL L F' h1.st dq.na dq.at_
    refine wss_cons (ps_ret (F2r.pe hN2 (by simp))) ⟨_, e1, ?_⟩
    show Dq.rt _ _
    rw [hq]
    have hlL : ∀ t ∈ L, l ≠ t.2.1 := fun t ht z => by
      obtain ⟨_, _, ys, g, _⟩ := dq.at_ t ht
      have := dq.hh
      rw [z, g] at this
      cases this
    exact q _ F2 H' q1 ⟨l, lx L, rfl, hl, by rw [q2 l hlL]; exact dq.hf, dq.hh, q4⟩
theorem def_cells {P : Program} {w : World} {K : Frag} {mg : Str → Option Value} {base : Heap} {f : Addr} {fd : FuncData} {k : Nat} (F : Fun K "cells_by" "cells_by" s_cells_by f fd) (hFS : FSo t_cells_by k P w K mg base) :
    FnOk P w K mg base CX0 (k + 1) f fd ["reading", "lengths"] (spN K fun ds kvs => R_cells_by ds = some kvs) := by
  have htx := cb_text
  rw [Bool.and_eq_true] at htx
  refine F.ok sc_cells_by (fun vs H Q E h => ?_) (fun cdv A outer s H vs Q E hr h => ?_)
  · obtain ⟨F0, ds, kvs, _, r, hg, _⟩ := h
    obtain ⟨rd, ls, rfl, _⟩ := cb_args hg
    rw [r.len]
    rfl
  · obtain ⟨F0, ds, kvs, sF, r, hg, q⟩ := h
    obtain ⟨rd, ls, rfl, hg⟩ := cb_args hg
    refine ⟨_, pss_W, ?_⟩
    exact cb_body (X := (cxOf CX0 P w K mg base n_cells_by "cells_by" (defScope s_cells_by) f cdv A outer s H E).nox) ((fr_def htx.1 hr).a fun _ => rfl) (FSo.en hFS) htx.2 sF r hg Q q _ rfl
end Fs
-- FsPo
/-! _law_pool, by hand. -/
namespace Fs
open PySem PySem.Spec PyProof.Rows L2
def firstI : List Int → Int
  | [] => 0
  | n :: _ => n
def sizeI (n : Int) : Int := if 0 ≤ n then 2 * n else -1 - 2 * n
def initA (ns : List Int) : Int := if 10 ^ 18 ≤ sizeI (firstI ns) then sizeI (firstI ns) else 0
def initB (ns : List Int) : Int := (sizeI (firstI ns) * 48271 + 1009) % 2147483629 + 3
def spI (K : Frag) : Sp := fun vs H Q _ => ∃ a ns, vs = [.ref a] ∧ SqL K H a (ns.map V.int) ∧
  ∀ p L H', H p = none → H L = none → p ≠ L → H' p = some (.lst [.int (initA ns), .int (initB ns), .ref L]) → H' L = some (.lst ((ns.drop 1).map V.int)) → (∀ x o, H x = some o → H' x = some o) → Q (.ref p) H'
section
variable {X : Cx} {sc : Scope} {B : Base} {N Vs L0 G : List Str} {k : Nat} {ρ : List Slot} {pos p1 p2 p3 p4 : Pos} {x : Str} {i : Nat} {a : Addr} {ns : List Int} {c1 c2 : Nat}
theorem sq_at {K : Frag} {F H : Hp} {σ : L2.St} (hh : Holds K B F H σ ρ none) (hlk : B.lk 0 = .ref a) (hpi : B.pi = none) (hS : SqL K B.H a (ns.map V.int)) (l : Look N ρ i x (.lock 0)) : σ[i]? = some (some (.ref a)) ∧ SqL K H a (ns.map V.int) := by
  obtain ⟨o, e1, e2⟩ := hh.at_ i _ l.r
  have e2 : o = some (B.lk 0) := e2
  rw [hlk] at e2
  subst e2
  have st := hh.st
  rw [hpi] at st
  have s : Same B.H H := fun y o e => st.fr y o e fun _ z => nomatch z
  exact ⟨e1, s.seq hS⟩
theorem ev_lenS (fr : Fr X sc N Vs L0 G k) (bl : Bl X.mg) (hG : ("len" : Str) ∈ G) (hlk : B.lk 0 = .ref a) (hpi : B.pi = none) (hS : SqL X.K B.H a (ns.map V.int)) (l : Look N ρ i x (.lock 0)) (hx : x ∈ Vs) : Ev X B (.Call (.Name "len" p1) [.Name x p2] [] pos) ρ none (.int ns.length) none :=
  .of (pe_callB call_len_seq (fr.glo _ hG).1 bl.len PySem.boot_len (pa_cons (fr.pe l.n hx) pa_nil (by rfl)) (fr.glo _ hG).2.2 (fr.glo _ hG).2.1 (by rfl) (by rfl)) fun σ F H hh Q q => by
    obtain ⟨e1, hs⟩ := sq_at hh hlk hpi hS l
    refine ⟨_, e1, a, _, rfl, .inl hs, ?_⟩
    rw [List.length_map]
    exact q _ F H (Step.refl hh.good) (.int _)
theorem ev_ixS {n : Int} {t : List Int} (fr : Fr X sc N Vs L0 G k) (hlk : B.lk 0 = .ref a) (hpi : B.pi = none) (hS : SqL X.K B.H a (ns.map V.int)) (l : Look N ρ i x (.lock 0)) (hx : x ∈ Vs) (hn : ns = n :: t) : Ev X B (.Subscript (.Name x p1) (.Constant (.int 0) c1 p2) pos) ρ none (.int n) none :=
  .of (pe_ix ix_list (fr.pe l.n hx) pe_int (fun _ _ => rfl)) fun σ F H hh Q q => by
    obtain ⟨e1, hs⟩ := sq_at hh hlk hpi hS l
    subst hn
    exact ⟨_, e1, a, _, 0, .int n, rfl, rfl, hs, at_nat (j := 0) rfl rfl, q _ F H (Step.refl hh.good) (.int _)⟩
theorem evo_slS (fr : Fr X sc N Vs L0 G k) (hlk : B.lk 0 = .ref a) (hpi : B.pi = none) (hS : SqL X.K B.H a (ns.map V.int)) (l : Look N ρ i x (.lock 0)) (hx : x ∈ Vs) : EvO X B (.Subscript (.Name x p1) (.Slice (some (.Constant (.int 1) c1 p2)) none none p3) pos) ρ none ((ns.drop 1).map .int) none :=
  .mk fun σ F H hh Q q pins s I => (pe_slice sl_list (fr.pe l.n hx) (po_some pe_int) po_none).run pins s σ H Q I (by
    obtain ⟨e1, hs⟩ := sq_at hh hlk hpi hS l
    refine ⟨_, e1, 1, rfl, ?_⟩
    refine ⟨_, _, rfl, hs, fun p hp => ?_⟩
    have e : cutV (ns.map V.int) (some 1) none = (ns.drop 1).map V.int := by
      have : cutV (ns.map V.int) (some 1) none = cutD (ns.map V.int) (some ((1 : Nat) : Int)) none := rfl
      rw [this, cutD_from _ rfl, List.map_drop]
    rw [e]
    exact q p _ F _ (Step.allocO hh.good hp) hp (hh.good.fnone hp) upd_same (Reps.of_ints _))
end
def cSize (i : Nat) : C := .ite (.cmp .ge (.v i) (.k (.int 0))) (.bin .mul (.k (.int 2)) (.v i)) (.bin .sub (.neg (.k (.int 1))) (.bin .mul (.k (.int 2)) (.v i)))
def cA : C := .ite (.cmp .ge (.v 2) (.bin .pow (.k (.int 10)) (.k (.int 18)))) (.v 2) (.k (.int 0))
def cB : C := .bin .add (.bin .mod (.fn .int (.cons (.bin .add (.bin .mul (.v 2) (.k (.int 48271))) (.k (.int 1009))) .nil)) (.k (.int 2147483629))) (.k (.int 3))
def poChk (T : Tab) (N : List Str) (sc : Scope) (sto : Str → Bool) : List Stmt → Bool
  | [.Assign [.Name f _] (.IfExp (.Compare (.Call (.Name ln _) [.Name s1 _] [] _) [.Gt] [.Constant (.int z0) _ _] _) (.Call (.Name it _) [.Subscript (.Name s2 _) (.Constant (.int z1) _ _) _] [] _) (.Constant (.int z2) _ _) _) _, .Assign [.Name sz _] e2 _,
      .Return (some (.List [a1, a2, .Call (.Name li _) [.Subscript (.Name s3 _) (.Slice (some (.Constant (.int o1) _ _)) none none _) _] [] _] _)) _] =>
    decide (z0 = 0) && decide (z1 = 0) && decide (z2 = 0) && decide (o1 = 1) && decide (ln = "len") && gloOk sc ln && decide (it = "int") && gloOk sc it && decide (li = "list") && gloOk sc li && nmC sc N 0 s1 && nmC sc N 0 s2 && nmC sc N 0 s3 &&
      decide (N[1]? = some f) && sto f && decide (N[2]? = some sz) && sto sz && notComp e2 && notStar a1 && notStar a2 && chk T N (cSize 1) sc sto e2 && chk T N cA sc sto a1 && chk T N cB sc sto a2
  | _ => false
def t_pool : Tab := ⟨[], [], [], []⟩
theorem po_text : (scC (defScope s_pool) n_pool [] [] [] && poChk t_pool n_pool (defScope s_pool) (locC (defScope s_pool)) (defBody s_pool)) = true := by decide +kernel
theorem run_size {T : Tab} {s0 s2 : Slot} {n : Int} : dOf (run T (cSize 1) [s0, .val (.int n), s2] none) = some (.int (sizeI n), none) := by
  unfold sizeI
  by_cases h : 0 ≤ n
  · simp [cSize, run, dOf, bOf, iOf, toD, cmpD, binD, h]
  · simp [cSize, run, dOf, bOf, iOf, toD, cmpD, binD, h]
theorem run_A {T : Tab} {s0 s1 : Slot} {n : Int} : dOf (run T cA [s0, s1, .val (.int n)] none) = some (.int (if 10 ^ 18 ≤ n then n else 0), none) := by
  by_cases h : 1000000000000000000 ≤ n
  · simp [cA, run, dOf, bOf, iOf, toD, cmpD, binD, h]
  · simp [cA, run, dOf, bOf, iOf, toD, cmpD, binD, h]
theorem run_B {T : Tab} {s0 s1 : Slot} {n : Int} : dOf (run T cB [s0, s1, .val (.int n)] none) = some (.int ((n * 48271 + 1009) % 2147483629 + 3), none) := by
  simp [cB, run, dOf, bOf, iOf, lOf, toD, cmpD, binD, fnD]

theorem po_body {T : Tab} {X : Cx} {sc : Scope} {sto : Str → Bool} {k : Nat} {sts : List Stmt} {H : Hp} {a : Addr} {ns : List Int} (fr : FrA X sc sto n_pool k) (en : En T X k) (h : poChk T n_pool sc sto sts = true) (hS : SqL X.K H a (ns.map V.int)) (Q : VK)
    (q : ∀ p L H', H p = none → H L = none → p ≠ L → H' p = some (.lst [.int (initA ns), .int (initB ns), .ref L]) → H' L = some (.lst ((ns.drop 1).map V.int)) → (∀ x o, H x = some o → H' x = some o) → Q (.ref p) H') (Dq : Ends) (hq : Dq.rt = Q) : WSs X sts Dq (L2.start n_pool [.ref a]) H := by
  unfold poChk at h
  split at h <;> first | (cases h; done) | skip
  rename_i f pf ln p1 s1 p2 p3 z0 c0 p4 p5 it p6 s2 p7 z1 c1 p8 p9 p10 z2 c2 p11 p12 p13 sz p14 e2 p15 a1 a2 li p16 s3 p17 o1 c3 p18 p19 p20 p21 p22 p23
  simp only [Bool.and_eq_true, decide_eq_true_eq] at h
  obtain ⟨⟨⟨⟨⟨⟨⟨⟨⟨⟨⟨⟨⟨⟨⟨⟨⟨⟨⟨⟨⟨⟨rfl, rfl⟩, rfl⟩, rfl⟩, rfl⟩, g1⟩, rfl⟩, g2⟩, rfl⟩, g3⟩, g4⟩, g5⟩, g6⟩, g7⟩, g8⟩, g9⟩, g10⟩, g11⟩, g12⟩, g13⟩, g14⟩, g15⟩, g16⟩ := h
  let B : Base := ⟨fun _ => none, H, none, fun _ => .ref a⟩
  have s0 : Same (fun _ => none) H := fun _ _ e => nomatch e
  have hh0 : Holds X.K B (fun _ => none) H (L2.start n_pool [.ref a]) [.lock 0, .non, .non] none := by
    refine ⟨Step.refl ⟨s0, trivial⟩, rfl, fun i t e => ?_, fun i j b t u ne e1 e2 o1 => ?_⟩
    · match i, e with
      | 0, e => cases e; exact ⟨_, rfl, rfl⟩
      | 1, e => cases e; exact ⟨_, rfl, trivial⟩
      | 2, e => cases e; exact ⟨_, rfl, trivial⟩
      | i + 3, e => simp at e
    · match i, e1 with
      | 0, e1 => cases e1; exact o1.elim
      | 1, e1 => cases e1; exact o1.elim
      | 2, e1 => cases e1; exact o1.elim
      | i + 3, e1 => simp at e1
  have lk : ∀ {x : Str} {r1 r2 : Slot}, nmC sc n_pool 0 x = true → Look n_pool [.lock 0, r1, r2] 0 x (.lock 0) := fun {x r1 r2} g => look_of (nm_fr fr g).2 rfl
  -- first
  have F1 := (nmc_fr fr g4 ["len", "int", "list"] (by simp [g1, g2, g3])).1
  have F2 := (nmc_fr fr g5 ["len", "int", "list"] (by simp [g1, g2, g3])).1
  have F3 := (nmc_fr fr g6 ["len", "int", "list"] (by simp [g1, g2, g3])).1
  have Ff := fr.fr [] [f] [] rfl (by simp [g8]) rfl
  have Fz := fr.fr [] [sz] [] rfl (by simp [g10]) rfl
  refine wss_cons (ps_set (i := 1) (by rw [Ff.hN]; exact Ff.nd) (by rw [Ff.hN]; exact g7) (Ff.sto f (by simp)).1 pe_W (by rfl) (Ff.sto f (by simp)).2) ?_
  have hfirst : Ev X B (.IfExp (.Compare (.Call (.Name "len" p1) [.Name s1 p2] [] p3) [.Gt] [.Constant (.int 0) c0 p4] p5) (.Call (.Name "int" p6) [.Subscript (.Name s2 p7) (.Constant (.int 0) c1 p8) p9] [] p10) (.Constant (.int 0) c2 p11) p12) [.lock 0, .non, .non] none (.int (firstI ns)) none := by
    refine ev_if (et_cmp1 (ev_lenS F1 en.bl (by simp) rfl rfl hS (lk g4) (by simp)) ev_int cmp_gt (nomark _)) (fun e => ?_) (fun e => ?_)
    · cases ns with
      | nil => simp at e
      | cons n t => exact ev_int1 F2 en.bl (by simp) (ev_ixS F2 rfl rfl hS (lk g5) (by simp) rfl)
    · cases ns with
      | nil => exact ev_int
      | cons n t => simp at e
  refine hfirst.run _ _ H hh0 _ fun v F1' H1 st1 r1 => ?_
  have hh1 := (hh0.step st1).setVal (i := 1) (v := v) (d := .int (firstI ns)) (by show 1 < 3; decide) r1
  show WSs X _ _ ((L2.start n_pool [.ref a]).set 1 (some v)) H1
  generalize (L2.start n_pool [.ref a]).set 1 (some v) = σ1 at hh1 ⊢
  replace hh1 : Holds X.K B F1' H1 σ1 [.lock 0, .val (.int (firstI ns)), .non] none := hh1
  -- size
  refine wss_cons (ps_set (i := 2) (by rw [Fz.hN]; exact Fz.nd) (by rw [Fz.hN]; exact g9) (Fz.sto sz (by simp)).1 pe_W (comp_of g11 _ _ _) (Fz.sto sz (by simp)).2) ?_
  refine ((snd _).dd (pj := none) (d := .int (sizeI (firstI ns))) fr en g14 run_size).run σ1 F1' H1 hh1 _ fun v2 F2' H2 st2 r2 => ?_
  have hh2 := (hh1.step st2).setVal (i := 2) (v := v2) (d := .int (sizeI (firstI ns))) (by show 2 < 3; decide) r2
  show WSs X _ _ (σ1.set 2 (some v2)) H2
  generalize σ1.set 2 (some v2) = σ2 at hh2 ⊢
  replace hh2 : Holds X.K B F2' H2 σ2 [.lock 0, .val (.int (firstI ns)), .val (.int (sizeI (firstI ns)))] none := hh2
  -- return
  refine wss_cons (ps_ret (pe_lst (pa_cons pe_W (pa_cons pe_W (pa_cons pe_W pa_nil (by rfl)) (star_of g13 _ _)) (star_of g12 _ _)))) ?_
  refine ((snd _).dd (pj := none) (d := .int (initA ns)) fr en g15 run_A).run σ2 F2' H2 hh2 _ fun w1 F3' H3 st3 k1 => ?_
  refine ((snd _).dd (pj := none) (d := .int (initB ns)) fr en g16 run_B).run σ2 F3' H3 (hh2.step st3) _ fun w2 F4' H4 st4 k2 => ?_
  cases k1
  cases k2
  have hlist : EvO X B (.Call (.Name "list" p16) [.Subscript (.Name s3 p17) (.Slice (some (.Constant (.int 1) c3 p18)) none none p19) p20] [] p21) [.lock 0, .val (.int (firstI ns)), .val (.int (sizeI (firstI ns)))] none ((ns.drop 1).map .int) none :=
    evo_listL F3 en.bl (by simp) (evo_slS F3 rfl rfl hS (lk g6) (by simp)).ev
  refine hlist.run σ2 F4' H4 ((hh2.step st3).step st4) _ fun L xs F5 H5 st5 hL fL eL rL => ?_
  refine ⟨by show 3 ≤ sizeLine; decide, fun p hp => ?_⟩
  show Dq.rt _ _
  rw [hq]
  have stA := ((hh2.st.trans st3).trans st4)
  have stB := stA.trans st5
  have e := rL.ints
  subst e
  have hne : p ≠ L := fun z => by rw [z, eL] at hp; cases hp
  exact q p L _ (fresh_of stB hp) (fresh_of stA hL) hne upd_same (by rw [upd_ne (Ne.symm hne)]; exact eL) fun x o ex => by
    rw [upd_ne (ne_of_none (stB.fr x o ex fun _ z => nomatch z) hp)]
    exact stB.fr x o ex fun _ z => nomatch z
theorem def_pool_init {P : Program} {w : World} {K : Frag} {mg : Str → Option Value} {base : Heap} {f : Addr} {fd : FuncData} {k : Nat} (F : Fun K "_law_pool" "_law_pool" s_pool f fd) (hFS : FSo t_pool k P w K mg base) :
    FnOk P w K mg base CX0 (k + 1) f fd ["_law_script"] (spI K) := by
  have htx := po_text
  rw [Bool.and_eq_true] at htx
  refine F.ok sc_pool (fun vs H Q E h => ?_) (fun cdv A outer s H vs Q E hr h => ?_)
  · obtain ⟨a, ns, rfl, _⟩ := h
    rfl
  · obtain ⟨a, ns, rfl, hS, q⟩ := h
    refine ⟨_, pss_W, ?_⟩
    exact po_body (X := (cxOf CX0 P w K mg base n_pool "_law_pool" (defScope s_pool) f cdv A outer s H E).nox) ((fr_def htx.1 hr).a fun _ => rfl) (FSo.en hFS) htx.2 hS Q q _ rfl
end Fs
-- FsT
/-! The codes of the defs. Printed by gen2.py. -/
namespace Fs
open PySem PySem.Spec PyProof.Rows L2
/-! by hand -/


-- is_whole: level 1
def c_is_whole : S := (.ret (.and (.isi 1 (.v 0)) (.and (.not (.isi 2 (.v 0))) (.ch true (.v 1) (.v 0) (.v 2)))))
def t_is_whole : Tab := ⟨[], [], [], []⟩
def R_is_whole (ds : List D) : Option D := defP t_is_whole 3 n_is_whole c_is_whole ds
theorem m_is_whole : (scC (defScope s_is_whole) n_is_whole [] [] [] && chkS t_is_whole n_is_whole (defScope s_is_whole) (locC (defScope s_is_whole)) c_is_whole (defBody s_is_whole)) = true := by decide +kernel
-- is_prime: level 2
def c_is_prime : S := (.ite (.not (.call 0 (.cons (.v 0) (.cons (.k (.int 2)) (.cons (.g 0) .nil))))) (.ret (.k (.bool false))) .nil (.asg 1 (.k (.int 2)) (.whl (.cmp .le (.bin .mul (.v 1) (.v 1)) (.v 0)) (.ite (.cmp .eq (.bin .mod (.v 0) (.v 1)) (.k (.int 0))) (.ret (.k (.bool false))) .nil (.asg 1 (.bin .add (.v 1) (.k (.int 1))) .nil)) (.ret (.k (.bool true))) 8)))
def t_is_prime : Tab := ⟨[("MOST_PRIME", 65521)], [("is_whole", R_is_whole)], [], []⟩
def R_is_prime (ds : List D) : Option D := defP t_is_prime 1 n_is_prime c_is_prime ds
theorem m_is_prime : (scC (defScope s_is_prime) n_is_prime [] [] [] && chkS t_is_prime n_is_prime (defScope s_is_prime) (locC (defScope s_is_prime)) c_is_prime (defBody s_is_prime)) = true := by decide +kernel
-- inverse: level 1
def c_inverse : S := (.par2 2 (.bin .mod (.fn .int (.cons (.v 0) .nil)) (.v 1)) 3 (.v 1) (.ite (.cmp .eq (.v 2) (.k (.int 0))) .bad .nil (.unp (.tup (.cons (.n 4) (.cons (.n 5) .nil))) (.tup (.cons (.k (.int 1)) (.cons (.k (.int 0)) .nil))) (.whl (.cmp .gt (.v 2) (.k (.int 1))) (.asg 6 (.bin .div (.v 3) (.v 2)) (.par2 2 (.bin .sub (.v 3) (.bin .mul (.v 6) (.v 2))) 3 (.v 2) (.par2 4 (.bin .sub (.v 5) (.bin .mul (.v 6) (.v 4))) 5 (.v 4) .nil))) (.ret (.bin .mod (.fn .int (.cons (.v 4) .nil)) (.v 1))) 8))))
def t_inverse : Tab := ⟨[], [], [], []⟩
def R_inverse (ds : List D) : Option D := defP t_inverse 2 n_inverse c_inverse ds
theorem m_inverse : (scC (defScope s_inverse) n_inverse [] [] [] && chkS t_inverse n_inverse (defScope s_inverse) (locC (defScope s_inverse)) c_inverse (defBody s_inverse)) = true := by decide +kernel
-- are_points: level 2
def c_are_points : S := (.ite (.or (.not (.isi 0 (.v 1))) (.not (.ch true (.k (.int 1)) (.fn .len (.cons (.v 1) .nil)) (.g 0)))) (.ret (.k (.bool false))) .nil (.for (.n 2) (.rng1 (.fn .len (.cons (.v 1) .nil))) (.ite (.or (.not (.call 0 (.cons (.ix (.v 1) (.v 2)) (.cons (.k (.int 0)) (.cons (.v 0) .nil))))) (.cmp .inn (.ix (.v 1) (.v 2)) (.slTo (.v 1) (.v 2)))) (.ret (.k (.bool false))) .nil .nil) (.ret (.k (.bool true)))))
def t_are_points : Tab := ⟨[("MOST_SHELVES_grounds", 8)], [("is_whole", R_is_whole)], [], []⟩
def R_are_points (ds : List D) : Option D := defP t_are_points 2 n_are_points c_are_points ds
theorem m_are_points : (scC (defScope s_are_points) n_are_points [] [] [] && chkS t_are_points n_are_points (defScope s_are_points) (locC (defScope s_are_points)) c_are_points (defBody s_are_points)) = true := by decide +kernel
-- made_ground: level 3
def c_made_ground : S := (.ite (.or (.not (.isi 0 (.v 0))) (.cmp .ne (.fn .len (.cons (.v 0) .nil)) (.k (.int 3)))) .bad .nil (.ite (.not (.call 0 (.cons (.ix (.v 0) (.k (.int 0))) .nil))) .bad .nil (.ite (.not (.call 1 (.cons (.ix (.v 0) (.k (.int 1))) (.cons (.k (.int 1)) (.cons (.g 0) .nil))))) .bad .nil (.ite (.not (.call 2 (.cons (.ix (.v 0) (.k (.int 0))) (.cons (.ix (.v 0) (.k (.int 2))) .nil)))) .bad .nil (.ret (.v 0))))))
def t_made_ground : Tab := ⟨[("MOST_NUMBERS", 12)], [("is_prime", R_is_prime), ("is_whole", R_is_whole), ("are_points", R_are_points)], [], []⟩
def R_made_ground (ds : List D) : Option D := defP t_made_ground 1 n_made_ground c_made_ground ds
theorem m_made_ground : (scC (defScope s_made_ground) n_made_ground [] [] [] && chkS t_made_ground n_made_ground (defScope s_made_ground) (locC (defScope s_made_ground)) c_made_ground (defBody s_made_ground)) = true := by decide +kernel
-- shelves: level 4
def c_shelves : S := (.ret (.fn .len (.cons (.ix (.call 0 (.cons (.v 0) .nil)) (.k (.int 2))) .nil)))
def t_shelves : Tab := ⟨[], [("made_ground", R_made_ground)], [], []⟩
def R_shelves (ds : List D) : Option D := defP t_shelves 1 n_shelves c_shelves ds
theorem m_shelves : (scC (defScope s_shelves) n_shelves [] [] [] && chkS t_shelves n_shelves (defScope s_shelves) (locC (defScope s_shelves)) c_shelves (defBody s_shelves)) = true := by decide +kernel
-- ways: level 1
def c_ways : S := (.asg 3 (.bin .mul (.lst (.cons (.k (.int 1)) .nil)) (.v 1)) (.for (.n 4) (.rng1 (.v 0)) (.par2 5 (.k (.int 0)) 6 (.lst .nil) (.frz 3 (.for (.n 7) (.seq (.v 3)) (.asg 5 (.bin .mod (.bin .add (.v 5) (.v 7)) (.v 2)) (.app 6 (.v 5) .nil)) (.frz 6 (.asg 3 (.v 6) .nil))))) (.frz 3 (.ret (.v 3)))))
def t_ways : Tab := ⟨[], [], [], []⟩
def R_ways (ds : List D) : Option D := defP t_ways 3 n_ways c_ways ds
theorem m_ways : (scC (defScope s_ways) n_ways [] [] [] && chkS t_ways n_ways (defScope s_ways) (locC (defScope s_ways)) c_ways (defBody s_ways)) = true := by decide +kernel
-- weights: level 2
def c_weights : S := (.unp (.tup (.cons (.n 3) (.cons (.n 4) (.cons (.n 5) .nil)))) (.v 0) (.ite (.cmp .ge (.v 2) (.v 4)) (.ret (.bin .mul (.tup (.cons (.k (.int 0)) .nil)) (.v 4))) .nil (.ite (.cmp .eq (.ix (.v 5) (.v 1)) (.v 3)) (.ret (.fn .tup (.cons (.lc (.ite (.cmp .eq (.v 9) (.bin .sub (.bin .sub (.v 4) (.k (.int 1))) (.v 2))) (.k (.int 1)) (.k (.int 0))) (.n 9) (.rng1 (.v 4)) [("t", 9)]) .nil))) .nil (.par2 6 (.bin .mul (.lst (.cons (.k (.int 0)) .nil)) (.v 2)) 7 (.k (.int 1)) (.for (.n 8) (.seq (.call 0 (.cons (.v 2) (.cons (.bin .sub (.v 4) (.v 2)) (.cons (.v 3) .nil))))) (.app 6 (.bin .mod (.bin .mul (.v 8) (.v 7)) (.v 3)) (.asg 7 (.bin .mod (.bin .mul (.v 7) (.ix (.v 5) (.v 1))) (.v 3)) .nil)) (.frz 6 (.ret (.fn .tup (.cons (.v 6) .nil)))))))))
def t_weights : Tab := ⟨[], [("ways", R_ways)], [], []⟩
def R_weights (ds : List D) : Option D := defP t_weights 3 n_weights c_weights ds
theorem m_weights : (scC (defScope s_weights) n_weights [] [] [] && chkS t_weights n_weights (defScope s_weights) (locC (defScope s_weights)) c_weights (defBody s_weights)) = true := by decide +kernel
-- is_below: level 1
def c_is_below : S := (.ret (.and (.isi 1 (.v 0)) (.and (.not (.isi 2 (.v 0))) (.ch false (.k (.int 0)) (.v 0) (.v 1)))))
def t_is_below : Tab := ⟨[], [], [], []⟩
def R_is_below (ds : List D) : Option D := defP t_is_below 2 n_is_below c_is_below ds
theorem m_is_below : (scC (defScope s_is_below) n_is_below [] [] [] && chkS t_is_below n_is_below (defScope s_is_below) (locC (defScope s_is_below)) c_is_below (defBody s_is_below)) = true := by decide +kernel
-- is_tape: level 2
def c_is_tape : S := (.ite (.or (.not (.isi 0 (.v 0))) (.cmp .gt (.fn .len (.cons (.v 0) .nil)) (.g 0))) (.ret (.k (.bool false))) .nil (.for (.n 1) (.seq (.v 0)) (.ite (.not (.call 0 (.cons (.v 1) (.cons (.g 1) .nil)))) (.ret (.k (.bool false))) .nil .nil) (.ret (.k (.bool true)))))
def t_is_tape : Tab := ⟨[("MOST_CELLS", 1024), ("MOST_BATCHES", 64)], [("is_below", R_is_below)], [], []⟩
def R_is_tape (ds : List D) : Option D := defP t_is_tape 1 n_is_tape c_is_tape ds
theorem m_is_tape : (scC (defScope s_is_tape) n_is_tape [] [] [] && chkS t_is_tape n_is_tape (defScope s_is_tape) (locC (defScope s_is_tape)) c_is_tape (defBody s_is_tape)) = true := by decide +kernel
-- is_cell: level 2
def c_is_cell : S := (.ite (.or (.not (.isi 0 (.v 0))) (.cmp .ne (.fn .len (.cons (.v 0) .nil)) (.k (.int 2)))) (.ret (.k (.bool false))) .nil (.ret (.and (.call 0 (.cons (.ix (.v 0) (.k (.int 0))) (.cons (.g 0) .nil))) (.call 0 (.cons (.ix (.v 0) (.k (.int 1))) (.cons (.v 1) .nil))))))
def t_is_cell : Tab := ⟨[("MOST_BATCHES", 64)], [("is_below", R_is_below)], [], []⟩
def R_is_cell (ds : List D) : Option D := defP t_is_cell 2 n_is_cell c_is_cell ds
theorem m_is_cell : (scC (defScope s_is_cell) n_is_cell [] [] [] && chkS t_is_cell n_is_cell (defScope s_is_cell) (locC (defScope s_is_cell)) c_is_cell (defBody s_is_cell)) = true := by decide +kernel
-- are_cells: level 3
def c_are_cells : S := (.ite (.or (.not (.isi 0 (.v 0))) (.cmp .gt (.fn .len (.cons (.v 0) .nil)) (.g 0))) (.ret (.k (.bool false))) .nil (.for (.n 2) (.seq (.v 0)) (.ite (.not (.call 0 (.cons (.v 2) (.cons (.v 1) .nil)))) (.ret (.k (.bool false))) .nil .nil) (.ret (.k (.bool true)))))
def t_are_cells : Tab := ⟨[("MOST_CELLS", 1024)], [("is_cell", R_is_cell)], [], []⟩
def R_are_cells (ds : List D) : Option D := defP t_are_cells 2 n_are_cells c_are_cells ds
theorem m_are_cells : (scC (defScope s_are_cells) n_are_cells [] [] [] && chkS t_are_cells n_are_cells (defScope s_are_cells) (locC (defScope s_are_cells)) c_are_cells (defBody s_are_cells)) = true := by decide +kernel
-- made_weaving: level 5
def c_made_weaving : S := (.asg 0 (.call 0 (.cons (.v 0) .nil)) (.ite (.or (.not (.isi 0 (.v 1))) (.cmp .ne (.fn .len (.cons (.v 1) .nil)) (.call 1 (.cons (.v 0) .nil)))) .bad .nil (.for (.tup (.cons (.n 2) (.cons (.n 3) .nil))) (.enum (.v 1)) (.ite (.not (.call 2 (.cons (.v 3) .nil))) .bad .nil .nil) (.ret (.v 1)))))
def t_made_weaving : Tab := ⟨[], [("made_ground", R_made_ground), ("shelves", R_shelves), ("is_tape", R_is_tape)], [], []⟩
def R_made_weaving (ds : List D) : Option D := defP t_made_weaving 2 n_made_weaving c_made_weaving ds
theorem m_made_weaving : (scC (defScope s_made_weaving) n_made_weaving [] [] [] && chkS t_made_weaving n_made_weaving (defScope s_made_weaving) (locC (defScope s_made_weaving)) c_made_weaving (defBody s_made_weaving)) = true := by decide +kernel
-- made_reading: level 5
def c_made_reading : S := (.asg 0 (.call 0 (.cons (.v 0) .nil)) (.ite (.or (.not (.isi 0 (.v 1))) (.cmp .ne (.fn .len (.cons (.v 1) .nil)) (.call 1 (.cons (.v 0) .nil)))) .bad .nil (.for (.tup (.cons (.n 2) (.cons (.n 3) .nil))) (.enum (.v 1)) (.ite (.not (.call 2 (.cons (.v 3) (.cons (.ix (.v 0) (.k (.int 0))) .nil)))) .bad .nil .nil) (.ret (.v 1)))))
def t_made_reading : Tab := ⟨[], [("made_ground", R_made_ground), ("shelves", R_shelves), ("are_cells", R_are_cells)], [], []⟩
def R_made_reading (ds : List D) : Option D := defP t_made_reading 2 n_made_reading c_made_reading ds
theorem m_made_reading : (scC (defScope s_made_reading) n_made_reading [] [] [] && chkS t_made_reading n_made_reading (defScope s_made_reading) (locC (defScope s_made_reading)) c_made_reading (defBody s_made_reading)) = true := by decide +kernel
-- is_bound: level 2
def c_is_bound : S := (.ret (.or (.isN false (.v 0)) (.call 0 (.cons (.v 0) (.cons (.bin .add (.g 0) (.k (.int 1))) .nil)))))
def t_is_bound : Tab := ⟨[("MOST_FATE", 64)], [("is_below", R_is_below)], [], []⟩
def R_is_bound (ds : List D) : Option D := defP t_is_bound 1 n_is_bound c_is_bound ds
theorem m_is_bound : (scC (defScope s_is_bound) n_is_bound [] [] [] && chkS t_is_bound n_is_bound (defScope s_is_bound) (locC (defScope s_is_bound)) c_is_bound (defBody s_is_bound)) = true := by decide +kernel
-- is_fate: level 3
def c_is_fate : S := (.ret (.and (.isi 0 (.v 0)) (.and (.cmp .eq (.fn .len (.cons (.v 0) .nil)) (.k (.int 2))) (.and (.call 0 (.cons (.ix (.v 0) (.k (.int 0))) .nil)) (.call 0 (.cons (.ix (.v 0) (.k (.int 1))) .nil))))))
def t_is_fate : Tab := ⟨[], [("is_bound", R_is_bound)], [], []⟩
def R_is_fate (ds : List D) : Option D := defP t_is_fate 1 n_is_fate c_is_fate ds
theorem m_is_fate : (scC (defScope s_is_fate) n_is_fate [] [] [] && chkS t_is_fate n_is_fate (defScope s_is_fate) (locC (defScope s_is_fate)) c_is_fate (defBody s_is_fate)) = true := by decide +kernel
-- is_row: level 4
def c_is_row : S := (.ite (.or (.not (.isi 0 (.v 1))) (.cmp .ne (.fn .len (.cons (.v 1) .nil)) (.v 0))) (.ret (.k (.bool false))) .nil (.for (.n 2) (.seq (.v 1)) (.ite (.not (.call 0 (.cons (.v 2) .nil))) (.ret (.k (.bool false))) .nil .nil) (.ret (.k (.bool true)))))
def t_is_row : Tab := ⟨[], [("is_fate", R_is_fate)], [], []⟩
def R_is_row (ds : List D) : Option D := defP t_is_row 2 n_is_row c_is_row ds
theorem m_is_row : (scC (defScope s_is_row) n_is_row [] [] [] && chkS t_is_row n_is_row (defScope s_is_row) (locC (defScope s_is_row)) c_is_row (defBody s_is_row)) = true := by decide +kernel
-- made_book: level 5
def c_made_book : S := (.ite (.or (.not (.call 0 (.cons (.v 0) (.cons (.bin .add (.g 0) (.k (.int 1))) .nil)))) (.cmp .eq (.v 0) (.k (.int 0)))) .bad .nil (.ite (.or (.not (.isi 0 (.v 1))) (.cmp .eq (.v 1) (.tup .nil))) .bad .nil (.ite (.cmp .gt (.fn .len (.cons (.v 1) .nil)) (.g 1)) .bad .nil (.for (.tup (.cons (.n 2) (.cons (.n 3) .nil))) (.enum (.v 1)) (.ite (.not (.call 1 (.cons (.v 0) (.cons (.v 3) .nil)))) .bad .nil .nil) (.ret (.v 1))))))
def t_made_book : Tab := ⟨[("MOST_SHELVES_books", 8), ("MOST_ROWS", 24)], [("is_below", R_is_below), ("is_row", R_is_row)], [], []⟩
def R_made_book (ds : List D) : Option D := defP t_made_book 2 n_made_book c_made_book ds
theorem m_made_book : (scC (defScope s_made_book) n_made_book [] [] [] && chkS t_made_book n_made_book (defScope s_made_book) (locC (defScope s_made_book)) c_made_book (defBody s_made_book)) = true := by decide +kernel
-- without: level 1
def c_without : S := (.asg 4 (.ix (.v 0) (.v 2)) (.ret (.lc (.bin .mod (.bin .sub (.v 5) (.bin .mul (.v 4) (.v 6))) (.v 3)) (.tup (.cons (.n 5) (.cons (.n 6) .nil))) (.zip (.v 0) (.v 1)) [("number", 5), ("other", 6)])))
def t_without : Tab := ⟨[], [], [], []⟩
def R_without (ds : List D) : Option D := defP t_without 4 n_without c_without ds
theorem m_without : (scC (defScope s_without) n_without [] [] [] && chkS t_without n_without (defScope s_without) (locC (defScope s_without)) c_without (defBody s_without)) = true := by decide +kernel
-- first_place: level 1
def c_first_place : S := (.for (.n 1) (.rng1 (.fn .len (.cons (.v 0) .nil))) (.ite (.cmp .ne (.ix (.v 0) (.v 1)) (.k (.int 0))) (.ret (.v 1)) .nil .nil) (.ret (.neg (.k (.int 1)))))
def t_first_place : Tab := ⟨[], [], [], []⟩
def R_first_place (ds : List D) : Option D := defP t_first_place 1 n_first_place c_first_place ds
theorem m_first_place : (scC (defScope s_first_place) n_first_place [] [] [] && chkS t_first_place n_first_place (defScope s_first_place) (locC (defScope s_first_place)) c_first_place (defBody s_first_place)) = true := by decide +kernel
-- reduced: level 2
def c_reduced : S := (.par2 3 (.lc (.lc (.bin .mod (.fn .int (.cons (.v 10) .nil)) (.v 2)) (.n 10) (.seq (.v 9)) [("number", 10)]) (.n 9) (.seq (.v 0)) [("row", 9)]) 4 (.lst .nil) (.for (.n 5) (.rng1 (.v 1)) (.frz 3 (.asg 6 (.slTo (.lcIf (.v 9) (.cmp .ne (.ix (.v 9) (.v 5)) (.k (.int 0))) (.n 9) (.seq (.v 3)) [("row", 9)]) (.k (.int 1))) (.frz 6 (.ite (.cmp .ne (.v 6) (.lst .nil)) (.frz 6 (.asg 7 (.call 0 (.cons (.ix (.ix (.v 6) (.k (.int 0))) (.v 5)) (.cons (.v 2) .nil))) (.frz 6 (.asg 8 (.lc (.bin .mod (.bin .mul (.v 10) (.v 7)) (.v 2)) (.n 10) (.seq (.ix (.v 6) (.k (.int 0)))) [("number", 10)]) (.frz 8 (.frz 3 (.asg 3 (.lc (.call 1 (.cons (.v 9) (.cons (.v 8) (.cons (.v 5) (.cons (.v 2) .nil))))) (.n 9) (.seq (.v 3)) [("row", 9)]) (.frz 8 (.frz 4 (.asg 4 (.bin .add (.lc (.call 1 (.cons (.v 9) (.cons (.v 8) (.cons (.v 5) (.cons (.v 2) .nil))))) (.n 9) (.seq (.v 4)) [("row", 9)]) (.lst (.cons (.v 8) .nil))) .nil)))))))))) .nil .nil)))) (.frz 4 (.ret (.fn .tup (.cons (.lc (.fn .tup (.cons (.v 9) .nil)) (.n 9) (.seq (.v 4)) [("row", 9)]) .nil))))))
def t_reduced : Tab := ⟨[], [("inverse", R_inverse), ("without", R_without)], [], []⟩
def R_reduced (ds : List D) : Option D := defP t_reduced 3 n_reduced c_reduced ds
theorem m_reduced : (scC (defScope s_reduced) n_reduced [] [] [] && chkS t_reduced n_reduced (defScope s_reduced) (locC (defScope s_reduced)) c_reduced (defBody s_reduced)) = true := by decide +kernel
-- kernel_of: level 3
def c_kernel_of : S := (.asg 3 (.call 0 (.cons (.v 0) (.cons (.v 1) (.cons (.v 2) .nil)))) (.asg 4 (.lc (.call 1 (.cons (.v 9) .nil)) (.n 9) (.seq (.v 3)) [("row", 9)]) (.asg 5 (.lst .nil) (.for (.n 6) (.rng1 (.v 1)) (.frz 4 (.ite (.cmp .notin (.v 6) (.v 4)) (.asg 7 (.bin .mul (.lst (.cons (.k (.int 0)) .nil)) (.v 1)) (.setL 7 (.v 6) (.k (.int 1)) (.frz 4 (.for (.tup (.cons (.n 8) (.cons (.n 9) .nil))) (.zip (.v 4) (.v 3)) (.setL 7 (.v 8) (.bin .mod (.bin .sub (.k (.int 0)) (.ix (.v 9) (.v 6))) (.v 2)) .nil) (.frz 7 (.app 5 (.fn .tup (.cons (.v 7) .nil)) .nil)))))) .nil .nil)) (.frz 5 (.ret (.fn .tup (.cons (.v 5) .nil))))))))
def t_kernel_of : Tab := ⟨[], [("reduced", R_reduced), ("first_place", R_first_place)], [], []⟩
def R_kernel_of (ds : List D) : Option D := defP t_kernel_of 3 n_kernel_of c_kernel_of ds
theorem m_kernel_of : (scC (defScope s_kernel_of) n_kernel_of [] [] [] && chkS t_kernel_of n_kernel_of (defScope s_kernel_of) (locC (defScope s_kernel_of)) c_kernel_of (defBody s_kernel_of)) = true := by decide +kernel
-- less: level 1
def c_less : S := (.ret (.fn .tup (.cons (.lc (.bin .mod (.bin .sub (.v 4) (.bin .mul (.v 1) (.v 5))) (.v 3)) (.tup (.cons (.n 4) (.cons (.n 5) .nil))) (.zip (.v 0) (.v 2)) [("one", 4), ("other", 5)]) .nil)))
def t_less : Tab := ⟨[], [], [], []⟩
def R_less (ds : List D) : Option D := defP t_less 4 n_less c_less ds
theorem m_less : (scC (defScope s_less) n_less [] [] [] && chkS t_less n_less (defScope s_less) (locC (defScope s_less)) c_less (defBody s_less)) = true := by decide +kernel
-- first_column: level 1
def c_first_column : S := (.for (.n 2) (.rng1 (.v 1)) (.ite (.cmp .ne (.ix (.v 0) (.v 2)) (.k (.int 0))) (.ret (.v 2)) .nil .nil) (.ret (.neg (.k (.int 1)))))
def t_first_column : Tab := ⟨[], [], [], []⟩
def R_first_column (ds : List D) : Option D := defP t_first_column 2 n_first_column c_first_column ds
theorem m_first_column : (scC (defScope s_first_column) n_first_column [] [] [] && chkS t_first_column n_first_column (defScope s_first_column) (locC (defScope s_first_column)) c_first_column (defBody s_first_column)) = true := by decide +kernel
-- chosen: level 2
def c_chosen : S := (.par2 3 (.lst .nil) 4 (.lst .nil) (.for (.tup (.cons (.n 5) (.cons (.tup (.cons (.n 6) (.cons (.n 7) .nil))) .nil))) (.enum (.v 2)) (.asg 8 (.bin .add (.v 6) (.tup (.cons (.v 7) .nil))) (.forO (.tup (.cons (.n 9) (.cons (.n 10) .nil))) 3 (.ite (.cmp .ne (.ix (.v 8) (.v 9)) (.k (.int 0))) (.asg 8 (.call 0 (.cons (.v 8) (.cons (.ix (.v 8) (.v 9)) (.cons (.v 10) (.cons (.v 0) .nil))))) .nil) .nil .nil) (.asg 9 (.call 1 (.cons (.v 8) (.cons (.v 1) .nil))) (.ite (.cmp .ge (.v 9) (.k (.int 0))) (.asg 11 (.call 2 (.cons (.ix (.v 8) (.v 9)) (.cons (.v 0) .nil))) (.app 3 (.tup (.cons (.v 9) (.cons (.fn .tup (.cons (.lc (.bin .mod (.bin .mul (.v 12) (.v 11)) (.v 0)) (.n 12) (.seq (.v 8)) [("number", 12)]) .nil)) .nil))) (.app 4 (.v 5) .nil))) (.ite (.cmp .ne (.ix (.v 8) (.v 1)) (.k (.int 0))) (.frz 4 (.ret (.tup (.cons (.v 4) (.cons (.v 5) .nil))))) .nil .nil) .nil)))) (.frz 4 (.ret (.tup (.cons (.v 4) (.cons (.k .none) .nil)))))))
def t_chosen : Tab := ⟨[], [("less", R_less), ("first_column", R_first_column), ("inverse", R_inverse)], [], []⟩
def R_chosen (ds : List D) : Option D := defP t_chosen 3 n_chosen c_chosen ds
theorem m_chosen : (scC (defScope s_chosen) n_chosen [] [] [] && chkS t_chosen n_chosen (defScope s_chosen) (locC (defScope s_chosen)) c_chosen (defBody s_chosen)) = true := by decide +kernel
-- flat_of: level 4
def c_flat_of : S := (.unp (.tup (.cons (.n 3) (.cons (.n 4) .nil))) (.call 0 (.cons (.v 0) (.cons (.v 1) (.cons (.v 2) .nil)))) (.ite (.isN true (.v 4)) (.ret (.k .none)) .nil (.asg 5 (.lc (.bin .add (.ix (.ix (.v 2) (.v 9)) (.k (.int 0))) (.tup (.cons (.ix (.ix (.v 2) (.v 9)) (.k (.int 1))) .nil))) (.n 9) (.seq (.v 3)) [("index", 9)]) (.frz 5 (.asg 6 (.call 1 (.cons (.fn .tup (.cons (.v 5) .nil)) (.cons (.bin .add (.v 1) (.k (.int 1))) (.cons (.v 0) .nil)))) (.asg 7 (.bin .mul (.lst (.cons (.k (.int 0)) .nil)) (.v 1)) (.for (.n 8) (.seq (.v 6)) (.setL 7 (.call 2 (.cons (.v 8) (.cons (.v 1) .nil))) (.ix (.v 8) (.v 1)) .nil) (.frz 7 (.ret (.tup (.cons (.fn .tup (.cons (.v 7) .nil)) (.cons (.call 3 (.cons (.fn .tup (.cons (.lc (.slTo (.v 8) (.v 1)) (.n 8) (.seq (.v 6)) [("numbers", 8)]) .nil)) (.cons (.v 1) (.cons (.v 0) .nil)))) .nil))))))))))))
def t_flat_of : Tab := ⟨[], [("chosen", R_chosen), ("reduced", R_reduced), ("first_column", R_first_column), ("kernel_of", R_kernel_of)], [], []⟩
def R_flat_of (ds : List D) : Option D := defP t_flat_of 3 n_flat_of c_flat_of ds
theorem m_flat_of : (scC (defScope s_flat_of) n_flat_of [] [] [] && chkS t_flat_of n_flat_of (defScope s_flat_of) (locC (defScope s_flat_of)) c_flat_of (defBody s_flat_of)) = true := by decide +kernel
-- check_number: level 2
def c_check_number : S := (.ite (.not (.call 0 (.cons (.v 0) (.cons (.k (.int 0)) (.cons (.g 0) .nil))))) .bad .nil .nil)
def t_check_number : Tab := ⟨[("MOST_NUMBER", 63)], [("is_whole", R_is_whole)], [], []⟩
def R_check_number (ds : List D) : Option D := defP t_check_number 1 n_check_number c_check_number ds
theorem m_check_number : (scC (defScope s_check_number) n_check_number [] [] [] && chkS t_check_number n_check_number (defScope s_check_number) (locC (defScope s_check_number)) c_check_number (defBody s_check_number)) = true := by decide +kernel
-- right_heads: level 1
def c_right_heads : S := (.asg 2 (.lst .nil) (.for (.tup (.cons (.tup (.cons (.n 3) (.cons (.n 4) .nil))) (.cons (.n 5) .nil))) (.zip (.v 0) (.v 1)) (.app 2 (.ite (.isN false (.v 4)) (.k (.int 0)) (.fn .max (.cons (.k (.int 0)) (.cons (.bin .sub (.fn .len (.cons (.v 5) .nil)) (.v 4)) .nil)))) .nil) (.frz 2 (.ret (.fn .tup (.cons (.v 2) .nil))))))
def t_right_heads : Tab := ⟨[], [], [], []⟩
def R_right_heads (ds : List D) : Option D := defP t_right_heads 2 n_right_heads c_right_heads ds
theorem m_right_heads : (scC (defScope s_right_heads) n_right_heads [] [] [] && chkS t_right_heads n_right_heads (defScope s_right_heads) (locC (defScope s_right_heads)) c_right_heads (defBody s_right_heads)) = true := by decide +kernel
-- first_far: level 2
def c_first_far : S := (.asg 3 (.call 0 (.cons (.v 0) (.cons (.v 2) .nil))) (.for (.tup (.cons (.n 4) (.cons (.tup (.cons (.n 5) (.cons (.n 6) .nil))) .nil))) (.enum (.v 0)) (.par2 7 (.fn .len (.cons (.ix (.v 1) (.v 4)) .nil)) 8 (.fn .len (.cons (.ix (.v 2) (.v 4)) .nil)) (.ite (.or (.cmp .gt (.v 8) (.v 7)) (.and (.isN true (.v 5)) (.cmp .lt (.v 8) (.bin .sub (.v 7) (.v 5))))) (.ret (.v 4)) .nil (.asg 9 (.fn .tup (.cons (.lc (.v 10) (.tup (.cons (.n 10) (.cons (.n 11) .nil))) (.seq (.slTo (.ix (.v 2) (.v 4)) (.ix (.v 3) (.v 4)))) [("number", 10), ("content", 11)]) .nil)) (.ite (.cmp .ne (.v 9) (.slTo (.ix (.v 1) (.v 4)) (.ix (.v 3) (.v 4)))) (.ret (.v 4)) .nil .nil)))) (.ret (.k .none))))
def t_first_far : Tab := ⟨[], [("right_heads", R_right_heads)], [], []⟩
def R_first_far (ds : List D) : Option D := defP t_first_far 3 n_first_far c_first_far ds
theorem m_first_far : (scC (defScope s_first_far) n_first_far [] [] [] && chkS t_first_far n_first_far (defScope s_first_far) (locC (defScope s_first_far)) c_first_far (defBody s_first_far)) = true := by decide +kernel
-- weights_table: level 3
def c_weights_table : S := (.ret (.lc (.lc (.call 0 (.cons (.v 0) (.cons (.v 1) (.cons (.v 2) .nil)))) (.n 2) (.rng1 (.ix (.v 0) (.k (.int 1)))) [("place", 2)]) (.n 1) (.rng1 (.fn .len (.cons (.ix (.v 0) (.k (.int 2))) .nil))) [("shelf", 1)]))
def t_weights_table : Tab := ⟨[], [("weights", R_weights)], [], []⟩
def R_weights_table (ds : List D) : Option D := defP t_weights_table 1 n_weights_table c_weights_table ds
theorem m_weights_table : (scC (defScope s_weights_table) n_weights_table [] [] [] && chkS t_weights_table n_weights_table (defScope s_weights_table) (locC (defScope s_weights_table)) c_weights_table (defBody s_weights_table)) = true := by decide +kernel
-- equations_of: level 1
def c_equations_of : S := (.asg 3 (.lst .nil) (.for (.tup (.cons (.n 4) (.cons (.n 5) (.cons (.n 6) .nil)))) (.seq (.v 2)) (.app 3 (.tup (.cons (.ite (.cmp .lt (.v 5) (.v 1)) (.ix (.ix (.v 0) (.v 4)) (.v 5)) (.bin .mul (.tup (.cons (.k (.int 0)) .nil)) (.v 1))) (.cons (.v 6) .nil))) .nil) (.frz 3 (.ret (.fn .tup (.cons (.v 3) .nil))))))
def t_equations_of : Tab := ⟨[], [], [], []⟩
def R_equations_of (ds : List D) : Option D := defP t_equations_of 3 n_equations_of c_equations_of ds
theorem m_equations_of : (scC (defScope s_equations_of) n_equations_of [] [] [] && chkS t_equations_of n_equations_of (defScope s_equations_of) (locC (defScope s_equations_of)) c_equations_of (defBody s_equations_of)) = true := by decide +kernel
-- flats_in: level 5
def c_flats_in : S := (.unp (.tup (.cons (.n 4) (.cons (.n 5) (.cons (.n 6) .nil)))) (.v 0) (.asg 7 .dic (.for (.tup (.cons (.n 8) (.cons (.n 9) .nil))) (.items 0 (.cons (.v 2) (.cons (.v 3) .nil))) (.asg 10 (.call 0 (.cons (.v 4) (.cons (.v 5) (.cons (.call 1 (.cons (.v 1) (.cons (.v 5) (.cons (.v 9) .nil)))) .nil)))) (.ite (.isN false (.v 10)) (.ret (.k .none)) .nil (.setD 7 (.v 8) (.v 10) .nil))) (.frz 7 (.ret (.v 7))))))
def t_flats_in : Tab := ⟨[], [("flat_of", R_flat_of), ("equations_of", R_equations_of)], [], [("cells_by", R_cells_by)]⟩
def R_flats_in (ds : List D) : Option D := defP t_flats_in 4 n_flats_in c_flats_in ds
theorem m_flats_in : (scC (defScope s_flats_in) n_flats_in [] [] [] && chkS t_flats_in n_flats_in (defScope s_flats_in) (locC (defScope s_flats_in)) c_flats_in (defBody s_flats_in)) = true := by decide +kernel
-- possible_flats: level 6
def c_possible_flats : S := (.par3 4 (.lst .nil) 5 (.lst .nil) 6 (.call 0 (.cons (.v 0) .nil)) (.for (.n 7) (.seq (.v 1)) (.asg 8 (.call 1 (.cons (.v 7) (.cons (.v 3) .nil))) (.ite (.or (.inO false (.v 8) 5) (.and (.isN true (.v 2)) (.isN true (.call 2 (.cons (.v 7) (.cons (.v 2) (.cons (.v 3) .nil))))))) .cont .nil (.app 5 (.v 8) (.asg 9 (.call 3 (.cons (.v 0) (.cons (.v 6) (.cons (.v 3) (.cons (.v 8) .nil))))) (.ite (.isN true (.v 9)) (.app 4 (.v 9) .nil) .nil .nil))))) (.frz 4 (.ret (.v 4)))))
def t_possible_flats : Tab := ⟨[], [("weights_table", R_weights_table), ("right_heads", R_right_heads), ("first_far", R_first_far), ("flats_in", R_flats_in)], [], []⟩
def R_possible_flats (ds : List D) : Option D := defP t_possible_flats 4 n_possible_flats c_possible_flats ds
theorem m_possible_flats : (scC (defScope s_possible_flats) n_possible_flats [] [] [] && chkS t_possible_flats n_possible_flats (defScope s_possible_flats) (locC (defScope s_possible_flats)) c_possible_flats (defBody s_possible_flats)) = true := by decide +kernel
-- whole_flat: level 1
def c_whole_flat : S := (.asg 1 (.lst .nil) (.for (.n 2) (.rng1 (.v 0)) (.app 1 (.fn .tup (.cons (.lc (.ite (.cmp .eq (.v 3) (.v 2)) (.k (.int 1)) (.k (.int 0))) (.n 3) (.rng1 (.v 0)) [("other", 3)]) .nil)) .nil) (.frz 1 (.ret (.tup (.cons (.bin .mul (.tup (.cons (.k (.int 0)) .nil)) (.v 0)) (.cons (.fn .tup (.cons (.v 1) .nil)) .nil)))))))
def t_whole_flat : Tab := ⟨[], [], [], []⟩
def R_whole_flat (ds : List D) : Option D := defP t_whole_flat 1 n_whole_flat c_whole_flat ds
theorem m_whole_flat : (scC (defScope s_whole_flat) n_whole_flat [] [] [] && chkS t_whole_flat n_whole_flat (defScope s_whole_flat) (locC (defScope s_whole_flat)) c_whole_flat (defBody s_whole_flat)) = true := by decide +kernel
-- agreed: level 1
def c_agreed : S := (.asg 2 (.fn .lst (.cons (.ix (.ix (.v 1) (.k (.int 0))) (.k (.int 0))) .nil)) (.for (.tup (.cons (.n 3) (.cons (.n 4) .nil))) (.seq (.v 1)) (.for (.n 5) (.rng1 (.v 0)) (.ite (.or (.cmp .ne (.ix (.v 3) (.v 5)) (.ix (.ix (.ix (.v 1) (.k (.int 0))) (.k (.int 0))) (.v 5))) (.fn .any (.cons (.lc (.cmp .ne (.ix (.v 6) (.v 5)) (.k (.int 0))) (.n 6) (.seq (.v 4)) [("way", 6)]) .nil))) (.setL 2 (.v 5) (.k .none) .nil) .nil .nil) .nil) (.frz 2 (.ret (.fn .tup (.cons (.v 2) .nil))))))
def t_agreed : Tab := ⟨[], [], [], []⟩
def R_agreed (ds : List D) : Option D := defP t_agreed 2 n_agreed c_agreed ds
theorem m_agreed : (scC (defScope s_agreed) n_agreed [] [] [] && chkS t_agreed n_agreed (defScope s_agreed) (locC (defScope s_agreed)) c_agreed (defBody s_agreed)) = true := by decide +kernel
-- two_unlike: level 1
def c_two_unlike : S := (.asg 2 (.ix (.ix (.v 1) (.k (.int 0))) (.k (.int 0))) (.for (.tup (.cons (.n 3) (.cons (.n 4) .nil))) (.seq (.v 1)) (.ite (.cmp .ne (.v 3) (.v 2)) (.ret (.tup (.cons (.v 2) (.cons (.v 3) .nil)))) .nil (.ite (.cmp .ne (.v 4) (.tup .nil)) (.ret (.tup (.cons (.v 3) (.cons (.fn .tup (.cons (.lc (.bin .mod (.bin .add (.v 5) (.v 6)) (.v 0)) (.tup (.cons (.n 5) (.cons (.n 6) .nil))) (.zip (.v 3) (.ix (.v 4) (.k (.int 0)))) [("one", 5), ("other", 6)]) .nil)) .nil)))) .nil .nil)) (.ret (.tup (.cons (.v 2) (.cons (.v 2) .nil))))))
def t_two_unlike : Tab := ⟨[], [], [], []⟩
def R_two_unlike (ds : List D) : Option D := defP t_two_unlike 2 n_two_unlike c_two_unlike ds
theorem m_two_unlike : (scC (defScope s_two_unlike) n_two_unlike [] [] [] && chkS t_two_unlike n_two_unlike (defScope s_two_unlike) (locC (defScope s_two_unlike)) c_two_unlike (defBody s_two_unlike)) = true := by decide +kernel
-- answer_of: level 2
def c_answer_of : S := (.unp (.tup (.cons (.n 3) (.cons (.n 4) (.cons (.n 5) .nil)))) (.v 0) (.ite (.cmp .eq (.v 1) (.lst .nil)) (.ret (.tup (.cons (.k (.str "none")) .nil))) .nil (.asg 6 (.lc (.get (.v 10) (.v 2) (.call 0 (.cons (.v 4) .nil))) (.n 10) (.seq (.v 1)) [("known", 10)]) (.frz 6 (.asg 7 (.call 1 (.cons (.v 4) (.cons (.v 6) .nil))) (.ite (.cmp .notin (.k .none) (.v 7)) (.ret (.tup (.cons (.k (.str "told")) (.cons (.v 7) .nil)))) .nil (.frz 6 (.unp (.tup (.cons (.n 8) (.cons (.n 9) .nil))) (.call 2 (.cons (.v 3) (.cons (.v 6) .nil))) (.ret (.tup (.cons (.k (.str "open")) (.cons (.v 7) (.cons (.v 8) (.cons (.v 9) .nil))))))))))))))
def t_answer_of : Tab := ⟨[], [("whole_flat", R_whole_flat), ("agreed", R_agreed), ("two_unlike", R_two_unlike)], [], []⟩
def R_answer_of (ds : List D) : Option D := defP t_answer_of 3 n_answer_of c_answer_of ds
theorem m_answer_of : (scC (defScope s_answer_of) n_answer_of [] [] [] && chkS t_answer_of n_answer_of (defScope s_answer_of) (locC (defScope s_answer_of)) c_answer_of (defBody s_answer_of)) = true := by decide +kernel
-- made_all: level 6
def c_made_all : S := (.asg 4 (.call 0 (.cons (.v 0) .nil)) (.asg 5 (.call 1 (.cons (.call 2 (.cons (.v 4) .nil)) (.cons (.v 1) .nil))) (.asg 6 (.ite (.isN false (.v 2)) (.k .none) (.call 3 (.cons (.v 4) (.cons (.v 2) .nil)))) (.ret (.tup (.cons (.v 4) (.cons (.v 5) (.cons (.v 6) (.cons (.call 4 (.cons (.v 4) (.cons (.v 3) .nil))) .nil)))))))))
def t_made_all : Tab := ⟨[], [("made_ground", R_made_ground), ("made_book", R_made_book), ("shelves", R_shelves), ("made_weaving", R_made_weaving), ("made_reading", R_made_reading)], [], []⟩
def R_made_all (ds : List D) : Option D := defP t_made_all 4 n_made_all c_made_all ds
theorem m_made_all : (scC (defScope s_made_all) n_made_all [] [] [] && chkS t_made_all n_made_all (defScope s_made_all) (locC (defScope s_made_all)) c_made_all (defBody s_made_all)) = true := by decide +kernel
-- read: level 7
def c_read : S := (.unp (.tup (.cons (.n 5) (.cons (.n 6) (.cons (.n 7) (.cons (.n 8) .nil))))) (.call 0 (.cons (.v 0) (.cons (.v 1) (.cons (.v 2) (.cons (.v 3) .nil))))) (.exp (.call 1 (.cons (.v 4) .nil)) (.ret (.call 2 (.cons (.v 5) (.cons (.call 3 (.cons (.v 5) (.cons (.v 6) (.cons (.v 7) (.cons (.v 8) .nil))))) (.cons (.v 4) .nil)))))))
def t_read : Tab := ⟨[], [("made_all", R_made_all), ("check_number", R_check_number), ("answer_of", R_answer_of), ("possible_flats", R_possible_flats)], [], []⟩
def R_read (ds : List D) : Option D := defP t_read 5 n_read c_read ds
theorem m_read : (scC (defScope s_read) n_read [] [] [] && chkS t_read n_read (defScope s_read) (locC (defScope s_read)) c_read (defBody s_read)) = true := by decide +kernel
-- _law_draw: level 1
def c_draw : S := (.ite (.and (.cmp .eq (.pl 0 0) (.k (.int 0))) (.plNe 0)) (.plPop 0 2 (.asg 3 (.ite (.cmp .ge (.v 2) (.k (.int 0))) (.bin .mul (.k (.int 2)) (.v 2)) (.bin .sub (.neg (.k (.int 1))) (.bin .mul (.k (.int 2)) (.v 2)))) (.plSet 0 0 (.ite (.cmp .ge (.v 3) (.bin .pow (.k (.int 10)) (.k (.int 18)))) (.v 3) (.k (.int 0))) (.plSet 0 1 (.bin .add (.bin .mod (.fn .int (.cons (.bin .add (.pl 0 1) (.bin .mul (.v 3) (.k (.int 69621)))) .nil)) (.k (.int 2147483629))) (.k (.int 3))) .nil)))) .nil (.ite (.cmp .gt (.pl 0 0) (.k (.int 0))) (.asg 4 (.bin .mod (.fn .int (.cons (.pl 0 0) .nil)) (.v 1)) (.plSet 0 0 (.bin .div (.pl 0 0) (.v 1)) (.ret (.v 4)))) .nil (.plSet 0 1 (.bin .mod (.fn .int (.cons (.bin .add (.bin .mul (.pl 0 1) (.k (.int 48271))) (.k (.int 11))) .nil)) (.k (.int 2147483647))) (.ret (.bin .mod (.bin .div (.bin .mod (.fn .int (.cons (.bin .mul (.pl 0 1) (.pl 0 1)) .nil)) (.k (.int 2147483629))) (.k (.int 32))) (.v 1))))))
def t_draw : Tab := ⟨[], [], [], []⟩
def R_draw (ds : List D) (q : Pl) : Option (D × Pl) := defQ t_draw 2 n_draw c_draw ds q
theorem m_draw : (scC (defScope s_draw) n_draw [] [] [] && chkS t_draw n_draw (defScope s_draw) (locC (defScope s_draw)) c_draw (defBody s_draw)) = true := by decide +kernel
-- _law_pick: level 2
def c_pick : S := (.ret (.ix (.v 1) (.callQ 0 0 (.cons (.fn .len (.cons (.v 1) .nil)) .nil))))
def t_pick : Tab := ⟨[], [], [("_law_draw", R_draw)], []⟩
def R_pick (ds : List D) (q : Pl) : Option (D × Pl) := defQ t_pick 2 n_pick c_pick ds q
theorem m_pick : (scC (defScope s_pick) n_pick [] [] [] && chkS t_pick n_pick (defScope s_pick) (locC (defScope s_pick)) c_pick (defBody s_pick)) = true := by decide +kernel
-- _law_turned: level 2
def c_turned : S := (.par2 2 (.lrng (.v 1)) 3 (.lst .nil) (.for (.n 4) (.rng1 (.v 1)) (.drw 3 2 (.callQ 0 0 (.cons (.lenO 2) .nil)) .nil) (.frz 3 (.ret (.v 3)))))
def t_turned : Tab := ⟨[], [], [("_law_draw", R_draw)], []⟩
def R_turned (ds : List D) (q : Pl) : Option (D × Pl) := defQ t_turned 2 n_turned c_turned ds q
theorem m_turned : (scC (defScope s_turned) n_turned [] [] [] && chkS t_turned n_turned (defScope s_turned) (locC (defScope s_turned)) c_turned (defBody s_turned)) = true := by decide +kernel
-- _law_batch: level 2
def c_batch : S := (.unp (.tup (.cons (.n 2) (.cons (.n 3) (.cons (.n 4) .nil)))) (.v 1) (.ite (.cmp .gt (.callQ 0 0 (.cons (.k (.int 4)) .nil)) (.k (.int 0))) (.ret (.fn .tup (.cons (.lc (.callQ 0 0 (.cons (.v 2) .nil)) (.n 5) (.rng1 (.v 3)) [("_law_place", 5)]) .nil))) .nil (.asg 5 (.callQ 0 0 (.cons (.v 3) .nil)) (.ret (.fn .tup (.cons (.lc (.ite (.cmp .eq (.v 6) (.v 5)) (.bin .sub (.v 2) (.k (.int 1))) (.k (.int 0))) (.n 6) (.rng1 (.v 3)) [("_law_at", 6)]) .nil))))))
def t_batch : Tab := ⟨[], [], [("_law_draw", R_draw)], []⟩
def R_batch (ds : List D) (q : Pl) : Option (D × Pl) := defQ t_batch 2 n_batch c_batch ds q
theorem m_batch : (scC (defScope s_batch) n_batch [] [] [] && chkS t_batch n_batch (defScope s_batch) (locC (defScope s_batch)) c_batch (defBody s_batch)) = true := by decide +kernel
-- _law_written_out: level 1
def c_written_out : S := (.ite (.cmp .eq (.v 2) (.v 0)) (.ret (.fn .lst (.cons (.rev (.v 1)) .nil))) .nil (.asg 3 (.lst .nil) (.for (.n 4) (.seq (.rev (.v 1))) (.frz 3 (.asg 5 (.bin .add (.v 3) (.lst (.cons (.k (.int 0)) .nil))) (.frz 5 (.asg 3 (.lc (.bin .mod (.fn .int (.cons (.bin .add (.bin .mul (.v 2) (.ix (.v 5) (.v 6))) (.ite (.cmp .gt (.v 6) (.k (.int 0))) (.ix (.v 5) (.bin .sub (.v 6) (.k (.int 1)))) (.k (.int 0)))) .nil)) (.v 0)) (.n 6) (.rng1 (.fn .len (.cons (.v 5) .nil))) [("_law_at", 6)]) (.setL 3 (.k (.int 0)) (.bin .mod (.fn .int (.cons (.bin .add (.ixO 3 (.k (.int 0))) (.v 4)) .nil)) (.v 0)) .nil))))) (.frz 3 (.ret (.v 3))))))
def t_written_out : Tab := ⟨[], [], [], []⟩
def R_written_out (ds : List D) : Option D := defP t_written_out 3 n_written_out c_written_out ds
theorem m_written_out : (scC (defScope s_written_out) n_written_out [] [] [] && chkS t_written_out n_written_out (defScope s_written_out) (locC (defScope s_written_out)) c_written_out (defBody s_written_out)) = true := by decide +kernel
-- _law_woven: level 2
def c_woven : S := (.asg 3 (.lst .nil) (.for (.tup (.cons (.n 4) (.cons (.n 5) .nil))) (.enum (.v 2)) (.asg 6 (.lc (.call 0 (.cons (.ix (.v 0) (.k (.int 0))) (.cons (.v 11) (.cons (.ix (.ix (.v 0) (.k (.int 2))) (.v 4)) .nil)))) (.n 11) (.seq (.v 1)) [("_law_batch_here", 11)]) (.asg 7 (.lst .nil) (.for (.tup (.cons (.n 8) (.cons (.n 9) .nil))) (.enum (.v 5)) (.asg 10 (.cnt (.v 5) (.v 8) (.v 9)) (.frz 6 (.app 7 (.tup (.cons (.v 9) (.cons (.ite (.cmp .lt (.v 10) (.fn .len (.cons (.ix (.v 6) (.v 9)) .nil))) (.ix (.ix (.v 6) (.v 9)) (.v 10)) (.k (.int 0))) .nil))) .nil))) (.frz 7 (.app 3 (.fn .tup (.cons (.v 7) .nil)) .nil))))) (.frz 3 (.ret (.fn .tup (.cons (.v 3) .nil))))))
def t_woven : Tab := ⟨[], [("_law_written_out", R_written_out)], [], []⟩
def R_woven (ds : List D) : Option D := defP t_woven 3 n_woven c_woven ds
theorem m_woven : (scC (defScope s_woven) n_woven [] [] [] && chkS t_woven n_woven (defScope s_woven) (locC (defScope s_woven)) c_woven (defBody s_woven)) = true := by decide +kernel
-- _law_wrong_cell: level 3
def c_wrong_cell : S := (.asg 4 (.callQ 0 0 (.cons (.k (.int 4)) .nil)) (.ite (.cmp .eq (.v 4) (.k (.int 0))) (.ret (.v 2)) .nil (.asg 5 (.ite (.cmp .lt (.v 4) (.k (.int 3))) (.ix (.v 2) (.k (.int 0))) (.callQ 1 0 (.cons (.lst (.cons (.callQ 0 0 (.cons (.v 3) .nil)) (.cons (.callQ 0 0 (.cons (.k (.int 64)) .nil)) .nil))) .nil))) (.ret (.tup (.cons (.v 5) (.cons (.callQ 0 0 (.cons (.ix (.v 1) (.k (.int 0))) .nil)) .nil)))))))
def t_wrong_cell : Tab := ⟨[], [], [("_law_draw", R_draw), ("_law_pick", R_pick)], []⟩
def R_wrong_cell (ds : List D) (q : Pl) : Option (D × Pl) := defQ t_wrong_cell 4 n_wrong_cell c_wrong_cell ds q
theorem m_wrong_cell : (scC (defScope s_wrong_cell) n_wrong_cell [] [] [] && chkS t_wrong_cell n_wrong_cell (defScope s_wrong_cell) (locC (defScope s_wrong_cell)) c_wrong_cell (defBody s_wrong_cell)) = true := by decide +kernel
-- _law_stop: level 4
def c_stop : S := (.asg 5 (.lst .nil) (.for (.tup (.cons (.n 6) (.cons (.n 7) .nil))) (.zip (.v 2) (.v 3)) (.asg 8 (.ite (.isN false (.ix (.v 6) (.k (.int 0)))) (.fn .len (.cons (.v 7) .nil)) (.fn .min (.cons (.ix (.v 6) (.k (.int 0))) (.cons (.fn .len (.cons (.v 7) .nil)) .nil)))) (.asg 9 (.callQ 0 0 (.cons (.lst (.cons (.v 8) (.cons (.callQ 1 0 (.cons (.bin .add (.v 8) (.k (.int 1))) .nil)) .nil))) .nil)) (.asg 10 (.slTo (.v 7) (.bin .sub (.fn .len (.cons (.v 7) .nil)) (.v 9))) (.frz 10 (.asg 8 (.ite (.isN false (.ix (.v 6) (.k (.int 1)))) (.fn .len (.cons (.v 10) .nil)) (.fn .min (.cons (.ix (.v 6) (.k (.int 1))) (.cons (.fn .len (.cons (.v 10) .nil)) .nil)))) (.asg 11 (.callQ 0 0 (.cons (.lst (.cons (.v 8) (.cons (.callQ 1 0 (.cons (.bin .add (.v 8) (.k (.int 1))) .nil)) .nil))) .nil)) (.frz 10 (.asg 12 (.lc (.callQ 2 0 (.cons (.v 1) (.cons (.v 13) (.cons (.v 4) .nil)))) (.n 13) (.seq (.slFrom (.v 10) (.bin .sub (.fn .len (.cons (.v 10) .nil)) (.v 11)))) [("_law_cell", 13)]) (.frz 12 (.app 5 (.tup (.cons (.v 9) (.cons (.fn .tup (.cons (.v 12) .nil)) .nil))) .nil)))))))))) (.frz 5 (.ret (.fn .tup (.cons (.v 5) .nil))))))
def t_stop : Tab := ⟨[], [], [("_law_pick", R_pick), ("_law_draw", R_draw), ("_law_wrong_cell", R_wrong_cell)], []⟩
def R_stop (ds : List D) (q : Pl) : Option (D × Pl) := defQ t_stop 5 n_stop c_stop ds q
theorem m_stop : (scC (defScope s_stop) n_stop [] [] [] && chkS t_stop n_stop (defScope s_stop) (locC (defScope s_stop)) c_stop (defBody s_stop)) = true := by decide +kernel
-- _law_stopped: level 1
def c_stopped : S := (.asg 2 (.lst .nil) (.for (.tup (.cons (.n 3) (.cons (.n 4) .nil))) (.zip (.v 0) (.v 1)) (.asg 5 (.bin .sub (.bin .sub (.fn .len (.cons (.v 3) .nil)) (.ix (.v 4) (.k (.int 0)))) (.fn .len (.cons (.ix (.v 4) (.k (.int 1))) .nil))) (.app 2 (.bin .add (.slTo (.v 3) (.v 5)) (.ix (.v 4) (.k (.int 1)))) .nil)) (.frz 2 (.ret (.fn .tup (.cons (.v 2) .nil))))))
def t_stopped : Tab := ⟨[], [], [], []⟩
def R_stopped (ds : List D) : Option D := defP t_stopped 2 n_stopped c_stopped ds
theorem m_stopped : (scC (defScope s_stopped) n_stopped [] [] [] && chkS t_stopped n_stopped (defScope s_stopped) (locC (defScope s_stopped)) c_stopped (defBody s_stopped)) = true := by decide +kernel
-- _law_all_rows: level 1
def c_all_rows : S := (.asg 2 (.lst (.cons (.tup .nil) .nil)) (.for (.n 3) (.rng1 (.v 1)) (.asg 4 (.lst .nil) (.frz 2 (.for (.n 5) (.seq (.v 2)) (.ext 4 (.lc (.bin .add (.v 5) (.tup (.cons (.v 6) .nil))) (.n 6) (.seq (.v 0)) [("_law_number", 6)]) .nil) (.frz 4 (.asg 2 (.v 4) .nil))))) (.frz 2 (.ret (.v 2)))))
def t_all_rows : Tab := ⟨[], [], [], []⟩
def R_all_rows (ds : List D) : Option D := defP t_all_rows 2 n_all_rows c_all_rows ds
theorem m_all_rows : (scC (defScope s_all_rows) n_all_rows [] [] [] && chkS t_all_rows n_all_rows (defScope s_all_rows) (locC (defScope s_all_rows)) c_all_rows (defBody s_all_rows)) = true := by decide +kernel
-- _law_tapes_for: level 2
def c_tapes_for : S := (.par3 6 (.lst .nil) 7 (.fn .len (.cons (.ix (.v 2) (.v 3)) .nil)) 8 (.ix (.ix (.v 0) (.v 3)) (.k (.int 0))) (.for (.n 9) (.rng2 (.v 7) (.bin .add (.v 5) (.k (.int 1)))) (.ite (.or (.isN false (.v 8)) (.cmp .le (.bin .sub (.v 9) (.v 7)) (.v 8))) (.ext 6 (.call 0 (.cons (.lrng (.v 4)) (.cons (.v 9) .nil))) .nil) .nil .nil) (.frz 6 (.ret (.lcIf (.v 10) (.or (.isN false (.v 1)) (.cmp .eq (.v 10) (.ix (.v 1) (.v 3)))) (.n 10) (.seq (.v 6)) [("_law_tape", 10)])))))
def t_tapes_for : Tab := ⟨[], [("_law_all_rows", R_all_rows)], [], []⟩
def R_tapes_for (ds : List D) : Option D := defP t_tapes_for 6 n_tapes_for c_tapes_for ds
theorem m_tapes_for : (scC (defScope s_tapes_for) n_tapes_for [] [] [] && chkS t_tapes_for n_tapes_for (defScope s_tapes_for) (locC (defScope s_tapes_for)) c_tapes_for (defBody s_tapes_for)) = true := by decide +kernel
-- _law_leaves: level 1
def c_leaves : S := (.asg 3 (.k (.int 0)) (.for (.tup (.cons (.n 4) (.cons (.n 5) .nil))) (.zip (.v 1) (.v 2)) (.ite (.cmp .ne (.v 4) (.v 5)) .brk .nil (.asg 3 (.bin .add (.v 3) (.k (.int 1))) .nil)) (.ret (.or (.isN false (.ix (.v 0) (.k (.int 1)))) (.cmp .le (.bin .sub (.fn .len (.cons (.v 2) .nil)) (.v 3)) (.ix (.v 0) (.k (.int 1))))))))
def t_leaves : Tab := ⟨[], [], [], []⟩
def R_leaves (ds : List D) : Option D := defP t_leaves 3 n_leaves c_leaves ds
theorem m_leaves : (scC (defScope s_leaves) n_leaves [] [] [] && chkS t_leaves n_leaves (defScope s_leaves) (locC (defScope s_leaves)) c_leaves (defBody s_leaves)) = true := by decide +kernel
-- _law_is_world: level 3
def c_is_world : S := (.for (.tup (.cons (.n 5) (.cons (.n 6) .nil))) (.enum (.call 0 (.cons (.v 0) (.cons (.v 2) (.cons (.v 3) .nil))))) (.ite (.not (.call 1 (.cons (.ix (.v 1) (.v 5)) (.cons (.v 6) (.cons (.ix (.v 4) (.v 5)) .nil))))) (.ret (.k (.bool false))) .nil .nil) (.ret (.k (.bool true))))
def t_is_world : Tab := ⟨[], [("_law_woven", R_woven), ("_law_leaves", R_leaves)], [], []⟩
def R_is_world (ds : List D) : Option D := defP t_is_world 5 n_is_world c_is_world ds
theorem m_is_world : (scC (defScope s_is_world) n_is_world [] [] [] && chkS t_is_world n_is_world (defScope s_is_world) (locC (defScope s_is_world)) c_is_world (defBody s_is_world)) = true := by decide +kernel
-- _law_worlds: level 4
def c_worlds : S := (.par2 7 (.call 0 (.cons (.lrng (.ix (.v 0) (.k (.int 0)))) (.cons (.ix (.v 0) (.k (.int 1))) .nil))) 8 (.lst .nil) (.for (.n 9) (.seq (.v 1)) (.asg 10 (.lst (.cons (.tup .nil) .nil)) (.for (.n 11) (.rng1 (.fn .len (.cons (.ix (.v 0) (.k (.int 2))) .nil))) (.asg 12 (.lst .nil) (.frz 10 (.for (.n 13) (.seq (.v 10)) (.ext 12 (.lc (.bin .add (.v 13) (.tup (.cons (.v 16) .nil))) (.n 16) (.seq (.call 1 (.cons (.v 9) (.cons (.v 2) (.cons (.v 3) (.cons (.v 11) (.cons (.v 5) (.cons (.v 6) .nil)))))))) [("_law_tape", 16)]) .nil) (.frz 12 (.asg 10 (.v 12) .nil))))) (.frz 10 (.for (.n 14) (.seq (.v 10)) (.for (.n 15) (.seq (.call 0 (.cons (.v 7) (.cons (.v 5) .nil)))) (.ite (.and (.inO true (.ix (.v 15) (.v 4)) 8) (.call 2 (.cons (.v 0) (.cons (.v 9) (.cons (.v 15) (.cons (.v 14) (.cons (.v 3) .nil))))))) (.app 8 (.ix (.v 15) (.v 4)) .nil) .nil .nil) .nil) .nil)))) (.frz 8 (.ret (.fn .sorted (.cons (.v 8) .nil))))))
def t_worlds : Tab := ⟨[], [("_law_all_rows", R_all_rows), ("_law_tapes_for", R_tapes_for), ("_law_is_world", R_is_world)], [], []⟩
def R_worlds (ds : List D) : Option D := defP t_worlds 7 n_worlds c_worlds ds
theorem m_worlds : (scC (defScope s_worlds) n_worlds [] [] [] && chkS t_worlds n_worlds (defScope s_worlds) (locC (defScope s_worlds)) c_worlds (defBody s_worlds)) = true := by decide +kernel
-- _law_tiny: level 3
def c_tiny : S := (.asg 1 (.ite (.cmp .eq (.callQ 0 0 (.cons (.k (.int 4)) .nil)) (.k (.int 3))) (.k (.int 2)) (.k (.int 1))) (.asg 2 (.ite (.cmp .eq (.v 1) (.k (.int 2))) (.k (.int 2)) (.callQ 1 0 (.cons (.lst (.cons (.k (.int 2)) (.cons (.k (.int 3)) .nil))) .nil))) (.unp (.tup (.cons (.n 3) (.cons (.n 4) .nil))) (.tup (.cons (.slTo (.callQ 2 0 (.cons (.bin .add (.v 2) (.k (.int 1))) .nil)) (.bin .add (.k (.int 1)) (.callQ 0 0 (.cons (.k (.int 2)) .nil)))) (.cons (.lst (.cons (.k (.int 0)) (.cons (.k (.int 0)) (.cons (.k (.int 0)) (.cons (.k (.int 1)) (.cons (.k (.int 1)) (.cons (.k .none) .nil))))))) .nil))) (.asg 5 (.lst .nil) (.for (.n 6) (.rng1 (.bin .add (.k (.int 1)) (.callQ 0 0 (.cons (.k (.int 2)) .nil)))) (.frz 3 (.frz 4 (.app 5 (.fn .tup (.cons (.lc (.tup (.cons (.callQ 1 0 (.cons (.v 4) .nil)) (.cons (.callQ 1 0 (.cons (.v 4) .nil)) .nil))) (.n 7) (.seq (.v 3)) [("_law_point", 7)]) .nil)) .nil))) (.frz 5 (.frz 3 (.ret (.tup (.cons (.tup (.cons (.v 2) (.cons (.v 1) (.cons (.fn .tup (.cons (.v 3) .nil)) .nil)))) (.cons (.fn .tup (.cons (.v 5) .nil)) .nil)))))))))))
def t_tiny : Tab := ⟨[], [], [("_law_draw", R_draw), ("_law_pick", R_pick), ("_law_turned", R_turned)], []⟩
def R_tiny (ds : List D) (q : Pl) : Option (D × Pl) := defQ t_tiny 1 n_tiny c_tiny ds q
theorem m_tiny : (scC (defScope s_tiny) n_tiny [] [] [] && chkS t_tiny n_tiny (defScope s_tiny) (locC (defScope s_tiny)) c_tiny (defBody s_tiny)) = true := by decide +kernel
-- _law_tapes: level 2
def c_tapes : S := (.ret (.fn .tup (.cons (.lc (.fn .tup (.cons (.lc (.callQ 0 0 (.cons (.k (.int 2)) .nil)) (.n 4) (.rng1 (.callQ 0 0 (.cons (.bin .add (.v 2) (.k (.int 1))) .nil))) [("_law_turn", 4)]) .nil)) (.n 3) (.rng1 (.v 1)) [("_law_shelf", 3)]) .nil)))
def t_tapes : Tab := ⟨[], [], [("_law_draw", R_draw)], []⟩
def R_tapes (ds : List D) (q : Pl) : Option (D × Pl) := defQ t_tapes 3 n_tapes c_tapes ds q
theorem m_tapes : (scC (defScope s_tapes) n_tapes [] [] [] && chkS t_tapes n_tapes (defScope s_tapes) (locC (defScope s_tapes)) c_tapes (defBody s_tapes)) = true := by decide +kernel
-- _law_reading: level 5
def c_reading : S := (.ite (.cmp .eq (.callQ 0 0 (.cons (.k (.int 4)) .nil)) (.k (.int 0))) (.ret (.fn .tup (.cons (.lc (.fn .tup (.cons (.lc (.tup (.cons (.v 7) (.cons (.callQ 0 0 (.cons (.ix (.v 1) (.k (.int 0))) .nil)) .nil))) (.n 7) (.seq (.v 6)) [("_law_b", 7)]) .nil)) (.n 6) (.seq (.v 3)) [("_law_tape", 6)]) .nil))) .nil (.asg 4 (.call 0 (.cons (.v 1) (.cons (.tup (.cons (.callQ 1 0 (.cons (.v 1) .nil)) (.cons (.callQ 1 0 (.cons (.v 1) .nil)) .nil))) (.cons (.v 3) .nil)))) (.asg 5 (.call 1 (.cons (.v 4) (.cons (.callQ 2 0 (.cons (.v 1) (.cons (.callQ 3 0 (.cons (.v 2) .nil)) (.cons (.v 4) (.cons (.k (.int 2)) .nil))))) .nil))) (.ret (.fn .tup (.cons (.lc (.fn .tup (.cons (.lc (.tup (.cons (.bin .mod (.fn .int (.cons (.ix (.v 9) (.k (.int 0))) .nil)) (.k (.int 2))) (.cons (.ix (.v 9) (.k (.int 1))) .nil))) (.n 9) (.seq (.v 8)) [("_law_cell", 9)]) .nil)) (.n 8) (.seq (.v 5)) [("_law_cells", 8)]) .nil))))))
def t_reading : Tab := ⟨[], [("_law_woven", R_woven), ("_law_stopped", R_stopped)], [("_law_draw", R_draw), ("_law_batch", R_batch), ("_law_stop", R_stop), ("_law_pick", R_pick)], []⟩
def R_reading (ds : List D) (q : Pl) : Option (D × Pl) := defQ t_reading 4 n_reading c_reading ds q
theorem m_reading : (scC (defScope s_reading) n_reading [] [] [] && chkS t_reading n_reading (defScope s_reading) (locC (defScope s_reading)) c_reading (defBody s_reading)) = true := by decide +kernel
-- _law_due_right: level 1
def c_due_right : S := (.ite (.cmp .eq (.v 1) (.lst .nil)) (.ret (.cmp .eq (.v 2) (.tup (.cons (.k (.str "none")) .nil)))) .nil (.ite (.cmp .eq (.fn .len (.cons (.v 1) .nil)) (.k (.int 1))) (.ret (.cmp .eq (.v 2) (.tup (.cons (.k (.str "told")) (.cons (.ix (.v 1) (.k (.int 0))) .nil))))) .nil (.asg 3 (.lst .nil) (.for (.n 4) (.rng1 (.ix (.v 0) (.k (.int 1)))) (.asg 5 (.lc (.ix (.v 6) (.v 4)) (.n 6) (.seq (.v 1)) [("_law_batch_here", 6)]) (.frz 5 (.app 3 (.ite (.cmp .eq (.fn .min (.cons (.v 5) .nil)) (.fn .max (.cons (.v 5) .nil))) (.ix (.v 5) (.k (.int 0))) (.k .none)) .nil))) (.frz 3 (.ite (.or (.not (.isi 0 (.v 2))) (.or (.cmp .ne (.fn .len (.cons (.v 2) .nil)) (.k (.int 4))) (.cmp .ne (.slTo (.v 2) (.k (.int 2))) (.tup (.cons (.k (.str "open")) (.cons (.fn .tup (.cons (.v 3) .nil)) .nil)))))) (.ret (.k (.bool false))) .nil (.ret (.and (.cmp .inn (.ix (.v 2) (.k (.int 2))) (.v 1)) (.and (.cmp .inn (.ix (.v 2) (.k (.int 3))) (.v 1)) (.cmp .ne (.ix (.v 2) (.k (.int 2))) (.ix (.v 2) (.k (.int 3)))))))))))))
def t_due_right : Tab := ⟨[], [], [], []⟩
def R_due_right (ds : List D) : Option D := defP t_due_right 3 n_due_right c_due_right ds
theorem m_due_right : (scC (defScope s_due_right) n_due_right [] [] [] && chkS t_due_right n_due_right (defScope s_due_right) (locC (defScope s_due_right)) c_due_right (defBody s_due_right)) = true := by decide +kernel
-- law: level 8
def c_law : S := (.unp (.tup (.cons (.n 2) (.cons (.n 3) .nil))) (.callQ 0 1 .nil) (.asg 4 (.ite (.and (.cmp .eq (.fn .len (.cons (.ix (.v 2) (.k (.int 2))) .nil)) (.k (.int 1))) (.cmp .eq (.callQ 1 1 (.cons (.k (.int 4)) .nil)) (.k (.int 3)))) (.k (.int 3)) (.k (.int 2))) (.asg 5 (.callQ 2 1 (.cons (.fn .len (.cons (.ix (.v 2) (.k (.int 2))) .nil)) (.cons (.v 4) .nil))) (.asg 6 (.callQ 3 1 (.cons (.v 2) (.cons (.v 3) (.cons (.v 5) .nil)))) (.asg 7 (.ite (.cmp .eq (.callQ 1 1 (.cons (.k (.int 2)) .nil)) (.k (.int 0))) (.v 5) (.k .none)) (.asg 8 (.fn .max (.cons (.lc (.fn .len (.cons (.v 11) .nil)) (.n 11) (.seq (.v 6)) [("_law_cells", 11)]) .nil)) (.for (.n 9) (.rng1 (.k (.int 2))) (.asg 10 (.call 0 (.cons (.v 2) (.cons (.v 3) (.cons (.v 7) (.cons (.v 6) (.cons (.v 9) (.cons (.k (.int 2)) (.cons (.ite (.isN true (.v 7)) (.v 4) (.v 8)) .nil)))))))) (.ite (.not (.call 1 (.cons (.v 2) (.cons (.v 10) (.cons (.call 2 (.cons (.v 2) (.cons (.v 3) (.cons (.v 7) (.cons (.v 6) (.cons (.v 9) .nil)))))) .nil))))) (.ret (.k (.bool false))) .nil .nil)) (.ret (.k (.bool true))))))))))
def t_law : Tab := ⟨[], [("_law_worlds", R_worlds), ("_law_due_right", R_due_right), ("read", R_read)], [("_law_tiny", R_tiny), ("_law_draw", R_draw), ("_law_tapes", R_tapes), ("_law_reading", R_reading)], []⟩
theorem m_law : (scC (defScope s_law) n_law [] [] [] && chkS t_law n_law (defScope s_law) (locC (defScope s_law)) c_law ((defBody s_law).drop 1)) = true := by decide +kernel
end Fs
-- FsHd
/-! The head: the top's run, what it leaves, by names. Printed by gen3.py. -/
namespace Fs
open PySem PySem.Spec PyProof.Rows L2
def d_is_whole : He.DefD := ⟨("is_whole", none), "is_whole", "is_whole", defArgs s_is_whole, defBody s_is_whole, defScope s_is_whole, [], []⟩
def d_is_prime : He.DefD := ⟨("is_prime", none), "is_prime", "is_prime", defArgs s_is_prime, defBody s_is_prime, defScope s_is_prime, [], []⟩
def d_inverse : He.DefD := ⟨("inverse", none), "inverse", "inverse", defArgs s_inverse, defBody s_inverse, defScope s_inverse, [], []⟩
def d_are_points : He.DefD := ⟨("are_points", none), "are_points", "are_points", defArgs s_are_points, defBody s_are_points, defScope s_are_points, [], []⟩
def d_made_ground : He.DefD := ⟨("made_ground", none), "made_ground", "made_ground", defArgs s_made_ground, defBody s_made_ground, defScope s_made_ground, [], []⟩
def d_shelves : He.DefD := ⟨("shelves", none), "shelves", "shelves", defArgs s_shelves, defBody s_shelves, defScope s_shelves, [], []⟩
def d_ways : He.DefD := ⟨("ways", none), "ways", "ways", defArgs s_ways, defBody s_ways, defScope s_ways, [], []⟩
def d_weights : He.DefD := ⟨("weights", none), "weights", "weights", defArgs s_weights, defBody s_weights, defScope s_weights, [], []⟩
def d_is_below : He.DefD := ⟨("is_below", none), "is_below", "is_below", defArgs s_is_below, defBody s_is_below, defScope s_is_below, [], []⟩
def d_is_tape : He.DefD := ⟨("is_tape", none), "is_tape", "is_tape", defArgs s_is_tape, defBody s_is_tape, defScope s_is_tape, [], []⟩
def d_is_cell : He.DefD := ⟨("is_cell", none), "is_cell", "is_cell", defArgs s_is_cell, defBody s_is_cell, defScope s_is_cell, [], []⟩
def d_are_cells : He.DefD := ⟨("are_cells", none), "are_cells", "are_cells", defArgs s_are_cells, defBody s_are_cells, defScope s_are_cells, [], []⟩
def d_made_weaving : He.DefD := ⟨("made_weaving", none), "made_weaving", "made_weaving", defArgs s_made_weaving, defBody s_made_weaving, defScope s_made_weaving, [], []⟩
def d_made_reading : He.DefD := ⟨("made_reading", none), "made_reading", "made_reading", defArgs s_made_reading, defBody s_made_reading, defScope s_made_reading, [], []⟩
def d_is_bound : He.DefD := ⟨("is_bound", none), "is_bound", "is_bound", defArgs s_is_bound, defBody s_is_bound, defScope s_is_bound, [], []⟩
def d_is_fate : He.DefD := ⟨("is_fate", none), "is_fate", "is_fate", defArgs s_is_fate, defBody s_is_fate, defScope s_is_fate, [], []⟩
def d_is_row : He.DefD := ⟨("is_row", none), "is_row", "is_row", defArgs s_is_row, defBody s_is_row, defScope s_is_row, [], []⟩
def d_made_book : He.DefD := ⟨("made_book", none), "made_book", "made_book", defArgs s_made_book, defBody s_made_book, defScope s_made_book, [], []⟩
def d_without : He.DefD := ⟨("without", none), "without", "without", defArgs s_without, defBody s_without, defScope s_without, [], []⟩
def d_first_place : He.DefD := ⟨("first_place", none), "first_place", "first_place", defArgs s_first_place, defBody s_first_place, defScope s_first_place, [], []⟩
def d_reduced : He.DefD := ⟨("reduced", none), "reduced", "reduced", defArgs s_reduced, defBody s_reduced, defScope s_reduced, [], []⟩
def d_kernel_of : He.DefD := ⟨("kernel_of", none), "kernel_of", "kernel_of", defArgs s_kernel_of, defBody s_kernel_of, defScope s_kernel_of, [], []⟩
def d_less : He.DefD := ⟨("less", none), "less", "less", defArgs s_less, defBody s_less, defScope s_less, [], []⟩
def d_first_column : He.DefD := ⟨("first_column", none), "first_column", "first_column", defArgs s_first_column, defBody s_first_column, defScope s_first_column, [], []⟩
def d_chosen : He.DefD := ⟨("chosen", none), "chosen", "chosen", defArgs s_chosen, defBody s_chosen, defScope s_chosen, [], []⟩
def d_flat_of : He.DefD := ⟨("flat_of", none), "flat_of", "flat_of", defArgs s_flat_of, defBody s_flat_of, defScope s_flat_of, [], []⟩
def d_check_number : He.DefD := ⟨("check_number", none), "check_number", "check_number", defArgs s_check_number, defBody s_check_number, defScope s_check_number, [], []⟩
def d_right_heads : He.DefD := ⟨("right_heads", none), "right_heads", "right_heads", defArgs s_right_heads, defBody s_right_heads, defScope s_right_heads, [], []⟩
def d_first_far : He.DefD := ⟨("first_far", none), "first_far", "first_far", defArgs s_first_far, defBody s_first_far, defScope s_first_far, [], []⟩
def d_cells_by : He.DefD := ⟨("cells_by", none), "cells_by", "cells_by", defArgs s_cells_by, defBody s_cells_by, defScope s_cells_by, [], []⟩
def d_weights_table : He.DefD := ⟨("weights_table", none), "weights_table", "weights_table", defArgs s_weights_table, defBody s_weights_table, defScope s_weights_table, [], []⟩
def d_equations_of : He.DefD := ⟨("equations_of", none), "equations_of", "equations_of", defArgs s_equations_of, defBody s_equations_of, defScope s_equations_of, [], []⟩
def d_flats_in : He.DefD := ⟨("flats_in", none), "flats_in", "flats_in", defArgs s_flats_in, defBody s_flats_in, defScope s_flats_in, [], []⟩
def d_possible_flats : He.DefD := ⟨("possible_flats", none), "possible_flats", "possible_flats", defArgs s_possible_flats, defBody s_possible_flats, defScope s_possible_flats, [], []⟩
def d_whole_flat : He.DefD := ⟨("whole_flat", none), "whole_flat", "whole_flat", defArgs s_whole_flat, defBody s_whole_flat, defScope s_whole_flat, [], []⟩
def d_agreed : He.DefD := ⟨("agreed", none), "agreed", "agreed", defArgs s_agreed, defBody s_agreed, defScope s_agreed, [], []⟩
def d_two_unlike : He.DefD := ⟨("two_unlike", none), "two_unlike", "two_unlike", defArgs s_two_unlike, defBody s_two_unlike, defScope s_two_unlike, [], []⟩
def d_answer_of : He.DefD := ⟨("answer_of", none), "answer_of", "answer_of", defArgs s_answer_of, defBody s_answer_of, defScope s_answer_of, [], []⟩
def d_made_all : He.DefD := ⟨("made_all", none), "made_all", "made_all", defArgs s_made_all, defBody s_made_all, defScope s_made_all, [], []⟩
def d_read : He.DefD := ⟨("read", none), "read", "read", defArgs s_read, defBody s_read, defScope s_read, [], []⟩
def d_pool : He.DefD := ⟨("_law_pool", none), "_law_pool", "_law_pool", defArgs s_pool, defBody s_pool, defScope s_pool, [], []⟩
def d_draw : He.DefD := ⟨("_law_draw", none), "_law_draw", "_law_draw", defArgs s_draw, defBody s_draw, defScope s_draw, [], []⟩
def d_pick : He.DefD := ⟨("_law_pick", none), "_law_pick", "_law_pick", defArgs s_pick, defBody s_pick, defScope s_pick, [], []⟩
def d_turned : He.DefD := ⟨("_law_turned", none), "_law_turned", "_law_turned", defArgs s_turned, defBody s_turned, defScope s_turned, [], []⟩
def d_batch : He.DefD := ⟨("_law_batch", none), "_law_batch", "_law_batch", defArgs s_batch, defBody s_batch, defScope s_batch, [], []⟩
def d_written_out : He.DefD := ⟨("_law_written_out", none), "_law_written_out", "_law_written_out", defArgs s_written_out, defBody s_written_out, defScope s_written_out, [], []⟩
def d_woven : He.DefD := ⟨("_law_woven", none), "_law_woven", "_law_woven", defArgs s_woven, defBody s_woven, defScope s_woven, [], []⟩
def d_wrong_cell : He.DefD := ⟨("_law_wrong_cell", none), "_law_wrong_cell", "_law_wrong_cell", defArgs s_wrong_cell, defBody s_wrong_cell, defScope s_wrong_cell, [], []⟩
def d_stop : He.DefD := ⟨("_law_stop", none), "_law_stop", "_law_stop", defArgs s_stop, defBody s_stop, defScope s_stop, [], []⟩
def d_stopped : He.DefD := ⟨("_law_stopped", none), "_law_stopped", "_law_stopped", defArgs s_stopped, defBody s_stopped, defScope s_stopped, [], []⟩
def d_all_rows : He.DefD := ⟨("_law_all_rows", none), "_law_all_rows", "_law_all_rows", defArgs s_all_rows, defBody s_all_rows, defScope s_all_rows, [], []⟩
def d_tapes_for : He.DefD := ⟨("_law_tapes_for", none), "_law_tapes_for", "_law_tapes_for", defArgs s_tapes_for, defBody s_tapes_for, defScope s_tapes_for, [], []⟩
def d_leaves : He.DefD := ⟨("_law_leaves", none), "_law_leaves", "_law_leaves", defArgs s_leaves, defBody s_leaves, defScope s_leaves, [], []⟩
def d_worlds : He.DefD := ⟨("_law_worlds", none), "_law_worlds", "_law_worlds", defArgs s_worlds, defBody s_worlds, defScope s_worlds, [], []⟩
def d_is_world : He.DefD := ⟨("_law_is_world", none), "_law_is_world", "_law_is_world", defArgs s_is_world, defBody s_is_world, defScope s_is_world, [], []⟩
def d_tiny : He.DefD := ⟨("_law_tiny", none), "_law_tiny", "_law_tiny", defArgs s_tiny, defBody s_tiny, defScope s_tiny, [], []⟩
def d_tapes : He.DefD := ⟨("_law_tapes", none), "_law_tapes", "_law_tapes", defArgs s_tapes, defBody s_tapes, defScope s_tapes, [], []⟩
def d_reading : He.DefD := ⟨("_law_reading", none), "_law_reading", "_law_reading", defArgs s_reading, defBody s_reading, defScope s_reading, [], []⟩
def d_due_right : He.DefD := ⟨("_law_due_right", none), "_law_due_right", "_law_due_right", defArgs s_due_right, defBody s_due_right, defScope s_due_right, [], []⟩
def d_law : He.DefD := ⟨("law", none), "law", "law", defArgs s_law, defBody s_law, defScope s_law, [], []⟩
def hfn0 : List He.DefD := [d_is_whole, d_is_prime, d_inverse, d_are_points, d_made_ground, d_shelves, d_ways, d_weights, d_is_below, d_is_tape, d_is_cell, d_are_cells, d_made_weaving, d_made_reading, d_is_bound, d_is_fate, d_is_row, d_made_book, d_without, d_first_place]
def hfn1 : List He.DefD := [d_reduced, d_kernel_of, d_less, d_first_column, d_chosen, d_flat_of, d_check_number, d_right_heads, d_first_far, d_cells_by, d_weights_table, d_equations_of, d_flats_in, d_possible_flats, d_whole_flat, d_agreed, d_two_unlike, d_answer_of, d_made_all, d_read]
def hfn2 : List He.DefD := [d_pool, d_draw, d_pick, d_turned, d_batch, d_written_out, d_woven, d_wrong_cell, d_stop, d_stopped, d_all_rows, d_tapes_for, d_leaves, d_worlds, d_is_world, d_tiny, d_tapes, d_reading, d_due_right, d_law]
def hfn : List He.DefD := hfn0 ++ hfn1 ++ hfn2
def hfa0 : List He.Fa := [.glo "is_whole", .glo "is_prime", .glo "inverse", .glo "are_points", .glo "made_ground", .glo "shelves", .glo "ways", .glo "weights", .glo "is_below", .glo "is_tape", .glo "is_cell", .glo "are_cells", .glo "made_weaving", .glo "made_reading", .glo "is_bound", .glo "is_fate", .glo "is_row", .glo "made_book", .glo "without", .glo "first_place", .glo "reduced", .glo "kernel_of", .glo "less", .glo "first_column", .glo "chosen"]
def hfa1 : List He.Fa := [.glo "flat_of", .glo "check_number", .glo "right_heads", .glo "first_far", .glo "cells_by", .glo "weights_table", .glo "equations_of", .glo "flats_in", .glo "possible_flats", .glo "whole_flat", .glo "agreed", .glo "two_unlike", .glo "answer_of", .glo "made_all", .glo "read", .glo "_law_pool", .glo "_law_draw", .glo "_law_pick", .glo "_law_turned", .glo "_law_batch", .glo "_law_written_out", .glo "_law_woven", .glo "_law_wrong_cell", .glo "_law_stop", .glo "_law_stopped"]
def hfa2 : List He.Fa := [.glo "_law_all_rows", .glo "_law_tapes_for", .glo "_law_leaves", .glo "_law_worlds", .glo "_law_is_world", .glo "_law_tiny", .glo "_law_tapes", .glo "_law_reading", .glo "_law_due_right", .glo "law", .free "len", .free "range", .free "tuple", .free "list", .free "int", .free "bool", .free "isinstance", .free "max", .free "min", .free "enumerate", .free "zip", .free "any", .free "sorted", .int "MOST_PRIME" 65521, .int "MOST_NUMBERS" 12]
def hfa3 : List He.Fa := [.int "MOST_SHELVES_grounds" 8, .int "MOST_CELLS" 1024, .int "MOST_BATCHES" 64, .int "MOST_SHELVES_books" 8, .int "MOST_ROWS" 24, .int "MOST_FATE" 64, .int "MOST_NUMBER" 63]
def hfa : List He.Fa := hfa0 ++ hfa1 ++ hfa2 ++ hfa3
def hnm0 : List PySem.Str := ["Refused", "NoInverse", "BadGround", "TooMany", "BadWeaving", "BadReading", "BadMany", "BadBook", "BadNumber", "MOST_PRIME", "is_whole", "is_prime", "inverse", "MOST_NUMBERS", "MOST_SHELVES_grounds", "are_points", "made_ground", "shelves", "ways", "weights", "MOST_CELLS", "MOST_BATCHES", "is_below", "is_tape", "is_cell", "are_cells", "made_weaving", "made_reading", "MOST_SHELVES_books", "MOST_ROWS"]
def hnm1 : List PySem.Str := ["MOST_FATE", "is_bound", "is_fate", "is_row", "made_book", "without", "first_place", "reduced", "kernel_of", "less", "first_column", "chosen", "flat_of", "MOST_NUMBER", "check_number", "right_heads", "first_far", "cells_by", "weights_table", "equations_of", "flats_in", "possible_flats", "whole_flat", "agreed", "two_unlike", "answer_of", "made_all", "read", "_law_pool", "_law_draw"]
def hnm2 : List PySem.Str := ["_law_pick", "_law_turned", "_law_batch", "_law_written_out", "_law_woven", "_law_wrong_cell", "_law_stop", "_law_stopped", "_law_all_rows", "_law_tapes_for", "_law_leaves", "_law_worlds", "_law_is_world", "_law_tiny", "_law_tapes", "_law_reading", "_law_due_right"]
def hnm : List PySem.Str := hnm0 ++ hnm1 ++ hnm2
abbrev hR : PySem.W.OpenRow := PySem.W.OpenLaw.row PySem.Challenge.rw_firstsafe_k42_whole_read_beside_all_worl
abbrev hk : PySem.W.Hook := He.hookD 4 hfa hfn
def hob (s : PySem.W.SharedT) : He.AlD := He.obsDG 4 hfa hfn (HandSHeadRun.getT s)
theorem hob_eq (s : PySem.W.SharedT) : hob s = hk.obs s.abs := He.obsDG_eq (HandSHeadRun.getT_eq s)
theorem hrun (w : World) : HandSHeadRun.RunEq hR (PySem.W.view hR.prog [88]) hk hob 8000 hnm w := by
  intro os
  kernel_rfl
end Fs
-- FsLw
/-! The law's def, by its code and what the code runs to. -/
namespace Fs
open PySem PySem.Spec PyProof.Rows L2
def LawOk : Prop := ∀ ns : List Int, ns.length ≤ 63 → ∀ p L : Addr, ∃ pi, runS t_law c_law (.non :: .pool :: List.replicate 10 .non) (some ⟨p, L, initA ns, initB ns, ns.drop 1⟩) = some (.rt (.bool true) pi)
def spLaw (K : Frag) : Sp := fun vs H Q _ => ∃ (a : Addr) (ns : List Int), vs = [.ref a] ∧ ns.length ≤ 63 ∧ SqL K H a (ns.map V.int) ∧ ∀ H', Q (.bl true) H'
def lawTop (sc : Scope) (sto : Str → Bool) : List Stmt → Bool
  | .Assign [.Name y _] (.Call (.Name f _) [.Name x _] [] _) _ :: _ => decide (f = "_law_pool") && gloOk sc f && nmC sc n_law 0 x && decide (n_law[1]? = some y) && sto y
  | _ => false
theorem law_top : lawTop (defScope s_law) (locC (defScope s_law)) (defBody s_law) = true := by decide +kernel
theorem fun_ofD {K : Frag} {x qual : Str} {st : Stmt} {kws : List (Str × V)} {f : Addr} {fd : FuncData} (F : FunD K x qual (defArgs st) (defBody st) (defScope st) [] kws f fd) : Fun K x qual st f fd := by
  refine ⟨?_, F.kp⟩
  obtain ⟨oc, od, dV, kV, doc, pm, an, cdv, ct, osl, rfl, lk, hcd, hD, hK⟩ := F.ex
  rcases hD with ⟨_, rfl⟩ | ⟨e, _⟩
  · exact ⟨oc, od, kV, doc, pm, an, cdv, ct, osl, rfl, lk, hcd⟩
  · exact absurd rfl e
theorem HasS.mono {P : Program} {w : World} {K : Frag} {mg : Str → Option Value} {base : Heap} {j k : Nat} {x : Str} {ps : List Str} {sp : Sp} (h : HasS P w K mg base j x ps sp) (hjk : j ≤ k) : HasS P w K mg base k x ps sp :=
  let ⟨f, fd, F, a, b, c⟩ := h; ⟨f, fd, F.mono hjk, a, b, c⟩
theorem all_get {α : Type} {l : List α} {P : α → Prop} (h : ∀ z ∈ l, P z) (j : Nat) (z : α) (e : l[j]? = some z) : P z := h z (List.mem_of_getElem? e)
theorem law_body {X : Cx} {k : Nat} {sts : List Stmt} {sc : Scope} {sto : Str → Bool} {H : Hp} {a : Addr} {ns : List Int} (fr : FrA X sc sto n_law k) (en : En t_law X k) (ht : lawTop sc sto sts = true) (hc : chkS t_law n_law sc sto c_law (sts.drop 1) = true)
    (hp : HasS X.prog X.w X.K X.mg X.base k "_law_pool" ["_law_script"] (spI X.K)) (hm : LawOk) (hl : ns.length ≤ 63) (hS : SqL X.K H a (ns.map V.int)) (Dq : Ends) (hq : ∀ H', Dq.rt (.bl true) H') : WSs X sts Dq (L2.start n_law [.ref a]) H := by
  unfold lawTop at ht
  split at ht <;> first | (cases ht; done) | skip
  rename_i y py f pf x px pc ps rest
  simp only [Bool.and_eq_true, decide_eq_true_eq] at ht
  obtain ⟨⟨⟨⟨rfl, g2⟩, g3⟩, g4⟩, g5⟩ := ht
  obtain ⟨F1, hN⟩ := nmc_fr fr g3 ["_law_pool"] (by simp [g2])
  have Fy := fr.fr [] [y] [] rfl (by simp [g5]) rfl
  obtain ⟨fa, fd, Fo, hmg, hk, hb⟩ := hp
  refine wss_cons (ps_set (i := 1) (by rw [Fy.hN]; exact Fy.nd) (by rw [Fy.hN]; exact g4) (Fy.sto y (by simp)).1 (pe_call Fo fr.room (F1.glo _ (by simp)).1 hmg hk hb .nil pass0 (pa_cons (F1.pe hN (by simp)) pa_nil (by rfl)) (F1.glo _ (by simp)).2.1 (by rfl) (by rfl)) (by rfl) (Fy.sto y (by simp)).2) ?_
  refine ⟨.ref a, rfl, a, ns, rfl, hS, fun p L H' hp hL hne e1 e2 keep => ?_⟩
  show WSs X rest _ ((L2.start n_law [.ref a]).set 1 (some (.ref p))) H'
  obtain ⟨pi, hr⟩ := hm ns hl p L
  have hh : Holds X.K ⟨fun _ => none, H', some ⟨p, L, initA ns, initB ns, ns.drop 1⟩, fun _ => .non⟩ (fun _ => none) H' ((L2.start n_law [.ref a]).set 1 (some (.ref p))) (.non :: .pool :: List.replicate 10 .non) (some ⟨p, L, initA ns, initB ns, ns.drop 1⟩) := by
    refine ⟨Step.refl ⟨(fun _ _ e => nomatch e), rfl, rfl, hne, e1, e2⟩, rfl, fun i t e => ?_, fun i j b t u ne q1 q2 o1 => ?_⟩
    · match i, e with
      | 0, e => cases e; exact ⟨_, rfl, trivial⟩
      | 1, e => cases e; exact ⟨_, rfl, _, rfl, rfl⟩
      | i + 2, e =>
        have hlt : i + 2 < 12 := by
          have := (List.getElem?_eq_some_iff.mp e).1
          simpa using this
        have ht : t = .non := by
          have hm := List.mem_of_getElem? (show (List.replicate 10 Slot.non)[i]? = some t from e)
          exact List.eq_of_mem_replicate hm
        subst ht
        have : i + 2 < ((L2.start n_law [.ref a]).set 1 (some (.ref p))).length := hlt
        exact ⟨_, List.getElem?_eq_getElem this, trivial⟩
    · match i, q1 with
      | 0, q1 => cases q1; exact o1.elim
      | 1, q1 => cases q1; exact o1.elim
      | i + 2, q1 =>
        have ht : t = .non := List.eq_of_mem_replicate (List.mem_of_getElem? (show (List.replicate 10 Slot.non)[i]? = some t from q1))
        subst ht
        exact o1.elim
  have X1 := (snds c_law (B := ⟨fun _ => none, H', some ⟨p, L, initA ns, initB ns, ns.drop 1⟩, fun _ => .non⟩) fr en hc hr).run _ _ H' _ (Same.refl _) hh
  refine ends_mono X1 (fun _ _ ⟨_, _, _, _, _, z⟩ => nomatch z) (fun v H2 ⟨F2, d, p2, st, rv, e⟩ => ?_) (fun _ _ ⟨_, _, _, _, _, z⟩ => nomatch z) (fun _ _ ⟨_, _, _, _, _, z⟩ => nomatch z)
  cases e
  cases rv
  exact hq H2
theorem def_law {P : Program} {w : World} {K : Frag} {mg : Str → Option Value} {base : Heap} {f : Addr} {fd : FuncData} {k : Nat} (hm : LawOk) (F : Fun K "law" "law" s_law f fd) (hFS : FSo t_law k P w K mg base) (hp : HasS P w K mg base k "_law_pool" ["_law_script"] (spI K)) :
    FnOk P w K mg base CX0 (k + 1) f fd ["_law_script"] (spLaw K) := by
  have htx := m_law
  rw [Bool.and_eq_true] at htx
  refine F.ok sc_law (fun vs H Q E h => ?_) (fun cdv A outer s H vs Q E hr h => ?_)
  · obtain ⟨a, ns, rfl, _⟩ := h
    rfl
  · obtain ⟨a, ns, rfl, hl, hS, q⟩ := h
    refine ⟨_, pss_W, ?_⟩
    exact law_body (X := (cxOf CX0 P w K mg base n_law "law" (defScope s_law) f cdv A outer s H E).nox) ((fr_def htx.1 hr).a fun _ => rfl) (FSo.en hFS) law_top htx.2 hp hm hl hS _ q
end Fs
-- FsEnd
/-! The defs' promises, joined. Printed by gen4.py. -/
namespace Fs
open PySem PySem.Spec PyProof.Rows L2
section
variable {P : Program} {w : World} {K : PySem.W.Frag} {h : Heap} {mg : Str → Option Value} {base : Heap}
theorem h_bl (X : K.In h) (G : h.Ns mainGlobals mg) (c : He.SaysD hfa hfn K) : Bl mg where
  len := He.free_ok X G (c.fact 60 (f := .free "len") rfl)
  range := He.free_ok X G (c.fact 61 (f := .free "range") rfl)
  tuple := He.free_ok X G (c.fact 62 (f := .free "tuple") rfl)
  list := He.free_ok X G (c.fact 63 (f := .free "list") rfl)
  int := He.free_ok X G (c.fact 64 (f := .free "int") rfl)
  bool := He.free_ok X G (c.fact 65 (f := .free "bool") rfl)
  isinstance := He.free_ok X G (c.fact 66 (f := .free "isinstance") rfl)
  max := He.free_ok X G (c.fact 67 (f := .free "max") rfl)
  min := He.free_ok X G (c.fact 68 (f := .free "min") rfl)
  enumerate := He.free_ok X G (c.fact 69 (f := .free "enumerate") rfl)
  zip := He.free_ok X G (c.fact 70 (f := .free "zip") rfl)
  any := He.free_ok X G (c.fact 71 (f := .free "any") rfl)
  sorted := He.free_ok X G (c.fact 72 (f := .free "sorted") rfl)
theorem a_pool (X : K.In h) (G : h.Ns mainGlobals mg) (c : He.SaysD hfa hfn K) : HasS P w K mg base 1 "_law_pool" ["_law_script"] (spI K) := by
  obtain ⟨fd, F⟩ := c.def_ 40 (d := d_pool) rfl
  exact ⟨_, fd, def_pool_init (k := 0) (fun_ofD F) ⟨h_bl X G c, all_get (List.forall_mem_nil _), all_get (List.forall_mem_nil _), all_get (List.forall_mem_nil _), all_get (List.forall_mem_nil _)⟩, He.glo_ok X G (c.fact 40 (f := .glo "_law_pool") rfl), F.kp, F.bindsN fun _ _ _ _ _ _ us hl => match us, hl with | [_], _ => rfl⟩
theorem a_cells_by (X : K.In h) (G : h.Ns mainGlobals mg) (c : He.SaysD hfa hfn K) : HasS P w K mg base 1 "cells_by" ["reading", "lengths"] (spN K fun ds kvs => R_cells_by ds = some kvs) := by
  obtain ⟨fd, F⟩ := c.def_ 29 (d := d_cells_by) rfl
  exact ⟨_, fd, def_cells (k := 0) (fun_ofD F) ⟨h_bl X G c, all_get (List.forall_mem_nil _), all_get (List.forall_mem_nil _), all_get (List.forall_mem_nil _), all_get (List.forall_mem_nil _)⟩, He.glo_ok X G (c.fact 29 (f := .glo "cells_by") rfl), F.kp, F.bindsN fun _ _ _ _ _ _ us hl => match us, hl with | [_, _], _ => rfl⟩
theorem a_is_whole (X : K.In h) (G : h.Ns mainGlobals mg) (c : He.SaysD hfa hfn K) : HasS P w K mg base 1 "is_whole" ["thing", "low", "high"] (spP K fun ds d => R_is_whole ds = some d) := by
  obtain ⟨fd, F⟩ := c.def_ 0 (d := d_is_whole) rfl
  exact ⟨_, fd, def_pure (k := 0) (T := t_is_whole) (s := c_is_whole) (fun_ofD F) sc_is_whole m_is_whole ⟨h_bl X G c, all_get (List.forall_mem_nil _), all_get (List.forall_mem_nil _), all_get (List.forall_mem_nil _), all_get (List.forall_mem_nil _)⟩, He.glo_ok X G (c.fact 0 (f := .glo "is_whole") rfl), F.kp, F.bindsN fun _ _ _ _ _ _ us hl => match us, hl with | [_, _, _], _ => rfl⟩
theorem a_inverse (X : K.In h) (G : h.Ns mainGlobals mg) (c : He.SaysD hfa hfn K) : HasS P w K mg base 1 "inverse" ["a", "p"] (spP K fun ds d => R_inverse ds = some d) := by
  obtain ⟨fd, F⟩ := c.def_ 2 (d := d_inverse) rfl
  exact ⟨_, fd, def_pure (k := 0) (T := t_inverse) (s := c_inverse) (fun_ofD F) sc_inverse m_inverse ⟨h_bl X G c, all_get (List.forall_mem_nil _), all_get (List.forall_mem_nil _), all_get (List.forall_mem_nil _), all_get (List.forall_mem_nil _)⟩, He.glo_ok X G (c.fact 2 (f := .glo "inverse") rfl), F.kp, F.bindsN fun _ _ _ _ _ _ us hl => match us, hl with | [_, _], _ => rfl⟩
theorem a_ways (X : K.In h) (G : h.Ns mainGlobals mg) (c : He.SaysD hfa hfn K) : HasS P w K mg base 1 "ways" ["j", "many", "p"] (spP K fun ds d => R_ways ds = some d) := by
  obtain ⟨fd, F⟩ := c.def_ 6 (d := d_ways) rfl
  exact ⟨_, fd, def_pure (k := 0) (T := t_ways) (s := c_ways) (fun_ofD F) sc_ways m_ways ⟨h_bl X G c, all_get (List.forall_mem_nil _), all_get (List.forall_mem_nil _), all_get (List.forall_mem_nil _), all_get (List.forall_mem_nil _)⟩, He.glo_ok X G (c.fact 6 (f := .glo "ways") rfl), F.kp, F.bindsN fun _ _ _ _ _ _ us hl => match us, hl with | [_, _, _], _ => rfl⟩
theorem a_is_below (X : K.In h) (G : h.Ns mainGlobals mg) (c : He.SaysD hfa hfn K) : HasS P w K mg base 1 "is_below" ["thing", "many"] (spP K fun ds d => R_is_below ds = some d) := by
  obtain ⟨fd, F⟩ := c.def_ 8 (d := d_is_below) rfl
  exact ⟨_, fd, def_pure (k := 0) (T := t_is_below) (s := c_is_below) (fun_ofD F) sc_is_below m_is_below ⟨h_bl X G c, all_get (List.forall_mem_nil _), all_get (List.forall_mem_nil _), all_get (List.forall_mem_nil _), all_get (List.forall_mem_nil _)⟩, He.glo_ok X G (c.fact 8 (f := .glo "is_below") rfl), F.kp, F.bindsN fun _ _ _ _ _ _ us hl => match us, hl with | [_, _], _ => rfl⟩
theorem a_without (X : K.In h) (G : h.Ns mainGlobals mg) (c : He.SaysD hfa hfn K) : HasS P w K mg base 1 "without" ["row", "pivot", "place", "p"] (spP K fun ds d => R_without ds = some d) := by
  obtain ⟨fd, F⟩ := c.def_ 18 (d := d_without) rfl
  exact ⟨_, fd, def_pure (k := 0) (T := t_without) (s := c_without) (fun_ofD F) sc_without m_without ⟨h_bl X G c, all_get (List.forall_mem_nil _), all_get (List.forall_mem_nil _), all_get (List.forall_mem_nil _), all_get (List.forall_mem_nil _)⟩, He.glo_ok X G (c.fact 18 (f := .glo "without") rfl), F.kp, F.bindsN fun _ _ _ _ _ _ us hl => match us, hl with | [_, _, _, _], _ => rfl⟩
theorem a_first_place (X : K.In h) (G : h.Ns mainGlobals mg) (c : He.SaysD hfa hfn K) : HasS P w K mg base 1 "first_place" ["row"] (spP K fun ds d => R_first_place ds = some d) := by
  obtain ⟨fd, F⟩ := c.def_ 19 (d := d_first_place) rfl
  exact ⟨_, fd, def_pure (k := 0) (T := t_first_place) (s := c_first_place) (fun_ofD F) sc_first_place m_first_place ⟨h_bl X G c, all_get (List.forall_mem_nil _), all_get (List.forall_mem_nil _), all_get (List.forall_mem_nil _), all_get (List.forall_mem_nil _)⟩, He.glo_ok X G (c.fact 19 (f := .glo "first_place") rfl), F.kp, F.bindsN fun _ _ _ _ _ _ us hl => match us, hl with | [_], _ => rfl⟩
theorem a_less (X : K.In h) (G : h.Ns mainGlobals mg) (c : He.SaysD hfa hfn K) : HasS P w K mg base 1 "less" ["numbers", "factor", "others", "prime"] (spP K fun ds d => R_less ds = some d) := by
  obtain ⟨fd, F⟩ := c.def_ 22 (d := d_less) rfl
  exact ⟨_, fd, def_pure (k := 0) (T := t_less) (s := c_less) (fun_ofD F) sc_less m_less ⟨h_bl X G c, all_get (List.forall_mem_nil _), all_get (List.forall_mem_nil _), all_get (List.forall_mem_nil _), all_get (List.forall_mem_nil _)⟩, He.glo_ok X G (c.fact 22 (f := .glo "less") rfl), F.kp, F.bindsN fun _ _ _ _ _ _ us hl => match us, hl with | [_, _, _, _], _ => rfl⟩
theorem a_first_column (X : K.In h) (G : h.Ns mainGlobals mg) (c : He.SaysD hfa hfn K) : HasS P w K mg base 1 "first_column" ["numbers", "many"] (spP K fun ds d => R_first_column ds = some d) := by
  obtain ⟨fd, F⟩ := c.def_ 23 (d := d_first_column) rfl
  exact ⟨_, fd, def_pure (k := 0) (T := t_first_column) (s := c_first_column) (fun_ofD F) sc_first_column m_first_column ⟨h_bl X G c, all_get (List.forall_mem_nil _), all_get (List.forall_mem_nil _), all_get (List.forall_mem_nil _), all_get (List.forall_mem_nil _)⟩, He.glo_ok X G (c.fact 23 (f := .glo "first_column") rfl), F.kp, F.bindsN fun _ _ _ _ _ _ us hl => match us, hl with | [_, _], _ => rfl⟩
theorem a_right_heads (X : K.In h) (G : h.Ns mainGlobals mg) (c : He.SaysD hfa hfn K) : HasS P w K mg base 1 "right_heads" ["fates", "reading"] (spP K fun ds d => R_right_heads ds = some d) := by
  obtain ⟨fd, F⟩ := c.def_ 27 (d := d_right_heads) rfl
  exact ⟨_, fd, def_pure (k := 0) (T := t_right_heads) (s := c_right_heads) (fun_ofD F) sc_right_heads m_right_heads ⟨h_bl X G c, all_get (List.forall_mem_nil _), all_get (List.forall_mem_nil _), all_get (List.forall_mem_nil _), all_get (List.forall_mem_nil _)⟩, He.glo_ok X G (c.fact 27 (f := .glo "right_heads") rfl), F.kp, F.bindsN fun _ _ _ _ _ _ us hl => match us, hl with | [_, _], _ => rfl⟩
theorem a_equations_of (X : K.In h) (G : h.Ns mainGlobals mg) (c : He.SaysD hfa hfn K) : HasS P w K mg base 1 "equations_of" ["table", "many", "cells"] (spP K fun ds d => R_equations_of ds = some d) := by
  obtain ⟨fd, F⟩ := c.def_ 31 (d := d_equations_of) rfl
  exact ⟨_, fd, def_pure (k := 0) (T := t_equations_of) (s := c_equations_of) (fun_ofD F) sc_equations_of m_equations_of ⟨h_bl X G c, all_get (List.forall_mem_nil _), all_get (List.forall_mem_nil _), all_get (List.forall_mem_nil _), all_get (List.forall_mem_nil _)⟩, He.glo_ok X G (c.fact 31 (f := .glo "equations_of") rfl), F.kp, F.bindsN fun _ _ _ _ _ _ us hl => match us, hl with | [_, _, _], _ => rfl⟩
theorem a_whole_flat (X : K.In h) (G : h.Ns mainGlobals mg) (c : He.SaysD hfa hfn K) : HasS P w K mg base 1 "whole_flat" ["many"] (spP K fun ds d => R_whole_flat ds = some d) := by
  obtain ⟨fd, F⟩ := c.def_ 34 (d := d_whole_flat) rfl
  exact ⟨_, fd, def_pure (k := 0) (T := t_whole_flat) (s := c_whole_flat) (fun_ofD F) sc_whole_flat m_whole_flat ⟨h_bl X G c, all_get (List.forall_mem_nil _), all_get (List.forall_mem_nil _), all_get (List.forall_mem_nil _), all_get (List.forall_mem_nil _)⟩, He.glo_ok X G (c.fact 34 (f := .glo "whole_flat") rfl), F.kp, F.bindsN fun _ _ _ _ _ _ us hl => match us, hl with | [_], _ => rfl⟩
theorem a_agreed (X : K.In h) (G : h.Ns mainGlobals mg) (c : He.SaysD hfa hfn K) : HasS P w K mg base 1 "agreed" ["many", "lot"] (spP K fun ds d => R_agreed ds = some d) := by
  obtain ⟨fd, F⟩ := c.def_ 35 (d := d_agreed) rfl
  exact ⟨_, fd, def_pure (k := 0) (T := t_agreed) (s := c_agreed) (fun_ofD F) sc_agreed m_agreed ⟨h_bl X G c, all_get (List.forall_mem_nil _), all_get (List.forall_mem_nil _), all_get (List.forall_mem_nil _), all_get (List.forall_mem_nil _)⟩, He.glo_ok X G (c.fact 35 (f := .glo "agreed") rfl), F.kp, F.bindsN fun _ _ _ _ _ _ us hl => match us, hl with | [_, _], _ => rfl⟩
theorem a_two_unlike (X : K.In h) (G : h.Ns mainGlobals mg) (c : He.SaysD hfa hfn K) : HasS P w K mg base 1 "two_unlike" ["prime", "lot"] (spP K fun ds d => R_two_unlike ds = some d) := by
  obtain ⟨fd, F⟩ := c.def_ 36 (d := d_two_unlike) rfl
  exact ⟨_, fd, def_pure (k := 0) (T := t_two_unlike) (s := c_two_unlike) (fun_ofD F) sc_two_unlike m_two_unlike ⟨h_bl X G c, all_get (List.forall_mem_nil _), all_get (List.forall_mem_nil _), all_get (List.forall_mem_nil _), all_get (List.forall_mem_nil _)⟩, He.glo_ok X G (c.fact 36 (f := .glo "two_unlike") rfl), F.kp, F.bindsN fun _ _ _ _ _ _ us hl => match us, hl with | [_, _], _ => rfl⟩
theorem a_draw (X : K.In h) (G : h.Ns mainGlobals mg) (c : He.SaysD hfa hfn K) : HasS P w K mg base 1 "_law_draw" ["_law_pool_here", "_law_many"] (spQ K fun q ds d q' => R_draw ds q = some (d, q')) := by
  obtain ⟨fd, F⟩ := c.def_ 41 (d := d_draw) rfl
  exact ⟨_, fd, def_pool (k := 0) (T := t_draw) (s := c_draw) (fun_ofD F) sc_draw m_draw ⟨h_bl X G c, all_get (List.forall_mem_nil _), all_get (List.forall_mem_nil _), all_get (List.forall_mem_nil _), all_get (List.forall_mem_nil _)⟩, He.glo_ok X G (c.fact 41 (f := .glo "_law_draw") rfl), F.kp, F.bindsN fun _ _ _ _ _ _ us hl => match us, hl with | [_, _], _ => rfl⟩
theorem a_written_out (X : K.In h) (G : h.Ns mainGlobals mg) (c : He.SaysD hfa hfn K) : HasS P w K mg base 1 "_law_written_out" ["_law_p", "_law_form", "_law_point"] (spP K fun ds d => R_written_out ds = some d) := by
  obtain ⟨fd, F⟩ := c.def_ 45 (d := d_written_out) rfl
  exact ⟨_, fd, def_pure (k := 0) (T := t_written_out) (s := c_written_out) (fun_ofD F) sc_written_out m_written_out ⟨h_bl X G c, all_get (List.forall_mem_nil _), all_get (List.forall_mem_nil _), all_get (List.forall_mem_nil _), all_get (List.forall_mem_nil _)⟩, He.glo_ok X G (c.fact 45 (f := .glo "_law_written_out") rfl), F.kp, F.bindsN fun _ _ _ _ _ _ us hl => match us, hl with | [_, _, _], _ => rfl⟩
theorem a_stopped (X : K.In h) (G : h.Ns mainGlobals mg) (c : He.SaysD hfa hfn K) : HasS P w K mg base 1 "_law_stopped" ["_law_reading_here", "_law_stop_here"] (spP K fun ds d => R_stopped ds = some d) := by
  obtain ⟨fd, F⟩ := c.def_ 49 (d := d_stopped) rfl
  exact ⟨_, fd, def_pure (k := 0) (T := t_stopped) (s := c_stopped) (fun_ofD F) sc_stopped m_stopped ⟨h_bl X G c, all_get (List.forall_mem_nil _), all_get (List.forall_mem_nil _), all_get (List.forall_mem_nil _), all_get (List.forall_mem_nil _)⟩, He.glo_ok X G (c.fact 49 (f := .glo "_law_stopped") rfl), F.kp, F.bindsN fun _ _ _ _ _ _ us hl => match us, hl with | [_, _], _ => rfl⟩
theorem a_all_rows (X : K.In h) (G : h.Ns mainGlobals mg) (c : He.SaysD hfa hfn K) : HasS P w K mg base 1 "_law_all_rows" ["_law_numbers", "_law_many"] (spP K fun ds d => R_all_rows ds = some d) := by
  obtain ⟨fd, F⟩ := c.def_ 50 (d := d_all_rows) rfl
  exact ⟨_, fd, def_pure (k := 0) (T := t_all_rows) (s := c_all_rows) (fun_ofD F) sc_all_rows m_all_rows ⟨h_bl X G c, all_get (List.forall_mem_nil _), all_get (List.forall_mem_nil _), all_get (List.forall_mem_nil _), all_get (List.forall_mem_nil _)⟩, He.glo_ok X G (c.fact 50 (f := .glo "_law_all_rows") rfl), F.kp, F.bindsN fun _ _ _ _ _ _ us hl => match us, hl with | [_, _], _ => rfl⟩
theorem a_leaves (X : K.In h) (G : h.Ns mainGlobals mg) (c : He.SaysD hfa hfn K) : HasS P w K mg base 1 "_law_leaves" ["_law_fate", "_law_cells", "_law_lying"] (spP K fun ds d => R_leaves ds = some d) := by
  obtain ⟨fd, F⟩ := c.def_ 52 (d := d_leaves) rfl
  exact ⟨_, fd, def_pure (k := 0) (T := t_leaves) (s := c_leaves) (fun_ofD F) sc_leaves m_leaves ⟨h_bl X G c, all_get (List.forall_mem_nil _), all_get (List.forall_mem_nil _), all_get (List.forall_mem_nil _), all_get (List.forall_mem_nil _)⟩, He.glo_ok X G (c.fact 52 (f := .glo "_law_leaves") rfl), F.kp, F.bindsN fun _ _ _ _ _ _ us hl => match us, hl with | [_, _, _], _ => rfl⟩
theorem a_due_right (X : K.In h) (G : h.Ns mainGlobals mg) (c : He.SaysD hfa hfn K) : HasS P w K mg base 1 "_law_due_right" ["_law_ground", "_law_those", "_law_told"] (spP K fun ds d => R_due_right ds = some d) := by
  obtain ⟨fd, F⟩ := c.def_ 58 (d := d_due_right) rfl
  exact ⟨_, fd, def_pure (k := 0) (T := t_due_right) (s := c_due_right) (fun_ofD F) sc_due_right m_due_right ⟨h_bl X G c, all_get (List.forall_mem_nil _), all_get (List.forall_mem_nil _), all_get (List.forall_mem_nil _), all_get (List.forall_mem_nil _)⟩, He.glo_ok X G (c.fact 58 (f := .glo "_law_due_right") rfl), F.kp, F.bindsN fun _ _ _ _ _ _ us hl => match us, hl with | [_, _, _], _ => rfl⟩
theorem a_is_prime (X : K.In h) (G : h.Ns mainGlobals mg) (c : He.SaysD hfa hfn K) : HasS P w K mg base 2 "is_prime" ["n"] (spP K fun ds d => R_is_prime ds = some d) := by
  obtain ⟨fd, F⟩ := c.def_ 1 (d := d_is_prime) rfl
  exact ⟨_, fd, def_pure (k := 1) (T := t_is_prime) (s := c_is_prime) (fun_ofD F) sc_is_prime m_is_prime ⟨h_bl X G c, all_get (List.forall_mem_cons.mpr ⟨He.int_ok X G (c.fact 73 (f := .int "MOST_PRIME" 65521) rfl), List.forall_mem_nil _⟩), all_get (List.forall_mem_cons.mpr ⟨⟨["thing", "low", "high"], (a_is_whole X G c).mono (by decide)⟩, List.forall_mem_nil _⟩), all_get (List.forall_mem_nil _), all_get (List.forall_mem_nil _)⟩, He.glo_ok X G (c.fact 1 (f := .glo "is_prime") rfl), F.kp, F.bindsN fun _ _ _ _ _ _ us hl => match us, hl with | [_], _ => rfl⟩
theorem a_are_points (X : K.In h) (G : h.Ns mainGlobals mg) (c : He.SaysD hfa hfn K) : HasS P w K mg base 2 "are_points" ["p", "thing"] (spP K fun ds d => R_are_points ds = some d) := by
  obtain ⟨fd, F⟩ := c.def_ 3 (d := d_are_points) rfl
  exact ⟨_, fd, def_pure (k := 1) (T := t_are_points) (s := c_are_points) (fun_ofD F) sc_are_points m_are_points ⟨h_bl X G c, all_get (List.forall_mem_cons.mpr ⟨He.int_ok X G (c.fact 75 (f := .int "MOST_SHELVES_grounds" 8) rfl), List.forall_mem_nil _⟩), all_get (List.forall_mem_cons.mpr ⟨⟨["thing", "low", "high"], (a_is_whole X G c).mono (by decide)⟩, List.forall_mem_nil _⟩), all_get (List.forall_mem_nil _), all_get (List.forall_mem_nil _)⟩, He.glo_ok X G (c.fact 3 (f := .glo "are_points") rfl), F.kp, F.bindsN fun _ _ _ _ _ _ us hl => match us, hl with | [_, _], _ => rfl⟩
theorem a_weights (X : K.In h) (G : h.Ns mainGlobals mg) (c : He.SaysD hfa hfn K) : HasS P w K mg base 2 "weights" ["ground", "shelf", "j"] (spP K fun ds d => R_weights ds = some d) := by
  obtain ⟨fd, F⟩ := c.def_ 7 (d := d_weights) rfl
  exact ⟨_, fd, def_pure (k := 1) (T := t_weights) (s := c_weights) (fun_ofD F) sc_weights m_weights ⟨h_bl X G c, all_get (List.forall_mem_nil _), all_get (List.forall_mem_cons.mpr ⟨⟨["j", "many", "p"], (a_ways X G c).mono (by decide)⟩, List.forall_mem_nil _⟩), all_get (List.forall_mem_nil _), all_get (List.forall_mem_nil _)⟩, He.glo_ok X G (c.fact 7 (f := .glo "weights") rfl), F.kp, F.bindsN fun _ _ _ _ _ _ us hl => match us, hl with | [_, _, _], _ => rfl⟩
theorem a_is_tape (X : K.In h) (G : h.Ns mainGlobals mg) (c : He.SaysD hfa hfn K) : HasS P w K mg base 2 "is_tape" ["thing"] (spP K fun ds d => R_is_tape ds = some d) := by
  obtain ⟨fd, F⟩ := c.def_ 9 (d := d_is_tape) rfl
  exact ⟨_, fd, def_pure (k := 1) (T := t_is_tape) (s := c_is_tape) (fun_ofD F) sc_is_tape m_is_tape ⟨h_bl X G c, all_get (List.forall_mem_cons.mpr ⟨He.int_ok X G (c.fact 76 (f := .int "MOST_CELLS" 1024) rfl), List.forall_mem_cons.mpr ⟨He.int_ok X G (c.fact 77 (f := .int "MOST_BATCHES" 64) rfl), List.forall_mem_nil _⟩⟩), all_get (List.forall_mem_cons.mpr ⟨⟨["thing", "many"], (a_is_below X G c).mono (by decide)⟩, List.forall_mem_nil _⟩), all_get (List.forall_mem_nil _), all_get (List.forall_mem_nil _)⟩, He.glo_ok X G (c.fact 9 (f := .glo "is_tape") rfl), F.kp, F.bindsN fun _ _ _ _ _ _ us hl => match us, hl with | [_], _ => rfl⟩
theorem a_is_cell (X : K.In h) (G : h.Ns mainGlobals mg) (c : He.SaysD hfa hfn K) : HasS P w K mg base 2 "is_cell" ["thing", "p"] (spP K fun ds d => R_is_cell ds = some d) := by
  obtain ⟨fd, F⟩ := c.def_ 10 (d := d_is_cell) rfl
  exact ⟨_, fd, def_pure (k := 1) (T := t_is_cell) (s := c_is_cell) (fun_ofD F) sc_is_cell m_is_cell ⟨h_bl X G c, all_get (List.forall_mem_cons.mpr ⟨He.int_ok X G (c.fact 77 (f := .int "MOST_BATCHES" 64) rfl), List.forall_mem_nil _⟩), all_get (List.forall_mem_cons.mpr ⟨⟨["thing", "many"], (a_is_below X G c).mono (by decide)⟩, List.forall_mem_nil _⟩), all_get (List.forall_mem_nil _), all_get (List.forall_mem_nil _)⟩, He.glo_ok X G (c.fact 10 (f := .glo "is_cell") rfl), F.kp, F.bindsN fun _ _ _ _ _ _ us hl => match us, hl with | [_, _], _ => rfl⟩
theorem a_is_bound (X : K.In h) (G : h.Ns mainGlobals mg) (c : He.SaysD hfa hfn K) : HasS P w K mg base 2 "is_bound" ["thing"] (spP K fun ds d => R_is_bound ds = some d) := by
  obtain ⟨fd, F⟩ := c.def_ 14 (d := d_is_bound) rfl
  exact ⟨_, fd, def_pure (k := 1) (T := t_is_bound) (s := c_is_bound) (fun_ofD F) sc_is_bound m_is_bound ⟨h_bl X G c, all_get (List.forall_mem_cons.mpr ⟨He.int_ok X G (c.fact 80 (f := .int "MOST_FATE" 64) rfl), List.forall_mem_nil _⟩), all_get (List.forall_mem_cons.mpr ⟨⟨["thing", "many"], (a_is_below X G c).mono (by decide)⟩, List.forall_mem_nil _⟩), all_get (List.forall_mem_nil _), all_get (List.forall_mem_nil _)⟩, He.glo_ok X G (c.fact 14 (f := .glo "is_bound") rfl), F.kp, F.bindsN fun _ _ _ _ _ _ us hl => match us, hl with | [_], _ => rfl⟩
theorem a_reduced (X : K.In h) (G : h.Ns mainGlobals mg) (c : He.SaysD hfa hfn K) : HasS P w K mg base 2 "reduced" ["rows", "many", "p"] (spP K fun ds d => R_reduced ds = some d) := by
  obtain ⟨fd, F⟩ := c.def_ 20 (d := d_reduced) rfl
  exact ⟨_, fd, def_pure (k := 1) (T := t_reduced) (s := c_reduced) (fun_ofD F) sc_reduced m_reduced ⟨h_bl X G c, all_get (List.forall_mem_nil _), all_get (List.forall_mem_cons.mpr ⟨⟨["a", "p"], (a_inverse X G c).mono (by decide)⟩, List.forall_mem_cons.mpr ⟨⟨["row", "pivot", "place", "p"], (a_without X G c).mono (by decide)⟩, List.forall_mem_nil _⟩⟩), all_get (List.forall_mem_nil _), all_get (List.forall_mem_nil _)⟩, He.glo_ok X G (c.fact 20 (f := .glo "reduced") rfl), F.kp, F.bindsN fun _ _ _ _ _ _ us hl => match us, hl with | [_, _, _], _ => rfl⟩
theorem a_chosen (X : K.In h) (G : h.Ns mainGlobals mg) (c : He.SaysD hfa hfn K) : HasS P w K mg base 2 "chosen" ["prime", "many", "equations"] (spP K fun ds d => R_chosen ds = some d) := by
  obtain ⟨fd, F⟩ := c.def_ 24 (d := d_chosen) rfl
  exact ⟨_, fd, def_pure (k := 1) (T := t_chosen) (s := c_chosen) (fun_ofD F) sc_chosen m_chosen ⟨h_bl X G c, all_get (List.forall_mem_nil _), all_get (List.forall_mem_cons.mpr ⟨⟨["numbers", "factor", "others", "prime"], (a_less X G c).mono (by decide)⟩, List.forall_mem_cons.mpr ⟨⟨["numbers", "many"], (a_first_column X G c).mono (by decide)⟩, List.forall_mem_cons.mpr ⟨⟨["a", "p"], (a_inverse X G c).mono (by decide)⟩, List.forall_mem_nil _⟩⟩⟩), all_get (List.forall_mem_nil _), all_get (List.forall_mem_nil _)⟩, He.glo_ok X G (c.fact 24 (f := .glo "chosen") rfl), F.kp, F.bindsN fun _ _ _ _ _ _ us hl => match us, hl with | [_, _, _], _ => rfl⟩
theorem a_check_number (X : K.In h) (G : h.Ns mainGlobals mg) (c : He.SaysD hfa hfn K) : HasS P w K mg base 2 "check_number" ["number"] (spP K fun ds d => R_check_number ds = some d) := by
  obtain ⟨fd, F⟩ := c.def_ 26 (d := d_check_number) rfl
  exact ⟨_, fd, def_pure (k := 1) (T := t_check_number) (s := c_check_number) (fun_ofD F) sc_check_number m_check_number ⟨h_bl X G c, all_get (List.forall_mem_cons.mpr ⟨He.int_ok X G (c.fact 81 (f := .int "MOST_NUMBER" 63) rfl), List.forall_mem_nil _⟩), all_get (List.forall_mem_cons.mpr ⟨⟨["thing", "low", "high"], (a_is_whole X G c).mono (by decide)⟩, List.forall_mem_nil _⟩), all_get (List.forall_mem_nil _), all_get (List.forall_mem_nil _)⟩, He.glo_ok X G (c.fact 26 (f := .glo "check_number") rfl), F.kp, F.bindsN fun _ _ _ _ _ _ us hl => match us, hl with | [_], _ => rfl⟩
theorem a_first_far (X : K.In h) (G : h.Ns mainGlobals mg) (c : He.SaysD hfa hfn K) : HasS P w K mg base 2 "first_far" ["fates", "stand", "reading"] (spP K fun ds d => R_first_far ds = some d) := by
  obtain ⟨fd, F⟩ := c.def_ 28 (d := d_first_far) rfl
  exact ⟨_, fd, def_pure (k := 1) (T := t_first_far) (s := c_first_far) (fun_ofD F) sc_first_far m_first_far ⟨h_bl X G c, all_get (List.forall_mem_nil _), all_get (List.forall_mem_cons.mpr ⟨⟨["fates", "reading"], (a_right_heads X G c).mono (by decide)⟩, List.forall_mem_nil _⟩), all_get (List.forall_mem_nil _), all_get (List.forall_mem_nil _)⟩, He.glo_ok X G (c.fact 28 (f := .glo "first_far") rfl), F.kp, F.bindsN fun _ _ _ _ _ _ us hl => match us, hl with | [_, _, _], _ => rfl⟩
theorem a_answer_of (X : K.In h) (G : h.Ns mainGlobals mg) (c : He.SaysD hfa hfn K) : HasS P w K mg base 2 "answer_of" ["ground", "possible", "number"] (spP K fun ds d => R_answer_of ds = some d) := by
  obtain ⟨fd, F⟩ := c.def_ 37 (d := d_answer_of) rfl
  exact ⟨_, fd, def_pure (k := 1) (T := t_answer_of) (s := c_answer_of) (fun_ofD F) sc_answer_of m_answer_of ⟨h_bl X G c, all_get (List.forall_mem_nil _), all_get (List.forall_mem_cons.mpr ⟨⟨["many"], (a_whole_flat X G c).mono (by decide)⟩, List.forall_mem_cons.mpr ⟨⟨["many", "lot"], (a_agreed X G c).mono (by decide)⟩, List.forall_mem_cons.mpr ⟨⟨["prime", "lot"], (a_two_unlike X G c).mono (by decide)⟩, List.forall_mem_nil _⟩⟩⟩), all_get (List.forall_mem_nil _), all_get (List.forall_mem_nil _)⟩, He.glo_ok X G (c.fact 37 (f := .glo "answer_of") rfl), F.kp, F.bindsN fun _ _ _ _ _ _ us hl => match us, hl with | [_, _, _], _ => rfl⟩
theorem a_pick (X : K.In h) (G : h.Ns mainGlobals mg) (c : He.SaysD hfa hfn K) : HasS P w K mg base 2 "_law_pick" ["_law_pool_here", "_law_things"] (spQ K fun q ds d q' => R_pick ds q = some (d, q')) := by
  obtain ⟨fd, F⟩ := c.def_ 42 (d := d_pick) rfl
  exact ⟨_, fd, def_pool (k := 1) (T := t_pick) (s := c_pick) (fun_ofD F) sc_pick m_pick ⟨h_bl X G c, all_get (List.forall_mem_nil _), all_get (List.forall_mem_nil _), all_get (List.forall_mem_cons.mpr ⟨⟨["_law_pool_here", "_law_many"], (a_draw X G c).mono (by decide)⟩, List.forall_mem_nil _⟩), all_get (List.forall_mem_nil _)⟩, He.glo_ok X G (c.fact 42 (f := .glo "_law_pick") rfl), F.kp, F.bindsN fun _ _ _ _ _ _ us hl => match us, hl with | [_, _], _ => rfl⟩
theorem a_turned (X : K.In h) (G : h.Ns mainGlobals mg) (c : He.SaysD hfa hfn K) : HasS P w K mg base 2 "_law_turned" ["_law_pool_here", "_law_many"] (spQ K fun q ds d q' => R_turned ds q = some (d, q')) := by
  obtain ⟨fd, F⟩ := c.def_ 43 (d := d_turned) rfl
  exact ⟨_, fd, def_pool (k := 1) (T := t_turned) (s := c_turned) (fun_ofD F) sc_turned m_turned ⟨h_bl X G c, all_get (List.forall_mem_nil _), all_get (List.forall_mem_nil _), all_get (List.forall_mem_cons.mpr ⟨⟨["_law_pool_here", "_law_many"], (a_draw X G c).mono (by decide)⟩, List.forall_mem_nil _⟩), all_get (List.forall_mem_nil _)⟩, He.glo_ok X G (c.fact 43 (f := .glo "_law_turned") rfl), F.kp, F.bindsN fun _ _ _ _ _ _ us hl => match us, hl with | [_, _], _ => rfl⟩
theorem a_batch (X : K.In h) (G : h.Ns mainGlobals mg) (c : He.SaysD hfa hfn K) : HasS P w K mg base 2 "_law_batch" ["_law_pool_here", "_law_ground"] (spQ K fun q ds d q' => R_batch ds q = some (d, q')) := by
  obtain ⟨fd, F⟩ := c.def_ 44 (d := d_batch) rfl
  exact ⟨_, fd, def_pool (k := 1) (T := t_batch) (s := c_batch) (fun_ofD F) sc_batch m_batch ⟨h_bl X G c, all_get (List.forall_mem_nil _), all_get (List.forall_mem_nil _), all_get (List.forall_mem_cons.mpr ⟨⟨["_law_pool_here", "_law_many"], (a_draw X G c).mono (by decide)⟩, List.forall_mem_nil _⟩), all_get (List.forall_mem_nil _)⟩, He.glo_ok X G (c.fact 44 (f := .glo "_law_batch") rfl), F.kp, F.bindsN fun _ _ _ _ _ _ us hl => match us, hl with | [_, _], _ => rfl⟩
theorem a_woven (X : K.In h) (G : h.Ns mainGlobals mg) (c : He.SaysD hfa hfn K) : HasS P w K mg base 2 "_law_woven" ["_law_ground", "_law_batches", "_law_weaving"] (spP K fun ds d => R_woven ds = some d) := by
  obtain ⟨fd, F⟩ := c.def_ 46 (d := d_woven) rfl
  exact ⟨_, fd, def_pure (k := 1) (T := t_woven) (s := c_woven) (fun_ofD F) sc_woven m_woven ⟨h_bl X G c, all_get (List.forall_mem_nil _), all_get (List.forall_mem_cons.mpr ⟨⟨["_law_p", "_law_form", "_law_point"], (a_written_out X G c).mono (by decide)⟩, List.forall_mem_nil _⟩), all_get (List.forall_mem_nil _), all_get (List.forall_mem_nil _)⟩, He.glo_ok X G (c.fact 46 (f := .glo "_law_woven") rfl), F.kp, F.bindsN fun _ _ _ _ _ _ us hl => match us, hl with | [_, _, _], _ => rfl⟩
theorem a_tapes_for (X : K.In h) (G : h.Ns mainGlobals mg) (c : He.SaysD hfa hfn K) : HasS P w K mg base 2 "_law_tapes_for" ["_law_row", "_law_stand", "_law_reading_here", "_law_shelf", "_law_batches", "_law_most"] (spP K fun ds d => R_tapes_for ds = some d) := by
  obtain ⟨fd, F⟩ := c.def_ 51 (d := d_tapes_for) rfl
  exact ⟨_, fd, def_pure (k := 1) (T := t_tapes_for) (s := c_tapes_for) (fun_ofD F) sc_tapes_for m_tapes_for ⟨h_bl X G c, all_get (List.forall_mem_nil _), all_get (List.forall_mem_cons.mpr ⟨⟨["_law_numbers", "_law_many"], (a_all_rows X G c).mono (by decide)⟩, List.forall_mem_nil _⟩), all_get (List.forall_mem_nil _), all_get (List.forall_mem_nil _)⟩, He.glo_ok X G (c.fact 51 (f := .glo "_law_tapes_for") rfl), F.kp, F.bindsN fun _ _ _ _ _ _ us hl => match us, hl with | [_, _, _, _, _, _], _ => rfl⟩
theorem a_tapes (X : K.In h) (G : h.Ns mainGlobals mg) (c : He.SaysD hfa hfn K) : HasS P w K mg base 2 "_law_tapes" ["_law_pool_here", "_law_many", "_law_most"] (spQ K fun q ds d q' => R_tapes ds q = some (d, q')) := by
  obtain ⟨fd, F⟩ := c.def_ 56 (d := d_tapes) rfl
  exact ⟨_, fd, def_pool (k := 1) (T := t_tapes) (s := c_tapes) (fun_ofD F) sc_tapes m_tapes ⟨h_bl X G c, all_get (List.forall_mem_nil _), all_get (List.forall_mem_nil _), all_get (List.forall_mem_cons.mpr ⟨⟨["_law_pool_here", "_law_many"], (a_draw X G c).mono (by decide)⟩, List.forall_mem_nil _⟩), all_get (List.forall_mem_nil _)⟩, He.glo_ok X G (c.fact 56 (f := .glo "_law_tapes") rfl), F.kp, F.bindsN fun _ _ _ _ _ _ us hl => match us, hl with | [_, _, _], _ => rfl⟩
theorem a_made_ground (X : K.In h) (G : h.Ns mainGlobals mg) (c : He.SaysD hfa hfn K) : HasS P w K mg base 3 "made_ground" ["thing"] (spP K fun ds d => R_made_ground ds = some d) := by
  obtain ⟨fd, F⟩ := c.def_ 4 (d := d_made_ground) rfl
  exact ⟨_, fd, def_pure (k := 2) (T := t_made_ground) (s := c_made_ground) (fun_ofD F) sc_made_ground m_made_ground ⟨h_bl X G c, all_get (List.forall_mem_cons.mpr ⟨He.int_ok X G (c.fact 74 (f := .int "MOST_NUMBERS" 12) rfl), List.forall_mem_nil _⟩), all_get (List.forall_mem_cons.mpr ⟨⟨["n"], (a_is_prime X G c).mono (by decide)⟩, List.forall_mem_cons.mpr ⟨⟨["thing", "low", "high"], (a_is_whole X G c).mono (by decide)⟩, List.forall_mem_cons.mpr ⟨⟨["p", "thing"], (a_are_points X G c).mono (by decide)⟩, List.forall_mem_nil _⟩⟩⟩), all_get (List.forall_mem_nil _), all_get (List.forall_mem_nil _)⟩, He.glo_ok X G (c.fact 4 (f := .glo "made_ground") rfl), F.kp, F.bindsN fun _ _ _ _ _ _ us hl => match us, hl with | [_], _ => rfl⟩
theorem a_are_cells (X : K.In h) (G : h.Ns mainGlobals mg) (c : He.SaysD hfa hfn K) : HasS P w K mg base 3 "are_cells" ["thing", "p"] (spP K fun ds d => R_are_cells ds = some d) := by
  obtain ⟨fd, F⟩ := c.def_ 11 (d := d_are_cells) rfl
  exact ⟨_, fd, def_pure (k := 2) (T := t_are_cells) (s := c_are_cells) (fun_ofD F) sc_are_cells m_are_cells ⟨h_bl X G c, all_get (List.forall_mem_cons.mpr ⟨He.int_ok X G (c.fact 76 (f := .int "MOST_CELLS" 1024) rfl), List.forall_mem_nil _⟩), all_get (List.forall_mem_cons.mpr ⟨⟨["thing", "p"], (a_is_cell X G c).mono (by decide)⟩, List.forall_mem_nil _⟩), all_get (List.forall_mem_nil _), all_get (List.forall_mem_nil _)⟩, He.glo_ok X G (c.fact 11 (f := .glo "are_cells") rfl), F.kp, F.bindsN fun _ _ _ _ _ _ us hl => match us, hl with | [_, _], _ => rfl⟩
theorem a_is_fate (X : K.In h) (G : h.Ns mainGlobals mg) (c : He.SaysD hfa hfn K) : HasS P w K mg base 3 "is_fate" ["thing"] (spP K fun ds d => R_is_fate ds = some d) := by
  obtain ⟨fd, F⟩ := c.def_ 15 (d := d_is_fate) rfl
  exact ⟨_, fd, def_pure (k := 2) (T := t_is_fate) (s := c_is_fate) (fun_ofD F) sc_is_fate m_is_fate ⟨h_bl X G c, all_get (List.forall_mem_nil _), all_get (List.forall_mem_cons.mpr ⟨⟨["thing"], (a_is_bound X G c).mono (by decide)⟩, List.forall_mem_nil _⟩), all_get (List.forall_mem_nil _), all_get (List.forall_mem_nil _)⟩, He.glo_ok X G (c.fact 15 (f := .glo "is_fate") rfl), F.kp, F.bindsN fun _ _ _ _ _ _ us hl => match us, hl with | [_], _ => rfl⟩
theorem a_kernel_of (X : K.In h) (G : h.Ns mainGlobals mg) (c : He.SaysD hfa hfn K) : HasS P w K mg base 3 "kernel_of" ["rows", "many", "p"] (spP K fun ds d => R_kernel_of ds = some d) := by
  obtain ⟨fd, F⟩ := c.def_ 21 (d := d_kernel_of) rfl
  exact ⟨_, fd, def_pure (k := 2) (T := t_kernel_of) (s := c_kernel_of) (fun_ofD F) sc_kernel_of m_kernel_of ⟨h_bl X G c, all_get (List.forall_mem_nil _), all_get (List.forall_mem_cons.mpr ⟨⟨["rows", "many", "p"], (a_reduced X G c).mono (by decide)⟩, List.forall_mem_cons.mpr ⟨⟨["row"], (a_first_place X G c).mono (by decide)⟩, List.forall_mem_nil _⟩⟩), all_get (List.forall_mem_nil _), all_get (List.forall_mem_nil _)⟩, He.glo_ok X G (c.fact 21 (f := .glo "kernel_of") rfl), F.kp, F.bindsN fun _ _ _ _ _ _ us hl => match us, hl with | [_, _, _], _ => rfl⟩
theorem a_weights_table (X : K.In h) (G : h.Ns mainGlobals mg) (c : He.SaysD hfa hfn K) : HasS P w K mg base 3 "weights_table" ["ground"] (spP K fun ds d => R_weights_table ds = some d) := by
  obtain ⟨fd, F⟩ := c.def_ 30 (d := d_weights_table) rfl
  exact ⟨_, fd, def_pure (k := 2) (T := t_weights_table) (s := c_weights_table) (fun_ofD F) sc_weights_table m_weights_table ⟨h_bl X G c, all_get (List.forall_mem_nil _), all_get (List.forall_mem_cons.mpr ⟨⟨["ground", "shelf", "j"], (a_weights X G c).mono (by decide)⟩, List.forall_mem_nil _⟩), all_get (List.forall_mem_nil _), all_get (List.forall_mem_nil _)⟩, He.glo_ok X G (c.fact 30 (f := .glo "weights_table") rfl), F.kp, F.bindsN fun _ _ _ _ _ _ us hl => match us, hl with | [_], _ => rfl⟩
theorem a_wrong_cell (X : K.In h) (G : h.Ns mainGlobals mg) (c : He.SaysD hfa hfn K) : HasS P w K mg base 3 "_law_wrong_cell" ["_law_pool_here", "_law_ground", "_law_cell", "_law_batches"] (spQ K fun q ds d q' => R_wrong_cell ds q = some (d, q')) := by
  obtain ⟨fd, F⟩ := c.def_ 47 (d := d_wrong_cell) rfl
  exact ⟨_, fd, def_pool (k := 2) (T := t_wrong_cell) (s := c_wrong_cell) (fun_ofD F) sc_wrong_cell m_wrong_cell ⟨h_bl X G c, all_get (List.forall_mem_nil _), all_get (List.forall_mem_nil _), all_get (List.forall_mem_cons.mpr ⟨⟨["_law_pool_here", "_law_many"], (a_draw X G c).mono (by decide)⟩, List.forall_mem_cons.mpr ⟨⟨["_law_pool_here", "_law_things"], (a_pick X G c).mono (by decide)⟩, List.forall_mem_nil _⟩⟩), all_get (List.forall_mem_nil _)⟩, He.glo_ok X G (c.fact 47 (f := .glo "_law_wrong_cell") rfl), F.kp, F.bindsN fun _ _ _ _ _ _ us hl => match us, hl with | [_, _, _, _], _ => rfl⟩
theorem a_is_world (X : K.In h) (G : h.Ns mainGlobals mg) (c : He.SaysD hfa hfn K) : HasS P w K mg base 3 "_law_is_world" ["_law_ground", "_law_row", "_law_choice", "_law_weaving", "_law_reading_here"] (spP K fun ds d => R_is_world ds = some d) := by
  obtain ⟨fd, F⟩ := c.def_ 54 (d := d_is_world) rfl
  exact ⟨_, fd, def_pure (k := 2) (T := t_is_world) (s := c_is_world) (fun_ofD F) sc_is_world m_is_world ⟨h_bl X G c, all_get (List.forall_mem_nil _), all_get (List.forall_mem_cons.mpr ⟨⟨["_law_ground", "_law_batches", "_law_weaving"], (a_woven X G c).mono (by decide)⟩, List.forall_mem_cons.mpr ⟨⟨["_law_fate", "_law_cells", "_law_lying"], (a_leaves X G c).mono (by decide)⟩, List.forall_mem_nil _⟩⟩), all_get (List.forall_mem_nil _), all_get (List.forall_mem_nil _)⟩, He.glo_ok X G (c.fact 54 (f := .glo "_law_is_world") rfl), F.kp, F.bindsN fun _ _ _ _ _ _ us hl => match us, hl with | [_, _, _, _, _], _ => rfl⟩
theorem a_tiny (X : K.In h) (G : h.Ns mainGlobals mg) (c : He.SaysD hfa hfn K) : HasS P w K mg base 3 "_law_tiny" ["_law_pool_here"] (spQ K fun q ds d q' => R_tiny ds q = some (d, q')) := by
  obtain ⟨fd, F⟩ := c.def_ 55 (d := d_tiny) rfl
  exact ⟨_, fd, def_pool (k := 2) (T := t_tiny) (s := c_tiny) (fun_ofD F) sc_tiny m_tiny ⟨h_bl X G c, all_get (List.forall_mem_nil _), all_get (List.forall_mem_nil _), all_get (List.forall_mem_cons.mpr ⟨⟨["_law_pool_here", "_law_many"], (a_draw X G c).mono (by decide)⟩, List.forall_mem_cons.mpr ⟨⟨["_law_pool_here", "_law_things"], (a_pick X G c).mono (by decide)⟩, List.forall_mem_cons.mpr ⟨⟨["_law_pool_here", "_law_many"], (a_turned X G c).mono (by decide)⟩, List.forall_mem_nil _⟩⟩⟩), all_get (List.forall_mem_nil _)⟩, He.glo_ok X G (c.fact 55 (f := .glo "_law_tiny") rfl), F.kp, F.bindsN fun _ _ _ _ _ _ us hl => match us, hl with | [_], _ => rfl⟩
theorem a_shelves (X : K.In h) (G : h.Ns mainGlobals mg) (c : He.SaysD hfa hfn K) : HasS P w K mg base 4 "shelves" ["ground"] (spP K fun ds d => R_shelves ds = some d) := by
  obtain ⟨fd, F⟩ := c.def_ 5 (d := d_shelves) rfl
  exact ⟨_, fd, def_pure (k := 3) (T := t_shelves) (s := c_shelves) (fun_ofD F) sc_shelves m_shelves ⟨h_bl X G c, all_get (List.forall_mem_nil _), all_get (List.forall_mem_cons.mpr ⟨⟨["thing"], (a_made_ground X G c).mono (by decide)⟩, List.forall_mem_nil _⟩), all_get (List.forall_mem_nil _), all_get (List.forall_mem_nil _)⟩, He.glo_ok X G (c.fact 5 (f := .glo "shelves") rfl), F.kp, F.bindsN fun _ _ _ _ _ _ us hl => match us, hl with | [_], _ => rfl⟩
theorem a_is_row (X : K.In h) (G : h.Ns mainGlobals mg) (c : He.SaysD hfa hfn K) : HasS P w K mg base 4 "is_row" ["many", "thing"] (spP K fun ds d => R_is_row ds = some d) := by
  obtain ⟨fd, F⟩ := c.def_ 16 (d := d_is_row) rfl
  exact ⟨_, fd, def_pure (k := 3) (T := t_is_row) (s := c_is_row) (fun_ofD F) sc_is_row m_is_row ⟨h_bl X G c, all_get (List.forall_mem_nil _), all_get (List.forall_mem_cons.mpr ⟨⟨["thing"], (a_is_fate X G c).mono (by decide)⟩, List.forall_mem_nil _⟩), all_get (List.forall_mem_nil _), all_get (List.forall_mem_nil _)⟩, He.glo_ok X G (c.fact 16 (f := .glo "is_row") rfl), F.kp, F.bindsN fun _ _ _ _ _ _ us hl => match us, hl with | [_, _], _ => rfl⟩
theorem a_flat_of (X : K.In h) (G : h.Ns mainGlobals mg) (c : He.SaysD hfa hfn K) : HasS P w K mg base 4 "flat_of" ["prime", "many", "equations"] (spP K fun ds d => R_flat_of ds = some d) := by
  obtain ⟨fd, F⟩ := c.def_ 25 (d := d_flat_of) rfl
  exact ⟨_, fd, def_pure (k := 3) (T := t_flat_of) (s := c_flat_of) (fun_ofD F) sc_flat_of m_flat_of ⟨h_bl X G c, all_get (List.forall_mem_nil _), all_get (List.forall_mem_cons.mpr ⟨⟨["prime", "many", "equations"], (a_chosen X G c).mono (by decide)⟩, List.forall_mem_cons.mpr ⟨⟨["rows", "many", "p"], (a_reduced X G c).mono (by decide)⟩, List.forall_mem_cons.mpr ⟨⟨["numbers", "many"], (a_first_column X G c).mono (by decide)⟩, List.forall_mem_cons.mpr ⟨⟨["rows", "many", "p"], (a_kernel_of X G c).mono (by decide)⟩, List.forall_mem_nil _⟩⟩⟩⟩), all_get (List.forall_mem_nil _), all_get (List.forall_mem_nil _)⟩, He.glo_ok X G (c.fact 25 (f := .glo "flat_of") rfl), F.kp, F.bindsN fun _ _ _ _ _ _ us hl => match us, hl with | [_, _, _], _ => rfl⟩
theorem a_stop (X : K.In h) (G : h.Ns mainGlobals mg) (c : He.SaysD hfa hfn K) : HasS P w K mg base 4 "_law_stop" ["_law_pool_here", "_law_ground", "_law_row", "_law_reading_here", "_law_batches"] (spQ K fun q ds d q' => R_stop ds q = some (d, q')) := by
  obtain ⟨fd, F⟩ := c.def_ 48 (d := d_stop) rfl
  exact ⟨_, fd, def_pool (k := 3) (T := t_stop) (s := c_stop) (fun_ofD F) sc_stop m_stop ⟨h_bl X G c, all_get (List.forall_mem_nil _), all_get (List.forall_mem_nil _), all_get (List.forall_mem_cons.mpr ⟨⟨["_law_pool_here", "_law_things"], (a_pick X G c).mono (by decide)⟩, List.forall_mem_cons.mpr ⟨⟨["_law_pool_here", "_law_many"], (a_draw X G c).mono (by decide)⟩, List.forall_mem_cons.mpr ⟨⟨["_law_pool_here", "_law_ground", "_law_cell", "_law_batches"], (a_wrong_cell X G c).mono (by decide)⟩, List.forall_mem_nil _⟩⟩⟩), all_get (List.forall_mem_nil _)⟩, He.glo_ok X G (c.fact 48 (f := .glo "_law_stop") rfl), F.kp, F.bindsN fun _ _ _ _ _ _ us hl => match us, hl with | [_, _, _, _, _], _ => rfl⟩
theorem a_worlds (X : K.In h) (G : h.Ns mainGlobals mg) (c : He.SaysD hfa hfn K) : HasS P w K mg base 4 "_law_worlds" ["_law_ground", "_law_book", "_law_stand", "_law_reading_here", "_law_b", "_law_batches", "_law_most"] (spP K fun ds d => R_worlds ds = some d) := by
  obtain ⟨fd, F⟩ := c.def_ 53 (d := d_worlds) rfl
  exact ⟨_, fd, def_pure (k := 3) (T := t_worlds) (s := c_worlds) (fun_ofD F) sc_worlds m_worlds ⟨h_bl X G c, all_get (List.forall_mem_nil _), all_get (List.forall_mem_cons.mpr ⟨⟨["_law_numbers", "_law_many"], (a_all_rows X G c).mono (by decide)⟩, List.forall_mem_cons.mpr ⟨⟨["_law_row", "_law_stand", "_law_reading_here", "_law_shelf", "_law_batches", "_law_most"], (a_tapes_for X G c).mono (by decide)⟩, List.forall_mem_cons.mpr ⟨⟨["_law_ground", "_law_row", "_law_choice", "_law_weaving", "_law_reading_here"], (a_is_world X G c).mono (by decide)⟩, List.forall_mem_nil _⟩⟩⟩), all_get (List.forall_mem_nil _), all_get (List.forall_mem_nil _)⟩, He.glo_ok X G (c.fact 53 (f := .glo "_law_worlds") rfl), F.kp, F.bindsN fun _ _ _ _ _ _ us hl => match us, hl with | [_, _, _, _, _, _, _], _ => rfl⟩
theorem a_made_weaving (X : K.In h) (G : h.Ns mainGlobals mg) (c : He.SaysD hfa hfn K) : HasS P w K mg base 5 "made_weaving" ["ground", "thing"] (spP K fun ds d => R_made_weaving ds = some d) := by
  obtain ⟨fd, F⟩ := c.def_ 12 (d := d_made_weaving) rfl
  exact ⟨_, fd, def_pure (k := 4) (T := t_made_weaving) (s := c_made_weaving) (fun_ofD F) sc_made_weaving m_made_weaving ⟨h_bl X G c, all_get (List.forall_mem_nil _), all_get (List.forall_mem_cons.mpr ⟨⟨["thing"], (a_made_ground X G c).mono (by decide)⟩, List.forall_mem_cons.mpr ⟨⟨["ground"], (a_shelves X G c).mono (by decide)⟩, List.forall_mem_cons.mpr ⟨⟨["thing"], (a_is_tape X G c).mono (by decide)⟩, List.forall_mem_nil _⟩⟩⟩), all_get (List.forall_mem_nil _), all_get (List.forall_mem_nil _)⟩, He.glo_ok X G (c.fact 12 (f := .glo "made_weaving") rfl), F.kp, F.bindsN fun _ _ _ _ _ _ us hl => match us, hl with | [_, _], _ => rfl⟩
theorem a_made_reading (X : K.In h) (G : h.Ns mainGlobals mg) (c : He.SaysD hfa hfn K) : HasS P w K mg base 5 "made_reading" ["ground", "thing"] (spP K fun ds d => R_made_reading ds = some d) := by
  obtain ⟨fd, F⟩ := c.def_ 13 (d := d_made_reading) rfl
  exact ⟨_, fd, def_pure (k := 4) (T := t_made_reading) (s := c_made_reading) (fun_ofD F) sc_made_reading m_made_reading ⟨h_bl X G c, all_get (List.forall_mem_nil _), all_get (List.forall_mem_cons.mpr ⟨⟨["thing"], (a_made_ground X G c).mono (by decide)⟩, List.forall_mem_cons.mpr ⟨⟨["ground"], (a_shelves X G c).mono (by decide)⟩, List.forall_mem_cons.mpr ⟨⟨["thing", "p"], (a_are_cells X G c).mono (by decide)⟩, List.forall_mem_nil _⟩⟩⟩), all_get (List.forall_mem_nil _), all_get (List.forall_mem_nil _)⟩, He.glo_ok X G (c.fact 13 (f := .glo "made_reading") rfl), F.kp, F.bindsN fun _ _ _ _ _ _ us hl => match us, hl with | [_, _], _ => rfl⟩
theorem a_made_book (X : K.In h) (G : h.Ns mainGlobals mg) (c : He.SaysD hfa hfn K) : HasS P w K mg base 5 "made_book" ["many", "thing"] (spP K fun ds d => R_made_book ds = some d) := by
  obtain ⟨fd, F⟩ := c.def_ 17 (d := d_made_book) rfl
  exact ⟨_, fd, def_pure (k := 4) (T := t_made_book) (s := c_made_book) (fun_ofD F) sc_made_book m_made_book ⟨h_bl X G c, all_get (List.forall_mem_cons.mpr ⟨He.int_ok X G (c.fact 78 (f := .int "MOST_SHELVES_books" 8) rfl), List.forall_mem_cons.mpr ⟨He.int_ok X G (c.fact 79 (f := .int "MOST_ROWS" 24) rfl), List.forall_mem_nil _⟩⟩), all_get (List.forall_mem_cons.mpr ⟨⟨["thing", "many"], (a_is_below X G c).mono (by decide)⟩, List.forall_mem_cons.mpr ⟨⟨["many", "thing"], (a_is_row X G c).mono (by decide)⟩, List.forall_mem_nil _⟩⟩), all_get (List.forall_mem_nil _), all_get (List.forall_mem_nil _)⟩, He.glo_ok X G (c.fact 17 (f := .glo "made_book") rfl), F.kp, F.bindsN fun _ _ _ _ _ _ us hl => match us, hl with | [_, _], _ => rfl⟩
theorem a_flats_in (X : K.In h) (G : h.Ns mainGlobals mg) (c : He.SaysD hfa hfn K) : HasS P w K mg base 5 "flats_in" ["ground", "table", "reading", "lengths"] (spP K fun ds d => R_flats_in ds = some d) := by
  obtain ⟨fd, F⟩ := c.def_ 32 (d := d_flats_in) rfl
  exact ⟨_, fd, def_pure (k := 4) (T := t_flats_in) (s := c_flats_in) (fun_ofD F) sc_flats_in m_flats_in ⟨h_bl X G c, all_get (List.forall_mem_nil _), all_get (List.forall_mem_cons.mpr ⟨⟨["prime", "many", "equations"], (a_flat_of X G c).mono (by decide)⟩, List.forall_mem_cons.mpr ⟨⟨["table", "many", "cells"], (a_equations_of X G c).mono (by decide)⟩, List.forall_mem_nil _⟩⟩), all_get (List.forall_mem_nil _), all_get (List.forall_mem_cons.mpr ⟨⟨["reading", "lengths"], (a_cells_by X G c).mono (by decide)⟩, List.forall_mem_nil _⟩)⟩, He.glo_ok X G (c.fact 32 (f := .glo "flats_in") rfl), F.kp, F.bindsN fun _ _ _ _ _ _ us hl => match us, hl with | [_, _, _, _], _ => rfl⟩
theorem a_reading (X : K.In h) (G : h.Ns mainGlobals mg) (c : He.SaysD hfa hfn K) : HasS P w K mg base 5 "_law_reading" ["_law_pool_here", "_law_ground", "_law_book", "_law_weaving"] (spQ K fun q ds d q' => R_reading ds q = some (d, q')) := by
  obtain ⟨fd, F⟩ := c.def_ 57 (d := d_reading) rfl
  exact ⟨_, fd, def_pool (k := 4) (T := t_reading) (s := c_reading) (fun_ofD F) sc_reading m_reading ⟨h_bl X G c, all_get (List.forall_mem_nil _), all_get (List.forall_mem_cons.mpr ⟨⟨["_law_ground", "_law_batches", "_law_weaving"], (a_woven X G c).mono (by decide)⟩, List.forall_mem_cons.mpr ⟨⟨["_law_reading_here", "_law_stop_here"], (a_stopped X G c).mono (by decide)⟩, List.forall_mem_nil _⟩⟩), all_get (List.forall_mem_cons.mpr ⟨⟨["_law_pool_here", "_law_many"], (a_draw X G c).mono (by decide)⟩, List.forall_mem_cons.mpr ⟨⟨["_law_pool_here", "_law_ground"], (a_batch X G c).mono (by decide)⟩, List.forall_mem_cons.mpr ⟨⟨["_law_pool_here", "_law_ground", "_law_row", "_law_reading_here", "_law_batches"], (a_stop X G c).mono (by decide)⟩, List.forall_mem_cons.mpr ⟨⟨["_law_pool_here", "_law_things"], (a_pick X G c).mono (by decide)⟩, List.forall_mem_nil _⟩⟩⟩⟩), all_get (List.forall_mem_nil _)⟩, He.glo_ok X G (c.fact 57 (f := .glo "_law_reading") rfl), F.kp, F.bindsN fun _ _ _ _ _ _ us hl => match us, hl with | [_, _, _, _], _ => rfl⟩
theorem a_possible_flats (X : K.In h) (G : h.Ns mainGlobals mg) (c : He.SaysD hfa hfn K) : HasS P w K mg base 6 "possible_flats" ["ground", "book", "stand", "reading"] (spP K fun ds d => R_possible_flats ds = some d) := by
  obtain ⟨fd, F⟩ := c.def_ 33 (d := d_possible_flats) rfl
  exact ⟨_, fd, def_pure (k := 5) (T := t_possible_flats) (s := c_possible_flats) (fun_ofD F) sc_possible_flats m_possible_flats ⟨h_bl X G c, all_get (List.forall_mem_nil _), all_get (List.forall_mem_cons.mpr ⟨⟨["ground"], (a_weights_table X G c).mono (by decide)⟩, List.forall_mem_cons.mpr ⟨⟨["fates", "reading"], (a_right_heads X G c).mono (by decide)⟩, List.forall_mem_cons.mpr ⟨⟨["fates", "stand", "reading"], (a_first_far X G c).mono (by decide)⟩, List.forall_mem_cons.mpr ⟨⟨["ground", "table", "reading", "lengths"], (a_flats_in X G c).mono (by decide)⟩, List.forall_mem_nil _⟩⟩⟩⟩), all_get (List.forall_mem_nil _), all_get (List.forall_mem_nil _)⟩, He.glo_ok X G (c.fact 33 (f := .glo "possible_flats") rfl), F.kp, F.bindsN fun _ _ _ _ _ _ us hl => match us, hl with | [_, _, _, _], _ => rfl⟩
theorem a_made_all (X : K.In h) (G : h.Ns mainGlobals mg) (c : He.SaysD hfa hfn K) : HasS P w K mg base 6 "made_all" ["ground", "book", "stand", "reading"] (spP K fun ds d => R_made_all ds = some d) := by
  obtain ⟨fd, F⟩ := c.def_ 38 (d := d_made_all) rfl
  exact ⟨_, fd, def_pure (k := 5) (T := t_made_all) (s := c_made_all) (fun_ofD F) sc_made_all m_made_all ⟨h_bl X G c, all_get (List.forall_mem_nil _), all_get (List.forall_mem_cons.mpr ⟨⟨["thing"], (a_made_ground X G c).mono (by decide)⟩, List.forall_mem_cons.mpr ⟨⟨["many", "thing"], (a_made_book X G c).mono (by decide)⟩, List.forall_mem_cons.mpr ⟨⟨["ground"], (a_shelves X G c).mono (by decide)⟩, List.forall_mem_cons.mpr ⟨⟨["ground", "thing"], (a_made_weaving X G c).mono (by decide)⟩, List.forall_mem_cons.mpr ⟨⟨["ground", "thing"], (a_made_reading X G c).mono (by decide)⟩, List.forall_mem_nil _⟩⟩⟩⟩⟩), all_get (List.forall_mem_nil _), all_get (List.forall_mem_nil _)⟩, He.glo_ok X G (c.fact 38 (f := .glo "made_all") rfl), F.kp, F.bindsN fun _ _ _ _ _ _ us hl => match us, hl with | [_, _, _, _], _ => rfl⟩
theorem a_read (X : K.In h) (G : h.Ns mainGlobals mg) (c : He.SaysD hfa hfn K) : HasS P w K mg base 7 "read" ["ground", "book", "stand", "reading", "b"] (spP K fun ds d => R_read ds = some d) := by
  obtain ⟨fd, F⟩ := c.def_ 39 (d := d_read) rfl
  exact ⟨_, fd, def_pure (k := 6) (T := t_read) (s := c_read) (fun_ofD F) sc_read m_read ⟨h_bl X G c, all_get (List.forall_mem_nil _), all_get (List.forall_mem_cons.mpr ⟨⟨["ground", "book", "stand", "reading"], (a_made_all X G c).mono (by decide)⟩, List.forall_mem_cons.mpr ⟨⟨["number"], (a_check_number X G c).mono (by decide)⟩, List.forall_mem_cons.mpr ⟨⟨["ground", "possible", "number"], (a_answer_of X G c).mono (by decide)⟩, List.forall_mem_cons.mpr ⟨⟨["ground", "book", "stand", "reading"], (a_possible_flats X G c).mono (by decide)⟩, List.forall_mem_nil _⟩⟩⟩⟩), all_get (List.forall_mem_nil _), all_get (List.forall_mem_nil _)⟩, He.glo_ok X G (c.fact 39 (f := .glo "read") rfl), F.kp, F.bindsN fun _ _ _ _ _ _ us hl => match us, hl with | [_, _, _, _, _], _ => rfl⟩
theorem facts (hm : LawOk) {P : Program} {w : World} {f : Addr} (X : K.In h) (G : h.Ns mainGlobals mg) (hf : mg ("law" : Str) = some (.ref f)) (c : He.SaysD hfa hfn K) :
    ∃ fd : FuncData, (∀ (s : Shared) (v : Value), BindsTo s fd ⟨[v], []⟩ [("_law_script", v)]) ∧ ∀ base : Heap, K.In base → base.Ns mainGlobals mg → FnOk P w K mg base CX0 8 f fd ["_law_script"] (spLaw K) := by
  obtain ⟨fd, F⟩ := c.def_ 59 (d := d_law) rfl
  have e := hf.symm.trans (He.glo_ok X G (c.fact 59 (f := .glo "law") rfl))
  cases e
  have b := FunD.bindsA (ps := ["_law_script"]) F fun _ _ _ _ _ _ us hl => match us, hl with | [_], _ => rfl
  exact ⟨fd, fun s v => b s [v] rfl, fun base _ _ => def_law (k := 7) hm (fun_ofD F) ⟨h_bl X G c, all_get (List.forall_mem_nil _), all_get (List.forall_mem_cons.mpr ⟨⟨["_law_ground", "_law_book", "_law_stand", "_law_reading_here", "_law_b", "_law_batches", "_law_most"], (a_worlds X G c).mono (by decide)⟩, List.forall_mem_cons.mpr ⟨⟨["_law_ground", "_law_those", "_law_told"], (a_due_right X G c).mono (by decide)⟩, List.forall_mem_cons.mpr ⟨⟨["ground", "book", "stand", "reading", "b"], (a_read X G c).mono (by decide)⟩, List.forall_mem_nil _⟩⟩⟩), all_get (List.forall_mem_cons.mpr ⟨⟨["_law_pool_here"], (a_tiny X G c).mono (by decide)⟩, List.forall_mem_cons.mpr ⟨⟨["_law_pool_here", "_law_many"], (a_draw X G c).mono (by decide)⟩, List.forall_mem_cons.mpr ⟨⟨["_law_pool_here", "_law_many", "_law_most"], (a_tapes X G c).mono (by decide)⟩, List.forall_mem_cons.mpr ⟨⟨["_law_pool_here", "_law_ground", "_law_book", "_law_weaving"], (a_reading X G c).mono (by decide)⟩, List.forall_mem_nil _⟩⟩⟩⟩), all_get (List.forall_mem_nil _)⟩ ((a_pool X G c).mono (by decide))⟩
end
end Fs
-- FsFin
section
/-! The row, from LawOk. -/
open PySem PySem.W PySem.Calls PyProof.Rows
theorem Fs.row_holds (hm : Fs.LawOk) : PySem.Challenge.rw_firstsafe_k42_whole_read_beside_all_worl.Holds := by
  w_on; o_law
  refine HandSHeadRun.head_any (r := OpenLaw.row PySem.Challenge.rw_firstsafe_k42_whole_read_beside_all_worl) (q := view (OpenLaw.row PySem.Challenge.rw_firstsafe_k42_whole_read_beside_all_worl).prog [88]) (H := Fs.hk) (ob := Fs.hob) (M := 8000) (loose := Fs.hnm) (d := HandSHeadRun.topDef (OpenLaw.row PySem.Challenge.rw_firstsafe_k42_whole_read_beside_all_worl).prog 88) (kwd := []) Fs.hob_eq
    (by kernel_rfl) (fun s => by kernel_rfl) Fs.hrun (by kernel_rfl) (by kernel_rfl) (by kernel_rfl) (by rfl) (by first | assumption | decide +kernel) (by decide +kernel) ⟨rfl, rfl, rfl, rfl, rfl, by decide +kernel⟩ ?hw ?hc
  case hw => w_witness2
  case hc =>
    refine L2.walk_ofE (l := PySem.Challenge.rw_firstsafe_k42_whole_read_beside_all_worl) (n := 63) (k := 8) (x := "_law_script") (CX := L2.CX0) rfl (by decide) (by kernel_rfl) ⟨rfl, by decide, by decide⟩ ?F (fun _ _ _ _ z => z)
    intro w mg fa h Y G hmg0
    obtain ⟨K, KX, c⟩ := Y
    have hmg : mg ("law" : PySem.Str) = some (.ref fa) := by
      have e : (HandSHeadRun.topDef (OpenLaw.row PySem.Challenge.rw_firstsafe_k42_whole_read_beside_all_worl).prog 88).name = ("law" : PySem.Str) := by kernel_rfl
      rw [← e]
      exact hmg0
    obtain ⟨fd, hb, hF⟩ := Fs.facts hm (P := (PySem.Challenge.rw_firstsafe_k42_whole_read_beside_all_worl).prog) (w := w) KX G hmg c
    exact ⟨K, fd, Fs.spLaw K, KX, hb, fun H a ns hl _ hS => ⟨a, ns, rfl, hl, hS, fun _ => rfl⟩, hF⟩
end
-- FsM0
/-! A draw: always there, below the bound. -/
namespace Fs
open PySem PySem.Spec PyProof.Rows L2
def tlD : S := (.ite (.cmp .gt (.pl 0 0) (.k (.int 0))) (.asg 4 (.bin .mod (.fn .int (.cons (.pl 0 0) .nil)) (.v 1)) (.plSet 0 0 (.bin .div (.pl 0 0) (.v 1)) (.ret (.v 4)))) .nil (.plSet 0 1 (.bin .mod (.fn .int (.cons (.bin .add (.bin .mul (.pl 0 1) (.k (.int 48271))) (.k (.int 11))) .nil)) (.k (.int 2147483647))) (.ret (.bin .mod (.bin .div (.bin .mod (.fn .int (.cons (.bin .mul (.pl 0 1) (.pl 0 1)) .nil)) (.k (.int 2147483629))) (.k (.int 32))) (.v 1)))))
theorem c_draw_eq : c_draw = (.ite (.and (.cmp .eq (.pl 0 0) (.k (.int 0))) (.plNe 0)) (.plPop 0 2 (.asg 3 (.ite (.cmp .ge (.v 2) (.k (.int 0))) (.bin .mul (.k (.int 2)) (.v 2)) (.bin .sub (.neg (.k (.int 1))) (.bin .mul (.k (.int 2)) (.v 2)))) (.plSet 0 0 (.ite (.cmp .ge (.v 3) (.bin .pow (.k (.int 10)) (.k (.int 18)))) (.v 3) (.k (.int 0))) (.plSet 0 1 (.bin .add (.bin .mod (.fn .int (.cons (.bin .add (.pl 0 1) (.bin .mul (.v 3) (.k (.int 69621)))) .nil)) (.k (.int 2147483629))) (.k (.int 3))) .nil)))) .nil tlD) := rfl
theorem ite_some {α β : Type} {c : Prop} [Decidable c] {x y : α} {f : α → β} : f (if c then x else y) = if c then f x else f y := by split <;> rfl
theorem draw_ok (many : Int) (h0 : 0 < many) (h1 : many < 1000) (q : Pl) : ∃ d q', R_draw [.int many] q = some (.int d, q') ∧ 0 ≤ d ∧ d < many := by
  have hdiv : 0 < many ∧ many < 1073741824 := ⟨h0, by omega⟩
  -- the second part, from any pool
  have tail : ∀ (s2 s3 : Slot) (q : Pl), ∃ d q', outQ (runS t_draw tlD [.pool, .val (.int many), s2, s3, .non] (some q)) = some (.int d, q') ∧ 0 ≤ d ∧ d < many := by
    intro s2 s3 q
    by_cases ha : 0 < q.a
    · refine ⟨q.a % many, { q with a := q.a / many }, ?_, Int.emod_nonneg _ (by omega), Int.emod_lt_of_pos _ h0⟩
      simp [tlD, runS, run, dOf, bOf, iOf, lOf, toD, cmpD, binD, fnD, outQ, Out.then, ha, h0, hdiv]
    · have hb : 0 ≤ (q.b * 48271 + 11) % 2147483647 ∧ (q.b * 48271 + 11) % 2147483647 < 2147483647 := ⟨Int.emod_nonneg _ (by decide), Int.emod_lt_of_pos _ (by decide)⟩
      generalize hbb : (q.b * 48271 + 11) % 2147483647 = b' at hb
      refine ⟨b' * b' % 2147483629 / 32 % many, { q with b := b' }, ?_, Int.emod_nonneg _ (by omega), Int.emod_lt_of_pos _ h0⟩
      have hc : -18446744073709551616 < b' ∧ b' < 18446744073709551616 := ⟨by omega, by omega⟩
      simp [tlD, runS, run, dOf, bOf, iOf, lOf, toD, cmpD, binD, fnD, outQ, Out.then, ha, h0, hbb, hc]
  by_cases hc : q.a = 0 ∧ q.ns ≠ []
  · obtain ⟨ha, hn⟩ := hc
    obtain ⟨n, t, hns⟩ : ∃ n t, q.ns = n :: t := by
      cases e : q.ns with
      | nil => exact absurd e hn
      | cons n t => exact ⟨n, t, rfl⟩
    obtain ⟨d, q', e, h2, h3⟩ := tail (.val (.int n)) (.val (.int (sizeI n))) { p := q.p, L := q.L, a := if 1000000000000000000 ≤ sizeI n then sizeI n else 0, b := (q.b + sizeI n * 69621) % 2147483629 + 3, ns := t }
    refine ⟨d, q', ?_, h2, h3⟩
    rw [← e]
    have hst : startS n_draw (.pool :: [PyData.int many].map .val) = [.pool, .val (.int many), .non, .non, .non] := rfl
    show outQ (runS t_draw c_draw (startS n_draw (.pool :: [PyData.int many].map .val)) (some q)) = _
    rw [hst, c_draw_eq]
    have hsz : dOf (run t_draw (.ite (.cmp .ge (.v 2) (.k (.int 0))) (.bin .mul (.k (.int 2)) (.v 2)) (.bin .sub (.neg (.k (.int 1))) (.bin .mul (.k (.int 2)) (.v 2)))) [.pool, .val (.int many), .val (.int n), .non, .non] (some { q with ns := t })) = some (.int (sizeI n), some { q with ns := t }) := by
      unfold sizeI
      by_cases h : 0 ≤ n <;> simp [run, dOf, bOf, iOf, toD, cmpD, binD, h]
    generalize sizeI n = sz at *
    by_cases h : 1000000000000000000 ≤ sz <;> by_cases h' : 0 ≤ n <;> simp [runS, run, dOf, bOf, iOf, lOf, toD, cmpD, binD, fnD, Out.then, ha, hns, h, h'] at hsz ⊢ <;> subst hsz <;> simp [h, hns]
  · obtain ⟨d, q', e, h2, h3⟩ := tail .non .non q
    refine ⟨d, q', ?_, h2, h3⟩
    rw [← e]
    have hst : startS n_draw (.pool :: [PyData.int many].map .val) = [.pool, .val (.int many), .non, .non, .non] := rfl
    show outQ (runS t_draw c_draw (startS n_draw (.pool :: [PyData.int many].map .val)) (some q)) = _
    rw [hst, c_draw_eq]
    by_cases ha : q.a = 0
    · have hn : q.ns = [] := by
        cases e : q.ns with
        | nil => rfl
        | cons n t => exact absurd ⟨ha, by rw [e]; simp⟩ hc
      simp [runS, run, dOf, bOf, iOf, lOf, toD, cmpD, binD, fnD, Out.then, ha, hn]
    · simp [runS, run, dOf, bOf, iOf, lOf, toD, cmpD, binD, fnD, Out.then, ha]
end Fs
-- FsM1
/-! The drawn things: there, of their shapes. -/
namespace Fs
open PySem PySem.Spec PyProof.Rows L2
theorem lcGo_tot {f : D → PSt → Option (List D × PSt)} {P : D → Prop} : ∀ (ds : List D), (∀ d ∈ ds, ∀ q, ∃ y q', f d (some q) = some ([y], some q') ∧ P y) → ∀ q, ∃ ys q', lcGo f ds (some q) = some (ys, some q') ∧ ys.length = ds.length ∧ ∀ y ∈ ys, P y
  | [], _, q => ⟨[], q, rfl, rfl, fun _ h => by cases h⟩
  | d :: ds, h, q => by
    obtain ⟨y, q1, h1, h2⟩ := h d List.mem_cons_self q
    obtain ⟨ys, q2, h3, h4, h5⟩ := lcGo_tot ds (fun e he => h e (List.mem_cons_of_mem _ he)) q1
    refine ⟨y :: ys, q2, ?_, by simp [h4], fun z hz => ?_⟩
    · simp [lcGo, h1, h3]
    · rcases List.mem_cons.mp hz with rfl | hz
      · exact h2
      · exact h5 z hz
theorem at_lt {α : Type} {xs : List α} {d : Int} (h0 : 0 ≤ d) (h1 : d < xs.length) : ∃ x, x ∈ xs ∧ L2.atI xs d = some x := by
  have hlt : d.toNat < xs.length := by omega
  exact ⟨xs[d.toNat], List.getElem_mem _, at_nat (j := d.toNat) (by omega) (List.getElem?_eq_getElem hlt)⟩
theorem pick_ok (ds : List D) (h0 : 0 < ds.length) (h1 : ds.length < 1000) (q : Pl) : ∃ d q', R_pick [.list ds] q = some (d, q') ∧ d ∈ ds := by
  obtain ⟨d, q', h, h2, h3⟩ := draw_ok ds.length (by omega) (by omega) q
  obtain ⟨x, hx, e⟩ := at_lt h2 h3
  refine ⟨x, q', ?_, hx⟩
  have hst : startS n_pick (.pool :: [PyData.list ds].map .val) = [.pool, .val (.list ds)] := rfl
  show outQ (runS t_pick c_pick (startS n_pick (.pool :: [PyData.list ds].map .val)) (some q)) = _
  rw [hst]
  simp [c_pick, runS, run, t_pick, dOf, iOf, lOf, sOf, toD, fnD, h, e, outQ]
theorem mem3 {d : Int} (h0 : 0 ≤ d) (h1 : d < 3) : d = 0 ∨ d = 1 ∨ d = 2 := by omega
theorem turned3 (q : Pl) : ∃ l q', R_turned [.int 3] q = some (.list (l.map .int), q') ∧ l ∈ ([[0, 1, 2], [0, 2, 1], [1, 0, 2], [1, 2, 0], [2, 0, 1], [2, 1, 0]] : List (List Int)) := by
  obtain ⟨d1, q1, h1, a1, b1⟩ := draw_ok 3 (by decide) (by decide) q
  obtain ⟨d2, q2, h2, a2, b2⟩ := draw_ok 2 (by decide) (by decide) q1
  obtain ⟨d3, q3, h3, a3, b3⟩ := draw_ok 1 (by decide) (by decide) q2
  have e3 : d3 = 0 := by omega
  subst e3
  have hst : startS n_turned (.pool :: [PyData.int 3].map .val) = [.pool, .val (.int 3), .non, .non, .non] := rfl
  have hR : R_turned [.int 3] q = outQ (runS t_turned c_turned (startS n_turned (.pool :: [PyData.int 3].map .val)) (some q)) := rfl
  rw [hR, hst]
  have r3 : rangeD 0 3 = [.int 0, .int 1, .int 2] := rfl
  have c1 : d1 = 0 ∨ d1 = 1 ∨ d1 = 2 := by omega
  have c2 : d2 = 0 ∨ d2 = 1 := by omega
  rcases c1 with rfl | rfl | rfl <;> rcases c2 with rfl | rfl
  · exact ⟨[0, 1, 2], q3, by simp [c_turned, runS, run, t_turned, dOf, iOf, lOf, toD, small, r3, forGo, Tg.asg, h1, h2, h3, Out.then, freeze1, outQ], by decide⟩
  · exact ⟨[0, 2, 1], q3, by simp [c_turned, runS, run, t_turned, dOf, iOf, lOf, toD, small, r3, forGo, Tg.asg, h1, h2, h3, Out.then, freeze1, outQ], by decide⟩
  · exact ⟨[1, 0, 2], q3, by simp [c_turned, runS, run, t_turned, dOf, iOf, lOf, toD, small, r3, forGo, Tg.asg, h1, h2, h3, Out.then, freeze1, outQ], by decide⟩
  · exact ⟨[1, 2, 0], q3, by simp [c_turned, runS, run, t_turned, dOf, iOf, lOf, toD, small, r3, forGo, Tg.asg, h1, h2, h3, Out.then, freeze1, outQ], by decide⟩
  · exact ⟨[2, 0, 1], q3, by simp [c_turned, runS, run, t_turned, dOf, iOf, lOf, toD, small, r3, forGo, Tg.asg, h1, h2, h3, Out.then, freeze1, outQ], by decide⟩
  · exact ⟨[2, 1, 0], q3, by simp [c_turned, runS, run, t_turned, dOf, iOf, lOf, toD, small, r3, forGo, Tg.asg, h1, h2, h3, Out.then, freeze1, outQ], by decide⟩
abbrev perms3 : List (List Int) := [[0, 1, 2], [0, 2, 1], [1, 0, 2], [1, 2, 0], [2, 0, 1], [2, 1, 0]]
abbrev perms4 : List (List Int) := [[0, 1, 2, 3], [0, 1, 3, 2], [0, 2, 1, 3], [0, 2, 3, 1], [0, 3, 1, 2], [0, 3, 2, 1], [1, 0, 2, 3], [1, 0, 3, 2], [1, 2, 0, 3], [1, 2, 3, 0], [1, 3, 0, 2], [1, 3, 2, 0], [2, 0, 1, 3], [2, 0, 3, 1], [2, 1, 0, 3], [2, 1, 3, 0], [2, 3, 0, 1], [2, 3, 1, 0], [3, 0, 1, 2], [3, 0, 2, 1], [3, 1, 0, 2], [3, 1, 2, 0], [3, 2, 0, 1], [3, 2, 1, 0]]
theorem turned4 (q : Pl) : ∃ l q', R_turned [.int 4] q = some (.list (l.map .int), q') ∧ l ∈ perms4 := by
  obtain ⟨d1, q1, h1, a1, b1⟩ := draw_ok 4 (by decide) (by decide) q
  obtain ⟨d2, q2, h2, a2, b2⟩ := draw_ok 3 (by decide) (by decide) q1
  obtain ⟨d3, q3, h3, a3, b3⟩ := draw_ok 2 (by decide) (by decide) q2
  obtain ⟨d4, q4, h4, a4, b4⟩ := draw_ok 1 (by decide) (by decide) q3
  have e4 : d4 = 0 := by omega
  subst e4
  have hst : startS n_turned (.pool :: [PyData.int 4].map .val) = [.pool, .val (.int 4), .non, .non, .non] := rfl
  have hR : R_turned [.int 4] q = outQ (runS t_turned c_turned (startS n_turned (.pool :: [PyData.int 4].map .val)) (some q)) := rfl
  rw [hR, hst]
  have r4 : rangeD 0 4 = [.int 0, .int 1, .int 2, .int 3] := rfl
  have c1 : d1 = 0 ∨ d1 = 1 ∨ d1 = 2 ∨ d1 = 3 := by omega
  have c2 : d2 = 0 ∨ d2 = 1 ∨ d2 = 2 := by omega
  have c3 : d3 = 0 ∨ d3 = 1 := by omega
  rcases c1 with rfl | rfl | rfl | rfl <;> rcases c2 with rfl | rfl | rfl <;> rcases c3 with rfl | rfl
  · exact ⟨[0, 1, 2, 3], q4, by simp [c_turned, runS, run, t_turned, dOf, iOf, lOf, toD, small, r4, forGo, Tg.asg, h1, h2, h3, h4, Out.then, freeze1, outQ], by decide⟩
  · exact ⟨[0, 1, 3, 2], q4, by simp [c_turned, runS, run, t_turned, dOf, iOf, lOf, toD, small, r4, forGo, Tg.asg, h1, h2, h3, h4, Out.then, freeze1, outQ], by decide⟩
  · exact ⟨[0, 2, 1, 3], q4, by simp [c_turned, runS, run, t_turned, dOf, iOf, lOf, toD, small, r4, forGo, Tg.asg, h1, h2, h3, h4, Out.then, freeze1, outQ], by decide⟩
  · exact ⟨[0, 2, 3, 1], q4, by simp [c_turned, runS, run, t_turned, dOf, iOf, lOf, toD, small, r4, forGo, Tg.asg, h1, h2, h3, h4, Out.then, freeze1, outQ], by decide⟩
  · exact ⟨[0, 3, 1, 2], q4, by simp [c_turned, runS, run, t_turned, dOf, iOf, lOf, toD, small, r4, forGo, Tg.asg, h1, h2, h3, h4, Out.then, freeze1, outQ], by decide⟩
  · exact ⟨[0, 3, 2, 1], q4, by simp [c_turned, runS, run, t_turned, dOf, iOf, lOf, toD, small, r4, forGo, Tg.asg, h1, h2, h3, h4, Out.then, freeze1, outQ], by decide⟩
  · exact ⟨[1, 0, 2, 3], q4, by simp [c_turned, runS, run, t_turned, dOf, iOf, lOf, toD, small, r4, forGo, Tg.asg, h1, h2, h3, h4, Out.then, freeze1, outQ], by decide⟩
  · exact ⟨[1, 0, 3, 2], q4, by simp [c_turned, runS, run, t_turned, dOf, iOf, lOf, toD, small, r4, forGo, Tg.asg, h1, h2, h3, h4, Out.then, freeze1, outQ], by decide⟩
  · exact ⟨[1, 2, 0, 3], q4, by simp [c_turned, runS, run, t_turned, dOf, iOf, lOf, toD, small, r4, forGo, Tg.asg, h1, h2, h3, h4, Out.then, freeze1, outQ], by decide⟩
  · exact ⟨[1, 2, 3, 0], q4, by simp [c_turned, runS, run, t_turned, dOf, iOf, lOf, toD, small, r4, forGo, Tg.asg, h1, h2, h3, h4, Out.then, freeze1, outQ], by decide⟩
  · exact ⟨[1, 3, 0, 2], q4, by simp [c_turned, runS, run, t_turned, dOf, iOf, lOf, toD, small, r4, forGo, Tg.asg, h1, h2, h3, h4, Out.then, freeze1, outQ], by decide⟩
  · exact ⟨[1, 3, 2, 0], q4, by simp [c_turned, runS, run, t_turned, dOf, iOf, lOf, toD, small, r4, forGo, Tg.asg, h1, h2, h3, h4, Out.then, freeze1, outQ], by decide⟩
  · exact ⟨[2, 0, 1, 3], q4, by simp [c_turned, runS, run, t_turned, dOf, iOf, lOf, toD, small, r4, forGo, Tg.asg, h1, h2, h3, h4, Out.then, freeze1, outQ], by decide⟩
  · exact ⟨[2, 0, 3, 1], q4, by simp [c_turned, runS, run, t_turned, dOf, iOf, lOf, toD, small, r4, forGo, Tg.asg, h1, h2, h3, h4, Out.then, freeze1, outQ], by decide⟩
  · exact ⟨[2, 1, 0, 3], q4, by simp [c_turned, runS, run, t_turned, dOf, iOf, lOf, toD, small, r4, forGo, Tg.asg, h1, h2, h3, h4, Out.then, freeze1, outQ], by decide⟩
  · exact ⟨[2, 1, 3, 0], q4, by simp [c_turned, runS, run, t_turned, dOf, iOf, lOf, toD, small, r4, forGo, Tg.asg, h1, h2, h3, h4, Out.then, freeze1, outQ], by decide⟩
  · exact ⟨[2, 3, 0, 1], q4, by simp [c_turned, runS, run, t_turned, dOf, iOf, lOf, toD, small, r4, forGo, Tg.asg, h1, h2, h3, h4, Out.then, freeze1, outQ], by decide⟩
  · exact ⟨[2, 3, 1, 0], q4, by simp [c_turned, runS, run, t_turned, dOf, iOf, lOf, toD, small, r4, forGo, Tg.asg, h1, h2, h3, h4, Out.then, freeze1, outQ], by decide⟩
  · exact ⟨[3, 0, 1, 2], q4, by simp [c_turned, runS, run, t_turned, dOf, iOf, lOf, toD, small, r4, forGo, Tg.asg, h1, h2, h3, h4, Out.then, freeze1, outQ], by decide⟩
  · exact ⟨[3, 0, 2, 1], q4, by simp [c_turned, runS, run, t_turned, dOf, iOf, lOf, toD, small, r4, forGo, Tg.asg, h1, h2, h3, h4, Out.then, freeze1, outQ], by decide⟩
  · exact ⟨[3, 1, 0, 2], q4, by simp [c_turned, runS, run, t_turned, dOf, iOf, lOf, toD, small, r4, forGo, Tg.asg, h1, h2, h3, h4, Out.then, freeze1, outQ], by decide⟩
  · exact ⟨[3, 1, 2, 0], q4, by simp [c_turned, runS, run, t_turned, dOf, iOf, lOf, toD, small, r4, forGo, Tg.asg, h1, h2, h3, h4, Out.then, freeze1, outQ], by decide⟩
  · exact ⟨[3, 2, 0, 1], q4, by simp [c_turned, runS, run, t_turned, dOf, iOf, lOf, toD, small, r4, forGo, Tg.asg, h1, h2, h3, h4, Out.then, freeze1, outQ], by decide⟩
  · exact ⟨[3, 2, 1, 0], q4, by simp [c_turned, runS, run, t_turned, dOf, iOf, lOf, toD, small, r4, forGo, Tg.asg, h1, h2, h3, h4, Out.then, freeze1, outQ], by decide⟩
end Fs
-- FsM2
/-! The drawn tapes, batches. -/
namespace Fs
open PySem PySem.Spec PyProof.Rows L2
theorem run_lc_tot {T : Tab} {elt : C} {tg : Tg} {it : C} {own : List (Str × Nat)} {ρ : List Slot} {p : PSt} {P : D → Prop} (ds : List D) (q0 : Pl) (hit : lOf (run T it ρ p) = some (ds, some q0)) (hlen : ds.length < 100000)
    (h : ∀ d ∈ ds, ∃ ρ2, tg.asg d (wipeS ρ (own.map (·.2))) = some ρ2 ∧ ∀ q, ∃ y q', dOf (run T elt ρ2 (some q)) = some (y, some q') ∧ P y) : ∃ ys q', run T (.lc elt tg it own) ρ p = some (.own ys, some q') ∧ ys.length = ds.length ∧ ∀ y ∈ ys, P y := by
  obtain ⟨ys, q', h1, h2, h3⟩ := lcGo_tot (f := fun (d : D) (q : PSt) => (tg.asg d (wipeS ρ (own.map (·.2)))).bind fun ρ2 => (dOf (run T elt ρ2 q)).map fun y => ([y.1], y.2)) (P := P) ds (fun d hd q => by
    obtain ⟨ρ2, e1, e2⟩ := h d hd
    obtain ⟨y, q', e3, e4⟩ := e2 q
    exact ⟨y, q', by simp [e1, e3], e4⟩) q0
  refine ⟨ys, q', ?_, h2, h3⟩
  unfold run
  rw [hit]
  simp only [Option.bind_some]
  rw [h1]
  simp only [Option.bind_some]
  rw [if_pos (by rw [h2]; exact hlen)]
theorem ints_of {Q : Int → Prop} : ∀ {ys : List D}, (∀ y ∈ ys, ∃ x, y = .int x ∧ Q x) → ∃ l : List Int, ys = l.map .int ∧ ∀ x ∈ l, Q x
  | [], _ => ⟨[], rfl, fun _ h => by cases h⟩
  | y :: ys, h => by
    obtain ⟨x, rfl, hx⟩ := h y List.mem_cons_self
    obtain ⟨l, rfl, hl⟩ := ints_of fun z hz => h z (List.mem_cons_of_mem _ hz)
    refine ⟨x :: l, rfl, fun z hz => ?_⟩
    rcases List.mem_cons.mp hz with rfl | hz
    · exact hx
    · exact hl z hz
theorem rangeD_len (n : Nat) : (rangeD 0 n).length = n := by simp [rangeD]
def TapeD (most : Int) (d : D) : Prop := ∃ l : List Int, d = .tuple (l.map .int) ∧ (l.length : Int) ≤ most ∧ ∀ x ∈ l, x = 0 ∨ x = 1
theorem tapes_ok (S most : Int) (hS : 0 ≤ S ∧ S ≤ 2) (hm : 0 ≤ most ∧ most ≤ 3) (q : Pl) : ∃ ts q', R_tapes [.int S, .int most] q = some (.tuple ts, q') ∧ (ts.length : Int) = S ∧ ∀ t ∈ ts, TapeD most t := by
  have hst : startS n_tapes (.pool :: [PyData.int S, PyData.int most].map .val) = [.pool, .val (.int S), .val (.int most), .non, .non] := rfl
  have hR : R_tapes [.int S, .int most] q = outQ (runS t_tapes c_tapes (startS n_tapes (.pool :: [PyData.int S, PyData.int most].map .val)) (some q)) := rfl
  rw [hR, hst]
  have inner : ∀ (s3 : Slot) (q : Pl), ∃ y q', dOf (run t_tapes (.fn .tup (.cons (.lc (.callQ 0 0 (.cons (.k (.int 2)) .nil)) (.n 4) (.rng1 (.callQ 0 0 (.cons (.bin .add (.v 2) (.k (.int 1))) .nil))) [("_law_turn", 4)]) .nil)) [.pool, .val (.int S), .val (.int most), s3, .non] (some q)) = some (y, some q') ∧ TapeD most y := by
    intro s3 q
    obtain ⟨m, q1, h1, a1, b1⟩ := draw_ok (most + 1) (by omega) (by omega) q
    have hsm : small m = true := by unfold small; simp; omega
    obtain ⟨ys, q2, h2, hl, hp⟩ := run_lc_tot (T := t_tapes) (elt := .callQ 0 0 (.cons (.k (.int 2)) .nil)) (tg := .n 4) (it := .rng1 (.callQ 0 0 (.cons (.bin .add (.v 2) (.k (.int 1))) .nil))) (own := [("_law_turn", 4)]) (ρ := [.pool, .val (.int S), .val (.int most), s3, .non]) (p := some q) (P := fun y => ∃ x, y = .int x ∧ (x = 0 ∨ x = 1)) (rangeD 0 m.toNat) q1
      (by simp [run, t_tapes, dOf, iOf, lOf, toD, binD, h1, hsm]) (by rw [rangeD_len]; omega) fun d hd => ⟨_, rfl, fun q => by
        obtain ⟨x, q', h, a, b⟩ := draw_ok 2 (by decide) (by decide) q
        exact ⟨.int x, q', by simp [run, t_tapes, dOf, lOf, toD, wipeS, h], x, rfl, by omega⟩⟩
    obtain ⟨l, rfl, hl2⟩ := ints_of hp
    refine ⟨.tuple (l.map .int), q2, ?_, l, rfl, ?_, hl2⟩
    · rw [run]
      rw [run]
      rw [h2]
      simp [dOf, lOf, toD, fnD, run]
    · rw [rangeD_len, List.length_map] at hl
      omega
  obtain ⟨ys, q2, h2, hl, hp⟩ := run_lc_tot (T := t_tapes) (elt := (.fn .tup (.cons (.lc (.callQ 0 0 (.cons (.k (.int 2)) .nil)) (.n 4) (.rng1 (.callQ 0 0 (.cons (.bin .add (.v 2) (.k (.int 1))) .nil))) [("_law_turn", 4)]) .nil))) (tg := .n 3) (it := .rng1 (.v 1)) (own := [("_law_shelf", 3)]) (ρ := [.pool, .val (.int S), .val (.int most), .non, .non]) (p := some q) (P := TapeD most) (rangeD 0 S.toNat) q
    (by
      have hsm : small S = true := by unfold small; simp; omega
      simp [run, iOf, lOf, hsm]) (by rw [rangeD_len]; omega) fun d hd => ⟨_, rfl, fun q => inner (.val d) q⟩
  refine ⟨ys, q2, ?_, by rw [hl, rangeD_len]; omega, hp⟩
  unfold c_tapes
  rw [runS, run, run, h2]
  simp [dOf, lOf, toD, fnD, run, outQ]

def BatchD (p k : Int) (d : D) : Prop := ∃ l : List Int, d = .tuple (l.map .int) ∧ (l.length : Int) = k ∧ ∀ x ∈ l, 0 ≤ x ∧ x < p
theorem batch_ok (p k : Int) (pts : D) (hp : 2 ≤ p ∧ p ≤ 3) (hk : 1 ≤ k ∧ k ≤ 2) (q : Pl) : ∃ d q', R_batch [.tuple [.int p, .int k, pts]] q = some (d, q') ∧ BatchD p k d := by
  have hst : startS n_batch (.pool :: [PyData.tuple [.int p, .int k, pts]].map .val) = [.pool, .val (.tuple [.int p, .int k, pts]), .non, .non, .non, .non, .non] := rfl
  have hR : R_batch [.tuple [.int p, .int k, pts]] q = outQ (runS t_batch c_batch (startS n_batch (.pool :: [PyData.tuple [.int p, .int k, pts]].map .val)) (some q)) := rfl
  rw [hR, hst]
  obtain ⟨d, q1, h1, a1, b1⟩ := draw_ok 4 (by decide) (by decide) q
  have hsm : small k = true := by unfold small; simp; omega
  have ht : t_batch.tq[0]? = some (("_law_draw" : Str), R_draw) := rfl
  unfold c_batch
  by_cases hd : 0 < d
  · obtain ⟨ys, q2, h2, hl, hp2⟩ := run_lc_tot (T := t_batch) (elt := .callQ 0 0 (.cons (.v 2) .nil)) (tg := .n 5) (it := .rng1 (.v 3)) (own := [("_law_place", 5)]) (ρ := [.pool, .val (.tuple [.int p, .int k, pts]), .val (.int p), .val (.int k), .val pts, .non, .non]) (p := some q1) (P := fun y => ∃ x, y = .int x ∧ (0 ≤ x ∧ x < p)) (rangeD 0 k.toNat) q1
      (by simp [run, iOf, lOf, hsm]) (by rw [rangeD_len]; omega) fun d hd => ⟨_, rfl, fun q => by
        obtain ⟨x, q', h, a, b⟩ := draw_ok p (by omega) (by omega) q
        exact ⟨.int x, q', by simp [run, t_batch, dOf, lOf, toD, wipeS, h], x, rfl, a, b⟩⟩
    obtain ⟨l, rfl, hl2⟩ := ints_of hp2
    refine ⟨.tuple (l.map .int), q2, ?_, l, rfl, by rw [rangeD_len, List.length_map] at hl; omega, hl2⟩
    generalize (C.lc (.callQ 0 0 (.cons (.v 2) .nil)) (.n 5) (.rng1 (.v 3)) [("_law_place", 5)]) = L1 at h2 ⊢
    generalize (C.lc _ (.n 6) (.rng1 (.v 3)) [("_law_at", 6)]) = L2
    simp [runS, run, ht, dOf, bOf, iOf, lOf, toD, cmpD, fnD, Tg.asg, h1, hd, h2, Out.then, outQ]
  · obtain ⟨at_, q2, h2, a2, b2⟩ := draw_ok k (by omega) (by omega) q1
    obtain ⟨ys, q3, h3, hl, hp3⟩ := run_lc_tot (T := t_batch) (elt := (.ite (.cmp .eq (.v 6) (.v 5)) (.bin .sub (.v 2) (.k (.int 1))) (.k (.int 0)))) (tg := .n 6) (it := .rng1 (.v 3)) (own := [("_law_at", 6)]) (ρ := [.pool, .val (.tuple [.int p, .int k, pts]), .val (.int p), .val (.int k), .val pts, .val (.int at_), .non]) (p := some q2) (P := fun y => ∃ x, y = .int x ∧ (0 ≤ x ∧ x < p)) (rangeD 0 k.toNat) q2
      (by simp [run, iOf, lOf, hsm]) (by rw [rangeD_len]; omega) fun d hd => by
        have : ∃ n : Int, d = .int n := by
          obtain ⟨i, _, rfl⟩ := List.mem_map.mp hd
          exact ⟨_, rfl⟩
        obtain ⟨n, rfl⟩ := this
        refine ⟨_, rfl, fun q => ?_⟩
        by_cases hn : n = at_
        · exact ⟨.int (p - 1), q, by simp [run, dOf, bOf, toD, wipeS, cmpD, binD, hn], _, rfl, by omega, by omega⟩
        · exact ⟨.int 0, q, by simp [run, dOf, bOf, toD, wipeS, cmpD, binD, hn], _, rfl, by omega, by omega⟩
    obtain ⟨l, rfl, hl2⟩ := ints_of hp3
    refine ⟨.tuple (l.map .int), q3, ?_, l, rfl, by rw [rangeD_len, List.length_map] at hl; omega, hl2⟩
    generalize (C.lc (.callQ 0 0 (.cons (.v 2) .nil)) (.n 5) (.rng1 (.v 3)) [("_law_place", 5)]) = L1
    generalize (C.lc _ (.n 6) (.rng1 (.v 3)) [("_law_at", 6)]) = L2 at h3 ⊢
    simp [runS, run, ht, dOf, bOf, iOf, lOf, toD, cmpD, fnD, Tg.asg, h1, hd, h2, h3, Out.then, outQ]
end Fs
-- FsM3
/-! The drawn ground and book. -/
namespace Fs
open PySem PySem.Spec PyProof.Rows L2
def bdL : List D := [.int 0, .int 0, .int 0, .int 1, .int 1, .none]
def FateD (d : D) : Prop := ∃ a b, d = .tuple [a, b] ∧ a ∈ bdL ∧ b ∈ bdL
def RowD (n : Nat) (d : D) : Prop := ∃ l, d = .tuple l ∧ l.length = n ∧ ∀ x ∈ l, FateD x
def GroundOk (p k : Int) (pts : List Int) : Prop := ((p = 2 ∧ (k = 1 ∨ k = 2)) ∧ ∃ l ∈ perms3, pts = l.take 1 ∨ pts = l.take 2) ∨ ((p = 3 ∧ k = 1) ∧ ∃ l ∈ perms4, pts = l.take 1 ∨ pts = l.take 2)
theorem tiny_row (k p rows s6 s7 : Slot) (pts : List D) (hl : pts.length < 100) (q : Pl) : ∃ y q', run t_tiny (.fn .tup (.cons (.lc (.tup (.cons (.callQ 1 0 (.cons (.v 4) .nil)) (.cons (.callQ 1 0 (.cons (.v 4) .nil)) .nil))) (.n 7) (.seq (.v 3)) [("_law_point", 7)]) .nil)) [.pool, k, p, .val (.list pts), .val (.list bdL), rows, s6, s7] (some q) = some (.val y, some q') ∧ RowD pts.length y := by
  have ht : t_tiny.tq[1]? = some (("_law_pick" : Str), R_pick) := rfl
  obtain ⟨ys, q3, h3, hl3, hp3⟩ := run_lc_tot (T := t_tiny) (elt := (.tup (.cons (.callQ 1 0 (.cons (.v 4) .nil)) (.cons (.callQ 1 0 (.cons (.v 4) .nil)) .nil)))) (tg := .n 7) (it := .seq (.v 3)) (own := [("_law_point", 7)]) (ρ := [.pool, k, p, .val (.list pts), .val (.list bdL), rows, s6, s7]) (p := some q) (P := FateD) pts q
    (by simp [run, sOf, lOf]) (by omega) fun d hd => ⟨_, rfl, fun q => by
      obtain ⟨a, q1, h1, m1⟩ := pick_ok bdL (by decide) (by decide) q
      obtain ⟨b, q2, h2, m2⟩ := pick_ok bdL (by decide) (by decide) q1
      exact ⟨.tuple [a, b], q2, by simp [run, ht, dOf, lOf, toD, wipeS, h1, h2], a, b, rfl, m1, m2⟩⟩
  refine ⟨.tuple ys, q3, ?_, ys, rfl, hl3, hp3⟩
  rw [run, run, h3]
  simp [dOf, lOf, toD, fnD, run]
def tlT : S := (.asg 5 (.lst .nil) (.for (.n 6) (.rng1 (.bin .add (.k (.int 1)) (.callQ 0 0 (.cons (.k (.int 2)) .nil)))) (.frz 3 (.frz 4 (.app 5 (.fn .tup (.cons (.lc (.tup (.cons (.callQ 1 0 (.cons (.v 4) .nil)) (.cons (.callQ 1 0 (.cons (.v 4) .nil)) .nil))) (.n 7) (.seq (.v 3)) [("_law_point", 7)]) .nil)) .nil))) (.frz 5 (.frz 3 (.ret (.tup (.cons (.tup (.cons (.v 2) (.cons (.v 1) (.cons (.fn .tup (.cons (.v 3) .nil)) .nil)))) (.cons (.fn .tup (.cons (.v 5) .nil)) .nil))))))))
theorem c_tiny_eq : c_tiny = (.asg 1 (.ite (.cmp .eq (.callQ 0 0 (.cons (.k (.int 4)) .nil)) (.k (.int 3))) (.k (.int 2)) (.k (.int 1))) (.asg 2 (.ite (.cmp .eq (.v 1) (.k (.int 2))) (.k (.int 2)) (.callQ 1 0 (.cons (.lst (.cons (.k (.int 2)) (.cons (.k (.int 3)) .nil))) .nil))) (.unp (.tup (.cons (.n 3) (.cons (.n 4) .nil))) (.tup (.cons (.slTo (.callQ 2 0 (.cons (.bin .add (.v 2) (.k (.int 1))) .nil)) (.bin .add (.k (.int 1)) (.callQ 0 0 (.cons (.k (.int 2)) .nil)))) (.cons (.lst (.cons (.k (.int 0)) (.cons (.k (.int 0)) (.cons (.k (.int 0)) (.cons (.k (.int 1)) (.cons (.k (.int 1)) (.cons (.k .none) .nil))))))) .nil))) tlT))) := rfl
theorem tiny_tail (k p : Int) (pts : List D) (hl : pts.length < 100) (q : Pl) : ∃ bk q', outQ (runS t_tiny tlT [.pool, .val (.int k), .val (.int p), .val (.list pts), .val (.list bdL), .non, .non, .non] (some q)) = some (.tuple [.tuple [.int p, .int k, .tuple pts], .tuple bk], q') ∧ (bk.length = 1 ∨ bk.length = 2) ∧ ∀ r ∈ bk, RowD pts.length r := by
  have ht : t_tiny.tq[0]? = some (("_law_draw" : Str), R_draw) := rfl
  obtain ⟨d, q1, h1, a1, b1⟩ := draw_ok 2 (by decide) (by decide) q
  have hrow := tiny_row
  unfold tlT
  generalize (C.fn .tup (.cons (.lc (.tup (.cons (.callQ 1 0 (.cons (.v 4) .nil)) (.cons (.callQ 1 0 (.cons (.v 4) .nil)) .nil))) (.n 7) (.seq (.v 3)) [("_law_point", 7)]) .nil)) = RC at hrow ⊢
  obtain ⟨y1, q2, h2, r1⟩ := hrow (.val (.int k)) (.val (.int p)) (.own []) (.val (.int 0)) .non pts hl q1
  have e1 : rangeD 0 1 = [.int 0] := rfl
  have e2 : rangeD 0 2 = [.int 0, .int 1] := rfl
  have cd : d = 0 ∨ d = 1 := by omega
  rcases cd with rfl | rfl
  · refine ⟨[y1], q2, ?_, .inl rfl, fun r hr => by simp at hr; rw [hr]; exact r1⟩
    simp [runS, run, ht, dOf, iOf, lOf, toD, binD, fnD, small, Tg.asg, h1, e1, forGo, freeze1, h2, Out.then, outQ]
  · obtain ⟨y2, q3, h3, r2⟩ := hrow (.val (.int k)) (.val (.int p)) (.own [y1]) (.val (.int 1)) .non pts hl q2
    refine ⟨[y1, y2], q3, ?_, .inr rfl, fun r hr => by simp at hr; rcases hr with rfl | rfl; exact r1; exact r2⟩
    simp [runS, run, ht, dOf, iOf, lOf, toD, binD, fnD, small, Tg.asg, h1, e2, forGo, freeze1, h2, h3, Out.then, outQ]
theorem take_case {l : List Int} {d : Int} (hd : d = 0 ∨ d = 1) : cutD (l.map PyData.int) none (some (1 + d)) = (l.take 1).map .int ∨ cutD (l.map PyData.int) none (some (1 + d)) = (l.take 2).map .int := by
  rcases hd with rfl | rfl
  · left
    show cutD _ none (some ((1 : Nat) : Int)) = _
    rw [cutD_to (j := 1) _ rfl, List.map_take]
  · right
    show cutD _ none (some ((2 : Nat) : Int)) = _
    rw [cutD_to (j := 2) _ rfl, List.map_take]
theorem tiny_ok (q : Pl) : ∃ p k pts bk q', R_tiny [] q = some (.tuple [.tuple [.int p, .int k, .tuple (pts.map .int)], .tuple bk], q') ∧ GroundOk p k pts ∧ (bk.length = 1 ∨ bk.length = 2) ∧ ∀ r ∈ bk, RowD pts.length r := by
  have hst : startS n_tiny (.pool :: ([] : List D).map .val) = [.pool, .non, .non, .non, .non, .non, .non, .non] := rfl
  have hR : R_tiny [] q = outQ (runS t_tiny c_tiny (startS n_tiny (.pool :: ([] : List D).map .val)) (some q)) := rfl
  rw [hR, hst, c_tiny_eq]
  have ht : t_tiny.tq[0]? = some (("_law_draw" : Str), R_draw) := rfl
  have ht1 : t_tiny.tq[1]? = some (("_law_pick" : Str), R_pick) := rfl
  have ht2 : t_tiny.tq[2]? = some (("_law_turned" : Str), R_turned) := rfl
  have htail := tiny_tail
  generalize tlT = TL at htail ⊢
  obtain ⟨d, q1, h1, a1, b1⟩ := draw_ok 4 (by decide) (by decide) q
  have fin : ∀ (p k : Int) (l : List Int) (q1 q2 : Pl), R_turned [.int (p + 1)] q1 = some (.list (l.map .int), q2) → l.length ≤ 4 → (((p = 2 ∧ (k = 1 ∨ k = 2)) ∧ l ∈ perms3) ∨ ((p = 3 ∧ k = 1) ∧ l ∈ perms4)) →
      ∃ p' k' pts bk q', outQ (runS t_tiny (.unp (.tup (.cons (.n 3) (.cons (.n 4) .nil))) (.tup (.cons (.slTo (.callQ 2 0 (.cons (.bin .add (.v 2) (.k (.int 1))) .nil)) (.bin .add (.k (.int 1)) (.callQ 0 0 (.cons (.k (.int 2)) .nil)))) (.cons (.lst (.cons (.k (.int 0)) (.cons (.k (.int 0)) (.cons (.k (.int 0)) (.cons (.k (.int 1)) (.cons (.k (.int 1)) (.cons (.k .none) .nil))))))) .nil))) TL) [.pool, .val (.int k), .val (.int p), .non, .non, .non, .non, .non] (some q1)) = some (.tuple [.tuple [.int p', .int k', .tuple (pts.map .int)], .tuple bk], q') ∧ GroundOk p' k' pts ∧ (bk.length = 1 ∨ bk.length = 2) ∧ ∀ r ∈ bk, RowD pts.length r := by
    intro p k l q1 q2 ht' hl4 hg
    obtain ⟨d, q3, h3, a3, b3⟩ := draw_ok 2 (by decide) (by decide) q2
    have hcut : ∃ m, (m = 1 ∨ m = 2) ∧ cutD (l.map PyData.int) none (some (1 + d)) = (l.take m).map .int := by
      rcases take_case (l := l) (d := d) (by omega) with h | h
      · exact ⟨1, .inl rfl, h⟩
      · exact ⟨2, .inr rfl, h⟩
    obtain ⟨m, hm, hcut⟩ := hcut
    obtain ⟨bk, q4, h4, hb, hr⟩ := htail k p ((l.take m).map .int) (by simp; omega) q3
    refine ⟨p, k, l.take m, bk, q4, ?_, ?_, hb, fun r hr' => by have := hr r hr'; simpa using this⟩
    · rw [← h4]
      simp [runS, run, ht, ht2, dOf, iOf, lOf, toD, binD, Tg.asg, ht', h3, hcut, bdL]
    · rcases hg with ⟨g1, g2⟩ | ⟨g1, g2⟩
      · exact .inl ⟨g1, l, g2, by rcases hm with rfl | rfl; exact .inl rfl; exact .inr rfl⟩
      · exact .inr ⟨g1, l, g2, by rcases hm with rfl | rfl; exact .inl rfl; exact .inr rfl⟩
  have len3 : ∀ l ∈ perms3, l.length ≤ 4 := by decide
  have len4 : ∀ l ∈ perms4, l.length ≤ 4 := by decide
  by_cases hd : d = 3
  · obtain ⟨l, q2, h2, hl⟩ := turned3 q1
    obtain ⟨p', k', pts, bk, q', e, r⟩ := fin 2 2 l q1 q2 h2 (len3 l hl) (.inl ⟨⟨rfl, .inr rfl⟩, hl⟩)
    refine ⟨p', k', pts, bk, q', ?_, r⟩
    rw [← e]
    generalize (S.unp _ _ TL) = TU
    simp [runS, run, ht, dOf, bOf, lOf, toD, cmpD, h1, hd]
  · obtain ⟨pd, q2, h2, m2⟩ := pick_ok [.int 2, .int 3] (by decide) (by decide) q1
    have hp : pd = .int 2 ∨ pd = .int 3 := by simpa using m2
    rcases hp with rfl | rfl
    · obtain ⟨l, q3, h3, hl⟩ := turned3 q2
      obtain ⟨p', k', pts, bk, q', e, r⟩ := fin 2 1 l q2 q3 h3 (len3 l hl) (.inl ⟨⟨rfl, .inl rfl⟩, hl⟩)
      refine ⟨p', k', pts, bk, q', ?_, r⟩
      rw [← e]
      generalize (S.unp _ _ TL) = TU
      simp [runS, run, ht, ht1, dOf, bOf, lOf, toD, cmpD, h1, hd, h2]
    · obtain ⟨l, q3, h3, hl⟩ := turned4 q2
      obtain ⟨p', k', pts, bk, q', e, r⟩ := fin 3 1 l q2 q3 h3 (len4 l hl) (.inr ⟨⟨rfl, rfl⟩, hl⟩)
      refine ⟨p', k', pts, bk, q', ?_, r⟩
      rw [← e]
      generalize (S.unp _ _ TL) = TU
      simp [runS, run, ht, ht1, dOf, bOf, lOf, toD, cmpD, h1, hd, h2]
end Fs
-- FsK1
/-! Encodings, equality of data, loops. -/
namespace Fs
open PySem PySem.Spec PyProof.Rows L2
abbrev Cell := Int × Int
abbrev Fa := Option Int × Option Int
abbrev Rw := List Fa
abbrev Gd := Nat × Nat × List Int
def oI : Option Int → D
  | none => .none
  | some n => .int n
def encC (c : Cell) : D := .tuple [.int c.1, .int c.2]
def encCs (l : List Cell) : D := .tuple (l.map encC)
def encRd (L : List (List Cell)) : D := .tuple (L.map encCs)
def encW (W : List (List Int)) : D := .tuple (W.map encT)
def encFa (f : Fa) : D := .tuple [oI f.1, oI f.2]
def encRow (r : Rw) : D := .tuple (r.map encFa)
def encBk (b : List Rw) : D := .tuple (b.map encRow)
def encG (g : Gd) : D := .tuple [.int g.1, .int g.2.1, encT g.2.2]
def encSt : Option (List (List Int)) → D
  | none => .none
  | some W => encW W
abbrev Flat := List Int × List (List Int)
def encF (f : Flat) : D := .tuple [encT f.1, .tuple (f.2.map encT)]
/-! ### equality of data -/
mutual
def deq : D → D → Bool
  | .none, .none => true
  | .bool a, .bool b => a == b
  | .int a, .int b => decide (a = b)
  | .tuple a, .tuple b => deqs a b
  | .list a, .list b => deqs a b
  | _, _ => false
def deqs : List D → List D → Bool
  | [], [] => true
  | a :: x, b :: y => deq a b && deqs x y
  | _, _ => false
end
mutual
theorem deq_eq : ∀ {a b : D}, deq a b = true → a = b
  | .none, .none, _ => rfl
  | .bool a, .bool b, h => by simp [deq] at h; rw [h]
  | .int a, .int b, h => by simp [deq] at h; rw [h]
  | .tuple a, .tuple b, h => by simp only [deq] at h; rw [deqs_eq h]
  | .list a, .list b, h => by simp only [deq] at h; rw [deqs_eq h]
theorem deqs_eq : ∀ {a b : List D}, deqs a b = true → a = b
  | [], [], _ => rfl
  | a :: x, b :: y, h => by
    simp only [deqs, Bool.and_eq_true] at h
    rw [deq_eq h.1, deqs_eq h.2]
end
/-- what comes is just this -/
def isD (o : Option D) (d : D) : Bool := match o with
  | some e => deq e d
  | none => false
theorem isD_eq {o : Option D} {d : D} (h : isD o d = true) : o = some d := by
  cases o with
  | none => cases h
  | some e => rw [deq_eq h]
theorem eqvAll_ints : ∀ a b : List Int, PyData.eqvAll (a.map .int) (b.map .int) = decide (a = b)
  | [], [] => rfl
  | [], _ :: _ => rfl
  | _ :: _, [] => rfl
  | x :: a, y :: b => by
    rw [List.map_cons, List.map_cons, PyData.eqvAll, eqvAll_ints a b, PyData.eqv, Bool.eq_iff_iff]
    simp
theorem eqv_T (a b : List Int) : PyData.eqv (encT a) (encT b) = decide (a = b) := by
  unfold encT
  rw [PyData.eqv]
  exact eqvAll_ints a b
theorem eqv_C (a b : Cell) : PyData.eqv (encC a) (encC b) = decide (a = b) := by
  obtain ⟨a1, a2⟩ := a
  obtain ⟨b1, b2⟩ := b
  have h := eqvAll_ints [a1, a2] [b1, b2]
  unfold encC
  rw [PyData.eqv]
  refine h.trans ?_
  rw [Bool.eq_iff_iff]
  simp
theorem canLayAll_all : ∀ {ds : List D}, (∀ d ∈ ds, d.canLay0 = true) → PyData.canLayAll0 ds = true
  | [], _ => rfl
  | d :: ds, h => by
    unfold PyData.canLayAll0
    rw [h d List.mem_cons_self, canLayAll_all fun e he => h e (List.mem_cons_of_mem _ he)]
    rfl
theorem depthAll_le {n : Nat} : ∀ {ds : List D}, (∀ d ∈ ds, d.depth ≤ n) → PyData.depthAll ds ≤ n
  | [], _ => Nat.zero_le _
  | d :: ds, h => by
    unfold PyData.depthAll
    exact Nat.max_le.mpr ⟨h d List.mem_cons_self, depthAll_le fun e he => h e (List.mem_cons_of_mem _ he)⟩
theorem lay_T (a : List Int) : (encT a).canLay0 = true := by
  unfold encT PyData.canLay0
  refine canLayAll_all fun d hd => ?_
  obtain ⟨x, _, rfl⟩ := List.mem_map.mp hd
  rfl
theorem dep_T (a : List Int) : (encT a).depth ≤ 1 := by
  unfold encT PyData.depth
  refine Nat.add_le_add_right (depthAll_le (n := 0) fun d hd => ?_) 1
  obtain ⟨x, _, rfl⟩ := List.mem_map.mp hd
  exact Nat.le_refl _
theorem shaped_mk {d : D} (h1 : d.canLay0 = true) (h2 : d.depth ≤ 64) : SeqAt.shaped d = true := by
  unfold SeqAt.shaped
  rw [h1]
  simpa using h2
theorem shaped_T (a : List Int) : SeqAt.shaped (encT a) = true := shaped_mk (lay_T a) (Nat.le_trans (dep_T a) (by decide))
theorem shaped_Ts (l : List (List Int)) : SeqAt.shaped (.list (l.map encT)) = true := by
  refine shaped_mk ?_ ?_
  · unfold PyData.canLay0
    refine canLayAll_all fun d hd => ?_
    obtain ⟨x, _, rfl⟩ := List.mem_map.mp hd
    exact lay_T x
  · unfold PyData.depth
    refine Nat.le_trans (Nat.add_le_add_right (depthAll_le (n := 1) fun d hd => ?_) 1) (by decide)
    obtain ⟨x, _, rfl⟩ := List.mem_map.mp hd
    exact dep_T x
theorem shaped_C (c : Cell) : SeqAt.shaped (encC c) = true := by
  refine shaped_mk rfl ?_
  simp [encC, PyData.depth, PyData.depthAll]
theorem any_eqv_T (l : List (List Int)) (x : List Int) : ((l.map encT).any fun z => PyData.eqv z (encT x)) = decide (x ∈ l) := by
  induction l with
  | nil => simp
  | cons a l ih =>
    rw [List.map_cons, List.any_cons, ih, eqv_T, Bool.eq_iff_iff]
    simp only [Bool.or_eq_true, decide_eq_true_eq, List.mem_cons]
    exact ⟨fun h => h.imp Eq.symm id, fun h => h.imp Eq.symm id⟩
/-! ### places -/
theorem at_n {α : Type} {xs : List α} {j : Nat} {v : α} (h : xs[j]? = some v) : atI xs (j : Int) = some v := atI_nat h
theorem at_map {α β : Type} {f : α → β} {xs : List α} {j : Nat} {v : α} (h : xs[j]? = some v) : atI (xs.map f) (j : Int) = some (f v) := atI_nat (by rw [List.getElem?_map, h]; rfl)
theorem cut_to {α : Type} (xs : List α) (j : Nat) : cutD xs none (some (j : Int)) = xs.take j := cutD_to xs rfl
theorem ix0 {α : Type} (a : α) (l : List α) : atI (a :: l) 0 = some a := at_n (j := 0) rfl
theorem ix1 {α : Type} (a b : α) (l : List α) : atI (a :: b :: l) 1 = some b := at_n (j := 1) rfl
theorem ix2 {α : Type} (a b c : α) (l : List α) : atI (a :: b :: c :: l) 2 = some c := at_n (j := 2) rfl
theorem enum_at {ds : List D} {i : Nat} {d : D} (h : (enumD 0 ds)[i]? = some d) : ∃ e, ds[i]? = some e ∧ d = .tuple [.int (i : Nat), e] := by
  rw [enumD_at] at h
  obtain ⟨e, h1, h2⟩ := Option.map_eq_some_iff.mp h
  exact ⟨e, h1, by rw [← h2, Int.zero_add]⟩
/-! ### loops -/
theorem forGo_inv {f : D → List Slot → PSt → Option Out} {p : PSt} : ∀ (ds : List D) (I : Nat → List Slot → Prop), (∀ i d, ds[i]? = some d → ∀ ρ, I i ρ → ∃ ρ', (f d ρ p = some (.nx ρ' p) ∨ f d ρ p = some (.ct ρ' p)) ∧ I (i + 1) ρ') → ∀ ρ, I 0 ρ → ∃ ρ', forGo f ds ρ p = some (.nx ρ' p) ∧ I ds.length ρ'
  | [], I, _, ρ, h0 => ⟨ρ, rfl, h0⟩
  | d :: ds, I, h, ρ, h0 => by
    obtain ⟨ρ1, e, h1⟩ := h 0 d rfl ρ h0
    obtain ⟨ρ2, e2, h2⟩ := forGo_inv ds (fun i => I (i + 1)) (fun i d' hd => h (i + 1) d' hd) ρ1 h1
    refine ⟨ρ2, ?_, h2⟩
    unfold forGo
    rcases e with e | e <;> rw [e] <;> exact e2
/-- with a first return -/
theorem forGo_ret {f : D → List Slot → PSt → Option Out} {p : PSt} {r : D} : ∀ (ds : List D) (I : Nat → List Slot → Prop) (b : Nat → Bool), (∀ i d, ds[i]? = some d → ∀ ρ, I i ρ → (b i = true → ∃ ρ', f d ρ p = some (.nx ρ' p) ∧ I (i + 1) ρ') ∧ (b i = false → f d ρ p = some (.rt r p))) → ∀ ρ, I 0 ρ →
    ((∀ i, i < ds.length → b i = true) ∧ ∃ ρ', forGo f ds ρ p = some (.nx ρ' p) ∧ I ds.length ρ') ∨ ((∃ i, i < ds.length ∧ b i = false) ∧ forGo f ds ρ p = some (.rt r p))
  | [], I, b, _, ρ, h0 => .inl ⟨fun _ h => absurd h (Nat.not_lt_zero _), ρ, rfl, h0⟩
  | d :: ds, I, b, h, ρ, h0 => by
    have h' := h 0 d rfl ρ h0
    cases hb : b 0 with
    | false =>
      refine .inr ⟨⟨0, Nat.zero_lt_succ _, hb⟩, ?_⟩
      unfold forGo
      rw [h'.2 hb]
      rfl
    | true =>
      obtain ⟨ρ1, e, h1⟩ := h'.1 hb
      have e' : forGo f (d :: ds) ρ p = forGo f ds ρ1 p := by
        conv => lhs; unfold forGo
        rw [e]
        rfl
      rw [e']
      rcases forGo_ret ds (fun i => I (i + 1)) (fun i => b (i + 1)) (fun i d' hd => h (i + 1) d' hd) ρ1 h1 with ⟨g1, g2⟩ | ⟨⟨i, g1, g2⟩, g3⟩
      · refine .inl ⟨fun i hi => ?_, g2⟩
        cases i with
        | zero => exact hb
        | succ i => exact g1 i (Nat.lt_of_succ_lt_succ hi)
      · exact .inr ⟨⟨i + 1, Nat.succ_lt_succ g1, g2⟩, g3⟩
theorem lcGo_map {f : D → PSt → Option (List D × PSt)} {g : D → List D} : ∀ (ds : List D), (∀ d ∈ ds, f d none = some (g d, none)) → lcGo f ds none = some ((ds.map g).flatten, none)
  | [], _ => rfl
  | d :: ds, h => by
    unfold lcGo
    rw [h d List.mem_cons_self, Option.bind_some, lcGo_map ds fun e he => h e (List.mem_cons_of_mem _ he)]
    rfl
theorem run_lc_map {T : Tab} {elt : C} {tg : Tg} {it : C} {own : List (Str × Nat)} {ρ : List Slot} {ds : List D} {g : D → D} (hit : lOf (run T it ρ none) = some (ds, none)) (hl : ds.length < 100000)
    (h : ∀ d ∈ ds, ∃ ρ2, tg.asg d (wipeS ρ (own.map (·.2))) = some ρ2 ∧ dOf (run T elt ρ2 none) = some (g d, none)) : run T (.lc elt tg it own) ρ none = some (.own (ds.map g), none) := by
  unfold run
  rw [hit]
  simp only [Option.bind_some]
  rw [lcGo_map (g := fun d => [g d]) ds fun d hd => by
    obtain ⟨ρ2, e1, e2⟩ := h d hd
    simp [e1, e2]]
  have e : ((ds.map fun d => [g d]).flatten) = ds.map g := by
    clear hl h hit
    induction ds with
    | nil => rfl
    | cons d ds ih => simp [ih]
  simp only [Option.bind_some]
  rw [e, if_pos (by rw [List.length_map]; exact hl)]
theorem run_lcIf {T : Tab} {elt cond : C} {tg : Tg} {it : C} {own : List (Str × Nat)} {ρ : List Slot} {ds : List D} {g : D → D} {b : D → Bool} (hit : lOf (run T it ρ none) = some (ds, none)) (hl : ds.length < 100000)
    (h : ∀ d ∈ ds, ∃ ρ2, tg.asg d (wipeS ρ (own.map (·.2))) = some ρ2 ∧ bOf (run T cond ρ2 none) = some (b d, none) ∧ dOf (run T elt ρ2 none) = some (g d, none)) : run T (.lcIf elt cond tg it own) ρ none = some (.own ((ds.filter b).map g), none) := by
  unfold run
  rw [hit]
  simp only [Option.bind_some]
  rw [lcGo_map (g := fun d => if b d then [g d] else []) ds fun d hd => by
    obtain ⟨ρ2, e1, e2, e3⟩ := h d hd
    cases hb : b d <;> simp [e1, e2, e3, hb]]
  have e : ((ds.map fun d => if b d then [g d] else []).flatten) = (ds.filter b).map g := by
    clear hl h hit
    induction ds with
    | nil => rfl
    | cons d ds ih =>
      cases hb : b d <;> simp [ih, hb]
  simp only [Option.bind_some]
  rw [e, if_pos (by rw [List.length_map]; exact Nat.lt_of_le_of_lt (List.length_filter_le _ _) hl)]
/-! ### sorting -/
theorem intsOf_map : ∀ a : List Int, intsOf (a.map .int) = some a
  | [] => rfl
  | x :: a => by simp [intsOf, intsOf_map a]
theorem tupsOf_map : ∀ l : List (List Int), tupsOf (l.map encT) = some l
  | [] => rfl
  | x :: l => by simp [tupsOf, encT, intsOf_map, tupsOf_map l]
end Fs
-- FsK2
/-! Tables that the kernel runs: grounds, weights, rows. -/
namespace Fs
open PySem PySem.Spec PyProof.Rows L2
def uptoN (p : Nat) : List Int := (List.range p).map fun i => ((i : Nat) : Int)
def rowsK {α : Type} (xs : List α) : Nat → List (List α)
  | 0 => [[]]
  | n + 1 => (rowsK xs n).flatMap fun r => xs.map fun x => r ++ [x]
def Xs (p k : Nat) : List (List Int) := rowsK (uptoN p) k
def dotI : List Int → List Int → Int
  | a :: x, b :: y => a * b + dotI x y
  | _, _ => 0
def wpt (p k : Nat) (pt : Int) : List (List Int) := if k = 1 then [[1]] else if pt = (p : Nat) then [[0, 1], [1, 0]] else [[1, pt], [0, 1]]
def wss (g : Gd) : List (List (List Int)) := g.2.2.map (wpt g.1 g.2.1)
def tbl (ws : List (List (List Int))) : D := .list (ws.map fun w => .list (w.map encT))
def valI (p : Nat) (ws : List (List Int)) (x : List Int) (j : Nat) : Int := match ws[j]? with
  | some w => dotI w x % (p : Nat)
  | none => 0
def ptsL (p : Nat) : List (List Int) := ((uptoN (p + 1)).map fun a => [a]) ++ ((uptoN (p + 1)).flatMap fun a => ((uptoN (p + 1)).filter fun b => !decide (a = b)).map fun b => [a, b])
def PK : List (Nat × Nat) := [(2, 1), (3, 1), (2, 2)]
def GL : List Gd := PK.flatMap fun z => (ptsL z.1).map fun l => (z.1, z.2, l)
theorem tab_ground : (GL.all fun g => isD (R_made_ground [encG g]) (encG g) && isD (R_shelves [encG g]) (.int (g.2.2.length : Nat)) && isD (R_weights_table [encG g]) (tbl (wss g))) = true := by decide +kernel
theorem tab_written : (PK.all fun z => (uptoN (z.1 + 1)).all fun pt => (Xs z.1 z.2).all fun x => isD (R_written_out [.int (z.1 : Nat), encT x, .int pt]) (.list ((List.range z.2).map fun j => .int (valI z.1 (wpt z.1 z.2 pt) x j)))) = true := by decide +kernel
def encX (c : List (List Int)) : D := .tuple (c.map encT)
theorem tab_rows1 : (PK.all fun z => isD (R_all_rows [.list ((uptoN z.1).map .int), .int (z.2 : Nat)]) (.list ((Xs z.1 z.2).map encT)) && isD (R_all_rows [.list ((Xs z.1 z.2).map encT), .int 2]) (.list ((rowsK (Xs z.1 z.2) 2).map encX))) = true := by decide +kernel
theorem tab_rows2 : ((List.range 4).all fun n => isD (R_all_rows [.list ([0, 1].map .int), .int (n : Nat)]) (.list ((rowsK [0, 1] n).map encT))) = true := by decide +kernel
/-! ### orders of unlike things -/
def ndl {α : Type} [DecidableEq α] : Nat → List α → List (List α)
  | 0, _ => [[]]
  | n + 1, xs => [] :: xs.flatMap fun x => (ndl n (xs.erase x)).map (x :: ·)
theorem ndl_mem {α : Type} [DecidableEq α] : ∀ (n : Nat) (xs f : List α), xs.length ≤ n → f.Nodup → (∀ x ∈ f, x ∈ xs) → f ∈ ndl n xs
  | 0, xs, f, hl, _, hs => by
    have : xs = [] := List.length_eq_zero_iff.mp (Nat.le_zero.mp hl)
    subst this
    cases f with
    | nil => simp [ndl]
    | cons y r => exact absurd (hs y List.mem_cons_self) (by simp)
  | n + 1, xs, [], _, _, _ => by simp [ndl]
  | n + 1, xs, y :: r, hl, hn, hs => by
    have hy := hs y List.mem_cons_self
    obtain ⟨h1, h2⟩ := List.nodup_cons.mp hn
    have := ndl_mem n (xs.erase y) r (by rw [List.length_erase_of_mem hy]; omega) h2 fun x hx => (List.mem_erase_of_ne (fun e => h1 (by rw [← e]; exact hx))).mpr (hs x (List.mem_cons_of_mem _ hx))
    unfold ndl
    exact List.mem_cons_of_mem _ (List.mem_flatMap.mpr ⟨y, hy, List.mem_map.mpr ⟨r, this, rfl⟩⟩)
theorem tab_sort : (PK.all fun z => (ndl 4 (Xs z.1 z.2)).all fun f => decide (sortC f = (Xs z.1 z.2).filter fun x => decide (x ∈ f)) && decide (f.length < 64 ∧ 1 ≤ lenT f ∧ f.all (fun t => decide (t.length = lenT f) && bdT t) = true)) = true := by decide +kernel
theorem XsLen : (PK.all fun z => decide ((Xs z.1 z.2).length ≤ 4)) = true := by decide +kernel
end Fs
-- FsK4
/-! The law's own worlds: cells, leaving. -/
namespace Fs
open PySem PySem.Spec PyProof.Rows L2
theorem cmpD_ne_C (a b : Cell) : cmpD .ne (encC a) (encC b) = some (!decide (a = b)) := by
  show (if SeqAt.shaped (encC a) = true ∧ SeqAt.shaped (encC b) = true then some (!PyData.eqv (encC a) (encC b)) else none) = _
  rw [if_pos ⟨shaped_C a, shaped_C b⟩, eqv_C]
theorem cmpD_ne_T (a b : List Int) : cmpD .ne (encT a) (encT b) = some (!decide (a = b)) := by
  show (if SeqAt.shaped (encT a) = true ∧ SeqAt.shaped (encT b) = true then some (!PyData.eqv (encT a) (encT b)) else none) = _
  rw [if_pos ⟨shaped_T a, shaped_T b⟩, eqv_T]
theorem cmpD_eq_T (a b : List Int) : cmpD .eq (encT a) (encT b) = some (decide (a = b)) := by
  show (if SeqAt.shaped (encT a) = true ∧ SeqAt.shaped (encT b) = true then some (PyData.eqv (encT a) (encT b)) else none) = _
  rw [if_pos ⟨shaped_T a, shaped_T b⟩, eqv_T]
/-! ### leaving -/
def cpl : List Cell → List Cell → Nat
  | a :: x, b :: y => if a = b then cpl x y + 1 else 0
  | _, _ => 0
def lvB (w : Option Int) (cells lying : List Cell) : Bool := match w with
  | none => true
  | some w => decide ((lying.length : Int) - (cpl cells lying : Nat) ≤ w)
theorem leaves_loop (x0 x1 x2 : Slot) : ∀ (cells lying : List Cell) (n : Int) (s4 s5 : Slot), ∃ s4' s5', forGo (fun d ρ1 q => ((Tg.tup (.cons (.n 4) (.cons (.n 5) .nil))).asg d ρ1).bind fun ρ2 => runS t_leaves (.ite (.cmp .ne (.v 4) (.v 5)) .brk .nil (.asg 3 (.bin .add (.v 3) (.k (.int 1))) .nil)) ρ2 q) (zipD (cells.map encC) (lying.map encC)) [x0, x1, x2, .val (.int n), s4, s5] none = some (.nx [x0, x1, x2, .val (.int (n + (cpl cells lying : Nat))), s4', s5'] none)
  | [], lying, n, s4, s5 => ⟨s4, s5, by simp [zipD, forGo, cpl]⟩
  | a :: x, [], n, s4, s5 => ⟨s4, s5, by simp [zipD, forGo, cpl]⟩
  | a :: x, b :: y, n, s4, s5 => by
    by_cases h : a = b
    · obtain ⟨s4', s5', e⟩ := leaves_loop x0 x1 x2 x y (n + 1) (.val (encC a)) (.val (encC b))
      refine ⟨s4', s5', ?_⟩
      have e1 : n + (cpl (a :: x) (b :: y) : Nat) = n + 1 + (cpl x y : Nat) := by
        rw [show cpl (a :: x) (b :: y) = cpl x y + 1 by simp [cpl, h]]
        push_cast
        omega
      rw [e1, ← e]
      rw [List.map_cons, List.map_cons, zipD, forGo]
      simp [Tg.asg, runS, run, dOf, bOf, toD, cmpD_ne_C, h, Out.then, binD]
    · refine ⟨.val (encC a), .val (encC b), ?_⟩
      rw [show cpl (a :: x) (b :: y) = 0 by simp [cpl, h]]
      rw [List.map_cons, List.map_cons, zipD, forGo]
      simp [Tg.asg, runS, run, dOf, bOf, toD, cmpD_ne_C, h, Out.then, binD]
theorem leaves_eq (f : Fa) (cells lying : List Cell) : R_leaves [encFa f, encCs cells, encCs lying] = some (.bool (lvB f.2 cells lying)) := by
  have hR : R_leaves [encFa f, encCs cells, encCs lying] = outD (runS t_leaves c_leaves [.val (encFa f), .val (encCs cells), .val (encCs lying), .non, .non, .non] none) := rfl
  rw [hR]
  have hl := leaves_loop (.val (encFa f)) (.val (encCs cells)) (.val (encCs lying))
  unfold c_leaves
  obtain ⟨s4, s5, e⟩ := hl cells lying 0 .non .non
  generalize (S.ite (.cmp .ne (.v 4) (.v 5)) .brk .nil (.asg 3 (.bin .add (.v 3) (.k (.int 1))) .nil)) = B at e ⊢
  obtain ⟨u, w⟩ := f
  have hf : encFa (u, w) = .tuple [oI u, oI w] := rfl
  have hc : ∀ l, encCs l = .tuple (l.map encC) := fun _ => rfl
  rw [hf, hc, hc] at e ⊢
  generalize (Tg.tup _) = TG at e ⊢
  generalize oI u = U at e ⊢
  cases w with
  | none =>
    rw [show oI none = .none from rfl] at e ⊢
    simp [runS, run, dOf, bOf, iOf, lOf, sOf, toD, e, Out.then, outD, ix1, isNone, lvB]
  | some w =>
    rw [show oI (some w) = .int w from rfl] at e ⊢
    simp [runS, run, dOf, bOf, iOf, lOf, sOf, toD, e, Out.then, outD, ix1, isNone, lvB, cmpD, binD, fnD]
end Fs
-- FsK5
/-! The law's own worlds: what is woven. -/
namespace Fs
open PySem PySem.Spec PyProof.Rows L2
def wovS (p : Nat) (w : List (List Int)) (x0 x1 : List Int) : Nat → Nat → List Int → List Cell
  | _, _, [] => []
  | a, b, n :: t => if n = 0 then (n, valI p w x0 a) :: wovS p w x0 x1 (a + 1) b t else (n, valI p w x1 b) :: wovS p w x0 x1 a (b + 1) t
theorem wov_len (p : Nat) (w : List (List Int)) (x0 x1 : List Int) : ∀ (t : List Int) (a b : Nat), (wovS p w x0 x1 a b t).length = t.length
  | [], _, _ => rfl
  | n :: t, a, b => by
    unfold wovS
    by_cases h : n = 0
    · rw [if_pos h, List.length_cons, wov_len p w x0 x1 t, List.length_cons]
    · rw [if_neg h, List.length_cons, wov_len p w x0 x1 t, List.length_cons]
def cntI (t : List Int) (i : Nat) (n : Int) : Nat := (t.take i).countP fun m => decide (m = n)
theorem wov_at (p : Nat) (w : List (List Int)) (x0 x1 : List Int) : ∀ (t : List Int) (a b i : Nat) (n : Int), (∀ m ∈ t, m = 0 ∨ m = 1) → t[i]? = some n → (wovS p w x0 x1 a b t)[i]? = some (n, if n = 0 then valI p w x0 (a + cntI t i n) else valI p w x1 (b + cntI t i n))
  | [], _, _, _, _, _, h => by cases h
  | m :: t, a, b, 0, n, hm, h => by
    simp only [List.getElem?_cons_zero, Option.some.injEq] at h
    subst h
    unfold wovS
    by_cases h : m = 0 <;> simp [h, cntI]
  | m :: t, a, b, i + 1, n, hm, h => by
    simp only [List.getElem?_cons_succ] at h
    have ht : ∀ m ∈ t, m = 0 ∨ m = 1 := fun z hz => hm z (List.mem_cons_of_mem _ hz)
    have hn : n = 0 ∨ n = 1 := ht n (List.mem_of_getElem? h)
    have hm0 := hm m List.mem_cons_self
    unfold wovS
    rcases hm0 with rfl | rfl
    · rw [if_pos rfl, List.getElem?_cons_succ, wov_at p w x0 x1 t (a + 1) b i n ht h]
      rcases hn with rfl | rfl
      · have e : cntI (0 :: t) (i + 1) 0 = cntI t i 0 + 1 := by simp [cntI]
        rw [e, show a + 1 + cntI t i 0 = a + (cntI t i 0 + 1) by omega, if_pos rfl, if_pos rfl]
      · have e : cntI (0 :: t) (i + 1) 1 = cntI t i 1 := by simp [cntI]
        rw [e]
        rfl
    · rw [if_neg (by decide), List.getElem?_cons_succ, wov_at p w x0 x1 t a (b + 1) i n ht h]
      rcases hn with rfl | rfl
      · have e : cntI (1 :: t) (i + 1) 0 = cntI t i 0 := by simp [cntI]
        rw [e]
        rfl
      · have e : cntI (1 :: t) (i + 1) 1 = cntI t i 1 + 1 := by simp [cntI]
        rw [e, show b + 1 + cntI t i 1 = b + (cntI t i 1 + 1) by omega, if_neg (show ¬ (1 : Int) = 0 by decide), if_neg (show ¬ (1 : Int) = 0 by decide)]
def wovA (p k : Nat) (x0 x1 : List Int) : List Int → List (List Int) → List (List Cell)
  | pt :: pts, t :: W => wovS p (wpt p k pt) x0 x1 0 0 t :: wovA p k x0 x1 pts W
  | _, _ => []
theorem wovA_at (p k : Nat) (x0 x1 : List Int) : ∀ (pts : List Int) (W : List (List Int)) (i : Nat) (pt : Int) (t : List Int), pts[i]? = some pt → W[i]? = some t → (wovA p k x0 x1 pts W)[i]? = some (wovS p (wpt p k pt) x0 x1 0 0 t)
  | [], _, _, _, _, h, _ => by cases h
  | _ :: _, [], _, _, _, _, h => by cases h
  | a :: pts, b :: W, 0, pt, t, h1, h2 => by
    simp only [List.getElem?_cons_zero, Option.some.injEq] at h1 h2
    subst h1 h2
    rfl
  | a :: pts, b :: W, i + 1, pt, t, h1, h2 => by
    simp only [List.getElem?_cons_succ] at h1 h2
    unfold wovA
    rw [List.getElem?_cons_succ]
    exact wovA_at p k x0 x1 pts W i pt t h1 h2
theorem wovA_len (p k : Nat) (x0 x1 : List Int) : ∀ (pts : List Int) (W : List (List Int)), W.length ≤ pts.length → (wovA p k x0 x1 pts W).length = W.length
  | [], [], _ => rfl
  | [], _ :: _, h => by simp at h
  | _ :: _, [], _ => rfl
  | a :: pts, b :: W, h => by
    unfold wovA
    rw [List.length_cons, wovA_len p k x0 x1 pts W (by simpa using h), List.length_cons]
def rowD (p k : Nat) (w : List (List Int)) (x : List Int) : D := .list ((List.range k).map fun j => .int (valI p w x j))
theorem valI_ge {p : Nat} {w : List (List Int)} {x : List Int} {j : Nat} (h : w.length ≤ j) : valI p w x j = 0 := by
  unfold valI
  rw [List.getElem?_eq_none h]
theorem wpt_len (p k : Nat) (pt : Int) (hk : k = 1 ∨ k = 2) : (wpt p k pt).length = k := by
  unfold wpt
  rcases hk with rfl | rfl
  · rfl
  · by_cases h : pt = (p : Nat) <;> simp [h]
def wB : S := (.asg 10 (.cnt (.v 5) (.v 8) (.v 9)) (.frz 6 (.app 7 (.tup (.cons (.v 9) (.cons (.ite (.cmp .lt (.v 10) (.fn .len (.cons (.ix (.v 6) (.v 9)) .nil))) (.ix (.ix (.v 6) (.v 9)) (.v 10)) (.k (.int 0))) .nil))) .nil)))
def wO : S := (.asg 6 (.lc (.call 0 (.cons (.ix (.v 0) (.k (.int 0))) (.cons (.v 11) (.cons (.ix (.ix (.v 0) (.k (.int 2))) (.v 4)) .nil)))) (.n 11) (.seq (.v 1)) [("_law_batch_here", 11)]) (.asg 7 (.lst .nil) (.for (.tup (.cons (.n 8) (.cons (.n 9) .nil))) (.enum (.v 5)) wB (.frz 7 (.app 3 (.fn .tup (.cons (.v 7) .nil)) .nil)))))
theorem c_woven_eq : c_woven = (.asg 3 (.lst .nil) (.for (.tup (.cons (.n 4) (.cons (.n 5) .nil))) (.enum (.v 2)) wO (.frz 3 (.ret (.fn .tup (.cons (.v 3) .nil)))))) := rfl
theorem tOf_T (t : List Int) (p : PSt) : tOf (some (.val (encT t), p)) = some (t.map .int, p) := rfl
theorem woven_step {p k : Nat} {w : List (List Int)} {x0 x1 : List Int} {v0 v1 v2 s3 s4 s6 s10 s11 : Slot} {t : List Int} {i : Nat} {n : Int} {acc : List D} (hk : w.length = k) (ht : t[i]? = some n) (hn : n = 0 ∨ n = 1) (h6 : s6 = .own [rowD p k w x0, rowD p k w x1] ∨ s6 = .val (.list [rowD p k w x0, rowD p k w x1])) (hacc : acc.length < 100000) :
    runS t_woven wB [v0, v1, v2, s3, s4, .val (encT t), s6, .own acc, .val (.int i), .val (.int n), s10, s11] none = some (.nx [v0, v1, v2, s3, s4, .val (encT t), .val (.list [rowD p k w x0, rowD p k w x1]), .own (acc ++ [encC (n, if n = 0 then valI p w x0 (cntI t i n) else valI p w x1 (cntI t i n))]), .val (.int i), .val (.int n), .val (.int (cntI t i n : Nat)), s11] none) := by
  have hlt : i < t.length := (List.getElem?_eq_some_iff.mp ht).1
  have hmin : min i t.length = i := Nat.min_eq_left (Nat.le_of_lt hlt)
  have hne : ¬ i = t.length := Nat.ne_of_lt hlt
  have row_at : ∀ x, cntI t i n < k → atI ((List.range k).map fun j => PyData.int (valI p w x j)) ((cntI t i n : Nat) : Int) = some (.int (valI p w x (cntI t i n))) := fun x h => at_n (by simp [h])
  have hcnt : run t_woven (.cnt (.v 5) (.v 8) (.v 9)) [v0, v1, v2, s3, s4, .val (encT t), s6, .own acc, .val (.int i), .val (.int n), s10, s11] none = some (.val (.int (cntI t i n : Nat)), none) := by
    simp [run, tOf_T, iOf, intsOf_map, HT.sIx_nat, hmin, hne, cntI]
  unfold wB
  generalize C.cnt (.v 5) (.v 8) (.v 9) = CC at hcnt ⊢
  simp only [rowD] at hcnt h6 ⊢
  by_cases hc : cntI t i n < k
  · rcases hn with rfl | rfl <;> rcases h6 with rfl | rfl <;> simp [runS, hcnt, freeze1, run, lOf, dOf, bOf, iOf, sOf, toD, ix0, ix1, rowD, fnD, cmpD, hc, row_at, hacc, encC]
  · have hz : ∀ x, valI p w x (cntI t i n) = 0 := fun x => valI_ge (by omega)
    rcases hn with rfl | rfl <;> rcases h6 with rfl | rfl <;> simp [runS, hcnt, freeze1, run, lOf, dOf, bOf, iOf, sOf, toD, ix0, ix1, rowD, fnD, cmpD, hc, hz, hacc, encC]
theorem woven_inner {p k : Nat} {w : List (List Int)} {x0 x1 : List Int} {v0 v1 v2 s3 s4 s8 s9 s10 s11 : Slot} {t : List Int} (hk : w.length = k) (ht : ∀ m ∈ t, m = 0 ∨ m = 1) (hl : t.length < 1000) :
    ∃ s6 s8' s9' s10', forGo (fun d ρ1 q => ((Tg.tup (.cons (.n 8) (.cons (.n 9) .nil))).asg d ρ1).bind fun ρ2 => runS t_woven wB ρ2 q) (enumD 0 (t.map .int)) [v0, v1, v2, s3, s4, .val (encT t), .own [rowD p k w x0, rowD p k w x1], .own [], s8, s9, s10, s11] none =
      some (.nx [v0, v1, v2, s3, s4, .val (encT t), s6, .own ((wovS p w x0 x1 0 0 t).map encC), s8', s9', s10', s11] none) := by
  obtain ⟨ρ', e, s6, s8', s9', s10', _, rfl⟩ := forGo_inv (p := none) (f := fun d ρ1 q => ((Tg.tup (.cons (.n 8) (.cons (.n 9) .nil))).asg d ρ1).bind fun ρ2 => runS t_woven wB ρ2 q) (enumD 0 (t.map .int))
    (fun i ρ => ∃ s6 s8 s9 s10, (s6 = .own [rowD p k w x0, rowD p k w x1] ∨ s6 = .val (.list [rowD p k w x0, rowD p k w x1])) ∧ ρ = [v0, v1, v2, s3, s4, .val (encT t), s6, .own (((wovS p w x0 x1 0 0 t).take i).map encC), s8, s9, s10, s11])
    (fun i d hd ρ ⟨s6, s8, s9, s10, h6, e⟩ => by
      subst e
      obtain ⟨e, h1, rfl⟩ := enum_at hd
      rw [List.getElem?_map] at h1
      obtain ⟨n, h2, rfl⟩ := Option.map_eq_some_iff.mp h1
      have hn := ht n (List.mem_of_getElem? h2)
      have hi : i < t.length := (List.getElem?_eq_some_iff.mp h2).1
      refine ⟨_, .inl ?_, .val (.list [rowD p k w x0, rowD p k w x1]), .val (.int i), .val (.int n), .val (.int (cntI t i n : Nat)), .inr rfl, rfl⟩
      have hst := woven_step (p := p) (x0 := x0) (x1 := x1) (v0 := v0) (v1 := v1) (v2 := v2) (s3 := s3) (s4 := s4) (s10 := s10) (s11 := s11) (acc := ((wovS p w x0 x1 0 0 t).take i).map encC) hk h2 hn h6 (by rw [List.length_map, List.length_take]; omega)
      have hw := wov_at p w x0 x1 t 0 0 i n ht h2
      rw [Nat.zero_add] at hw
      have htk : (wovS p w x0 x1 0 0 t).take (i + 1) = (wovS p w x0 x1 0 0 t).take i ++ [(n, if n = 0 then valI p w x0 (cntI t i n) else valI p w x1 (cntI t i n))] := by
        rw [List.take_add_one, hw]
        rfl
      rw [htk, List.map_append]
      simp only [Tg.asg, List.length_cons, List.length_nil]
      simpa using hst)
    [v0, v1, v2, s3, s4, .val (encT t), .own [rowD p k w x0, rowD p k w x1], .own [], s8, s9, s10, s11] ⟨_, s8, s9, s10, .inl rfl, rfl⟩
  refine ⟨s6, s8', s9', s10', ?_⟩
  rw [e, enumD_len, List.length_map, List.take_of_length_le (by rw [wov_len]; exact Nat.le_refl _)]
theorem woven_outer {p k : Nat} {pts W' : List Int} {x0 x1 : List Int} {v2 s6 s7 s8 s9 s10 s11 : Slot} {t : List Int} {i : Nat} {pt : Int} {acc : List D} (hk : k = 1 ∨ k = 2) (hpt : pts[i]? = some pt) (ht : ∀ m ∈ t, m = 0 ∨ m = 1) (hl : t.length < 1000) (hacc : acc.length < 1000)
    (hw0 : R_written_out [.int (p : Nat), encT x0, .int pt] = some (rowD p k (wpt p k pt) x0)) (hw1 : R_written_out [.int (p : Nat), encT x1, .int pt] = some (rowD p k (wpt p k pt) x1)) :
    ∃ s6' s7' s8' s9' s10' s11', runS t_woven wO [.val (encG (p, k, pts)), .val (encX [x0, x1]), v2, .own acc, .val (.int i), .val (encT t), s6, s7, s8, s9, s10, s11] none =
      some (.nx [.val (encG (p, k, pts)), .val (encX [x0, x1]), v2, .own (acc ++ [encCs (wovS p (wpt p k pt) x0 x1 0 0 t)]), .val (.int i), .val (encT t), s6', s7', s8', s9', s10', s11'] none) := by
  have h1 : run t_woven (.lc (.call 0 (.cons (.ix (.v 0) (.k (.int 0))) (.cons (.v 11) (.cons (.ix (.ix (.v 0) (.k (.int 2))) (.v 4)) .nil)))) (.n 11) (.seq (.v 1)) [("_law_batch_here", 11)]) [.val (encG (p, k, pts)), .val (encX [x0, x1]), v2, .own acc, .val (.int i), .val (encT t), s6, s7, s8, s9, s10, s11] none = some (.own [rowD p k (wpt p k pt) x0, rowD p k (wpt p k pt) x1], none) := by
    have hat : atI (pts.map PyData.int) (i : Int) = some (.int pt) := at_map hpt
    have ht0 : t_woven.tb[0]? = some (("_law_written_out" : Str), R_written_out) := rfl
    have hG : encG (p, k, pts) = .tuple [.int (p : Nat), .int (k : Nat), .tuple (pts.map .int)] := rfl
    rw [run_lc_map (T := t_woven) (ds := [encT x0, encT x1]) (g := fun d => ((R_written_out [.int (p : Nat), d, .int pt]).getD .none)) rfl (by simp) fun d hd => ⟨_, rfl, by
      have : d = encT x0 ∨ d = encT x1 := by simpa using hd
      rw [hG]
      rcases this with rfl | rfl
      · simp [run, lOf, dOf, iOf, sOf, toD, wipeS, ix0, ix2, hat, ht0, hw0]
      · simp [run, lOf, dOf, iOf, sOf, toD, wipeS, ix0, ix2, hat, ht0, hw1]⟩]
    simp [hw0, hw1]
  obtain ⟨s6', s8', s9', s10', h2⟩ := woven_inner (p := p) (k := k) (w := wpt p k pt) (x0 := x0) (x1 := x1) (v0 := .val (encG (p, k, pts))) (v1 := .val (encX [x0, x1])) (v2 := v2) (s3 := .own acc) (s4 := .val (.int i)) (s8 := s8) (s9 := s9) (s10 := s10) (s11 := s11) (t := t) (wpt_len p k pt hk) ht hl
  refine ⟨s6', .val (.list ((wovS p (wpt p k pt) x0 x1 0 0 t).map encC)), s8', s9', s10', s11, ?_⟩
  unfold wO
  generalize C.lc _ (.n 11) (.seq (.v 1)) [("_law_batch_here", 11)] = LC at h1 ⊢
  generalize wB = B at h2 ⊢
  generalize (Tg.tup _) = TG at h2 ⊢
  have hT : encT t = .tuple (t.map .int) := rfl
  have hCs : encCs (wovS p (wpt p k pt) x0 x1 0 0 t) = .tuple ((wovS p (wpt p k pt) x0 x1 0 0 t).map encC) := rfl
  rw [hCs]
  rw [hT] at h1 h2 ⊢
  simp [runS, h1, run, lOf, tOf, dOf, toD, h2, Out.then, freeze1, fnD, hacc, show acc.length < 100000 by omega]
theorem woven_eq {p k : Nat} {pts : List Int} {W : List (List Int)} {x0 x1 : List Int} (hk : k = 1 ∨ k = 2) (hW : W.length ≤ pts.length) (hW2 : W.length < 1000) (ht : ∀ t ∈ W, t.length < 1000 ∧ ∀ m ∈ t, m = 0 ∨ m = 1)
    (hw0 : ∀ pt ∈ pts, R_written_out [.int (p : Nat), encT x0, .int pt] = some (rowD p k (wpt p k pt) x0)) (hw1 : ∀ pt ∈ pts, R_written_out [.int (p : Nat), encT x1, .int pt] = some (rowD p k (wpt p k pt) x1)) :
    R_woven [encG (p, k, pts), encX [x0, x1], encW W] = some (encRd (wovA p k x0 x1 pts W)) := by
  have hR : R_woven [encG (p, k, pts), encX [x0, x1], encW W] = outD (runS t_woven c_woven [.val (encG (p, k, pts)), .val (encX [x0, x1]), .val (encW W), .non, .non, .non, .non, .non, .non, .non, .non, .non] none) := rfl
  rw [hR, c_woven_eq]
  obtain ⟨ρ', e, s4, s5, s6, s7, s8, s9, s10, s11, rfl⟩ := forGo_inv (p := none) (f := fun d ρ1 q => ((Tg.tup (.cons (.n 4) (.cons (.n 5) .nil))).asg d ρ1).bind fun ρ2 => runS t_woven wO ρ2 q) (enumD 0 (W.map encT))
    (fun i ρ => ∃ s4 s5 s6 s7 s8 s9 s10 s11, ρ = [.val (encG (p, k, pts)), .val (encX [x0, x1]), .val (encW W), .own (((wovA p k x0 x1 pts W).take i).map encCs), s4, s5, s6, s7, s8, s9, s10, s11])
    (fun i d hd ρ ⟨s4, s5, s6, s7, s8, s9, s10, s11, e⟩ => by
      subst e
      obtain ⟨e, h1, rfl⟩ := enum_at hd
      rw [List.getElem?_map] at h1
      obtain ⟨t, h2, rfl⟩ := Option.map_eq_some_iff.mp h1
      have hi : i < W.length := (List.getElem?_eq_some_iff.mp h2).1
      have hmem := ht t (List.mem_of_getElem? h2)
      have hpt : pts[i]? = some (pts[i]'(by omega)) := List.getElem?_eq_getElem (by omega)
      have hpm := List.mem_of_getElem? hpt
      have hw := wovA_at p k x0 x1 pts W i _ t hpt h2
      obtain ⟨s6', s7', s8', s9', s10', s11', ho⟩ := woven_outer (p := p) (k := k) (pts := pts) (x0 := x0) (x1 := x1) (v2 := .val (encW W)) (s6 := s6) (s7 := s7) (s8 := s8) (s9 := s9) (s10 := s10) (s11 := s11) (t := t) (i := i) (acc := ((wovA p k x0 x1 pts W).take i).map encCs) (W' := []) hk hpt hmem.2 hmem.1
        (by rw [List.length_map, List.length_take]; omega) (hw0 _ hpm) (hw1 _ hpm)
      have htk : (wovA p k x0 x1 pts W).take (i + 1) = (wovA p k x0 x1 pts W).take i ++ [wovS p (wpt p k (pts[i]'(by omega))) x0 x1 0 0 t] := by
        rw [List.take_add_one, hw]
        rfl
      refine ⟨_, .inl ?_, .val (.int i), .val (encT t), s6', s7', s8', s9', s10', s11', rfl⟩
      rw [htk, List.map_append]
      simp only [Tg.asg, List.length_cons, List.length_nil]
      simpa using ho)
    [.val (encG (p, k, pts)), .val (encX [x0, x1]), .val (encW W), .own [], .non, .non, .non, .non, .non, .non, .non, .non] ⟨.non, .non, .non, .non, .non, .non, .non, .non, rfl⟩
  rw [enumD_len, List.length_map, List.take_of_length_le (by rw [wovA_len p k x0 x1 pts W hW]; exact Nat.le_refl _)] at e
  generalize wO = B at e ⊢
  generalize (Tg.tup _) = TG at e ⊢
  have hE : encW W = .tuple (W.map encT) := rfl
  rw [hE] at e ⊢
  simp [runS, run, lOf, tOf, dOf, toD, e, Out.then, freeze1, fnD, outD, encRd]
end Fs
-- FsK6
/-! The law's own worlds: is_world, tapes_for. -/
namespace Fs
open PySem PySem.Spec PyProof.Rows L2
def lvAt (r : Rw) (Cs L : List (List Cell)) (i : Nat) : Bool := match r[i]?, Cs[i]?, L[i]? with
  | some f, some c, some l => lvB f.2 c l
  | _, _, _ => true
theorem is_world_eq {G : D} {r : Rw} {X W : D} {Cs L : List (List Cell)} (hw : R_woven [G, X, W] = some (encRd Cs)) (hr : Cs.length ≤ r.length) (hL : Cs.length ≤ L.length) :
    ∃ b, R_is_world [G, encRow r, X, W, encRd L] = some (.bool b) ∧ (b = true ↔ ∀ i, i < Cs.length → lvAt r Cs L i = true) := by
  have hR : R_is_world [G, encRow r, X, W, encRd L] = outD (runS t_is_world c_is_world [.val G, .val (encRow r), .val X, .val W, .val (encRd L), .non, .non] none) := rfl
  rw [hR]
  have ht0 : t_is_world.tb[0]? = some (("_law_woven" : Str), R_woven) := rfl
  have ht1 : t_is_world.tb[1]? = some (("_law_leaves" : Str), R_leaves) := rfl
  have hrow : encRow r = .tuple (r.map encFa) := rfl
  have hrd : encRd L = .tuple (L.map encCs) := rfl
  have key := forGo_ret (p := none) (r := .bool false) (f := fun d ρ1 q => ((Tg.tup (.cons (.n 5) (.cons (.n 6) .nil))).asg d ρ1).bind fun ρ2 => runS t_is_world (.ite (.not (.call 1 (.cons (.ix (.v 1) (.v 5)) (.cons (.v 6) (.cons (.ix (.v 4) (.v 5)) .nil))))) (.ret (.k (.bool false))) .nil .nil) ρ2 q) (enumD 0 (Cs.map encCs))
    (fun i ρ => ∃ s5 s6, ρ = [.val G, .val (encRow r), .val X, .val W, .val (encRd L), s5, s6]) (fun i => lvAt r Cs L i)
    (fun i d hd ρ ⟨s5, s6, e⟩ => by
      subst e
      obtain ⟨e, h1, rfl⟩ := enum_at hd
      rw [List.getElem?_map] at h1
      obtain ⟨c, h2, rfl⟩ := Option.map_eq_some_iff.mp h1
      have hi : i < Cs.length := (List.getElem?_eq_some_iff.mp h2).1
      have h3 : r[i]? = some (r[i]'(by omega)) := List.getElem?_eq_getElem (by omega)
      have h4 : L[i]? = some (L[i]'(by omega)) := List.getElem?_eq_getElem (by omega)
      have hv : lvAt r Cs L i = lvB (r[i]'(by omega)).2 c (L[i]'(by omega)) := by simp [lvAt, h2, h3, h4]
      have a3 : atI (r.map encFa) (i : Int) = some (encFa (r[i]'(by omega))) := at_map h3
      have a4 : atI (L.map encCs) (i : Int) = some (encCs (L[i]'(by omega))) := at_map h4
      have hlv := leaves_eq (r[i]'(by omega)) c (L[i]'(by omega))
      rw [hv]
      generalize r[i]'(by omega) = f at *
      generalize L[i]'(by omega) = l at *
      rw [hrow, hrd]
      refine ⟨fun hb => ⟨_, ?_, .val (.int i), .val (encCs c), rfl⟩, fun hb => ?_⟩
      · rw [hb] at hlv
        simp [Tg.asg, runS, run, dOf, bOf, lOf, sOf, iOf, toD, a3, a4, ht1, hlv, Out.then]
      · rw [hb] at hlv
        simp [Tg.asg, runS, run, dOf, bOf, lOf, sOf, iOf, toD, a3, a4, ht1, hlv, Out.then])
    [.val G, .val (encRow r), .val X, .val W, .val (encRd L), .non, .non] ⟨.non, .non, rfl⟩
  rw [enumD_len, List.length_map] at key
  have hCs : encRd Cs = .tuple (Cs.map encCs) := rfl
  rw [hCs] at hw
  unfold c_is_world
  generalize (Tg.tup _) = TG at key ⊢
  generalize (S.ite _ _ _ _) = B at key ⊢
  rcases key with ⟨k1, ρ', k2, s5, s6, rfl⟩ | ⟨⟨i, k1, k2⟩, k3⟩
  · exact ⟨true, by simp [runS, run, lOf, tOf, dOf, toD, ht0, hw, k2, Out.then, outD], fun _ => k1, fun _ => rfl⟩
  · exact ⟨false, by simp [runS, run, lOf, tOf, dOf, toD, ht0, hw, k3, Out.then, outD], fun h => (by cases h), fun h => by rw [h i k1] at k2; cases k2⟩
/-! ### tapes_for -/
theorem lcGo_enc {α : Type} {e : α → D} {f : D → PSt → Option (List D × PSt)} {g : α → List D} : ∀ (as : List α), (∀ a ∈ as, f (e a) none = some (g a, none)) → lcGo f (as.map e) none = some ((as.map g).flatten, none)
  | [], _ => rfl
  | a :: as, h => by
    rw [List.map_cons]
    unfold lcGo
    rw [h a List.mem_cons_self, Option.bind_some, lcGo_enc as fun b hb => h b (List.mem_cons_of_mem _ hb)]
    rfl
theorem run_lcIf_enc {α : Type} {e e' : α → D} {T : Tab} {elt cond : C} {tg : Tg} {it : C} {own : List (Str × Nat)} {ρ : List Slot} {as : List α} {b : α → Bool} (hit : lOf (run T it ρ none) = some (as.map e, none)) (hl : as.length < 100000)
    (h : ∀ a ∈ as, ∃ ρ2, tg.asg (e a) (wipeS ρ (own.map (·.2))) = some ρ2 ∧ bOf (run T cond ρ2 none) = some (b a, none) ∧ dOf (run T elt ρ2 none) = some (e' a, none)) : run T (.lcIf elt cond tg it own) ρ none = some (.own ((as.filter b).map e'), none) := by
  unfold run
  rw [hit]
  simp only [Option.bind_some]
  rw [lcGo_enc (g := fun a => if b a then [e' a] else []) as fun a ha => by
    obtain ⟨ρ2, e1, e2, e3⟩ := h a ha
    cases hb : b a <;> simp [e1, e2, e3, hb]]
  have e : ((as.map fun a => if b a then [e' a] else []).flatten) = (as.filter b).map e' := by
    clear hl h hit
    induction as with
    | nil => rfl
    | cons d ds ih =>
      cases hb : b d <;> simp [ih, hb]
  simp only [Option.bind_some]
  rw [e, if_pos (by rw [List.length_map]; exact Nat.lt_of_le_of_lt (List.length_filter_le _ _) hl)]
theorem run_lc_enc {α : Type} {e e' : α → D} {T : Tab} {elt : C} {tg : Tg} {it : C} {own : List (Str × Nat)} {ρ : List Slot} {as : List α} (hit : lOf (run T it ρ none) = some (as.map e, none)) (hl : as.length < 100000)
    (h : ∀ a ∈ as, ∃ ρ2, tg.asg (e a) (wipeS ρ (own.map (·.2))) = some ρ2 ∧ dOf (run T elt ρ2 none) = some (e' a, none)) : run T (.lc elt tg it own) ρ none = some (.own (as.map e'), none) := by
  unfold run
  rw [hit]
  simp only [Option.bind_some]
  rw [lcGo_enc (g := fun a => [e' a]) as fun a ha => by
    obtain ⟨ρ2, e1, e3⟩ := h a ha
    simp [e1, e3]]
  have e : ((as.map fun a => [e' a]).flatten) = as.map e' := by
    clear hl h hit
    induction as with
    | nil => rfl
    | cons d ds ih => simp [ih]
  simp only [Option.bind_some]
  rw [e, if_pos (by rw [List.length_map]; exact hl)]
theorem rowsK_mem {α : Type} {xs : List α} : ∀ (n : Nat) (t : List α), t ∈ rowsK xs n ↔ t.length = n ∧ ∀ m ∈ t, m ∈ xs
  | 0, t => by
    simp only [rowsK, List.mem_singleton]
    refine ⟨fun h => by subst h; exact ⟨rfl, fun _ h => by cases h⟩, fun h => List.length_eq_zero_iff.mp h.1⟩
  | n + 1, t => by
    simp only [rowsK, List.mem_flatMap, List.mem_map]
    constructor
    · rintro ⟨r, hr, x, hx, rfl⟩
      obtain ⟨h1, h2⟩ := (rowsK_mem n r).mp hr
      refine ⟨by simp [h1], fun m hm => ?_⟩
      rcases List.mem_append.mp hm with h | h
      · exact h2 m h
      · rw [List.mem_singleton.mp h]; exact hx
    · rintro ⟨h1, h2⟩
      have hne : t ≠ [] := fun e => by subst e; cases h1
      refine ⟨t.dropLast, (rowsK_mem n _).mpr ⟨by simp [h1], fun m hm => h2 m (List.dropLast_subset t hm)⟩, t.getLast hne, h2 _ (List.getLast_mem hne), List.dropLast_concat_getLast hne⟩
def gOk (g : Option Int) (d : Int) : Bool := match g with
  | none => true
  | some u => decide (d ≤ u)
def bin (t : List Int) : Prop := ∀ m ∈ t, m = 0 ∨ m = 1
theorem rows01 (n : Nat) (t : List Int) : t ∈ rowsK [0, 1] n ↔ t.length = n ∧ bin t := by
  rw [rowsK_mem]
  simp [bin]
theorem rows01_len (n : Nat) (h : n < 4) : (rowsK ([0, 1] : List Int) n).length ≤ 8 := by
  have : n = 0 ∨ n = 1 ∨ n = 2 ∨ n = 3 := by omega
  rcases this with rfl | rfl | rfl | rfl <;> decide
theorem all_rows2 {n : Nat} (h : n < 4) : R_all_rows [.list [.int 0, .int 1], .int (n : Nat)] = some (.list ((rowsK [0, 1] n).map encT)) := isD_eq (List.all_eq_true.mp tab_rows2 n (List.mem_range.mpr h))
def tfB : S := (.ite (.or (.isN false (.v 8)) (.cmp .le (.bin .sub (.v 9) (.v 7)) (.v 8))) (.ext 6 (.call 0 (.cons (.lrng (.v 4)) (.cons (.v 9) .nil))) .nil) .nil .nil)
theorem c_tapes_for_eq : c_tapes_for = (.par3 6 (.lst .nil) 7 (.fn .len (.cons (.ix (.v 2) (.v 3)) .nil)) 8 (.ix (.ix (.v 0) (.v 3)) (.k (.int 0))) (.for (.n 9) (.rng2 (.v 7) (.bin .add (.v 5) (.k (.int 1)))) tfB (.frz 6 (.ret (.lcIf (.v 10) (.or (.isN false (.v 1)) (.cmp .eq (.v 10) (.ix (.v 1) (.v 3)))) (.n 10) (.seq (.v 6)) [("_law_tape", 10)]))))) := rfl
theorem tf_step {v0 v1 v2 v3 v5 s10 : Slot} {g : Option Int} {l n : Nat} {acc : List (List Int)} (hn : n < 4) (hacc : acc.length < 1000) :
    runS t_tapes_for tfB [v0, v1, v2, v3, .val (.int 2), v5, .own (acc.map encT), .val (.int l), .val (oI g), .val (.int n), s10] none = some (.nx [v0, v1, v2, v3, .val (.int 2), v5, .own ((if gOk g ((n : Int) - l) then acc ++ rowsK [0, 1] n else acc).map encT), .val (.int l), .val (oI g), .val (.int n), s10] none) := by
  have hr := all_rows2 hn
  have ht0 : t_tapes_for.tb[0]? = some (("_law_all_rows" : Str), R_all_rows) := rfl
  have hrg : rangeD 0 2 = [.int 0, .int 1] := rfl
  have hl8 := rows01_len n hn
  unfold tfB
  cases g with
  | none =>
    rw [show oI none = .none from rfl]
    simp [runS, run, dOf, bOf, iOf, lOf, toD, isNone, small, hrg, ht0, hr, Out.then, gOk, show acc.length + (rowsK ([0, 1] : List Int) n).length < 100000 by omega]
  | some u =>
    rw [show oI (some u) = .int u from rfl]
    by_cases h : (n : Int) - l ≤ u <;> simp [runS, run, dOf, bOf, iOf, lOf, toD, isNone, small, hrg, ht0, hr, Out.then, gOk, h, cmpD, binD, show acc.length + (rowsK ([0, 1] : List Int) n).length < 100000 by omega]
def stOk (st : Option (List (List Int))) (s : Nat) (t : List Int) : Prop := ∀ W, st = some W → W[s]? = some t
def stB (st : Option (List (List Int))) (s : Nat) (t : List Int) : Bool := match st with
  | none => true
  | some W => decide (W[s]? = some t)
theorem stB_iff {st : Option (List (List Int))} {s : Nat} {t : List Int} : stB st s t = true ↔ stOk st s t := by
  cases st with
  | none => exact ⟨fun _ W h => (by cases h), fun _ => rfl⟩
  | some W =>
    simp only [stB, decide_eq_true_eq]
    exact ⟨fun h W' e => by cases e; exact h, fun h => h W rfl⟩
theorem tapes_for_eq {r : Rw} {st : Option (List (List Int))} {L : List (List Cell)} {s most : Nat} {f : Fa} {l : List Cell} (hr : r[s]? = some f) (hl : L[s]? = some l) (hl3 : l.length ≤ 3) (hm : most ≤ 3) (hs : ∀ W, st = some W → s < W.length) :
    ∃ tf : List (List Int), R_tapes_for [encRow r, encSt st, encRd L, .int (s : Nat), .int 2, .int (most : Nat)] = some (.list (tf.map encT)) ∧ tf.length ≤ 32 ∧ ∀ t, t ∈ tf ↔ bin t ∧ l.length ≤ t.length ∧ t.length ≤ most ∧ gOk f.1 ((t.length : Int) - l.length) = true ∧ stOk st s t := by
  have hR : R_tapes_for [encRow r, encSt st, encRd L, .int (s : Nat), .int 2, .int (most : Nat)] = outD (runS t_tapes_for c_tapes_for [.val (encRow r), .val (encSt st), .val (encRd L), .val (.int s), .val (.int 2), .val (.int most), .non, .non, .non, .non, .non] none) := rfl
  rw [hR, c_tapes_for_eq]
  have a0 : atI (r.map encFa) (s : Int) = some (encFa f) := at_map hr
  have a2 : atI (L.map encCs) (s : Int) = some (encCs l) := at_map hl
  obtain ⟨u, w⟩ := f
  obtain ⟨ρ', e, acc, s9, ha, hmem, rfl⟩ := forGo_inv (p := none) (f := fun d ρ1 q => ((Tg.n 9).asg d ρ1).bind fun ρ2 => runS t_tapes_for tfB ρ2 q) (rangeD (l.length : Nat) (((most : Int) + 1) - (l.length : Int)).toNat)
    (fun i ρ => ∃ (acc : List (List Int)) (s9 : Slot), acc.length ≤ 8 * i ∧ (∀ t, t ∈ acc ↔ bin t ∧ l.length ≤ t.length ∧ t.length < l.length + i ∧ gOk u ((t.length : Int) - l.length) = true) ∧ ρ = [.val (encRow r), .val (encSt st), .val (encRd L), .val (.int s), .val (.int 2), .val (.int most), .own (acc.map encT), .val (.int l.length), .val (oI u), s9, .non])
    (fun i d hd ρ ⟨acc, s9, h1, h2, e⟩ => by
      subst e
      have hi : i < (((most : Int) + 1) - (l.length : Int)).toNat := by
        have := (List.getElem?_eq_some_iff.mp hd).1
        simpa [rangeD] using this
      have hd' : d = .int ((l.length + i : Nat) : Int) := by
        rw [rangeD, List.getElem?_map, List.getElem?_range hi] at hd
        simp only [Option.map_some, Option.some.injEq] at hd
        rw [← hd]
        simp
      subst hd'
      have hst := tf_step (v0 := .val (encRow r)) (v1 := .val (encSt st)) (v2 := .val (encRd L)) (v3 := .val (.int s)) (v5 := .val (.int most)) (s10 := .non) (g := u) (l := l.length) (n := l.length + i) (acc := acc) (by omega) (by omega)
      refine ⟨_, .inl ?_, if gOk u (((l.length + i : Nat) : Int) - l.length) then acc ++ rowsK [0, 1] (l.length + i) else acc, .val (.int ((l.length + i : Nat) : Int)), ?_, fun t => ?_, rfl⟩
      · simpa [Tg.asg] using hst
      · have := rows01_len (l.length + i) (by omega)
        split
        · rw [List.length_append]; omega
        · omega
      · by_cases hg : gOk u (((l.length + i : Nat) : Int) - l.length) = true
        · rw [if_pos hg, List.mem_append, h2, rows01]
          constructor
          · rintro (⟨g1, g2, g3, g4⟩ | ⟨g1, g2⟩)
            · exact ⟨g1, g2, by omega, g4⟩
            · exact ⟨g2, by omega, by omega, by rw [g1]; exact hg⟩
          · rintro ⟨g1, g2, g3, g4⟩
            by_cases e : t.length = l.length + i
            · exact .inr ⟨e, g1⟩
            · exact .inl ⟨g1, g2, by omega, g4⟩
        · rw [if_neg hg, h2]
          constructor
          · rintro ⟨g1, g2, g3, g4⟩
            exact ⟨g1, g2, by omega, g4⟩
          · rintro ⟨g1, g2, g3, g4⟩
            refine ⟨g1, g2, ?_, g4⟩
            by_cases e : t.length = l.length + i
            · rw [e] at g4; exact absurd g4 hg
            · omega)
    [.val (encRow r), .val (encSt st), .val (encRd L), .val (.int s), .val (.int 2), .val (.int most), .own [], .val (.int l.length), .val (oI u), .non, .non] ⟨[], .non, by simp, fun t => by constructor; (intro h; cases h); (rintro ⟨_, h1, h2, _⟩; omega), rfl⟩
  have hsm : small (l.length : Int) = true ∧ small ((most : Int) + 1) = true := by
    unfold small
    constructor <;> simp <;> omega
  have hlen : (rangeD (l.length : Nat) (((most : Int) + 1) - (l.length : Int)).toNat).length = most + 1 - l.length := by
    simp [rangeD]
  rw [hlen] at ha hmem
  rw [show (((most : Int) + 1) - (l.length : Int)).toNat = most + 1 - l.length by omega] at e
  have hE : ∀ W, encSt (some W) = .tuple (W.map encT) := fun _ => rfl
  have hcond : ∀ (t : List Int) (U : D) (s9 : Slot), bOf (run t_tapes_for (.or (.isN false (.v 1)) (.cmp .eq (.v 10) (.ix (.v 1) (.v 3)))) [.val (encRow r), .val (encSt st), .val (encRd L), .val (.int s), .val (.int 2), .val (.int most), .val (.list (acc.map encT)), .val (.int l.length), .val U, s9, .val (encT t)] none) = some (stB st s t, none) := by
    intro t U s9
    cases hst : st with
    | none => simp [run, dOf, bOf, toD, encSt, isNone, stB]
    | some W =>
      have hlt := hs W hst
      have hW : W[s]? = some (W[s]) := List.getElem?_eq_getElem hlt
      have a1 : atI (W.map encT) (s : Int) = some (encT W[s]) := at_map hW
      rw [hE]
      simp [run, dOf, bOf, iOf, sOf, toD, isNone, a1, cmpD_eq_T, stB, hW, eq_comm]
  refine ⟨acc.filter fun t => stB st s t, ?_, ?_, fun t => ?_⟩
  · have hlc := run_lcIf_enc (T := t_tapes_for) (elt := .v 10) (cond := .or (.isN false (.v 1)) (.cmp .eq (.v 10) (.ix (.v 1) (.v 3)))) (tg := .n 10) (it := .seq (.v 6)) (own := [(("_law_tape" : Str), 10)]) (ρ := [.val (encRow r), .val (encSt st), .val (encRd L), .val (.int s), .val (.int 2), .val (.int most), .val (.list (acc.map encT)), .val (.int l.length), .val (oI u), s9, .non]) (as := acc) (e := encT) (e' := encT) (b := fun t => stB st s t)
      (by simp [run, sOf, lOf]) (by omega) (fun t _ => ⟨_, rfl, hcond t _ _, by simp [run, dOf, toD, wipeS]⟩)
    generalize (C.lcIf (.v 10) _ _ _ _) = LC at hlc ⊢
    generalize tfB = B at e ⊢
    have hrow : encRow r = .tuple (r.map encFa) := rfl
    have hrd : encRd L = .tuple (L.map encCs) := rfl
    have hfa : encFa (u, w) = .tuple [oI u, oI w] := rfl
    have hcs : encCs l = .tuple (l.map encC) := rfl
    rw [hfa] at a0
    rw [hcs] at a2
    rw [hrow, hrd] at e hlc ⊢
    generalize oI u = U at *
    simp [runS, run, dOf, iOf, lOf, sOf, toD, fnD, a0, a2, ix0, binD, hsm, e, Out.then, freeze1, hlc, outD]
  · exact Nat.le_trans (List.length_filter_le _ _) (by omega)
  · rw [List.mem_filter, hmem, stB_iff]
    constructor
    · rintro ⟨⟨g1, g2, g3, g4⟩, g5⟩
      exact ⟨g1, g2, by omega, g4, g5⟩
    · rintro ⟨g1, g2, g3, g4, g5⟩
      exact ⟨⟨g1, g2, by omega, g4⟩, g5⟩
end Fs
-- FsK7
/-! The law's own worlds: all of them. -/
namespace Fs
open PySem PySem.Spec PyProof.Rows L2
theorem forGo_eff {α : Type} {f : D → List Slot → PSt → Option Out} {p : PSt} {e : α → D} {St : (List Int → Prop) → List Slot → Prop} {B : α → List Int → Prop} (hst : ∀ A A' ρ, (∀ x, A x ↔ A' x) → St A ρ → St A' ρ) :
    ∀ (as : List α), (∀ a ∈ as, ∀ A ρ, St A ρ → ∃ ρ', f (e a) ρ p = some (.nx ρ' p) ∧ St (fun x => A x ∨ B a x) ρ') → ∀ A ρ, St A ρ → ∃ ρ', forGo f (as.map e) ρ p = some (.nx ρ' p) ∧ St (fun x => A x ∨ ∃ a ∈ as, B a x) ρ'
  | [], _, A, ρ, h0 => ⟨ρ, rfl, hst _ _ _ (fun x => by simp) h0⟩
  | a :: as, h, A, ρ, h0 => by
    obtain ⟨ρ1, e1, h1⟩ := h a List.mem_cons_self A ρ h0
    obtain ⟨ρ2, e2, h2⟩ := forGo_eff hst as (fun b hb => h b (List.mem_cons_of_mem _ hb)) _ ρ1 h1
    refine ⟨ρ2, ?_, hst _ _ _ (fun x => ?_) h2⟩
    · rw [List.map_cons]
      unfold forGo
      rw [e1]
      exact e2
    · simp only [List.mem_cons, exists_eq_or_imp, or_assoc]
theorem nodup_len {α : Type} [DecidableEq α] : ∀ {f X : List α}, f.Nodup → (∀ x ∈ f, x ∈ X) → f.length ≤ X.length
  | [], _, _, _ => Nat.zero_le _
  | a :: r, X, hn, hs => by
    obtain ⟨h1, h2⟩ := List.nodup_cons.mp hn
    have ha := hs a List.mem_cons_self
    have h3 : ∀ z ∈ r, z ∈ X.erase a := fun z hz => (List.mem_erase_of_ne (fun e => h1 (by rw [← e]; exact hz))).mpr (hs z (List.mem_cons_of_mem _ hz))
    have h4 := nodup_len h2 h3
    rw [List.length_erase_of_mem ha] at h4
    have : 0 < X.length := List.length_pos_of_mem ha
    rw [List.length_cons]
    omega
def Found (X : List (List Int)) (A : List Int → Prop) (s : Slot) : Prop := ∃ fd : List (List Int), s = .own (fd.map encT) ∧ fd.Nodup ∧ (∀ x ∈ fd, x ∈ X) ∧ ∀ x, x ∈ fd ↔ A x
theorem Found.iff {X : List (List Int)} {A A' : List Int → Prop} {s : Slot} (h : Found X A s) (e : ∀ x, A x ↔ A' x) : Found X A' s := let ⟨fd, a, b, c, d⟩ := h; ⟨fd, a, b, c, fun x => (d x).trans (e x)⟩
/-- weavings by lists of tapes -/
def InW (tfs : List (List (List Int))) (W : List (List Int)) : Prop := W.length = tfs.length ∧ ∀ (i : Nat) (t : List Int) (tf : List (List Int)), W[i]? = some t → tfs[i]? = some tf → t ∈ tf
def wvs : List (List (List Int)) → List (List Int) → List (List (List Int)) := fun wv tf => wv.flatMap fun W => tf.map fun t => W ++ [t]
theorem wvs_mem {tfs : List (List (List Int))} {tf : List (List Int)} {wv : List (List (List Int))} (h : ∀ W, W ∈ wv ↔ InW tfs W) : ∀ W, W ∈ wvs wv tf ↔ InW (tfs ++ [tf]) W := by
  intro W
  simp only [wvs, List.mem_flatMap, List.mem_map]
  constructor
  · rintro ⟨V, hV, t, ht, rfl⟩
    obtain ⟨h1, h2⟩ := (h V).mp hV
    refine ⟨by simp [h1], fun i u tf' hu htf => ?_⟩
    by_cases hi : i < V.length
    · rw [List.getElem?_append_left hi] at hu
      rw [List.getElem?_append_left (by omega)] at htf
      exact h2 i u tf' hu htf
    · rw [List.getElem?_append_right (by omega)] at hu
      rw [List.getElem?_append_right (by omega)] at htf
      rw [h1] at hu
      cases hk : i - tfs.length with
      | zero =>
        rw [hk] at hu htf
        simp at hu htf
        subst hu htf
        exact ht
      | succ n =>
        rw [hk] at hu
        simp at hu
  · rintro ⟨h1, h2⟩
    have hne : W ≠ [] := fun e => by subst e; simp at h1
    have hl : W.length = tfs.length + 1 := by simpa using h1
    have hdl : W.dropLast.length = tfs.length := by simp [hl]
    have hcat := List.dropLast_concat_getLast hne
    refine ⟨W.dropLast, (h _).mpr ⟨hdl, fun i u tf' hu htf => ?_⟩, W.getLast hne, ?_, hcat⟩
    · have hi : i < W.dropLast.length := (List.getElem?_eq_some_iff.mp hu).1
      refine h2 i u tf' ?_ ?_
      · rw [← hcat, List.getElem?_append_left hi]; exact hu
      · rw [List.getElem?_append_left (by omega)]; exact htf
    · exact h2 tfs.length _ tf (List.getElem?_eq_some_iff.mpr ⟨by omega, by rw [List.getLast_eq_getElem]; congr 1; omega⟩) (by simp)
theorem any_eqv_T2 (l : List (List Int)) (x : List Int) : (l.any ((fun z => PyData.eqv z (encT x)) ∘ encT)) = decide (x ∈ l) := by
  rw [← any_eqv_T, List.any_map]
def woI : S := (.ite (.and (.inO true (.ix (.v 15) (.v 4)) 8) (.call 2 (.cons (.v 0) (.cons (.v 9) (.cons (.v 15) (.cons (.v 14) (.cons (.v 3) .nil))))))) (.app 8 (.ix (.v 15) (.v 4)) .nil) .nil .nil)
def woW : S := (.for (.n 15) (.seq (.call 0 (.cons (.v 7) (.cons (.v 5) .nil)))) woI .nil)
def woX : S := (.ext 12 (.lc (.bin .add (.v 13) (.tup (.cons (.v 16) .nil))) (.n 16) (.seq (.call 1 (.cons (.v 9) (.cons (.v 2) (.cons (.v 3) (.cons (.v 11) (.cons (.v 5) (.cons (.v 6) .nil)))))))) [("_law_tape", 16)]) .nil)
def woV : S := (.asg 12 (.lst .nil) (.frz 10 (.for (.n 13) (.seq (.v 10)) woX (.frz 12 (.asg 10 (.v 12) .nil)))))
def woR : S := (.asg 10 (.lst (.cons (.tup .nil) .nil)) (.for (.n 11) (.rng1 (.fn .len (.cons (.ix (.v 0) (.k (.int 2))) .nil))) woV (.frz 10 (.for (.n 14) (.seq (.v 10)) woW .nil))))
theorem c_worlds_eq : c_worlds = (.par2 7 (.call 0 (.cons (.lrng (.ix (.v 0) (.k (.int 0)))) (.cons (.ix (.v 0) (.k (.int 1))) .nil))) 8 (.lst .nil) (.for (.n 9) (.seq (.v 1)) woR (.frz 8 (.ret (.fn .sorted (.cons (.v 8) .nil)))))) := rfl
theorem wt0 : t_worlds.tb[0]? = some (("_law_all_rows" : Str), R_all_rows) := rfl
theorem wt1 : t_worlds.tb[1]? = some (("_law_tapes_for" : Str), R_tapes_for) := rfl
theorem wt2 : t_worlds.tb[2]? = some (("_law_is_world" : Str), R_is_world) := rfl
/-- one weaving more for each tape -/
theorem woX_step {v0 v1 s7 s8 s10 s14 s15 s16 : Slot} {R9 st rd : D} {s b5 b6 b4 : Int} {tf : List (List Int)} {acc : List (List (List Int))} {W : List (List Int)} (htf : R_tapes_for [R9, st, rd, .int s, .int b5, .int b6] = some (.list (tf.map encT))) (hl : tf.length ≤ 32) (hacc : acc.length ≤ 5000) (hW : W.length ≤ 8) :
    runS t_worlds woX [v0, v1, .val st, .val rd, .val (.int b4), .val (.int b5), .val (.int b6), s7, s8, .val R9, s10, .val (.int s), .own (acc.map encW), .val (encW W), s14, s15, s16] none = some (.nx [v0, v1, .val st, .val rd, .val (.int b4), .val (.int b5), .val (.int b6), s7, s8, .val R9, s10, .val (.int s), .own ((acc ++ tf.map fun t => W ++ [t]).map encW), .val (encW W), s14, s15, s16] none) := by
  have hlc := run_lc_enc (T := t_worlds) (elt := .bin .add (.v 13) (.tup (.cons (.v 16) .nil))) (tg := .n 16) (it := .seq (.call 1 (.cons (.v 9) (.cons (.v 2) (.cons (.v 3) (.cons (.v 11) (.cons (.v 5) (.cons (.v 6) .nil)))))))) (own := [(("_law_tape" : Str), 16)]) (ρ := [v0, v1, .val st, .val rd, .val (.int b4), .val (.int b5), .val (.int b6), s7, s8, .val R9, s10, .val (.int s), .own (acc.map encW), .val (encW W), s14, s15, s16]) (as := tf) (e := encT) (e' := fun t => encW (W ++ [t]))
    (by simp [run, lOf, dOf, sOf, toD, wt1, htf]) (by omega) (fun t _ => ⟨_, rfl, by
      have hE : encW W = .tuple (W.map encT) := rfl
      rw [hE]
      simp [run, dOf, lOf, toD, wipeS, binD, encW, show W.length + 1 ≤ 100000 by omega]⟩)
  unfold woX
  generalize (C.lc _ _ _ _) = LC at hlc ⊢
  simp [runS, hlc, lOf, show acc.length + tf.length < 100000 by omega, Function.comp_def]
theorem woV_step {v0 v1 s7 s8 s10 s12 s13 s14 s15 s16 : Slot} {R9 st rd : D} {s b5 b6 b4 : Int} {tf : List (List Int)} {wv : List (List (List Int))} (htf : R_tapes_for [R9, st, rd, .int s, .int b5, .int b6] = some (.list (tf.map encT))) (hl : tf.length ≤ 32) (hwl : wv.length ≤ 32) (hW : ∀ W ∈ wv, W.length ≤ 8) (h10 : s10 = .own (wv.map encW) ∨ s10 = .val (.list (wv.map encW))) :
    ∃ s12' s13', runS t_worlds woV [v0, v1, .val st, .val rd, .val (.int b4), .val (.int b5), .val (.int b6), s7, s8, .val R9, s10, .val (.int s), s12, s13, s14, s15, s16] none = some (.nx [v0, v1, .val st, .val rd, .val (.int b4), .val (.int b5), .val (.int b6), s7, s8, .val R9, .val (.list ((wvs wv tf).map encW)), .val (.int s), s12', s13', s14, s15, s16] none) := by
  obtain ⟨ρ', e, s13', rfl⟩ := forGo_inv (p := none) (f := fun d ρ1 q => ((Tg.n 13).asg d ρ1).bind fun ρ2 => runS t_worlds woX ρ2 q) (wv.map encW)
    (fun i ρ => ∃ s13, ρ = [v0, v1, .val st, .val rd, .val (.int b4), .val (.int b5), .val (.int b6), s7, s8, .val R9, .val (.list (wv.map encW)), .val (.int s), .own ((wvs (wv.take i) tf).map encW), s13, s14, s15, s16])
    (fun i d hd ρ ⟨s13, e⟩ => by
      subst e
      rw [List.getElem?_map] at hd
      obtain ⟨W, h2, rfl⟩ := Option.map_eq_some_iff.mp hd
      have hlen : (wvs (wv.take i) tf).length ≤ 32 * 32 := by
        unfold wvs
        rw [List.length_flatMap]
        have : ∀ (l : List (List (List Int))), (l.map fun W => (tf.map fun t => W ++ [t]).length).sum = l.length * tf.length := by
          intro l
          induction l with
          | nil => simp
          | cons a l ih =>
            rw [List.map_cons, List.sum_cons, ih, List.length_map, List.length_cons, Nat.succ_mul, Nat.add_comm]
        rw [this]
        exact Nat.mul_le_mul (by rw [List.length_take]; omega) hl
      have hs := woX_step (v0 := v0) (v1 := v1) (s7 := s7) (s8 := s8) (s10 := .val (.list (wv.map encW))) (s14 := s14) (s15 := s15) (s16 := s16) (b4 := b4) (acc := wvs (wv.take i) tf) (W := W) htf hl (by omega) (hW W (List.mem_of_getElem? h2))
      refine ⟨_, .inl ?_, .val (encW W), rfl⟩
      have htk : wvs (wv.take (i + 1)) tf = wvs (wv.take i) tf ++ tf.map fun t => W ++ [t] := by
        unfold wvs
        rw [List.take_add_one, h2]
        simp
      rw [htk]
      simpa [Tg.asg] using hs)
    [v0, v1, .val st, .val rd, .val (.int b4), .val (.int b5), .val (.int b6), s7, s8, .val R9, .val (.list (wv.map encW)), .val (.int s), .own [], s13, s14, s15, s16] ⟨s13, by simp [wvs]⟩
  rw [List.length_map, List.take_of_length_le (Nat.le_refl _)] at e
  refine ⟨.val (.list ((wvs wv tf).map encW)), s13', ?_⟩
  unfold woV
  generalize woX = B at e ⊢
  generalize (Tg.n 13) = TG at e ⊢
  rcases h10 with rfl | rfl <;> simp [runS, run, dOf, lOf, sOf, toD, freeze1, e, Out.then]
/-- one pair of batches -/
theorem woI_step {X : List (List Int)} {v0 v1 v2 v3 v6 s7 s8 s9 s10 s11 s12 s13 s14 s16 : Slot} {A : List Int → Prop} {b : Nat} {x0 x1 x : List Int} {G R9 W rd : D} {iw : Bool} (hx : (if b = 0 then x0 else x1) = x) (hb : b = 0 ∨ b = 1) (hX : x ∈ X) (hXl : X.length < 1000) (h8 : Found X A s8) (hw : R_is_world [G, R9, encX [x0, x1], W, rd] = some (.bool iw)) :
    ∃ s8', runS t_worlds woI [.val G, v1, v2, .val rd, .val (.int b), .val (.int 2), v6, s7, s8, .val R9, s10, s11, s12, s13, .val W, .val (encX [x0, x1]), s16] none = some (.nx [.val G, v1, v2, .val rd, .val (.int b), .val (.int 2), v6, s7, s8', .val R9, s10, s11, s12, s13, .val W, .val (encX [x0, x1]), s16] none) ∧ Found X (fun y => A y ∨ (iw = true ∧ y = x)) s8' := by
  obtain ⟨fd, rfl, hn, hs, hA⟩ := h8
  have hix : atI [encT x0, encT x1] (b : Int) = some (encT x) := by
    rcases hb with rfl | rfl
    · rw [if_pos rfl] at hx; subst hx; exact ix0 _ _
    · rw [if_neg (by decide)] at hx; subst hx; exact ix1 _ _ _
  have hX2 : encX [x0, x1] = .tuple [encT x0, encT x1] := rfl
  have hlen : fd.length < 100000 := by
    have := nodup_len hn hs
    omega
  by_cases hm : x ∈ fd
  · refine ⟨.own (fd.map encT), ?_, fd, rfl, hn, hs, fun y => ?_⟩
    · rw [hX2]
      unfold woI
      simp [runS, run, dOf, bOf, iOf, sOf, lOf, toD, hix, shaped_T, shaped_Ts, any_eqv_T2, hm, Out.then]
    · rw [hA]
      refine ⟨.inl, fun h => h.elim id fun ⟨_, e⟩ => ?_⟩
      rw [e]
      exact (hA x).mp hm
  · cases iw with
    | false =>
      refine ⟨.own (fd.map encT), ?_, fd, rfl, hn, hs, fun y => ?_⟩
      · rw [hX2] at hw ⊢
        unfold woI
        simp [runS, run, dOf, bOf, iOf, sOf, lOf, toD, hix, shaped_T, shaped_Ts, any_eqv_T2, hm, Out.then, wt2, hw]
      · rw [hA]
        exact ⟨.inl, fun h => h.elim id fun ⟨e, _⟩ => nomatch e⟩
    | true =>
      refine ⟨.own ((fd ++ [x]).map encT), ?_, fd ++ [x], rfl, ?_, ?_, fun y => ?_⟩
      · rw [hX2] at hw ⊢
        unfold woI
        simp [runS, run, dOf, bOf, iOf, sOf, lOf, toD, hix, shaped_T, shaped_Ts, any_eqv_T2, hm, Out.then, wt2, hw, hlen]
      · rw [List.nodup_append]
        refine ⟨hn, by simp, fun a ha c hc => ?_⟩
        rw [List.mem_singleton.mp hc]
        exact fun e => hm (by rw [← e]; exact ha)
      · intro y hy
        rcases List.mem_append.mp hy with h | h
        · exact hs y h
        · rw [List.mem_singleton.mp h]; exact hX
      · rw [List.mem_append, hA, List.mem_singleton]
        exact ⟨fun h => h.imp id fun e => ⟨rfl, e⟩, fun h => h.imp id fun e => e.2⟩
end Fs
-- FsK8
/-! The law's own worlds: the whole list. -/
namespace Fs
open PySem PySem.Spec PyProof.Rows L2
def sel (b : Nat) (x0 x1 : List Int) : List Int := if b = 0 then x0 else x1
theorem woW_step {X : List (List Int)} {v1 v2 v6 s8 s9 s10 s11 s12 s13 s15 s16 : Slot} {A : List Int → Prop} {b : Nat} {G R9 W rd : D} {P : List Int → List Int → Prop} (hb : b = 0 ∨ b = 1) (hXl : X.length < 1000) (hX2 : R_all_rows [.list (X.map encT), .int 2] = some (.list ((rowsK X 2).map encX))) (h8 : Found X A s8) (hw : ∀ x0 ∈ X, ∀ x1 ∈ X, ∃ iw, R_is_world [G, R9, encX [x0, x1], W, rd] = some (.bool iw) ∧ (iw = true ↔ P x0 x1)) :
    ∃ s8' s15', runS t_worlds woW [.val G, v1, v2, .val rd, .val (.int b), .val (.int 2), v6, .val (.list (X.map encT)), s8, .val R9, s10, s11, s12, s13, .val W, s15, s16] none = some (.nx [.val G, v1, v2, .val rd, .val (.int b), .val (.int 2), v6, .val (.list (X.map encT)), s8', .val R9, s10, s11, s12, s13, .val W, s15', s16] none) ∧
      Found X (fun y => A y ∨ ∃ x0 ∈ X, ∃ x1 ∈ X, P x0 x1 ∧ y = sel b x0 x1) s8' := by
  obtain ⟨ρ', e, s8', s15', rfl, hF⟩ := forGo_eff (p := none) (f := fun d ρ1 q => ((Tg.n 15).asg d ρ1).bind fun ρ2 => runS t_worlds woI ρ2 q) (e := encX)
    (St := fun A ρ => ∃ s8 s15, ρ = [.val G, v1, v2, .val rd, .val (.int b), .val (.int 2), v6, .val (.list (X.map encT)), s8, .val R9, s10, s11, s12, s13, .val W, s15, s16] ∧ Found X A s8)
    (B := fun c y => ∃ x0 x1, c = [x0, x1] ∧ P x0 x1 ∧ y = sel b x0 x1)
    (fun A A' ρ hA ⟨s8, s15, e, h⟩ => ⟨s8, s15, e, h.iff hA⟩) (rowsK X 2)
    (fun c hc A ρ ⟨s8, s15, e, h⟩ => by
      subst e
      obtain ⟨hl, hm⟩ := (rowsK_mem 2 c).mp hc
      obtain ⟨x0, x1, rfl⟩ : ∃ x0 x1, c = [x0, x1] := by
        match c, hl with
        | [a, b], _ => exact ⟨a, b, rfl⟩
      obtain ⟨iw, hiw, hP⟩ := hw x0 (hm x0 (by simp)) x1 (hm x1 (by simp))
      obtain ⟨s8', e1, h1⟩ := woI_step (X := X) (v0 := .non) (v1 := v1) (v2 := v2) (v3 := .non) (v6 := v6) (s7 := .val (.list (X.map encT))) (s9 := .non) (s10 := s10) (s11 := s11) (s12 := s12) (s13 := s13) (s14 := .non) (s16 := s16) (b := b) (x0 := x0) (x1 := x1) (x := sel b x0 x1) rfl hb
        (by unfold sel; split; exact hm x0 (by simp); exact hm x1 (by simp)) hXl h hiw
      refine ⟨_, ?_, s8', .val (encX [x0, x1]), rfl, h1.iff fun y => ?_⟩
      · simpa [Tg.asg] using e1
      · rw [hP]
        constructor
        · rintro (h | ⟨h, e⟩)
          · exact .inl h
          · exact .inr ⟨x0, x1, rfl, h, e⟩
        · rintro (h | ⟨y0, y1, e0, h, e⟩)
          · exact .inl h
          · cases e0
            exact .inr ⟨h, e⟩)
    A [.val G, v1, v2, .val rd, .val (.int b), .val (.int 2), v6, .val (.list (X.map encT)), s8, .val R9, s10, s11, s12, s13, .val W, s15, s16] ⟨s8, s15, rfl, h8⟩
  refine ⟨s8', s15', ?_, hF.iff fun y => ?_⟩
  · unfold woW
    generalize woI = B at e ⊢
    generalize (Tg.n 15) = TG at e ⊢
    simp [runS, run, lOf, dOf, sOf, toD, wt0, hX2, e, Out.then]
  · constructor
    · rintro (h | ⟨c, hc, x0, x1, rfl, h, e⟩)
      · exact .inl h
      · have := (rowsK_mem 2 _).mp hc
        exact .inr ⟨x0, this.2 x0 (by simp), x1, this.2 x1 (by simp), h, e⟩
    · rintro (h | ⟨x0, h0, x1, h1, h, e⟩)
      · exact .inl h
      · refine .inr ⟨[x0, x1], (rowsK_mem 2 _).mpr ⟨rfl, fun m hm => ?_⟩, x0, x1, rfl, h, e⟩
        simp at hm
        rcases hm with rfl | rfl
        · exact h0
        · exact h1
theorem woR_step {X : List (List Int)} {v1 s8 s10 s11 s12 s13 s14 s15 s16 : Slot} {A : List Int → Prop} {b : Nat} {most : Int} {p k : Nat} {pts : List Int} {R9 st rd : D} {tfs : List (List (List Int))} {P : List (List Int) → List Int → List Int → Prop} (hb : b = 0 ∨ b = 1) (hXl : X.length < 1000) (hX2 : R_all_rows [.list (X.map encT), .int 2] = some (.list ((rowsK X 2).map encX))) (h8 : Found X A s8)
    (hm : pts.length = tfs.length) (hm2 : tfs.length ≤ 2) (htf : ∀ (s : Nat) (tf : List (List Int)), tfs[s]? = some tf → R_tapes_for [R9, st, rd, .int (s : Nat), .int 2, .int most] = some (.list (tf.map encT)) ∧ tf.length ≤ 32)
    (hw : ∀ W, InW tfs W → ∀ x0 ∈ X, ∀ x1 ∈ X, ∃ iw, R_is_world [encG (p, k, pts), R9, encX [x0, x1], encW W, rd] = some (.bool iw) ∧ (iw = true ↔ P W x0 x1)) :
    ∃ s8' s10' s11' s12' s13' s14' s15' s16', runS t_worlds woR [.val (encG (p, k, pts)), v1, .val st, .val rd, .val (.int b), .val (.int 2), .val (.int most), .val (.list (X.map encT)), s8, .val R9, s10, s11, s12, s13, s14, s15, s16] none =
      some (.nx [.val (encG (p, k, pts)), v1, .val st, .val rd, .val (.int b), .val (.int 2), .val (.int most), .val (.list (X.map encT)), s8', .val R9, s10', s11', s12', s13', s14', s15', s16'] none) ∧
      Found X (fun y => A y ∨ ∃ W, InW tfs W ∧ ∃ x0 ∈ X, ∃ x1 ∈ X, P W x0 x1 ∧ y = sel b x0 x1) s8' := by
  have hE0 : encW [] = .tuple [] := rfl
  obtain ⟨ρ', e, wv, s10', s11', s12', s13', h10, hwv, hwl, rfl⟩ := forGo_inv (p := none) (f := fun d ρ1 q => ((Tg.n 11).asg d ρ1).bind fun ρ2 => runS t_worlds woV ρ2 q) (rangeD 0 pts.length)
    (fun i ρ => ∃ (wv : List (List (List Int))) (s10 s11 s12 s13 : Slot), (s10 = .own (wv.map encW) ∨ s10 = .val (.list (wv.map encW))) ∧ (∀ W, W ∈ wv ↔ InW (tfs.take i) W) ∧ wv.length ≤ 32 ^ i ∧ ρ = [.val (encG (p, k, pts)), v1, .val st, .val rd, .val (.int b), .val (.int 2), .val (.int most), .val (.list (X.map encT)), s8, .val R9, s10, s11, s12, s13, s14, s15, s16])
    (fun i d hd ρ ⟨wv, s10, s11, s12, s13, h10, hwv, hwl, e⟩ => by
      subst e
      have hi : i < pts.length := by
        have := (List.getElem?_eq_some_iff.mp hd).1
        simpa [rangeD] using this
      have hd' : d = .int (i : Nat) := by
        rw [rangeD, List.getElem?_map, List.getElem?_range hi] at hd
        simp only [Option.map_some, Option.some.injEq] at hd
        rw [← hd]
        simp
      subst hd'
      have htfi : tfs[i]? = some (tfs[i]'(by omega)) := List.getElem?_eq_getElem (by omega)
      obtain ⟨t1, t2⟩ := htf i _ htfi
      have hwl' : wv.length ≤ 32 := by
        have : i = 0 ∨ i = 1 := by omega
        rcases this with rfl | rfl <;> simp at hwl <;> omega
      obtain ⟨s12', s13', hs⟩ := woV_step (v0 := .val (encG (p, k, pts))) (v1 := v1) (s7 := .val (.list (X.map encT))) (s8 := s8) (s10 := s10) (s12 := s12) (s13 := s13) (s14 := s14) (s15 := s15) (s16 := s16) (b4 := b) t1 t2 hwl' (fun W hW => by
        have := ((hwv W).mp hW).1
        rw [List.length_take] at this
        omega) h10
      refine ⟨_, .inl ?_, wvs wv (tfs[i]'(by omega)), .val (.list ((wvs wv (tfs[i]'(by omega))).map encW)), .val (.int (i : Nat)), s12', s13', .inr rfl, ?_, ?_, rfl⟩
      · simpa [Tg.asg] using hs
      · have := wvs_mem (tf := tfs[i]'(by omega)) hwv
        rw [List.take_add_one, htfi]
        exact this
      · unfold wvs
        rw [List.length_flatMap]
        have : ∀ (tf : List (List Int)) (l : List (List (List Int))), (l.map fun W => (tf.map fun t => W ++ [t]).length).sum = l.length * tf.length := by
          intro tf l
          induction l with
          | nil => simp
          | cons a l ih =>
            rw [List.map_cons, List.sum_cons, ih, List.length_map, List.length_cons, Nat.succ_mul, Nat.add_comm]
        rw [this, Nat.pow_succ]
        exact Nat.mul_le_mul hwl t2)
    [.val (encG (p, k, pts)), v1, .val st, .val rd, .val (.int b), .val (.int 2), .val (.int most), .val (.list (X.map encT)), s8, .val R9, .own [encW []], s11, s12, s13, s14, s15, s16] ⟨[[]], .own [encW []], s11, s12, s13, .inl rfl, fun W => by
      simp only [List.mem_singleton, InW, List.take_zero, List.length_nil]
      refine ⟨fun h => by subst h; exact ⟨rfl, fun i t tf h => by simp at h⟩, fun h => List.length_eq_zero_iff.mp h.1⟩, by simp, rfl⟩
  rw [show (rangeD 0 pts.length).length = tfs.length by simp [rangeD, hm], List.take_of_length_le (Nat.le_refl _)] at hwv
  obtain ⟨ρ2, e2, s8', s14', s15', rfl, hF⟩ := forGo_eff (p := none) (f := fun d ρ1 q => ((Tg.n 14).asg d ρ1).bind fun ρ2 => runS t_worlds woW ρ2 q) (e := encW)
    (St := fun A ρ => ∃ s8 s14 s15, ρ = [.val (encG (p, k, pts)), v1, .val st, .val rd, .val (.int b), .val (.int 2), .val (.int most), .val (.list (X.map encT)), s8, .val R9, .val (.list (wv.map encW)), s11', s12', s13', s14, s15, s16] ∧ Found X A s8)
    (B := fun W y => ∃ x0 ∈ X, ∃ x1 ∈ X, P W x0 x1 ∧ y = sel b x0 x1)
    (fun A A' ρ hA ⟨s8, s14, s15, e, h⟩ => ⟨s8, s14, s15, e, h.iff hA⟩) wv
    (fun W hW A ρ ⟨s8, s14, s15, e, h⟩ => by
      subst e
      obtain ⟨s8', s15', e1, h1⟩ := woW_step (v1 := v1) (v2 := .val st) (v6 := .val (.int most)) (s9 := .non) (s10 := .val (.list (wv.map encW))) (s11 := s11') (s12 := s12') (s13 := s13') (s15 := s15) (s16 := s16) hb hXl hX2 h (hw W ((hwv W).mp hW))
      exact ⟨_, by simpa [Tg.asg] using e1, s8', .val (encW W), s15', rfl, h1⟩)
    A [.val (encG (p, k, pts)), v1, .val st, .val rd, .val (.int b), .val (.int 2), .val (.int most), .val (.list (X.map encT)), s8, .val R9, .val (.list (wv.map encW)), s11', s12', s13', s14, s15, s16] ⟨s8, s14, s15, rfl, h8⟩
  refine ⟨s8', .val (.list (wv.map encW)), s11', s12', s13', s14', s15', s16, ?_, hF.iff fun y => ?_⟩
  · unfold woR
    generalize woV = B at e ⊢
    generalize woW = B2 at e2 ⊢
    generalize (Tg.n 11) = TG at e ⊢
    generalize (Tg.n 14) = TG2 at e2 ⊢
    have hG : encG (p, k, pts) = .tuple [.int (p : Nat), .int (k : Nat), .tuple (pts.map .int)] := rfl
    have hsm : small (pts.length : Int) = true := by unfold small; simp; omega
    rw [hE0] at e
    rw [hG] at e e2 ⊢
    rcases h10 with rfl | rfl <;> simp [runS, run, lOf, dOf, sOf, iOf, toD, ix2, fnD, hsm, e, freeze1, e2, Out.then]
  · constructor
    · rintro (h | ⟨W, hW, h⟩)
      · exact .inl h
      · exact .inr ⟨W, (hwv W).mp hW, h⟩
    · rintro (h | ⟨W, hW, h⟩)
      · exact .inl h
      · exact .inr ⟨W, (hwv W).mpr hW, h⟩
theorem worlds_eq {p k b : Nat} {most : Int} {pts : List Int} {bk : List Rw} {st rd : D} {tfs : Rw → List (List (List Int))} {P : Rw → List (List Int) → List Int → List Int → Prop} (hpk : (p, k) ∈ PK) (hb : b = 0 ∨ b = 1)
    (hm : ∀ r ∈ bk, pts.length = (tfs r).length ∧ (tfs r).length ≤ 2) (htf : ∀ r ∈ bk, ∀ (s : Nat) (tf : List (List Int)), (tfs r)[s]? = some tf → R_tapes_for [encRow r, st, rd, .int (s : Nat), .int 2, .int most] = some (.list (tf.map encT)) ∧ tf.length ≤ 32)
    (hw : ∀ r ∈ bk, ∀ W, InW (tfs r) W → ∀ x0 ∈ Xs p k, ∀ x1 ∈ Xs p k, ∃ iw, R_is_world [encG (p, k, pts), encRow r, encX [x0, x1], encW W, rd] = some (.bool iw) ∧ (iw = true ↔ P r W x0 x1)) :
    ∃ S : List Int → Bool, R_worlds [encG (p, k, pts), encBk bk, st, rd, .int (b : Nat), .int 2, .int most] = some (.list (((Xs p k).filter S).map encT)) ∧ ∀ x, S x = true ↔ ∃ r ∈ bk, ∃ W, InW (tfs r) W ∧ ∃ x0 ∈ Xs p k, ∃ x1 ∈ Xs p k, P r W x0 x1 ∧ x = sel b x0 x1 := by
  have hT := List.all_eq_true.mp tab_rows1 (p, k) hpk
  rw [Bool.and_eq_true] at hT
  have hX1 : R_all_rows [.list ((uptoN p).map .int), .int (k : Nat)] = some (.list ((Xs p k).map encT)) := isD_eq hT.1
  have hX2 : R_all_rows [.list ((Xs p k).map encT), .int 2] = some (.list ((rowsK (Xs p k) 2).map encX)) := isD_eq hT.2
  have hXl : (Xs p k).length ≤ 4 := of_decide_eq_true (List.all_eq_true.mp XsLen (p, k) hpk)
  have hR : R_worlds [encG (p, k, pts), encBk bk, st, rd, .int (b : Nat), .int 2, .int most] = outD (runS t_worlds c_worlds [.val (encG (p, k, pts)), .val (encBk bk), .val st, .val rd, .val (.int b), .val (.int 2), .val (.int most), .non, .non, .non, .non, .non, .non, .non, .non, .non, .non] none) := rfl
  obtain ⟨ρ', e, s8, s9, s10, s11, s12, s13, s14, s15, s16, rfl, fd, rfl, hn, hs, hA⟩ := forGo_eff (p := none) (f := fun d ρ1 q => ((Tg.n 9).asg d ρ1).bind fun ρ2 => runS t_worlds woR ρ2 q) (e := encRow)
    (St := fun A ρ => ∃ s8 s9 s10 s11 s12 s13 s14 s15 s16, ρ = [.val (encG (p, k, pts)), .val (encBk bk), .val st, .val rd, .val (.int b), .val (.int 2), .val (.int most), .val (.list ((Xs p k).map encT)), s8, s9, s10, s11, s12, s13, s14, s15, s16] ∧ Found (Xs p k) A s8)
    (B := fun r y => ∃ W, InW (tfs r) W ∧ ∃ x0 ∈ Xs p k, ∃ x1 ∈ Xs p k, P r W x0 x1 ∧ y = sel b x0 x1)
    (fun A A' ρ hA ⟨s8, s9, s10, s11, s12, s13, s14, s15, s16, e, h⟩ => ⟨s8, s9, s10, s11, s12, s13, s14, s15, s16, e, h.iff hA⟩) bk
    (fun r hr A ρ ⟨s8, s9, s10, s11, s12, s13, s14, s15, s16, e, h⟩ => by
      subst e
      obtain ⟨s8', s10', s11', s12', s13', s14', s15', s16', e1, h1⟩ := woR_step (v1 := .val (encBk bk)) (s10 := s10) (s11 := s11) (s12 := s12) (s13 := s13) (s14 := s14) (s15 := s15) (s16 := s16) hb (by omega) hX2 h (hm r hr).1 (hm r hr).2 (htf r hr) (hw r hr)
      exact ⟨_, by simpa [Tg.asg] using e1, s8', .val (encRow r), s10', s11', s12', s13', s14', s15', s16', rfl, h1⟩)
    (fun _ => False) [.val (encG (p, k, pts)), .val (encBk bk), .val st, .val rd, .val (.int b), .val (.int 2), .val (.int most), .val (.list ((Xs p k).map encT)), .own [], .non, .non, .non, .non, .non, .non, .non, .non]
    ⟨.own [], .non, .non, .non, .non, .non, .non, .non, .non, rfl, [], rfl, List.nodup_nil, fun x h => (by cases h), fun x => (by simp)⟩
  have hso := List.all_eq_true.mp (List.all_eq_true.mp tab_sort (p, k) hpk) fd (ndl_mem 4 _ fd hXl hn hs)
  rw [Bool.and_eq_true, decide_eq_true_eq, decide_eq_true_eq] at hso
  obtain ⟨hso1, hso2⟩ := hso
  refine ⟨fun x => decide (x ∈ fd), ?_, fun x => ?_⟩
  · rw [hR, c_worlds_eq, ← hso1]
    generalize woR = B at e ⊢
    generalize (Tg.n 9) = TG at e ⊢
    have hG : encG (p, k, pts) = .tuple [.int (p : Nat), .int (k : Nat), .tuple (pts.map .int)] := rfl
    have hB : encBk bk = .tuple (bk.map encRow) := rfl
    have hsm : small (p : Int) = true := by
      simp [PK] at hpk
      rcases hpk with ⟨rfl, _⟩ | ⟨rfl, _⟩ | ⟨rfl, _⟩ <;> rfl
    have hrg : rangeD 0 p = (uptoN p).map .int := by simp [rangeD, uptoN]
    rw [hG, hB] at e ⊢
    have hsrt : fnD .sorted [.list (fd.map encT)] = some (.own ((sortC fd).map encT)) := by
      show (match tupsOf (fd.map encT) with | some ts => if ts.length < 64 ∧ 1 ≤ lenT ts ∧ ts.all (fun t => decide (t.length = lenT ts) && bdT t) = true then some (Slot.own ((sortC ts).map encT)) else none | none => none) = _
      rw [tupsOf_map]
      exact if_pos hso2
    simp [runS, run, lOf, dOf, sOf, iOf, toD, ix0, ix1, hsm, hrg, hX1, wt0, e, freeze1, Out.then, hsrt, outD]
  · rw [decide_eq_true_eq, hA]
    simp
end Fs
-- FsK9
/-! The reader: heads, what lies far, cells by batches. -/
namespace Fs
open PySem PySem.Spec PyProof.Rows L2
def hdN : Option Int → Nat → Nat
  | none, _ => 0
  | some w, n => ((n : Int) - w).toNat
def headsN : Rw → List (List Cell) → List Nat
  | f :: r, l :: L => hdN f.2 l.length :: headsN r L
  | _, _ => []
def castI (h : List Nat) : List Int := h.map fun n => ((n : Nat) : Int)
theorem headsN_at : ∀ (r : Rw) (L : List (List Cell)) (i : Nat) (f : Fa) (l : List Cell), r[i]? = some f → L[i]? = some l → (headsN r L)[i]? = some (hdN f.2 l.length)
  | [], _, _, _, _, h, _ => by cases h
  | _ :: _, [], _, _, _, _, h => by cases h
  | a :: r, b :: L, 0, f, l, h1, h2 => by
    simp only [List.getElem?_cons_zero, Option.some.injEq] at h1 h2
    subst h1 h2
    rfl
  | a :: r, b :: L, i + 1, f, l, h1, h2 => by
    simp only [List.getElem?_cons_succ] at h1 h2
    unfold headsN
    rw [List.getElem?_cons_succ]
    exact headsN_at r L i f l h1 h2
theorem headsN_len : ∀ (r : Rw) (L : List (List Cell)), r.length = L.length → (headsN r L).length = L.length
  | [], [], _ => rfl
  | [], _ :: _, h => by cases h
  | _ :: _, [], h => by cases h
  | a :: r, b :: L, h => by
    unfold headsN
    rw [List.length_cons, headsN_len r L (by simpa using h), List.length_cons]
def rhB : S := (.app 2 (.ite (.isN false (.v 4)) (.k (.int 0)) (.fn .max (.cons (.k (.int 0)) (.cons (.bin .sub (.fn .len (.cons (.v 5) .nil)) (.v 4)) .nil)))) .nil)
theorem rh_loop (x0 x1 : Slot) : ∀ (r : Rw) (L : List (List Cell)) (acc : List D) (s3 s4 s5 : Slot), acc.length + r.length < 1000 → ∃ s3' s4' s5', forGo (fun d ρ1 q => ((Tg.tup (.cons (.tup (.cons (.n 3) (.cons (.n 4) .nil))) (.cons (.n 5) .nil))).asg d ρ1).bind fun ρ2 => runS t_right_heads rhB ρ2 q) (zipD (r.map encFa) (L.map encCs)) [x0, x1, .own acc, s3, s4, s5] none = some (.nx [x0, x1, .own (acc ++ (castI (headsN r L)).map .int), s3', s4', s5'] none)
  | [], L, acc, s3, s4, s5, _ => ⟨s3, s4, s5, by simp [zipD, forGo, headsN, castI]⟩
  | f :: r, [], acc, s3, s4, s5, _ => ⟨s3, s4, s5, by simp [zipD, forGo, headsN, castI]⟩
  | (u, w) :: r, l :: L, acc, s3, s4, s5, ha => by
    simp only [List.length_cons] at ha
    obtain ⟨s3', s4', s5', e⟩ := rh_loop x0 x1 r L (acc ++ [.int (hdN w l.length : Nat)]) (.val (oI u)) (.val (oI w)) (.val (encCs l)) (by simp; omega)
    refine ⟨s3', s4', s5', ?_⟩
    have e1 : acc ++ (castI (headsN ((u, w) :: r) (l :: L))).map PyData.int = acc ++ [.int (hdN w l.length : Nat)] ++ (castI (headsN r L)).map .int := by simp [headsN, castI]
    rw [e1, ← e]
    have hf : encFa (u, w) = .tuple [oI u, oI w] := rfl
    have hc : encCs l = .tuple (l.map encC) := rfl
    rw [List.map_cons, List.map_cons, zipD, forGo, hf, hc]
    generalize oI u = U
    generalize (zipD (r.map encFa) (L.map encCs)) = Z
    clear e e1
    unfold rhB
    cases w with
    | none =>
      rw [show oI none = .none from rfl]
      simp [Tg.asg, runS, run, dOf, bOf, toD, isNone, show acc.length < 100000 by omega, hdN]
    | some w =>
      rw [show oI (some w) = .int w from rfl]
      have hmx : (if 0 < (l.length : Int) - w then (l.length : Int) - w else 0) = (((l.length : Int) - w).toNat : Int) := by
        split <;> omega
      simp only [hdN, ← hmx]
      simp [Tg.asg, runS, run, dOf, bOf, lOf, toD, isNone, show acc.length < 100000 by omega, fnD, binD]
theorem right_heads_eq (r : Rw) (L : List (List Cell)) (hr : r.length < 900) : R_right_heads [encRow r, encRd L] = some (encT (castI (headsN r L))) := by
  have hR : R_right_heads [encRow r, encRd L] = outD (runS t_right_heads c_right_heads [.val (encRow r), .val (encRd L), .non, .non, .non, .non] none) := rfl
  have hC : c_right_heads = (.asg 2 (.lst .nil) (.for (.tup (.cons (.tup (.cons (.n 3) (.cons (.n 4) .nil))) (.cons (.n 5) .nil))) (.zip (.v 0) (.v 1)) rhB (.frz 2 (.ret (.fn .tup (.cons (.v 2) .nil)))))) := rfl
  rw [hR, hC]
  obtain ⟨s3, s4, s5, e⟩ := rh_loop (.val (encRow r)) (.val (encRd L)) r L [] .non .non .non (by simpa using by omega)
  generalize rhB = B at e ⊢
  generalize (Tg.tup _) = TG at e ⊢
  have hrow : encRow r = .tuple (r.map encFa) := rfl
  have hrd : encRd L = .tuple (L.map encCs) := rfl
  rw [hrow, hrd] at e ⊢
  rw [List.nil_append] at e
  simp [runS, run, dOf, lOf, toD, e, Out.then, freeze1, fnD, outD, encT]
/-! ### what lies far -/
theorem forGo_retI {f : D → List Slot → PSt → Option Out} {p : PSt} {r : Nat → D} : ∀ (ds : List D) (I : Nat → List Slot → Prop) (b : Nat → Bool), (∀ i d, ds[i]? = some d → ∀ ρ, I i ρ → (b i = true → ∃ ρ', f d ρ p = some (.nx ρ' p) ∧ I (i + 1) ρ') ∧ (b i = false → f d ρ p = some (.rt (r i) p))) → ∀ ρ, I 0 ρ →
    ((∀ i, i < ds.length → b i = true) ∧ ∃ ρ', forGo f ds ρ p = some (.nx ρ' p) ∧ I ds.length ρ') ∨ (∃ i, i < ds.length ∧ b i = false ∧ forGo f ds ρ p = some (.rt (r i) p))
  | [], I, b, _, ρ, h0 => .inl ⟨fun _ h => absurd h (Nat.not_lt_zero _), ρ, rfl, h0⟩
  | d :: ds, I, b, h, ρ, h0 => by
    have h' := h 0 d rfl ρ h0
    cases hb : b 0 with
    | false =>
      refine .inr ⟨0, Nat.zero_lt_succ _, hb, ?_⟩
      unfold forGo
      rw [h'.2 hb]
      rfl
    | true =>
      obtain ⟨ρ1, e, h1⟩ := h'.1 hb
      have e' : forGo f (d :: ds) ρ p = forGo f ds ρ1 p := by
        conv => lhs; unfold forGo
        rw [e]
        rfl
      rw [e']
      rcases forGo_retI (r := fun i => r (i + 1)) ds (fun i => I (i + 1)) (fun i => b (i + 1)) (fun i d' hd => h (i + 1) d' hd) ρ1 h1 with ⟨g1, g2⟩ | ⟨i, g1, g2, g3⟩
      · refine .inl ⟨fun i hi => ?_, g2⟩
        cases i with
        | zero => exact hb
        | succ i => exact g1 i (Nat.lt_of_succ_lt_succ hi)
      · exact .inr ⟨i + 1, Nat.succ_lt_succ g1, g2, g3⟩
/-- a shelf whose tape can come from the stand -/
def shOk (f : Fa) (l : List Cell) (T : List Int) : Bool := decide (l.length ≤ T.length) && gOk f.1 ((T.length : Int) - l.length) && decide ((l.take (hdN f.2 l.length)).map (·.1) = T.take (hdN f.2 l.length))
def shAt (r : Rw) (L : List (List Cell)) (W : List (List Int)) (i : Nat) : Bool := match r[i]?, L[i]?, W[i]? with
  | some f, some l, some T => shOk f l T
  | _, _, _ => true
def ffB : S := (.par2 7 (.fn .len (.cons (.ix (.v 1) (.v 4)) .nil)) 8 (.fn .len (.cons (.ix (.v 2) (.v 4)) .nil)) (.ite (.or (.cmp .gt (.v 8) (.v 7)) (.and (.isN true (.v 5)) (.cmp .lt (.v 8) (.bin .sub (.v 7) (.v 5))))) (.ret (.v 4)) .nil (.asg 9 (.fn .tup (.cons (.lc (.v 10) (.tup (.cons (.n 10) (.cons (.n 11) .nil))) (.seq (.slTo (.ix (.v 2) (.v 4)) (.ix (.v 3) (.v 4)))) [("number", 10), ("content", 11)]) .nil)) (.ite (.cmp .ne (.v 9) (.slTo (.ix (.v 1) (.v 4)) (.ix (.v 3) (.v 4)))) (.ret (.v 4)) .nil .nil))))
theorem ff_step {v0 s7 s8 s9 s10 s11 : Slot} {r : Rw} {L : List (List Cell)} {W : List (List Int)} {hs : List Int} {i : Nat} {u w : Option Int} {l : List Cell} {T : List Int} (hl : L[i]? = some l) (hT : W[i]? = some T) (hh : hs[i]? = some ((hdN w l.length : Nat) : Int)) (hl9 : l.length < 1000) :
    (shOk (u, w) l T = true → ∃ ρ', runS t_first_far ffB [v0, .val (encW W), .val (encRd L), .val (encT hs), .val (.int i), .val (oI u), .val (oI w), s7, s8, s9, s10, s11] none = some (.nx ρ' none) ∧ ∃ s4 s5 s6 s7 s8 s9 s10 s11, ρ' = [v0, .val (encW W), .val (encRd L), .val (encT hs), s4, s5, s6, s7, s8, s9, s10, s11]) ∧
    (shOk (u, w) l T = false → runS t_first_far ffB [v0, .val (encW W), .val (encRd L), .val (encT hs), .val (.int i), .val (oI u), .val (oI w), s7, s8, s9, s10, s11] none = some (.rt (.int i) none)) := by
  have a1 : atI (W.map encT) (i : Int) = some (encT T) := at_map hT
  have a2 : atI (L.map encCs) (i : Int) = some (encCs l) := at_map hl
  have a3 : atI (hs.map PyData.int) (i : Int) = some (.int (hdN w l.length : Nat)) := at_map hh
  have hW : encW W = .tuple (W.map encT) := rfl
  have hL : encRd L = .tuple (L.map encCs) := rfl
  have hS : encT hs = .tuple (hs.map .int) := rfl
  have hTT : encT T = .tuple (T.map .int) := rfl
  have hc : encCs l = .tuple (l.map encC) := rfl
  have hlc : ∀ (s5 s6 s7 s8 s9 : Slot), run t_first_far (.lc (.v 10) (.tup (.cons (.n 10) (.cons (.n 11) .nil))) (.seq (.slTo (.ix (.v 2) (.v 4)) (.ix (.v 3) (.v 4)))) [("number", 10), ("content", 11)]) [v0, .val (encW W), .val (encRd L), .val (encT hs), .val (.int i), s5, s6, s7, s8, s9, s10, s11] none = some (.own (((l.take (hdN w l.length)).map (·.1)).map .int), none) := by
    intro s5 s6 s7 s8 s9
    rw [hc] at a2
    rw [hL, hS]
    rw [run_lc_enc (T := t_first_far) (as := l.take (hdN w l.length)) (e := encC) (e' := fun c => .int c.1) (by simp [run, sOf, lOf, iOf, dOf, toD, a2, a3, cut_to]) (by rw [List.length_take]; omega) (fun c _ => ⟨_, rfl, by simp [run, dOf, toD, wipeS]⟩)]
    simp [Function.comp_def]
  have hcd : ∀ (s6 s9 : Slot), (run t_first_far (.or (.cmp .gt (.v 8) (.v 7)) (.and (.isN true (.v 5)) (.cmp .lt (.v 8) (.bin .sub (.v 7) (.v 5))))) [v0, .val (encW W), .val (encRd L), .val (encT hs), .val (.int i), .val (oI u), s6, .val (.int (T.length : Nat)), .val (.int (l.length : Nat)), s9, s10, s11] none) = some (.val (.bool (!(decide (l.length ≤ T.length) && gOk u ((T.length : Int) - l.length)))), none) := by
    intro s6 s9
    by_cases c1 : l.length ≤ T.length
    · have c1' : ¬ T.length < l.length := by omega
      cases u with
      | none =>
        rw [show oI none = .none from rfl]
        simp [run, dOf, bOf, toD, cmpD, c1, c1', isNone, gOk]
      | some u =>
        rw [show oI (some u) = .int u from rfl]
        by_cases c2 : (T.length : Int) - (l.length : Int) ≤ u
        · have : ¬ (l.length : Int) < (T.length : Int) - u := by omega
          simp [run, dOf, bOf, toD, cmpD, c1, c1', isNone, gOk, binD, this, c2]
        · have : (l.length : Int) < (T.length : Int) - u := by omega
          simp [run, dOf, bOf, toD, cmpD, c1, c1', isNone, gOk, binD, this, c2]
    · have c1' : T.length < l.length := by omega
      simp [run, dOf, bOf, toD, cmpD, c1, c1']
  have hne : ∀ a b : List Int, cmpD .ne (.tuple (a.map .int)) (.tuple (b.map .int)) = some (!decide (a = b)) := fun a b => cmpD_ne_T a b
  have htk : ∀ n, (T.map PyData.int).take n = (T.take n).map .int := fun n => by rw [List.map_take]
  unfold ffB
  generalize (C.lc _ _ _ _) = LC at hlc ⊢
  generalize (C.or _ _) = CC at hcd ⊢
  have hsh : shOk (u, w) l T = (decide (l.length ≤ T.length) && gOk u ((T.length : Int) - l.length) && decide ((l.take (hdN w l.length)).map (·.1) = T.take (hdN w l.length))) := rfl
  rw [hsh]
  generalize (decide (l.length ≤ T.length) && gOk u ((T.length : Int) - l.length)) = b1 at hcd ⊢
  generalize (l.take (hdN w l.length)).map (·.1) = X at hlc ⊢
  generalize hdN w l.length = H at a3 ⊢
  rw [hTT] at a1
  rw [hc] at a2
  rw [hW, hL, hS] at hlc hcd ⊢
  have hne2 : cmpD .ne (.tuple (X.map .int)) (.tuple ((T.map PyData.int).take H)) = some (!decide (X = T.take H)) := by rw [htk]; exact hne _ _
  generalize hY : (T.map PyData.int).take H = Y at hne2
  clear htk hne
  generalize oI u = U at hcd ⊢
  cases b1 with
  | false =>
    refine ⟨fun h => (by cases h), fun _ => ?_⟩
    simp [runS, run, dOf, bOf, iOf, sOf, lOf, toD, fnD, a1, a2, hcd, Out.then]
  | true =>
    by_cases c3 : X = T.take H
    · rw [decide_eq_true c3] at hne2
      refine ⟨fun _ => ⟨_, ?_, .val (.int i), .val U, .val (oI w), .val (.int (T.length : Nat)), .val (.int (l.length : Nat)), .val (.tuple (X.map .int)), s10, s11, rfl⟩, fun h => ?_⟩
      · clear c3
        simp [runS, run, dOf, bOf, iOf, sOf, lOf, toD, fnD, a1, a2, a3, hcd, Out.then, hlc, cut_to, hY, hne2]
      · simp [c3] at h
    · rw [decide_eq_false c3] at hne2
      refine ⟨fun h => ?_, fun _ => ?_⟩
      · simp [c3] at h
      · clear c3
        simp [runS, run, dOf, bOf, iOf, sOf, lOf, toD, fnD, a1, a2, a3, hcd, Out.then, hlc, cut_to, hY, hne2]
theorem first_far_eq {r : Rw} {L : List (List Cell)} {W : List (List Int)} (h1 : r.length = L.length) (h2 : W.length = L.length) (h9 : L.length < 900) (hl9 : ∀ l ∈ L, l.length < 1000) : ∃ d, R_first_far [encRow r, encW W, encRd L] = some d ∧ (isNone d = true ↔ ∀ i, i < L.length → shAt r L W i = true) := by
  have hR : R_first_far [encRow r, encW W, encRd L] = outD (runS t_first_far c_first_far [.val (encRow r), .val (encW W), .val (encRd L), .non, .non, .non, .non, .non, .non, .non, .non, .non] none) := rfl
  have hC : c_first_far = (.asg 3 (.call 0 (.cons (.v 0) (.cons (.v 2) .nil))) (.for (.tup (.cons (.n 4) (.cons (.tup (.cons (.n 5) (.cons (.n 6) .nil))) .nil))) (.enum (.v 0)) ffB (.ret (.k .none)))) := rfl
  have ht0 : t_first_far.tb[0]? = some (("right_heads" : Str), R_right_heads) := rfl
  have hrh := right_heads_eq r L (by omega)
  have hlen := headsN_len r L h1
  have key := forGo_retI (p := none) (r := fun i => .int (i : Nat)) (f := fun d ρ1 q => ((Tg.tup (.cons (.n 4) (.cons (.tup (.cons (.n 5) (.cons (.n 6) .nil))) .nil))).asg d ρ1).bind fun ρ2 => runS t_first_far ffB ρ2 q) (enumD 0 (r.map encFa))
    (fun i ρ => ∃ s4 s5 s6 s7 s8 s9 s10 s11, ρ = [.val (encRow r), .val (encW W), .val (encRd L), .val (encT (castI (headsN r L))), s4, s5, s6, s7, s8, s9, s10, s11]) (fun i => shAt r L W i)
    (fun i d hd ρ ⟨s4, s5, s6, s7, s8, s9, s10, s11, e⟩ => by
      subst e
      obtain ⟨e, g1, rfl⟩ := enum_at hd
      rw [List.getElem?_map] at g1
      obtain ⟨f, g2, rfl⟩ := Option.map_eq_some_iff.mp g1
      have hi : i < r.length := (List.getElem?_eq_some_iff.mp g2).1
      have g3 : L[i]? = some (L[i]'(by omega)) := List.getElem?_eq_getElem (by omega)
      have g4 : W[i]? = some (W[i]'(by omega)) := List.getElem?_eq_getElem (by omega)
      obtain ⟨u, w⟩ := f
      have hv : shAt r L W i = shOk (u, w) (L[i]'(by omega)) (W[i]'(by omega)) := by simp [shAt, g2, g3, g4]
      have hh := headsN_at r L i _ _ g2 g3
      have hh2 : (castI (headsN r L))[i]? = some ((hdN w (L[i]'(by omega)).length : Nat) : Int) := by simp [castI, hh]
      obtain ⟨k1, k2⟩ := ff_step (v0 := .val (encRow r)) (s7 := s7) (s8 := s8) (s9 := s9) (s10 := s10) (s11 := s11) (r := r) (u := u) (w := w) g3 g4 hh2 (hl9 _ (List.mem_of_getElem? g3))
      rw [hv]
      refine ⟨fun hb => ?_, fun hb => ?_⟩
      · obtain ⟨ρ', e1, e2⟩ := k1 hb
        exact ⟨ρ', by simpa [Tg.asg, encFa] using e1, e2⟩
      · have := k2 hb
        simpa [Tg.asg, encFa] using this)
    [.val (encRow r), .val (encW W), .val (encRd L), .val (encT (castI (headsN r L))), .non, .non, .non, .non, .non, .non, .non, .non] ⟨.non, .non, .non, .non, .non, .non, .non, .non, rfl⟩
  rw [enumD_len, List.length_map, h1] at key
  rw [hR, hC]
  generalize ffB = B at key ⊢
  generalize (Tg.tup _) = TG at key ⊢
  have hrow : encRow r = .tuple (r.map encFa) := rfl
  rw [hrow] at key hrh ⊢
  rcases key with ⟨k1, ρ', k2, s4, s5, s6, s7, s8, s9, s10, s11, rfl⟩ | ⟨i, k1, k2, k3⟩
  · exact ⟨.none, by simp [runS, run, dOf, lOf, tOf, toD, ht0, hrh, k2, Out.then, outD], fun _ => k1, fun _ => rfl⟩
  · refine ⟨.int (i : Nat), by simp [runS, run, dOf, lOf, tOf, toD, ht0, hrh, k3, Out.then, outD], fun h => (by cases h), fun h => ?_⟩
    rw [h i k1] at k2
    cases k2
end Fs
-- FsK3
/-! The flats of few cells, by running. -/
namespace Fs
open PySem PySem.Spec PyProof.Rows L2
def cellsG (s : Int) : Int → List Int → List D
  | _, [] => []
  | j, c :: cs => .tuple [.int s, .int j, .int c] :: cellsG s (j + 1) cs
def cellsD : Int → List (List Int) → List D
  | _, [] => []
  | s, cs :: r => cellsG s 0 cs ++ cellsD (s + 1) r
def solS (p : Nat) (w : List (List Int)) (x : List Int) : Nat → List Int → Bool
  | _, [] => true
  | j, c :: cs => decide (c = valI p w x j) && solS p w x (j + 1) cs
def solA (p : Nat) (x : List Int) : List (List (List Int)) → List (List Int) → Bool
  | w :: ws, c :: cs => solS p w x 0 c && solA p x ws cs
  | _, _ => true
def addM (p : Int) : List Int → Int → List Int → List Int
  | a :: x, c, b :: y => (a + c * b) % p :: addM p x c y
  | _, _, _ => []
def spanM (p : Int) : List Int → List Int → List (List Int) → List Int
  | pt, c :: cs, w :: ws => spanM p (addM p pt c w) cs ws
  | pt, _, _ => pt
def inF (p : Nat) (f : Flat) (x : List Int) : Bool := (Xs p f.2.length).any fun cs => decide (x = spanM p f.1 cs f.2)
def flatsK : Nat → Nat → List Flat
  | 2, 1 => [([0], []), ([1], []), ([0], [[1]])]
  | 3, 1 => [([0], []), ([1], []), ([2], []), ([0], [[1]])]
  | 2, 2 => [([0, 0], []), ([0, 1], []), ([1, 0], []), ([1, 1], []), ([0, 0], [[0, 1]]), ([1, 0], [[0, 1]]), ([0, 0], [[1, 1]]), ([1, 0], [[1, 1]]), ([0, 0], [[1, 0]]), ([0, 1], [[1, 0]]), ([0, 0], [[1, 0], [0, 1]])]
  | _, _ => []
/-! flat_of behind `chosen`: the kept equations tell the flat -/
def kpC : C := (.lc (.bin .add (.ix (.ix (.v 2) (.v 9)) (.k (.int 0))) (.tup (.cons (.ix (.ix (.v 2) (.v 9)) (.k (.int 1))) .nil))) (.n 9) (.seq (.v 3)) [("index", 9)])
def tailF : S := (.asg 6 (.call 1 (.cons (.fn .tup (.cons (.v 5) .nil)) (.cons (.bin .add (.v 1) (.k (.int 1))) (.cons (.v 0) .nil)))) (.asg 7 (.bin .mul (.lst (.cons (.k (.int 0)) .nil)) (.v 1)) (.for (.n 8) (.seq (.v 6)) (.setL 7 (.call 2 (.cons (.v 8) (.cons (.v 1) .nil))) (.ix (.v 8) (.v 1)) .nil) (.frz 7 (.ret (.tup (.cons (.fn .tup (.cons (.v 7) .nil)) (.cons (.call 3 (.cons (.fn .tup (.cons (.lc (.slTo (.v 8) (.v 1)) (.n 8) (.seq (.v 6)) [("numbers", 8)]) .nil)) (.cons (.v 1) (.cons (.v 0) .nil)))) .nil))))))))
theorem c_flat_of_eq : c_flat_of = (.unp (.tup (.cons (.n 3) (.cons (.n 4) .nil))) (.call 0 (.cons (.v 0) (.cons (.v 1) (.cons (.v 2) .nil)))) (.ite (.isN true (.v 4)) (.ret (.k .none)) .nil (.asg 5 kpC (.frz 5 tailF)))) := rfl
def flSt (p k : Nat) (e idx s5 : Slot) : List Slot := [.val (.int (p : Nat)), .val (.int (k : Nat)), e, idx, .val .none, s5, .non, .non, .non, .non]
def kpD (p k : Nat) (e idx : D) : Option (List D) := match run t_flat_of kpC (flSt p k (.val e) (.val idx) .non) none with
  | some (.own kp, none) => some kp
  | _ => none
def tailD (p k : Nat) (e idx : D) (kp : List D) : Option D := outD (runS t_flat_of tailF (flSt p k (.val e) (.val idx) (.val (.list kp))) none)
theorem flat_split {p k : Nat} {e idx d : D} {kp : List D} (h1 : R_chosen [.int (p : Nat), .int (k : Nat), e] = some (.tuple [idx, .none])) (h2 : kpD p k e idx = some kp) (h3 : tailD p k e idx kp = some d) : R_flat_of [.int (p : Nat), .int (k : Nat), e] = some d := by
  have hR : R_flat_of [.int (p : Nat), .int (k : Nat), e] = outD (runS t_flat_of c_flat_of [.val (.int (p : Nat)), .val (.int (k : Nat)), .val e, .non, .non, .non, .non, .non, .non, .non] none) := rfl
  have ht0 : t_flat_of.tb[0]? = some (("chosen" : Str), R_chosen) := rfl
  have h2' : run t_flat_of kpC [.val (.int (p : Nat)), .val (.int (k : Nat)), .val e, .val idx, .val .none, .non, .non, .non, .non, .non] none = some (.own kp, none) := by
    unfold kpD flSt at h2
    split at h2
    · cases h2
      assumption
    · cases h2
  rw [hR, c_flat_of_eq, ← h3]
  unfold tailD flSt
  generalize kpC = KC at h2' ⊢
  generalize tailF = TF at h3 ⊢
  simp [runS, run, lOf, dOf, bOf, toD, ht0, h1, Tg.asg, isNone, Out.then, h2', freeze1]
theorem flat_none {p k : Nat} {e idx c : D} (h1 : R_chosen [.int (p : Nat), .int (k : Nat), e] = some (.tuple [idx, c])) (h2 : isNone c = false) : R_flat_of [.int (p : Nat), .int (k : Nat), e] = some .none := by
  have hR : R_flat_of [.int (p : Nat), .int (k : Nat), e] = outD (runS t_flat_of c_flat_of [.val (.int (p : Nat)), .val (.int (k : Nat)), .val e, .non, .non, .non, .non, .non, .non, .non] none) := rfl
  have ht0 : t_flat_of.tb[0]? = some (("chosen" : Str), R_chosen) := rfl
  rw [hR, c_flat_of_eq]
  generalize kpC = KC
  generalize tailF = TF
  simp [runS, run, lOf, dOf, bOf, toD, ht0, h1, Tg.asg, h2, Out.then, outD]
/-- kept equations, each row of weights with its right side -/
def eqsW : Nat → Nat → List (List Int)
  | p, 1 => (uptoN p).map fun c => [1, c]
  | p, _ => [[1, 0], [0, 1], [1, 1]].flatMap fun w => (uptoN p).map fun c => w ++ [c]
def keptsL (p k : Nat) : List (List (List Int)) := [[]] ++ ((eqsW p k).map fun r => [r]) ++ (if k = 1 then [] else (eqsW p k).flatMap fun r => ((eqsW p k).filter fun s => !decide (r.take 2 = s.take 2)).map fun s => [r, s])
def keepsI (p k : Nat) (kp : List (List Int)) (x : List Int) : Bool := kp.all fun r => decide (dotI (r.take k) x % (p : Nat) = (r.drop k).headD 0)
def flatOfK (p k : Nat) (kp : List (List Int)) : Option Flat := (flatsK p k).find? fun f => (Xs p k).all fun x => inF p f x == keepsI p k kp x
def keptsK (p k : Nat) : List (List (List Int) × Flat) := (keptsL p k).filterMap fun kp => (flatOfK p k kp).map fun f => (kp, f)
theorem tail21 (e idx : D) : ((keptsK 2 1).all fun z => isD (tailD 2 1 e idx (z.1.map encT)) (encF z.2) && decide (z.2 ∈ flatsK 2 1)) = true := by kernel_rfl
theorem tail31 (e idx : D) : ((keptsK 3 1).all fun z => isD (tailD 3 1 e idx (z.1.map encT)) (encF z.2) && decide (z.2 ∈ flatsK 3 1)) = true := by kernel_rfl
theorem tail22 (e idx : D) : ((keptsK 2 2).all fun z => isD (tailD 2 2 e idx (z.1.map encT)) (encF z.2) && decide (z.2 ∈ flatsK 2 2)) = true := by kernel_rfl
def okF (p k : Nat) (ws : List (List (List Int))) (conts : List (List Int)) : Bool := match R_equations_of [tbl ws, .int (k : Nat), .list (cellsD 0 conts)] with
  | some e => match R_chosen [.int (p : Nat), .int (k : Nat), e] with
    | some (.tuple [idx, .none]) => match kpD p k e idx with
      | some kp => (keptsK p k).any fun z => deqs kp (z.1.map encT) && (Xs p k).all fun x => solA p x ws conts == inF p z.2 x
      | none => false
    | some (.tuple [idx, c]) => !isNone c && (Xs p k).all fun x => !solA p x ws conts
    | _ => false
  | none => false
theorem okF_flat {p k : Nat} {ws : List (List (List Int))} {conts : List (List Int)} (hpk : (p, k) ∈ PK) (h : okF p k ws conts = true) : ∃ e d, R_equations_of [tbl ws, .int (k : Nat), .list (cellsD 0 conts)] = some e ∧ R_flat_of [.int (p : Nat), .int (k : Nat), e] = some d ∧
      ((d = .none ∧ ∀ x ∈ Xs p k, solA p x ws conts = false) ∨ ∃ f ∈ flatsK p k, d = encF f ∧ ∀ x ∈ Xs p k, solA p x ws conts = inF p f x) := by
  have htail : ∀ e idx, ((keptsK p k).all fun z => isD (tailD p k e idx (z.1.map encT)) (encF z.2) && decide (z.2 ∈ flatsK p k)) = true := by
    unfold PK at hpk
    simp only [List.mem_cons, List.not_mem_nil, or_false, Prod.mk.injEq] at hpk
    rcases hpk with ⟨rfl, rfl⟩ | ⟨rfl, rfl⟩ | ⟨rfl, rfl⟩
    · exact tail21
    · exact tail31
    · exact tail22
  unfold okF at h
  split at h
  · rename_i e he
    split at h
    · rename_i idx hc
      split at h
      · rename_i kp hk
        rw [List.any_eq_true] at h
        obtain ⟨z, hz, h2⟩ := h
        rw [Bool.and_eq_true, List.all_eq_true] at h2
        have ht := List.all_eq_true.mp (htail e idx) z hz
        rw [Bool.and_eq_true, decide_eq_true_eq] at ht
        rw [deqs_eq h2.1] at hk
        exact ⟨e, encF z.2, he, flat_split hc hk (isD_eq ht.1), .inr ⟨z.2, ht.2, rfl, fun x hx => by simpa using h2.2 x hx⟩⟩
      · cases h
    · rename_i idx c _ hc
      rw [Bool.and_eq_true, List.all_eq_true] at h
      exact ⟨e, .none, he, flat_none hc (by simpa using h.1), .inl ⟨rfl, fun x hx => by simpa using h.2 x hx⟩⟩
    · cases h
  · cases h
def listsK {α : Type} (xs : List α) : Nat → List (List α)
  | 0 => [[]]
  | n + 1 => [] :: (listsK xs n).flatMap fun r => xs.map fun x => x :: r
def conts1 (p : Nat) : List (List (List Int)) := (listsK (uptoN p) 3).map fun a => [a]
def conts2 (p : Nat) : List (List (List Int)) := (listsK (uptoN p) 2).flatMap fun a => (listsK (uptoN p) 2).map fun b => [a, b]
theorem f21a : (conts1 2).all (okF 2 1 [[[1]]]) = true := by decide +kernel
theorem f21b : (conts2 2).all (okF 2 1 [[[1]], [[1]]]) = true := by decide +kernel
theorem f31a : (conts1 3).all (okF 3 1 [[[1]]]) = true := by decide +kernel
theorem f31b : ((conts2 3).take 60).all (okF 3 1 [[[1]], [[1]]]) = true := by decide +kernel
theorem f31c : (((conts2 3).drop 60).take 60).all (okF 3 1 [[[1]], [[1]]]) = true := by decide +kernel
theorem f31d : (((conts2 3).drop 60).drop 60).all (okF 3 1 [[[1]], [[1]]]) = true := by decide +kernel
theorem f22a : (([0, 1, 2] : List Int).all fun a => (conts1 2).all (okF 2 2 [wpt 2 2 a])) = true := by decide +kernel
theorem f22b : (conts2 2).all (okF 2 2 [wpt 2 2 0, wpt 2 2 1]) = true := by decide +kernel
theorem f22c : (conts2 2).all (okF 2 2 [wpt 2 2 0, wpt 2 2 2]) = true := by decide +kernel
theorem f22d : (conts2 2).all (okF 2 2 [wpt 2 2 1, wpt 2 2 0]) = true := by decide +kernel
theorem f22e : (conts2 2).all (okF 2 2 [wpt 2 2 1, wpt 2 2 2]) = true := by decide +kernel
theorem f22f : (conts2 2).all (okF 2 2 [wpt 2 2 2, wpt 2 2 0]) = true := by decide +kernel
theorem f22g : (conts2 2).all (okF 2 2 [wpt 2 2 2, wpt 2 2 1]) = true := by decide +kernel
end Fs
-- FsKa
/-! The reader: the cells of each batch. -/
namespace Fs
open PySem PySem.Spec PyProof.Rows L2
def kv (o : List Int) (f : Int → D) : List (D × D) := o.map fun n => (.int n, f n)
theorem getK_kv (f : Int → D) (n : Int) : ∀ o : List Int, getK (kv o f) n = if n ∈ o then some (f n) else none
  | [] => by simp [kv, getK]
  | a :: o => by
    have ih := getK_kv f n o
    unfold kv at ih ⊢
    rw [List.map_cons, getK]
    by_cases h : a = n
    · subst h; simp
    · have : ¬ n = a := fun e => h e.symm
      rw [if_neg h, ih]
      simp [this]
theorem kv_congr {o : List Int} {f g : Int → D} (h : ∀ n ∈ o, f n = g n) : kv o f = kv o g := by
  unfold kv
  exact List.map_congr_left fun n hn => by rw [h n hn]
theorem setK_kv (f : Int → D) (n : Int) (d : D) : ∀ o : List Int, o.Nodup → setK (kv o f) n d = kv (if n ∈ o then o else o ++ [n]) (fun x => if x = n then d else f x)
  | [], _ => by simp [kv, setK]
  | a :: o, hn => by
    obtain ⟨h1, h2⟩ := List.nodup_cons.mp hn
    have ih := setK_kv f n d o h2
    show setK ((.int a, f a) :: kv o f) n d = _
    rw [setK]
    by_cases h : a = n
    · subst h
      rw [if_pos rfl, if_pos List.mem_cons_self]
      have := kv_congr (o := o) (f := f) (g := fun x => if x = a then d else f x) fun m hm => (if_neg fun e => h1 (by rw [← e]; exact hm)).symm
      show _ = (.int a, if a = a then d else f a) :: kv o _
      rw [if_pos rfl, this]
    · rw [if_neg h, ih]
      have hna : ¬ n = a := fun e => h e.symm
      by_cases hm : n ∈ o
      · rw [if_pos hm, if_pos (List.mem_cons_of_mem _ hm)]
        show _ = (.int a, if a = n then d else f a) :: kv o _
        rw [if_neg h]
      · rw [if_neg hm, if_neg (by simp [hna, hm])]
        show _ = (.int a, if a = n then d else f a) :: kv (o ++ [n]) _
        rw [if_neg h]
theorem keysD_kv (f : Int → D) : ∀ o : List Int, keysD (kv o f) = o
  | [] => rfl
  | a :: o => by
    show a :: keysD (kv o f) = _
    rw [keysD_kv f o]
def cont (n : Int) (cells : List Cell) : List Int := (cells.filter fun c => decide (c.1 = n)).map (·.2)
def B01 (o : List Int) : Prop := o.Nodup ∧ ∀ n ∈ o, n = 0 ∨ n = 1
theorem B01.len {o : List Int} (h : B01 o) : o.length ≤ 2 := nodup_len (X := [0, 1]) h.1 fun n hn => by simpa using h.2 n hn
theorem B01.add {o : List Int} (h : B01 o) {n : Int} (hn : n = 0 ∨ n = 1) : B01 (if n ∈ o then o else o ++ [n]) := by
  by_cases hm : n ∈ o
  · rw [if_pos hm]; exact h
  · rw [if_neg hm]
    refine ⟨?_, fun m hm' => ?_⟩
    · rw [List.nodup_append]
      refine ⟨h.1, by simp, fun a ha c hc => ?_⟩
      rw [List.mem_singleton.mp hc]
      exact fun e => hm (by rw [← e]; exact ha)
    · rcases List.mem_append.mp hm' with h' | h'
      · exact h.2 m h'
      · rw [List.mem_singleton.mp h']; exact hn
theorem mem_add {o : List Int} {n m : Int} : m ∈ (if n ∈ o then o else o ++ [n]) ↔ m ∈ o ∨ m = n := by
  by_cases hm : n ∈ o
  · rw [if_pos hm]
    exact ⟨.inl, fun h => h.elim id fun e => by rw [e]; exact hm⟩
  · rw [if_neg hm]
    simp
theorem cbTape_eq (s : Int) : ∀ (cells : List Cell) (o' : List Int) (cnt : Int → Int) (o : List Int) (lst : Int → List D), (∀ c ∈ cells, c.1 = 0 ∨ c.1 = 1) → B01 o' → (∀ n, n ∉ o' → cnt n = 0) → B01 o → (∀ n, n ∉ o → lst n = []) → (∀ n, (lst n).length + cells.length < 1000) →
    ∃ o2, cbTape s (cells.map encC) (kv o' fun n => .int (cnt n)) (kv o fun n => .list (lst n)) = some (kv o2 fun n => .list (lst n ++ cellsG s (cnt n) (cont n cells))) ∧ B01 o2 ∧ ∀ n, n ∈ o2 ↔ n ∈ o ∨ cont n cells ≠ []
  | [], o', cnt, o, lst, _, _, _, h4, _, _ => ⟨o, by simp [cbTape, cont, cellsG], h4, fun n => by simp [cont]⟩
  | (n, c) :: cells, o', cnt, o, lst, h1, h2, h3, h4, h5, h6 => by
    have hn : n = 0 ∨ n = 1 := h1 (n, c) List.mem_cons_self
    have hlen : ∀ x, (if x = n then lst n ++ [PyData.tuple [.int s, .int (cnt n), .int c]] else lst x).length + cells.length < 1000 := fun x => by
      have := h6 x
      have := h6 n
      simp only [List.length_cons] at *
      split
      · simp; omega
      · omega
    obtain ⟨o2, e, g1, g2⟩ := cbTape_eq s cells (if n ∈ o' then o' else o' ++ [n]) (fun x => if x = n then cnt n + 1 else cnt x) (if n ∈ o then o else o ++ [n]) (fun x => if x = n then lst n ++ [.tuple [.int s, .int (cnt n), .int c]] else lst x)
      (fun z hz => h1 z (List.mem_cons_of_mem _ hz)) (h2.add hn) (fun m hm => by
        rw [mem_add] at hm
        have hmn : ¬ m = n := fun e => hm (.inr e)
        show (if m = n then _ else _) = _
        rw [if_neg hmn]
        exact h3 m fun h => hm (.inl h)) (h4.add hn) (fun m hm => by
        rw [mem_add] at hm
        have hmn : ¬ m = n := fun e => hm (.inr e)
        show (if m = n then _ else _) = _
        rw [if_neg hmn]
        exact h5 m fun h => hm (.inl h)) hlen
    refine ⟨o2, ?_, g1, fun m => ?_⟩
    · have hg : (getK (kv o' fun n => .int (cnt n)) n).getD (.int 0) = .int (cnt n) := by
        rw [getK_kv]
        by_cases hm : n ∈ o'
        · rw [if_pos hm]; rfl
        · rw [if_neg hm, h3 n hm]; rfl
      have hset : cbSet (kv o fun n => .list (lst n)) n (.tuple [.int s, .int (cnt n), .int c]) = kv (if n ∈ o then o else o ++ [n]) fun x => .list (if x = n then lst n ++ [.tuple [.int s, .int (cnt n), .int c]] else lst x) := by
        unfold cbSet
        rw [getK_kv]
        by_cases hm : n ∈ o
        · rw [if_pos hm]
          show setK _ n (.list (lst n ++ _)) = _
          rw [setK_kv _ _ _ _ h4.1]
          refine kv_congr fun x _ => ?_
          by_cases hx : x = n <;> simp [hx]
        · rw [if_neg hm]
          show setK _ n (.list [_]) = _
          rw [setK_kv _ _ _ _ h4.1]
          refine kv_congr fun x _ => ?_
          by_cases hx : x = n <;> simp [hx, h5 n hm]
      have hpl : setK (kv o' fun n => .int (cnt n)) n (.int (cnt n + 1)) = kv (if n ∈ o' then o' else o' ++ [n]) fun x => .int (if x = n then cnt n + 1 else cnt x) := by
        rw [setK_kv _ _ _ _ h2.1]
        refine kv_congr fun x _ => ?_
        by_cases hx : x = n <;> simp [hx]
      have hcond : (kv o' fun n => .int (cnt n)).length < 1000 ∧ (kv o fun n => .list (lst n)).length < 1000 ∧ (keysD (kv o' fun n => .int (cnt n))).Nodup ∧ ((kv o fun n => .list (lst n)).all fun z => decide (lenD z.2 < 1000)) = true := by
        have l1 := h2.len
        have l2 := h4.len
        refine ⟨by simp [kv]; omega, by simp [kv]; omega, by rw [keysD_kv]; exact h2.1, ?_⟩
        rw [List.all_eq_true]
        intro z hz
        obtain ⟨m, _, rfl⟩ := List.mem_map.mp hz
        have := h6 m
        exact decide_eq_true (show (lst m).length < 1000 by omega)
      rw [List.map_cons]
      show cbTape s (.tuple [.int n, .int c] :: cells.map encC) _ _ = _
      rw [cbTape, hg]
      show (if _ then _ else _) = _
      rw [if_pos hcond, hset, hpl, e]
      congr 1
      refine kv_congr fun x _ => ?_
      by_cases hx : x = n
      · subst hx
        simp [cont, cellsG]
      · have : ¬ n = x := fun e => hx e.symm
        simp [cont, hx, this]
    · rw [g2, mem_add]
      by_cases hx : n = m
      · subst hx
        simp [cont]
      · have : ¬ m = n := fun e => hx e.symm
        simp [cont, hx, this]
def conts (n : Int) : List (List Cell) → List Nat → List (List Int)
  | l :: L, h :: hs => cont n (l.take h) :: conts n L hs
  | _, _ => []
theorem cellsG_len (s : Int) : ∀ (cs : List Int) (j : Int), (cellsG s j cs).length = cs.length
  | [], _ => rfl
  | _ :: cs, j => by simp [cellsG, cellsG_len s cs]
theorem cont_len (n : Int) (cells : List Cell) : (cont n cells).length ≤ cells.length := by
  unfold cont
  rw [List.length_map]
  exact List.length_filter_le _ _
theorem cbGo_eq (ls : List D) : ∀ (L : List (List Cell)) (hs : List Nat) (s : Nat) (o : List Int) (lst : Int → List D), L.length = hs.length → (∀ (i h : Nat), hs[i]? = some h → atI ls ((s + i : Nat) : Int) = some (.int (h : Nat))) → (∀ l ∈ L, l.length ≤ 3 ∧ ∀ c ∈ l, c.1 = 0 ∨ c.1 = 1) → B01 o → (∀ n, n ∉ o → lst n = []) → (∀ n, (lst n).length + 10 * L.length < 900) →
    ∃ o2, cbGo ls (s : Nat) (L.map encCs) (kv o fun n => .list (lst n)) = some (kv o2 fun n => .list (lst n ++ cellsD (s : Nat) (conts n L hs))) ∧ B01 o2 ∧ ∀ n, n ∈ o2 ↔ n ∈ o ∨ ∃ c ∈ conts n L hs, c ≠ []
  | [], [], s, o, lst, _, _, _, h4, _, _ => ⟨o, by simp [cbGo, conts, cellsD], h4, fun n => by simp [conts]⟩
  | [], _ :: _, _, _, _, h, _, _, _, _, _ => by cases h
  | _ :: _, [], _, _, _, h, _, _, _, _, _ => by cases h
  | l :: L, h :: hs, s, o, lst, h1, h2, h3, h4, h5, h6 => by
    obtain ⟨hl3, hlc⟩ := h3 l List.mem_cons_self
    have htl : (l.take h).length ≤ 3 := by rw [List.length_take]; omega
    obtain ⟨o1, e1, g1, g2⟩ := cbTape_eq (s : Nat) (l.take h) [] (fun _ => 0) o lst (fun c hc => hlc c (List.mem_of_mem_take hc)) ⟨List.nodup_nil, fun n hn => (by cases hn)⟩ (fun _ _ => rfl) h4 h5 (fun n => by
      have := h6 n
      simp only [List.length_cons] at this
      omega)
    obtain ⟨o2, e2, g3, g4⟩ := cbGo_eq ls L hs (s + 1) o1 (fun n => lst n ++ cellsG (s : Nat) 0 (cont n (l.take h))) (by simpa using h1) (fun i h' hh => by
      have := h2 (i + 1) h' (by simpa using hh)
      rw [show s + 1 + i = s + (i + 1) by omega]
      exact this) (fun z hz => h3 z (List.mem_cons_of_mem _ hz)) g1 (fun n hn => by
        rw [g2] at hn
        have a1 : n ∉ o := fun h => hn (.inl h)
        have a2 : cont n (l.take h) = [] := Classical.byContradiction fun h => hn (.inr h)
        rw [h5 n a1, a2]
        rfl) (fun n => by
        have := h6 n
        have := cont_len n (l.take h)
        rw [List.length_append, cellsG_len]
        simp only [List.length_cons] at *
        omega)
    refine ⟨o2, ?_, g3, fun n => ?_⟩
    · rw [List.map_cons]
      show cbGo ls (s : Nat) (.tuple (l.map encC) :: L.map encCs) _ = _
      have h20 : atI ls ((s : Nat) : Int) = some (.int (h : Nat)) := h2 0 h rfl
      rw [cbGo, h20]
      show (cbTape _ (cutD (l.map encC) none (some ((h : Nat) : Int))) [] _).bind _ = _
      rw [cut_to, show (l.map encC).take h = (l.take h).map encC by rw [List.map_take]]
      have e1' : cbTape (s : Nat) ((l.take h).map encC) [] (kv o fun n => .list (lst n)) = _ := e1
      rw [e1', Option.bind_some]
      rw [show ((s : Nat) : Int) + 1 = ((s + 1 : Nat) : Int) by push_cast; rfl, e2]
      congr 1
      refine kv_congr fun x _ => ?_
      simp [conts, cellsD, List.append_assoc]
    · rw [g4, g2]
      simp [conts, or_assoc]
theorem cells_by_eq {L : List (List Cell)} {hs : List Nat} (h1 : L.length = hs.length) (h2 : L.length ≤ 8) (h3 : ∀ l ∈ L, l.length ≤ 3 ∧ ∀ c ∈ l, c.1 = 0 ∨ c.1 = 1) :
    ∃ o, R_cells_by [encRd L, encT (castI hs)] = some (kv o fun n => .list (cellsD 0 (conts n L hs))) ∧ B01 o ∧ ∀ n, n ∈ o ↔ ∃ c ∈ conts n L hs, c ≠ [] := by
  obtain ⟨o, e, g1, g2⟩ := cbGo_eq ((castI hs).map .int) L hs 0 [] (fun _ => []) h1 (fun i h hh => by
    refine at_map ?_
    rw [Nat.zero_add, castI, List.getElem?_map, hh]
    rfl) h3 ⟨List.nodup_nil, fun n hn => (by cases hn)⟩ (fun _ _ => rfl) (fun n => by simp; omega)
  refine ⟨o, ?_, g1, fun n => ?_⟩
  · simp only [List.nil_append] at e
    exact e
  · rw [g2]
    simp
end Fs
-- FsKb
/-! The reader: flats of a row. -/
namespace Fs
open PySem PySem.Spec PyProof.Rows L2
theorem listsK_mem {α : Type} {xs : List α} : ∀ (n : Nat) (t : List α), t.length ≤ n → (∀ m ∈ t, m ∈ xs) → t ∈ listsK xs n
  | 0, t, h, _ => by
    rw [List.length_eq_zero_iff.mp (Nat.le_zero.mp h)]
    simp [listsK]
  | n + 1, [], _, _ => by simp [listsK]
  | n + 1, a :: t, h, hm => by
    have := listsK_mem n t (by simpa using h) fun m h' => hm m (List.mem_cons_of_mem _ h')
    unfold listsK
    exact List.mem_cons_of_mem _ (List.mem_flatMap.mpr ⟨t, this, List.mem_map.mpr ⟨a, hm a List.mem_cons_self, rfl⟩⟩)
abbrev WTab := Nat × Nat × List (List (List Int))
def WTb : List WTab := [(2, 1, [[[1]]]), (2, 1, [[[1]], [[1]]]), (3, 1, [[[1]]]), (3, 1, [[[1]], [[1]]]), (2, 2, [wpt 2 2 0]), (2, 2, [wpt 2 2 1]), (2, 2, [wpt 2 2 2]), (2, 2, [wpt 2 2 0, wpt 2 2 1]), (2, 2, [wpt 2 2 0, wpt 2 2 2]), (2, 2, [wpt 2 2 1, wpt 2 2 0]), (2, 2, [wpt 2 2 1, wpt 2 2 2]), (2, 2, [wpt 2 2 2, wpt 2 2 0]), (2, 2, [wpt 2 2 2, wpt 2 2 1])]
theorem tab_WT : (GL.all fun g => decide ((g.1, g.2.1, wss g) ∈ WTb)) = true := by decide +kernel
def contsL (p m : Nat) : List (List (List Int)) := if m = 1 then conts1 p else conts2 p
theorem f31 : (conts2 3).all (okF 3 1 [[[1]], [[1]]]) = true := by
  rw [List.all_eq_true]
  intro c hc
  rw [← List.take_append_drop 60 (conts2 3), List.mem_append] at hc
  rcases hc with hc | hc
  · exact List.all_eq_true.mp f31b c hc
  · rw [← List.take_append_drop 60 ((conts2 3).drop 60), List.mem_append] at hc
    rcases hc with hc | hc
    · exact List.all_eq_true.mp f31c c hc
    · exact List.all_eq_true.mp f31d c hc
theorem f22A (a : Int) (h : a ∈ ([0, 1, 2] : List Int)) : (conts1 2).all (okF 2 2 [wpt 2 2 a]) = true := List.all_eq_true.mp f22a a h
theorem WT_ok : ∀ w ∈ WTb, (contsL w.1 w.2.2.length).all (okF w.1 w.2.1 w.2.2) = true := by
  intro w hw
  unfold WTb at hw
  simp only [List.mem_cons, List.not_mem_nil, or_false] at hw
  rcases hw with rfl | rfl | rfl | rfl | rfl | rfl | rfl | rfl | rfl | rfl | rfl | rfl | rfl
  · exact f21a
  · exact f21b
  · exact f31a
  · exact f31
  · exact f22A 0 (by decide)
  · exact f22A 1 (by decide)
  · exact f22A 2 (by decide)
  · exact f22b
  · exact f22c
  · exact f22d
  · exact f22e
  · exact f22f
  · exact f22g
def wholeF (k : Nat) : Flat := if k = 1 then ([0], [[1]]) else ([0, 0], [[1, 0], [0, 1]])
theorem tab_whole : (PK.all fun z => isD (R_whole_flat [.int (z.2 : Nat)]) (encF (wholeF z.2)) && decide (wholeF z.2 ∈ flatsK z.1 z.2) && (Xs z.1 z.2).all (inF z.1 (wholeF z.2)) && (flatsK z.1 z.2).all (fun f => (Xs z.1 z.2).any (inF z.1 f)) && !(Xs z.1 z.2).isEmpty) = true := by decide +kernel
/-- what holds of a ground -/
structure GroundF (p k : Nat) (pts : List Int) : Prop where
  pk : (p, k) ∈ PK
  k12 : k = 1 ∨ k = 2
  m12 : pts.length = 1 ∨ pts.length = 2
  wtb : (p, k, wss (p, k, pts)) ∈ WTb
  made : R_made_ground [encG (p, k, pts)] = some (encG (p, k, pts))
  shv : R_shelves [encG (p, k, pts)] = some (.int (pts.length : Nat))
  tbl : R_weights_table [encG (p, k, pts)] = some (tbl (wss (p, k, pts)))
  ptm : ∀ pt ∈ pts, pt ∈ uptoN (p + 1)
theorem tab_GL2 : (GL.all fun g => decide ((g.1, g.2.1) ∈ PK) && decide (g.2.1 = 1 ∨ g.2.1 = 2) && decide (g.2.2.length = 1 ∨ g.2.2.length = 2) && g.2.2.all fun pt => decide (pt ∈ uptoN (g.1 + 1))) = true := by decide +kernel
theorem groundF {p k : Nat} {pts : List Int} (h : (p, k, pts) ∈ GL) : GroundF p k pts := by
  have h1 := List.all_eq_true.mp tab_GL2 _ h
  have h2 := List.all_eq_true.mp tab_ground _ h
  have h3 := List.all_eq_true.mp tab_WT _ h
  simp only [Bool.and_eq_true, decide_eq_true_eq, List.all_eq_true] at h1 h2 h3
  exact ⟨h1.1.1.1, h1.1.1.2, h1.1.2, h3, isD_eq h2.1.1, isD_eq h2.1.2, isD_eq h2.2, h1.2⟩
theorem GroundF.wlen {p k : Nat} {pts : List Int} (G : GroundF p k pts) : (wss (p, k, pts)).length = pts.length := by simp [wss]
theorem GroundF.written {p k : Nat} {pts : List Int} (G : GroundF p k pts) {pt : Int} (hp : pt ∈ pts) {x : List Int} (hx : x ∈ Xs p k) : R_written_out [.int (p : Nat), encT x, .int pt] = some (rowD p k (wpt p k pt) x) :=
  isD_eq (List.all_eq_true.mp (List.all_eq_true.mp (List.all_eq_true.mp tab_written _ G.pk) _ (G.ptm pt hp)) _ hx)
/-- equations and their flat -/
theorem GroundF.flat {p k : Nat} {pts : List Int} (G : GroundF p k pts) {cs : List (List Int)} (hl : cs.length = pts.length) (hc : ∀ c ∈ cs, c.length + pts.length ≤ 4 ∧ ∀ v ∈ c, v ∈ uptoN p) :
    ∃ e d, R_equations_of [Fs.tbl (wss (p, k, pts)), .int (k : Nat), .list (cellsD 0 cs)] = some e ∧ R_flat_of [.int (p : Nat), .int (k : Nat), e] = some d ∧
      ((d = .none ∧ ∀ x ∈ Xs p k, solA p x (wss (p, k, pts)) cs = false) ∨ ∃ f ∈ flatsK p k, d = encF f ∧ ∀ x ∈ Xs p k, solA p x (wss (p, k, pts)) cs = inF p f x) := by
  have hcs : cs ∈ contsL p (wss (p, k, pts)).length := by
    rw [G.wlen]
    unfold contsL
    rcases G.m12 with h | h
    · rw [if_pos h]
      match cs, hl with
      | [a], _ =>
        obtain ⟨h1, h2⟩ := hc a (by simp)
        exact List.mem_map.mpr ⟨a, listsK_mem 3 a (by omega) h2, rfl⟩
      | [], e => simp [h] at e
      | _ :: _ :: _, e => simp [h] at e
    · rw [if_neg (by omega)]
      match cs, hl with
      | [a, b], _ =>
        obtain ⟨h1, h2⟩ := hc a (by simp)
        obtain ⟨h3, h4⟩ := hc b (by simp)
        exact List.mem_flatMap.mpr ⟨a, listsK_mem 2 a (by omega) h2, List.mem_map.mpr ⟨b, listsK_mem 2 b (by omega) h4, rfl⟩⟩
      | [], e => simp [h] at e
      | [_], e => simp [h] at e
      | _ :: _ :: _ :: _, e => simp [h] at e
  have hk := List.all_eq_true.mp (WT_ok _ G.wtb) cs hcs
  exact okF_flat G.pk hk
/-! ### flats_in -/
def fiB : S := (.asg 10 (.call 0 (.cons (.v 4) (.cons (.v 5) (.cons (.call 1 (.cons (.v 1) (.cons (.v 5) (.cons (.v 9) .nil)))) .nil)))) (.ite (.isN false (.v 10)) (.ret (.k .none)) .nil (.setD 7 (.v 8) (.v 10) .nil)))
theorem c_flats_in_eq : c_flats_in = (.unp (.tup (.cons (.n 4) (.cons (.n 5) (.cons (.n 6) .nil)))) (.v 0) (.asg 7 .dic (.for (.tup (.cons (.n 8) (.cons (.n 9) .nil))) (.items 0 (.cons (.v 2) (.cons (.v 3) .nil))) fiB (.frz 7 (.ret (.v 7)))))) := rfl
def flO : Option Flat → D
  | none => .none
  | some f => encF f
theorem flats_in_eq {p k : Nat} {pts : List Int} {T rd hs : D} {o : List Int} {lst : Int → List D} {fl : Int → Option Flat} (ho : B01 o) (hcb : R_cells_by [rd, hs] = some (kv o fun n => .list (lst n))) (hfl : ∀ n ∈ o, ∃ e, R_equations_of [T, .int (k : Nat), .list (lst n)] = some e ∧ R_flat_of [.int (p : Nat), .int (k : Nat), e] = some (flO (fl n))) :
    ((∀ n ∈ o, (fl n).isSome = true) ∧ R_flats_in [encG (p, k, pts), T, rd, hs] = some (.dict (kv o fun n => flO (fl n)))) ∨ ((∃ n ∈ o, fl n = none) ∧ R_flats_in [encG (p, k, pts), T, rd, hs] = some .none) := by
  have hR : R_flats_in [encG (p, k, pts), T, rd, hs] = outD (runS t_flats_in c_flats_in [.val (encG (p, k, pts)), .val T, .val rd, .val hs, .non, .non, .non, .non, .non, .non, .non] none) := rfl
  have ht0 : t_flats_in.tb[0]? = some (("flat_of" : Str), R_flat_of) := rfl
  have ht1 : t_flats_in.tb[1]? = some (("equations_of" : Str), R_equations_of) := rfl
  have htn : t_flats_in.tn[0]? = some (("cells_by" : Str), R_cells_by) := rfl
  have key := forGo_ret (p := none) (r := .none) (f := fun d ρ1 q => ((Tg.tup (.cons (.n 8) (.cons (.n 9) .nil))).asg d ρ1).bind fun ρ2 => runS t_flats_in fiB ρ2 q) ((kv o fun n => .list (lst n)).map fun z => .tuple [z.1, z.2])
    (fun i ρ => ∃ s8 s9 s10, ρ = [.val (encG (p, k, pts)), .val T, .val rd, .val hs, .val (.int (p : Nat)), .val (.int (k : Nat)), .val (encT pts), .odic (kv (o.take i) fun n => flO (fl n)), s8, s9, s10]) (fun i => match o[i]? with | some n => (fl n).isSome | none => true)
    (fun i d hd ρ ⟨s8, s9, s10, e⟩ => by
      subst e
      unfold kv at hd
      rw [List.map_map, List.getElem?_map] at hd
      obtain ⟨n, h2, rfl⟩ := Option.map_eq_some_iff.mp hd
      have hi : i < o.length := (List.getElem?_eq_some_iff.mp h2).1
      have hno := List.mem_of_getElem? h2
      obtain ⟨e, h3, h4⟩ := hfl n hno
      rw [h2]
      simp only [Function.comp]
      have hl2 := ho.len
      have hnt : n ∉ o.take i := fun hm => by
        obtain ⟨j, hj, e⟩ := List.mem_iff_getElem.mp hm
        rw [List.length_take] at hj
        rw [List.getElem_take] at e
        have hji : j = i := (List.getElem?_inj (by omega) ho.1).mp (by rw [List.getElem?_eq_getElem (by omega), h2, e])
        omega
      refine ⟨fun hb => ?_, fun hb => ?_⟩
      · obtain ⟨f, hf⟩ := Option.isSome_iff_exists.mp hb
        rw [hf] at h4
        have hset : setK (kv (o.take i) fun n => flO (fl n)) n (flO (some f)) = kv (o.take (i + 1)) fun n => flO (fl n) := by
          rw [setK_kv _ _ _ _ (ho.1.sublist (List.take_sublist _ _)), if_neg hnt, List.take_add_one, h2]
          refine kv_congr fun x _ => ?_
          by_cases hx : x = n
          · rw [if_pos hx, hx, hf]
          · rw [if_neg hx]
        refine ⟨_, ?_, .val (.int n), .val (.list (lst n)), .val (flO (some f)), rfl⟩
        rw [← hset]
        have hkn : (keysD (kv (o.take i) fun n => flO (fl n))).Nodup := by rw [keysD_kv]; exact ho.1.sublist (List.take_sublist _ _)
        have hkl : (kv (o.take i) fun n => flO (fl n)).length < 1000 := by simp [kv]; omega
        generalize (kv (o.take i) fun n => flO (fl n)) = KV at *
        have hN : isNone (flO (some f)) = false := rfl
        clear hset
        generalize flO (some f) = F at *
        unfold fiB
        simp [Tg.asg, runS, run, dOf, lOf, iOf, bOf, toD, ht0, ht1, h3, h4, hN, Out.then, hkn, hkl]
      · have hf : fl n = none := by
          cases h : fl n with
          | none => rfl
          | some f => rw [h] at hb; cases hb
        rw [hf, show flO none = .none from rfl] at h4
        generalize (kv (o.take i) fun n => flO (fl n)) = KV
        unfold fiB
        simp [Tg.asg, runS, run, dOf, lOf, iOf, bOf, toD, ht0, ht1, h3, h4, isNone, Out.then])
    [.val (encG (p, k, pts)), .val T, .val rd, .val hs, .val (.int (p : Nat)), .val (.int (k : Nat)), .val (encT pts), .odic [], .non, .non, .non] ⟨.non, .non, .non, rfl⟩
  have hlen : (((kv o fun n => .list (lst n)).map fun z => PyData.tuple [z.1, z.2])).length = o.length := by simp [kv]
  rw [hlen] at key
  have hG : encG (p, k, pts) = .tuple [.int (p : Nat), .int (k : Nat), encT pts] := rfl
  rw [hR, c_flats_in_eq]
  generalize fiB = B at key ⊢
  rcases key with ⟨k1, ρ', k2, s8, s9, s10, rfl⟩ | ⟨⟨i, k1, k2⟩, k3⟩
  · left
    refine ⟨fun n hn => ?_, ?_⟩
    · obtain ⟨i, hi, e⟩ := List.mem_iff_getElem.mp hn
      have := k1 i hi
      rw [List.getElem?_eq_getElem hi, e] at this
      exact this
    · rw [List.take_of_length_le (Nat.le_refl _)] at k2
      generalize hTG : (Tg.tup (.cons (.n 8) (.cons (.n 9) .nil))) = TG at k2 ⊢
      rw [hG] at k2 ⊢
      generalize (kv o fun n => PyData.list (lst n)) = Z at *
      simp [Tg.asg, runS, run, dOf, lOf, toD, htn, hcb, k2, Out.then, freeze1, outD]
  · right
    refine ⟨?_, ?_⟩
    · rw [List.getElem?_eq_getElem k1] at k2
      refine ⟨o[i], List.getElem_mem _, ?_⟩
      cases h : fl o[i] with
      | none => rfl
      | some f =>
        simp only [h] at k2
        cases k2
    · generalize hTG : (Tg.tup (.cons (.n 8) (.cons (.n 9) .nil))) = TG at k3 ⊢
      rw [hG] at k3 ⊢
      generalize (kv o fun n => PyData.list (lst n)) = Z at *
      simp [Tg.asg, runS, run, dOf, lOf, toD, htn, hcb, k3, Out.then, freeze1, outD]
end Fs
-- FsKd
/-! Answers over few flats, by running. -/
namespace Fs
open PySem PySem.Spec PyProof.Rows L2
def ansD (p k : Nat) (lot : List Flat) : Option D := match lot with
  | [] => some (.tuple [.str "none"])
  | lot => (R_agreed [.int (k : Nat), .list (lot.map encF)]).bind fun a => match a with
    | .tuple ns => match cmpD .notin .none (.tuple ns) with
      | some true => some (.tuple [.str "told", .tuple ns])
      | some false => (R_two_unlike [.int (p : Nat), .list (lot.map encF)]).bind fun t => match t with
        | .tuple [u, v] => some (.tuple [.str "open", .tuple ns, u, v])
        | _ => none
      | none => none
    | _ => none
def lotSet (p k : Nat) (lot : List Flat) : List (List Int) := (Xs p k).filter fun x => lot.any fun f => inF p f x
def dueOk (pts : D) (p k : Nat) (lot : List Flat) : Bool := match ansD p k lot with
  | some a => isD (R_due_right [.tuple [.int (p : Nat), .int (k : Nat), pts], .list ((lotSet p k lot).map encT), a]) (.bool true)
  | none => false
theorem due21 (pts : D) : (listsK (flatsK 2 1) 2).all (dueOk pts 2 1) = true := by kernel_rfl
theorem due31 (pts : D) : (listsK (flatsK 3 1) 2).all (dueOk pts 3 1) = true := by kernel_rfl
theorem due22 (pts : D) : (listsK (flatsK 2 2) 2).all (dueOk pts 2 2) = true := by kernel_rfl
theorem due_all {p k : Nat} (h : (p, k) ∈ PK) (pts : D) : (listsK (flatsK p k) 2).all (dueOk pts p k) = true := by
  unfold PK at h
  simp only [List.mem_cons, List.not_mem_nil, or_false, Prod.mk.injEq] at h
  rcases h with ⟨rfl, rfl⟩ | ⟨rfl, rfl⟩ | ⟨rfl, rfl⟩
  · exact due21 pts
  · exact due31 pts
  · exact due22 pts
end Fs
-- FsKe
/-! The reader: the possible rows and the answer. -/
namespace Fs
open PySem PySem.Spec PyProof.Rows L2
structure RdOk (p : Nat) (pts : List Int) (L : List (List Cell)) : Prop where
  len : L.length = pts.length
  few : ∀ l ∈ L, l.length + pts.length ≤ 4
  num : ∀ l ∈ L, ∀ c ∈ l, c.1 = 0 ∨ c.1 = 1
  con : ∀ l ∈ L, ∀ c ∈ l, c.2 ∈ uptoN p
theorem conts_ok {p m : Nat} (n : Int) : ∀ (L : List (List Cell)) (hs : List Nat), hs.length = L.length → (∀ l ∈ L, l.length + m ≤ 4) → (∀ l ∈ L, ∀ c ∈ l, c.2 ∈ uptoN p) → (conts n L hs).length = L.length ∧ ∀ c ∈ conts n L hs, c.length + m ≤ 4 ∧ ∀ v ∈ c, v ∈ uptoN p
  | [], [], _, _, _ => ⟨rfl, fun c h => by cases h⟩
  | [], _ :: _, h, _, _ => by cases h
  | _ :: _, [], h, _, _ => by cases h
  | l :: L, h :: hs, h1, h2, h3 => by
    obtain ⟨g1, g2⟩ := conts_ok n L hs (by simpa using h1) (fun z hz => h2 z (List.mem_cons_of_mem _ hz)) fun z hz => h3 z (List.mem_cons_of_mem _ hz)
    unfold conts
    refine ⟨by simp [g1], fun c hc => ?_⟩
    rcases List.mem_cons.mp hc with rfl | hc
    · have hl := cont_len n (l.take h)
      rw [List.length_take] at hl
      have := h2 l List.mem_cons_self
      refine ⟨by omega, fun v hv => ?_⟩
      obtain ⟨c, hc, rfl⟩ := List.mem_map.mp hv
      exact h3 l List.mem_cons_self c (List.mem_of_mem_take (List.mem_filter.mp hc).1)
    · exact g2 c hc
theorem solA_nil {p : Nat} {x : List Int} : ∀ (ws : List (List (List Int))) (cs : List (List Int)), (∀ c ∈ cs, c = []) → solA p x ws cs = true
  | [], _, _ => by simp [solA]
  | w :: ws, [], _ => by simp [solA]
  | w :: ws, c :: cs, h => by
    rw [h c List.mem_cons_self, solA, solA_nil ws cs fun z hz => h z (List.mem_cons_of_mem _ hz)]
    rfl
section
variable {p k : Nat} {pts : List Int} {L : List (List Cell)}
def solR (p k : Nat) (pts : List Int) (L : List (List Cell)) (hs : List Nat) (n : Int) (x : List Int) : Bool := solA p x (wss (p, k, pts)) (conts n L hs)
def GoodH (p k : Nat) (pts : List Int) (L : List (List Cell)) (hs : List Nat) : Prop := ∀ n : Int, n = 0 ∨ n = 1 → ∃ y ∈ Xs p k, solR p k pts L hs n y = true
def MtH (p k : Nat) (pts : List Int) (L : List (List Cell)) (hs : List Nat) (d : D) : Prop := ∃ kvs, d = .dict kvs ∧ ∀ b : Int, b = 0 ∨ b = 1 → ∃ f ∈ flatsK p k, (getK kvs b).getD (encF (wholeF k)) = encF f ∧ ∀ x ∈ Xs p k, inF p f x = solR p k pts L hs b x
theorem GroundF.whole (G : GroundF p k pts) : R_whole_flat [.int (k : Nat)] = some (encF (wholeF k)) ∧ wholeF k ∈ flatsK p k ∧ (∀ x ∈ Xs p k, inF p (wholeF k) x = true) ∧ (∀ f ∈ flatsK p k, ∃ x ∈ Xs p k, inF p f x = true) ∧ ∃ x, x ∈ Xs p k := by
  have h := List.all_eq_true.mp tab_whole _ G.pk
  simp only [Bool.and_eq_true, decide_eq_true_eq, List.all_eq_true, List.any_eq_true, Bool.not_eq_true', List.isEmpty_eq_false_iff_exists_mem] at h
  exact ⟨isD_eq h.1.1.1.1, h.1.1.1.2, h.1.1.2, h.1.2, h.2⟩
theorem flats_sem (G : GroundF p k pts) (R : RdOk p pts L) {hs : List Nat} (hl : hs.length = L.length) :
    (GoodH p k pts L hs ∧ ∃ d, R_flats_in [encG (p, k, pts), Fs.tbl (wss (p, k, pts)), encRd L, encT (castI hs)] = some d ∧ MtH p k pts L hs d) ∨ (¬ GoodH p k pts L hs ∧ R_flats_in [encG (p, k, pts), Fs.tbl (wss (p, k, pts)), encRd L, encT (castI hs)] = some .none) := by
  have hm8 : L.length ≤ 8 := by have := R.len; have := G.m12; omega
  have hm1 : 1 ≤ pts.length := by have := G.m12; omega
  obtain ⟨o, hcb, ho, hmem⟩ := cells_by_eq (L := L) (hs := hs) hl.symm hm8 fun l h => ⟨by have := R.few l h; omega, R.num l h⟩
  have hfl : ∀ n : Int, ∃ fo : Option Flat, ∃ e, R_equations_of [Fs.tbl (wss (p, k, pts)), .int (k : Nat), .list (cellsD 0 (conts n L hs))] = some e ∧ R_flat_of [.int (p : Nat), .int (k : Nat), e] = some (flO fo) ∧
      match fo with
      | none => ∀ x ∈ Xs p k, solR p k pts L hs n x = false
      | some f => f ∈ flatsK p k ∧ ∀ x ∈ Xs p k, solR p k pts L hs n x = inF p f x := by
    intro n
    obtain ⟨c1, c2⟩ := conts_ok (p := p) (m := pts.length) n L hs hl R.few R.con
    obtain ⟨e, d, h1, h2, h3⟩ := G.flat (cs := conts n L hs) (by rw [c1, R.len]) c2
    rcases h3 with ⟨rfl, h⟩ | ⟨f, hf, rfl, h⟩
    · exact ⟨none, e, h1, h2, h⟩
    · exact ⟨some f, e, h1, h2, hf, h⟩
  obtain ⟨fl, hfl⟩ := Classical.axiomOfChoice hfl
  obtain ⟨w1, w2, w3, w4, x0, w5⟩ := G.whole
  have hnot : ∀ n, n ∉ o → ∀ x, solR p k pts L hs n x = true := fun n hn x => solA_nil _ _ fun c hc => Classical.byContradiction fun h => hn ((hmem n).mpr ⟨c, hc, h⟩)
  rcases flats_in_eq (p := p) (k := k) (pts := pts) (T := Fs.tbl (wss (p, k, pts))) (fl := fl) ho hcb (fun n hn => let ⟨e, h1, h2, _⟩ := hfl n; ⟨e, h1, h2⟩) with ⟨h1, h2⟩ | ⟨⟨n, h1, h1'⟩, h2⟩
  · left
    refine ⟨fun n hn => ?_, _, h2, _, rfl, fun b hb => ?_⟩
    · by_cases hno : n ∈ o
      · obtain ⟨f, hf⟩ := Option.isSome_iff_exists.mp (h1 n hno)
        obtain ⟨_, _, _, h⟩ := hfl n
        rw [hf] at h
        obtain ⟨x, hx, hx2⟩ := w4 f h.1
        exact ⟨x, hx, by rw [h.2 x hx]; exact hx2⟩
      · exact ⟨x0, w5, hnot n hno x0⟩
    · rw [getK_kv]
      by_cases hno : b ∈ o
      · obtain ⟨f, hf⟩ := Option.isSome_iff_exists.mp (h1 b hno)
        obtain ⟨_, _, _, h⟩ := hfl b
        rw [hf] at h
        exact ⟨f, h.1, by rw [if_pos hno, hf]; rfl, fun x hx => (h.2 x hx).symm⟩
      · exact ⟨wholeF k, w2, by rw [if_neg hno]; rfl, fun x hx => by rw [w3 x hx, hnot b hno x]⟩
  · right
    refine ⟨fun hg => ?_, h2⟩
    obtain ⟨x, hx, hx2⟩ := hg n (ho.2 n h1)
    obtain ⟨_, _, _, h⟩ := hfl n
    rw [h1'] at h
    rw [h x hx] at hx2
    cases hx2
/-! ### possible_flats -/
def okR (st : Option (List (List Int))) (L : List (List Cell)) (r : Rw) : Prop := ∀ W, st = some W → ∀ i, i < L.length → shAt r L W i = true
theorem castI_inj {a b : List Nat} (h : castI a = castI b) : a = b := by
  induction a generalizing b with
  | nil =>
    cases b with
    | nil => rfl
    | cons y b => cases h
  | cons x a ih =>
    cases b with
    | nil => cases h
    | cons y b =>
      simp only [castI, List.map_cons, List.cons.injEq] at h
      rw [ih (b := b) h.2, Int.ofNat.inj h.1]
def pfB : S := (.asg 8 (.call 1 (.cons (.v 7) (.cons (.v 3) .nil))) (.ite (.or (.inO false (.v 8) 5) (.and (.isN true (.v 2)) (.isN true (.call 2 (.cons (.v 7) (.cons (.v 2) (.cons (.v 3) .nil))))))) .cont .nil (.app 5 (.v 8) (.asg 9 (.call 3 (.cons (.v 0) (.cons (.v 6) (.cons (.v 3) (.cons (.v 8) .nil))))) (.ite (.isN true (.v 9)) (.app 4 (.v 9) .nil) .nil .nil)))))
theorem c_possible_flats_eq : c_possible_flats = (.par3 4 (.lst .nil) 5 (.lst .nil) 6 (.call 0 (.cons (.v 0) .nil)) (.for (.n 7) (.seq (.v 1)) pfB (.frz 4 (.ret (.v 4))))) := rfl
theorem pft0 : t_possible_flats.tb[0]? = some (("weights_table" : Str), R_weights_table) := rfl
theorem pft1 : t_possible_flats.tb[1]? = some (("right_heads" : Str), R_right_heads) := rfl
theorem pft2 : t_possible_flats.tb[2]? = some (("first_far" : Str), R_first_far) := rfl
theorem pft3 : t_possible_flats.tb[3]? = some (("flats_in" : Str), R_flats_in) := rfl
theorem pf_cond {G r rd st tb : D} {v1 s9 : Slot} {h : List Int} {ds : List D} {seen : List (List Int)} {ok : Bool} (hst : (isNone st = true ∧ ok = true) ∨ (isNone st = false ∧ ∃ d, R_first_far [r, st, rd] = some d ∧ isNone d = ok)) :
    run t_possible_flats (.or (.inO false (.v 8) 5) (.and (.isN true (.v 2)) (.isN true (.call 2 (.cons (.v 7) (.cons (.v 2) (.cons (.v 3) .nil))))))) [.val G, v1, .val st, .val rd, .own ds, .own (seen.map encT), .val tb, .val r, .val (encT h), s9] none = some (.val (.bool (decide (h ∈ seen) || !ok)), none) := by
  by_cases hm : h ∈ seen
  · simp [run, dOf, bOf, lOf, toD, shaped_T, shaped_Ts, any_eqv_T2, hm]
  · rcases hst with ⟨h1, h2⟩ | ⟨h1, d, h2, h3⟩
    · simp [run, dOf, bOf, lOf, toD, shaped_T, shaped_Ts, any_eqv_T2, hm, h1, h2]
    · simp [run, dOf, bOf, lOf, toD, shaped_T, shaped_Ts, any_eqv_T2, hm, h1, pft2, h2, h3]
theorem pf_step {G r rd st tb fd : D} {v1 s8 s9 : Slot} {h : List Int} {ds : List D} {seen : List (List Int)} {ok : Bool} (hrh : R_right_heads [r, rd] = some (encT h)) (hst : (isNone st = true ∧ ok = true) ∨ (isNone st = false ∧ ∃ d, R_first_far [r, st, rd] = some d ∧ isNone d = ok)) (hfi : R_flats_in [G, tb, rd, encT h] = some fd) (hl1 : ds.length < 1000) (hl2 : seen.length < 1000) :
    ((h ∈ seen ∨ ok = false) ∧ runS t_possible_flats pfB [.val G, v1, .val st, .val rd, .own ds, .own (seen.map encT), .val tb, .val r, s8, s9] none = some (.ct [.val G, v1, .val st, .val rd, .own ds, .own (seen.map encT), .val tb, .val r, .val (encT h), s9] none)) ∨
    ((h ∉ seen ∧ ok = true) ∧ runS t_possible_flats pfB [.val G, v1, .val st, .val rd, .own ds, .own (seen.map encT), .val tb, .val r, s8, s9] none = some (.nx [.val G, v1, .val st, .val rd, .own (if isNone fd then ds else ds ++ [fd]), .own ((seen ++ [h]).map encT), .val tb, .val r, .val (encT h), .val fd] none)) := by
  have hc := pf_cond (G := G) (tb := tb) (v1 := v1) (s9 := s9) (h := h) (ds := ds) (seen := seen) hst
  unfold pfB
  generalize (C.or _ _) = CC at hc ⊢
  by_cases hb : h ∈ seen ∨ ok = false
  · left
    refine ⟨hb, ?_⟩
    have : (decide (h ∈ seen) || !ok) = true := by
      rcases hb with h | h <;> simp [h]
    rw [this] at hc
    simp [runS, run, dOf, lOf, bOf, toD, pft1, hrh, hc, Out.then]
  · right
    have hb1 : h ∉ seen := fun e => hb (.inl e)
    have hb2 : ok = true := by
      cases ok with
      | true => rfl
      | false => exact absurd (.inr rfl) hb
    refine ⟨⟨hb1, hb2⟩, ?_⟩
    have : (decide (h ∈ seen) || !ok) = false := by simp [hb1, hb2]
    rw [this] at hc
    cases hN : isNone fd <;> simp [runS, run, dOf, lOf, bOf, toD, pft1, pft3, hrh, hc, hfi, Out.then, hN, show ds.length < 100000 by omega, show seen.length < 100000 by omega]
theorem possible_eq (G : GroundF p k pts) (R : RdOk p pts L) {bk : List Rw} {st : Option (List (List Int))} (hbk : bk.length < 900) (hr : ∀ r ∈ bk, r.length = L.length) (hst : ∀ W, st = some W → W.length = L.length) :
    ∃ ds, R_possible_flats [encG (p, k, pts), encBk bk, encSt st, encRd L] = some (.list ds) ∧ ds.length ≤ bk.length ∧ (∀ d ∈ ds, ∃ r ∈ bk, okR st L r ∧ GoodH p k pts L (headsN r L) ∧ MtH p k pts L (headsN r L) d) ∧ ∀ r ∈ bk, okR st L r → GoodH p k pts L (headsN r L) → ∃ d ∈ ds, MtH p k pts L (headsN r L) d := by
  have hm8 : L.length ≤ 2 := by have := R.len; have := G.m12; omega
  have hR : R_possible_flats [encG (p, k, pts), encBk bk, encSt st, encRd L] = outD (runS t_possible_flats c_possible_flats [.val (encG (p, k, pts)), .val (encBk bk), .val (encSt st), .val (encRd L), .non, .non, .non, .non, .non, .non] none) := rfl
  obtain ⟨ρ', e, ds, seen, s7, s8, s9, rfl, h1, h1', h2, h3, h4⟩ := forGo_inv (p := none) (f := fun d ρ1 q => ((Tg.n 7).asg d ρ1).bind fun ρ2 => runS t_possible_flats pfB ρ2 q) (bk.map encRow)
    (fun i ρ => ∃ (ds : List D) (seen : List (List Int)) (s7 s8 s9 : Slot), ρ = [.val (encG (p, k, pts)), .val (encBk bk), .val (encSt st), .val (encRd L), .own ds, .own (seen.map encT), .val (Fs.tbl (wss (p, k, pts))), s7, s8, s9] ∧ ds.length ≤ i ∧ seen.length ≤ i ∧
      (∀ d ∈ ds, ∃ r ∈ bk, okR st L r ∧ GoodH p k pts L (headsN r L) ∧ MtH p k pts L (headsN r L) d) ∧ (∀ hs, castI hs ∈ seen → GoodH p k pts L hs → ∃ d ∈ ds, MtH p k pts L hs d) ∧ (∀ r ∈ bk.take i, okR st L r → GoodH p k pts L (headsN r L) → ∃ d ∈ ds, MtH p k pts L (headsN r L) d))
    (fun i d hd ρ ⟨ds, seen, s7, s8, s9, e, h1, h1', h2, h3, h4⟩ => by
      subst e
      rw [List.getElem?_map] at hd
      obtain ⟨r, hr1, rfl⟩ := Option.map_eq_some_iff.mp hd
      have hi : i < bk.length := (List.getElem?_eq_some_iff.mp hr1).1
      have hrb := List.mem_of_getElem? hr1
      have hrl := hr r hrb
      have hrh := right_heads_eq r L (by omega)
      have hhl := headsN_len r L hrl
      have htk : bk.take (i + 1) = bk.take i ++ [r] := by
        rw [List.take_add_one, hr1]
        rfl
      have hok : ∃ ok : Bool, ((isNone (encSt st) = true ∧ ok = true) ∨ (isNone (encSt st) = false ∧ ∃ d, R_first_far [encRow r, encSt st, encRd L] = some d ∧ isNone d = ok)) ∧ (ok = true ↔ okR st L r) := by
        cases hs : st with
        | none => exact ⟨true, .inl ⟨rfl, rfl⟩, fun _ W hW => (by cases hW), fun _ => rfl⟩
        | some W =>
          obtain ⟨d, hd1, hd2⟩ := first_far_eq (r := r) (L := L) (W := W) hrl (hst W hs) (by omega) fun l hl => by have := R.few l hl; omega
          refine ⟨isNone d, .inr ⟨rfl, d, hd1, rfl⟩, fun h W' hW' => ?_, fun h => hd2.mpr (h W rfl)⟩
          cases hW'
          exact hd2.mp h
      obtain ⟨ok, hok1, hok2⟩ := hok
      have hfs := flats_sem G R hhl
      have hfd : ∃ fd, R_flats_in [encG (p, k, pts), Fs.tbl (wss (p, k, pts)), encRd L, encT (castI (headsN r L))] = some fd ∧ ((GoodH p k pts L (headsN r L) ∧ isNone fd = false ∧ MtH p k pts L (headsN r L) fd) ∨ (¬ GoodH p k pts L (headsN r L) ∧ isNone fd = true)) := by
        rcases hfs with ⟨g1, d, g2, g3⟩ | ⟨g1, g2⟩
        · refine ⟨d, g2, .inl ⟨g1, ?_, g3⟩⟩
          obtain ⟨kvs, rfl, _⟩ := g3
          rfl
        · exact ⟨.none, g2, .inr ⟨g1, rfl⟩⟩
      obtain ⟨fd, hfd1, hfd2⟩ := hfd
      rcases pf_step (v1 := .val (encBk bk)) (s8 := s8) (s9 := s9) (ds := ds) (seen := seen) hrh hok1 hfd1 (by omega) (by omega) with ⟨g1, g2⟩ | ⟨⟨g1, g1'⟩, g2⟩
      · refine ⟨_, .inr (by simpa [Tg.asg] using g2), ds, seen, .val (encRow r), .val (encT (castI (headsN r L))), s9, rfl, by omega, by omega, h2, h3, fun r' hr' o1 o2 => ?_⟩
        rw [htk, List.mem_append, List.mem_singleton] at hr'
        rcases hr' with hr' | rfl
        · exact h4 r' hr' o1 o2
        · rcases g1 with g1 | g1
          · exact h3 _ g1 o2
          · rw [hok2.mpr o1] at g1
            cases g1
      · refine ⟨_, .inl (by simpa [Tg.asg] using g2), _, seen ++ [castI (headsN r L)], .val (encRow r), .val (encT (castI (headsN r L))), .val fd, rfl, ?_, ?_, ?_, ?_, ?_⟩
        · split
          · omega
          · rw [List.length_append]; simp; omega
        · rw [List.length_append]; simp; omega
        · intro d hd
          rcases hfd2 with ⟨q1, q2, q3⟩ | ⟨q1, q2⟩
          · rw [q2] at hd
            simp only [Bool.false_eq_true, if_false, List.mem_append, List.mem_singleton] at hd
            rcases hd with hd | rfl
            · exact h2 d hd
            · exact ⟨r, hrb, hok2.mp g1', q1, q3⟩
          · rw [q2] at hd
            exact h2 d hd
        · intro hs hm hg
          rw [List.mem_append, List.mem_singleton] at hm
          rcases hfd2 with ⟨q1, q2, q3⟩ | ⟨q1, q2⟩
          · rw [q2]
            simp only [Bool.false_eq_true, if_false, List.mem_append, List.mem_singleton]
            rcases hm with hm | hm
            · obtain ⟨d, d1, d2⟩ := h3 hs hm hg
              exact ⟨d, .inl d1, d2⟩
            · rw [castI_inj hm]
              exact ⟨fd, .inr rfl, q3⟩
          · rw [q2]
            rcases hm with hm | hm
            · exact h3 hs hm hg
            · rw [castI_inj hm] at hg
              exact absurd hg q1
        · intro r' hr' o1 o2
          rw [htk, List.mem_append, List.mem_singleton] at hr'
          rcases hfd2 with ⟨q1, q2, q3⟩ | ⟨q1, q2⟩
          · rw [q2]
            simp only [Bool.false_eq_true, if_false, List.mem_append, List.mem_singleton]
            rcases hr' with hr' | rfl
            · obtain ⟨d, d1, d2⟩ := h4 r' hr' o1 o2
              exact ⟨d, .inl d1, d2⟩
            · exact ⟨fd, .inr rfl, q3⟩
          · rw [q2]
            rcases hr' with hr' | rfl
            · exact h4 r' hr' o1 o2
            · exact absurd o2 q1)
    [.val (encG (p, k, pts)), .val (encBk bk), .val (encSt st), .val (encRd L), .own [], .own [], .val (Fs.tbl (wss (p, k, pts))), .non, .non, .non] ⟨[], [], .non, .non, .non, rfl, Nat.zero_le _, Nat.zero_le _, fun d hd => (by cases hd), fun hs hm => (by cases hm), fun r hr => (by simp at hr)⟩
  rw [List.length_map] at h1 h4
  rw [List.take_of_length_le (Nat.le_refl _)] at h4
  refine ⟨ds, ?_, h1, h2, h4⟩
  rw [hR, c_possible_flats_eq]
  generalize pfB = B at e ⊢
  generalize (Tg.n 7) = TG at e ⊢
  have hB : encBk bk = .tuple (bk.map encRow) := rfl
  have hT := G.tbl
  rw [hB] at e ⊢
  simp [runS, run, dOf, lOf, sOf, toD, pft0, hT, e, Out.then, freeze1, outD]
end
end Fs
-- FsKf
/-! The reader: what is handed in is right; the answer; read. -/
namespace Fs
open PySem PySem.Spec PyProof.Rows L2
def BD : List (Option Int) := [some 0, some 1, none]
def FA : List Fa := BD.flatMap fun a => BD.map fun b => (a, b)
theorem tab_fate : (FA.all fun f => isD (R_is_fate [encFa f]) (.bool true)) = true := by decide +kernel
theorem tab_tape : ((listsK ([0, 1] : List Int) 3).all fun t => isD (R_is_tape [encT t]) (.bool true)) = true := by decide +kernel
theorem tab_cell : (([2, 3] : List Nat).all fun p => ([0, 1] : List Int).all fun n => (uptoN p).all fun v => isD (R_is_cell [encC (n, v), .int (p : Nat)]) (.bool true)) = true := by decide +kernel
theorem tab_below : (([1, 2] : List Nat).all fun m => isD (R_is_below [.int (m : Nat), .int 9]) (.bool true)) = true := by decide +kernel
theorem tab_number : (([0, 1] : List Nat).all fun b => isD (R_check_number [.int (b : Nat)]) .none) = true := by decide +kernel
theorem is_row_eq {r : Rw} (hr : ∀ f ∈ r, f ∈ FA) : R_is_row [.int (r.length : Nat), encRow r] = some (.bool true) := by
  have hR : R_is_row [.int (r.length : Nat), encRow r] = outD (runS t_is_row c_is_row [.val (.int (r.length : Nat)), .val (encRow r), .non] none) := rfl
  have ht0 : t_is_row.tb[0]? = some (("is_fate" : Str), R_is_fate) := rfl
  obtain ⟨ρ', e, s2, rfl⟩ := forGo_inv (p := none) (f := fun d ρ1 q => ((Tg.n 2).asg d ρ1).bind fun ρ2 => runS t_is_row (.ite (.not (.call 0 (.cons (.v 2) .nil))) (.ret (.k (.bool false))) .nil .nil) ρ2 q) (r.map encFa)
    (fun i ρ => ∃ s2, ρ = [.val (.int (r.length : Nat)), .val (encRow r), s2])
    (fun i d hd ρ ⟨s2, e⟩ => by
      subst e
      rw [List.getElem?_map] at hd
      obtain ⟨f, h2, rfl⟩ := Option.map_eq_some_iff.mp hd
      have hf : R_is_fate [encFa f] = some (.bool true) := isD_eq (List.all_eq_true.mp tab_fate f (hr f (List.mem_of_getElem? h2)))
      exact ⟨_, .inl (by simp [Tg.asg, runS, run, dOf, lOf, bOf, toD, ht0, hf, Out.then]; rfl), _, rfl⟩)
    [.val (.int (r.length : Nat)), .val (encRow r), .non] ⟨.non, rfl⟩
  rw [hR]
  unfold c_is_row
  generalize (S.ite _ (.ret (.k (.bool false))) .nil .nil) = B at e ⊢
  have hrow : encRow r = .tuple (r.map encFa) := rfl
  rw [hrow] at e ⊢
  generalize (Tg.n 2) = TG at e ⊢
  simp [runS, run, dOf, lOf, bOf, sOf, toD, isiD, fnD, cmpD, e, Out.then, outD]
theorem lay_fa (f : Fa) : (encFa f).canLay0 = true ∧ (encFa f).depth ≤ 1 := by
  obtain ⟨u, w⟩ := f
  cases u <;> cases w <;> refine ⟨rfl, ?_⟩ <;> simp [encFa, oI, PyData.depth, PyData.depthAll]
theorem lay_row (r : Rw) : (encRow r).canLay0 = true ∧ (encRow r).depth ≤ 2 := by
  unfold encRow PyData.canLay0 PyData.depth
  refine ⟨canLayAll_all fun d hd => ?_, Nat.add_le_add_right (depthAll_le (n := 1) fun d hd => ?_) 1⟩
  · obtain ⟨f, _, rfl⟩ := List.mem_map.mp hd
    exact (lay_fa f).1
  · obtain ⟨f, _, rfl⟩ := List.mem_map.mp hd
    exact (lay_fa f).2
theorem shaped_bk (bk : List Rw) : SeqAt.shaped (encBk bk) = true := by
  refine shaped_mk ?_ ?_
  · unfold encBk PyData.canLay0
    refine canLayAll_all fun d hd => ?_
    obtain ⟨r, _, rfl⟩ := List.mem_map.mp hd
    exact (lay_row r).1
  · unfold encBk PyData.depth
    refine Nat.le_trans (Nat.add_le_add_right (depthAll_le (n := 2) fun d hd => ?_) 1) (by decide)
    obtain ⟨r, _, rfl⟩ := List.mem_map.mp hd
    exact (lay_row r).2
theorem made_book_eq {bk : List Rw} {m : Nat} (hm : m = 1 ∨ m = 2) (h1 : bk ≠ []) (h2 : bk.length ≤ 20) (hr : ∀ r ∈ bk, r.length = m ∧ ∀ f ∈ r, f ∈ FA) : R_made_book [.int (m : Nat), encBk bk] = some (encBk bk) := by
  have hR : R_made_book [.int (m : Nat), encBk bk] = outD (runS t_made_book c_made_book [.val (.int (m : Nat)), .val (encBk bk), .non, .non] none) := rfl
  have ht0 : t_made_book.tb[0]? = some (("is_below" : Str), R_is_below) := rfl
  have ht1 : t_made_book.tb[1]? = some (("is_row" : Str), R_is_row) := rfl
  have hg0 : t_made_book.gl[0]? = some (("MOST_SHELVES_books" : Str), 8) := rfl
  have hg1 : t_made_book.gl[1]? = some (("MOST_ROWS" : Str), 24) := rfl
  have hbl : R_is_below [.int (m : Nat), .int 9] = some (.bool true) := isD_eq (List.all_eq_true.mp tab_below m (by rcases hm with rfl | rfl <;> simp))
  obtain ⟨ρ', e, s2, s3, rfl⟩ := forGo_inv (p := none) (f := fun d ρ1 q => ((Tg.tup (.cons (.n 2) (.cons (.n 3) .nil))).asg d ρ1).bind fun ρ2 => runS t_made_book (.ite (.not (.call 1 (.cons (.v 0) (.cons (.v 3) .nil)))) .bad .nil .nil) ρ2 q) (enumD 0 (bk.map encRow))
    (fun i ρ => ∃ s2 s3, ρ = [.val (.int (m : Nat)), .val (encBk bk), s2, s3])
    (fun i d hd ρ ⟨s2, s3, e⟩ => by
      subst e
      obtain ⟨e, g1, rfl⟩ := enum_at hd
      rw [List.getElem?_map] at g1
      obtain ⟨r, g2, rfl⟩ := Option.map_eq_some_iff.mp g1
      obtain ⟨q1, q2⟩ := hr r (List.mem_of_getElem? g2)
      have hf := is_row_eq q2
      rw [q1] at hf
      exact ⟨_, .inl (by simp [Tg.asg, runS, run, dOf, lOf, bOf, toD, ht1, hf, Out.then]; exact ⟨rfl, rfl⟩), _, _, rfl⟩)
    [.val (.int (m : Nat)), .val (encBk bk), .non, .non] ⟨.non, .non, rfl⟩
  have hsh := shaped_bk bk
  have hne : cmpD .eq (encBk bk) (.tuple []) = some false := by
    show (if SeqAt.shaped (encBk bk) = true ∧ SeqAt.shaped (.tuple []) = true then some (PyData.eqv (encBk bk) (.tuple [])) else none) = _
    rw [if_pos ⟨hsh, rfl⟩]
    cases bk with
    | nil => exact absurd rfl h1
    | cons r bk => rfl
  rw [hR]
  unfold c_made_book
  generalize (S.ite (.not (.call 1 _)) .bad .nil .nil) = B at e ⊢
  generalize (Tg.tup _) = TG at e ⊢
  have hB : encBk bk = .tuple (bk.map encRow) := rfl
  rw [hB] at e hne ⊢
  have hm0 : ¬ m = 0 := by omega
  have h24 : ¬ (24 : Int) < (bk.length : Int) := by omega
  have hc0 : cmpD .eq (.int (m : Nat)) (.int 0) = some false := by
    show some (decide ((m : Int) = 0)) = _
    rw [decide_eq_false (by omega)]
  have hc1 : cmpD .gt (.int (bk.length : Nat)) (.int 24) = some false := by
    show some (decide ((24 : Int) < (bk.length : Int))) = _
    rw [decide_eq_false h24]
  simp [runS, run, dOf, lOf, bOf, sOf, tOf, toD, isiD, fnD, binD, hg0, hg1, ht0, hbl, hne, hc0, hc1, e, Out.then, outD]
theorem is_tape_eq {t : List Int} (h : t.length ≤ 3) (hb : bin t) : R_is_tape [encT t] = some (.bool true) := isD_eq (List.all_eq_true.mp tab_tape t (listsK_mem 3 t h fun m hm => by simpa using hb m hm))
section
variable {p k : Nat} {pts : List Int} {L : List (List Cell)}
theorem made_weaving_eq (G : GroundF p k pts) {W : List (List Int)} (hl : W.length = pts.length) (hW : ∀ t ∈ W, t.length ≤ 3 ∧ bin t) : R_made_weaving [encG (p, k, pts), encW W] = some (encW W) := by
  have hR : R_made_weaving [encG (p, k, pts), encW W] = outD (runS t_made_weaving c_made_weaving [.val (encG (p, k, pts)), .val (encW W), .non, .non] none) := rfl
  have ht0 : t_made_weaving.tb[0]? = some (("made_ground" : Str), R_made_ground) := rfl
  have ht1 : t_made_weaving.tb[1]? = some (("shelves" : Str), R_shelves) := rfl
  have ht2 : t_made_weaving.tb[2]? = some (("is_tape" : Str), R_is_tape) := rfl
  obtain ⟨ρ', e, s2, s3, rfl⟩ := forGo_inv (p := none) (f := fun d ρ1 q => ((Tg.tup (.cons (.n 2) (.cons (.n 3) .nil))).asg d ρ1).bind fun ρ2 => runS t_made_weaving (.ite (.not (.call 2 (.cons (.v 3) .nil))) .bad .nil .nil) ρ2 q) (enumD 0 (W.map encT))
    (fun i ρ => ∃ s2 s3, ρ = [.val (encG (p, k, pts)), .val (encW W), s2, s3])
    (fun i d hd ρ ⟨s2, s3, e⟩ => by
      subst e
      obtain ⟨e, g1, rfl⟩ := enum_at hd
      rw [List.getElem?_map] at g1
      obtain ⟨t, g2, rfl⟩ := Option.map_eq_some_iff.mp g1
      obtain ⟨q1, q2⟩ := hW t (List.mem_of_getElem? g2)
      have hf := is_tape_eq q1 q2
      exact ⟨_, .inl (by simp [Tg.asg, runS, run, dOf, lOf, bOf, toD, ht2, hf, Out.then]; exact ⟨rfl, rfl⟩), _, _, rfl⟩)
    [.val (encG (p, k, pts)), .val (encW W), .non, .non] ⟨.non, .non, rfl⟩
  have h1 := G.made
  have h2 := G.shv
  rw [hR]
  unfold c_made_weaving
  generalize (S.ite (.not (.call 2 _)) .bad .nil .nil) = B at e ⊢
  generalize (Tg.tup _) = TG at e ⊢
  generalize encG (p, k, pts) = GG at *
  have hB : encW W = .tuple (W.map encT) := rfl
  rw [hB] at e ⊢
  rw [← hl] at h2
  simp [runS, run, dOf, lOf, bOf, sOf, tOf, toD, isiD, fnD, cmpD, ht0, ht1, h1, h2, e, Out.then, outD]
theorem are_cells_eq {l : List Cell} (hp : p = 2 ∨ p = 3) (h1 : l.length < 1000) (h2 : ∀ c ∈ l, c.1 = 0 ∨ c.1 = 1) (h3 : ∀ c ∈ l, c.2 ∈ uptoN p) : R_are_cells [encCs l, .int (p : Nat)] = some (.bool true) := by
  have hR : R_are_cells [encCs l, .int (p : Nat)] = outD (runS t_are_cells c_are_cells [.val (encCs l), .val (.int (p : Nat)), .non] none) := rfl
  have ht0 : t_are_cells.tb[0]? = some (("is_cell" : Str), R_is_cell) := rfl
  have hg0 : t_are_cells.gl[0]? = some (("MOST_CELLS" : Str), 1024) := rfl
  obtain ⟨ρ', e, s2, rfl⟩ := forGo_inv (p := none) (f := fun d ρ1 q => ((Tg.n 2).asg d ρ1).bind fun ρ2 => runS t_are_cells (.ite (.not (.call 0 (.cons (.v 2) (.cons (.v 1) .nil)))) (.ret (.k (.bool false))) .nil .nil) ρ2 q) (l.map encC)
    (fun i ρ => ∃ s2, ρ = [.val (encCs l), .val (.int (p : Nat)), s2])
    (fun i d hd ρ ⟨s2, e⟩ => by
      subst e
      rw [List.getElem?_map] at hd
      obtain ⟨c, g2, rfl⟩ := Option.map_eq_some_iff.mp hd
      have hm := List.mem_of_getElem? g2
      have hf : R_is_cell [encC c, .int (p : Nat)] = some (.bool true) := isD_eq (List.all_eq_true.mp (List.all_eq_true.mp (List.all_eq_true.mp tab_cell p (by rcases hp with rfl | rfl <;> simp)) c.1 (by simpa using h2 c hm)) c.2 (h3 c hm))
      exact ⟨_, .inl (by simp [Tg.asg, runS, run, dOf, lOf, bOf, toD, ht0, hf, Out.then]; rfl), _, rfl⟩)
    [.val (encCs l), .val (.int (p : Nat)), .non] ⟨.non, rfl⟩
  rw [hR]
  unfold c_are_cells
  generalize (S.ite _ (.ret (.k (.bool false))) .nil .nil) = B at e ⊢
  generalize (Tg.n 2) = TG at e ⊢
  have hB : encCs l = .tuple (l.map encC) := rfl
  rw [hB] at e ⊢
  have hc1 : cmpD .gt (.int (l.length : Nat)) (.int 1024) = some false := by
    show some (decide ((1024 : Int) < (l.length : Int))) = _
    rw [decide_eq_false (by omega)]
  simp [runS, run, dOf, lOf, bOf, sOf, tOf, toD, isiD, fnD, hg0, hc1, e, Out.then, outD]
theorem GroundF.p23 (G : GroundF p k pts) : p = 2 ∨ p = 3 := by
  have := G.pk
  simp [PK] at this
  omega
theorem made_reading_eq (G : GroundF p k pts) (R : RdOk p pts L) : R_made_reading [encG (p, k, pts), encRd L] = some (encRd L) := by
  have hR : R_made_reading [encG (p, k, pts), encRd L] = outD (runS t_made_reading c_made_reading [.val (encG (p, k, pts)), .val (encRd L), .non, .non] none) := rfl
  have ht0 : t_made_reading.tb[0]? = some (("made_ground" : Str), R_made_ground) := rfl
  have ht1 : t_made_reading.tb[1]? = some (("shelves" : Str), R_shelves) := rfl
  have ht2 : t_made_reading.tb[2]? = some (("are_cells" : Str), R_are_cells) := rfl
  have hG : encG (p, k, pts) = .tuple [.int (p : Nat), .int (k : Nat), .tuple (pts.map .int)] := rfl
  obtain ⟨ρ', e, s2, s3, rfl⟩ := forGo_inv (p := none) (f := fun d ρ1 q => ((Tg.tup (.cons (.n 2) (.cons (.n 3) .nil))).asg d ρ1).bind fun ρ2 => runS t_made_reading (.ite (.not (.call 2 (.cons (.v 3) (.cons (.ix (.v 0) (.k (.int 0))) .nil)))) .bad .nil .nil) ρ2 q) (enumD 0 (L.map encCs))
    (fun i ρ => ∃ s2 s3, ρ = [.val (encG (p, k, pts)), .val (encRd L), s2, s3])
    (fun i d hd ρ ⟨s2, s3, e⟩ => by
      subst e
      obtain ⟨e, g1, rfl⟩ := enum_at hd
      rw [List.getElem?_map] at g1
      obtain ⟨l, g2, rfl⟩ := Option.map_eq_some_iff.mp g1
      have hm := List.mem_of_getElem? g2
      have hf := are_cells_eq (p := p) G.p23 (by have := R.few l hm; omega) (R.num l hm) (R.con l hm)
      rw [hG]
      exact ⟨_, .inl (by simp [Tg.asg, runS, run, dOf, lOf, bOf, sOf, iOf, toD, ix0, ht2, hf, Out.then]; exact ⟨rfl, rfl⟩), _, _, rfl⟩)
    [.val (encG (p, k, pts)), .val (encRd L), .non, .non] ⟨.non, .non, rfl⟩
  have h1 := G.made
  have h2 := G.shv
  rw [hR]
  unfold c_made_reading
  generalize (S.ite (.not (.call 2 _)) .bad .nil .nil) = B at e ⊢
  generalize (Tg.tup _) = TG at e ⊢
  clear hG
  generalize encG (p, k, pts) = GG at *
  have hB : encRd L = .tuple (L.map encCs) := rfl
  rw [hB] at e ⊢
  rw [← R.len] at h2
  simp [runS, run, dOf, lOf, bOf, sOf, tOf, toD, isiD, fnD, cmpD, ht0, ht1, h1, h2, e, Out.then, outD]
/-- what the book and the stand are -/
structure BkOk (pts : List Int) (bk : List Rw) (st : Option (List (List Int))) : Prop where
  ne : bk ≠ []
  two : bk.length ≤ 2
  rows : ∀ r ∈ bk, r.length = pts.length ∧ ∀ f ∈ r, f ∈ FA
  stl : ∀ W, st = some W → W.length = pts.length ∧ ∀ t ∈ W, t.length ≤ 3 ∧ bin t
theorem made_all_eq (G : GroundF p k pts) (R : RdOk p pts L) {bk : List Rw} {st : Option (List (List Int))} (B : BkOk pts bk st) : R_made_all [encG (p, k, pts), encBk bk, encSt st, encRd L] = some (.tuple [encG (p, k, pts), encBk bk, encSt st, encRd L]) := by
  have hR : R_made_all [encG (p, k, pts), encBk bk, encSt st, encRd L] = outD (runS t_made_all c_made_all [.val (encG (p, k, pts)), .val (encBk bk), .val (encSt st), .val (encRd L), .non, .non, .non] none) := rfl
  have ht0 : t_made_all.tb[0]? = some (("made_ground" : Str), R_made_ground) := rfl
  have ht1 : t_made_all.tb[1]? = some (("made_book" : Str), R_made_book) := rfl
  have ht2 : t_made_all.tb[2]? = some (("shelves" : Str), R_shelves) := rfl
  have ht3 : t_made_all.tb[3]? = some (("made_weaving" : Str), R_made_weaving) := rfl
  have ht4 : t_made_all.tb[4]? = some (("made_reading" : Str), R_made_reading) := rfl
  have h1 := G.made
  have h2 := G.shv
  have h3 := made_book_eq G.m12 B.ne (by have := B.two; omega) B.rows
  have h4 := made_reading_eq G R
  rw [hR]
  unfold c_made_all
  cases hs : st with
  | none =>
    generalize encG (p, k, pts) = GG at *
    simp [runS, run, dOf, lOf, bOf, toD, ht0, ht1, ht2, ht4, h1, h2, h3, h4, outD, encSt, isNone]
  | some W =>
    obtain ⟨w1, w2⟩ := B.stl W hs
    have h5 := made_weaving_eq G w1 w2
    have hN : isNone (encW W) = false := rfl
    generalize encG (p, k, pts) = GG at *
    simp [runS, run, dOf, lOf, bOf, toD, ht0, ht1, ht2, ht3, ht4, h1, h2, h3, h4, h5, outD, encSt, hN]
/-! ### the answer -/
theorem answer_eq (G : GroundF p k pts) {ds : List D} {b : Int} {g : D → Flat} {a : D} (hd : ∀ d ∈ ds, ∃ kvs, d = .dict kvs ∧ (getK kvs b).getD (encF (wholeF k)) = encF (g d)) (hl : ds.length < 1000) (ha : ansD p k (ds.map g) = some a) : R_answer_of [encG (p, k, pts), .list ds, .int b] = some a := by
  have hR : R_answer_of [encG (p, k, pts), .list ds, .int b] = outD (runS t_answer_of c_answer_of [.val (encG (p, k, pts)), .val (.list ds), .val (.int b), .non, .non, .non, .non, .non, .non, .non, .non] none) := rfl
  have ht0 : t_answer_of.tb[0]? = some (("whole_flat" : Str), R_whole_flat) := rfl
  have ht1 : t_answer_of.tb[1]? = some (("agreed" : Str), R_agreed) := rfl
  have ht2 : t_answer_of.tb[2]? = some (("two_unlike" : Str), R_two_unlike) := rfl
  have hw := G.whole.1
  have hG : encG (p, k, pts) = .tuple [.int (p : Nat), .int (k : Nat), encT pts] := rfl
  rw [hR]
  cases hds : ds with
  | nil =>
    rw [hds] at ha
    cases ha
    rw [hG]
    unfold c_answer_of
    generalize (C.lc _ _ _ _) = LC
    simp [Tg.asg, runS, run, dOf, lOf, bOf, toD, cmpD, Out.then, outD]
  | cons d0 dr =>
    rw [← hds]
    have hem : ds.isEmpty = false := by rw [hds]; rfl
    have hlc := run_lc_map (T := t_answer_of) (elt := .get (.v 10) (.v 2) (.call 0 (.cons (.v 4) .nil))) (tg := .n 10) (it := .seq (.v 1)) (own := [(("known" : Str), 10)]) (ρ := [.val (encG (p, k, pts)), .val (.list ds), .val (.int b), .val (.int (p : Nat)), .val (.int (k : Nat)), .val (encT pts), .non, .non, .non, .non, .non]) (ds := ds) (g := fun d => encF (g d))
      (by simp [run, sOf, lOf]) (by omega) (fun d hdm => ⟨_, rfl, by
        obtain ⟨kvs, rfl, e⟩ := hd d hdm
        simp [run, dOf, lOf, iOf, toD, wipeS, ht0, hw, e]⟩)
    have hmm : ds.map (fun d => encF (g d)) = (ds.map g).map encF := by simp
    rw [hmm] at hlc
    have hne : ds.map g ≠ [] := by rw [hds]; simp
    generalize ds.map g = lot at *
    have ha' : ((R_agreed [.int (k : Nat), .list (lot.map encF)]).bind fun a => match a with
      | .tuple ns => match cmpD .notin .none (.tuple ns) with
        | some true => some (.tuple [.str "told", .tuple ns])
        | some false => (R_two_unlike [.int (p : Nat), .list (lot.map encF)]).bind fun t => match t with
          | .tuple [u, v] => some (.tuple [.str "open", .tuple ns, u, v])
          | _ => none
        | none => none
      | _ => none) = some a := by
      cases lot with
      | nil => exact absurd rfl hne
      | cons f r => exact ha
    obtain ⟨ag, h1, h2⟩ := Option.bind_eq_some_iff.mp ha'
    unfold c_answer_of
    generalize (C.lc _ _ _ _) = LC at hlc ⊢
    rw [hG] at hlc ⊢
    cases ag with
    | tuple ns =>
      cases hc : cmpD .notin .none (.tuple ns) with
      | none => simp only [hc] at h2; cases h2
      | some bb =>
        have hce : cmpD .eq (.list ds) (.list []) = some false := by
          show some ds.isEmpty = _
          rw [hem]
        cases bb with
        | true =>
          simp only [hc] at h2
          cases h2
          simp [Tg.asg, runS, run, dOf, lOf, bOf, toD, hce, Out.then, outD, hlc, freeze1, ht1, h1, hc]
        | false =>
          simp only [hc] at h2
          obtain ⟨tu, h3, h4⟩ := Option.bind_eq_some_iff.mp h2
          have : ∃ u v, tu = .tuple [u, v] ∧ a = .tuple [.str "open", .tuple ns, u, v] := by
            split at h4
            · cases h4
              exact ⟨_, _, rfl, rfl⟩
            · cases h4
          obtain ⟨u, v, rfl, rfl⟩ := this
          simp [Tg.asg, runS, run, dOf, lOf, bOf, toD, hce, Out.then, outD, hlc, freeze1, ht1, ht2, h1, hc, h3]
    | _ => cases h2
theorem read_eq (G : GroundF p k pts) (R : RdOk p pts L) {bk : List Rw} {st : Option (List (List Int))} (B : BkOk pts bk st) {ds : List D} {b : Nat} {a : D} (hb : b = 0 ∨ b = 1) (h1 : R_possible_flats [encG (p, k, pts), encBk bk, encSt st, encRd L] = some (.list ds)) (h2 : R_answer_of [encG (p, k, pts), .list ds, .int (b : Nat)] = some a) :
    R_read [encG (p, k, pts), encBk bk, encSt st, encRd L, .int (b : Nat)] = some a := by
  have hR : R_read [encG (p, k, pts), encBk bk, encSt st, encRd L, .int (b : Nat)] = outD (runS t_read c_read [.val (encG (p, k, pts)), .val (encBk bk), .val (encSt st), .val (encRd L), .val (.int (b : Nat)), .non, .non, .non, .non] none) := rfl
  have ht0 : t_read.tb[0]? = some (("made_all" : Str), R_made_all) := rfl
  have ht1 : t_read.tb[1]? = some (("check_number" : Str), R_check_number) := rfl
  have ht2 : t_read.tb[2]? = some (("answer_of" : Str), R_answer_of) := rfl
  have ht3 : t_read.tb[3]? = some (("possible_flats" : Str), R_possible_flats) := rfl
  have hm := made_all_eq G R B
  have hn : R_check_number [.int (b : Nat)] = some .none := isD_eq (List.all_eq_true.mp tab_number b (by rcases hb with rfl | rfl <;> simp))
  rw [hR]
  unfold c_read
  generalize encG (p, k, pts) = GG at *
  generalize encBk bk = BB at *
  generalize encSt st = SS at *
  generalize encRd L = LL at *
  simp [Tg.asg, runS, run, dOf, lOf, toD, ht0, ht1, ht2, ht3, hm, hn, h1, h2, outD]
end
end Fs
-- FsKg
/-! The plain law: worlds and reader tell the same. -/
namespace Fs
open PySem PySem.Spec PyProof.Rows L2
theorem cpl_take : ∀ (h : Nat) (x y : List Cell), h ≤ x.length → h ≤ y.length → (h ≤ cpl x y ↔ x.take h = y.take h)
  | 0, x, y, _, _ => by simp
  | h + 1, [], y, h1, _ => by simp at h1
  | h + 1, _ :: _, [], _, h2 => by simp at h2
  | h + 1, a :: x, b :: y, h1, h2 => by
    have ih := cpl_take h x y (by simpa using h1) (by simpa using h2)
    by_cases e : a = b
    · subst e
      simp [cpl, ih]
    · simp [cpl, e]
theorem lvB_iff {w : Option Int} {x l : List Cell} (hw : ∀ n, w = some n → 0 ≤ n) (hl : l.length ≤ x.length) : lvB w x l = true ↔ x.take (hdN w l.length) = l.take (hdN w l.length) := by
  cases w with
  | none => simp [lvB, hdN]
  | some n =>
    have h0 := hw n rfl
    have hle : ((l.length : Int) - n).toNat ≤ l.length := by omega
    rw [show hdN (some n) l.length = ((l.length : Int) - n).toNat from rfl, ← cpl_take _ _ _ (Nat.le_trans hle hl) hle]
    simp only [lvB, decide_eq_true_eq]
    omega
section
variable {p k : Nat} {w : List (List Int)} {x0 x1 : List Int}
theorem wov_take : ∀ (t : List Int) (a b h : Nat), (wovS p w x0 x1 a b t).take h = wovS p w x0 x1 a b (t.take h)
  | [], _, _, _ => by simp [wovS]
  | n :: t, a, b, 0 => by simp [wovS]
  | n :: t, a, b, h + 1 => by
    rw [List.take_succ_cons]
    unfold wovS
    by_cases e : n = 0
    · rw [if_pos e, if_pos e, List.take_succ_cons, wov_take t]
    · rw [if_neg e, if_neg e, List.take_succ_cons, wov_take t]
theorem wov_fst : ∀ (t : List Int) (a b : Nat), (wovS p w x0 x1 a b t).map (·.1) = t
  | [], _, _ => rfl
  | n :: t, a, b => by
    unfold wovS
    by_cases e : n = 0
    · rw [if_pos e, List.map_cons, wov_fst t]
    · rw [if_neg e, List.map_cons, wov_fst t]
theorem wov_sol : ∀ (C : List Cell) (a b : Nat), (∀ c ∈ C, c.1 = 0 ∨ c.1 = 1) → (wovS p w x0 x1 a b (C.map (·.1)) = C ↔ (solS p w x0 a (cont 0 C) = true ∧ solS p w x1 b (cont 1 C) = true))
  | [], _, _, _ => by simp [wovS, cont, solS]
  | (n, c) :: C, a, b, h => by
    have hn := h (n, c) List.mem_cons_self
    have ih := fun a b => wov_sol C a b fun z hz => h z (List.mem_cons_of_mem _ hz)
    simp only at hn
    rw [List.map_cons]
    unfold wovS
    rcases hn with rfl | rfl
    · have e0 : cont 0 ((0, c) :: C) = c :: cont 0 C := by simp [cont]
      have e1 : cont 1 ((0, c) :: C) = cont 1 C := by simp [cont]
      rw [if_pos rfl, e0, e1, solS]
      simp only [List.cons.injEq, Prod.mk.injEq, true_and, Bool.and_eq_true, decide_eq_true_eq, ih, and_assoc]
      exact ⟨fun ⟨h1, h2⟩ => ⟨h1.symm, h2⟩, fun ⟨h1, h2⟩ => ⟨h1.symm, h2⟩⟩
    · have e0 : cont 0 ((1, c) :: C) = cont 0 C := by simp [cont]
      have e1 : cont 1 ((1, c) :: C) = c :: cont 1 C := by simp [cont]
      rw [if_neg (show ¬ (1 : Int) = 0 by decide), e0, e1]
      conv => rhs; rw [solS]
      simp only [List.cons.injEq, Prod.mk.injEq, true_and, Bool.and_eq_true, decide_eq_true_eq, ih]
      exact ⟨fun ⟨h1, h2, h3⟩ => ⟨h2, h1.symm, h3⟩, fun ⟨h2, h1, h3⟩ => ⟨h1.symm, h2, h3⟩⟩
/-- one shelf -/
theorem shelf_iff {st : Option (List (List Int))} {most i : Nat} {u v : Option Int} {l : List Cell} (hf : (u, v) ∈ FA) (hn : ∀ c ∈ l, c.1 = 0 ∨ c.1 = 1) (hl : l.length ≤ most) (hs : ∀ W, st = some W → ∃ T, W[i]? = some T ∧ T.length ≤ most ∧ bin T) :
    (∃ t, (bin t ∧ l.length ≤ t.length ∧ t.length ≤ most ∧ gOk u ((t.length : Int) - l.length) = true ∧ stOk st i t) ∧ lvB v (wovS p w x0 x1 0 0 t) l = true) ↔
      (∀ W T, st = some W → W[i]? = some T → shOk (u, v) l T = true) ∧ solS p w x0 0 (cont 0 (l.take (hdN v l.length))) = true ∧ solS p w x1 0 (cont 1 (l.take (hdN v l.length))) = true := by
  have hFA : (∀ n, u = some n → 0 ≤ n) ∧ (∀ n, v = some n → 0 ≤ n) := by
    simp [FA, BD] at hf
    refine ⟨fun n hn => ?_, fun n hn => ?_⟩ <;> subst hn <;> simp at hf <;> omega
  rw [← wov_sol (l.take (hdN v l.length)) 0 0 fun c hc => hn c (List.mem_of_mem_take hc)]
  have key : ∀ t : List Int, l.length ≤ t.length → (lvB v (wovS p w x0 x1 0 0 t) l = true ↔ ((l.take (hdN v l.length)).map (·.1) = t.take (hdN v l.length) ∧ wovS p w x0 x1 0 0 ((l.take (hdN v l.length)).map (·.1)) = l.take (hdN v l.length))) := by
    intro t ht
    rw [lvB_iff hFA.2 (by rw [wov_len]; exact ht), wov_take]
    constructor
    · intro h
      have h1 : (l.take (hdN v l.length)).map (·.1) = t.take (hdN v l.length) := by rw [← h, wov_fst]
      exact ⟨h1, by rw [h1]; exact h⟩
    · rintro ⟨h1, h2⟩
      rw [← h1]; exact h2
  constructor
  · rintro ⟨t, ⟨h1, h2, h3, h4, h5⟩, h6⟩
    obtain ⟨k1, k2⟩ := (key t h2).mp h6
    refine ⟨fun W T hW hT => ?_, k2⟩
    have := h5 W hW
    rw [hT] at this
    cases this
    simp only [shOk, Bool.and_eq_true, decide_eq_true_eq]
    exact ⟨⟨h2, h4⟩, k1⟩
  · rintro ⟨h1, h2⟩
    cases hst : st with
    | none =>
      refine ⟨l.map (·.1), ⟨fun m hm => ?_, by simp, by simpa using hl, ?_, fun W hW => (by cases hW)⟩, (key _ (by simp)).mpr ⟨by rw [List.map_take], h2⟩⟩
      · obtain ⟨c, hc, rfl⟩ := List.mem_map.mp hm
        exact hn c hc
      · rw [List.length_map]
        cases u with
        | none => rfl
        | some n =>
          have := hFA.1 n rfl
          simp only [gOk, decide_eq_true_eq]
          omega
    | some W =>
      obtain ⟨T, hT, t1, t2⟩ := hs W hst
      have h3 := h1 W T hst hT
      simp only [shOk, Bool.and_eq_true, decide_eq_true_eq] at h3
      obtain ⟨⟨g1, g2⟩, g3⟩ := h3
      refine ⟨T, ⟨t2, g1, t1, g2, fun W' hW' => by cases hW'; exact hT⟩, (key T g1).mpr ⟨g3, h2⟩⟩
end
theorem solA_iff {p : Nat} {x : List Int} : ∀ (ws : List (List (List Int))) (cs : List (List Int)), solA p x ws cs = true ↔ ∀ (i : Nat) w c, ws[i]? = some w → cs[i]? = some c → solS p w x 0 c = true
  | [], cs => by simp [solA]
  | w :: ws, [] => by simp [solA]
  | w :: ws, c :: cs => by
    rw [solA, Bool.and_eq_true, solA_iff ws cs]
    constructor
    · rintro ⟨h1, h2⟩ i w' c' e1 e2
      cases i with
      | zero =>
        simp only [List.getElem?_cons_zero, Option.some.injEq] at e1 e2
        subst e1 e2
        exact h1
      | succ i => exact h2 i w' c' (by simpa using e1) (by simpa using e2)
    · intro h
      exact ⟨h 0 w c rfl rfl, fun i w' c' e1 e2 => h (i + 1) w' c' (by simpa using e1) (by simpa using e2)⟩
theorem conts_at (n : Int) : ∀ (L : List (List Cell)) (hs : List Nat) (i : Nat) (l : List Cell) (h : Nat), L[i]? = some l → hs[i]? = some h → (conts n L hs)[i]? = some (cont n (l.take h))
  | [], _, _, _, _, h, _ => by cases h
  | _ :: _, [], _, _, _, _, h => by cases h
  | a :: L, b :: hs, 0, l, h, h1, h2 => by
    simp only [List.getElem?_cons_zero, Option.some.injEq] at h1 h2
    subst h1 h2
    rfl
  | a :: L, b :: hs, i + 1, l, h, h1, h2 => by
    simp only [List.getElem?_cons_succ] at h1 h2
    unfold conts
    rw [List.getElem?_cons_succ]
    exact conts_at n L hs i l h h1 h2
section
variable {p k : Nat} {pts : List Int} {L : List (List Cell)}
theorem sol_iff (G : GroundF p k pts) (R : RdOk p pts L) {r : Rw} (hr : r.length = L.length) {n : Int} {x : List Int} : solR p k pts L (headsN r L) n x = true ↔ ∀ (i : Nat) pt u v l, pts[i]? = some pt → r[i]? = some (u, v) → L[i]? = some l → solS p (wpt p k pt) x 0 (cont n (l.take (hdN v l.length))) = true := by
  unfold solR
  rw [solA_iff]
  constructor
  · intro h i pt u v l h1 h2 h3
    exact h i _ _ (by simp [wss, h1]) (conts_at n L _ i l _ h3 (headsN_at r L i _ l h2 h3))
  · intro h i w c h1 h2
    simp only [wss, List.getElem?_map, Option.map_eq_some_iff] at h1
    obtain ⟨pt, h1, rfl⟩ := h1
    have hi : i < pts.length := (List.getElem?_eq_some_iff.mp h1).1
    have hR := R.len
    have h3 : L[i]? = some (L[i]'(by omega)) := List.getElem?_eq_getElem (by omega)
    have h4 : r[i]? = some (r[i]'(by omega)) := List.getElem?_eq_getElem (by omega)
    rw [conts_at n L _ i _ _ h3 (headsN_at r L i _ _ h4 h3)] at h2
    cases h2
    exact h i pt _ _ _ h1 h4 h3
/-- one row: the worlds -/
theorem row_iff (G : GroundF p k pts) (R : RdOk p pts L) {r : Rw} {st : Option (List (List Int))} {most : Nat} {tfs : List (List (List Int))} {x0 x1 : List Int} (hr : r.length = L.length) (hf : ∀ f ∈ r, f ∈ FA) (hl : ∀ l ∈ L, l.length ≤ most) (hs : ∀ W, st = some W → W.length = L.length ∧ ∀ t ∈ W, t.length ≤ most ∧ bin t)
    (ht1 : tfs.length = L.length) (ht2 : ∀ (i : Nat) u v l tf, r[i]? = some (u, v) → L[i]? = some l → tfs[i]? = some tf → ∀ t, t ∈ tf ↔ bin t ∧ l.length ≤ t.length ∧ t.length ≤ most ∧ gOk u ((t.length : Int) - l.length) = true ∧ stOk st i t) :
    (∃ W, InW tfs W ∧ ∀ i, i < L.length → lvAt r (wovA p k x0 x1 pts W) L i = true) ↔ okR st L r ∧ solR p k pts L (headsN r L) 0 x0 = true ∧ solR p k pts L (headsN r L) 1 x1 = true := by
  have hR := R.len
  rw [sol_iff G R hr, sol_iff G R hr]
  have sh : ∀ (i : Nat) pt u v l, pts[i]? = some pt → r[i]? = some (u, v) → L[i]? = some l → _ := fun i pt u v l e1 e2 e3 => shelf_iff (p := p) (w := wpt p k pt) (x0 := x0) (x1 := x1) (st := st) (most := most) (i := i) (u := u) (v := v) (l := l) (hf _ (List.mem_of_getElem? e2)) (R.num l (List.mem_of_getElem? e3)) (hl l (List.mem_of_getElem? e3)) fun W hW => by
    obtain ⟨q1, q2⟩ := hs W hW
    have hi : i < L.length := (List.getElem?_eq_some_iff.mp e3).1
    exact ⟨W[i]'(by omega), List.getElem?_eq_getElem (by omega), q2 _ (List.getElem_mem _)⟩
  have gets : ∀ i, i < L.length → ∃ pt u v l tf, pts[i]? = some pt ∧ r[i]? = some (u, v) ∧ L[i]? = some l ∧ tfs[i]? = some tf := fun i hi => ⟨pts[i]'(by omega), (r[i]'(by omega)).1, (r[i]'(by omega)).2, L[i], tfs[i]'(by omega), List.getElem?_eq_getElem (by omega), List.getElem?_eq_getElem (by omega), List.getElem?_eq_getElem (by omega), List.getElem?_eq_getElem (by omega)⟩
  constructor
  · rintro ⟨W, ⟨hW1, hW2⟩, hW3⟩
    have each : ∀ (i : Nat) pt u v l, pts[i]? = some pt → r[i]? = some (u, v) → L[i]? = some l → (∀ W T, st = some W → W[i]? = some T → shOk (u, v) l T = true) ∧ solS p (wpt p k pt) x0 0 (cont 0 (l.take (hdN v l.length))) = true ∧ solS p (wpt p k pt) x1 0 (cont 1 (l.take (hdN v l.length))) = true := by
      intro i pt u v l e1 e2 e3
      have hi : i < L.length := (List.getElem?_eq_some_iff.mp e3).1
      have e4 : tfs[i]? = some (tfs[i]'(by omega)) := List.getElem?_eq_getElem (by omega)
      have e5 : W[i]? = some (W[i]'(by omega)) := List.getElem?_eq_getElem (by omega)
      have hm := hW2 i _ _ e5 e4
      refine (sh i pt u v l e1 e2 e3).mp ⟨_, (ht2 i u v l _ e2 e3 e4 _).mp hm, ?_⟩
      have := hW3 i hi
      simp only [lvAt, e2, e3, wovA_at p k x0 x1 pts W i pt _ e1 e5] at this
      exact this
    refine ⟨fun W hW i hi => ?_, fun i pt u v l e1 e2 e3 => (each i pt u v l e1 e2 e3).2.1, fun i pt u v l e1 e2 e3 => (each i pt u v l e1 e2 e3).2.2⟩
    obtain ⟨pt, u, v, l, tf, e1, e2, e3, e4⟩ := gets i hi
    have e5 : W[i]? = some (W[i]'(by have := (hs W hW).1; omega)) := List.getElem?_eq_getElem _
    simp only [shAt, e2, e3, e5]
    exact (each i pt u v l e1 e2 e3).1 W _ hW e5
  · rintro ⟨h1, h2, h3⟩
    have each : ∀ i, ∃ t : List Int, i < L.length → ∀ pt u v l, pts[i]? = some pt → r[i]? = some (u, v) → L[i]? = some l → (bin t ∧ l.length ≤ t.length ∧ t.length ≤ most ∧ gOk u ((t.length : Int) - l.length) = true ∧ stOk st i t) ∧ lvB v (wovS p (wpt p k pt) x0 x1 0 0 t) l = true := by
      intro i
      by_cases hi : i < L.length
      · obtain ⟨pt, u, v, l, tf, e1, e2, e3, e4⟩ := gets i hi
        obtain ⟨t, q⟩ := (sh i pt u v l e1 e2 e3).mpr ⟨fun W T hW hT => by
          have := h1 W hW i hi
          simp only [shAt, e2, e3, hT] at this
          exact this, h2 i pt u v l e1 e2 e3, h3 i pt u v l e1 e2 e3⟩
        refine ⟨t, fun _ pt' u' v' l' e1' e2' e3' => ?_⟩
        rw [e1] at e1'
        rw [e2] at e2'
        rw [e3] at e3'
        cases e1'
        cases e2'
        cases e3'
        exact q
      · exact ⟨[], fun h => absurd h hi⟩
    obtain ⟨ft, hft⟩ := Classical.axiomOfChoice each
    refine ⟨(List.range L.length).map ft, ⟨by simp [ht1], fun i t tf e1 e4 => ?_⟩, fun i hi => ?_⟩
    · have hi : i < L.length := by
        have := (List.getElem?_eq_some_iff.mp e4).1
        omega
      rw [List.getElem?_map, List.getElem?_range hi] at e1
      cases e1
      obtain ⟨pt, u, v, l, tf', e1, e2, e3, e4'⟩ := gets i hi
      exact (ht2 i u v l tf e2 e3 e4 _).mpr (hft i hi pt u v l e1 e2 e3).1
    · obtain ⟨pt, u, v, l, tf', e1, e2, e3, e4'⟩ := gets i hi
      have e5 : ((List.range L.length).map ft)[i]? = some (ft i) := by rw [List.getElem?_map, List.getElem?_range hi]; rfl
      simp only [lvAt, e2, e3, wovA_at p k x0 x1 pts _ i pt _ e1 e5]
      exact (hft i hi pt u v l e1 e2 e3).2
end
end Fs
-- FsKh
/-! The plain law: what is due. -/
namespace Fs
open PySem PySem.Spec PyProof.Rows L2
section
variable {p k : Nat} {pts : List Int} {L : List (List Cell)}
/-- the worlds of a book, told by the rows -/
theorem worlds_sem (G : GroundF p k pts) (R : RdOk p pts L) {bk : List Rw} {st : Option (List (List Int))} (B : BkOk pts bk st) {most b : Nat} (hb : b = 0 ∨ b = 1) (hm : most ≤ 3) (hl : ∀ l ∈ L, l.length ≤ most) (hst : ∀ W, st = some W → ∀ t ∈ W, t.length ≤ most) :
    ∃ S : List Int → Bool, R_worlds [encG (p, k, pts), encBk bk, encSt st, encRd L, .int (b : Nat), .int 2, .int (most : Nat)] = some (.list (((Xs p k).filter S).map encT)) ∧
      ∀ x ∈ Xs p k, S x = true ↔ ∃ r ∈ bk, okR st L r ∧ GoodH p k pts L (headsN r L) ∧ solR p k pts L (headsN r L) (b : Nat) x = true := by
  have hR := R.len
  have hm12 := G.m12
  have htf : ∀ rs : Rw × Nat, ∃ tf : List (List Int), rs.1 ∈ bk → rs.2 < L.length → R_tapes_for [encRow rs.1, encSt st, encRd L, .int (rs.2 : Nat), .int 2, .int (most : Nat)] = some (.list (tf.map encT)) ∧ tf.length ≤ 32 ∧
      ∀ u v l, rs.1[rs.2]? = some (u, v) → L[rs.2]? = some l → ∀ t, t ∈ tf ↔ bin t ∧ l.length ≤ t.length ∧ t.length ≤ most ∧ gOk u ((t.length : Int) - l.length) = true ∧ stOk st rs.2 t := by
    rintro ⟨r, s⟩
    by_cases h : r ∈ bk ∧ s < L.length
    · obtain ⟨h1, h2⟩ := h
      have hrl := (B.rows r h1).1
      have e1 : r[s]? = some (r[s]'(by omega)) := List.getElem?_eq_getElem (by omega)
      have e2 : L[s]? = some (L[s]) := List.getElem?_eq_getElem h2
      obtain ⟨tf, q1, q2, q3⟩ := tapes_for_eq (st := st) (most := most) e1 e2 (by have := R.few _ (List.getElem_mem h2); omega) hm fun W hW => by have := (B.stl W hW).1; omega
      refine ⟨tf, fun _ _ => ⟨q1, q2, fun u v l e1' e2' t => ?_⟩⟩
      rw [e1] at e1'
      rw [e2] at e2'
      cases e2'
      have : (r[s]'(by omega)) = (u, v) := Option.some.inj e1'
      rw [q3 t, this]
    · exact ⟨[], fun h1 h2 => absurd ⟨h1, h2⟩ h⟩
  obtain ⟨tf, htf⟩ := Classical.axiomOfChoice htf
  have hget : ∀ r i, i < L.length → ((List.range L.length).map fun s => tf (r, s))[i]? = some (tf (r, i)) := fun r i hi => by rw [List.getElem?_map, List.getElem?_range hi]; rfl
  obtain ⟨S, hS1, hS2⟩ := worlds_eq (p := p) (k := k) (b := b) (most := most) (pts := pts) (bk := bk) (st := encSt st) (rd := encRd L) (tfs := fun r => (List.range L.length).map fun s => tf (r, s)) (P := fun r W x0 x1 => ∀ i, i < L.length → lvAt r (wovA p k x0 x1 pts W) L i = true) G.pk hb
    (fun r hr => by simp; omega)
    (fun r hr s tf' e => by
      have hs : s < L.length := by
        have := (List.getElem?_eq_some_iff.mp e).1
        simpa using this
      rw [hget r s hs] at e
      cases e
      obtain ⟨q1, q2, _⟩ := htf (r, s) hr hs
      exact ⟨q1, q2⟩)
    (fun r hr W hW x0 h0 x1 h1 => by
      have hrl := (B.rows r hr).1
      have hWl : W.length = L.length := by
        have := hW.1
        simpa using this
      have hWt : ∀ t ∈ W, t.length < 1000 ∧ ∀ m ∈ t, m = 0 ∨ m = 1 := by
        intro t ht
        obtain ⟨i, hi, e⟩ := List.mem_iff_getElem.mp ht
        have hi' : i < L.length := by omega
        have := hW.2 i t _ (by rw [List.getElem?_eq_getElem hi, e]) (hget r i hi')
        have e1 : r[i]? = some ((r[i]'(by omega)).1, (r[i]'(by omega)).2) := List.getElem?_eq_getElem (by omega)
        have e2 : L[i]? = some (L[i]) := List.getElem?_eq_getElem hi'
        obtain ⟨b1, _, b3, _⟩ := ((htf (r, i) hr hi').2.2 _ _ _ e1 e2 t).mp this
        exact ⟨by omega, b1⟩
      have hwv := woven_eq (p := p) (k := k) (pts := pts) (W := W) (x0 := x0) (x1 := x1) G.k12 (by omega) (by omega) hWt (fun pt hp => G.written hp h0) (fun pt hp => G.written hp h1)
      have hwl : (wovA p k x0 x1 pts W).length = L.length := by rw [wovA_len p k x0 x1 pts W (by omega), hWl]
      obtain ⟨bb, q1, q2⟩ := is_world_eq (r := r) (L := L) hwv (by omega) (by omega)
      rw [hwl] at q2
      exact ⟨bb, q1, q2⟩)
  refine ⟨S, hS1, fun x hx => ?_⟩
  rw [hS2]
  have hrow : ∀ r ∈ bk, ∀ x0 x1, (∃ W, InW ((List.range L.length).map fun s => tf (r, s)) W ∧ ∀ i, i < L.length → lvAt r (wovA p k x0 x1 pts W) L i = true) ↔ okR st L r ∧ solR p k pts L (headsN r L) 0 x0 = true ∧ solR p k pts L (headsN r L) 1 x1 = true := by
    intro r hr x0 x1
    obtain ⟨b1, b2⟩ := B.rows r hr
    refine row_iff G R (most := most) (by omega) b2 hl (fun W hW => ⟨by have := (B.stl W hW).1; omega, fun t ht => ⟨hst W hW t ht, ((B.stl W hW).2 t ht).2⟩⟩) (by simp) fun i u v l tf' e1 e2 e3 => ?_
    have hi : i < L.length := (List.getElem?_eq_some_iff.mp e2).1
    rw [hget r i hi] at e3
    cases e3
    exact (htf (r, i) hr hi).2.2 u v l e1 e2
  constructor
  · rintro ⟨r, hr, W, hW, x0, h0, x1, h1, hP, hx⟩
    obtain ⟨g1, g2, g3⟩ := (hrow r hr x0 x1).mp ⟨W, hW, hP⟩
    refine ⟨r, hr, g1, fun n hn => ?_, ?_⟩
    · rcases hn with rfl | rfl
      · exact ⟨x0, h0, g2⟩
      · exact ⟨x1, h1, g3⟩
    · rw [hx]
      rcases hb with rfl | rfl
      · exact g2
      · exact g3
  · rintro ⟨r, hr, g1, g2, g3⟩
    obtain ⟨y0, k0, l0⟩ := g2 0 (.inl rfl)
    obtain ⟨y1, k1, l1⟩ := g2 1 (.inr rfl)
    rcases hb with rfl | rfl
    · obtain ⟨W, q1, q2⟩ := (hrow r hr x y1).mpr ⟨g1, g3, l1⟩
      exact ⟨r, hr, W, q1, x, hx, y1, k1, q2, rfl⟩
    · obtain ⟨W, q1, q2⟩ := (hrow r hr y0 x).mpr ⟨g1, l0, g3⟩
      exact ⟨r, hr, W, q1, y0, k0, x, hx, q2, rfl⟩
theorem encT_inj {a b : List Int} (h : encT a = encT b) : a = b := by
  have h1 : a.map PyData.int = b.map .int := PyData.tuple.inj h
  have h2 := intsOf_map a
  rw [h1, intsOf_map b] at h2
  exact (Option.some.inj h2).symm
theorem encF_inj {f g : Flat} (h : encF f = encF g) : f = g := by
  obtain ⟨f1, f2⟩ := f
  obtain ⟨g1, g2⟩ := g
  have h1 : [encT f1, PyData.tuple (f2.map encT)] = [encT g1, .tuple (g2.map encT)] := PyData.tuple.inj h
  simp only [List.cons.injEq, and_true] at h1
  have h2 : f2.map encT = g2.map encT := PyData.tuple.inj h1.2
  have h3 := tupsOf_map f2
  rw [h2, tupsOf_map g2] at h3
  rw [encT_inj h1.1, Option.some.inj h3]
theorem core (G : GroundF p k pts) (R : RdOk p pts L) {bk : List Rw} {st : Option (List (List Int))} (B : BkOk pts bk st) {most b : Nat} (hb : b = 0 ∨ b = 1) (hm : most ≤ 3) (hl : ∀ l ∈ L, l.length ≤ most) (hst : ∀ W, st = some W → ∀ t ∈ W, t.length ≤ most) :
    ∃ those told, R_worlds [encG (p, k, pts), encBk bk, encSt st, encRd L, .int (b : Nat), .int 2, .int (most : Nat)] = some those ∧ R_read [encG (p, k, pts), encBk bk, encSt st, encRd L, .int (b : Nat)] = some told ∧ R_due_right [encG (p, k, pts), those, told] = some (.bool true) := by
  obtain ⟨S, hS1, hS2⟩ := worlds_sem G R B hb hm hl hst
  obtain ⟨ds, hd1, hd2, hd3, hd4⟩ := possible_eq G R (bk := bk) (st := st) (by have := B.two; omega) (fun r hr => by have := (B.rows r hr).1; have := R.len; omega) (fun W hW => by have := (B.stl W hW).1; have := R.len; omega)
  have hbI : ((b : Nat) : Int) = 0 ∨ ((b : Nat) : Int) = 1 := by omega
  have hg : ∀ d, ∃ f : Flat, d ∈ ds → f ∈ flatsK p k ∧ (∃ kvs, d = .dict kvs ∧ (getK kvs (b : Nat)).getD (encF (wholeF k)) = encF f) ∧ ∀ hs, MtH p k pts L hs d → ∀ x ∈ Xs p k, inF p f x = solR p k pts L hs (b : Nat) x := by
    intro d
    by_cases h : d ∈ ds
    · obtain ⟨r, _, _, _, kvs, e, h3⟩ := hd3 d h
      obtain ⟨f, q1, q2, q3⟩ := h3 (b : Nat) hbI
      exact ⟨f, fun _ => ⟨q1, ⟨kvs, e, q2⟩, fun hs hM x hx => by
        obtain ⟨kvs', e', h'⟩ := hM
        rw [e] at e'
        cases e'
        obtain ⟨f', _, q2', q3'⟩ := h' (b : Nat) hbI
        rw [q2] at q2'
        rw [encF_inj q2']
        exact q3' x hx⟩⟩
    · exact ⟨([], []), fun h' => absurd h' h⟩
  obtain ⟨g, hg⟩ := Classical.axiomOfChoice hg
  have hlot : ds.map g ∈ listsK (flatsK p k) 2 := listsK_mem 2 _ (by rw [List.length_map]; have := B.two; omega) fun f hf => by
    obtain ⟨d, hd, rfl⟩ := List.mem_map.mp hf
    exact (hg d hd).1
  have hdue := List.all_eq_true.mp (due_all G.pk (encT pts)) _ hlot
  unfold dueOk at hdue
  cases ha : ansD p k (ds.map g) with
  | none => rw [ha] at hdue; cases hdue
  | some a =>
    rw [ha] at hdue
    have hset : (Xs p k).filter S = lotSet p k (ds.map g) := by
      unfold lotSet
      refine List.filter_congr fun x hx => ?_
      rw [Bool.eq_iff_iff, hS2 x hx, List.any_eq_true]
      constructor
      · rintro ⟨r, hr, g1, g2, g3⟩
        obtain ⟨d, hd, hM⟩ := hd4 r hr g1 g2
        exact ⟨g d, List.mem_map.mpr ⟨d, hd, rfl⟩, by rw [(hg d hd).2.2 _ hM x hx]; exact g3⟩
      · rintro ⟨f, hf, hx2⟩
        obtain ⟨d, hd, rfl⟩ := List.mem_map.mp hf
        obtain ⟨r, hr, g1, g2, hM⟩ := hd3 d hd
        rw [(hg d hd).2.2 _ hM x hx] at hx2
        exact ⟨r, hr, g1, g2, hx2⟩
    rw [hset] at hS1
    exact ⟨_, a, hS1, read_eq G R B hb hd1 (answer_eq G (fun d hd => (hg d hd).2.1) (by have := B.two; omega) ha), isD_eq hdue⟩
end
end Fs
-- FsKi
/-! The drawn reading. -/
namespace Fs
open PySem PySem.Spec PyProof.Rows L2
theorem gen_of {α : Type} {e : α → D} {Q : α → Prop} : ∀ {ys : List D}, (∀ y ∈ ys, ∃ x, y = e x ∧ Q x) → ∃ l : List α, ys = l.map e ∧ ∀ x ∈ l, Q x
  | [], _ => ⟨[], rfl, fun _ h => by cases h⟩
  | y :: ys, h => by
    obtain ⟨x, rfl, hx⟩ := h y List.mem_cons_self
    obtain ⟨l, rfl, hl⟩ := gen_of fun z hz => h z (List.mem_cons_of_mem _ hz)
    refine ⟨x :: l, rfl, fun z hz => ?_⟩
    rcases List.mem_cons.mp hz with rfl | hz
    · exact hx
    · exact hl z hz
def CellP (p : Nat) (c : Cell) : Prop := 0 ≤ c.2 ∧ c.2 < (p : Int)
theorem wrong_cell_ok {p k : Nat} {pts : List Int} (G : GroundF p k pts) {c : Cell} (hc : CellP p c) (q : Pl) : ∃ c' q', R_wrong_cell [encG (p, k, pts), encC c, .int 2] q = some (encC c', q') ∧ CellP p c' := by
  have hp := G.p23
  have hR : R_wrong_cell [encG (p, k, pts), encC c, .int 2] q = outQ (runS t_wrong_cell c_wrong_cell [.pool, .val (encG (p, k, pts)), .val (encC c), .val (.int 2), .non, .non] (some q)) := rfl
  have hG : encG (p, k, pts) = .tuple [.int (p : Nat), .int (k : Nat), encT pts] := rfl
  have hC : encC c = .tuple [.int c.1, .int c.2] := rfl
  have ht0 : t_wrong_cell.tq[0]? = some (("_law_draw" : Str), R_draw) := rfl
  have ht1 : t_wrong_cell.tq[1]? = some (("_law_pick" : Str), R_pick) := rfl
  rw [hR]
  obtain ⟨d1, q1, h1, a1, b1⟩ := draw_ok 4 (by decide) (by decide) q
  unfold c_wrong_cell
  by_cases e0 : d1 = 0
  · subst e0
    refine ⟨c, q1, ?_, hc⟩
    rw [hG]
    simp [runS, run, ht0, lOf, dOf, bOf, toD, h1, cmpD, Out.then, outQ]
  · by_cases e3 : d1 < 3
    · obtain ⟨d2, q2, h2, a2, b2⟩ := draw_ok (p : Nat) (by omega) (by omega) q1
      refine ⟨(c.1, d2), q2, ?_, a2, b2⟩
      rw [hG, hC]
      simp [runS, run, ht0, lOf, dOf, bOf, sOf, iOf, toD, h1, h2, cmpD, e0, e3, ix0, Out.then, outQ, encC]
    · obtain ⟨d2, q2, h2, a2, b2⟩ := draw_ok 2 (by decide) (by decide) q1
      obtain ⟨d3, q3, h3, a3, b3⟩ := draw_ok 64 (by decide) (by decide) q2
      obtain ⟨d4, q4, h4, m4⟩ := pick_ok [.int d2, .int d3] (by simp) (by simp) q3
      obtain ⟨d5, q5, h5, a5, b5⟩ := draw_ok (p : Nat) (by omega) (by omega) q4
      have : ∃ z, d4 = .int z := by
        simp at m4
        rcases m4 with rfl | rfl
        · exact ⟨_, rfl⟩
        · exact ⟨_, rfl⟩
      obtain ⟨z, rfl⟩ := this
      refine ⟨(z, d5), q5, ?_, a5, b5⟩
      rw [hG, hC]
      simp [runS, run, ht0, ht1, lOf, dOf, bOf, sOf, iOf, toD, h1, h2, h3, h4, h5, cmpD, e0, e3, ix0, Out.then, outQ, encC]
/-! ### the stop -/
abbrev Loss := Nat × List Cell
def encLo (s : Loss) : D := .tuple [.int (s.1 : Nat), encCs s.2]
def LossP (p : Nat) (l : List Cell) (s : Loss) : Prop := s.1 + s.2.length ≤ l.length ∧ ∀ c ∈ s.2, CellP p c
def mostC (i j : Nat) : C := (.ite (.isN false (.ix (.v 6) (.k (.int i)))) (.fn .len (.cons (.v j) .nil)) (.fn .min (.cons (.ix (.v 6) (.k (.int i))) (.cons (.fn .len (.cons (.v j) .nil)) .nil))))
def pickC : C := (.callQ 0 0 (.cons (.lst (.cons (.v 8) (.cons (.callQ 1 0 (.cons (.bin .add (.v 8) (.k (.int 1))) .nil)) .nil))) .nil))
def wrC : C := (.lc (.callQ 2 0 (.cons (.v 1) (.cons (.v 13) (.cons (.v 4) .nil)))) (.n 13) (.seq (.slFrom (.v 10) (.bin .sub (.fn .len (.cons (.v 10) .nil)) (.v 11)))) [("_law_cell", 13)])
def stB0 : S := (.asg 8 (mostC 0 7) (.asg 9 pickC (.asg 10 (.slTo (.v 7) (.bin .sub (.fn .len (.cons (.v 7) .nil)) (.v 9))) (.frz 10 (.asg 8 (mostC 1 10) (.asg 11 pickC (.frz 10 (.asg 12 wrC (.frz 12 (.app 5 (.tup (.cons (.v 9) (.cons (.fn .tup (.cons (.v 12) .nil)) .nil))) .nil))))))))))
theorem c_stop_eq : c_stop = (.asg 5 (.lst .nil) (.for (.tup (.cons (.n 6) (.cons (.n 7) .nil))) (.zip (.v 2) (.v 3)) stB0 (.frz 5 (.ret (.fn .tup (.cons (.v 5) .nil)))))) := rfl
theorem st0 : t_stop.tq[0]? = some (("_law_pick" : Str), R_pick) := rfl
theorem st1 : t_stop.tq[1]? = some (("_law_draw" : Str), R_draw) := rfl
theorem st2 : t_stop.tq[2]? = some (("_law_wrong_cell" : Str), R_wrong_cell) := rfl
def mostN : Option Int → Nat → Nat
  | none, n => n
  | some u, n => min u.toNat n
theorem most_ok {f : Fa} (hf : f ∈ FA) (i j : Nat) (hi : i = 0 ∨ i = 1) (xs : List D) (ρ : List Slot) (h6 : ρ[6]? = some (.val (encFa f))) (hj : ρ[j]? = some (.val (.tuple xs))) (q : PSt) : run t_stop (mostC i j) ρ q = some (.val (.int (mostN (if i = 0 then f.1 else f.2) xs.length : Nat)), q) := by
  obtain ⟨u, w⟩ := f
  have hE : encFa (u, w) = .tuple [oI u, oI w] := rfl
  rw [hE] at h6
  have hFA : (∀ n, u = some n → 0 ≤ n) ∧ (∀ n, w = some n → 0 ≤ n) := by
    simp [FA, BD] at hf
    refine ⟨fun n hn => ?_, fun n hn => ?_⟩ <;> subst hn <;> simp at hf <;> omega
  unfold mostC
  rcases hi with rfl | rfl
  · cases u with
    | none =>
      rw [show oI none = .none from rfl] at h6
      simp [run, sOf, iOf, dOf, bOf, lOf, toD, h6, hj, ix0, isNone, fnD, mostN]
    | some n =>
      rw [show oI (some n) = .int n from rfl] at h6
      have h0 := hFA.1 n rfl
      have hmin : (if (xs.length : Int) < n then (xs.length : Int) else n) = ((min n.toNat xs.length : Nat) : Int) := by
        split <;> omega
      simp [run, sOf, iOf, dOf, bOf, lOf, toD, h6, hj, ix0, isNone, fnD, mostN]
      exact hmin
  · cases w with
    | none =>
      rw [show oI none = .none from rfl] at h6
      simp [run, sOf, iOf, dOf, bOf, lOf, toD, h6, hj, ix1, isNone, fnD, mostN]
    | some n =>
      rw [show oI (some n) = .int n from rfl] at h6
      have h0 := hFA.2 n rfl
      have hmin : (if (xs.length : Int) < n then (xs.length : Int) else n) = ((min n.toNat xs.length : Nat) : Int) := by
        split <;> omega
      simp [run, sOf, iOf, dOf, bOf, lOf, toD, h6, hj, ix1, isNone, fnD, mostN]
      exact hmin
theorem most_le (g : Option Int) (n : Nat) : mostN g n ≤ n := by
  cases g with
  | none => exact Nat.le_refl _
  | some u => exact Nat.min_le_right _ _
theorem pickC_ok (ρ : List Slot) (m : Nat) (hm : m < 900) (h0 : ρ[0]? = some .pool) (h8 : ρ[8]? = some (.val (.int (m : Nat)))) (q : Pl) : ∃ (n : Nat) (q' : Pl), n ≤ m ∧ run t_stop pickC ρ (some q) = some (.val (.int (n : Nat)), some q') := by
  obtain ⟨d1, q1, h1, a1, b1⟩ := draw_ok ((m : Nat) + 1) (by omega) (by omega) q
  obtain ⟨d2, q2, h2, m2⟩ := pick_ok [.int (m : Nat), .int d1] (by simp) (by simp) q1
  have : ∃ n : Nat, d2 = .int (n : Nat) ∧ n ≤ m := by
    simp at m2
    rcases m2 with rfl | rfl
    · exact ⟨m, rfl, Nat.le_refl _⟩
    · exact ⟨d1.toNat, by rw [Int.toNat_of_nonneg a1], by omega⟩
  obtain ⟨n, rfl, hn⟩ := this
  refine ⟨n, q2, hn, ?_⟩
  unfold pickC
  simp [run, lOf, dOf, toD, h0, h8, st0, st1, binD, h1, h2]
theorem cut_from {α : Type} (xs : List α) (j : Nat) : cutD xs (some (j : Int)) none = xs.drop j := by
  unfold cutD
  rw [HT.sIx_none, HT.sIx_nat]
  by_cases h : j ≤ xs.length
  · rw [Nat.min_eq_left h]
    exact List.take_of_length_le (by rw [List.length_drop]; exact Nat.le_refl _)
  · rw [Nat.min_eq_right (by omega), List.drop_of_length_le (by omega), List.drop_of_length_le (by omega)]
    simp
theorem stop_step {p k : Nat} {pts : List Int} (G : GroundF p k pts) {f : Fa} (hf : f ∈ FA) {l : List Cell} (hl : l.length < 900) (hc : ∀ c ∈ l, CellP p c) {v2 v3 s8 s9 s10 s11 s12 s13 : Slot} {acc : List D} (hacc : acc.length < 1000) (q : Pl) :
    ∃ (s : Loss) (q' : Pl) (s8' s9' s10' s11' s12' s13' : Slot), LossP p l s ∧ runS t_stop stB0 [.pool, .val (encG (p, k, pts)), v2, v3, .val (.int 2), .own acc, .val (encFa f), .val (encCs l), s8, s9, s10, s11, s12, s13] (some q) =
      some (.nx [.pool, .val (encG (p, k, pts)), v2, v3, .val (.int 2), .own (acc ++ [encLo s]), .val (encFa f), .val (encCs l), s8', s9', s10', s11', s12', s13'] (some q')) := by
  have hCs : ∀ l, encCs l = .tuple (l.map encC) := fun _ => rfl
  have m1 : ∀ (s8 s9 s10 s11 s12 s13 : Slot) q, run t_stop (mostC 0 7) [.pool, .val (encG (p, k, pts)), v2, v3, .val (.int 2), .own acc, .val (encFa f), .val (encCs l), s8, s9, s10, s11, s12, s13] q = some (.val (.int (mostN f.1 l.length : Nat)), q) := fun s8 s9 s10 s11 s12 s13 q => by
    have := most_ok hf 0 7 (.inl rfl) (l.map encC) [.pool, .val (encG (p, k, pts)), v2, v3, .val (.int 2), .own acc, .val (encFa f), .val (encCs l), s8, s9, s10, s11, s12, s13] rfl rfl q
    rw [List.length_map] at this
    exact this
  have hm1 := most_le f.1 l.length
  obtain ⟨gn, q1, hg, g1⟩ := pickC_ok [.pool, .val (encG (p, k, pts)), v2, v3, .val (.int 2), .own acc, .val (encFa f), .val (encCs l), .val (.int (mostN f.1 l.length : Nat)), s9, s10, s11, s12, s13] (mostN f.1 l.length) (by omega) rfl rfl q
  have hlen : ((l.take (l.length - gn)).map encC).length = l.length - gn := by rw [List.length_map, List.length_take]; omega
  have m2 : ∀ (s8 s9 s11 s12 s13 : Slot) q, run t_stop (mostC 1 10) [.pool, .val (encG (p, k, pts)), v2, v3, .val (.int 2), .own acc, .val (encFa f), .val (encCs l), s8, s9, .val (encCs (l.take (l.length - gn))), s11, s12, s13] q = some (.val (.int (mostN f.2 (l.length - gn) : Nat)), q) := fun s8 s9 s11 s12 s13 q => by
    have := most_ok hf 1 10 (.inr rfl) ((l.take (l.length - gn)).map encC) [.pool, .val (encG (p, k, pts)), v2, v3, .val (.int 2), .own acc, .val (encFa f), .val (encCs l), s8, s9, .val (encCs (l.take (l.length - gn))), s11, s12, s13] rfl rfl q
    rw [hlen] at this
    exact this
  have hm2 := most_le f.2 (l.length - gn)
  obtain ⟨mn, q2, hmn, g2⟩ := pickC_ok [.pool, .val (encG (p, k, pts)), v2, v3, .val (.int 2), .own acc, .val (encFa f), .val (encCs l), .val (.int (mostN f.2 (l.length - gn) : Nat)), .val (.int (gn : Nat)), .val (encCs (l.take (l.length - gn))), s11, s12, s13] (mostN f.2 (l.length - gn)) (by omega) rfl rfl q1
  have hsub : ∀ c ∈ (l.take (l.length - gn)).drop (l.length - gn - mn), c ∈ l := fun c h => List.mem_of_mem_take (List.mem_of_mem_drop h)
  obtain ⟨ys, q3, w1, w2, w3⟩ := run_lc_tot (T := t_stop) (elt := .callQ 2 0 (.cons (.v 1) (.cons (.v 13) (.cons (.v 4) .nil)))) (tg := .n 13) (it := .seq (.slFrom (.v 10) (.bin .sub (.fn .len (.cons (.v 10) .nil)) (.v 11)))) (own := [("_law_cell", 13)]) (ρ := [.pool, .val (encG (p, k, pts)), v2, v3, .val (.int 2), .own acc, .val (encFa f), .val (encCs l), .val (.int (mostN f.2 (l.length - gn) : Nat)), .val (.int (gn : Nat)), .val (encCs (l.take (l.length - gn))), .val (.int (mn : Nat)), s12, s13]) (p := some q2) (P := fun y => ∃ c, y = encC c ∧ CellP p c)
    (((l.take (l.length - gn)).drop (l.length - gn - mn)).map encC) q2
    (by
      have e1 : ((l.length - gn : Nat) : Int) - (mn : Int) = ((l.length - gn - mn : Nat) : Int) := by omega
      rw [hCs (l.take (l.length - gn))]
      have e3 : fnD .len [.tuple ((l.take (l.length - gn)).map encC)] = some (.val (.int ((l.length - gn : Nat) : Int))) := by
        show some (Slot.val (.int (((l.take (l.length - gn)).map encC).length : Nat))) = _
        rw [hlen]
      have e2 : cutD ((l.take (l.length - gn)).map encC) (some ((l.length - gn - mn : Nat) : Int)) none = ((l.take (l.length - gn)).drop (l.length - gn - mn)).map encC := by rw [cut_from, List.map_drop]
      generalize ((l.take (l.length - gn)).map encC) = XX at *
      simp only [run, lOf, tOf, sOf, iOf, dOf, toD, List.getElem?_cons_succ, List.getElem?_cons_zero, Option.bind_some, Option.map_some, e3, binD, e1, e2])
    (by rw [List.length_map, List.length_drop, List.length_take]; omega)
    (fun d hd => ⟨_, rfl, fun q => by
      obtain ⟨c, hcm, rfl⟩ := List.mem_map.mp hd
      obtain ⟨c', q', e, hc'⟩ := wrong_cell_ok G (hc c (hsub c hcm)) q
      exact ⟨encC c', q', by simp [run, lOf, dOf, toD, wipeS, st2, e], c', rfl, hc'⟩⟩)
  obtain ⟨wr, rfl, hw⟩ := gen_of w3
  refine ⟨(gn, wr), q3, .val (.int (mostN f.2 (l.length - gn) : Nat)), .val (.int (gn : Nat)), .val (encCs (l.take (l.length - gn))), .val (.int (mn : Nat)), .val (.list (wr.map encC)), s13, ⟨?_, hw⟩, ?_⟩
  · rw [List.length_map, List.length_map, List.length_drop, List.length_take] at w2
    simp only
    omega
  · have e1 : ((l.length : Nat) : Int) - (gn : Int) = ((l.length - gn : Nat) : Int) := by omega
    have hsl : run t_stop (.slTo (.v 7) (.bin .sub (.fn .len (.cons (.v 7) .nil)) (.v 9))) [.pool, .val (encG (p, k, pts)), v2, v3, .val (.int 2), .own acc, .val (encFa f), .val (encCs l), .val (.int (mostN f.1 l.length : Nat)), .val (.int (gn : Nat)), s10, s11, s12, s13] (some q1) = some (.val (encCs (l.take (l.length - gn))), some q1) := by
      rw [hCs l, hCs (l.take (l.length - gn))]
      have e3 : fnD .len [.tuple (l.map encC)] = some (.val (.int ((l.length : Nat) : Int))) := by
        show some (Slot.val (.int ((l.map encC).length : Nat))) = _
        rw [List.length_map]
      have e2 : cutD (l.map encC) none (some ((l.length - gn : Nat) : Int)) = (l.take (l.length - gn)).map encC := by rw [cut_to, List.map_take]
      generalize l.map encC = XX at *
      simp only [run, lOf, iOf, dOf, toD, List.getElem?_cons_succ, List.getElem?_cons_zero, Option.bind_some, Option.map_some, e3, binD, e1, e2]
    have w1' : run t_stop wrC _ _ = _ := w1
    unfold stB0
    generalize (C.slTo _ _) = SL at hsl ⊢
    generalize mostC 0 7 = M1 at m1 ⊢
    generalize mostC 1 10 = M2 at m2 ⊢
    generalize pickC = PC at g1 g2 ⊢
    generalize wrC = WC at w1' ⊢
    generalize encG (p, k, pts) = GG at *
    have hlo : encLo (gn, wr) = .tuple [.int (gn : Nat), .tuple (wr.map encC)] := rfl
    rw [hlo]
    generalize encCs l = CL at *
    generalize encCs (l.take (l.length - gn)) = CT at *
    simp [runS, m1, g1, hsl, freeze1, m2, g2, w1', run, dOf, lOf, toD, fnD, show acc.length < 100000 by omega]
end Fs
-- FsKj
/-! The drawn reading, whole. -/
namespace Fs
open PySem PySem.Spec PyProof.Rows L2
theorem forGo_invQ {f : D → List Slot → PSt → Option Out} : ∀ (ds : List D) (I : Nat → List Slot → Prop), (∀ i d, ds[i]? = some d → ∀ ρ q, I i ρ → ∃ ρ' q', f d ρ (some q) = some (.nx ρ' (some q')) ∧ I (i + 1) ρ') → ∀ ρ q, I 0 ρ → ∃ ρ' q', forGo f ds ρ (some q) = some (.nx ρ' (some q')) ∧ I ds.length ρ'
  | [], I, _, ρ, q, h0 => ⟨ρ, q, rfl, h0⟩
  | d :: ds, I, h, ρ, q, h0 => by
    obtain ⟨ρ1, q1, e, h1⟩ := h 0 d rfl ρ q h0
    obtain ⟨ρ2, q2, e2, h2⟩ := forGo_invQ ds (fun i => I (i + 1)) (fun i d' hd => h (i + 1) d' hd) ρ1 q1 h1
    refine ⟨ρ2, q2, ?_, h2⟩
    unfold forGo
    rw [e]
    exact e2
theorem zip_at : ∀ {x y : List D} {i : Nat} {d : D}, (zipD x y)[i]? = some d → ∃ a b, x[i]? = some a ∧ y[i]? = some b ∧ d = .tuple [a, b]
  | [], _, _, _, h => by simp [zipD] at h
  | _ :: _, [], _, _, h => by simp [zipD] at h
  | a :: x, b :: y, 0, d, h => by
    simp only [zipD, List.getElem?_cons_zero, Option.some.injEq] at h
    exact ⟨a, b, rfl, rfl, h.symm⟩
  | a :: x, b :: y, i + 1, d, h => by
    simp only [zipD, List.getElem?_cons_succ] at h
    obtain ⟨a', b', h1, h2, h3⟩ := zip_at h
    exact ⟨a', b', by simpa using h1, by simpa using h2, h3⟩
theorem zip_len : ∀ {x y : List D}, x.length = y.length → (zipD x y).length = y.length
  | [], [], _ => rfl
  | [], _ :: _, h => by cases h
  | _ :: _, [], h => by cases h
  | a :: x, b :: y, h => by
    simp only [zipD, List.length_cons]
    rw [zip_len (by simpa using h)]
section
variable {p k : Nat} {pts : List Int}
theorem stop_eq (G : GroundF p k pts) {r : Rw} {L : List (List Cell)} (hr : r.length = L.length) (hf : ∀ f ∈ r, f ∈ FA) (hL : L.length < 900) (hl : ∀ l ∈ L, l.length < 900 ∧ ∀ c ∈ l, CellP p c) (q : Pl) :
    ∃ (ss : List Loss) (q' : Pl), R_stop [encG (p, k, pts), encRow r, encRd L, .int 2] q = some (.tuple (ss.map encLo), q') ∧ ss.length = L.length ∧ ∀ (i : Nat) (l : List Cell) (s : Loss), L[i]? = some l → ss[i]? = some s → LossP p l s := by
  have hR : R_stop [encG (p, k, pts), encRow r, encRd L, .int 2] q = outQ (runS t_stop c_stop [.pool, .val (encG (p, k, pts)), .val (encRow r), .val (encRd L), .val (.int 2), .non, .non, .non, .non, .non, .non, .non, .non, .non] (some q)) := rfl
  rw [hR, c_stop_eq]
  obtain ⟨ρ', q', e, ss, s6, s7, s8, s9, s10, s11, s12, s13, rfl, h1, h2⟩ := forGo_invQ (f := fun d ρ1 q => ((Tg.tup (.cons (.n 6) (.cons (.n 7) .nil))).asg d ρ1).bind fun ρ2 => runS t_stop stB0 ρ2 q) (zipD (r.map encFa) (L.map encCs))
    (fun i ρ => ∃ (ss : List Loss) (s6 s7 s8 s9 s10 s11 s12 s13 : Slot), ρ = [.pool, .val (encG (p, k, pts)), .val (encRow r), .val (encRd L), .val (.int 2), .own (ss.map encLo), s6, s7, s8, s9, s10, s11, s12, s13] ∧ ss.length = i ∧ ∀ (j : Nat) (l : List Cell) (s : Loss), L[j]? = some l → ss[j]? = some s → LossP p l s)
    (fun i d hd ρ q ⟨ss, s6, s7, s8, s9, s10, s11, s12, s13, e, h1, h2⟩ => by
      subst e
      obtain ⟨a, b, e1, e2, rfl⟩ := zip_at hd
      rw [List.getElem?_map] at e1 e2
      obtain ⟨f, g1, rfl⟩ := Option.map_eq_some_iff.mp e1
      obtain ⟨l, g2, rfl⟩ := Option.map_eq_some_iff.mp e2
      have hi : i < L.length := (List.getElem?_eq_some_iff.mp g2).1
      obtain ⟨l1, l2⟩ := hl l (List.mem_of_getElem? g2)
      obtain ⟨s, q', s8', s9', s10', s11', s12', s13', hs, hst⟩ := stop_step G (hf f (List.mem_of_getElem? g1)) l1 l2 (v2 := .val (encRow r)) (v3 := .val (encRd L)) (s8 := s8) (s9 := s9) (s10 := s10) (s11 := s11) (s12 := s12) (s13 := s13) (acc := ss.map encLo) (by rw [List.length_map]; omega) q
      refine ⟨_, q', by simpa [Tg.asg] using hst, ss ++ [s], .val (encFa f), .val (encCs l), s8', s9', s10', s11', s12', s13', by simp, by simp [h1], fun j l' s' e3 e4 => ?_⟩
      by_cases hj : j < ss.length
      · rw [List.getElem?_append_left hj] at e4
        exact h2 j l' s' e3 e4
      · rw [List.getElem?_append_right (by omega)] at e4
        have : j - ss.length = 0 := by
          have := (List.getElem?_eq_some_iff.mp e4).1
          simp at this
          omega
        have hj2 : j = i := by omega
        rw [this] at e4
        simp at e4
        subst e4
        rw [hj2, g2] at e3
        cases e3
        exact hs)
    [.pool, .val (encG (p, k, pts)), .val (encRow r), .val (encRd L), .val (.int 2), .own [], .non, .non, .non, .non, .non, .non, .non, .non] q ⟨[], .non, .non, .non, .non, .non, .non, .non, .non, rfl, rfl, fun j l s _ h => by simp at h⟩
  rw [zip_len (by simp [hr]), List.length_map] at h1
  refine ⟨ss, q', ?_, h1, h2⟩
  generalize stB0 = B at e ⊢
  generalize (Tg.tup _) = TG at e ⊢
  have hrow : encRow r = .tuple (r.map encFa) := rfl
  have hrd : encRd L = .tuple (L.map encCs) := rfl
  rw [hrow, hrd] at e ⊢
  simp [runS, run, dOf, lOf, toD, e, Out.then, freeze1, fnD, outQ]
def spB : S := (.asg 5 (.bin .sub (.bin .sub (.fn .len (.cons (.v 3) .nil)) (.ix (.v 4) (.k (.int 0)))) (.fn .len (.cons (.ix (.v 4) (.k (.int 1))) .nil))) (.app 2 (.bin .add (.slTo (.v 3) (.v 5)) (.ix (.v 4) (.k (.int 1)))) .nil))
theorem sp_step {v0 v1 s5 : Slot} {l : List Cell} {s : Loss} {acc : List D} (hs : s.1 + s.2.length ≤ l.length) (hl : l.length < 900) (hacc : acc.length < 1000) :
    ∃ s5', runS t_stopped spB [v0, v1, .own acc, .val (encCs l), .val (encLo s), s5] none = some (.nx [v0, v1, .own (acc ++ [encCs (l.take (l.length - s.1 - s.2.length) ++ s.2)]), .val (encCs l), .val (encLo s), s5'] none) := by
  obtain ⟨g, w⟩ := s
  simp only at hs
  have e1 : (l.length : Int) - (g : Int) - (w.length : Int) = ((l.length - g - w.length : Nat) : Int) := by omega
  refine ⟨.val (.int ((l.length - g - w.length : Nat) : Int)), ?_⟩
  have hlo : encLo (g, w) = .tuple [.int (g : Nat), .tuple (w.map encC)] := rfl
  have hCs : ∀ l, encCs l = .tuple (l.map encC) := fun _ => rfl
  rw [hlo, hCs l, hCs (_ ++ _), List.map_append, List.map_take]
  have e2 : cutD (l.map encC) none (some ((l.length - g - w.length : Nat) : Int)) = (l.map encC).take (l.length - g - w.length) := cut_to _ _
  have e3 : fnD .len [.tuple (l.map encC)] = some (.val (.int ((l.length : Nat) : Int))) := by
    show some (Slot.val (.int ((l.map encC).length : Nat))) = _
    rw [List.length_map]
  have e4 : fnD .len [.tuple (w.map encC)] = some (.val (.int ((w.length : Nat) : Int))) := by
    show some (Slot.val (.int ((w.map encC).length : Nat))) = _
    rw [List.length_map]
  have e5 : ((l.map encC).take (l.length - g - w.length)).length + (w.map encC).length ≤ 100000 := by
    rw [List.length_take, List.length_map, List.length_map]
    omega
  generalize l.map encC = XL at *
  generalize w.map encC = XW at *
  unfold spB
  simp only [runS, run, dOf, lOf, iOf, sOf, toD, List.getElem?_cons_succ, List.getElem?_cons_zero, Option.bind_some, Option.map_some, ix0, ix1, e3, e4, binD, e1, e2, if_pos e5, List.length_cons, List.length_nil, Nat.reduceAdd, Nat.reduceLT, if_true, List.set_cons_succ, List.set_cons_zero, if_pos (show acc.length < 100000 by omega)]
theorem stopped_eq {L : List (List Cell)} {ss : List Loss} (hs : ss.length = L.length) (hL : L.length < 900) (h : ∀ (i : Nat) (l : List Cell) (s : Loss), L[i]? = some l → ss[i]? = some s → LossP p l s) (hl : ∀ l ∈ L, l.length < 900 ∧ ∀ c ∈ l, CellP p c) {most : Nat} (hm : ∀ l ∈ L, l.length ≤ most) :
    ∃ L' : List (List Cell), R_stopped [encRd L, .tuple (ss.map encLo)] = some (encRd L') ∧ L'.length = L.length ∧ ∀ l ∈ L', l.length ≤ most ∧ ∀ c ∈ l, CellP p c := by
  have hR : R_stopped [encRd L, .tuple (ss.map encLo)] = outD (runS t_stopped c_stopped [.val (encRd L), .val (.tuple (ss.map encLo)), .non, .non, .non, .non] none) := rfl
  have hC : c_stopped = (.asg 2 (.lst .nil) (.for (.tup (.cons (.n 3) (.cons (.n 4) .nil))) (.zip (.v 0) (.v 1)) spB (.frz 2 (.ret (.fn .tup (.cons (.v 2) .nil)))))) := rfl
  rw [hR, hC]
  obtain ⟨ρ', e, L', s3, s4, s5, rfl, h1, h2⟩ := forGo_inv (p := none) (f := fun d ρ1 q => ((Tg.tup (.cons (.n 3) (.cons (.n 4) .nil))).asg d ρ1).bind fun ρ2 => runS t_stopped spB ρ2 q) (zipD (L.map encCs) (ss.map encLo))
    (fun i ρ => ∃ (L' : List (List Cell)) (s3 s4 s5 : Slot), ρ = [.val (encRd L), .val (.tuple (ss.map encLo)), .own (L'.map encCs), s3, s4, s5] ∧ L'.length = i ∧ ∀ l ∈ L', l.length ≤ most ∧ ∀ c ∈ l, CellP p c)
    (fun i d hd ρ ⟨L', s3, s4, s5, e, h1, h2⟩ => by
      subst e
      obtain ⟨a, b, e1, e2, rfl⟩ := zip_at hd
      rw [List.getElem?_map] at e1 e2
      obtain ⟨l, g1, rfl⟩ := Option.map_eq_some_iff.mp e1
      obtain ⟨s, g2, rfl⟩ := Option.map_eq_some_iff.mp e2
      have hi : i < L.length := (List.getElem?_eq_some_iff.mp g1).1
      obtain ⟨l1, l2⟩ := hl l (List.mem_of_getElem? g1)
      obtain ⟨p1, p2⟩ := h i l s g1 g2
      obtain ⟨s5', hst⟩ := sp_step (v0 := .val (encRd L)) (v1 := .val (.tuple (ss.map encLo))) (s5 := s5) (acc := L'.map encCs) p1 l1 (by rw [List.length_map]; omega)
      refine ⟨_, .inl (by simpa [Tg.asg] using hst), L' ++ [l.take (l.length - s.1 - s.2.length) ++ s.2], .val (encCs l), .val (encLo s), s5', by simp, by simp [h1], fun l' hl' => ?_⟩
      rcases List.mem_append.mp hl' with h' | h'
      · exact h2 l' h'
      · rw [List.mem_singleton.mp h']
        have := hm l (List.mem_of_getElem? g1)
        refine ⟨by rw [List.length_append, List.length_take]; omega, fun c hc => ?_⟩
        rcases List.mem_append.mp hc with h'' | h''
        · exact l2 c (List.mem_of_mem_take h'')
        · exact p2 c h'')
    [.val (encRd L), .val (.tuple (ss.map encLo)), .own [], .non, .non, .non] ⟨[], .non, .non, .non, rfl, rfl, fun l h => by cases h⟩
  rw [zip_len (by simp [hs]), List.length_map, hs] at h1
  refine ⟨L', ?_, h1, h2⟩
  generalize spB = B at e ⊢
  generalize (Tg.tup _) = TG at e ⊢
  have hrd : encRd L = .tuple (L.map encCs) := rfl
  rw [hrd] at e ⊢
  simp [runS, run, dOf, lOf, toD, e, Out.then, freeze1, fnD, outD, encRd]
/-! ### the reading -/
theorem upto_mem {v : Int} (h0 : 0 ≤ v) (h1 : v < (p : Int)) : v ∈ uptoN p := List.mem_map.mpr ⟨v.toNat, List.mem_range.mpr (by omega), by omega⟩
def RdP (p : Nat) (m most : Nat) (L : List (List Cell)) : Prop := L.length = m ∧ ∀ l ∈ L, l.length ≤ most ∧ ∀ c ∈ l, (c.1 = 0 ∨ c.1 = 1) ∧ CellP p c
theorem batchX (G : GroundF p k pts) {d : D} (h : BatchD (p : Nat) (k : Nat) d) : ∃ x ∈ Xs p k, d = encT x := by
  obtain ⟨l, rfl, h1, h2⟩ := h
  refine ⟨l, (rowsK_mem k l).mpr ⟨by omega, fun m hm => upto_mem (h2 m hm).1 (h2 m hm).2⟩, rfl⟩
theorem wov_cells (G : GroundF p k pts) {x0 x1 : List Int} {w : List (List Int)} : ∀ (t : List Int) (a b : Nat) (c : Cell), c ∈ wovS p w x0 x1 a b t → CellP p c
  | [], _, _, c, h => by cases h
  | n :: t, a, b, c, h => by
    have hp := G.p23
    have hv : ∀ x j, 0 ≤ valI p w x j ∧ valI p w x j < (p : Int) := by
      intro x j
      unfold valI
      split
      · exact ⟨Int.emod_nonneg _ (by omega), Int.emod_lt_of_pos _ (by omega)⟩
      · exact ⟨Int.le_refl _, by omega⟩
    unfold wovS at h
    split at h
    · rcases List.mem_cons.mp h with rfl | h
      · exact hv _ _
      · exact wov_cells G t _ _ c h
    · rcases List.mem_cons.mp h with rfl | h
      · exact hv _ _
      · exact wov_cells G t _ _ c h
theorem wovA_mem {x0 x1 : List Int} : ∀ (pts : List Int) (W : List (List Int)) (l : List Cell), l ∈ wovA p k x0 x1 pts W → ∃ pt t, t ∈ W ∧ l = wovS p (wpt p k pt) x0 x1 0 0 t
  | [], _, _, h => by cases h
  | _ :: _, [], _, h => by cases h
  | pt :: pts, t :: W, l, h => by
    unfold wovA at h
    rcases List.mem_cons.mp h with rfl | h
    · exact ⟨pt, t, List.mem_cons_self, rfl⟩
    · obtain ⟨pt', t', h1, h2⟩ := wovA_mem pts W l h
      exact ⟨pt', t', List.mem_cons_of_mem _ h1, h2⟩
theorem rt0 : t_reading.tq[0]? = some (("_law_draw" : Str), R_draw) := rfl
theorem rt1 : t_reading.tq[1]? = some (("_law_batch" : Str), R_batch) := rfl
theorem rt2 : t_reading.tq[2]? = some (("_law_stop" : Str), R_stop) := rfl
theorem rt3 : t_reading.tq[3]? = some (("_law_pick" : Str), R_pick) := rfl
theorem rb0 : t_reading.tb[0]? = some (("_law_woven" : Str), R_woven) := rfl
theorem rb1 : t_reading.tb[1]? = some (("_law_stopped" : Str), R_stopped) := rfl
def rdA : C := (.fn .tup (.cons (.lc (.fn .tup (.cons (.lc (.tup (.cons (.v 7) (.cons (.callQ 0 0 (.cons (.ix (.v 1) (.k (.int 0))) .nil)) .nil))) (.n 7) (.seq (.v 6)) [("_law_b", 7)]) .nil)) (.n 6) (.seq (.v 3)) [("_law_tape", 6)]) .nil))
def rdB : C := (.fn .tup (.cons (.lc (.fn .tup (.cons (.lc (.tup (.cons (.bin .mod (.fn .int (.cons (.ix (.v 9) (.k (.int 0))) .nil)) (.k (.int 2))) (.cons (.ix (.v 9) (.k (.int 1))) .nil))) (.n 9) (.seq (.v 8)) [("_law_cell", 9)]) .nil)) (.n 8) (.seq (.v 5)) [("_law_cells", 8)]) .nil))
theorem c_reading_eq : c_reading = (.ite (.cmp .eq (.callQ 0 0 (.cons (.k (.int 4)) .nil)) (.k (.int 0))) (.ret rdA) .nil (.asg 4 (.call 0 (.cons (.v 1) (.cons (.tup (.cons (.callQ 1 0 (.cons (.v 1) .nil)) (.cons (.callQ 1 0 (.cons (.v 1) .nil)) .nil))) (.cons (.v 3) .nil)))) (.asg 5 (.call 1 (.cons (.v 4) (.cons (.callQ 2 0 (.cons (.v 1) (.cons (.callQ 3 0 (.cons (.v 2) .nil)) (.cons (.v 4) (.cons (.k (.int 2)) .nil))))) .nil))) (.ret rdB)))) := rfl
theorem rdA_ok (G : GroundF p k pts) {W : List (List Int)} {most : Nat} {v2 : Slot} (hW1 : W.length < 900) (hW : ∀ t ∈ W, t.length ≤ most ∧ bin t) (hm : most ≤ 3) (q : Pl) :
    ∃ L q', run t_reading rdA [.pool, .val (encG (p, k, pts)), v2, .val (encW W), .non, .non, .non, .non, .non, .non] (some q) = some (.val (encRd L), some q') ∧ RdP p W.length most L := by
  have hp := G.p23
  have hG : encG (p, k, pts) = .tuple [.int (p : Nat), .int (k : Nat), encT pts] := rfl
  have inner : ∀ t ∈ W, ∀ q : Pl, ∃ y q', dOf (run t_reading (.fn .tup (.cons (.lc (.tup (.cons (.v 7) (.cons (.callQ 0 0 (.cons (.ix (.v 1) (.k (.int 0))) .nil)) .nil))) (.n 7) (.seq (.v 6)) [("_law_b", 7)]) .nil)) [.pool, .val (encG (p, k, pts)), v2, .val (encW W), .non, .non, .val (encT t), .non, .non, .non] (some q)) = some (y, some q') ∧ ∃ l : List Cell, y = encCs l ∧ l.length ≤ most ∧ ∀ c ∈ l, (c.1 = 0 ∨ c.1 = 1) ∧ CellP p c := by
    intro t ht q
    obtain ⟨t1, t2⟩ := hW t ht
    obtain ⟨ys, q2, h1, h2, h3⟩ := run_lc_tot (T := t_reading) (elt := (.tup (.cons (.v 7) (.cons (.callQ 0 0 (.cons (.ix (.v 1) (.k (.int 0))) .nil)) .nil)))) (tg := .n 7) (it := .seq (.v 6)) (own := [("_law_b", 7)]) (ρ := [.pool, .val (encG (p, k, pts)), v2, .val (encW W), .non, .non, .val (encT t), .non, .non, .non]) (p := some q) (P := fun y => ∃ c : Cell, y = encC c ∧ (c.1 = 0 ∨ c.1 = 1) ∧ CellP p c) (t.map .int) q
      rfl (by rw [List.length_map]; omega) fun d hd => ⟨_, rfl, fun q => by
        obtain ⟨n, hn, rfl⟩ := List.mem_map.mp hd
        obtain ⟨v, q', e, a, b⟩ := draw_ok (p : Nat) (by omega) (by omega) q
        refine ⟨encC (n, v), q', ?_, (n, v), rfl, t2 n hn, a, b⟩
        rw [hG]
        simp [run, lOf, dOf, sOf, iOf, toD, wipeS, rt0, ix0, e, encC]⟩
    obtain ⟨l, rfl, hl⟩ := gen_of h3
    refine ⟨encCs l, q2, ?_, l, rfl, ?_, hl⟩
    · generalize (C.lc _ _ _ _) = LC at h1 ⊢
      simp [run, lOf, dOf, toD, h1, fnD, encCs]
    · rw [List.length_map, List.length_map] at h2
      omega
  obtain ⟨ys, q2, h1, h2, h3⟩ := run_lc_tot (T := t_reading) (elt := (.fn .tup (.cons (.lc (.tup (.cons (.v 7) (.cons (.callQ 0 0 (.cons (.ix (.v 1) (.k (.int 0))) .nil)) .nil))) (.n 7) (.seq (.v 6)) [("_law_b", 7)]) .nil))) (tg := .n 6) (it := .seq (.v 3)) (own := [("_law_tape", 6)]) (ρ := [.pool, .val (encG (p, k, pts)), v2, .val (encW W), .non, .non, .non, .non, .non, .non]) (p := some q) (P := fun y => ∃ l : List Cell, y = encCs l ∧ l.length ≤ most ∧ ∀ c ∈ l, (c.1 = 0 ∨ c.1 = 1) ∧ CellP p c) (W.map encT) q
    rfl (by rw [List.length_map]; omega) fun d hd => ⟨_, rfl, fun q => by
      obtain ⟨t, ht, rfl⟩ := List.mem_map.mp hd
      exact inner t ht q⟩
  obtain ⟨L, rfl, hL⟩ := gen_of h3
  refine ⟨L, q2, ?_, by simpa using h2, hL⟩
  unfold rdA
  generalize (C.lc _ (.n 6) _ _) = LC at h1 ⊢
  simp [run, lOf, dOf, toD, h1, fnD, encRd]
theorem rdB_ok {L : List (List Cell)} {most : Nat} {v0 v1 v2 v3 v4 : Slot} (hL1 : L.length < 900) (hL : ∀ l ∈ L, l.length ≤ most ∧ ∀ c ∈ l, CellP p c) (hm : most ≤ 3) (q : Pl) :
    ∃ L' q', run t_reading rdB [v0, v1, v2, v3, v4, .val (encRd L), .non, .non, .non, .non] (some q) = some (.val (encRd L'), some q') ∧ RdP p L.length most L' := by
  have inner : ∀ l ∈ L, ∀ q : Pl, ∃ y q', dOf (run t_reading (.fn .tup (.cons (.lc (.tup (.cons (.bin .mod (.fn .int (.cons (.ix (.v 9) (.k (.int 0))) .nil)) (.k (.int 2))) (.cons (.ix (.v 9) (.k (.int 1))) .nil))) (.n 9) (.seq (.v 8)) [("_law_cell", 9)]) .nil)) [v0, v1, v2, v3, v4, .val (encRd L), .non, .non, .val (encCs l), .non] (some q)) = some (y, some q') ∧ ∃ l : List Cell, y = encCs l ∧ l.length ≤ most ∧ ∀ c ∈ l, (c.1 = 0 ∨ c.1 = 1) ∧ CellP p c := by
    intro t ht q
    obtain ⟨t1, t2⟩ := hL t ht
    obtain ⟨ys, q2, h1, h2, h3⟩ := run_lc_tot (T := t_reading) (elt := (.tup (.cons (.bin .mod (.fn .int (.cons (.ix (.v 9) (.k (.int 0))) .nil)) (.k (.int 2))) (.cons (.ix (.v 9) (.k (.int 1))) .nil)))) (tg := .n 9) (it := .seq (.v 8)) (own := [("_law_cell", 9)]) (ρ := [v0, v1, v2, v3, v4, .val (encRd L), .non, .non, .val (encCs t), .non]) (p := some q) (P := fun y => ∃ c : Cell, y = encC c ∧ (c.1 = 0 ∨ c.1 = 1) ∧ CellP p c) (t.map encC) q
      rfl (by rw [List.length_map]; omega) fun d hd => ⟨_, rfl, fun q => by
        obtain ⟨c, hc, rfl⟩ := List.mem_map.mp hd
        refine ⟨encC (c.1 % 2, c.2), q, ?_, (c.1 % 2, c.2), rfl, by simp only; omega, t2 c hc⟩
        simp [run, lOf, dOf, sOf, iOf, toD, wipeS, ix0, ix1, encC, fnD, binD]⟩
    obtain ⟨l, rfl, hl⟩ := gen_of h3
    refine ⟨encCs l, q2, ?_, l, rfl, ?_, hl⟩
    · generalize (C.lc _ _ _ _) = LC at h1 ⊢
      rw [show encCs l = .tuple (l.map encC) from rfl]
      generalize encCs t = CT at h1 ⊢
      simp [run, lOf, dOf, toD, h1, fnD]
    · rw [List.length_map, List.length_map] at h2
      omega
  obtain ⟨ys, q2, h1, h2, h3⟩ := run_lc_tot (T := t_reading) (elt := (.fn .tup (.cons (.lc (.tup (.cons (.bin .mod (.fn .int (.cons (.ix (.v 9) (.k (.int 0))) .nil)) (.k (.int 2))) (.cons (.ix (.v 9) (.k (.int 1))) .nil))) (.n 9) (.seq (.v 8)) [("_law_cell", 9)]) .nil))) (tg := .n 8) (it := .seq (.v 5)) (own := [("_law_cells", 8)]) (ρ := [v0, v1, v2, v3, v4, .val (encRd L), .non, .non, .non, .non]) (p := some q) (P := fun y => ∃ l : List Cell, y = encCs l ∧ l.length ≤ most ∧ ∀ c ∈ l, (c.1 = 0 ∨ c.1 = 1) ∧ CellP p c) (L.map encCs) q
    rfl (by rw [List.length_map]; omega) fun d hd => ⟨_, rfl, fun q => by
      obtain ⟨t, ht, rfl⟩ := List.mem_map.mp hd
      exact inner t ht q⟩
  obtain ⟨L', rfl, hL'⟩ := gen_of h3
  refine ⟨L', q2, ?_, by simpa using h2, hL'⟩
  unfold rdB
  generalize (C.lc _ (.n 8) _ _) = LC at h1 ⊢
  rw [show encRd L' = .tuple (L'.map encCs) from rfl]
  generalize encRd L = RL at h1 ⊢
  simp [run, lOf, dOf, toD, h1, fnD]
theorem pick_okT (ds : List D) (h0 : 0 < ds.length) (h1 : ds.length < 1000) (q : Pl) : ∃ d q', R_pick [.tuple ds] q = some (d, q') ∧ d ∈ ds := by
  obtain ⟨d, q', h, h2, h3⟩ := draw_ok ds.length (by omega) (by omega) q
  obtain ⟨x, hx, e⟩ := at_lt h2 h3
  refine ⟨x, q', ?_, hx⟩
  have hst : startS n_pick (.pool :: [PyData.tuple ds].map .val) = [.pool, .val (.tuple ds)] := rfl
  show outQ (runS t_pick c_pick (startS n_pick (.pool :: [PyData.tuple ds].map .val)) (some q)) = _
  rw [hst]
  simp [c_pick, runS, run, t_pick, dOf, iOf, lOf, sOf, toD, fnD, h, e, outQ]
theorem reading_ok (G : GroundF p k pts) {bk : List Rw} {W : List (List Int)} {most : Nat} (hW1 : W.length = pts.length) (hW : ∀ t ∈ W, t.length ≤ most ∧ bin t) (hm : most ≤ 3) (hb : bk.length = 1 ∨ bk.length = 2) (hbr : ∀ r ∈ bk, r.length = pts.length ∧ ∀ f ∈ r, f ∈ FA) (q : Pl) :
    ∃ L q', R_reading [encG (p, k, pts), encBk bk, encW W] q = some (encRd L, q') ∧ RdP p pts.length most L := by
  have hm12 := G.m12
  have hp := G.p23
  have hR : R_reading [encG (p, k, pts), encBk bk, encW W] q = outQ (runS t_reading c_reading [.pool, .val (encG (p, k, pts)), .val (encBk bk), .val (encW W), .non, .non, .non, .non, .non, .non] (some q)) := rfl
  rw [hR, c_reading_eq]
  obtain ⟨d1, q1, h1, a1, b1⟩ := draw_ok 4 (by decide) (by decide) q
  by_cases e0 : d1 = 0
  · subst e0
    obtain ⟨L, q2, h2, h3⟩ := rdA_ok G (v2 := .val (encBk bk)) (by omega) hW hm q1
    rw [hW1] at h3
    refine ⟨L, q2, ?_, h3⟩
    generalize rdA = RA at h2 ⊢
    generalize rdB = RB
    simp [runS, run, lOf, dOf, bOf, toD, rt0, h1, cmpD, h2, Out.then, outQ]
  · have hpk : ((p : Nat) : Int) ≥ 2 ∧ ((p : Nat) : Int) ≤ 3 := by omega
    have hk12 := G.k12
    obtain ⟨dx0, q2, h2, x0d⟩ := batch_ok (p : Nat) (k : Nat) (encT pts) (by omega) (by omega) q1
    obtain ⟨dx1, q3, h3, x1d⟩ := batch_ok (p : Nat) (k : Nat) (encT pts) (by omega) (by omega) q2
    obtain ⟨x0, x0m, rfl⟩ := batchX G x0d
    obtain ⟨x1, x1m, rfl⟩ := batchX G x1d
    have hwov := woven_eq (p := p) (k := k) (pts := pts) (W := W) (x0 := x0) (x1 := x1) G.k12 (by omega) (by omega) (fun t ht => ⟨by have := (hW t ht).1; omega, (hW t ht).2⟩) (fun pt hpt => G.written hpt x0m) (fun pt hpt => G.written hpt x1m)
    have hwl : (wovA p k x0 x1 pts W).length = pts.length := by rw [wovA_len p k x0 x1 pts W (by omega), hW1]
    have hwc : ∀ l ∈ wovA p k x0 x1 pts W, l.length ≤ most ∧ ∀ c ∈ l, CellP p c := fun l hl => by
      obtain ⟨pt, t, ht, rfl⟩ := wovA_mem pts W l hl
      exact ⟨by rw [wov_len]; exact (hW t ht).1, fun c hc => wov_cells G t 0 0 c hc⟩
    obtain ⟨rd, q4, h4, rm⟩ := pick_okT (bk.map encRow) (by rw [List.length_map]; omega) (by rw [List.length_map]; omega) q3
    obtain ⟨r, hrm, rfl⟩ := List.mem_map.mp rm
    obtain ⟨r1, r2⟩ := hbr r hrm
    obtain ⟨ss, q5, h5, s1, s2⟩ := stop_eq G (r := r) (L := wovA p k x0 x1 pts W) (by omega) r2 (by omega) (fun l hl => ⟨by have := (hwc l hl).1; omega, (hwc l hl).2⟩) q4
    obtain ⟨L', h6, l1, l2⟩ := stopped_eq (p := p) s1 (by omega) s2 (fun l hl => ⟨by have := (hwc l hl).1; omega, (hwc l hl).2⟩) (most := most) fun l hl => (hwc l hl).1
    obtain ⟨L2, q6, h7, h8⟩ := rdB_ok (p := p) (v0 := .pool) (v1 := .val (encG (p, k, pts))) (v2 := .val (encBk bk)) (v3 := .val (encW W)) (v4 := .val (encRd (wovA p k x0 x1 pts W))) (L := L') (most := most) (by omega) l2 hm q5
    rw [l1, hwl] at h8
    refine ⟨L2, q6, ?_, h8⟩
    have hX : (PyData.tuple [encT x0, encT x1]) = encX [x0, x1] := rfl
    have hB : encBk bk = .tuple (bk.map encRow) := rfl
    have h2' : R_batch [encG (p, k, pts)] q1 = some (encT x0, q2) := h2
    have h3' : R_batch [encG (p, k, pts)] q2 = some (encT x1, q3) := h3
    have h4' : R_pick [encBk bk] q3 = some (encRow r, q4) := h4
    rw [hX.symm] at hwov
    generalize rdA = RA
    generalize rdB = RB at h7 ⊢
    generalize encG (p, k, pts) = GG at *
    generalize encBk bk = BB at *
    generalize encW W = WW at *
    generalize encRd L' = RL' at *
    generalize encRd (wovA p k x0 x1 pts W) = RW' at *
    generalize encRow r = RR at *
    generalize encT x0 = X0 at *
    generalize encT x1 = X1 at *
    simp [runS, run, lOf, dOf, bOf, toD, rt0, rt1, rt2, rt3, rb0, rb1, h1, cmpD, e0, h2', h3', hwov, h4', h5, h6, h7, Out.then, outQ]
end
end Fs
-- FsKk
/-! The law: True at every script. -/
namespace Fs
open PySem PySem.Spec PyProof.Rows L2
theorem tab_perm3 : (perms3.all fun l => decide ((2, 1, l.take 1) ∈ GL) && decide ((2, 1, l.take 2) ∈ GL) && decide ((2, 2, l.take 1) ∈ GL) && decide ((2, 2, l.take 2) ∈ GL)) = true := by decide +kernel
theorem tab_perm4 : (perms4.all fun l => decide ((3, 1, l.take 1) ∈ GL) && decide ((3, 1, l.take 2) ∈ GL)) = true := by decide +kernel
theorem ground_GL {p k : Int} {pts : List Int} (h : GroundOk p k pts) : ∃ P K : Nat, p = (P : Nat) ∧ k = (K : Nat) ∧ (P, K, pts) ∈ GL := by
  rcases h with ⟨⟨rfl, hk⟩, l, hl, hp⟩ | ⟨⟨rfl, rfl⟩, l, hl, hp⟩
  · have := List.all_eq_true.mp tab_perm3 l hl
    simp only [Bool.and_eq_true, decide_eq_true_eq] at this
    obtain ⟨⟨⟨a1, a2⟩, a3⟩, a4⟩ := this
    rcases hk with rfl | rfl
    · refine ⟨2, 1, rfl, rfl, ?_⟩
      rcases hp with rfl | rfl
      · exact a1
      · exact a2
    · refine ⟨2, 2, rfl, rfl, ?_⟩
      rcases hp with rfl | rfl
      · exact a3
      · exact a4
  · have := List.all_eq_true.mp tab_perm4 l hl
    simp only [Bool.and_eq_true, decide_eq_true_eq] at this
    refine ⟨3, 1, rfl, rfl, ?_⟩
    rcases hp with rfl | rfl
    · exact this.1
    · exact this.2
theorem bd_of {a : D} (h : a ∈ bdL) : ∃ u ∈ BD, a = oI u := by
  simp [bdL] at h
  rcases h with rfl | rfl | rfl
  · exact ⟨some 0, by simp [BD], rfl⟩
  · exact ⟨some 1, by simp [BD], rfl⟩
  · exact ⟨none, by simp [BD], rfl⟩
theorem row_of {n : Nat} {d : D} (h : RowD n d) : ∃ r : Rw, d = encRow r ∧ r.length = n ∧ ∀ f ∈ r, f ∈ FA := by
  obtain ⟨l, rfl, h1, h2⟩ := h
  obtain ⟨r, rfl, h3⟩ := gen_of (e := encFa) (Q := fun f => f ∈ FA) (ys := l) fun y hy => by
    obtain ⟨a, b, rfl, ha, hb⟩ := h2 y hy
    obtain ⟨u, hu, rfl⟩ := bd_of ha
    obtain ⟨w, hw, rfl⟩ := bd_of hb
    exact ⟨(u, w), rfl, List.mem_flatMap.mpr ⟨u, hu, List.mem_map.mpr ⟨w, hw, rfl⟩⟩⟩
  exact ⟨r, rfl, by simpa using h1, h3⟩
theorem lw0 : t_law.tb[0]? = some (("_law_worlds" : Str), R_worlds) := rfl
theorem lw1 : t_law.tb[1]? = some (("_law_due_right" : Str), R_due_right) := rfl
theorem lw2 : t_law.tb[2]? = some (("read" : Str), R_read) := rfl
theorem lq0 : t_law.tq[0]? = some (("_law_tiny" : Str), R_tiny) := rfl
theorem lq1 : t_law.tq[1]? = some (("_law_draw" : Str), R_draw) := rfl
theorem lq2 : t_law.tq[2]? = some (("_law_tapes" : Str), R_tapes) := rfl
theorem lq3 : t_law.tq[3]? = some (("_law_reading" : Str), R_reading) := rfl
def mxC : C := (.fn .max (.cons (.lc (.fn .len (.cons (.v 11) .nil)) (.n 11) (.seq (.v 6)) [("_law_cells", 11)]) .nil))
def lwB : S := (.asg 10 (.call 0 (.cons (.v 2) (.cons (.v 3) (.cons (.v 7) (.cons (.v 6) (.cons (.v 9) (.cons (.k (.int 2)) (.cons (.ite (.isN true (.v 7)) (.v 4) (.v 8)) .nil)))))))) (.ite (.not (.call 1 (.cons (.v 2) (.cons (.v 10) (.cons (.call 2 (.cons (.v 2) (.cons (.v 3) (.cons (.v 7) (.cons (.v 6) (.cons (.v 9) .nil)))))) .nil))))) (.ret (.k (.bool false))) .nil .nil))
def lwT : S := (.asg 8 mxC (.for (.n 9) (.rng1 (.k (.int 2))) lwB (.ret (.k (.bool true)))))
theorem c_law_eq : c_law = (.unp (.tup (.cons (.n 2) (.cons (.n 3) .nil))) (.callQ 0 1 .nil) (.asg 4 (.ite (.and (.cmp .eq (.fn .len (.cons (.ix (.v 2) (.k (.int 2))) .nil)) (.k (.int 1))) (.cmp .eq (.callQ 1 1 (.cons (.k (.int 4)) .nil)) (.k (.int 3)))) (.k (.int 3)) (.k (.int 2))) (.asg 5 (.callQ 2 1 (.cons (.fn .len (.cons (.ix (.v 2) (.k (.int 2))) .nil)) (.cons (.v 4) .nil))) (.asg 6 (.callQ 3 1 (.cons (.v 2) (.cons (.v 3) (.cons (.v 5) .nil)))) (.asg 7 (.ite (.cmp .eq (.callQ 1 1 (.cons (.k (.int 2)) .nil)) (.k (.int 0))) (.v 5) (.k .none)) lwT))))) := rfl
section
variable {p k : Nat} {pts : List Int} {L : List (List Cell)}
theorem mx_ok {v0 v1 v2 v3 v4 v5 v7 v8 v9 v10 v11 : Slot} {most : Nat} (h : L.length = 1 ∨ L.length = 2) (hm : ∀ l ∈ L, l.length ≤ most) (q : Pl) : ∃ n : Nat, run t_law mxC [v0, v1, v2, v3, v4, v5, .val (encRd L), v7, v8, v9, v10, v11] (some q) = some (.val (.int (n : Nat)), some q) ∧ n ≤ most ∧ ∀ l ∈ L, l.length ≤ n := by
  have hC : ∀ l, encCs l = .tuple (l.map encC) := fun _ => rfl
  rcases h with h | h
  · match L, h with
    | [a], _ =>
      refine ⟨a.length, ?_, hm a (by simp), fun l hl => by rw [List.mem_singleton.mp hl]; exact Nat.le_refl _⟩
      rw [show encRd [a] = .tuple [encCs a] from rfl, hC]
      simp [mxC, run, lOf, sOf, dOf, toD, lcGo, Tg.asg, wipeS, fnD, intsOf, maxI]
  · match L, h with
    | [a, b], _ =>
      have ha := hm a (by simp)
      have hb := hm b (by simp)
      refine ⟨max a.length b.length, ?_, by omega, fun l hl => by
        simp at hl
        rcases hl with rfl | rfl <;> omega⟩
      rw [show encRd [a, b] = .tuple [encCs a, encCs b] from rfl, hC, hC]
      have hx : (if (a.length : Int) < (b.length : Int) then (b.length : Int) else (a.length : Int)) = ((max a.length b.length : Nat) : Int) := by split <;> omega
      rw [← hx]
      simp [mxC, run, lOf, sOf, dOf, toD, lcGo, Tg.asg, wipeS, fnD, intsOf, maxI]
theorem law_tail (G : GroundF p k pts) (R : RdOk p pts L) {bk : List Rw} {st : Option (List (List Int))} (B : BkOk pts bk st) {most : Nat} {v0 v5 : Slot} (hm : most ≤ 3) (hl : ∀ l ∈ L, l.length ≤ most) (hst : ∀ W, st = some W → ∀ t ∈ W, t.length ≤ most) (q : Pl) :
    runS t_law lwT [v0, .pool, .val (encG (p, k, pts)), .val (encBk bk), .val (.int (most : Nat)), v5, .val (encRd L), .val (encSt st), .non, .non, .non, .non] (some q) = some (.rt (.bool true) (some q)) := by
  obtain ⟨n, h1, h2, h3⟩ := mx_ok (v0 := v0) (v1 := .pool) (v2 := .val (encG (p, k, pts))) (v3 := .val (encBk bk)) (v4 := .val (.int (most : Nat))) (v5 := v5) (v7 := .val (encSt st)) (v8 := .non) (v9 := .non) (v10 := .non) (v11 := .non) (L := L) (most := most) (by have := R.len; have := G.m12; omega) hl q
  have body : ∀ (b : Nat), b = 0 ∨ b = 1 → ∀ s10 : Slot, ∃ s10', runS t_law lwB [v0, .pool, .val (encG (p, k, pts)), .val (encBk bk), .val (.int (most : Nat)), v5, .val (encRd L), .val (encSt st), .val (.int (n : Nat)), .val (.int (b : Nat)), s10, .non] (some q) = some (.nx [v0, .pool, .val (encG (p, k, pts)), .val (encBk bk), .val (.int (most : Nat)), v5, .val (encRd L), .val (encSt st), .val (.int (n : Nat)), .val (.int (b : Nat)), s10', .non] (some q)) := by
    intro b hb s10
    cases hs : st with
    | none =>
      subst hs
      obtain ⟨those, told, e1, e2, e3⟩ := core G R B (most := n) hb (by omega) h3 (fun W hW => by cases hW)
      refine ⟨.val those, ?_⟩
      have hN : isNone (encSt none) = true := rfl
      generalize encG (p, k, pts) = GG at *
      generalize encBk bk = BB at *
      generalize encRd L = LL at *
      generalize encSt none = SS at *
      unfold lwB
      simp [runS, run, lOf, dOf, bOf, toD, lw0, lw1, lw2, hN, e1, e2, e3, Out.then]
    | some W =>
      subst hs
      obtain ⟨those, told, e1, e2, e3⟩ := core G R B (most := most) hb hm hl hst
      refine ⟨.val those, ?_⟩
      have hN : isNone (encSt (some W)) = false := rfl
      generalize encG (p, k, pts) = GG at *
      generalize encBk bk = BB at *
      generalize encRd L = LL at *
      generalize encSt (some W) = SS at *
      unfold lwB
      simp [runS, run, lOf, dOf, bOf, toD, lw0, lw1, lw2, hN, e1, e2, e3, Out.then]
  obtain ⟨s1, b1⟩ := body 0 (.inl rfl) .non
  obtain ⟨s2, b2⟩ := body 1 (.inr rfl) s1
  have hrg : rangeD 0 2 = [.int ((0 : Nat) : Int), .int ((1 : Nat) : Int)] := rfl
  unfold lwT
  generalize mxC = MC at h1 ⊢
  generalize lwB = BB at b1 b2 ⊢
  generalize encG (p, k, pts) = GG at *
  generalize encBk bk = BK at *
  generalize encRd L = LL at *
  generalize encSt st = SS at *
  rw [show ((0 : Nat) : Int) = 0 from rfl] at b1 hrg
  rw [show ((1 : Nat) : Int) = 1 from rfl] at b2 hrg
  simp [runS, h1, run, iOf, lOf, dOf, toD, small, hrg, forGo, Tg.asg, b1, b2, Out.then]
end
theorem lawOk : LawOk := by
  intro ns hns pA LA
  obtain ⟨pI, kI, pts, bkD, q1, h1, hg, hb, hrow⟩ := tiny_ok ⟨pA, LA, initA ns, initB ns, ns.drop 1⟩
  obtain ⟨p, k, rfl, rfl, hGL⟩ := ground_GL hg
  have G := groundF hGL
  obtain ⟨bk, rfl, hbk⟩ := gen_of (e := encRow) (Q := fun r => r.length = pts.length ∧ ∀ f ∈ r, f ∈ FA) (ys := bkD) fun y hy => by
    obtain ⟨r, rfl, a, b⟩ := row_of (hrow y hy)
    exact ⟨r, rfl, a, b⟩
  rw [List.length_map] at hb
  have hp := G.p23
  have hm12 := G.m12
  -- the greatest length
  have hmost : ∃ (most : Nat) (q2 : Pl), most ≤ 3 ∧ most + pts.length ≤ 4 ∧ run t_law (.ite (.and (.cmp .eq (.fn .len (.cons (.ix (.v 2) (.k (.int 2))) .nil)) (.k (.int 1))) (.cmp .eq (.callQ 1 1 (.cons (.k (.int 4)) .nil)) (.k (.int 3)))) (.k (.int 3)) (.k (.int 2))) [.non, .pool, .val (encG (p, k, pts)), .val (encBk bk), .non, .non, .non, .non, .non, .non, .non, .non] (some q1) = some (.val (.int (most : Nat)), some q2) := by
    obtain ⟨d, q2, e, a, b⟩ := draw_ok 4 (by decide) (by decide) q1
    rw [show encG (p, k, pts) = .tuple [.int (p : Nat), .int (k : Nat), .tuple (pts.map .int)] from rfl]
    rcases hm12 with hm | hm
    · by_cases hd : d = 3
      · exact ⟨3, q2, by omega, by omega, by simp [run, lOf, dOf, bOf, sOf, iOf, toD, ix2, fnD, cmpD, hm, lq1, e, hd]⟩
      · exact ⟨2, q2, by omega, by omega, by simp [run, lOf, dOf, bOf, sOf, iOf, toD, ix2, fnD, cmpD, hm, lq1, e, hd]⟩
    · exact ⟨2, q1, by omega, by omega, by simp [run, lOf, dOf, bOf, sOf, iOf, toD, ix2, fnD, cmpD, hm]⟩
  obtain ⟨most, q2, hm3, hm4, h2⟩ := hmost
  obtain ⟨ts, q3, h3, ht1, ht2⟩ := tapes_ok (pts.length : Nat) (most : Nat) (by omega) (by omega) q2
  obtain ⟨W, rfl, hW⟩ := gen_of (e := encT) (Q := fun t => t.length ≤ most ∧ bin t) (ys := ts) fun y hy => by
    obtain ⟨l, rfl, a, b⟩ := ht2 y hy
    exact ⟨l, rfl, by omega, b⟩
  have hWl : W.length = pts.length := by
    rw [List.length_map] at ht1
    omega
  obtain ⟨L, q4, h4, hL1, hL2⟩ := reading_ok G (bk := bk) (W := W) (most := most) hWl hW hm3 hb hbk q3
  have R : RdOk p pts L := ⟨hL1, fun l hl => by have := (hL2 l hl).1; omega, fun l hl c hc => ((hL2 l hl).2 c hc).1, fun l hl c hc => upto_mem ((hL2 l hl).2 c hc).2.1 ((hL2 l hl).2 c hc).2.2⟩
  obtain ⟨d5, q5, h5, a5, b5⟩ := draw_ok 2 (by decide) (by decide) q4
  have hst : ∃ st : Option (List (List Int)), (st = none ∨ st = some W) ∧ encSt st = (if d5 = 0 then encW W else .none) := by
    by_cases e : d5 = 0
    · exact ⟨some W, .inr rfl, by rw [if_pos e]; rfl⟩
    · exact ⟨none, .inl rfl, by rw [if_neg e]; rfl⟩
  obtain ⟨st, hst1, hst2⟩ := hst
  have B : BkOk pts bk st := ⟨fun e => by subst e; simp at hb, by omega, hbk, fun W' hW' => by
    rcases hst1 with rfl | rfl
    · cases hW'
    · cases hW'
      exact ⟨hWl, fun t ht => ⟨by have := (hW t ht).1; omega, (hW t ht).2⟩⟩⟩
  have htail := law_tail G R B (most := most) (v0 := .non) (v5 := .val (encW W)) hm3 (fun l hl => (hL2 l hl).1) (fun W' hW' t ht => by
    rcases hst1 with rfl | rfl
    · cases hW'
    · cases hW'
      exact (hW t ht).1) q5
  refine ⟨some q5, ?_⟩
  have h1' : R_tiny [] ⟨pA, LA, initA ns, initB ns, ns.drop 1⟩ = some (.tuple [encG (p, k, pts), encBk bk], q1) := h1
  have h3' : R_tapes [.int (pts.length : Nat), .int (most : Nat)] q2 = some (encW W, q3) := h3
  have hln : ∀ (v3 v4 v5 v6 v7 v8 v9 v10 v11 : Slot) (q : PSt), run t_law (.fn .len (.cons (.ix (.v 2) (.k (.int 2))) .nil)) [.non, .pool, .val (encG (p, k, pts)), v3, v4, v5, v6, v7, v8, v9, v10, v11] q = some (.val (.int (pts.length : Nat)), q) := fun v3 v4 v5 v6 v7 v8 v9 v10 v11 q => by
    rw [show encG (p, k, pts) = .tuple [.int (p : Nat), .int (k : Nat), .tuple (pts.map .int)] from rfl]
    simp [run, lOf, dOf, sOf, iOf, toD, ix2, fnD]
  have hsta : ∀ (v6 v8 v9 v10 v11 : Slot), run t_law (.ite (.cmp .eq (.callQ 1 1 (.cons (.k (.int 2)) .nil)) (.k (.int 0))) (.v 5) (.k .none)) [.non, .pool, .val (encG (p, k, pts)), .val (encBk bk), .val (.int (most : Nat)), .val (encW W), v6, .non, v8, v9, v10, v11] (some q4) = some (.val (encSt st), some q5) := fun v6 v8 v9 v10 v11 => by
    rw [hst2]
    by_cases e : d5 = 0 <;> simp [run, lOf, dOf, bOf, toD, lq1, h5, cmpD, e]
  rw [c_law_eq]
  generalize (C.fn .len (.cons (.ix (.v 2) (.k (.int 2))) .nil)) = LN at h2 hln ⊢
  generalize (C.ite _ (.k (.int 3)) (.k (.int 2))) = MO at h2 ⊢
  generalize (C.ite _ (.v 5) (.k .none)) = ST at hsta ⊢
  generalize lwT = LT at htail ⊢
  clear hst2 h1 h3
  generalize encG (p, k, pts) = GG at *
  generalize encBk bk = BK at *
  generalize encRd L = LL at *
  generalize encSt st = SS at *
  generalize encW W = WW at *
  generalize (⟨pA, LA, initA ns, initB ns, ns.drop 1⟩ : Pl) = q0 at h1' ⊢
  show runS t_law _ [.non, .pool, .non, .non, .non, .non, .non, .non, .non, .non, .non, .non] _ = _
  simp [runS, run, lOf, dOf, toD, lq0, h1', Tg.asg, h2, hln, lq2, h3', lq3, h4, hsta, htail]
end Fs
theorem PySem.Challenge.cw_firstsafe_k42_whole_read_beside_all_worl_holds : PySem.Challenge.rw_firstsafe_k42_whole_read_beside_all_worl.Holds :=
  Fs.row_holds Fs.lawOk
